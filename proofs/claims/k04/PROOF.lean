import PyProof.Rows.All
import Wide.All
import OpenK.AllK
import Wide.FinOn
import KE.KStateDown
import KE.KExcIs
import KE.KTryMore
import HandS.ForExc
import HandS.IsInst
import HandS.TryMany
import HandS.ExcField
import HandS.ExcIs
import PyProof.CollectIter
import PyProof.TupleIter
import PyProof.WalksMore
import HandS.Defaults
import HandS.Head0
import HandS.Head1
import HandS.Head2
import HandS.HeadEnd
import HandS.HeadHook1
import PyProof.ReprRoads
import HandS.HeadHook2
import HandS.HeadHook3
import HandS.HeadHook4
import PySem.Challenge.RW_lastingrun_k04_whole_read_and_write
import PySem.PyData
import PyProof.Lay0
import PyProof.P3Statements
import HandS.ReplaceLit
import HandS.ReplaceDef
import HandS.Codes
import HandS.RaiseMore
import HandS.Flow
import HandS.Comp
import HandS.Iter
import HandS.Text
import HandS.StrMore
import HandS.FStr
import HandS.ExcInit
import HandS.More
import HandS.WrittenGet
import KE.IntTextLaws
import HandS.ReplaceList
set_option Elab.async false
set_option linter.all false
set_option maxRecDepth 100000
set_option maxHeartbeats 4000000
namespace W4
open PySem PySem.Spec L2
/-- an exception that was kept in a name -/
def kep (a : Addr) (c : Value) (d : Option Addr) : HO := .ext fun hp => ∃ (o : Obj) (fs : Array Value), hp.get? a = some o ∧ Zc c d o ∧ o.data = .fields fs
section
variable {X : Cx} {pins : List (Addr × Obj)} {σ : St} {H : Hp} {s : Shared}
theorem adopt {a : Addr} {oe : Obj} {c : Value} {d : Option Addr} (J : Inv X pins σ H s) (there : s.heap.get? a = some oe) (z : Zc c d oe) {fs : Array Value} (df : oe.data = .fields fs) (na : H a = none) (nl : a ≠ X.env.locals)
    (n0 : X.s_0.heap.get? a = none) (np : ∀ p ∈ X.pn ++ pins, p.1 ≠ a) : Inv X pins σ (upd H a (kep a c d)) s := by
  have ne : ∀ {b : Addr} {u : HO}, H b = some u → b ≠ a := fun {b u} q e => by
    rw [e, na] at q
    cases q
  refine ⟨J.ok, J.os, J.bare, ⟨J.base.keep, J.base.slot, fun b o q n hx => ?_, J.base.there, fun b xs q => ?_, fun b o u q => ?_, fun b ps q => ?_⟩, J.loc, J.cell, ?_, fun x c e => ?_, fun p hp => ?_, fun b u q => ?_, J.len⟩
  · have hb : b ≠ a := fun e => by
      rw [e, n0] at q
      cases q
    rw [upd_ne hb]
    exact J.base.free b o q n hx
  · have q' := J.base.tups b xs q
    rw [upd_ne (ne q')]
    exact q'
  · have q' := J.base.frzs b o u q
    rw [upd_ne (ne q')]
    exact q'
  · obtain ⟨more, q'⟩ := J.base.tbls b ps q
    exact ⟨more, by rw [upd_ne (ne q')]; exact q'⟩
  · exact (upd_ne (Ne.symm nl)).trans J.free
  · have hc : c ≠ a := fun z => by
      obtain ⟨v, o, h1, h2⟩ := J.cell x c e
      rw [z, there] at h1
      cases h1
      rw [df] at h2
      cases h2
    rw [upd_ne hc]
    exact J.freeC x c e
  · obtain ⟨h1, h2, h3⟩ := J.pin p hp
    exact ⟨h1, by rw [upd_ne (np p hp)]; exact h2, h3⟩
  · by_cases hb : b = a
    · subst hb
      rw [upd_same] at q
      cases q
      exact ⟨⟨oe, fs, there, z, df⟩, ⟨oe, there⟩, fun h1 h2 ⟨o, gs, y1, y2, y3⟩ k => ⟨o, gs, k _ y1, y2, y3⟩⟩
    · rw [upd_ne hb] at q
      exact (J.hok b u q).stay (fun _ _ _ y => y) (fun c y => by rw [upd_ne (ne y)]; exact y) (fun c xs y => by rw [upd_ne (ne y)]; exact y)
end
/-- what the clause wishes: the exception is of the class cls0, its suite is ts; behind it the exception stands in the heap -/
def wKeep (c0 : Value) (i : Nat) (ts : Addr → Value → Option Addr → TS) (D : Ends) : WX := fun cls d σ H => cls = c0 ∧ ∀ a, H a = none →
  ts a cls d { nx := fun σ' H' => D.nx (σ'.set i none) (upd H' a (kep a cls d)), rt := fun _ _ => False } (σ.set i (some (.ref a))) H
theorem fly_push {B : Heap} {l : List Env} {a : Addr} {Z : Obj → Prop} {h : Heap} (f : HandSPX.FlyingZ B l a Z h) (o : Obj) : HandSPX.FlyingZ B l a Z (h.push o) := by
  obtain ⟨h1, h2, h3, oe, vs, T, oT, ts, e1, e2, e3, e4, e5, e6, e7, e8, e9⟩ := f
  have k : ∀ b u, h.get? b = some u → (h.push o).get? b = some u := fun b u e => Heap.get?_push_of_some o e
  exact ⟨fun b u e => k b u (h1 b u e), h2, Heap.FunFrames.of_keeps (fun b u e _ => ⟨u, k b u e, rfl⟩) h3, oe, vs, T, oT, ts, k _ _ e1, e2, e3, e4, e5, e6, k _ _ e7, e8, e9⟩
section
variable {X : Cx} {x1 x2 x3 n : Str} {c1 c2 c3 c0 : Value} {i : Nat} {body suite : List Stmt} {b₀ : Stmt} {q1 q2 q3 np pos pos' : Pos} {tb : WX → TS} {ts : Addr → Value → Option Addr → TS} {xx : Int}
/-- try: body / except (x1, x2, x3) as n: suite, where all that comes is of the class c0 -/
theorem ps_try_keep {kk : Nat} (hstk : X.stack = X.env :: X.outer) (hfrm : X.env.frame = some X.env.locals) (hex : X.ex = []) (nd : X.N.Nodup) (hi : X.N[i]? = some n) (hln : X.env.kindOf n = some .local)
    (g1 : Gl X x1 ∧ (x1 == ("__debug__" : Str)) = false ∧ X.mg x1 = some c1) (g2 : Gl X x2 ∧ (x2 == ("__debug__" : Str)) = false ∧ X.mg x2 = some c2) (g3 : Gl X x3 ∧ (x3 == ("__debug__" : Str)) = false ∧ X.mg x3 = some c3)
    (hit : PySem.W.exmAny X.K c0 [c1, c2, c3] = some true)
    (hbody : ∀ (W : WX) (pn : List (Addr × Obj)) (xe : Value → Shared → Prop), Takes (X.tr pn xe) W → PassesOwn (model X.prog X.w) X.A X.env xe → PSs (X.tr pn xe) body (tb W))
    (hsuite : ∀ (a : Addr) (oe : Obj) (cls : Value) (d : Option Addr) (pn : List (Addr × Obj)), Zc cls d oe → (∃ vs, oe.data = .fields vs) → PSs (X.suite a ((a, oe) :: pn)) (b₀ :: suite) (ts a cls d)) :
    PS X (.Try body [.ExceptHandler (some (.Tuple [.Name x1 q1, .Name x2 q2, .Name x3 q3] kk np)) (some n) (b₀ :: suite) pos'] [] [] pos) (fun D σ H => tb (wKeep c0 i ts D) D σ H) := by
  refine ⟨fun pins s σ H D I0 h0 => ?_⟩
  have okX := I0.ok
  have frX : X.A.frames = some (X.env :: X.outer) := by rw [okX.frames, hstk]
  have locN : Loc X.env.scope n := .inl hln
  refine wpAny_Try_except ?_
  refine wpAny_mono ((hbody (wKeep c0 i ts D) (X.pn ++ pins) (fun u t1 => wpAny (model X.prog X.w) X.A (noteFrame u X.env) (fun _ t2 => wpAny (model X.prog X.w) X.A (setFlight u none) (fun _ t3 =>
    wpAny (model X.prog X.w) X.A (handleBy u X.env [.ExceptHandler (some (.Tuple [.Name x1 q1, .Name x2 q2, .Name x3 q3] kk np)) (some n) (b₀ :: suite) pos']) (SP X pins D) X.xe t3) X.xe t2) X.xe t1) (fun u s' caught => ?_) PassesOwn.looking).run [] s σ H D (I0.toTry _) h0) (fun fl s1 ends => ?_) (fun _ _ y => y)
  · obtain ⟨a, B, sI, pins1, σ1, H1, cls, d, rfl, Jt, ground, upto, skyA, nA, sameOs, bareG, clsEq, wish⟩ := caught
    subst clsEq
    have J1 : Inv X pins σ1 H1 sI := Jt.ofTry okX
    rw [show (X.tr (X.pn ++ pins) _).stack = X.env :: X.outer from hstk] at skyA
    show wpAny (model X.prog X.w) X.A (noteFrame (.ref a) X.env) _ _ _
    refine Sky.land Zc.steady frX hfrm skyA fun h3 fly3 up3 => ?_
    have K3 : Inv X pins σ1 H1 { s' with heap := h3 } := J1.landed ground fly3.1 (upto.trans up3) sameOs bareG
    obtain ⟨o3, f3, there3, z3, data3⟩ := fly3.there
    have outF : a ∉ frs (X.env :: X.outer) := fun hm => by
      obtain ⟨_, o', get', notF⟩ := fly3.2.2.1.mem hm
      rw [there3] at get'
      cases get'
      exact notF _ data3
    have outL : a ≠ X.env.locals := fun z => outF (List.mem_filterMap.mpr ⟨X.env, List.mem_cons_self, by rw [hfrm, z]⟩)
    have outX : a ∉ X.fs := fun hm => by
      obtain ⟨e, he, q⟩ := List.mem_filterMap.mp hm
      exact outF (List.mem_filterMap.mpr ⟨e, List.mem_cons_of_mem _ he, q⟩)
    have newI : sI.heap.get? a = none := by
      cases q : sI.heap.get? a with
      | none => rfl
      | some o =>
        have q2 := ground a o q (by rw [show frs (X.tr (X.pn ++ pins) _).stack = frs (X.env :: X.outer) from congrArg frs hstk]; exact outF)
        rw [fly3.2.1] at q2
        cases q2
    have new0 : X.s_0.heap.get? a = none := by
      cases q : X.s_0.heap.get? a with
      | none => rfl
      | some o =>
        obtain ⟨o', q2⟩ := J1.base.there a o q (by rw [hex]; exact fun y => nomatch y)
        rw [newI] at q2
        cases q2
    have newP : ∀ p ∈ X.pn ++ pins, p.1 ≠ a := fun p hp z => by
      have q := (J1.pin p hp).1
      rw [z, newI] at q
      cases q
    have T3 := K3.suite there3 data3 nA outL outX
    refine wpAny_handleBy_cons (codeAny_handlers_test ?_) (by intro q; cases q)
    have nameT : ∀ {x : Str} {c : Value} {p : Pos} {Q : Value → Shared → Prop} {E : Value → Shared → Prop}, (Gl X x ∧ (x == ("__debug__" : Str)) = false ∧ X.mg x = some c) → Q c { s' with heap := h3 } →
        wpAny (model X.prog X.w) (X.A.mark (some (.ref a))) (eval (.Name x p) X.env) Q E { s' with heap := h3 } := fun {x c p Q E} g q => ld_glob (X := X.suite a ((a, o3) :: (X.pn ++ pins))) T3 g.1 g.2.2 q g.2.1
    refine wpAny_Tuple_spliced ?_
    rw [show starEach [.Name x1 q1, .Name x2 q2, .Name x3 q3] X.env = [(false, eval (.Name x1 q1) X.env), (false, eval (.Name x2 q2) X.env), (false, eval (.Name x3 q3) X.env)] by rfl]
    refine Calls.spliced_cons ?_
    refine nameT g1 (Calls.spliced_cons (nameT g2 (Calls.spliced_cons ?_)))
    refine nameT g3 (Calls.spliced_nil ⟨by show 3 ≤ sizeLine; decide, ?_⟩)
    have keepT : ∀ b o, h3.get? b = some o → (h3.push { cls := .type "tuple", data := .seq [c1, c2, c3].toArray }).get? b = some o := fun b o e => Heap.get?_push_of_some _ e
    have fly4 := fly_push fly3 { cls := .type "tuple", data := .seq [c1, c2, c3].toArray }
    have typ4 : PySem.W.Looks (model X.prog X.w) (h3.push { cls := .type "tuple", data := .seq [c1, c2, c3].toArray }) (typeOf (.ref a)) cls := fun A Q E s k q => wpAny_typeOf_ref (k _ _ (keepT _ _ there3)) (by rw [z3.1]; exact q)
    have mat4 := PySem.W.exm_tup3 (M := model X.prog X.w) (K3.kIn.keeps keepT) typ4 (Heap.get?_push_size _ rfl) hit
    refine mat4.here ?_
    refine codeAny_handlers_suite_as ?_
    refine HandSPX.lands_againZ fly4 fun h5 fly5 up5 => ?_
    have J5 : Inv X pins σ1 H1 { s' with heap := h5 } := J1.landed ground fly5.1 (((upto.trans up3).trans (Heap.UpToSlots.of_keeps keepT)).trans up5) sameOs bareG
    obtain ⟨o5, f5, there5, z5, data5⟩ := fly5.there
    have T5 := J5.suite there5 data5 nA outL outX
    refine store_ok (X := X.suite a ((a, o5) :: (X.pn ++ pins))) (v := .ref a) T5 nd hi locN rfl (fun s6 T6 => ?_) (.inr hln)
    refine wpAny_mono ((hsuite a o5 cls d (X.pn ++ pins) z5 ⟨_, data5⟩).run [] s6 _ H1 _ T6 (wish a nA)) (fun fl s7 ends => ?_) (fun _ _ z => False.elim z)
    cases fl with
    | next =>
      obtain ⟨σ7, H7, T7, q7⟩ := ends
      obtain ⟨there7, n7, _, _, _⟩ := T7.pin (a, o5) (List.mem_append.mpr (.inl List.mem_cons_self))
      have J7 := adopt (T7.unsuite okX) there7 z5 data5 n7 outL new0 newP
      exact gone_ok J7 nd hi hln fun s8 J8 => ⟨_, _, J8, q7⟩
    | brk =>
      obtain ⟨_, _, _, q7⟩ := ends
      exact False.elim q7
    | cont =>
      obtain ⟨_, _, _, q7⟩ := ends
      exact False.elim q7
    | ret u =>
      obtain ⟨_, _, _, _, _, q7⟩ := ends
      exact False.elim q7
  · cases fl with
    | next =>
      obtain ⟨σ2, H2, J2, q⟩ := ends
      exact wpAny_execs_nil ⟨σ2, H2, J2.ofTry okX, q⟩
    | brk =>
      obtain ⟨σ2, H2, J2, q⟩ := ends
      exact ⟨σ2, H2, J2.ofTry okX, q⟩
    | cont =>
      obtain ⟨σ2, H2, J2, q⟩ := ends
      exact ⟨σ2, H2, J2.ofTry okX, q⟩
    | ret u =>
      obtain ⟨v, σ2, H2, J2, r, q⟩ := ends
      exact ⟨v, σ2, H2, J2.ofTry okX, r, q⟩
end
end W4
set_option Elab.async false
set_option linter.all false
set_option maxRecDepth 100000
set_option maxHeartbeats 4000000
namespace W4
open PySem PySem.Spec L2
/-- what the class of a kept exception must bear -/
structure KepC (K : PySem.W.Frag) (C : Addr) : Prop where
  cl : (PySem.W.clsIn K C).isSome = true
  xf : XfC K C
  kc : PySem.W.findIn K (.ref C) "__class__" = some (some (.builtin "object.__class__"))
  kg : PySem.W.specialIn K (.builtin "object.__class__") "__get__" = some (some (.builtin "getset_descriptor.__get__"))
  kt : PySem.W.takesIn K (.builtin "object.__class__") = some true
  km : PySem.W.mroIn K C (.type "object") = some true
structure Kept (K : PySem.W.Frag) (H : Hp) (a C dd : Addr) (fs : List (Str × V)) : Prop where
  ob : H a = some (kep a (.ref C) (some dd))
  xd : H dd = some (.xd fs)
  cl : KepC K C
def rKep (K : PySem.W.Frag) : List V → Hp → VK → Prop := fun xs H Q => ∃ (a C dd : Addr) (fs : List (Str × V)) (c : V) (cv : Value) (b : Bool), xs = [.ref a, c] ∧ Kept K H a C dd fs ∧ ClsV c cv ∧ PySem.W.kitOne K (.ref C) cv = some b ∧ Q (.bl b) H
def rKepT (K : PySem.W.Frag) : List V → Hp → VK → Prop := fun xs H Q => ∃ (a C dd tp : Addr) (fs : List (Str × V)) (cs : List V) (us : List Value) (b : Bool), xs = [.ref a, .ref tp] ∧ Kept K H a C dd fs ∧ H tp = some (.tup cs) ∧ Paired ClsV cs us ∧ PySem.W.kitAny K (.ref C) us = some b ∧ Q (.bl b) H
def tKepF (K : PySem.W.Frag) (n : Str) (te : TE) : TE := fun σ H Q => te σ H fun x H1 => ∃ (a C dd : Addr) (fs : List (Str × V)) (v : V), x = .ref a ∧ Kept K H1 a C dd fs ∧ PySem.W.findIn K (.ref C) n = some none ∧ fs.lookup n = some v ∧ Q v H1
section
variable {X : Cx} {pins : List (Addr × Obj)} {σ : St} {H : Hp} {s : Shared}
theorem kept_inst {a C dd : Addr} {fs : List (Str × V)} (I : Inv X pins σ H s) (k : Kept X.K H a C dd fs) :
    ∃ (oe od : Obj) (mA : Str → Option Value), PySem.W.InstAt s.heap a oe C (some od) ∧ (∀ f, RelO (fs.lookup f) (mA f)) ∧ (∀ n, PySem.W.lookIn n od = some (mA n)) := by
  have x : ObjOk X.prog X.w H s.heap a (.ext fun hp => ∃ (o : Obj) (fs : Array Value), hp.get? a = some o ∧ Zc (.ref C) (some dd) o ∧ o.data = .fields fs) := I.hok a _ k.ob
  obtain ⟨oe, gs, ha, hz, hd⟩ := x.1
  obtain ⟨mA, hns, hr⟩ := (show ObjOk X.prog X.w H s.heap dd (.xd fs) from I.hok dd _ k.xd)
  obtain ⟨od, ho, hl⟩ := lookIn_ns hns
  exact ⟨oe, od, mA, ⟨ha, hz.1, by unfold PySem.W.notCls; rw [hd] <;> rfl, by rw [hz.2]; exact ho⟩, hr, hl⟩
theorem call_kep : CallR X (.builtin "isinstance") (rKep X.K) := by
  intro pins s σ H xs us Q I r h
  obtain ⟨a, C, dd, fs, c, cv, b, rfl, k, kc, e, q⟩ := h
  obtain ⟨u1, u2, rfl, r1, r2⟩ := L2.vals2 r
  cases (show u1 = Value.ref a from r1)
  have e2 := kc.eq r2
  subst e2
  obtain ⟨oe, od, mA, J, _⟩ := kept_inst I k
  exact PySem.W.kia_one (PySem.W.kitx_exc k.cl.cl k.cl.xf.ga k.cl.xf.gg k.cl.xf.exC k.cl.kc k.cl.kg k.cl.kt k.cl.km) I.kIn J e (fun z => nomatch z) fun tk => ⟨.bl b, H, I.tok tk, rfl, q⟩
theorem call_kepT : CallR X (.builtin "isinstance") (rKepT X.K) := by
  intro pins s σ H xs us Q I r h
  obtain ⟨a, C, dd, tp, fs, cs, ws, b, rfl, k, hT, kc, e, q⟩ := h
  obtain ⟨u1, u2, rfl, r1, r2⟩ := L2.vals2 r
  cases (show u1 = Value.ref a from r1)
  cases (show u2 = Value.ref tp from r2)
  obtain ⟨oe, od, mA, J, _⟩ := kept_inst I k
  obtain ⟨_, its, rv, o, h1, h2, n, h3⟩ := (show ObjOk X.prog X.w H s.heap tp (.tup cs) from I.hok tp _ hT)
  have e3 := ClsV.all kc rv
  subst e3
  obtain ⟨oc, od', dt, sl⟩ := o
  simp only at h2 h3
  subst h2 h3
  exact PySem.W.kia_tup (PySem.W.kitx_exc k.cl.cl k.cl.xf.ga k.cl.xf.gg k.cl.xf.exC k.cl.kc k.cl.kg k.cl.kt k.cl.km) I.kIn J h1 e (fun z => nomatch z) fun tk => ⟨.bl b, H, I.tok tk, rfl, q⟩
theorem pe_kepF {e : Expr} {te : TE} {pos : Pos} {n : Str} (he : PE X e te) (hb : attributeBase e n X.env (eval e X.env) = eval e X.env := by rfl) : PE X (.Attribute e n pos) (tKepF X.K n te) := by
  refine ⟨fun pins s σ H Q I h => ?_⟩
  refine attr_of hb (thn (he.run pins s σ H _ I h) fun u s1 hh => ?_)
  obtain ⟨x, H1, I1, rx, a, C, dd, fs, v, ex, k, hno, l, q⟩ := hh
  subst ex
  obtain rfl : u = Value.ref a := rx
  obtain ⟨oe, od, mA, J, hr, hl⟩ := kept_inst I1 k
  obtain ⟨u, hu, ru⟩ := RelO.some_of (v := v) (o := mA n) (by rw [← l]; exact hr n)
  exact HandSPX.exc_get I1.kIn J k.cl.xf.ga k.cl.xf.gg k.cl.xf.exC (PySem.W.findObj_own k.cl.xf.hdC hno rfl (by rw [hl, hu])) (handed_of ru) ⟨v, H1, I1.tok _, ru, q⟩
end
end W4
set_option Elab.async false
set_option linter.all false
set_option maxRecDepth 100000
set_option maxHeartbeats 4000000
namespace W4
open PySem PySem.Spec L2
section
variable {prog : Program} {w : World} {A : Around} {E : Value → Shared → Prop} {s : Shared}
theorem shiftW {I : Addr} {fp wr : List Addr} {G : Array GenState → Array GenState → Prop} {n : Nat} {P : Nat → Value → Prop} {S : Nat → Shared → Prop} (W : WalksS prog w A I fp wr G (n + 1) P S) :
    WalksS prog w A I fp wr G n (fun i => P (i + 1)) (fun i => S (i + 1)) where
  sub := W.sub
  grefl := W.grefl
  gtrans := W.gtrans
  frame := fun i => W.frame (i + 1)
  item := fun i s Q E hi => W.item (i + 1) s Q E (Nat.succ_lt_succ hi)
  done := W.done
  self := fun i => W.self (i + 1)
theorem unpack_star {t : Addr} {x : Value} {xs : List Value} {Q : List Value → Shared → Prop} (hh : A.handled = none) (ht : s.heap.IsTuple t (x :: xs).toArray) (hl : (x :: xs).length ≤ sizeLine)
    (hQ : ∀ (h' : Heap) (tk : Nat), (∀ b o, s.heap.get? b = some o → h'.get? b = some o) → Q [x, .ref h'.objs.size] ⟨h'.push { cls := .type "list", data := .seq xs.toArray }, s.gens, s.drawn, tk, s.os⟩) :
    wpAny (model prog w) A (unpackItems (.ref t) 2 (some 1)) Q E s := by
  have ne : t ≠ s.heap.objs.size := by obtain ⟨o, e, _⟩ := ht; exact Nat.ne_of_lt (Heap.lt_size e)
  have hl2 : xs.length + 1 ≤ sizeLine := hl
  unfold unpackItems
  refine wpAny_bind ?_
  unfold notIterableAtAll
  refine wpAny_bind (wpAny_specialOf ht.typeIs F.slot_tuple_iter.lookup (wpAny_pure ?_))
  simp only [Bool.false_eq_true, if_false]
  refine wpAny_bind (wpAny_holding (wpAny_pyIter_tuple ht ?_))
  refine wpAny_bind (wpAny_holding (wpAny_draw_tuple ne 1 0 _ _ ⟨_, Heap.get?_push_size _ rfl, rfl, rfl⟩ (ht.push _) (by simp) fun h1 it1 sb1 => ?_))
  have t1 : h1.IsTuple t (x :: xs).toArray := (ht.push _).extBut sb1.extBut ne
  show wpAny _ _ (if ([x] : List Value).length < 1 then _ else _) _ _ _
  rw [if_neg (by simp)]
  refine wpAny_bind (wpAny_holding ?_)
  have W0 := (Walks.tuple (prog := prog) (w := w) (A := A.in1) hh s.heap.objs.size t ne (x :: xs).toArray).toS
  have W1 := shiftW (n := xs.length) W0
  refine wpAny_collect_iter (T := "tuple_iterator") (.inr (.inr (.inr rfl))) W1 (fun i s st => st.1.typeIs) ⟨it1, t1⟩ (fun b hb => ?_) (by simp) (fun s2 acc mv items => ?_) (by omega)
  · have sz : s.heap.objs.size < h1.objs.size := by obtain ⟨o, e, _⟩ := it1; exact Heap.lt_size e
    have tz : t < h1.objs.size := by obtain ⟨o, e, _⟩ := t1; exact Heap.lt_size e
    simp at hb
    rcases hb with rfl | rfl
    · exact sz
    · exact tz
  · have eacc : acc.toList = xs := by
      obtain ⟨sz, at_⟩ := items
      apply List.ext_getElem?
      intro j
      cases q : acc.toList[j]? with
      | none =>
        have hj : acc.size ≤ j := by simpa using q
        rw [List.getElem?_eq_none (by omega)]
      | some v =>
        have z := at_ j v (by rw [← Array.getElem?_toList]; exact q)
        simpa using z.symm
    rw [eacc]
    show wpAny _ _ (if xs.length < 2 - 1 - 1 then _ else _) _ _ _
    rw [if_neg (by omega)]
    refine wpAny_bind (wpAny_newList ?_ (by rw [List.length_take]; omega))
    refine wpAny_pure ?_
    have e1 : List.take (xs.length - (2 - 1 - 1)) xs = xs := List.take_of_length_le (by omega)
    have e2 : List.drop (xs.length - (2 - 1 - 1)) xs = [] := List.drop_of_length_le (by omega)
    rw [e1, e2]
    obtain ⟨hp2, g2, d2, tk2, os2⟩ := s2
    obtain ⟨mh, mg, md, mo, mt⟩ := mv
    dsimp only at mh mg md mo mt
    subst mg md mo
    have k2 : ∀ b o, s.heap.get? b = some o → hp2.get? b = some o := fun b o e => by
      have lt := Heap.lt_size e
      have nb : b ≠ s.heap.objs.size := Nat.ne_of_lt lt
      exact mh b o (by simp; exact nb) (sb1.extBut b o nb (Heap.get?_push_of_some _ e))
    exact hQ hp2 tk2 k2
/-- x, *xs = a tuple -/
def gStar (K : PySem.W.Frag) (t : TGs) : TG := fun v σ H Q => ∃ (a : Addr) (x : V) (xs : List V), v = .ref a ∧ SqT K H a (x :: xs) ∧ ∀ p, H p = none → t [x, .ref p] σ (upd H p (.lst xs)) Q
theorem pg_star {X : Cx} {e0 e1 : Expr} {p1 pos : Pos} {k : Nat} {t : TGs} (hc : X.calm = true) (h : PGs X [e0, e1] t) (h0 : assignEach [e0, .Starred e1 p1] X.env = [(false, assign e0 X.env), (true, assign e1 X.env)] := by rfl)
    (h1 : (assignEach [e0, e1] X.env).map (·.2) = [assign e0 X.env, assign e1 X.env] := by rfl) : PG X (.Tuple [e0, .Starred e1 p1] k pos) (gStar X.K t) := by
  refine ⟨fun pins s σ H v u Q I r hw => ?_⟩
  obtain ⟨a, x, xs, ev, hq, hw⟩ := hw
  subst ev
  cases (show u = Value.ref a from r)
  obtain ⟨its, rv, ht, hz⟩ := I.tuple hq
  cases rv with
  | @cons _ y _ ys rx rxs =>
    rw [arm_assign_Tuple, h0]
    unfold unpack
    refine wpAny_bind (wpAny_standAt (wpAny_bind (wpAny_holding ?_)))
    have len := Vals.length rxs
    refine unpack_star (I.ok.hd hc) ht (by simpa [← len] using hz) fun h' tk kp => ?_
    have I0 : Inv X pins σ H ⟨h', s.gens, s.drawn, tk, s.os⟩ := I.kept (t' := tk) kp
    have fresh : H h'.objs.size = none := I0.hok.fresh (Nat.le_refl _)
    have I1 : Inv X pins σ (upd H h'.objs.size (.lst xs)) ⟨h'.push { cls := .type "list", data := .seq ys.toArray }, s.gens, s.drawn, tk, s.os⟩ :=
      I0.laid (t' := tk) (a := h'.objs.size) (o := .lst xs) (fun b o e => Heap.get?_push_of_some _ e) (Nat.le_refl _) ⟨by simp at hz; omega, ys, 0, rxs, Heap.get?_push_size _ rfl⟩
    have q := h.run pins _ σ _ [x, .ref h'.objs.size] [y, .ref h'.objs.size] Q I1 (.cons rx (.cons rfl .nil)) (hw _ fresh)
    rw [h1] at q
    exact q
end
end W4
set_option Elab.async false
set_option linter.all false
set_option maxRecDepth 100000
set_option maxHeartbeats 4000000
namespace W4
open PySem PySem.Spec PyProof.Rows L2
/-- a def's promise where no repr runs around it -/
structure FnG (P : Program) (w : World) (K : PySem.W.Frag) (mg : Str → Option Value) (base : Heap) (CX : CXT) (k : Nat) (f : Addr) (fd : FuncData) (ps : List Str) (sp : Sp) : Prop where
  num : ∀ vs H Q E, sp vs H Q E → vs.length = ps.length
  go : ∀ (A : Around), A.guards = some [] → Room k A → ∀ (outer : List Env) (s : Shared) (H : Hp), Env0 P w K mg base A outer s H → ∀ (args : Args) (us : List Value) (vs : List V), BindsTo s fd args (ps.zip us) → Vals vs us →
    ∀ (Q : VK) (E : XK), sp vs H Q E → codeAny (model P w) A (.call (.ref f) args) (CR CX outer P w H s Q E) s
section
variable {P : Program} {w : World} {K : PySem.W.Frag} {mg : Str → Option Value} {base : Heap} {x qual : Str} {params : Arguments} {body : List Stmt} {scope : Scope} {dvs : List V} {kws : List (Str × V)} {f : Addr} {fd : FuncData}
theorem FunD.okG {CX : CXT} {N ps : List Str} {k : Nat} {sp : Sp} (F : FunD K x qual params body scope dvs kws f fd) (S : FnScope N ps scope) (num : ∀ vs H Q E, sp vs H Q E → vs.length = ps.length)
    (bd : ∀ (cdv : Value) (A : Around) (outer : List Env) (s : Shared) (H : Hp) (vs : List V) (Q : VK) (E : XK), A.guards = some [] → Room k (A.deeper (envOfC qual scope s.heap.objs.size f cdv)) → sp vs H Q E →
      ∃ t, PSs (cxOf CX P w K mg base N qual scope f cdv A outer s H E) body t ∧ t { nx := fun _ H' => Q .non H', rt := Q } (start N vs) H) : FnG P w K mg base CX (k + 1) f fd ps sp := by
  obtain ⟨oc, od, dV, kV, doc, pm, an, cdv, ct, osl, rfl, lk, code, _, _⟩ := F.ex
  refine ⟨num, fun A gd hr outer s H e0 args us vs hb rv Q E hsp => ?_⟩
  have lens := num _ _ _ _ hsp
  have keepB : ∀ b o, base.get? b = some o → s.heap.get? b = some o := fun b o e => (e0.bs b o e).1
  have inK : K.In s.heap := e0.mod.kin.keeps keepB
  have lim := e0.mod.nolimit.keeps keepB
  have kinds : ∀ y ∈ ps.zip us, scope.names.lookup y.1 = some .local ∨ (scope.names.lookup y.1 = some .cell ∧ ((cellsFrom (s.heap.objs.size + 1) scope.names []).lookup y.1).isSome = true) := by
    intro ⟨n, v⟩ hy
    rcases S.par n (List.of_mem_zip hy).1 with q | q
    · exact .inl q
    · exact .inr ⟨q, PySem.W.cellsFrom_some _ _ _ (.inl q)⟩
  refine codeAny_call_function hr.depth (inK _ _ lk) rfl S.co S.gen rfl (PySem.W.codeRec_of inK code) (hb _ _ _ _ ?_)
  refine wpAny_newFunctionEnv_cells S.kind kinds fun env hE s1 inC => ?_
  subst hE
  refine ⟨lim.keeps inC.toInCall.keep, codeAny_func ?_⟩
  obtain ⟨t, ht, hq⟩ := bd cdv A outer s H vs Q E gd (hr.deeper _) hsp
  refine wpAny_mono (ht.run [] s1 (start N vs) H _ (inv_start S hr.hd e0 lens rv inC) hq) (fun fl s2 ends => ?_) fun _ _ y => y
  cases fl with
  | ret u =>
    obtain ⟨v, σ2, H2, J, ru, q⟩ := ends
    exact ⟨v, H2, J.os, J.bare, J.base, J.hok, ru, q⟩
  | next =>
    obtain ⟨σ2, H2, J, q⟩ := ends
    exact ⟨V.non, H2, J.os, J.bare, J.base, J.hok, rfl, q⟩
  | brk =>
    obtain ⟨_, _, _, q⟩ := ends
    exact q.elim
  | cont =>
    obtain ⟨_, _, _, q⟩ := ends
    exact q.elim
end
section
variable {X : Cx} {CX : CXT} {k : Nat} {f : Addr} {fd : FuncData} {ps : List Str} {sp : Sp} {E : XK} {x : Str} {p pos : Pos} {e : Expr} {es : List Expr} {t : TA}
theorem pe_callG (F : FnG X.prog X.w X.K X.mg X.base CX k f fd ps sp) (gd : X.A.guards = some []) (hr : Room k X.A) (hg : Gl X x) (hm : X.mg x = some (.ref f)) (kp : PySem.W.keepIn X.K (.ref f) = true) (hb : Binds X.K fd ps []) (hx : Passes CX X E)
    (ha : PA X (e :: es) t) (hdb : (x == ("__debug__" : Str)) = false := by decide) (he : starEach (e :: es) X.env = (false, eval e X.env) :: starEach es X.env := by rfl) (hpl : (backTo pos (starEach es X.env)).any (·.1) = false := by rfl) :
    PE X (.Call (.Name x p) (e :: es) [] pos) (tCall sp [] E t) := by
  refine ⟨fun pins s σ H Q I h => wpAny_Call_Name_kw (ld_glob I hg hm ?_ hdb)⟩
  refine PySem.W.callWith_K (h₀ := X.base) I.ok.mod.kin kp (thn (ha.run pos pins s σ H _ I h) fun us s1 ⟨vs, H1, I1, rv, q⟩ => ⟨I1.kIn, ?_⟩) he hpl
  replace q : sp (vs ++ []) H1 Q E := q
  rw [List.append_nil] at q
  have nm : us.length = ps.length := by rw [← rv.length]; exact F.num _ _ _ _ q
  have bnd := hb s1 us I1.kIn (by rw [List.append_nil]; exact nm)
  rw [List.append_nil] at bnd
  refine wpAny_call (codeAny_mono (F.go X.A gd hr X.stack s1 H1 I1.env0 ⟨us, []⟩ us vs bnd rv Q E q) fun r s2 hq => ?_)
  match r, hq with
  | .error er, hq => exact hx pins σ H1 s1 er s2 I1 hq
  | .ok (.ret u), hq => exact I1.after hq
/-- repr(x), x plain data -/
def rRepr (K : PySem.W.Frag) : List V → Hp → VK → Prop := fun xs H Q => ∃ (a : Addr) (d : PyData), xs = [.ref a] ∧ Dp K H (.ref a) d ∧ d.showable = true ∧ d.hasDict = false ∧ d.depth + 1 ≤ 400 ∧ d.shown.length ≤ sizeLine ∧ Q (.str d.shown) H
theorem call_reprG (gd : X.A.guards = some []) (hu : X.A.units + 410 < cLine) : CallR X (.builtin "repr") (rRepr X.K) := by
  intro pins s σ H xs us Q I r h
  obtain ⟨a, d, rfl, hd, sh, nd, dp, sz, q⟩ := h
  cases r with
  | cons r1 rr =>
    cases rr
    cases r1
    obtain ⟨as, rd⟩ := Dp.reads I d (.ref a) (.ref a) hd rfl
    exact repr_of_reads' rd sh (fun z => by rw [nd] at z; cases z) gd (by omega) (fun _ _ e => e) (fun h' u tk kk => ⟨.str d.shown, H, I.kept (t' := tk) kk, ⟨_, rfl⟩, q⟩) sz
end
/-- the script alone stands in H -/
theorem lawG {P : Program} {w : World} {K : PySem.W.Frag} {mg mb : Str → Option Value} {CX : CXT} {k : Nat} {fa a : Addr} {fd : FuncData} {x : Str} {sp : Sp} {s : Shared} {vs : List Value} {ns : List Int}
    (inK : K.In s.heap) (gl : s.heap.Ns mainGlobals mg) (bl : s.heap.Ns builtinsNs mb) (bb : ∀ x : Str, x ≠ "__name__" → mb x = bootBuiltins x) (lim : s.heap.NoLimit) (gens : s.gens = #[])
    (there : s.heap.get? a = some { cls := .type "list", data := .seq vs.toArray }) (isI : IntsAre vs ns) (few : ns.length ≤ sizeLine) (room : Room k callerA)
    (F : ∀ base : Heap, K.In base → base.Ns mainGlobals mg → FnG P w K mg base CX k fa fd [x] sp) (bnd : ∀ (s : Shared) (u : Value), BindsTo s fd ⟨[u], []⟩ [(x, u)])
    (hsp : ∀ H : Hp, Only H → SqL K H a (ns.map V.int) → sp [.ref a] H (fun v _ => v = .bl true) fun _ _ _ => False)
    (noEx : ∀ H e s', CX [] H s (fun _ _ _ => False) e s' → False) :
    codeAny (model P w) callerA (.call (.ref fa) ⟨[.ref a], []⟩) (fun r s' => r = .ok (.ret (.bool true)) ∧ OldK s.heap s'.heap ∧ s'.os = s.os ∧ AllBare s'.gens) s := by
  have vals := vals_ints isI
  have go : ∀ H : Hp, Only H → SqL K H a (ns.map V.int) → HOk P w H s.heap → (∀ b u, H b = some u → b = a ∧ K.lookup a = none) →
      codeAny (model P w) callerA (.call (.ref fa) ⟨[.ref a], []⟩) (fun r s' => r = .ok (.ret (.bool true)) ∧ OldK s.heap s'.heap ∧ s'.os = s.os ∧ AllBare s'.gens) s := by
    intro H only sq hok sole
    have dictFree : ∀ {b : Addr} {o : Obj} {es : Array DictEntry} {n : Nat}, s.heap.get? b = some o → o.data = .dict es n → H b = none := by
      intro b o es n e d
      cases q : H b with
      | none => rfl
      | some u =>
        obtain ⟨rfl, _⟩ := sole b u q
        rw [there] at e
        cases e
        cases (show Data.seq vs.toArray 0 = Data.dict es n from d)
    have nsH : ∀ {b : Addr} {m : Str → Option Value}, s.heap.Ns b m → (hidT s.heap H).Ns b m := by
      intro b m ⟨o, es, ep, e, d, r⟩
      exact ⟨o, es, ep, hidT_get e (dictFree e d), d, r⟩
    have kH : K.In (hidT s.heap H) := by
      intro b o e
      refine hidT_get (inK b o e) ?_
      cases q : H b with
      | none => rfl
      | some u =>
        obtain ⟨rfl, no⟩ := sole b u q
        rw [no] at e
        cases e
    obtain ⟨mc, lim1, lim2⟩ := lim
    have e0 : Env0 P w K mg (hidT s.heap H) callerA [] s H :=
      ⟨rfl, ⟨kH, nsH gl, ⟨mb, nsH bl, bb⟩, ⟨mc, nsH lim1, lim2⟩⟩, fun b o e => of_hidT e, Nat.le_of_eq (hidT_size _ _), trivial, fun b hb => (List.not_mem_nil hb).elim, hok, .of_eq gens⟩
    refine codeAny_mono ((F _ kH (nsH gl)).go callerA rfl room [] s H e0 ⟨[.ref a], []⟩ [.ref a] [.ref a] (bnd s (.ref a)) (.cons rfl .nil) _ _ (hsp H only sq)) fun r s' h => ?_
    match r, h with
    | .error e, h => exact (noEx H e s' h).elim
    | .ok (.ret u), ⟨v, H', os, bare, un, hok', rel, q⟩ =>
      have q1 : v = .bl true := q
      subst q1
      have q2 : u = Value.bool true := rel
      subst q2
      refine ⟨rfl, OldK.of_keep fun b o e => ?_, os, bare⟩
      rcases only b with z | ⟨ob, xs, z⟩
      · exact un.keep b o e z (fun y => List.not_mem_nil y) (fun y => List.not_mem_nil y)
      · obtain ⟨e1, _⟩ := hok b _ z
        obtain ⟨e2, _⟩ := hok' b _ (un.frzs b ob _ z)
        rw [e] at e1
        cases e1
        exact e2
  cases hk : K.lookup a with
  | some o =>
    have e := inK a o hk
    rw [there] at e
    cases e
    refine go (fun _ => none) (fun _ => .inl rfl) (.inr ⟨_, vs.toArray, _, hk, rfl, rfl, rfl, by rw [List.size_toArray, isI.length]; exact few, by simpa using vals⟩) (fun b u z => nomatch (show (none : Option HO) = some u from z)) fun b u z => nomatch (show (none : Option HO) = some u from z)
  | none =>
    let H : Hp := fun b => if b = a then some (.frz { cls := .type "list", data := .seq vs.toArray } (.lst (ns.map V.int))) else none
    have at_ : H a = some (.frz { cls := .type "list", data := .seq vs.toArray } (.lst (ns.map V.int))) := if_pos rfl
    have off : ∀ b, b ≠ a → H b = none := fun b hb => if_neg hb
    refine go H (fun b => ?_) (.inl (.inr ⟨_, at_⟩)) (fun b u z => ?_) fun b u z => ?_
    · by_cases hb : b = a
      · exact .inr ⟨_, _, by rw [hb]; exact at_⟩
      · exact .inl (off b hb)
    · by_cases hb : b = a
      · subst hb
        rw [at_] at z
        cases z
        exact ⟨there, by rw [List.length_map]; exact few, vs, _, vals, there⟩
      · rw [off b hb] at z
        cases z
    · by_cases hb : b = a
      · exact ⟨hb, hk⟩
      · rw [off b hb] at z
        cases z
theorem walkG {l : PySem.W.OpenLaw} {n k : Nat} {q : Program} {loose : List Str} {XP : (Str → Option Value) → Heap → Prop} {YP : World → Heap → Prop} {d : DefRec} {CX : CXT} {x : Str}
    (most : l.most = some n) (fits : n ≤ sizeLine) (nodf : d.params.defaults = []) (room : Room k callerA)
    (F : ∀ (w : World) (mg : Str → Option Value) (fa : Addr) (h : Heap), YP w h → h.Ns mainGlobals mg → mg d.name = some (.ref fa) →
      ∃ (K : PySem.W.Frag) (fd : FuncData) (sp : Sp), K.In h ∧ (∀ (s : Shared) (u : Value), BindsTo s fd ⟨[u], []⟩ [(x, u)]) ∧
        (∀ (H : Hp) (a : Addr) (ns : List Int), ns.length ≤ n → Only H → SqL K H a (ns.map V.int) → sp [.ref a] H (fun v _ => v = .bl true) fun _ _ _ => False) ∧
        ∀ base : Heap, K.In base → base.Ns mainGlobals mg → FnG l.prog w K mg base CX k fa fd [x] sp)
    (noEx : ∀ (H : Hp) (s : Shared) (e : Value) (s' : Shared), CX [] H s (fun _ _ _ => False) e s' → False) :
    PySem.W.WalkO q loose XP YP l.row.toRowW d [] (fun f vs => PySem.call f vs) := by
  refine Att.attach_call most nodf fun w s₀ s₁ mg mb fa o pm cd doc a vs ns G Y ho hd hcd hmg there isI few gens => ?_
  obtain ⟨K, fd, sp, inK, bnd, hsp, hF⟩ := F w mg fa _ Y G.T.g hmg
  exact lawG inK G.T.g G.T.b G.T.builtins G.T.nolimit gens there isI (Nat.le_trans few fits) room hF bnd (fun H hO hS => hsp H a ns few hO hS) fun H e s' => noEx H s₁ e s'
end W4
set_option Elab.async false
set_option linter.all false
set_option maxRecDepth 100000
set_option maxHeartbeats 0
namespace W4
open PySem PySem.Spec L2
/-! ### the text by places -/
def top (i : Nat) : Stmt := PySem.Challenge.pw_lastingrun_k04_whole_read_and_write.main.body.getD i (.Pass ⟨0, 0, 0, 0⟩)
abbrev s_as_tuples : Stmt := top 5
abbrev s_run_length : Stmt := top 18
abbrev s_letters_sort : Stmt := top 19
abbrev s_figures_sort : Stmt := top 20
abbrev s_sign_at : Stmt := top 21
abbrev s_token_at : Stmt := top 22
abbrev s_tokens_of : Stmt := top 23
abbrev s_tightness : Stmt := top 30
abbrev s_operand_text : Stmt := top 31
abbrev s_args_text : Stmt := top 32
abbrev s_op_text : Stmt := top 33
abbrev s_expr_text : Stmt := top 34
abbrev s_head_text : Stmt := top 35
abbrev s_inner_lines : Stmt := top 36
abbrev s_block_lines : Stmt := top 37
abbrev s_program_lines : Stmt := top 38
abbrev s_read : Stmt := top 46
abbrev s_write : Stmt := top 47
abbrev s_q_cells : Stmt := top 49
abbrev s_q_box : Stmt := top 50
abbrev s_q_take : Stmt := top 51
abbrev s_q_of : Stmt := top 52
abbrev s_q_same : Stmt := top 53
abbrev s_q_name : Stmt := top 54
abbrev s_q_names : Stmt := top 55
abbrev s_q_tree_leaf : Stmt := top 56
abbrev s_q_tree : Stmt := top 57
abbrev s_q_tree_part : Stmt := top 58
abbrev s_q_tree_block : Stmt := top 59
abbrev s_q_tree_program : Stmt := top 60
abbrev s_q_tight : Stmt := top 61
abbrev s_q_words : Stmt := top 62
abbrev s_q_bare_words : Stmt := top 63
abbrev s_q_row_words : Stmt := top 64
abbrev s_q_head_words : Stmt := top 65
abbrev s_q_lines : Stmt := top 66
abbrev s_q_all_lines : Stmt := top 67
abbrev s_q_plain_words : Stmt := top 68
abbrev s_q_spread : Stmt := top 69
abbrev s_q_heard : Stmt := top 70
abbrev s_q_partner : Stmt := top 71
abbrev s_q_right : Stmt := top 72
abbrev s_law : Stmt := top 73
abbrev s_BadText_init : Stmt := inClass (top 1) 0
abbrev s_Reader_init : Stmt := inClass (top 45) 0
abbrev s_Reader_next_sort : Stmt := inClass (top 45) 1
abbrev s_Reader_fail : Stmt := inClass (top 45) 2
abbrev s_Reader_take : Stmt := inClass (top 45) 3
abbrev s_Reader_passed : Stmt := inClass (top 45) 4
abbrev s_Reader_part : Stmt := inClass (top 45) 5
abbrev s_Reader_several : Stmt := inClass (top 45) 6
abbrev s_Reader_functions : Stmt := inClass (top 45) 7
abbrev s_Reader_statements : Stmt := inClass (top 45) 8
abbrev s_Reader_labelled : Stmt := inClass (top 45) 9
abbrev s_Reader_statement : Stmt := inClass (top 45) 10
abbrev s_Reader_compound : Stmt := inClass (top 45) 11
abbrev s_Reader_named : Stmt := inClass (top 45) 12
abbrev s_Reader_expr : Stmt := inClass (top 45) 13
abbrev s_Reader_level : Stmt := inClass (top 45) 14
abbrev s_Reader_signed : Stmt := inClass (top 45) 15
abbrev s_Reader_item : Stmt := inClass (top 45) 16
abbrev s_Reader_field : Stmt := inClass (top 45) 17
def d_as_tuples : He.DefD := ⟨("as_tuples", none), "as_tuples", "as_tuples", defArgs s_as_tuples, defBody s_as_tuples, defScope s_as_tuples, [], []⟩
def d_run_length : He.DefD := ⟨("run_length", none), "run_length", "run_length", defArgs s_run_length, defBody s_run_length, defScope s_run_length, [], []⟩
def d_letters_sort : He.DefD := ⟨("letters_sort", none), "letters_sort", "letters_sort", defArgs s_letters_sort, defBody s_letters_sort, defScope s_letters_sort, [], []⟩
def d_figures_sort : He.DefD := ⟨("figures_sort", none), "figures_sort", "figures_sort", defArgs s_figures_sort, defBody s_figures_sort, defScope s_figures_sort, [], []⟩
def d_sign_at : He.DefD := ⟨("sign_at", none), "sign_at", "sign_at", defArgs s_sign_at, defBody s_sign_at, defScope s_sign_at, [], []⟩
def d_token_at : He.DefD := ⟨("token_at", none), "token_at", "token_at", defArgs s_token_at, defBody s_token_at, defScope s_token_at, [], []⟩
def d_tokens_of : He.DefD := ⟨("tokens_of", none), "tokens_of", "tokens_of", defArgs s_tokens_of, defBody s_tokens_of, defScope s_tokens_of, [], []⟩
def d_tightness : He.DefD := ⟨("tightness", none), "tightness", "tightness", defArgs s_tightness, defBody s_tightness, defScope s_tightness, [], []⟩
def d_operand_text : He.DefD := ⟨("operand_text", none), "operand_text", "operand_text", defArgs s_operand_text, defBody s_operand_text, defScope s_operand_text, [], []⟩
def d_args_text : He.DefD := ⟨("args_text", none), "args_text", "args_text", defArgs s_args_text, defBody s_args_text, defScope s_args_text, [], []⟩
def d_op_text : He.DefD := ⟨("op_text", none), "op_text", "op_text", defArgs s_op_text, defBody s_op_text, defScope s_op_text, [], []⟩
def d_expr_text : He.DefD := ⟨("expr_text", none), "expr_text", "expr_text", defArgs s_expr_text, defBody s_expr_text, defScope s_expr_text, [], []⟩
def d_head_text : He.DefD := ⟨("head_text", none), "head_text", "head_text", defArgs s_head_text, defBody s_head_text, defScope s_head_text, [], []⟩
def d_inner_lines : He.DefD := ⟨("inner_lines", none), "inner_lines", "inner_lines", defArgs s_inner_lines, defBody s_inner_lines, defScope s_inner_lines, [], []⟩
def d_block_lines : He.DefD := ⟨("block_lines", none), "block_lines", "block_lines", defArgs s_block_lines, defBody s_block_lines, defScope s_block_lines, [], []⟩
def d_program_lines : He.DefD := ⟨("program_lines", none), "program_lines", "program_lines", defArgs s_program_lines, defBody s_program_lines, defScope s_program_lines, [], []⟩
def d_read : He.DefD := ⟨("read", none), "read", "read", defArgs s_read, defBody s_read, defScope s_read, [], []⟩
def d_write : He.DefD := ⟨("write", none), "write", "write", defArgs s_write, defBody s_write, defScope s_write, [], []⟩
def d_q_cells : He.DefD := ⟨("_law_cells", none), "_law_cells", "_law_cells", defArgs s_q_cells, defBody s_q_cells, defScope s_q_cells, [], []⟩
def d_q_box : He.DefD := ⟨("_law_box", none), "_law_box", "_law_box", defArgs s_q_box, defBody s_q_box, defScope s_q_box, [], []⟩
def d_q_take : He.DefD := ⟨("_law_take", none), "_law_take", "_law_take", defArgs s_q_take, defBody s_q_take, defScope s_q_take, [], []⟩
def d_q_of : He.DefD := ⟨("_law_of", none), "_law_of", "_law_of", defArgs s_q_of, defBody s_q_of, defScope s_q_of, [], []⟩
def d_q_same : He.DefD := ⟨("_law_same", none), "_law_same", "_law_same", defArgs s_q_same, defBody s_q_same, defScope s_q_same, [], []⟩
def d_q_name : He.DefD := ⟨("_law_name", none), "_law_name", "_law_name", defArgs s_q_name, defBody s_q_name, defScope s_q_name, [], []⟩
def d_q_names : He.DefD := ⟨("_law_names", none), "_law_names", "_law_names", defArgs s_q_names, defBody s_q_names, defScope s_q_names, [], []⟩
def d_q_tree_leaf : He.DefD := ⟨("_law_tree_leaf", none), "_law_tree_leaf", "_law_tree_leaf", defArgs s_q_tree_leaf, defBody s_q_tree_leaf, defScope s_q_tree_leaf, [], []⟩
def d_q_tree : He.DefD := ⟨("_law_tree", none), "_law_tree", "_law_tree", defArgs s_q_tree, defBody s_q_tree, defScope s_q_tree, [], []⟩
def d_q_tree_part : He.DefD := ⟨("_law_tree_part", none), "_law_tree_part", "_law_tree_part", defArgs s_q_tree_part, defBody s_q_tree_part, defScope s_q_tree_part, [], []⟩
def d_q_tree_block : He.DefD := ⟨("_law_tree_block", none), "_law_tree_block", "_law_tree_block", defArgs s_q_tree_block, defBody s_q_tree_block, defScope s_q_tree_block, [], []⟩
def d_q_tree_program : He.DefD := ⟨("_law_tree_program", none), "_law_tree_program", "_law_tree_program", defArgs s_q_tree_program, defBody s_q_tree_program, defScope s_q_tree_program, [], []⟩
def d_q_tight : He.DefD := ⟨("_law_tight", none), "_law_tight", "_law_tight", defArgs s_q_tight, defBody s_q_tight, defScope s_q_tight, [], []⟩
def d_q_words : He.DefD := ⟨("_law_words", none), "_law_words", "_law_words", defArgs s_q_words, defBody s_q_words, defScope s_q_words, [], []⟩
def d_q_bare_words : He.DefD := ⟨("_law_bare_words", none), "_law_bare_words", "_law_bare_words", defArgs s_q_bare_words, defBody s_q_bare_words, defScope s_q_bare_words, [], []⟩
def d_q_row_words : He.DefD := ⟨("_law_row_words", none), "_law_row_words", "_law_row_words", defArgs s_q_row_words, defBody s_q_row_words, defScope s_q_row_words, [], []⟩
def d_q_head_words : He.DefD := ⟨("_law_head_words", none), "_law_head_words", "_law_head_words", defArgs s_q_head_words, defBody s_q_head_words, defScope s_q_head_words, [], []⟩
def d_q_lines : He.DefD := ⟨("_law_lines", none), "_law_lines", "_law_lines", defArgs s_q_lines, defBody s_q_lines, defScope s_q_lines, [], []⟩
def d_q_all_lines : He.DefD := ⟨("_law_all_lines", none), "_law_all_lines", "_law_all_lines", defArgs s_q_all_lines, defBody s_q_all_lines, defScope s_q_all_lines, [], []⟩
def d_q_plain_words : He.DefD := ⟨("_law_plain_words", none), "_law_plain_words", "_law_plain_words", defArgs s_q_plain_words, defBody s_q_plain_words, defScope s_q_plain_words, [], []⟩
def d_q_spread : He.DefD := ⟨("_law_spread", none), "_law_spread", "_law_spread", defArgs s_q_spread, defBody s_q_spread, defScope s_q_spread, [], []⟩
def d_q_heard : He.DefD := ⟨("_law_heard", none), "_law_heard", "_law_heard", defArgs s_q_heard, defBody s_q_heard, defScope s_q_heard, [], []⟩
def d_q_partner : He.DefD := ⟨("_law_partner", none), "_law_partner", "_law_partner", defArgs s_q_partner, defBody s_q_partner, defScope s_q_partner, [], []⟩
def d_q_right : He.DefD := ⟨("_law_right", none), "_law_right", "_law_right", defArgs s_q_right, defBody s_q_right, defScope s_q_right, [], []⟩
def d_law : He.DefD := ⟨("law", none), "law", "law", defArgs s_law, defBody s_law, defScope s_law, [], []⟩
def d_BadText_init : He.DefD := ⟨("BadText", some "__init__"), "__init__", "BadText.__init__", defArgs s_BadText_init, defBody s_BadText_init, defScope s_BadText_init, [], []⟩
def d_Reader_init : He.DefD := ⟨("Reader", some "__init__"), "__init__", "Reader.__init__", defArgs s_Reader_init, defBody s_Reader_init, defScope s_Reader_init, [], []⟩
def d_Reader_next_sort : He.DefD := ⟨("Reader", some "next_sort"), "next_sort", "Reader.next_sort", defArgs s_Reader_next_sort, defBody s_Reader_next_sort, defScope s_Reader_next_sort, [], []⟩
def d_Reader_fail : He.DefD := ⟨("Reader", some "fail"), "fail", "Reader.fail", defArgs s_Reader_fail, defBody s_Reader_fail, defScope s_Reader_fail, [], []⟩
def d_Reader_take : He.DefD := ⟨("Reader", some "take"), "take", "Reader.take", defArgs s_Reader_take, defBody s_Reader_take, defScope s_Reader_take, [], []⟩
def d_Reader_passed : He.DefD := ⟨("Reader", some "passed"), "passed", "Reader.passed", defArgs s_Reader_passed, defBody s_Reader_passed, defScope s_Reader_passed, [], []⟩
def d_Reader_part : He.DefD := ⟨("Reader", some "part"), "part", "Reader.part", defArgs s_Reader_part, defBody s_Reader_part, defScope s_Reader_part, [], []⟩
def d_Reader_several : He.DefD := ⟨("Reader", some "several"), "several", "Reader.several", defArgs s_Reader_several, defBody s_Reader_several, defScope s_Reader_several, [], []⟩
def d_Reader_functions : He.DefD := ⟨("Reader", some "functions"), "functions", "Reader.functions", defArgs s_Reader_functions, defBody s_Reader_functions, defScope s_Reader_functions, [], []⟩
def d_Reader_statements : He.DefD := ⟨("Reader", some "statements"), "statements", "Reader.statements", defArgs s_Reader_statements, defBody s_Reader_statements, defScope s_Reader_statements, [], []⟩
def d_Reader_labelled : He.DefD := ⟨("Reader", some "labelled"), "labelled", "Reader.labelled", defArgs s_Reader_labelled, defBody s_Reader_labelled, defScope s_Reader_labelled, [], []⟩
def d_Reader_statement : He.DefD := ⟨("Reader", some "statement"), "statement", "Reader.statement", defArgs s_Reader_statement, defBody s_Reader_statement, defScope s_Reader_statement, [], []⟩
def d_Reader_compound : He.DefD := ⟨("Reader", some "compound"), "compound", "Reader.compound", defArgs s_Reader_compound, defBody s_Reader_compound, defScope s_Reader_compound, [], []⟩
def d_Reader_named : He.DefD := ⟨("Reader", some "named"), "named", "Reader.named", defArgs s_Reader_named, defBody s_Reader_named, defScope s_Reader_named, [], []⟩
def d_Reader_expr : He.DefD := ⟨("Reader", some "expr"), "expr", "Reader.expr", defArgs s_Reader_expr, defBody s_Reader_expr, defScope s_Reader_expr, [], []⟩
def d_Reader_level : He.DefD := ⟨("Reader", some "level"), "level", "Reader.level", defArgs s_Reader_level, defBody s_Reader_level, defScope s_Reader_level, [], []⟩
def d_Reader_signed : He.DefD := ⟨("Reader", some "signed"), "signed", "Reader.signed", defArgs s_Reader_signed, defBody s_Reader_signed, defScope s_Reader_signed, [], []⟩
def d_Reader_item : He.DefD := ⟨("Reader", some "item"), "item", "Reader.item", defArgs s_Reader_item, defBody s_Reader_item, defScope s_Reader_item, [], []⟩
def d_Reader_field : He.DefD := ⟨("Reader", some "field"), "field", "Reader.field", defArgs s_Reader_field, defBody s_Reader_field, defScope s_Reader_field, [], []⟩
def fn : List He.DefD := [d_as_tuples, d_run_length, d_letters_sort, d_figures_sort, d_sign_at, d_token_at, d_tokens_of, d_tightness, d_operand_text, d_args_text, d_op_text, d_expr_text, d_head_text, d_inner_lines, d_block_lines, d_program_lines, d_read, d_write, d_q_cells, d_q_box, d_q_take, d_q_of, d_q_same, d_q_name, d_q_names, d_q_tree_leaf, d_q_tree, d_q_tree_part, d_q_tree_block, d_q_tree_program, d_q_tight, d_q_words, d_q_bare_words, d_q_row_words, d_q_head_words, d_q_lines, d_q_all_lines, d_q_plain_words, d_q_spread, d_q_heard, d_q_partner, d_q_right, d_law, d_BadText_init, d_Reader_init, d_Reader_next_sort, d_Reader_fail, d_Reader_take, d_Reader_passed, d_Reader_part, d_Reader_several, d_Reader_functions, d_Reader_statements, d_Reader_labelled, d_Reader_statement, d_Reader_compound, d_Reader_named, d_Reader_expr, d_Reader_level, d_Reader_signed, d_Reader_item, d_Reader_field]
def fa : List He.Fa := [.glo "as_tuples", .glo "run_length", .glo "letters_sort", .glo "figures_sort", .glo "sign_at", .glo "token_at", .glo "tokens_of", .glo "tightness", .glo "operand_text", .glo "args_text", .glo "op_text", .glo "expr_text", .glo "head_text", .glo "inner_lines", .glo "block_lines", .glo "program_lines", .glo "read", .glo "write", .glo "_law_cells", .glo "_law_box", .glo "_law_take", .glo "_law_of", .glo "_law_same", .glo "_law_name", .glo "_law_names", .glo "_law_tree_leaf", .glo "_law_tree", .glo "_law_tree_part", .glo "_law_tree_block", .glo "_law_tree_program", .glo "_law_tight", .glo "_law_words", .glo "_law_bare_words", .glo "_law_row_words", .glo "_law_head_words", .glo "_law_lines", .glo "_law_all_lines", .glo "_law_plain_words", .glo "_law_spread", .glo "_law_heard", .glo "_law_partner", .glo "_law_right", .glo "law", .glo "BadText", .glo "Unsound", .glo "BadLine", .glo "Reader", .glo "SIGNS", .glo "KEYWORDS", .glo "TIGHTNESS", .glo "LEVELS", .glo "BEGINNINGS", .free "isinstance", .free "list", .free "tuple", .free "len", .free "str", .free "int", .free "range", .free "enumerate", .free "abs", .free "repr", .free "min", .free "all", .free "ValueError", .str "LETTERS" "abcdefghijklmnopqrstuvwxyz", .str "FIGURES" "0123456789", .str "GAPS" " \n", .str "NAME" "name", .str "INTEGER" "integer", .str "BAD" "bad", .str "OVER" "over", .str "INDENT" "  ", .str "EXPR" "expr", .str "FIELD" "field", .int "LIMIT" 1000000000000, .int "MOST_LETTERS" 12, .int "TESTS_writing" 2, .int "SIGNED" 5, .int "ITEM" 6, .int "TESTS_text" 2, .cls "Reader", .mkr "Reader", .noat "Reader" "own_tokens", .noat "Reader" "own_place", .meth "Reader" "next_sort", .meth "Reader" "fail", .meth "Reader" "take", .meth "Reader" "passed", .meth "Reader" "part", .meth "Reader" "several", .meth "Reader" "functions", .meth "Reader" "statements", .meth "Reader" "labelled", .meth "Reader" "statement", .meth "Reader" "compound", .meth "Reader" "named", .meth "Reader" "expr", .meth "Reader" "level", .meth "Reader" "signed", .meth "Reader" "item", .meth "Reader" "field", .exm "BadText" "BadText" true, .exm "BadText" "BadLine" false, .exm "BadText" "Unsound" false, .keep "BadText", .noat "BadText" "at"]
def tabs : List He.Tab := [(fun K => He.ga K "TIGHTNESS", ["or", "and", "==", "!=", "<", "<=", "+", "-", "*", "/", "mod"])]
def levelsB (K : PySem.W.Frag) : List (List Str) → List Value → Bool
  | [], [] => true
  | l :: ls, .ref a :: us => (match K.lookup a with
    | some ⟨.type c, _, .seq its _, _⟩ => decide (c = "tuple") && (decide (its.size ≤ sizeLine) && He.relAll (l.map V.str) its.toList)
    | _ => false) && levelsB K ls us
  | _, _ => false
def lvls : List (List Str) := [["or"], ["and"], ["==", "!=", "<", "<="], ["+", "-"], ["*", "/", "mod"]]
def oexB (K : PySem.W.Frag) (C : Addr) : Bool := match K.lookup C with
  | some ⟨.type "type", _, .cls cd, sl⟩ => (match cd.mro, sl.toList with
    | .ref C' :: bm, [_, _, _, _, some (.builtin n), _] => (C' == C && n == "ValueError.__new__") && ((!cd.hasDel && cd.hasDict) && PySem.HandSPX.refsVE bm)
    | _, _ => false)
  | _ => false
def bt (K : PySem.W.Frag) : Value := .ref (He.ga K "BadText")
def ex (K : PySem.W.Frag) : Bool :=
  (match K.lookup (He.ga K "LEVELS") with
    | some ⟨.type c, _, .seq its _, _⟩ => decide (c = "tuple") && (decide (its.size ≤ sizeLine) && levelsB K lvls its.toList)
    | _ => false) &&
  (He.tupB K "SIGNS" [.str "==", .str "!=", .str "<=", .str "(", .str ")", .str ",", .str ":", .str ".", .str "=", .str "<", .str "+", .str "-", .str "*", .str "/"] &&
  (He.tupB K "KEYWORDS" [.str "func", .str "end", .str "let", .str "if", .str "else", .str "while", .str "return", .str "send", .str "spawn", .str "try", .str "catch", .str "throw", .str "here", .str "new", .str "receive", .str "none", .str "and", .str "or", .str "not", .str "mod"] &&
  (He.tupB K "BEGINNINGS" [.str "name", .str "let", .str "if", .str "while", .str "return", .str "throw", .str "send", .str "spawn", .str "try", .str "here"] &&
  (He.valsB K (He.ga K "TIGHTNESS") [("or", .int 0), ("and", .int 1), ("==", .int 2), ("!=", .int 2), ("<", .int 2), ("<=", .int 2), ("+", .int 3), ("-", .int 3), ("*", .int 4), ("/", .int 4), ("mod", .int 4)] &&
  (oexB K (He.ga K "BadText") && (xfB K (He.ga K "BadText") &&
  (decide (PySem.W.findIn K (bt K) "__setattr__" = some (some (.builtin "object.__setattr__"))) &&
  (decide (PySem.W.typeIn K (bt K) = some (.type "type")) &&
  (decide (PySem.W.findIn K (bt K) "__init__" = some (some (.ref (He.ma K (He.ga K "BadText") "__init__")))) &&
  (decide (PySem.W.typeIn K (.ref (He.ma K (He.ga K "BadText") "__init__")) = some (.type "function")) &&
  ((match PySem.W.findCls K (.type "ValueError") (.type "type") "__init__" with
    | some (.val v) => decide (v = .builtin "ValueError.__init__")
    | _ => false) &&
  (decide (PySem.W.findIn K (bt K) "__class__" = some (some (.builtin "object.__class__"))) &&
  (decide (PySem.W.specialIn K (.builtin "object.__class__") "__get__" = some (some (.builtin "getset_descriptor.__get__"))) &&
  (decide (PySem.W.takesIn K (.builtin "object.__class__") = some true) &&
  (decide (PySem.W.mroIn K (He.ga K "BadText") (.type "object") = some true) &&
  (decide (PySem.W.kitOne K (bt K) (bt K) = some true) && (decide (PySem.W.kitOne K (bt K) (.type "ValueError") = some true) &&
  decide (PySem.W.kitAny K (bt K) [.ref (He.ga K "BadLine"), .ref (He.ga K "Unsound")] = some false))))))))))))))))))
abbrev R : PySem.W.OpenRow := PySem.W.OpenLaw.row PySem.Challenge.rw_lastingrun_k04_whole_read_and_write
abbrev hk : PySem.W.Hook := He.hookX 6 fa fn tabs [] ex
def ob (s : PySem.W.SharedT) : He.AlX := He.obsX 6 fa fn tabs [] ex (HandSHeadRun.getT s)
theorem ob_eq (s : PySem.W.SharedT) : ob s = hk.obs s.abs := He.obsX_eq (HandSHeadRun.getT_eq s)
def names0 : List PySem.Str := ["BadText", "Unsound", "BadLine", "as_tuples", "LIMIT", "LETTERS", "FIGURES", "GAPS", "SIGNS", "KEYWORDS", "MOST_LETTERS", "NAME", "INTEGER", "BAD", "OVER", "run_length", "letters_sort", "figures_sort", "sign_at", "token_at"]
def names1 : List PySem.Str := ["tokens_of", "TIGHTNESS", "TESTS_writing", "SIGNED", "ITEM", "INDENT", "tightness", "operand_text", "args_text", "op_text", "expr_text", "head_text", "inner_lines", "block_lines", "program_lines", "LEVELS", "TESTS_text", "EXPR", "FIELD", "BEGINNINGS"]
def names2 : List PySem.Str := ["Reader", "read", "write", "_law_cells", "_law_box", "_law_take", "_law_of", "_law_same", "_law_name", "_law_names", "_law_tree_leaf", "_law_tree", "_law_tree_part", "_law_tree_block", "_law_tree_program", "_law_tight", "_law_words", "_law_bare_words", "_law_row_words", "_law_head_words"]
def names3 : List PySem.Str := ["_law_lines", "_law_all_lines", "_law_plain_words", "_law_spread", "_law_heard", "_law_partner", "_law_right"]
def names : List PySem.Str := names0 ++ names1 ++ names2 ++ names3
open PySem.W PySem.Calls PyProof.Rows in
theorem runF (w : World) : HandSHeadRun.RunEq R (PySem.W.view R.prog [73]) hk ob 5000 names (w.withFollow "special-get-raises" false) := by
  intro os
  kernel_rfl
open PySem.W PySem.Calls PyProof.Rows in
theorem runT (w : World) : HandSHeadRun.RunEq R (PySem.W.view R.prog [73]) hk ob 5000 names (w.withFollow "special-get-raises" true) := by
  intro os
  kernel_rfl
open PySem.W PySem.Calls PyProof.Rows in
theorem run (w : World) : HandSHeadRun.RunEq R (PySem.W.view R.prog [73]) hk ob 5000 names w :=
  byRow2 "special-get-raises" (P := fun w => HandSHeadRun.RunEq R (PySem.W.view R.prog [73]) hk ob 5000 names w) runF runT w
end W4
set_option Elab.async false
set_option linter.all false
/-! K4a: programs as trees, their data, the tokens, the reader as plain functions with a bound of depth. -/
namespace K4
open PySem

inductive Ex where
  | int (n : Nat)
  | non
  | var (x : Str)
  | call (f : Str) (as : List Ex)
  | recv (p : Str)
  | new (fs : List (Str × Ex))
  | get (e : Ex) (f : Str)
  | neg (e : Ex)
  | not (e : Ex)
  | op (s : Str) (l r : Ex)
inductive St where
  | lt (x : Str) (e : Ex)
  | st (x : Str) (e : Ex)
  | put (r : Ex) (f : Str) (e : Ex)
  | act (f : Str) (as : List Ex)
  | iff (c : Ex) (a b : List St)
  | wh (c : Ex) (a : List St)
  | ret (e : Ex)
  | thr (e : Ex)
  | send (p : Str) (e : Ex)
  | spawn (f : Str) (as : List Ex)
  | tri (a : List St) (n : Str) (b : List St)
  | here (l : Str) (s : St)
structure Fn where
  x : Str
  ps : List Str
  b : List St
abbrev Pg := List Fn

mutual
def Ex.toD : Ex → PyData
  | .int n => .tuple [.str "int", .int n]
  | .non => .tuple [.str "none"]
  | .var x => .tuple [.str "var", .str x]
  | .call f as => .tuple [.str "call", .str f, .tuple (exsD as)]
  | .recv p => .tuple [.str "receive", .str p]
  | .new fs => .tuple [.str "new", .tuple (fsD fs)]
  | .get e f => .tuple [.str "get", e.toD, .str f]
  | .neg e => .tuple [.str "neg", e.toD]
  | .not e => .tuple [.str "not", e.toD]
  | .op s l r => .tuple [.str "op", .str s, l.toD, r.toD]
def exsD : List Ex → List PyData
  | [] => []
  | e :: r => e.toD :: exsD r
def fsD : List (Str × Ex) → List PyData
  | [] => []
  | (x, e) :: r => .tuple [.str x, e.toD] :: fsD r
end
mutual
def St.toD : St → PyData
  | .lt x e => .tuple [.str "let", .str x, e.toD]
  | .st x e => .tuple [.str "set", .str x, e.toD]
  | .put r f e => .tuple [.str "put", r.toD, .str f, e.toD]
  | .act f as => .tuple [.str "do", .tuple [.str "call", .str f, .tuple (exsD as)]]
  | .iff c a b => .tuple [.str "if", c.toD, .tuple (stsD a), .tuple (stsD b)]
  | .wh c a => .tuple [.str "while", c.toD, .tuple (stsD a)]
  | .ret e => .tuple [.str "return", e.toD]
  | .thr e => .tuple [.str "throw", e.toD]
  | .send p e => .tuple [.str "send", .str p, e.toD]
  | .spawn f as => .tuple [.str "spawn", .str f, .tuple (exsD as)]
  | .tri a n b => .tuple [.str "try", .tuple (stsD a), .str n, .tuple (stsD b)]
  | .here l s => .tuple [.str "here", .str l, s.toD]
def stsD : List St → List PyData
  | [] => []
  | s :: r => s.toD :: stsD r
end
def Fn.toD (f : Fn) : PyData := .tuple [.str f.x, .tuple (f.ps.map .str), .tuple (stsD f.b)]
def pgD (p : Pg) : PyData := .tuple (p.map Fn.toD)

/-! ### tokens, the reader -/
structure Tk where
  s : Str
  w : Str
  i : Nat
inductive R (α : Type) where
  | out
  | err (i : Nat)
  | ok (a : α) (ts : List Tk)
def R.bind {α β : Type} (r : R α) (f : α → List Tk → R β) : R β := match r with
  | .out => .out
  | .err i => .err i
  | .ok a ts => f a ts
abbrev PM (α : Type) := List Tk → R α
def hd (ts : List Tk) : Str := match ts with
  | [] => Str.empty
  | t :: _ => t.s
def ix (ts : List Tk) : Nat := match ts with
  | [] => 0
  | t :: _ => t.i
/-- one token on; there is one behind it -/
def adv {α : Type} (ts : List Tk) (k : Str → List Tk → R α) : R α := match ts with
  | t :: t' :: r => k t.w (t' :: r)
  | _ => .out
def take (s : Str) : PM Str := fun ts => if hd ts = s then adv ts .ok else .err (ix ts)

def nm : Str := "name"
def tn : Str := "integer"
def ov : Str := "over"
def bd : Str := "bad"
def levels : Nat → List Str
  | 0 => ["or"]
  | 1 => ["and"]
  | 2 => ["==", "!=", "<", "<="]
  | 3 => ["+", "-"]
  | 4 => ["*", "/", "mod"]
  | _ => []
def beginnings : List Str := ["name", "let", "if", "while", "return", "throw", "send", "spawn", "try", "here"]
/-- the number that digits write -/
def numOf (w : Str) : Nat := w.cps.toList.foldl (fun n c => n * 10 + (c - 48)) 0

def opLoop (p : PM Ex) (d : Nat) : Nat → Ex → PM Ex
  | 0, _, _ => .out
  | k + 1, x, ts => if hd ts ∈ levels d then adv ts fun _ ts1 => (p ts1).bind fun y ts2 => if d = 2 then .ok (.op (hd ts) x y) ts2 else opLoop p d k (.op (hd ts) x y) ts2
    else .ok x ts
def dotLoop : Nat → Ex → PM Ex
  | 0, _, _ => .out
  | k + 1, x, ts => if hd ts = "." then adv ts fun _ ts1 => (take nm ts1).bind fun f ts2 => dotLoop k (.get x f) ts2 else .ok x ts
def sepLoop {α : Type} (p : PM α) : Nat → List α → PM (List α)
  | 0, _, _ => .out
  | k + 1, acc, ts => if hd ts = "," then adv ts fun _ ts1 => (p ts1).bind fun a ts2 => sepLoop p k (acc ++ [a]) ts2 else .ok acc ts
def several {α : Type} (p : PM α) : PM (List α) := fun ts => (take "(" ts).bind fun _ ts1 =>
  if hd ts1 = ")" then adv ts1 fun _ ts2 => .ok [] ts2
  else (p ts1).bind fun a ts2 => (sepLoop p (ts2.length + 1) [a] ts2).bind fun as ts3 => (take ")" ts3).bind fun _ ts4 => .ok as ts4

mutual
def pLevel : Nat → Nat → PM Ex
  | 0, _, _ => .out
  | n + 1, d, ts => if d = 5 then pSigned n ts else (pLevel n (d + 1) ts).bind fun x ts1 => opLoop (pLevel n (d + 1)) d (ts1.length + 1) x ts1
def pSigned : Nat → PM Ex
  | 0, _ => .out
  | n + 1, ts => if hd ts = "-" then adv ts fun _ ts1 => (pSigned n ts1).bind fun x ts2 => .ok (.neg x) ts2
    else if hd ts = "not" then adv ts fun _ ts1 => (pSigned n ts1).bind fun x ts2 => .ok (.not x) ts2
    else (pItem n ts).bind fun x ts1 => dotLoop (ts1.length + 1) x ts1
def pItem : Nat → PM Ex
  | 0, _ => .out
  | n + 1, ts => if hd ts = tn then adv ts fun w ts1 => .ok (.int (numOf w)) ts1
    else if hd ts = nm then adv ts fun w ts1 => if hd ts1 = "(" then (pSevE n ts1).bind fun as ts2 => .ok (.call w as) ts2 else .ok (.var w) ts1
    else if hd ts = "none" then adv ts fun _ ts1 => .ok .non ts1
    else if hd ts = "receive" then adv ts fun _ ts1 => (take nm ts1).bind fun p ts2 => .ok (.recv p) ts2
    else if hd ts = "new" then adv ts fun _ ts1 => (pSevF n ts1).bind fun fs ts2 => .ok (.new fs) ts2
    else (take "(" ts).bind fun _ ts1 => (pExpr n ts1).bind fun x ts2 => (take ")" ts2).bind fun _ ts3 => .ok x ts3
def pExpr : Nat → PM Ex
  | 0, _ => .out
  | n + 1, ts => pLevel n 0 ts
def pPartE : Nat → PM Ex
  | 0, _ => .out
  | n + 1, ts => pExpr n ts
def pPartF : Nat → PM (Str × Ex)
  | 0, _ => .out
  | n + 1, ts => pField n ts
def pSevE : Nat → PM (List Ex)
  | 0, _ => .out
  | n + 1, ts => several (pPartE n) ts
def pSevF : Nat → PM (List (Str × Ex))
  | 0, _ => .out
  | n + 1, ts => several (pPartF n) ts
def pField : Nat → PM (Str × Ex)
  | 0, _ => .out
  | n + 1, ts => (take nm ts).bind fun x ts1 => (take ":" ts1).bind fun _ ts2 => (pExpr n ts2).bind fun e ts3 => .ok (x, e) ts3
end

def stLoop (lab st : PM St) : Nat → List St → PM (List St)
  | 0, _, _ => .out
  | k + 1, acc, ts => if hd ts ∈ beginnings then (if hd ts = "here" then lab ts else st ts).bind fun s ts1 => stLoop lab st k (acc ++ [s]) ts1 else .ok acc ts
def pathLoop : Nat → List Str → PM (List Str)
  | 0, _, _ => .out
  | k + 1, acc, ts => if hd ts = "." then adv ts fun _ ts1 => (take nm ts1).bind fun f ts2 => pathLoop k (acc ++ [f]) ts2 else .ok acc ts
def mkSet (x : Str) (path : List Str) (v : Ex) : St := match path.getLast? with
  | none => .st x v
  | some f => .put (path.dropLast.foldl .get (.var x)) f v
def mkComp (word : Str) (c : Ex) (a b : List St) : St := if word = "if" then .iff c a b else .wh c a
mutual
def pStmts : Nat → PM (List St)
  | 0, _ => .out
  | n + 1, ts => stLoop (pLab n) (pStmt n) (ts.length + 1) [] ts
def pLab : Nat → PM St
  | 0, _ => .out
  | n + 1, ts => (take "here" ts).bind fun _ ts1 => (take nm ts1).bind fun l ts2 => (pStmt n ts2).bind fun s ts3 => .ok (.here l s) ts3
def pStmt : Nat → PM St
  | 0, _ => .out
  | n + 1, ts => if hd ts = nm then pNamed n ts
    else if hd ts ∉ beginnings ∨ hd ts = "here" then .err (ix ts)
    else adv ts fun _ ts1 =>
      if hd ts = "if" ∨ hd ts = "while" ∨ hd ts = "try" then pComp n (hd ts) ts1
      else if hd ts = "spawn" then (take nm ts1).bind fun f ts2 => (pSevE n ts2).bind fun as ts3 => .ok (.spawn f as) ts3
      else if hd ts = "let" then (take nm ts1).bind fun x ts2 => (take "=" ts2).bind fun _ ts3 => (pExpr n ts3).bind fun e ts4 => .ok (.lt x e) ts4
      else if hd ts = "send" then (take nm ts1).bind fun p ts2 => (pExpr n ts2).bind fun e ts3 => .ok (.send p e) ts3
      else (pExpr n ts1).bind fun e ts2 => .ok (if hd ts = "return" then .ret e else .thr e) ts2
def pComp : Nat → Str → PM St
  | 0, _, _ => .out
  | n + 1, word, ts => if word = "try" then (pStmts n ts).bind fun a ts1 => (take "catch" ts1).bind fun _ ts2 => (take nm ts2).bind fun x ts3 => (pStmts n ts3).bind fun b ts4 => (take "end" ts4).bind fun _ ts5 => .ok (.tri a x b) ts5
    else (pExpr n ts).bind fun c ts1 => (pStmts n ts1).bind fun a ts2 =>
      if word = "if" ∧ hd ts2 = "else" then adv ts2 fun _ ts3 => (pStmts n ts3).bind fun b ts4 => (take "end" ts4).bind fun _ ts5 => .ok (mkComp word c a b) ts5
      else (take "end" ts2).bind fun _ ts5 => .ok (mkComp word c a []) ts5
def pNamed : Nat → PM St
  | 0, _ => .out
  | n + 1, ts => (take nm ts).bind fun x ts1 => if hd ts1 = "(" then (pSevE n ts1).bind fun as ts2 => .ok (.act x as) ts2
    else (pathLoop (ts1.length + 1) [] ts1).bind fun path ts2 => (take "=" ts2).bind fun _ ts3 => (pExpr n ts3).bind fun v ts4 => .ok (mkSet x path v) ts4
end
def fnLoop (stm : PM (List St)) : Nat → List Fn → PM (List Fn)
  | 0, _, _ => .out
  | k + 1, acc, ts => if hd ts = ov then .ok acc ts
    else (take "func" ts).bind fun _ ts1 => (take nm ts1).bind fun x ts2 => (several (take nm) ts2).bind fun ps ts3 => (stm ts3).bind fun b ts4 => (take "end" ts4).bind fun _ ts5 => fnLoop stm k (acc ++ [⟨x, ps, b⟩]) ts5
def pRead (n : Nat) : PM Pg := fun ts => fnLoop (pStmts n) (ts.length + 1) [] ts
end K4
set_option Elab.async false
set_option linter.all false
/-! K4b: the bound of depth: by the nesting of parentheses D, of blocks B, the runs of signs RM. -/
namespace K4
open PySem

def D : List Tk → Nat
  | [] => 0
  | t :: r => if t.s = "(" then D r + 1 else if t.s = ")" then D r - 1 else D r
def B : List Tk → Nat
  | [] => 0
  | t :: r => if t.s = "if" ∨ t.s = "while" ∨ t.s = "try" ∨ t.s = "func" then B r + 1 else if t.s = "end" then B r - 1 else B r
def lr : List Tk → Nat
  | [] => 0
  | t :: r => if t.s = "-" ∨ t.s = "not" then lr r + 1 else 0
def RM : List Tk → Nat
  | [] => 0
  | t :: r => max (lr (t :: r)) (RM r)
def Fin : List Tk → Prop
  | [] => False
  | t :: r => match r with
    | [] => t.s = ov
    | _ => t.s ≠ ov ∧ Fin r
theorem lr_le (ts : List Tk) : lr ts ≤ RM ts := by
  cases ts with
  | nil => exact Nat.le_refl _
  | cons t r => exact Nat.le_max_left _ _
theorem RM_tl (t : Tk) (r : List Tk) : RM r ≤ RM (t :: r) := Nat.le_max_right _ _

/-- not out, and at an end P -/
def G {α : Type} (P : List Tk → Prop) (r : R α) : Prop := match r with
  | .out => False
  | .err _ => True
  | .ok _ ts => P ts
theorem G.bind {α β : Type} {P Q : List Tk → Prop} {r : R α} {f : α → List Tk → R β} (h : G P r) (k : ∀ a ts, P ts → G Q (f a ts)) : G Q (r.bind f) := by
  cases r with
  | out => exact h.elim
  | err i => exact True.intro
  | ok a ts => exact k a ts h
theorem G.mono {α : Type} {P Q : List Tk → Prop} {r : R α} (h : G P r) (k : ∀ ts, P ts → Q ts) : G Q r := by
  cases r with
  | out => exact h
  | err i => exact True.intro
  | ok a ts => exact k ts h
theorem fin_hd {ts : List Tk} (h : Fin ts) (n : hd ts ≠ ov) : ∃ t t' r, ts = t :: t' :: r ∧ Fin (t' :: r) := by
  match ts, h, n with
  | [], h, _ => exact h.elim
  | [t], h, n => exact absurd h n
  | t :: t' :: r, h, _ => exact ⟨t, t', r, rfl, h.2⟩
/-- what one token does -/
structure Stp (s : Str) (ts ts' : List Tk) : Prop where
  fin : Fin ts'
  len : ts'.length < ts.length
  rm : RM ts' ≤ RM ts
  lr_ : lr ts = if s = "-" ∨ s = "not" then lr ts' + 1 else 0
  d : D ts = if s = "(" then D ts' + 1 else if s = ")" then D ts' - 1 else D ts'
  b : B ts = if s = "if" ∨ s = "while" ∨ s = "try" ∨ s = "func" then B ts' + 1 else if s = "end" then B ts' - 1 else B ts'
theorem adv_stp {ts : List Tk} (h : Fin ts) {s : Str} (e : hd ts = s) (n : s ≠ ov) : ∃ w ts', Stp s ts ts' ∧ ∀ {α : Type} (k : Str → List Tk → R α), adv ts k = k w ts' := by
  subst e
  obtain ⟨t, t', r, rfl, hf⟩ := fin_hd h n
  exact ⟨t.w, t' :: r, ⟨hf, Nat.lt_succ_self _, RM_tl _ _, rfl, rfl, rfl⟩, fun k => rfl⟩
theorem take_G {ts : List Tk} (h : Fin ts) {s : Str} (n : s ≠ ov) : G (Stp s ts) (take s ts) := by
  unfold take
  by_cases e : hd ts = s
  · rw [if_pos e]
    obtain ⟨w, ts', st, ha⟩ := adv_stp h e n
    rw [ha]
    exact st
  · rw [if_neg e]
    exact True.intro
/-- behind an expression or a statement -/
structure Px (ts ts' : List Tk) : Prop where
  fin : Fin ts'
  len : ts'.length < ts.length
  rm : RM ts' ≤ RM ts
  d : D ts' ≤ D ts
  b : B ts' ≤ B ts
structure Px0 (ts ts' : List Tk) : Prop where
  fin : Fin ts'
  len : ts'.length ≤ ts.length
  rm : RM ts' ≤ RM ts
  d : D ts' ≤ D ts
  b : B ts' ≤ B ts
theorem Px.le {ts ts' : List Tk} (h : Px ts ts') : Px0 ts ts' := ⟨h.fin, Nat.le_of_lt h.len, h.rm, h.d, h.b⟩
theorem Px0.refl {ts : List Tk} (h : Fin ts) : Px0 ts ts := ⟨h, Nat.le_refl _, Nat.le_refl _, Nat.le_refl _, Nat.le_refl _⟩
theorem Px.trans {a b c : List Tk} (h : Px a b) (k : Px0 b c) : Px a c := ⟨k.fin, Nat.lt_of_le_of_lt k.len h.len, Nat.le_trans k.rm h.rm, Nat.le_trans k.d h.d, Nat.le_trans k.b h.b⟩
theorem Px0.trans {a b c : List Tk} (h : Px0 a b) (k : Px0 b c) : Px0 a c := ⟨k.fin, Nat.le_trans k.len h.len, Nat.le_trans k.rm h.rm, Nat.le_trans k.d h.d, Nat.le_trans k.b h.b⟩
/-- a neutral token -/
def neut (s : Str) : Bool := !(s == "(" || s == ")" || s == "if" || s == "while" || s == "try" || s == "func" || s == "end")
theorem Stp.px {s : Str} {ts ts' : List Tk} (h : Stp s ts ts') (n : neut s = true) : Px ts ts' := by
  have hd := h.d
  have hb := h.b
  simp only [neut, Bool.not_eq_true', Bool.or_eq_false_iff, beq_eq_false_iff_ne, ne_eq] at n
  obtain ⟨⟨⟨⟨⟨⟨n1, n2⟩, n3⟩, n4⟩, n5⟩, n6⟩, n7⟩ := n
  rw [if_neg n1, if_neg n2] at hd
  rw [if_neg (by simp [n3, n4, n5, n6]), if_neg n7] at hb
  exact ⟨h.fin, h.len, h.rm, Nat.le_of_eq hd.symm, Nat.le_of_eq hb.symm⟩

theorem lev_neut {d : Nat} {s : Str} (h : s ∈ levels d) : neut s = true ∧ s ≠ ov := by
  match d, h with
  | 0, h => exact (show ∀ s ∈ levels 0, neut s = true ∧ s ≠ ov by decide) s h
  | 1, h => exact (show ∀ s ∈ levels 1, neut s = true ∧ s ≠ ov by decide) s h
  | 2, h => exact (show ∀ s ∈ levels 2, neut s = true ∧ s ≠ ov by decide) s h
  | 3, h => exact (show ∀ s ∈ levels 3, neut s = true ∧ s ≠ ov by decide) s h
  | 4, h => exact (show ∀ s ∈ levels 4, neut s = true ∧ s ≠ ov by decide) s h
  | d + 5, h => cases h

theorem opLoop_G {p : PM Ex} {d : Nat} {t0 : List Tk} (hp : ∀ ts, Px t0 ts → G (Px ts) (p ts)) : ∀ (k : Nat) (x : Ex) (ts : List Tk), Px t0 ts → ts.length < k → G (Px0 ts) (opLoop p d k x ts)
  | 0, _, _, _, h => absurd h (Nat.not_lt_zero _)
  | k + 1, x, ts, h0, hk => by
    unfold opLoop
    by_cases e : hd ts ∈ levels d
    · rw [if_pos e]
      obtain ⟨n1, n2⟩ := lev_neut e
      obtain ⟨w, ts1, st, ha⟩ := adv_stp h0.fin rfl n2
      rw [ha]
      have p1 := st.px n1
      refine (hp ts1 (h0.trans p1.le)).bind fun y ts2 p2 => ?_
      by_cases e2 : d = 2
      · rw [if_pos e2]
        exact (p1.trans p2.le).le
      · rw [if_neg e2]
        refine (opLoop_G hp k _ ts2 (h0.trans (p1.trans p2.le).le) ?_).mono fun ts3 p3 => (p1.trans p2.le).le.trans p3
        have := p1.len
        have := p2.len
        omega
    · rw [if_neg e]
      exact Px0.refl h0.fin
theorem dotLoop_G : ∀ (k : Nat) (x : Ex) (ts : List Tk), Fin ts → ts.length < k → G (Px0 ts) (dotLoop k x ts)
  | 0, _, _, _, h => absurd h (Nat.not_lt_zero _)
  | k + 1, x, ts, h0, hk => by
    unfold dotLoop
    by_cases e : hd ts = "."
    · rw [if_pos e]
      obtain ⟨w, ts1, st, ha⟩ := adv_stp h0 e (by decide)
      rw [ha]
      have p1 := st.px (by decide)
      refine (take_G p1.fin (by decide)).bind fun f ts2 st2 => ?_
      have p2 := st2.px (by decide)
      refine (dotLoop_G k _ ts2 p2.fin (by have := p1.len; have := p2.len; omega)).mono fun ts3 p3 => (p1.trans p2.le).le.trans p3
    · rw [if_neg e]
      exact Px0.refl h0
theorem pathLoop_G : ∀ (k : Nat) (acc : List Str) (ts : List Tk), Fin ts → ts.length < k → G (Px0 ts) (pathLoop k acc ts)
  | 0, _, _, _, h => absurd h (Nat.not_lt_zero _)
  | k + 1, x, ts, h0, hk => by
    unfold pathLoop
    by_cases e : hd ts = "."
    · rw [if_pos e]
      obtain ⟨w, ts1, st, ha⟩ := adv_stp h0 e (by decide)
      rw [ha]
      have p1 := st.px (by decide)
      refine (take_G p1.fin (by decide)).bind fun f ts2 st2 => ?_
      have p2 := st2.px (by decide)
      refine (pathLoop_G k _ ts2 p2.fin (by have := p1.len; have := p2.len; omega)).mono fun ts3 p3 => (p1.trans p2.le).le.trans p3
    · rw [if_neg e]
      exact Px0.refl h0
theorem sepLoop_G {α : Type} {p : PM α} {t0 : List Tk} (hp : ∀ ts, Px0 t0 ts → G (Px ts) (p ts)) : ∀ (k : Nat) (acc : List α) (ts : List Tk), Px0 t0 ts → ts.length < k → G (Px0 ts) (sepLoop p k acc ts)
  | 0, _, _, _, h => absurd h (Nat.not_lt_zero _)
  | k + 1, acc, ts, h0, hk => by
    unfold sepLoop
    by_cases e : hd ts = ","
    · rw [if_pos e]
      obtain ⟨w, ts1, st, ha⟩ := adv_stp h0.fin e (by decide)
      rw [ha]
      have p1 := st.px (by decide)
      refine (hp ts1 (h0.trans p1.le)).bind fun y ts2 p2 => ?_
      refine (sepLoop_G hp k _ ts2 (h0.trans (p1.trans p2.le).le) ?_).mono fun ts3 p3 => (p1.trans p2.le).le.trans p3
      have := p1.len
      have := p2.len
      omega
    · rw [if_neg e]
      exact Px0.refl h0.fin
theorem several_G {α : Type} {p : PM α} {t0 : List Tk} (hf : Fin t0) (hp : ∀ ts, Fin ts → RM ts ≤ RM t0 → D ts + 1 ≤ D t0 → B ts ≤ B t0 → G (Px ts) (p ts)) : G (Px t0) (several p t0) := by
  unfold several
  refine (take_G hf (by decide)).bind fun _ ts1 s1 => ?_
  have d1 : D t0 = D ts1 + 1 := s1.d
  have b1 : B t0 = B ts1 := s1.b
  have l1 := s1.len
  by_cases e : hd ts1 = ")"
  · rw [if_pos e]
    obtain ⟨w, ts2, st, ha⟩ := adv_stp s1.fin e (by decide)
    rw [ha]
    have d2 : D ts1 = D ts2 - 1 := st.d
    have b2 : B ts1 = B ts2 := st.b
    have l2 := st.len
    exact ⟨st.fin, by omega, Nat.le_trans st.rm s1.rm, by omega, by omega⟩
  · rw [if_neg e]
    have hp' : ∀ ts, Px0 ts1 ts → G (Px ts) (p ts) := fun ts h => hp ts h.fin (Nat.le_trans h.rm s1.rm) (by have := h.d; omega) (by have := h.b; omega)
    refine (hp' ts1 (Px0.refl s1.fin)).bind fun a ts2 p2 => ?_
    refine (sepLoop_G hp' _ _ ts2 p2.le (Nat.lt_succ_self _)).bind fun as ts3 p3 => ?_
    refine (take_G p3.fin (by decide)).bind fun _ ts4 s4 => ?_
    have d4 : D ts3 = D ts4 - 1 := s4.d
    have b4 : B ts3 = B ts4 := s4.b
    have l4 := s4.len
    have l2 := p2.len
    have l3 := p3.len
    have d2 := p2.d
    have d3 := p3.d
    have b2 := p2.b
    have b3 := p3.b
    exact ⟨s4.fin, by omega, Nat.le_trans s4.rm (Nat.le_trans p3.rm (Nat.le_trans p2.rm s1.rm)), by omega, by omega⟩

mutual
theorem pLevel_G : ∀ (n d : Nat) (ts : List Tk), Fin ts → RM ts ≤ 8 → d ≤ 5 → 22 * D ts + 17 - d ≤ n → G (Px ts) (pLevel n d ts)
  | 0, d, ts, hf, hr, hd5, hn => by omega
  | n + 1, d, ts, hf, hr, hd5, hn => by
    unfold pLevel
    by_cases e : d = 5
    · rw [if_pos e]
      have := lr_le ts
      exact pSigned_G n ts hf hr (by omega)
    · rw [if_neg e]
      have hp : ∀ ts', Px0 ts ts' → G (Px ts') (pLevel n (d + 1) ts') := fun ts' h => pLevel_G n (d + 1) ts' h.fin (Nat.le_trans h.rm hr) (by omega) (by have := h.d; omega)
      refine (hp ts (Px0.refl hf)).bind fun x ts1 p1 => ?_
      exact (opLoop_G (t0 := ts) (fun ts' h => hp ts' h.le) _ x ts1 p1 (Nat.lt_succ_self _)).mono fun ts2 p2 => p1.trans p2
theorem pSigned_G : ∀ (n : Nat) (ts : List Tk), Fin ts → RM ts ≤ 8 → 22 * D ts + lr ts + 3 ≤ n → G (Px ts) (pSigned n ts)
  | 0, ts, hf, hr, hn => by omega
  | n + 1, ts, hf, hr, hn => by
    unfold pSigned
    by_cases e : hd ts = "-"
    · rw [if_pos e]
      obtain ⟨w, ts1, st, ha⟩ := adv_stp hf e (by decide)
      rw [ha]
      have p1 := st.px (by decide)
      have hl : lr ts = lr ts1 + 1 := st.lr_
      refine (pSigned_G n ts1 p1.fin (Nat.le_trans p1.rm hr) (by have := p1.d; omega)).bind fun x ts2 p2 => ?_
      exact p1.trans p2.le
    · rw [if_neg e]
      by_cases e2 : hd ts = "not"
      · rw [if_pos e2]
        obtain ⟨w, ts1, st, ha⟩ := adv_stp hf e2 (by decide)
        rw [ha]
        have p1 := st.px (by decide)
        have hl : lr ts = lr ts1 + 1 := st.lr_
        refine (pSigned_G n ts1 p1.fin (Nat.le_trans p1.rm hr) (by have := p1.d; omega)).bind fun x ts2 p2 => ?_
        exact p1.trans p2.le
      · rw [if_neg e2]
        refine (pItem_G n ts hf hr (by omega)).bind fun x ts1 p1 => ?_
        exact (dotLoop_G _ x ts1 p1.fin (Nat.lt_succ_self _)).mono fun ts2 p2 => p1.trans p2
theorem pItem_G : ∀ (n : Nat) (ts : List Tk), Fin ts → RM ts ≤ 8 → 22 * D ts + 2 ≤ n → G (Px ts) (pItem n ts)
  | 0, ts, hf, hr, hn => by omega
  | n + 1, ts, hf, hr, hn => by
    unfold pItem
    by_cases e : hd ts = tn
    · rw [if_pos e]
      obtain ⟨w, ts1, st, ha⟩ := adv_stp hf e (by decide)
      rw [ha]
      exact st.px (by decide)
    rw [if_neg e]
    by_cases e : hd ts = nm
    · rw [if_pos e]
      obtain ⟨w, ts1, st, ha⟩ := adv_stp hf e (by decide)
      rw [ha]
      have p1 := st.px (by decide)
      by_cases e2 : hd ts1 = "("
      · rw [if_pos e2]
        refine (pSevE_G n ts1 p1.fin (Nat.le_trans p1.rm hr) (by have := p1.d; omega)).bind fun as ts2 p2 => ?_
        exact p1.trans p2.le
      · rw [if_neg e2]
        exact p1
    rw [if_neg e]
    by_cases e : hd ts = "none"
    · rw [if_pos e]
      obtain ⟨w, ts1, st, ha⟩ := adv_stp hf e (by decide)
      rw [ha]
      exact st.px (by decide)
    rw [if_neg e]
    by_cases e : hd ts = "receive"
    · rw [if_pos e]
      obtain ⟨w, ts1, st, ha⟩ := adv_stp hf e (by decide)
      rw [ha]
      have p1 := st.px (by decide)
      refine (take_G p1.fin (by decide)).bind fun p ts2 s2 => ?_
      exact p1.trans (s2.px (by decide)).le
    rw [if_neg e]
    by_cases e : hd ts = "new"
    · rw [if_pos e]
      obtain ⟨w, ts1, st, ha⟩ := adv_stp hf e (by decide)
      rw [ha]
      have p1 := st.px (by decide)
      refine (pSevF_G n ts1 p1.fin (Nat.le_trans p1.rm hr) (by have := p1.d; omega)).bind fun as ts2 p2 => ?_
      exact p1.trans p2.le
    rw [if_neg e]
    refine (take_G hf (by decide)).bind fun _ ts1 s1 => ?_
    have d1 : D ts = D ts1 + 1 := s1.d
    have b1 : B ts = B ts1 := s1.b
    have l1 := s1.len
    refine (pExpr_G n ts1 s1.fin (Nat.le_trans s1.rm hr) (by omega)).bind fun x ts2 p2 => ?_
    refine (take_G p2.fin (by decide)).bind fun _ ts3 s3 => ?_
    have d3 : D ts2 = D ts3 - 1 := s3.d
    have b3 : B ts2 = B ts3 := s3.b
    have l3 := s3.len
    have l2 := p2.len
    have d2 := p2.d
    have b2 := p2.b
    exact ⟨s3.fin, by omega, Nat.le_trans s3.rm (Nat.le_trans p2.rm s1.rm), by omega, by omega⟩
theorem pExpr_G : ∀ (n : Nat) (ts : List Tk), Fin ts → RM ts ≤ 8 → 22 * D ts + 18 ≤ n → G (Px ts) (pExpr n ts)
  | 0, ts, hf, hr, hn => by omega
  | n + 1, ts, hf, hr, hn => by
    unfold pExpr
    exact pLevel_G n 0 ts hf hr (by omega) (by omega)
theorem pPartE_G : ∀ (n : Nat) (ts : List Tk), Fin ts → RM ts ≤ 8 → 22 * D ts + 19 ≤ n → G (Px ts) (pPartE n ts)
  | 0, ts, hf, hr, hn => by omega
  | n + 1, ts, hf, hr, hn => by
    unfold pPartE
    exact pExpr_G n ts hf hr (by omega)
theorem pPartF_G : ∀ (n : Nat) (ts : List Tk), Fin ts → RM ts ≤ 8 → 22 * D ts + 20 ≤ n → G (Px ts) (pPartF n ts)
  | 0, ts, hf, hr, hn => by omega
  | n + 1, ts, hf, hr, hn => by
    unfold pPartF
    exact pField_G n ts hf hr (by omega)
theorem pSevE_G : ∀ (n : Nat) (ts : List Tk), Fin ts → RM ts ≤ 8 → 22 * D ts + 1 ≤ n → G (Px ts) (pSevE n ts)
  | 0, ts, hf, hr, hn => by omega
  | n + 1, ts, hf, hr, hn => by
    unfold pSevE
    exact several_G hf fun ts' h1 h2 h3 h4 => pPartE_G n ts' h1 (Nat.le_trans h2 hr) (by omega)
theorem pSevF_G : ∀ (n : Nat) (ts : List Tk), Fin ts → RM ts ≤ 8 → 22 * D ts + 1 ≤ n → G (Px ts) (pSevF n ts)
  | 0, ts, hf, hr, hn => by omega
  | n + 1, ts, hf, hr, hn => by
    unfold pSevF
    exact several_G hf fun ts' h1 h2 h3 h4 => pPartF_G n ts' h1 (Nat.le_trans h2 hr) (by omega)
theorem pField_G : ∀ (n : Nat) (ts : List Tk), Fin ts → RM ts ≤ 8 → 22 * D ts + 19 ≤ n → G (Px ts) (pField n ts)
  | 0, ts, hf, hr, hn => by omega
  | n + 1, ts, hf, hr, hn => by
    unfold pField
    refine (take_G hf (by decide)).bind fun x ts1 s1 => ?_
    have p1 := s1.px (by decide)
    refine (take_G p1.fin (by decide)).bind fun _ ts2 s2 => ?_
    have p2 := p1.trans (s2.px (by decide)).le
    refine (pExpr_G n ts2 p2.fin (Nat.le_trans p2.rm hr) (by have := p2.d; omega)).bind fun e ts3 p3 => ?_
    exact p2.trans p3.le
end
end K4
set_option Elab.async false
set_option linter.all false
/-! K4c: the same for statements and the whole program. -/
namespace K4
open PySem
/-- a Px that may have closed a block -/
structure Py (ts ts' : List Tk) : Prop where
  fin : Fin ts'
  len : ts'.length < ts.length
  rm : RM ts' ≤ RM ts
  d : D ts' ≤ D ts
  b : B ts' ≤ B ts + 1
theorem stLoop_G {lab st : PM St} {t0 : List Tk} (hl : ∀ ts, Px0 t0 ts → G (Px ts) (lab ts)) (hs : ∀ ts, Px0 t0 ts → G (Px ts) (st ts)) : ∀ (k : Nat) (acc : List St) (ts : List Tk), Px0 t0 ts → ts.length < k → G (Px0 ts) (stLoop lab st k acc ts)
  | 0, _, _, _, h => absurd h (Nat.not_lt_zero _)
  | k + 1, acc, ts, h0, hk => by
    unfold stLoop
    by_cases e : hd ts ∈ beginnings
    · rw [if_pos e]
      have hx : G (Px ts) (if hd ts = "here" then lab ts else st ts) := by
        by_cases e2 : hd ts = "here"
        · rw [if_pos e2]
          exact hl ts h0
        · rw [if_neg e2]
          exact hs ts h0
      refine hx.bind fun s ts1 p1 => ?_
      refine (stLoop_G hl hs k _ ts1 (h0.trans p1.le) ?_).mono fun ts3 p3 => p1.le.trans p3
      have := p1.len
      omega
    · rw [if_neg e]
      exact Px0.refl h0.fin
theorem beg_ne {s : Str} (h : s ∈ beginnings) : s ≠ ov := (show ∀ s ∈ beginnings, s ≠ ov by decide) s h
theorem beg_neut {s : Str} (h : s ∈ beginnings) (h1 : ¬ (s = "if" ∨ s = "while" ∨ s = "try")) : neut s = true :=
  (show ∀ s ∈ beginnings, ¬ (s = "if" ∨ s = "while" ∨ s = "try") → neut s = true by decide) s h h1
theorem end_px {ts1 ts2 : List Tk} (s2 : Stp "end" ts1 ts2) : Fin ts2 ∧ ts2.length < ts1.length ∧ RM ts2 ≤ RM ts1 ∧ D ts2 = D ts1 ∧ B ts2 ≤ B ts1 + 1 := by
  have d2 : D ts1 = D ts2 := s2.d
  have b2 : B ts1 = B ts2 - 1 := s2.b
  exact ⟨s2.fin, s2.len, s2.rm, d2.symm, by omega⟩
mutual
theorem pStmts_G : ∀ (n : Nat) (ts : List Tk), Fin ts → RM ts ≤ 8 → 22 * D ts + 4 * B ts + 22 ≤ n → G (Px0 ts) (pStmts n ts)
  | 0, ts, hf, hr, hn => by omega
  | n + 1, ts, hf, hr, hn => by
    unfold pStmts
    exact stLoop_G (t0 := ts) (fun ts' h => pLab_G n ts' h.fin (Nat.le_trans h.rm hr) (by have := h.d; have := h.b; omega)) (fun ts' h => pStmt_G n ts' h.fin (Nat.le_trans h.rm hr) (by have := h.d; have := h.b; omega)) _ [] ts (Px0.refl hf) (Nat.lt_succ_self _)
theorem pLab_G : ∀ (n : Nat) (ts : List Tk), Fin ts → RM ts ≤ 8 → 22 * D ts + 4 * B ts + 21 ≤ n → G (Px ts) (pLab n ts)
  | 0, ts, hf, hr, hn => by omega
  | n + 1, ts, hf, hr, hn => by
    unfold pLab
    refine (take_G hf (by decide)).bind fun _ ts1 s1 => ?_
    have p1 := s1.px (by decide)
    refine (take_G p1.fin (by decide)).bind fun l ts2 s2 => ?_
    have p2 := p1.trans (s2.px (by decide)).le
    refine (pStmt_G n ts2 p2.fin (Nat.le_trans p2.rm hr) (by have := p2.d; have := p2.b; omega)).bind fun s ts3 p3 => ?_
    exact p2.trans p3.le
theorem pStmt_G : ∀ (n : Nat) (ts : List Tk), Fin ts → RM ts ≤ 8 → 22 * D ts + 4 * B ts + 20 ≤ n → G (Px ts) (pStmt n ts)
  | 0, ts, hf, hr, hn => by omega
  | n + 1, ts, hf, hr, hn => by
    unfold pStmt
    by_cases e : hd ts = nm
    · rw [if_pos e]
      exact pNamed_G n ts hf hr (by omega)
    rw [if_neg e]
    by_cases eb : hd ts ∉ beginnings ∨ hd ts = "here"
    · rw [if_pos eb]
      exact True.intro
    rw [if_neg eb]
    have hb : hd ts ∈ beginnings := Decidable.of_not_not fun q => eb (.inl q)
    obtain ⟨w, ts1, st, ha⟩ := adv_stp hf rfl (beg_ne hb)
    rw [ha]
    by_cases ec : hd ts = "if" ∨ hd ts = "while" ∨ hd ts = "try"
    · rw [if_pos ec]
      have b1 : B ts = B ts1 + 1 := by
        have := st.b
        rw [if_pos (by rcases ec with h | h | h <;> simp [h])] at this
        exact this
      have d1 : D ts = D ts1 := by
        have := st.d
        rw [if_neg (by rcases ec with h | h | h <;> (rw [h]; decide)), if_neg (by rcases ec with h | h | h <;> (rw [h]; decide))] at this
        exact this
      refine (pComp_G n (hd ts) ts1 st.fin (Nat.le_trans st.rm hr) (by omega)).mono fun ts2 p2 => ?_
      have l1 := st.len
      have l2 := p2.len
      have d2 := p2.d
      have b2 := p2.b
      exact ⟨p2.fin, by omega, Nat.le_trans p2.rm st.rm, by omega, by omega⟩
    rw [if_neg ec]
    have p1 := st.px (beg_neut hb ec)
    by_cases e1 : hd ts = "spawn"
    · rw [if_pos e1]
      refine (take_G p1.fin (by decide)).bind fun f ts2 s2 => ?_
      have p2 := p1.trans (s2.px (by decide)).le
      refine (pSevE_G n ts2 p2.fin (Nat.le_trans p2.rm hr) (by have := p2.d; omega)).bind fun as ts3 p3 => ?_
      exact p2.trans p3.le
    rw [if_neg e1]
    by_cases e1 : hd ts = "let"
    · rw [if_pos e1]
      refine (take_G p1.fin (by decide)).bind fun f ts2 s2 => ?_
      have p2 := p1.trans (s2.px (by decide)).le
      refine (take_G p2.fin (by decide)).bind fun _ ts3 s3 => ?_
      have p3 := p2.trans (s3.px (by decide)).le
      refine (pExpr_G n ts3 p3.fin (Nat.le_trans p3.rm hr) (by have := p3.d; omega)).bind fun as ts4 p4 => ?_
      exact p3.trans p4.le
    rw [if_neg e1]
    by_cases e1 : hd ts = "send"
    · rw [if_pos e1]
      refine (take_G p1.fin (by decide)).bind fun f ts2 s2 => ?_
      have p2 := p1.trans (s2.px (by decide)).le
      refine (pExpr_G n ts2 p2.fin (Nat.le_trans p2.rm hr) (by have := p2.d; omega)).bind fun as ts4 p4 => ?_
      exact p2.trans p4.le
    rw [if_neg e1]
    refine (pExpr_G n ts1 p1.fin (Nat.le_trans p1.rm hr) (by have := p1.d; omega)).bind fun as ts4 p4 => ?_
    exact p1.trans p4.le
theorem pComp_G : ∀ (n : Nat) (word : Str) (ts : List Tk), Fin ts → RM ts ≤ 8 → 22 * D ts + 4 * B ts + 23 ≤ n → G (Py ts) (pComp n word ts)
  | 0, word, ts, hf, hr, hn => by omega
  | n + 1, word, ts, hf, hr, hn => by
    unfold pComp
    by_cases e : word = "try"
    · rw [if_pos e]
      refine (pStmts_G n ts hf hr (by omega)).bind fun a ts1 p1 => ?_
      refine (take_G p1.fin (by decide)).bind fun _ ts2 s2 => ?_
      have p2 := p1.trans (s2.px (by decide)).le
      refine (take_G p2.fin (by decide)).bind fun x ts3 s3 => ?_
      have p3 := p2.trans (s3.px (by decide)).le
      refine (pStmts_G n ts3 p3.fin (Nat.le_trans p3.rm hr) (by have := p3.d; have := p3.b; omega)).bind fun b ts4 p4 => ?_
      refine (take_G p4.fin (by decide)).bind fun _ ts5 s5 => ?_
      obtain ⟨q1, q2, q3, q4, q5⟩ := end_px s5
      have p := p3.trans p4
      have := p.len
      have := p.d
      have := p.b
      exact ⟨q1, by omega, Nat.le_trans q3 p.rm, by omega, by omega⟩
    rw [if_neg e]
    refine (pExpr_G n ts hf hr (by omega)).bind fun c ts1 p1 => ?_
    refine (pStmts_G n ts1 p1.fin (Nat.le_trans p1.rm hr) (by have := p1.d; have := p1.b; omega)).bind fun a ts2 p2' => ?_
    have p2 := p1.trans p2'
    by_cases e2 : word = "if" ∧ hd ts2 = "else"
    · rw [if_pos e2]
      obtain ⟨w, ts3, s3, ha⟩ := adv_stp p2.fin e2.2 (by decide)
      rw [ha]
      have p3 := p2.trans (s3.px (by decide)).le
      refine (pStmts_G n ts3 p3.fin (Nat.le_trans p3.rm hr) (by have := p3.d; have := p3.b; omega)).bind fun b ts4 p4 => ?_
      refine (take_G p4.fin (by decide)).bind fun _ ts5 s5 => ?_
      obtain ⟨q1, q2, q3, q4, q5⟩ := end_px s5
      have p := p3.trans p4
      have := p.len
      have := p.d
      have := p.b
      exact ⟨q1, by omega, Nat.le_trans q3 p.rm, by omega, by omega⟩
    · rw [if_neg e2]
      refine (take_G p2.fin (by decide)).bind fun _ ts5 s5 => ?_
      obtain ⟨q1, q2, q3, q4, q5⟩ := end_px s5
      have := p2.len
      have := p2.d
      have := p2.b
      exact ⟨q1, by omega, Nat.le_trans q3 p2.rm, by omega, by omega⟩
theorem pNamed_G : ∀ (n : Nat) (ts : List Tk), Fin ts → RM ts ≤ 8 → 22 * D ts + 19 ≤ n → G (Px ts) (pNamed n ts)
  | 0, ts, hf, hr, hn => by omega
  | n + 1, ts, hf, hr, hn => by
    unfold pNamed
    refine (take_G hf (by decide)).bind fun x ts1 s1 => ?_
    have p1 := s1.px (by decide)
    by_cases e : hd ts1 = "("
    · rw [if_pos e]
      refine (pSevE_G n ts1 p1.fin (Nat.le_trans p1.rm hr) (by have := p1.d; omega)).bind fun as ts2 p2 => ?_
      exact p1.trans p2.le
    · rw [if_neg e]
      refine (pathLoop_G _ [] ts1 p1.fin (Nat.lt_succ_self _)).bind fun path ts2 p2' => ?_
      have p2 := p1.trans p2'
      refine (take_G p2.fin (by decide)).bind fun _ ts3 s3 => ?_
      have p3 := p2.trans (s3.px (by decide)).le
      refine (pExpr_G n ts3 p3.fin (Nat.le_trans p3.rm hr) (by have := p3.d; omega)).bind fun v ts4 p4 => ?_
      exact p3.trans p4.le
end
theorem fnLoop_G {stm : PM (List St)} {t0 : List Tk} (hs : ∀ ts, Fin ts → RM ts ≤ RM t0 → D ts ≤ D t0 → B ts ≤ B t0 → G (Px0 ts) (stm ts)) : ∀ (k : Nat) (acc : List Fn) (ts : List Tk), Px0 t0 ts → ts.length < k → G (Px0 ts) (fnLoop stm k acc ts)
  | 0, _, _, _, h => absurd h (Nat.not_lt_zero _)
  | k + 1, acc, ts, h0, hk => by
    unfold fnLoop
    by_cases e : hd ts = ov
    · rw [if_pos e]
      exact Px0.refl h0.fin
    · rw [if_neg e]
      refine (take_G h0.fin (by decide)).bind fun _ ts1 s1 => ?_
      have d1 : D ts = D ts1 := s1.d
      have b1 : B ts = B ts1 + 1 := s1.b
      have l1 := s1.len
      refine (take_G s1.fin (by decide)).bind fun x ts2 s2 => ?_
      have p2 := s2.px (by decide)
      refine (several_G (p := take nm) p2.fin fun ts' h1 h2 h3 h4 => (take_G h1 (by decide)).mono fun t s => s.px (by decide)).bind fun ps ts3 p3 => ?_
      have p23 := p2.trans p3.le
      have r3 : RM ts3 ≤ RM t0 := Nat.le_trans p23.rm (Nat.le_trans s1.rm h0.rm)
      have d3 := p23.d
      have b3 := p23.b
      have l3 := p23.len
      have d0 := h0.d
      have b0 := h0.b
      refine (hs ts3 p23.fin r3 (by omega) (by omega)).bind fun b ts4 p4 => ?_
      refine (take_G p4.fin (by decide)).bind fun _ ts5 s5 => ?_
      obtain ⟨q1, q2, q3, q4, q5⟩ := end_px s5
      have d4 := p4.d
      have b4 := p4.b
      have l4 := p4.len
      have h5 : Px0 ts ts5 := ⟨q1, by omega, Nat.le_trans q3 (Nat.le_trans p4.rm (Nat.le_trans p23.rm s1.rm)), by omega, by omega⟩
      exact (fnLoop_G hs k _ ts5 (h0.trans h5) (by omega)).mono fun t p => h5.trans p
/-- the depth 200 is enough -/
theorem pRead_G {n : Nat} {ts : List Tk} (hf : Fin ts) (hr : RM ts ≤ 8) (hn : 22 * D ts + 4 * B ts + 22 ≤ n) : pRead n ts ≠ .out := by
  have h : G (Px0 ts) (pRead n ts) := by
    unfold pRead
    exact fnLoop_G (t0 := ts) (fun ts' h1 h2 h3 h4 => pStmts_G n ts' h1 (Nat.le_trans h2 hr) (by omega)) _ [] ts (Px0.refl hf) (Nat.lt_succ_self _)
  intro e
  rw [e] at h
  exact h
end K4
set_option Elab.async false
set_option linter.all false
/-! K4d: no text of a program has fewer parentheses than the written one. -/
namespace K4
open PySem
def tightOf (s : Str) : Nat := if s = "or" then 0 else if s = "and" then 1 else if s ∈ levels 2 then 2 else if s ∈ levels 3 then 3 else 4
def tight : Ex → Nat
  | .op s _ _ => tightOf s
  | .neg _ => 5
  | .not _ => 5
  | _ => 6
def wrp (k : Nat) (e : Ex) : Nat := if tight e < k then 1 else 0
def lft (t : Nat) : Nat := if t = 2 then 3 else t
mutual
def cn : Ex → Nat
  | .op s l r => (cn l + wrp (lft (tightOf s)) l) + (cn r + wrp (tightOf s + 1) r)
  | .neg e => cn e + wrp 5 e
  | .not e => cn e + wrp 5 e
  | .get e _ => cn e + wrp 6 e
  | .call _ as => 1 + cns as
  | .new fs => 1 + cnf fs
  | .int _ => 0
  | .non => 0
  | .var _ => 0
  | .recv _ => 0
def cns : List Ex → Nat
  | [] => 0
  | e :: r => cn e + cns r
def cnf : List (Str × Ex) → Nat
  | [] => 0
  | (_, e) :: r => cn e + cnf r
end
def cw (k : Nat) (e : Ex) : Nat := cn e + wrp k e
mutual
def cnS : St → Nat
  | .lt _ e => cn e
  | .st _ e => cn e
  | .put r _ e => cw 6 r + cn e
  | .act _ as => 1 + cns as
  | .iff c a b => cn c + (cnSs a + cnSs b)
  | .wh c a => cn c + cnSs a
  | .ret e => cn e
  | .thr e => cn e
  | .send _ e => cn e
  | .spawn _ as => 1 + cns as
  | .tri a _ b => cnSs a + cnSs b
  | .here _ s => cnS s
def cnSs : List St → Nat
  | [] => 0
  | s :: r => cnS s + cnSs r
end
def cnP : Pg → Nat
  | [] => 0
  | f :: r => (1 + cnSs f.b) + cnP r
theorem wrp_mono {j k : Nat} (h : j ≤ k) (e : Ex) : wrp j e ≤ wrp k e := by
  unfold wrp
  split
  · rw [if_pos (by omega)]
    exact Nat.le_refl _
  · exact Nat.zero_le _
theorem wrp_le (k : Nat) (e : Ex) : wrp k e ≤ 1 := by
  unfold wrp
  split <;> omega
theorem wrp_0 (e : Ex) : wrp 0 e = 0 := rfl
theorem tight_lev {d : Nat} {s : Str} (h : s ∈ levels d) : tightOf s = d := by
  match d, h with
  | 0, h => exact (show ∀ s ∈ levels 0, tightOf s = 0 by decide) s h
  | 1, h => exact (show ∀ s ∈ levels 1, tightOf s = 1 by decide) s h
  | 2, h => exact (show ∀ s ∈ levels 2, tightOf s = 2 by decide) s h
  | 3, h => exact (show ∀ s ∈ levels 3, tightOf s = 3 by decide) s h
  | 4, h => exact (show ∀ s ∈ levels 4, tightOf s = 4 by decide) s h
  | d + 5, h => cases h
theorem cns_append : ∀ (a b : List Ex), cns (a ++ b) = cns a + cns b
  | [], b => by simp [cns]
  | e :: r, b => by
    have := cns_append r b
    simp only [List.cons_append, cns]
    omega
theorem cnf_append : ∀ (a b : List (Str × Ex)), cnf (a ++ b) = cnf a + cnf b
  | [], b => by simp [cnf]
  | (x, e) :: r, b => by
    have := cnf_append r b
    simp only [List.cons_append, cnf]
    omega
theorem cnSs_append : ∀ (a b : List St), cnSs (a ++ b) = cnSs a + cnSs b
  | [], b => by simp [cnSs]
  | e :: r, b => by
    have := cnSs_append r b
    simp only [List.cons_append, cnSs]
    omega
theorem cnP_append : ∀ (a b : Pg), cnP (a ++ b) = cnP a + cnP b
  | [], b => by simp [cnP]
  | e :: r, b => by
    have := cnP_append r b
    simp only [List.cons_append, cnP]
    omega

/-- the opening parentheses -/
def pc : List Tk → Nat
  | [] => 0
  | t :: r => (if t.s = "(" then 1 else 0) + pc r
def C {α : Type} (f : α → Nat) (N : Nat) (r : R α) : Prop := ∀ a ts', r = .ok a ts' → f a + pc ts' ≤ N
theorem C.out {α : Type} {f : α → Nat} {N : Nat} : C f N R.out := fun _ _ h => nomatch h
theorem C.err {α : Type} {f : α → Nat} {N i : Nat} : C f N (R.err i) := fun _ _ h => nomatch h
theorem C.ok {α : Type} {f : α → Nat} {N : Nat} {a : α} {ts : List Tk} (h : f a + pc ts ≤ N) : C f N (R.ok a ts) := fun _ _ e => by
  cases e
  exact h
theorem C.bind {α β : Type} {f : α → Nat} {g : β → Nat} {M N : Nat} {r : R α} {k : α → List Tk → R β} (h : C f M r) (hk : ∀ a ts, f a + pc ts ≤ M → C g N (k a ts)) : C g N (r.bind k) := by
  cases r with
  | out => exact C.out
  | err i => exact C.err
  | ok a ts => exact hk a ts (h a ts rfl)
theorem C.adv {α : Type} {f : α → Nat} {N : Nat} {ts : List Tk} {k : Str → List Tk → R α} (hk : ∀ w ts', pc ts = (if hd ts = "(" then 1 else 0) + pc ts' → C f N (k w ts')) : C f N (adv ts k) := by
  match ts, hk with
  | [], _ => exact C.out
  | [t], _ => exact C.out
  | t :: t' :: r, hk => exact hk t.w (t' :: r) rfl
theorem C.take {s : Str} {ts : List Tk} {f : Str → Nat} (hf : ∀ w, f w = if s = "(" then 1 else 0) : C f (pc ts) (take s ts) := by
  unfold K4.take
  by_cases e : hd ts = s
  · rw [if_pos e]
    refine C.adv fun w ts' h => C.ok ?_
    rw [hf, h, e]
    exact Nat.le_refl _
  · rw [if_neg e]
    exact C.err
theorem C.take0 {s : Str} {ts : List Tk} (h : s ≠ "(") : C (fun _ => 0) (pc ts) (K4.take s ts) := C.take fun _ => (if_neg h).symm
theorem C.adv0 {α : Type} {f : α → Nat} {N : Nat} {ts : List Tk} {k : Str → List Tk → R α} {s : Str} (e : hd ts = s) (hs : s ≠ "(") (hk : ∀ w ts', pc ts = pc ts' → C f N (k w ts')) : C f N (K4.adv ts k) :=
  C.adv fun w ts' h => hk w ts' (by rw [h, e, if_neg hs, Nat.zero_add])
theorem lev_par {d : Nat} {s : Str} (h : s ∈ levels d) : s ≠ "(" := fun q => by
  have := (lev_neut h).1
  rw [q] at this
  exact absurd this (by decide)

theorem opLoop_C {p : PM Ex} {d : Nat} (hp : ∀ ts, C (cw (d + 1)) (pc ts) (p ts)) {N : Nat} : ∀ (k : Nat) (x : Ex) (ts : List Tk), cw (lft d) x + pc ts ≤ N → C (cw d) N (opLoop p d k x ts)
  | 0, _, _, _ => C.out
  | k + 1, x, ts, h => by
    unfold opLoop
    have hl : d ≤ lft d := by unfold lft; split <;> omega
    by_cases e : hd ts ∈ levels d
    · rw [if_pos e]
      refine C.adv0 rfl (lev_par e) fun w ts1 e1 => ?_
      refine (hp ts1).bind fun y ts2 h2 => ?_
      have ht := tight_lev e
      have e3 : cn (.op (hd ts) x y) = (cn x + wrp (lft d) x) + (cn y + wrp (d + 1) y) := by rw [cn, ht]
      have e4 : wrp d (.op (hd ts) x y) = 0 := by
        unfold wrp
        exact if_neg (show ¬ tightOf (hd ts) < d by omega)
      have hop : cw d (.op (hd ts) x y) = cw (lft d) x + cw (d + 1) y := by
        unfold cw
        rw [e3, e4, Nat.add_zero]
      by_cases e2 : d = 2
      · rw [if_pos e2]
        exact C.ok (by omega)
      · rw [if_neg e2]
        have : lft d = d := by unfold lft; rw [if_neg e2]
        exact opLoop_C hp k _ ts2 (by rw [this] at h hop ⊢; omega)
    · rw [if_neg e]
      have := wrp_mono hl x
      exact C.ok (by unfold cw at h ⊢; omega)
theorem dotLoop_C {N : Nat} : ∀ (k : Nat) (x : Ex) (ts : List Tk), cw 6 x + pc ts ≤ N → C (cw 5) N (dotLoop k x ts)
  | 0, _, _, _ => C.out
  | k + 1, x, ts, h => by
    unfold dotLoop
    by_cases e : hd ts = "."
    · rw [if_pos e]
      refine C.adv0 e (by decide) fun w ts1 e1 => ?_
      refine (C.take0 (by decide)).bind fun f ts2 h2 => ?_
      refine dotLoop_C k _ ts2 ?_
      have : cw 6 (.get x f) = cw 6 x := by
        unfold cw wrp
        simp [cn, tight, wrp]
      omega
    · rw [if_neg e]
      have := wrp_mono (show 5 ≤ 6 by decide) x
      exact C.ok (by unfold cw at h ⊢; omega)
theorem sepLoop_C {α : Type} {p : PM α} {f : α → Nat} {g : List α → Nat} (hg : ∀ a b, g (a ++ [b]) = g a + f b) (hp : ∀ ts, C f (pc ts) (p ts)) {N : Nat} : ∀ (k : Nat) (acc : List α) (ts : List Tk), g acc + pc ts ≤ N → C g N (sepLoop p k acc ts)
  | 0, _, _, _ => C.out
  | k + 1, acc, ts, h => by
    unfold sepLoop
    by_cases e : hd ts = ","
    · rw [if_pos e]
      refine C.adv0 e (by decide) fun w ts1 e1 => ?_
      refine (hp ts1).bind fun y ts2 h2 => ?_
      exact sepLoop_C hg hp k _ ts2 (by rw [hg]; omega)
    · rw [if_neg e]
      exact C.ok h
theorem several_C {α : Type} {p : PM α} {f : α → Nat} {g : List α → Nat} (h0 : g [] = 0) (hg : ∀ a b, g (a ++ [b]) = g a + f b) (hp : ∀ ts, C f (pc ts) (p ts)) (ts : List Tk) : C (fun l => 1 + g l) (pc ts) (several p ts) := by
  unfold several
  refine (C.take (f := fun _ => 1) fun _ => rfl).bind fun _ ts1 h1 => ?_
  by_cases e : hd ts1 = ")"
  · rw [if_pos e]
    refine C.adv0 e (by decide) fun w ts2 e2 => C.ok ?_
    rw [h0]
    omega
  · rw [if_neg e]
    refine (hp ts1).bind fun a ts2 h2 => ?_
    have e1 : g [a] = f a := by
      have := hg [] a
      rw [h0] at this
      simpa using this
    refine (sepLoop_C (N := pc ts1) hg hp _ [a] ts2 (by omega)).bind fun as ts3 h3 => ?_
    refine (C.take0 (by decide)).bind fun _ ts4 h4 => C.ok (by omega)
mutual
theorem pLevel_C : ∀ (n d : Nat) (ts : List Tk), d ≤ 5 → C (cw d) (pc ts) (pLevel n d ts)
  | 0, _, _, _ => by unfold pLevel; exact C.out
  | n + 1, d, ts, h5 => by
    unfold pLevel
    by_cases e : d = 5
    · rw [if_pos e, e]
      exact pSigned_C n ts
    · rw [if_neg e]
      refine (pLevel_C n (d + 1) ts (by omega)).bind fun x ts1 h1 => ?_
      refine opLoop_C (fun ts' => pLevel_C n (d + 1) ts' (by omega)) _ x ts1 ?_
      have : wrp (lft d) x ≤ wrp (d + 1) x := wrp_mono (by unfold lft; split <;> omega) x
      unfold cw at h1 ⊢
      omega
theorem pSigned_C : ∀ (n : Nat) (ts : List Tk), C (cw 5) (pc ts) (pSigned n ts)
  | 0, _ => by unfold pSigned; exact C.out
  | n + 1, ts => by
    unfold pSigned
    by_cases e : hd ts = "-"
    · rw [if_pos e]
      refine C.adv0 e (by decide) fun w ts1 e1 => ?_
      refine (pSigned_C n ts1).bind fun x ts2 h2 => C.ok ?_
      have : cw 5 (.neg x) = cw 5 x := by simp [cw, cn, wrp, tight]
      omega
    rw [if_neg e]
    by_cases e : hd ts = "not"
    · rw [if_pos e]
      refine C.adv0 e (by decide) fun w ts1 e1 => ?_
      refine (pSigned_C n ts1).bind fun x ts2 h2 => C.ok ?_
      have : cw 5 (.not x) = cw 5 x := by simp [cw, cn, wrp, tight]
      omega
    rw [if_neg e]
    exact (pItem_C n ts).bind fun x ts1 h1 => dotLoop_C _ x ts1 h1
theorem pItem_C : ∀ (n : Nat) (ts : List Tk), C (cw 6) (pc ts) (pItem n ts)
  | 0, _ => by unfold pItem; exact C.out
  | n + 1, ts => by
    unfold pItem
    by_cases e : hd ts = tn
    · rw [if_pos e]
      exact C.adv0 e (by decide) fun w ts1 e1 => C.ok (by simp [cw, cn, wrp, tight]; omega)
    rw [if_neg e]
    by_cases e : hd ts = nm
    · rw [if_pos e]
      refine C.adv0 e (by decide) fun w ts1 e1 => ?_
      by_cases e2 : hd ts1 = "("
      · rw [if_pos e2]
        refine (pSevE_C n ts1).bind fun as ts2 h2 => C.ok ?_
        have : cw 6 (.call w as) = 1 + cns as := by simp [cw, cn, wrp, tight]
        omega
      · rw [if_neg e2]
        exact C.ok (by simp [cw, cn, wrp, tight]; omega)
    rw [if_neg e]
    by_cases e : hd ts = "none"
    · rw [if_pos e]
      exact C.adv0 e (by decide) fun w ts1 e1 => C.ok (by simp [cw, cn, wrp, tight]; omega)
    rw [if_neg e]
    by_cases e : hd ts = "receive"
    · rw [if_pos e]
      refine C.adv0 e (by decide) fun w ts1 e1 => ?_
      refine (C.take0 (by decide)).bind fun p ts2 h2 => C.ok ?_
      simp [cw, cn, wrp, tight]
      omega
    rw [if_neg e]
    by_cases e : hd ts = "new"
    · rw [if_pos e]
      refine C.adv0 e (by decide) fun w ts1 e1 => ?_
      refine (pSevF_C n ts1).bind fun as ts2 h2 => C.ok ?_
      have : cw 6 (.new as) = 1 + cnf as := by simp [cw, cn, wrp, tight]
      omega
    rw [if_neg e]
    refine (C.take (f := fun _ => 1) fun _ => rfl).bind fun _ ts1 h1 => ?_
    refine (pExpr_C n ts1).bind fun x ts2 h2 => ?_
    refine (C.take0 (by decide)).bind fun _ ts3 h3 => C.ok ?_
    have := wrp_le 6 x
    unfold cw
    omega
theorem pExpr_C : ∀ (n : Nat) (ts : List Tk), C cn (pc ts) (pExpr n ts)
  | 0, _ => by unfold pExpr; exact C.out
  | n + 1, ts => by
    unfold pExpr
    exact fun a ts' h => by
      have := pLevel_C n 0 ts (by omega) a ts' h
      unfold cw at this
      omega
theorem pPartE_C : ∀ (n : Nat) (ts : List Tk), C cn (pc ts) (pPartE n ts)
  | 0, _ => by unfold pPartE; exact C.out
  | n + 1, ts => by
    unfold pPartE
    exact pExpr_C n ts
theorem pPartF_C : ∀ (n : Nat) (ts : List Tk), C (fun q => cn q.2) (pc ts) (pPartF n ts)
  | 0, _ => by unfold pPartF; exact C.out
  | n + 1, ts => by
    unfold pPartF
    exact pField_C n ts
theorem pSevE_C : ∀ (n : Nat) (ts : List Tk), C (fun l => 1 + cns l) (pc ts) (pSevE n ts)
  | 0, _ => by unfold pSevE; exact C.out
  | n + 1, ts => by
    unfold pSevE
    exact several_C (g := cns) rfl (fun a b => by rw [cns_append]; simp [cns]) (fun ts => pPartE_C n ts) ts
theorem pSevF_C : ∀ (n : Nat) (ts : List Tk), C (fun l => 1 + cnf l) (pc ts) (pSevF n ts)
  | 0, _ => by unfold pSevF; exact C.out
  | n + 1, ts => by
    unfold pSevF
    exact several_C (g := cnf) rfl (fun a b => by rw [cnf_append]; obtain ⟨x, e⟩ := b; simp [cnf]) (fun ts => pPartF_C n ts) ts
theorem pField_C : ∀ (n : Nat) (ts : List Tk), C (fun q => cn q.2) (pc ts) (pField n ts)
  | 0, _ => by unfold pField; exact C.out
  | n + 1, ts => by
    unfold pField
    refine (C.take0 (by decide)).bind fun x ts1 h1 => ?_
    refine (C.take0 (by decide)).bind fun _ ts2 h2 => ?_
    refine (pExpr_C n ts2).bind fun e ts3 h3 => C.ok ?_
    show cn e + pc ts3 ≤ pc ts
    omega
end
theorem stLoop_C {lab st : PM St} (hl : ∀ ts, C cnS (pc ts) (lab ts)) (hs : ∀ ts, C cnS (pc ts) (st ts)) {N : Nat} : ∀ (k : Nat) (acc : List St) (ts : List Tk), cnSs acc + pc ts ≤ N → C cnSs N (stLoop lab st k acc ts)
  | 0, _, _, _ => C.out
  | k + 1, acc, ts, h => by
    unfold stLoop
    by_cases e : hd ts ∈ beginnings
    · rw [if_pos e]
      have hx : C cnS (pc ts) (if hd ts = "here" then lab ts else st ts) := by
        by_cases e2 : hd ts = "here"
        · rw [if_pos e2]
          exact hl ts
        · rw [if_neg e2]
          exact hs ts
      refine hx.bind fun s ts1 h1 => ?_
      exact stLoop_C hl hs k _ ts1 (by rw [cnSs_append]; simp only [cnSs]; omega)
    · rw [if_neg e]
      exact C.ok h
theorem pathLoop_C {N : Nat} : ∀ (k : Nat) (acc : List Str) (ts : List Tk), pc ts ≤ N → C (fun _ => 0) N (pathLoop k acc ts)
  | 0, _, _, _ => C.out
  | k + 1, x, ts, h => by
    unfold pathLoop
    by_cases e : hd ts = "."
    · rw [if_pos e]
      refine C.adv0 e (by decide) fun w ts1 e1 => ?_
      refine (C.take0 (by decide)).bind fun f ts2 h2 => ?_
      exact pathLoop_C k _ ts2 (by omega)
    · rw [if_neg e]
      exact C.ok (by omega)
theorem chain_0 : ∀ (path : List Str) (e : Ex), cw 6 e = 0 → cw 6 (path.foldl .get e) = 0
  | [], e, h => h
  | f :: r, e, h => chain_0 r (.get e f) (by
    have : cw 6 (.get e f) = cw 6 e := by simp [cw, cn, wrp, tight]
    rw [this, h])
theorem mkSet_cn (x : Str) (path : List Str) (v : Ex) : cnS (mkSet x path v) = cn v := by
  unfold mkSet
  cases path.getLast? with
  | none => rfl
  | some f =>
    simp only [cnS]
    rw [chain_0 _ _ (by simp [cw, cn, wrp, tight]), Nat.zero_add]
theorem mkComp_cn (w : Str) (c : Ex) (a : List St) (b : List St) : cnS (mkComp w c a b) ≤ cn c + (cnSs a + cnSs b) := by
  unfold mkComp
  split
  · exact Nat.le_refl _
  · simp only [cnS]
    omega
theorem beg_par {s : Str} (h : s ∈ beginnings) : s ≠ "(" := (show ∀ s ∈ beginnings, s ≠ "(" by decide) s h
mutual
theorem pStmts_C : ∀ (n : Nat) (ts : List Tk), C cnSs (pc ts) (pStmts n ts)
  | 0, _ => by unfold pStmts; exact C.out
  | n + 1, ts => by
    unfold pStmts
    exact stLoop_C (pLab_C n) (pStmt_C n) _ [] ts (by simp [cnSs])
theorem pLab_C : ∀ (n : Nat) (ts : List Tk), C cnS (pc ts) (pLab n ts)
  | 0, _ => by unfold pLab; exact C.out
  | n + 1, ts => by
    unfold pLab
    refine (C.take0 (by decide)).bind fun _ ts1 h1 => ?_
    refine (C.take0 (by decide)).bind fun l ts2 h2 => ?_
    refine (pStmt_C n ts2).bind fun s ts3 h3 => C.ok ?_
    simp only [cnS]
    omega
theorem pStmt_C : ∀ (n : Nat) (ts : List Tk), C cnS (pc ts) (pStmt n ts)
  | 0, _ => by unfold pStmt; exact C.out
  | n + 1, ts => by
    unfold pStmt
    by_cases e : hd ts = nm
    · rw [if_pos e]
      exact pNamed_C n ts
    rw [if_neg e]
    by_cases eb : hd ts ∉ beginnings ∨ hd ts = "here"
    · rw [if_pos eb]
      exact C.err
    rw [if_neg eb]
    have hb : hd ts ∈ beginnings := Decidable.of_not_not fun q => eb (.inl q)
    refine C.adv0 rfl (beg_par hb) fun w ts1 e1 => ?_
    by_cases ec : hd ts = "if" ∨ hd ts = "while" ∨ hd ts = "try"
    · rw [if_pos ec, e1]
      exact pComp_C n (hd ts) ts1
    rw [if_neg ec]
    by_cases e2 : hd ts = "spawn"
    · rw [if_pos e2]
      refine (C.take0 (by decide)).bind fun f ts2 h2 => ?_
      refine (pSevE_C n ts2).bind fun as ts3 h3 => C.ok ?_
      simp only [cnS]
      omega
    rw [if_neg e2]
    by_cases e2 : hd ts = "let"
    · rw [if_pos e2]
      refine (C.take0 (by decide)).bind fun f ts2 h2 => ?_
      refine (C.take0 (by decide)).bind fun _ ts3 h3 => ?_
      refine (pExpr_C n ts3).bind fun e ts4 h4 => C.ok ?_
      simp only [cnS]
      omega
    rw [if_neg e2]
    by_cases e2 : hd ts = "send"
    · rw [if_pos e2]
      refine (C.take0 (by decide)).bind fun f ts2 h2 => ?_
      refine (pExpr_C n ts2).bind fun e ts4 h4 => C.ok ?_
      simp only [cnS]
      omega
    rw [if_neg e2]
    refine (pExpr_C n ts1).bind fun e ts4 h4 => C.ok ?_
    split <;> (simp only [cnS]; omega)
theorem pComp_C : ∀ (n : Nat) (word : Str) (ts : List Tk), C cnS (pc ts) (pComp n word ts)
  | 0, _, _ => by unfold pComp; exact C.out
  | n + 1, word, ts => by
    unfold pComp
    by_cases e : word = "try"
    · rw [if_pos e]
      refine (pStmts_C n ts).bind fun a ts1 h1 => ?_
      refine (C.take0 (by decide)).bind fun _ ts2 h2 => ?_
      refine (C.take0 (by decide)).bind fun x ts3 h3 => ?_
      refine (pStmts_C n ts3).bind fun b ts4 h4 => ?_
      refine (C.take0 (by decide)).bind fun _ ts5 h5 => C.ok ?_
      simp only [cnS]
      omega
    rw [if_neg e]
    refine (pExpr_C n ts).bind fun c ts1 h1 => ?_
    refine (pStmts_C n ts1).bind fun a ts2 h2 => ?_
    by_cases e2 : word = "if" ∧ hd ts2 = "else"
    · rw [if_pos e2]
      refine C.adv0 e2.2 (by decide) fun w ts3 e3 => ?_
      refine (pStmts_C n ts3).bind fun b ts4 h4 => ?_
      refine (C.take0 (by decide)).bind fun _ ts5 h5 => C.ok ?_
      have := mkComp_cn word c a b
      omega
    · rw [if_neg e2]
      refine (C.take0 (by decide)).bind fun _ ts5 h5 => C.ok ?_
      have := mkComp_cn word c a []
      simp only [cnSs] at this
      omega
theorem pNamed_C : ∀ (n : Nat) (ts : List Tk), C cnS (pc ts) (pNamed n ts)
  | 0, _ => by unfold pNamed; exact C.out
  | n + 1, ts => by
    unfold pNamed
    refine (C.take0 (by decide)).bind fun x ts1 h1 => ?_
    by_cases e : hd ts1 = "("
    · rw [if_pos e]
      refine (pSevE_C n ts1).bind fun as ts2 h2 => C.ok ?_
      simp only [cnS]
      omega
    · rw [if_neg e]
      refine (pathLoop_C (N := pc ts1) _ [] ts1 (Nat.le_refl _)).bind fun path ts2 h2 => ?_
      refine (C.take0 (by decide)).bind fun _ ts3 h3 => ?_
      refine (pExpr_C n ts3).bind fun v ts4 h4 => C.ok ?_
      rw [mkSet_cn]
      omega
end
theorem fnLoop_C {stm : PM (List St)} (hs : ∀ ts, C cnSs (pc ts) (stm ts)) {N : Nat} : ∀ (k : Nat) (acc : List Fn) (ts : List Tk), cnP acc + pc ts ≤ N → C cnP N (fnLoop stm k acc ts)
  | 0, _, _, _ => C.out
  | k + 1, acc, ts, h => by
    unfold fnLoop
    by_cases e : hd ts = ov
    · rw [if_pos e]
      exact C.ok h
    rw [if_neg e]
    refine (C.take0 (by decide)).bind fun _ ts1 h1 => ?_
    refine (C.take0 (by decide)).bind fun x ts2 h2 => ?_
    refine (several_C (p := take nm) (f := fun _ => 0) (g := fun _ => 0) rfl (fun _ _ => rfl) (fun ts => C.take0 (by decide)) ts2).bind fun ps ts3 h3 => ?_
    refine (hs ts3).bind fun b ts4 h4 => ?_
    refine (C.take0 (by decide)).bind fun _ ts5 h5 => ?_
    refine fnLoop_C hs k _ ts5 ?_
    rw [cnP_append]
    simp only [cnP]
    omega
/-- the number of a text's parentheses is at least that of the written text of what it reads as -/
theorem pRead_C {n : Nat} {ts ts' : List Tk} {p : Pg} (h : pRead n ts = .ok p ts') : cnP p ≤ pc ts := by
  unfold pRead at h
  have := fnLoop_C (pStmts_C n) (N := pc ts) (ts.length + 1) [] ts (by simp [cnP]) p ts' h
  omega
end K4
set_option Elab.async false
set_option linter.all false
/-! K4e: every rendering of an expression is read as it. -/
namespace K4
open PySem
abbrev Wd := Str × Str
def kw (s : Str) : Wd := (s, s)
def nmw (x : Str) : Wd := (nm, x)
def numS (n : Nat) : Str := Str.ofString (toString (n : Int))
def inw (n : Nat) : Wd := (tn, numS n)
def sepW : List (List Wd) → List Wd
  | [] => []
  | a :: r => match r with
    | [] => a
    | _ => a ++ kw "," :: sepW r
def rowW (l : List (List Wd)) : List Wd := kw "(" :: (sepW l ++ [kw ")"])
def Rw (P : List Wd → Prop) (t k : Nat) (ws : List Wd) : Prop := ∃ bs, P bs ∧ (ws = kw "(" :: (bs ++ [kw ")"]) ∨ (k ≤ t ∧ ws = bs))
mutual
def RB : Ex → List Wd → Prop
  | .int n, ws => numOf (numS n) = n ∧ ws = [inw n]
  | .non, ws => ws = [kw "none"]
  | .var x, ws => ws = [nmw x]
  | .recv p, ws => ws = [kw "receive", nmw p]
  | .call f as, ws => ∃ l, RBs as l ∧ ws = nmw f :: rowW l
  | .new fs, ws => ∃ l, RBf fs l ∧ ws = kw "new" :: rowW l
  | .get e f, ws => ∃ bs, Rw (RB e) (tight e) 6 bs ∧ ws = bs ++ [kw ".", nmw f]
  | .neg e, ws => ∃ bs, Rw (RB e) (tight e) 5 bs ∧ ws = kw "-" :: bs
  | .not e, ws => ∃ bs, Rw (RB e) (tight e) 5 bs ∧ ws = kw "not" :: bs
  | .op s l r, ws => s ∈ levels (tightOf s) ∧ ∃ a b, Rw (RB l) (tight l) (lft (tightOf s)) a ∧ Rw (RB r) (tight r) (tightOf s + 1) b ∧ ws = a ++ kw s :: b
def RBs : List Ex → List (List Wd) → Prop
  | [], l => l = []
  | e :: r, l => ∃ a l', Rw (RB e) (tight e) 0 a ∧ RBs r l' ∧ l = a :: l'
def RBf : List (Str × Ex) → List (List Wd) → Prop
  | [], l => l = []
  | (x, e) :: r, l => ∃ a l', Rw (RB e) (tight e) 0 a ∧ RBf r l' ∧ l = (nmw x :: kw ":" :: a) :: l'
end
/-- what an expression begins with -/
def fsts : List Str := [tn, nm, "none", "receive", "new", "(", "-", "not"]
theorem fst_rw {P : List Wd → Prop} {t k : Nat} {ws : List Wd} (h : Rw P t k ws) (hp : ∀ bs, P bs → ∃ w r, bs = w :: r ∧ w.1 ∈ fsts) : ∃ w r, ws = w :: r ∧ w.1 ∈ fsts := by
  obtain ⟨bs, h1, h2 | ⟨_, h2⟩⟩ := h
  · exact ⟨_, _, h2, by decide⟩
  · rw [h2]
    exact hp bs h1
theorem fst_e : ∀ (e : Ex) (bs : List Wd), RB e bs → ∃ w r, bs = w :: r ∧ w.1 ∈ fsts
  | .int n, bs, h => by
    unfold RB at h
    exact ⟨_, _, h.2, by show tn ∈ fsts; decide⟩
  | .non, bs, h => by
    unfold RB at h
    exact ⟨_, _, h, by decide⟩
  | .var x, bs, h => by
    unfold RB at h
    exact ⟨_, _, h, by show nm ∈ fsts; decide⟩
  | .recv p, bs, h => by
    unfold RB at h
    exact ⟨_, _, h, by decide⟩
  | .call f as, bs, h => by
    unfold RB at h
    obtain ⟨l, _, h⟩ := h
    exact ⟨_, _, h, by show nm ∈ fsts; decide⟩
  | .new fs, bs, h => by
    unfold RB at h
    obtain ⟨l, _, h⟩ := h
    exact ⟨_, _, h, by decide⟩
  | .get e f, bs, h => by
    unfold RB at h
    obtain ⟨b, h1, h⟩ := h
    obtain ⟨w, r, e1, e2⟩ := fst_rw h1 (fst_e e)
    rw [e1] at h
    exact ⟨w, _, h, e2⟩
  | .neg e, bs, h => by
    unfold RB at h
    obtain ⟨b, h1, h⟩ := h
    exact ⟨_, _, h, by decide⟩
  | .not e, bs, h => by
    unfold RB at h
    obtain ⟨b, h1, h⟩ := h
    exact ⟨_, _, h, by decide⟩
  | .op s l r, bs, h => by
    unfold RB at h
    obtain ⟨_, a, b, h1, _, h⟩ := h
    obtain ⟨w, r, e1, e2⟩ := fst_rw h1 (fst_e l)
    rw [e1] at h
    exact ⟨w, _, h, e2⟩

/-! ### tokens that bear words -/
def M (a : List Tk) (ws : List Wd) : Prop := a.map (fun t => (t.s, t.w)) = ws
theorem M.cons {a : List Tk} {w : Wd} {ws : List Wd} (h : M a (w :: ws)) : ∃ t r, a = t :: r ∧ t.s = w.1 ∧ t.w = w.2 ∧ M r ws := by
  cases a with
  | nil => exact nomatch h
  | cons t r =>
    unfold M at h
    rw [List.map_cons] at h
    injection h with h1 h2
    exact ⟨t, r, rfl, by rw [← h1], by rw [← h1], h2⟩
theorem M.app {a : List Tk} {x y : List Wd} (h : M a (x ++ y)) : ∃ p q, a = p ++ q ∧ M p x ∧ M q y := List.map_eq_append_iff.mp h
theorem M.nil {a : List Tk} (h : M a []) : a = [] := List.map_eq_nil_iff.mp h

/-! ### out, or so -/
def Ret {α : Type} (r : R α) (a : α) (ts : List Tk) : Prop := r = .out ∨ r = .ok a ts
theorem Ret.bind {α β : Type} {r : R α} {a : α} {ts : List Tk} {k : α → List Tk → R β} {b : β} {us : List Tk} (h : Ret r a ts) (hk : Ret (k a ts) b us) : Ret (r.bind k) b us := by
  rcases h with h | h
  · rw [h]
    exact .inl rfl
  · rw [h]
    exact hk
theorem adv_cons {α : Type} {t : Tk} {r : List Tk} {k : Str → List Tk → R α} (h : r ≠ []) : adv (t :: r) k = k t.w r := by
  cases r with
  | nil => exact absurd rfl h
  | cons t' r => rfl
theorem take_cons {t : Tk} {r : List Tk} {s : Str} (e : t.s = s) (h : r ≠ []) : Ret (take s (t :: r)) t.w r := by
  unfold take
  rw [if_pos (show hd (t :: r) = s from e), adv_cons h]
  exact .inr rfl
theorem ne_app {a b : List Tk} (h : b ≠ []) : a ++ b ≠ [] := fun e => h (List.append_eq_nil_iff.mp e).2
theorem ne_cons {t : Tk} {b : List Tk} : t :: b ≠ [] := fun e => nomatch e
/-- what follows -/
structure Nx (d : Nat) (rest : List Tk) : Prop where
  ne : rest ≠ []
  dot : hd rest ≠ "."
  par : hd rest ≠ "("
  lev : ∀ j, d ≤ j → hd rest ∉ levels j
theorem Nx.up {d e : Nat} {rest : List Tk} (h : Nx d rest) (k : d ≤ e) : Nx e rest := ⟨h.ne, h.dot, h.par, fun j q => h.lev j (Nat.le_trans k q)⟩
abbrev cI (a : List Tk) (e : Ex) : Prop := ∀ rest, rest ≠ [] → hd rest ≠ "(" → ∀ y ts2, (∀ K, Ret (dotLoop K e rest) y ts2) → ∀ n, Ret (pSigned n (a ++ rest)) y ts2
abbrev cS (a : List Tk) (e : Ex) : Prop := ∀ rest, Nx 5 rest → ∀ n, Ret (pSigned n (a ++ rest)) e rest
abbrev cL (k : Nat) (a : List Tk) (e : Ex) : Prop := ∀ rest, Nx (k + 1) rest → ∀ y ts2, (∀ n K, Ret (opLoop (pLevel n (k + 1)) k K e rest) y ts2) → ∀ n, Ret (pLevel n k (a ++ rest)) y ts2
abbrev cR (k : Nat) (a : List Tk) (e : Ex) : Prop := ∀ rest, Nx k rest → ∀ n, Ret (pLevel n k (a ++ rest)) e rest
theorem cI.s {a : List Tk} {e : Ex} (h : cI a e) : cS a e := fun rest hx n => h rest hx.ne hx.par e rest (fun K => by
  cases K with
  | zero => exact .inl rfl
  | succ K =>
    unfold dotLoop
    rw [if_neg hx.dot]
    exact .inr rfl) n
theorem cS.r {a : List Tk} {e : Ex} (h : cS a e) : cR 5 a e := fun rest hx n => by
  cases n with
  | zero => unfold pLevel; exact .inl rfl
  | succ n =>
    unfold pLevel
    rw [if_pos rfl]
    exact h rest hx n
theorem cR.l {k : Nat} {a : List Tk} {e : Ex} (hk : k ≤ 4) (h : cR (k + 1) a e) : cL k a e := fun rest hx y ts2 ho n => by
  cases n with
  | zero => unfold pLevel; exact .inl rfl
  | succ n =>
    unfold pLevel
    rw [if_neg (by omega)]
    exact (h rest hx n).bind (ho n _)
theorem cL.r {k : Nat} {a : List Tk} {e : Ex} (h : cL k a e) : cR k a e := fun rest hx n => h rest (hx.up (Nat.le_succ k)) e rest (fun m K => by
  cases K with
  | zero => exact .inl rfl
  | succ K =>
    unfold opLoop
    rw [if_neg (hx.lev k (Nat.le_refl k))]
    exact .inr rfl) n
theorem cR.down {a : List Tk} {e : Ex} : ∀ {t k : Nat}, k ≤ t → t ≤ 5 → cR t a e → cR k a e
  | t, k, h, h5, c => by
    induction h with
    | refl => exact c
    | step h ih => exact ih (by omega) (cL.r (cR.l (by simp only [Nat.succ_eq_add_one] at h5; omega) c))
theorem cR.downL {a : List Tk} {e : Ex} {t k : Nat} (h : k < t) (h5 : t ≤ 5) (c : cR t a e) : cL k a e := cR.l (by omega) (cR.down (show k + 1 ≤ t from h) h5 c)

/-- what holds of a bare rendering -/
structure Bare (e : Ex) (a : List Tk) : Prop where
  i : tight e = 6 → cI a e
  s : tight e = 5 → cS a e
  l : tight e ≤ 4 → tight e ≠ 2 → cL (tight e) a e
  t : tight e = 2 → cR 2 a e
theorem tight_le (e : Ex) (bs : List Wd) (h : RB e bs) : tight e ≤ 6 := by
  cases e with
  | op s l r =>
    show tightOf s ≤ 6
    unfold tightOf
    repeat' split
    all_goals omega
  | _ => simp [tight]
theorem Bare.sg {e : Ex} {a : List Tk} (b : Bare e a) (h : 5 ≤ tight e) (h6 : tight e ≤ 6) : cS a e := by
  by_cases q : tight e = 5
  · exact b.s q
  · exact (b.i (by omega)).s
theorem Bare.r {e : Ex} {a : List Tk} (b : Bare e a) (h6 : tight e ≤ 6) {k : Nat} (h : k ≤ tight e) (h5 : k ≤ 5) : cR k a e := by
  by_cases q : 5 ≤ tight e
  · exact cR.down h5 (Nat.le_refl _) (b.sg q h6).r
  · by_cases q2 : tight e = 2
    · exact cR.down (by omega) (by omega) (b.t q2)
    · exact cR.down h (by omega) (b.l (by omega) q2).r
theorem Bare.lp {e : Ex} {a : List Tk} (b : Bare e a) (h6 : tight e ≤ 6) {k : Nat} (h : k ≤ tight e) (h4 : k ≤ 4) (h2 : k ≠ 2) : cL k a e := by
  by_cases q : k = tight e
  · rw [q]
    exact b.l (by omega) (by omega)
  · by_cases q5 : 5 ≤ tight e
    · exact cR.downL (t := 5) (by omega) (Nat.le_refl _) (b.sg q5 h6).r
    · by_cases q2 : tight e = 2
      · exact cR.downL (t := 2) (by omega) (by omega) (b.t q2)
      · exact cR.downL (by omega) (by omega) (b.l (by omega) q2).r
/-- in parentheses -/
theorem paren {e : Ex} {a : List Tk} {t0 t1 : Tk} (h0 : t0.s = "(") (h1 : t1.s = ")") (c : cR 0 a e) : cI (t0 :: (a ++ [t1])) e := fun rest hne hpar y ts2 hd' n => by
  cases n with
  | zero => unfold pSigned; exact .inl rfl
  | succ n =>
    have e0 : hd (t0 :: (a ++ [t1]) ++ rest) = "(" := h0
    have l0 : t0 :: (a ++ [t1]) ++ rest = t0 :: (a ++ (t1 :: rest)) := by simp
    unfold pSigned
    rw [e0, if_neg (by decide), if_neg (by decide)]
    have hi : Ret (pItem n (t0 :: (a ++ [t1]) ++ rest)) e rest := by
      cases n with
      | zero => unfold pItem; exact .inl rfl
      | succ n =>
        unfold pItem
        rw [e0, if_neg (by decide), if_neg (by decide), if_neg (by decide), if_neg (by decide), if_neg (by decide), l0]
        refine (take_cons h0 (ne_app ne_cons)).bind ?_
        have hx : Ret (pExpr n (a ++ (t1 :: rest))) e (t1 :: rest) := by
          cases n with
          | zero => unfold pExpr; exact .inl rfl
          | succ n =>
            unfold pExpr
            exact c (t1 :: rest) ⟨ne_cons, by show t1.s ≠ "."; rw [h1]; decide, by show t1.s ≠ "("; rw [h1]; decide, fun j _ => by
              show t1.s ∉ levels j
              rw [h1]
              match j with
              | 0 => decide
              | 1 => decide
              | 2 => decide
              | 3 => decide
              | 4 => decide
              | j + 5 => exact fun q => nomatch q⟩ n
        refine hx.bind ?_
        refine (take_cons h1 hne).bind ?_
        exact .inr rfl
    exact hi.bind (hd' _)
/-- what holds of a rendering at a level -/
structure Full (e : Ex) (k : Nat) (a : List Tk) : Prop where
  i : k = 6 → cI a e
  s : k = 5 → cS a e
  r : k ≤ 5 → cR k a e
  l : k ≤ 4 → k ≠ 2 → cL k a e
theorem full_of {e : Ex} {k : Nat} {ws : List Wd} {a : List Tk} (h : Rw (RB e) (tight e) k ws) (m : M a ws) (hb : ∀ bs a, RB e bs → M a bs → Bare e a) (hk : k ≤ 6) : Full e k a := by
  obtain ⟨bs, h1, h2 | ⟨h3, h2⟩⟩ := h
  · rw [h2] at m
    obtain ⟨t0, r0, rfl, s0, _, m⟩ := m.cons
    obtain ⟨p, q, rfl, mp, mq⟩ := m.app
    obtain ⟨t1, r1, rfl, s1, _, m1⟩ := mq.cons
    rw [m1.nil]
    have b := hb bs p h1 mp
    have c : cI (t0 :: (p ++ [t1])) e := paren s0 s1 (b.r (tight_le e bs h1) (Nat.zero_le _) (by omega))
    exact ⟨fun _ => c, fun _ => c.s, fun h5 => cR.down h5 (Nat.le_refl _) c.s.r, fun h4 _ => cR.downL (by omega) (Nat.le_refl _) c.s.r⟩
  · rw [h2] at m
    have b := hb bs a h1 m
    have t6 := tight_le e bs h1
    exact ⟨fun q => b.i (by omega), fun q => b.sg (by omega) t6, fun h5 => b.r t6 h3 h5, fun h4 h2 => b.lp t6 h3 h4 h2⟩
/-! ### lists of parts -/
/-- a part, behind which a comma or the end stands -/
def Prt {α : Type} (p : PM α) (x : α) (a : List Tk) : Prop := (∀ rest, rest ≠ [] → (hd rest = "," ∨ hd rest = ")") → Ret (p (a ++ rest)) x rest) ∧ ∃ t r, a = t :: r ∧ t.s ≠ ")"
inductive Prts {α : Type} (p : PM α) : List α → List (List Wd) → Prop where
  | nil : Prts p [] []
  | cons {x : α} {xs : List α} {w : List Wd} {l : List (List Wd)} : (∀ a, M a w → Prt p x a) → Prts p xs l → Prts p (x :: xs) (w :: l)
/-- the parts behind the first one -/
def Tl : List (List Wd) → List Tk → Prop
  | [], q => q = []
  | w :: l, q => ∃ t r, q = t :: r ∧ t.s = "," ∧ M r (sepW (w :: l))
theorem sep_ret {α : Type} {p : PM α} : ∀ {xs : List α} {l : List (List Wd)}, Prts p xs l → ∀ (acc : List α) (a rest : List Tk), Tl l a → rest ≠ [] → hd rest = ")" → ∀ K, Ret (sepLoop p K acc (a ++ rest)) (acc ++ xs) rest
  | _, _, _, _, _, _, _, _, _, 0 => .inl rfl
  | _, _, .nil, acc, a, rest, ha, hne, hr, K + 1 => by
    have ha' : a = [] := ha
    rw [ha']
    unfold sepLoop
    rw [if_neg (by show hd rest ≠ ","; rw [hr]; decide), List.append_nil]
    exact .inr rfl
  | _, _, .cons (x := x) (xs := xs) (w := w) (l := l) h t, acc, a, rest, ha, hne, hr, K + 1 => by
    obtain ⟨c, r, rfl, hc, m⟩ := ha
    unfold sepLoop
    rw [if_pos (show hd (c :: r ++ rest) = "," from hc)]
    have e0 : c :: r ++ rest = c :: (r ++ rest) := rfl
    rw [e0, adv_cons (ne_app hne)]
    have step : ∀ (b q : List Tk), M b w → Tl l q → Ret ((p (b ++ (q ++ rest))).bind fun a ts2 => sepLoop p K (acc ++ [a]) ts2) (acc ++ x :: xs) rest := by
      intro b q mb hq
      have hq2 : hd (q ++ rest) = "," ∨ hd (q ++ rest) = ")" := by
        cases l with
        | nil =>
          have e1 : q = [] := hq
          rw [e1]
          exact .inr hr
        | cons w' l' =>
          obtain ⟨c', r', rfl, hc', _⟩ := hq
          exact .inl hc'
      refine ((h b mb).1 (q ++ rest) (ne_app hne) hq2).bind ?_
      have := sep_ret t (acc ++ [x]) q rest hq hne hr K
      rw [List.append_assoc] at this
      exact this
    cases l with
    | nil =>
      have := step r [] m rfl
      exact this
    | cons w' l' =>
      obtain ⟨b, q, rfl, mb, mq⟩ := M.app (show M r (w ++ kw "," :: sepW (w' :: l')) from m)
      obtain ⟨c', r', rfl, hc', _, mr⟩ := mq.cons
      have := step b (c' :: r') mb ⟨c', r', rfl, hc', mr⟩
      rw [List.append_assoc]
      exact this
theorem several_ret {α : Type} {p : PM α} {xs : List α} {l : List (List Wd)} (h : Prts p xs l) {a rest : List Tk} (m : M a (rowW l)) (hne : rest ≠ []) : Ret (several p (a ++ rest)) xs rest := by
  obtain ⟨t0, r0, rfl, s0, _, m⟩ := M.cons m
  obtain ⟨b, q, rfl, mb, mq⟩ := m.app
  obtain ⟨t1, r1, rfl, s1, _, m1⟩ := mq.cons
  rw [m1.nil]
  have e0 : t0 :: (b ++ [t1]) ++ rest = t0 :: (b ++ (t1 :: rest)) := by simp
  rw [e0]
  unfold several
  refine (take_cons s0 (ne_app ne_cons)).bind ?_
  cases h with
  | nil =>
    have hb : b = [] := M.nil mb
    rw [hb]
    rw [if_pos (show hd ([] ++ t1 :: rest) = ")" from s1)]
    show Ret (adv (t1 :: rest) _) _ _
    rw [adv_cons hne]
    exact .inr rfl
  | @cons x xs' w l' hx t =>
    have hr : hd (t1 :: rest) = ")" := s1
    have go : ∀ (b q : List Tk), M b w → Tl l' q →
        Ret (if hd (b ++ (q ++ t1 :: rest)) = ")" then adv (b ++ (q ++ t1 :: rest)) fun _ ts2 => .ok [] ts2
          else (p (b ++ (q ++ t1 :: rest))).bind fun a ts2 => (sepLoop p (ts2.length + 1) [a] ts2).bind fun as ts3 => (take ")" ts3).bind fun _ ts4 => .ok as ts4) (x :: xs') rest := by
      intro b q mb hq
      obtain ⟨hp, c, r, rfl, hc⟩ := hx b mb
      rw [if_neg (show hd (c :: r ++ (q ++ t1 :: rest)) ≠ ")" from hc)]
      have hq2 : hd (q ++ t1 :: rest) = "," ∨ hd (q ++ t1 :: rest) = ")" := by
        cases l' with
        | nil =>
          have e1 : q = [] := hq
          rw [e1]
          exact .inr hr
        | cons w' l' =>
          obtain ⟨c', r', rfl, hc', _⟩ := hq
          exact .inl hc'
      refine (hp (q ++ t1 :: rest) (ne_app ne_cons) hq2).bind ?_
      refine (sep_ret t [x] q (t1 :: rest) hq ne_cons hr _).bind ?_
      refine (take_cons s1 hne).bind ?_
      exact .inr rfl
    cases l' with
    | nil => exact go b [] mb rfl
    | cons w' l'' =>
      obtain ⟨b1, q, rfl, m1, mq⟩ := M.app (show M b (w ++ kw "," :: sepW (w' :: l'')) from mb)
      obtain ⟨c', r', rfl, hc', _, mr⟩ := mq.cons
      have := go b1 (c' :: r') m1 ⟨c', r', rfl, hc', mr⟩
      rw [List.append_assoc]
      exact this
end K4
set_option Elab.async false
set_option linter.all false
/-! K4f: renderings of expressions, statements, programs are read as them. -/
namespace K4
open PySem
def stopB (s : Str) : Bool := !(s == "." || s == "(" || (levels 0).contains s || (levels 1).contains s || (levels 2).contains s || (levels 3).contains s || (levels 4).contains s)
theorem nx_of {rest : List Tk} (hne : rest ≠ []) (h : stopB (hd rest) = true) : Nx 0 rest := by
  simp only [stopB, Bool.not_eq_true', Bool.or_eq_false_iff, beq_eq_false_iff_ne, ne_eq, List.contains_eq_mem, decide_eq_false_iff_not] at h
  obtain ⟨⟨⟨⟨⟨⟨h1, h2⟩, h3⟩, h4⟩, h5⟩, h6⟩, h7⟩ := h
  refine ⟨hne, h1, h2, fun j _ => ?_⟩
  match j with
  | 0 => exact h3
  | 1 => exact h4
  | 2 => exact h5
  | 3 => exact h6
  | 4 => exact h7
  | j + 5 => exact fun q => nomatch q
theorem nx_sign {t : Tk} {r : List Tk} {s : Str} (e : t.s = s) (h : s ∈ levels (tightOf s)) : Nx (tightOf s + 1) (t :: r) := by
  have key : ∀ d, ∀ s ∈ levels d, s ≠ "." ∧ s ≠ "(" := by
    intro d
    match d with
    | 0 => decide
    | 1 => decide
    | 2 => decide
    | 3 => decide
    | 4 => decide
    | d + 5 => exact fun s q => nomatch q
  obtain ⟨h1, h2⟩ := key _ s h
  refine ⟨ne_cons, by show t.s ≠ "."; rw [e]; exact h1, by show t.s ≠ "("; rw [e]; exact h2, fun j hj q => ?_⟩
  have q' : t.s ∈ levels j := q
  rw [e] at q'
  have := tight_lev q'
  omega
theorem prt_e {e : Ex} {ws : List Wd} (h : Rw (RB e) (tight e) 0 ws) (hb : ∀ bs a, RB e bs → M a bs → Bare e a) (n : Nat) (a : List Tk) (m : M a ws) : Prt (pPartE n) e a := by
  refine ⟨fun rest hne hr => ?_, ?_⟩
  · cases n with
    | zero => unfold pPartE; exact .inl rfl
    | succ n =>
      unfold pPartE
      cases n with
      | zero => unfold pExpr; exact .inl rfl
      | succ n =>
        unfold pExpr
        exact (full_of h m hb (by omega)).r (by omega) rest (nx_of hne (by rcases hr with q | q <;> (rw [q]; decide))) n
  · obtain ⟨w, r, e1, e2⟩ := fst_rw h (fst_e e)
    rw [e1] at m
    obtain ⟨t, r', rfl, h1, _, _⟩ := m.cons
    exact ⟨t, r', rfl, by rw [h1]; exact (show ∀ s ∈ fsts, s ≠ ")" by decide) w.1 e2⟩
theorem expr_ret {e : Ex} {ws : List Wd} (h : Rw (RB e) (tight e) 0 ws) (hb : ∀ bs a, RB e bs → M a bs → Bare e a) (n : Nat) (a rest : List Tk) (m : M a ws) (hne : rest ≠ []) (hs : stopB (hd rest) = true) : Ret (pExpr n (a ++ rest)) e rest := by
  cases n with
  | zero => unfold pExpr; exact .inl rfl
  | succ n =>
    unfold pExpr
    exact (full_of h m hb (by omega)).r (by omega) rest (nx_of hne hs) n
/-- an item that is read at once -/
theorem item_i {e : Ex} {t : Tk} {r : List Tk} (h1 : t.s ≠ "-") (h2 : t.s ≠ "not") (h : ∀ rest, rest ≠ [] → hd rest ≠ "(" → ∀ n, Ret (pItem n (t :: r ++ rest)) e rest) : cI (t :: r) e := fun rest hne hp y ts2 hd' n => by
  cases n with
  | zero => unfold pSigned; exact .inl rfl
  | succ n =>
    unfold pSigned
    rw [if_neg (show hd (t :: r ++ rest) ≠ "-" from h1), if_neg (show hd (t :: r ++ rest) ≠ "not" from h2)]
    exact (h rest hne hp n).bind (hd' _)
theorem bare6 {e : Ex} {a : List Tk} (h : tight e = 6) (c : cI a e) : Bare e a := ⟨fun _ => c, fun q => by omega, fun q => by omega, fun q => by omega⟩
theorem bare5 {e : Ex} {a : List Tk} (h : tight e = 5) (c : cS a e) : Bare e a := ⟨fun q => by omega, fun _ => c, fun q => by omega, fun q => by omega⟩
mutual
theorem bare_of : ∀ (e : Ex) (bs : List Wd) (a : List Tk), RB e bs → M a bs → Bare e a
  | .int k, bs, a, h, m => by
    unfold RB at h
    rw [h.2] at m
    obtain ⟨t, r, rfl, h1, h2, mr⟩ := m.cons
    rw [mr.nil]
    have h1' : t.s = tn := h1
    refine bare6 rfl (item_i (by rw [h1']; decide) (by rw [h1']; decide) fun rest hne hp n => ?_)
    cases n with
    | zero => unfold pItem; exact .inl rfl
    | succ n =>
      unfold pItem
      rw [if_pos (show hd (t :: [] ++ rest) = tn from h1')]
      show Ret (adv (t :: rest) _) _ _
      rw [adv_cons hne, h2]
      show Ret (R.ok (Ex.int (numOf (numS k))) rest) _ _
      rw [h.1]
      exact .inr rfl
  | .non, bs, a, h, m => by
    unfold RB at h
    rw [h] at m
    obtain ⟨t, r, rfl, h1, h2, mr⟩ := m.cons
    rw [mr.nil]
    have h1' : t.s = "none" := h1
    refine bare6 rfl (item_i (by rw [h1']; decide) (by rw [h1']; decide) fun rest hne hp n => ?_)
    cases n with
    | zero => unfold pItem; exact .inl rfl
    | succ n =>
      unfold pItem
      rw [show hd (t :: [] ++ rest) = "none" from h1', if_neg (by decide), if_neg (by decide), if_pos rfl]
      show Ret (adv (t :: rest) _) _ _
      rw [adv_cons hne]
      exact .inr rfl
  | .var x, bs, a, h, m => by
    unfold RB at h
    rw [h] at m
    obtain ⟨t, r, rfl, h1, h2, mr⟩ := m.cons
    rw [mr.nil]
    have h1' : t.s = nm := h1
    have h2' : t.w = x := h2
    refine bare6 rfl (item_i (by rw [h1']; decide) (by rw [h1']; decide) fun rest hne hp n => ?_)
    cases n with
    | zero => unfold pItem; exact .inl rfl
    | succ n =>
      unfold pItem
      rw [show hd (t :: [] ++ rest) = nm from h1', if_neg (by decide), if_pos rfl]
      show Ret (adv (t :: rest) _) _ _
      rw [adv_cons hne, if_neg hp, h2']
      exact .inr rfl
  | .recv x, bs, a, h, m => by
    unfold RB at h
    rw [h] at m
    obtain ⟨t, r, rfl, h1, h2, mr⟩ := m.cons
    obtain ⟨t', r', rfl, k1, k2, mr'⟩ := mr.cons
    rw [mr'.nil]
    have h1' : t.s = "receive" := h1
    have k1' : t'.s = nm := k1
    have k2' : t'.w = x := k2
    refine bare6 rfl (item_i (by rw [h1']; decide) (by rw [h1']; decide) fun rest hne hp n => ?_)
    cases n with
    | zero => unfold pItem; exact .inl rfl
    | succ n =>
      unfold pItem
      rw [show hd (t :: [t'] ++ rest) = "receive" from h1', if_neg (by decide), if_neg (by decide), if_neg (by decide), if_pos rfl]
      show Ret (adv (t :: t' :: rest) _) _ _
      rw [adv_cons ne_cons]
      refine (take_cons k1' hne).bind ?_
      rw [k2']
      exact .inr rfl
  | .call f as, bs, a, h, m => by
    unfold RB at h
    obtain ⟨l, hl, h⟩ := h
    rw [h] at m
    obtain ⟨t, r, rfl, h1, h2, mr⟩ := m.cons
    have h1' : t.s = nm := h1
    have h2' : t.w = f := h2
    refine bare6 rfl (item_i (by rw [h1']; decide) (by rw [h1']; decide) fun rest hne hp n => ?_)
    cases n with
    | zero => unfold pItem; exact .inl rfl
    | succ n =>
      unfold pItem
      rw [show hd (t :: r ++ rest) = nm from h1', if_neg (by decide), if_pos rfl]
      show Ret (adv (t :: (r ++ rest)) _) _ _
      rw [adv_cons (ne_app hne), h2']
      have hpar : hd (r ++ rest) = "(" := by
        obtain ⟨t0, r0, rfl, s0, _, _⟩ := M.cons mr
        exact s0
      rw [if_pos hpar]
      have hs : Ret (pSevE n (r ++ rest)) as rest := by
        cases n with
        | zero => unfold pSevE; exact .inl rfl
        | succ n =>
          unfold pSevE
          exact several_ret (prts_of as l hl n) mr hne
      refine hs.bind ?_
      exact .inr rfl
  | .new fs, bs, a, h, m => by
    unfold RB at h
    obtain ⟨l, hl, h⟩ := h
    rw [h] at m
    obtain ⟨t, r, rfl, h1, h2, mr⟩ := m.cons
    have h1' : t.s = "new" := h1
    refine bare6 rfl (item_i (by rw [h1']; decide) (by rw [h1']; decide) fun rest hne hp n => ?_)
    cases n with
    | zero => unfold pItem; exact .inl rfl
    | succ n =>
      unfold pItem
      rw [show hd (t :: r ++ rest) = "new" from h1', if_neg (by decide), if_neg (by decide), if_neg (by decide), if_neg (by decide), if_pos rfl]
      show Ret (adv (t :: (r ++ rest)) _) _ _
      rw [adv_cons (ne_app hne)]
      have hs : Ret (pSevF n (r ++ rest)) fs rest := by
        cases n with
        | zero => unfold pSevF; exact .inl rfl
        | succ n =>
          unfold pSevF
          exact several_ret (prtsF_of fs l hl n) mr hne
      refine hs.bind ?_
      exact .inr rfl
  | .get e f, bs, a, h, m => by
    unfold RB at h
    obtain ⟨b, hb, h⟩ := h
    rw [h] at m
    obtain ⟨p, q, rfl, mp, mq⟩ := m.app
    obtain ⟨t, r, rfl, h1, h2, mr⟩ := mq.cons
    obtain ⟨t', r', rfl, k1, k2, mr'⟩ := mr.cons
    rw [mr'.nil]
    have h1' : t.s = "." := h1
    have k1' : t'.s = nm := k1
    have k2' : t'.w = f := k2
    have ih := full_of hb mp (fun bs a => bare_of e bs a) (Nat.le_refl _)
    refine bare6 rfl fun rest hne hp y ts2 hd' n => ?_
    have e0 : p ++ [t, t'] ++ rest = p ++ (t :: t' :: rest) := by simp
    rw [e0]
    refine ih.i rfl (t :: t' :: rest) ne_cons (by show t.s ≠ "("; rw [h1']; decide) y ts2 (fun K => ?_) n
    cases K with
    | zero => exact .inl rfl
    | succ K =>
      unfold dotLoop
      rw [if_pos (show hd (t :: t' :: rest) = "." from h1'), adv_cons ne_cons]
      refine (take_cons k1' hne).bind ?_
      rw [k2']
      exact hd' K
  | .neg e, bs, a, h, m => by
    unfold RB at h
    obtain ⟨b, hb, h⟩ := h
    rw [h] at m
    obtain ⟨t, r, rfl, h1, h2, mr⟩ := m.cons
    have h1' : t.s = "-" := h1
    have ih := full_of hb mr (fun bs a => bare_of e bs a) (by omega)
    refine bare5 rfl fun rest hx n => ?_
    cases n with
    | zero => unfold pSigned; exact .inl rfl
    | succ n =>
      unfold pSigned
      rw [if_pos (show hd (t :: r ++ rest) = "-" from h1')]
      show Ret (adv (t :: (r ++ rest)) _) _ _
      rw [adv_cons (ne_app hx.ne)]
      refine (ih.s rfl rest hx n).bind ?_
      exact .inr rfl
  | .not e, bs, a, h, m => by
    unfold RB at h
    obtain ⟨b, hb, h⟩ := h
    rw [h] at m
    obtain ⟨t, r, rfl, h1, h2, mr⟩ := m.cons
    have h1' : t.s = "not" := h1
    have ih := full_of hb mr (fun bs a => bare_of e bs a) (by omega)
    refine bare5 rfl fun rest hx n => ?_
    cases n with
    | zero => unfold pSigned; exact .inl rfl
    | succ n =>
      unfold pSigned
      rw [show hd (t :: r ++ rest) = "not" from h1', if_neg (by decide), if_pos rfl]
      show Ret (adv (t :: (r ++ rest)) _) _ _
      rw [adv_cons (ne_app hx.ne)]
      refine (ih.s rfl rest hx n).bind ?_
      exact .inr rfl
  | .op s l r, bs, a, h, m => by
    unfold RB at h
    obtain ⟨hs, x, y, hx, hy, h⟩ := h
    rw [h] at m
    obtain ⟨p, q, rfl, mp, mq⟩ := m.app
    obtain ⟨t, q', rfl, h1, h2, mr⟩ := mq.cons
    have h1' : t.s = s := h1
    have t4 : tightOf s ≤ 4 := by
      unfold tightOf
      repeat' split
      all_goals omega
    have fl : Full l (lft (tightOf s)) p := full_of hx mp (fun bs a => bare_of l bs a) (by unfold lft; split <;> omega)
    have fr : Full r (tightOf s + 1) q' := full_of hy mr (fun bs a => bare_of r bs a) (by omega)
    have go : cL (tightOf s) p l := by
      unfold lft at fl
      by_cases e2 : tightOf s = 2
      · rw [if_pos e2] at fl
        rw [e2]
        exact cR.l (by omega) (fl.r (by omega))
      · rw [if_neg e2] at fl
        exact fl.l t4 e2
    have take1 : ∀ rest, Nx (tightOf s + 1) rest → ∀ (z : Ex) (ts2 : List Tk), (tightOf s = 2 → z = .op s l r ∧ ts2 = rest) → (tightOf s ≠ 2 → ∀ n K, Ret (opLoop (pLevel n (tightOf s + 1)) (tightOf s) K (.op s l r) rest) z ts2) →
        ∀ n, Ret (pLevel n (tightOf s) (p ++ t :: q' ++ rest)) z ts2 := by
      intro rest hnx z ts2 hz2 hz n
      have e0 : p ++ t :: q' ++ rest = p ++ (t :: (q' ++ rest)) := by simp
      rw [e0]
      refine go (t :: (q' ++ rest)) (nx_sign h1' hs) z ts2 (fun n K => ?_) n
      cases K with
      | zero => exact .inl rfl
      | succ K =>
        unfold opLoop
        rw [show hd (t :: (q' ++ rest)) = s from h1', if_pos hs, adv_cons (ne_app hnx.ne)]
        refine (fr.r (by omega) rest hnx n).bind ?_
        by_cases e2 : tightOf s = 2
        · rw [if_pos e2]
          obtain ⟨rfl, rfl⟩ := hz2 e2
          exact .inr rfl
        · rw [if_neg e2]
          exact hz e2 n K
    refine ⟨fun q => ?_, fun q => ?_, fun _ h2 => ?_, fun h2 => ?_⟩
    · have q' : tightOf s = 6 := q
      omega
    · have q' : tightOf s = 5 := q
      omega
    · have h2' : tightOf s ≠ 2 := h2
      exact fun rest hnx z ts2 hz n => take1 rest hnx z ts2 (fun e => absurd e h2') (fun _ => hz) n
    · have h2' : tightOf s = 2 := h2
      intro rest hnx n
      have := take1 rest (hnx.up (by omega)) (.op s l r) rest (fun _ => ⟨rfl, rfl⟩) (fun e => absurd h2' e) n
      rw [h2'] at this
      exact this
theorem prts_of : ∀ (as : List Ex) (l : List (List Wd)), RBs as l → ∀ n, Prts (pPartE n) as l
  | [], l, h, n => by
    unfold RBs at h
    rw [h]
    exact .nil
  | e :: r, l, h, n => by
    unfold RBs at h
    obtain ⟨w, l', h1, h2, h3⟩ := h
    rw [h3]
    exact .cons (fun a m => prt_e h1 (fun bs a => bare_of e bs a) n a m) (prts_of r l' h2 n)
theorem prtsF_of : ∀ (fs : List (Str × Ex)) (l : List (List Wd)), RBf fs l → ∀ n, Prts (pPartF n) fs l
  | [], l, h, n => by
    unfold RBf at h
    rw [h]
    exact .nil
  | (x, e) :: r, l, h, n => by
    unfold RBf at h
    obtain ⟨w, l', h1, h2, h3⟩ := h
    rw [h3]
    refine .cons (fun a m => ?_) (prtsF_of r l' h2 n)
    obtain ⟨t, r1, rfl, s1, s2, m1⟩ := M.cons m
    obtain ⟨t', r2, rfl, k1, k2, m2⟩ := m1.cons
    have s1' : t.s = nm := s1
    have s2' : t.w = x := s2
    have k1' : t'.s = ":" := k1
    refine ⟨fun rest hne hr => ?_, t, _, rfl, by rw [s1']; decide⟩
    cases n with
    | zero => unfold pPartF; exact .inl rfl
    | succ n =>
      unfold pPartF
      cases n with
      | zero => unfold pField; exact .inl rfl
      | succ n =>
        unfold pField
        show Ret ((take nm (t :: t' :: (r2 ++ rest))).bind _) _ _
        refine (take_cons s1' ne_cons).bind ?_
        refine (take_cons k1' (ne_app hne)).bind ?_
        refine (expr_ret h1 (fun bs a => bare_of e bs a) n r2 rest m2 hne (by rcases hr with q | q <;> (rw [q]; decide))).bind ?_
        rw [s2']
        exact .inr rfl
end
end K4
set_option Elab.async false
set_option linter.all false
/-! K4g: the same for statements and programs. -/
namespace K4
open PySem
def RE (e : Ex) (ws : List Wd) : Prop := Rw (RB e) (tight e) 0 ws
def pathW (path : List Str) : List Wd := path.flatMap fun g => [kw ".", nmw g]
def isHere : St → Bool
  | .here _ _ => true
  | _ => false
mutual
def RS : St → List Wd → Prop
  | .lt x e, ws => ∃ we, RE e we ∧ ws = kw "let" :: nmw x :: kw "=" :: we
  | .st x e, ws => ∃ we, RE e we ∧ ws = nmw x :: kw "=" :: we
  | .put r f e, ws => ∃ x path, r = path.foldl .get (.var x) ∧ ∃ we, RE e we ∧ ws = nmw x :: (pathW (path ++ [f]) ++ kw "=" :: we)
  | .act f as, ws => ∃ l, RBs as l ∧ ws = nmw f :: rowW l
  | .iff c a b, ws => ∃ wc wa wb, RE c wc ∧ RSs a wa ∧ RSs b wb ∧ ws = kw "if" :: (wc ++ (wa ++ ((if b.isEmpty then [] else kw "else" :: wb) ++ [kw "end"])))
  | .wh c a, ws => ∃ wc wa, RE c wc ∧ RSs a wa ∧ ws = kw "while" :: (wc ++ (wa ++ [kw "end"]))
  | .ret e, ws => ∃ we, RE e we ∧ ws = kw "return" :: we
  | .thr e, ws => ∃ we, RE e we ∧ ws = kw "throw" :: we
  | .send p e, ws => ∃ we, RE e we ∧ ws = kw "send" :: nmw p :: we
  | .spawn f as, ws => ∃ l, RBs as l ∧ ws = kw "spawn" :: nmw f :: rowW l
  | .tri a n b, ws => ∃ wa wb, RSs a wa ∧ RSs b wb ∧ ws = kw "try" :: (wa ++ kw "catch" :: nmw n :: (wb ++ [kw "end"]))
  | .here l s, ws => isHere s = false ∧ ∃ w, RS s w ∧ ws = kw "here" :: nmw l :: w
def RSs : List St → List Wd → Prop
  | [], ws => ws = []
  | s :: r, ws => ∃ a b, RS s a ∧ RSs r b ∧ ws = a ++ b
end
def RF (f : Fn) (ws : List Wd) : Prop := ∃ wb, RSs f.b wb ∧ ws = kw "func" :: nmw f.x :: (rowW (f.ps.map fun p => [nmw p]) ++ (wb ++ [kw "end"]))
def RP : Pg → List Wd → Prop
  | [], ws => ws = []
  | f :: r, ws => ∃ a b, RF f a ∧ RP r b ∧ ws = a ++ b

theorem fst_s : ∀ (s : St) (ws : List Wd), RS s ws → ∃ w r, ws = w :: r ∧ w.1 ∈ beginnings ∧ (w.1 = "here" ↔ isHere s = true)
  | .lt x e, ws, h => by
    unfold RS at h
    obtain ⟨_, _, h⟩ := h
    exact ⟨_, _, h, by decide, (by show (("let" : Str) = "here") ↔ false = true; decide)⟩
  | .st x e, ws, h => by
    unfold RS at h
    obtain ⟨_, _, h⟩ := h
    exact ⟨_, _, h, (by show nm ∈ beginnings; decide), (by show nm = "here" ↔ false = true; decide)⟩
  | .put r f e, ws, h => by
    unfold RS at h
    obtain ⟨_, _, _, _, _, h⟩ := h
    exact ⟨_, _, h, (by show nm ∈ beginnings; decide), (by show nm = "here" ↔ false = true; decide)⟩
  | .act f as, ws, h => by
    unfold RS at h
    obtain ⟨_, _, h⟩ := h
    exact ⟨_, _, h, (by show nm ∈ beginnings; decide), (by show nm = "here" ↔ false = true; decide)⟩
  | .iff c a b, ws, h => by
    unfold RS at h
    obtain ⟨_, _, _, _, _, _, h⟩ := h
    exact ⟨_, _, h, by decide, (by show (("if" : Str) = "here") ↔ false = true; decide)⟩
  | .wh c a, ws, h => by
    unfold RS at h
    obtain ⟨_, _, _, _, h⟩ := h
    exact ⟨_, _, h, by decide, (by show (("while" : Str) = "here") ↔ false = true; decide)⟩
  | .ret e, ws, h => by
    unfold RS at h
    obtain ⟨_, _, h⟩ := h
    exact ⟨_, _, h, by decide, (by show (("return" : Str) = "here") ↔ false = true; decide)⟩
  | .thr e, ws, h => by
    unfold RS at h
    obtain ⟨_, _, h⟩ := h
    exact ⟨_, _, h, by decide, (by show (("throw" : Str) = "here") ↔ false = true; decide)⟩
  | .send p e, ws, h => by
    unfold RS at h
    obtain ⟨_, _, h⟩ := h
    exact ⟨_, _, h, by decide, (by show (("send" : Str) = "here") ↔ false = true; decide)⟩
  | .spawn f as, ws, h => by
    unfold RS at h
    obtain ⟨_, _, h⟩ := h
    exact ⟨_, _, h, by decide, (by show (("spawn" : Str) = "here") ↔ false = true; decide)⟩
  | .tri a n b, ws, h => by
    unfold RS at h
    obtain ⟨_, _, _, _, h⟩ := h
    exact ⟨_, _, h, by decide, (by show (("try" : Str) = "here") ↔ false = true; decide)⟩
  | .here l s, ws, h => by
    unfold RS at h
    obtain ⟨_, _, _, h⟩ := h
    exact ⟨_, _, h, by decide, (by show (("here" : Str) = "here") ↔ true = true; decide)⟩
theorem ex_ret {e : Ex} {ws : List Wd} (h : RE e ws) (n : Nat) {a rest : List Tk} (m : M a ws) (hne : rest ≠ []) (hs : stopB (hd rest) = true) : Ret (pExpr n (a ++ rest)) e rest := expr_ret h (fun bs a => bare_of e bs a) n a rest m hne hs
theorem sevE_ret {as : List Ex} {l : List (List Wd)} (h : RBs as l) (n : Nat) {a rest : List Tk} (m : M a (rowW l)) (hne : rest ≠ []) : Ret (pSevE n (a ++ rest)) as rest := by
  cases n with
  | zero => unfold pSevE; exact .inl rfl
  | succ n =>
    unfold pSevE
    exact several_ret (prts_of as l h n) m hne
theorem row_hd {l : List (List Wd)} {a rest : List Tk} (m : M a (rowW l)) : hd (a ++ rest) = "(" := by
  obtain ⟨t0, r0, rfl, s0, _, _⟩ := M.cons m
  exact s0
theorem path_ret : ∀ (path acc : List Str) (a rest : List Tk), M a (pathW path) → rest ≠ [] → hd rest ≠ "." → ∀ K, Ret (pathLoop K acc (a ++ rest)) (acc ++ path) rest
  | _, _, _, _, _, _, _, 0 => .inl rfl
  | [], acc, a, rest, m, hne, hr, K + 1 => by
    rw [M.nil m]
    unfold pathLoop
    rw [if_neg (show hd ([] ++ rest) ≠ "." from hr), List.append_nil]
    exact .inr rfl
  | g :: path, acc, a, rest, m, hne, hr, K + 1 => by
    obtain ⟨t, r, rfl, s1, _, m1⟩ := M.cons (show M a (kw "." :: nmw g :: pathW path) from m)
    obtain ⟨t', r', rfl, k1, k2, m2⟩ := m1.cons
    have s1' : t.s = "." := s1
    have k1' : t'.s = nm := k1
    have k2' : t'.w = g := k2
    unfold pathLoop
    rw [if_pos (show hd (t :: t' :: r' ++ rest) = "." from s1')]
    show Ret (adv (t :: t' :: (r' ++ rest)) _) _ _
    rw [adv_cons ne_cons]
    refine (take_cons k1' (ne_app hne)).bind ?_
    rw [k2']
    have := path_ret path (acc ++ [g]) r' rest m2 hne hr K
    rw [List.append_assoc] at this
    exact this
theorem mkSet_put (x : Str) (path : List Str) (f : Str) (v : Ex) : mkSet x (path ++ [f]) v = .put (path.foldl .get (.var x)) f v := by
  unfold mkSet
  simp
/-- a statement that begins with a word of its own -/
theorem stmt_kw {s : Str} {t : Tk} {r : List Tk} {n : Nat} {q : St} {rest : List Tk} (h1 : t.s = s) (hb : s ∈ beginnings) (hn : s ≠ nm) (hh : s ≠ "here") (hne : r ≠ [])
    (h : Ret (if s = "if" ∨ s = "while" ∨ s = "try" then pComp n s r
      else if s = "spawn" then (take nm r).bind fun f ts2 => (pSevE n ts2).bind fun as ts3 => .ok (.spawn f as) ts3
      else if s = "let" then (take nm r).bind fun x ts2 => (take "=" ts2).bind fun _ ts3 => (pExpr n ts3).bind fun e ts4 => .ok (.lt x e) ts4
      else if s = "send" then (take nm r).bind fun p ts2 => (pExpr n ts2).bind fun e ts3 => .ok (.send p e) ts3
      else (pExpr n r).bind fun e ts2 => .ok (if s = "return" then .ret e else .thr e) ts2) q rest) : Ret (pStmt (n + 1) (t :: r)) q rest := by
  unfold pStmt
  have e : hd (t :: r) = s := h1
  rw [e, if_neg hn, if_neg (by rintro (z | z); exact z hb; exact hh z), adv_cons hne]
  exact h
theorem here_ne {s : St} {w : Wd} (h : w.1 = "here" ↔ isHere s = true) (n : isHere s = false) : w.1 ≠ "here" := fun e => by
  rw [h.mp e] at n
  exact nomatch n
theorem stmts_stop {b : List St} {wb : List Wd} {a rest : List Tk} (h : RSs b wb) (m : M a wb) (hr : stopB (hd rest) = true) : stopB (hd (a ++ rest)) = true := by
  cases b with
  | nil =>
    unfold RSs at h
    rw [h] at m
    rw [M.nil m]
    exact hr
  | cons s r =>
    unfold RSs at h
    obtain ⟨x, y, h1, _, h3⟩ := h
    obtain ⟨w, z, e1, e2, _⟩ := fst_s s x h1
    rw [h3, e1] at m
    obtain ⟨t, r', rfl, s1, _, _⟩ := M.cons m
    show stopB t.s = true
    rw [s1]
    exact (show ∀ s ∈ beginnings, stopB s = true by decide) _ e2
mutual
theorem stmt_ret : ∀ (s : St) (ws : List Wd), RS s ws → isHere s = false → ∀ (n : Nat) (a rest : List Tk), M a ws → rest ≠ [] → stopB (hd rest) = true → Ret (pStmt n (a ++ rest)) s rest
  | s, ws, h, hh, 0, a, rest, m, hne, hr => by unfold pStmt; exact .inl rfl
  | .lt x e, ws, h, hh, n + 1, a, rest, m, hne, hr => by
    unfold RS at h
    obtain ⟨we, h1, h⟩ := h
    rw [h] at m
    obtain ⟨t, r, rfl, s1, _, m1⟩ := M.cons m
    obtain ⟨t2, r, rfl, s2, w2, m2⟩ := m1.cons
    obtain ⟨t3, r, rfl, s3, _, m3⟩ := m2.cons
    refine stmt_kw (s := "let") s1 (by decide) (by decide) (by decide) ne_cons ?_
    rw [if_neg (by decide), if_neg (by decide), if_pos rfl]
    refine (take_cons s2 ne_cons).bind ?_
    refine (take_cons s3 (ne_app hne)).bind ?_
    refine (ex_ret h1 n m3 hne hr).bind ?_
    rw [show t2.w = x from w2]
    exact .inr rfl
  | .st x e, ws, h, hh, n + 1, a, rest, m, hne, hr => by
    unfold RS at h
    obtain ⟨we, h1, h⟩ := h
    rw [h] at m
    obtain ⟨t, r, rfl, s1, w1, m1⟩ := M.cons m
    obtain ⟨t2, r, rfl, s2, w2, m2⟩ := m1.cons
    have s1' : t.s = nm := s1
    have s2' : t2.s = "=" := s2
    unfold pStmt
    rw [if_pos (show hd (t :: t2 :: r ++ rest) = nm from s1')]
    cases n with
    | zero => unfold pNamed; exact .inl rfl
    | succ n =>
      unfold pNamed
      show Ret ((take nm (t :: (t2 :: (r ++ rest)))).bind _) _ _
      refine (take_cons s1' ne_cons).bind ?_
      rw [if_neg (show hd (t2 :: (r ++ rest)) ≠ "(" by show t2.s ≠ "("; rw [s2']; decide)]
      refine (path_ret [] [] [] (t2 :: (r ++ rest)) rfl ne_cons (by show t2.s ≠ "."; rw [s2']; decide) _).bind ?_
      refine (take_cons s2' (ne_app hne)).bind ?_
      refine (ex_ret h1 n m2 hne hr).bind ?_
      rw [show t.w = x from w1]
      exact .inr rfl
  | .put r0 f e, ws, h, hh, n + 1, a, rest, m, hne, hr => by
    unfold RS at h
    obtain ⟨x, path, e0, we, h1, h⟩ := h
    rw [h] at m
    obtain ⟨t, r, rfl, s1, w1, m1⟩ := M.cons m
    obtain ⟨p, q, rfl, mp, mq⟩ := m1.app
    obtain ⟨t2, r, rfl, s2, w2, m2⟩ := mq.cons
    have s1' : t.s = nm := s1
    have s2' : t2.s = "=" := s2
    unfold pStmt
    rw [if_pos (show hd (t :: (p ++ t2 :: r) ++ rest) = nm from s1')]
    cases n with
    | zero => unfold pNamed; exact .inl rfl
    | succ n =>
      unfold pNamed
      have el : t :: (p ++ t2 :: r) ++ rest = t :: (p ++ (t2 :: (r ++ rest))) := by simp
      rw [el]
      refine (take_cons s1' (ne_app ne_cons)).bind ?_
      have hp : hd (p ++ (t2 :: (r ++ rest))) ≠ "(" := by
        cases path with
        | nil =>
          obtain ⟨t', r', rfl, k, _, _⟩ := M.cons (show M p (kw "." :: nmw f :: []) from mp)
          show t'.s ≠ "("
          rw [show t'.s = "." from k]
          decide
        | cons g path =>
          obtain ⟨t', r', rfl, k, _, _⟩ := M.cons (show M p (kw "." :: nmw g :: pathW (path ++ [f])) from mp)
          show t'.s ≠ "("
          rw [show t'.s = "." from k]
          decide
      rw [if_neg hp]
      refine (path_ret (path ++ [f]) [] p (t2 :: (r ++ rest)) mp ne_cons (by show t2.s ≠ "."; rw [s2']; decide) _).bind ?_
      refine (take_cons s2' (ne_app hne)).bind ?_
      refine (ex_ret h1 n m2 hne hr).bind ?_
      rw [List.nil_append, mkSet_put, show t.w = x from w1, e0]
      exact .inr rfl
  | .act f as, ws, h, hh, n + 1, a, rest, m, hne, hr => by
    unfold RS at h
    obtain ⟨l, h1, h⟩ := h
    rw [h] at m
    obtain ⟨t, r, rfl, s1, w1, m1⟩ := M.cons m
    have s1' : t.s = nm := s1
    unfold pStmt
    rw [if_pos (show hd (t :: r ++ rest) = nm from s1')]
    cases n with
    | zero => unfold pNamed; exact .inl rfl
    | succ n =>
      unfold pNamed
      show Ret ((take nm (t :: (r ++ rest))).bind _) _ _
      refine (take_cons s1' (ne_app hne)).bind ?_
      rw [if_pos (row_hd m1)]
      refine (sevE_ret h1 n m1 hne).bind ?_
      rw [show t.w = f from w1]
      exact .inr rfl
  | .iff c x y, ws, h, hh, n + 1, a, rest, m, hne, hr => by
    unfold RS at h
    obtain ⟨wc, wa, wb, h1, h2, h3, h⟩ := h
    rw [h] at m
    obtain ⟨t, r, rfl, s1, w1, m1⟩ := M.cons m
    obtain ⟨p, q, rfl, mp, mq⟩ := m1.app
    obtain ⟨p2, q2, rfl, mp2, mq2⟩ := mq.app
    obtain ⟨p3, q3, rfl, mp3, mq3⟩ := mq2.app
    obtain ⟨t4, r4, rfl, s4, _, m4⟩ := mq3.cons
    rw [m4.nil]
    have s4' : t4.s = "end" := s4
    refine stmt_kw (s := "if") (r := p ++ (p2 ++ (p3 ++ [t4])) ++ rest) s1 (by decide) (by decide) (by decide) (ne_app hne) ?_
    rw [if_pos (.inl rfl)]
    have el : p ++ (p2 ++ (p3 ++ [t4])) ++ rest = p ++ (p2 ++ (p3 ++ (t4 :: rest))) := by simp
    rw [el]
    cases n with
    | zero => unfold pComp; exact .inl rfl
    | succ n =>
      unfold pComp
      rw [if_neg (by decide)]
      have st3 : stopB (hd (p3 ++ (t4 :: rest))) = true ∧ hd (p3 ++ (t4 :: rest)) ∉ beginnings := by
        by_cases hy : y.isEmpty = true
        · rw [if_pos hy] at mp3
          rw [M.nil mp3]
          show stopB t4.s = true ∧ t4.s ∉ beginnings
          rw [s4']
          decide
        · rw [if_neg hy] at mp3
          obtain ⟨t5, r5, rfl, s5, _, _⟩ := M.cons mp3
          show stopB t5.s = true ∧ t5.s ∉ beginnings
          rw [show t5.s = "else" from s5]
          decide
      refine (ex_ret h1 n mp (ne_app (ne_app ne_cons)) (stmts_stop h2 mp2 st3.1)).bind ?_
      refine (stmts_ret x wa h2 n p2 (p3 ++ (t4 :: rest)) mp2 (ne_app ne_cons) st3.1 st3.2).bind ?_
      by_cases hy : y.isEmpty = true
      · rw [if_pos hy] at mp3
        rw [M.nil mp3]
        have ey : y = [] := List.isEmpty_iff.mp hy
        rw [ey, if_neg (by rintro ⟨_, z⟩; rw [show hd ([] ++ t4 :: rest) = "end" from s4'] at z; exact absurd z (by decide))]
        refine (take_cons s4' hne).bind ?_
        exact .inr rfl
      · rw [if_neg hy] at mp3
        obtain ⟨t5, r5, rfl, s5, _, m5⟩ := M.cons mp3
        rw [if_pos ⟨rfl, show hd (t5 :: r5 ++ t4 :: rest) = "else" from s5⟩]
        show Ret (adv (t5 :: (r5 ++ t4 :: rest)) _) _ _
        rw [adv_cons (ne_app ne_cons)]
        refine (stmts_ret y wb h3 n r5 (t4 :: rest) m5 ne_cons (by show stopB t4.s = true; rw [s4']; decide) (by show t4.s ∉ beginnings; rw [s4']; decide)).bind ?_
        refine (take_cons s4' hne).bind ?_
        exact .inr rfl
  | .wh c x, ws, h, hh, n + 1, a, rest, m, hne, hr => by
    unfold RS at h
    obtain ⟨wc, wa, h1, h2, h⟩ := h
    rw [h] at m
    obtain ⟨t, r, rfl, s1, w1, m1⟩ := M.cons m
    obtain ⟨p, q, rfl, mp, mq⟩ := m1.app
    obtain ⟨p2, q2, rfl, mp2, mq2⟩ := mq.app
    obtain ⟨t4, r4, rfl, s4, _, m4⟩ := mq2.cons
    rw [m4.nil]
    have s4' : t4.s = "end" := s4
    refine stmt_kw (s := "while") (r := p ++ (p2 ++ [t4]) ++ rest) s1 (by decide) (by decide) (by decide) (ne_app hne) ?_
    rw [if_pos (.inr (.inl rfl))]
    have el : p ++ (p2 ++ [t4]) ++ rest = p ++ (p2 ++ (t4 :: rest)) := by simp
    rw [el]
    cases n with
    | zero => unfold pComp; exact .inl rfl
    | succ n =>
      unfold pComp
      rw [if_neg (by decide)]
      have st3 : stopB (hd (t4 :: rest)) = true ∧ hd (t4 :: rest) ∉ beginnings := by
        show stopB t4.s = true ∧ t4.s ∉ beginnings
        rw [s4']
        decide
      refine (ex_ret h1 n mp (ne_app ne_cons) (stmts_stop h2 mp2 st3.1)).bind ?_
      refine (stmts_ret x wa h2 n p2 (t4 :: rest) mp2 ne_cons st3.1 st3.2).bind ?_
      rw [if_neg (by rintro ⟨z, _⟩; exact absurd z (by decide))]
      refine (take_cons s4' hne).bind ?_
      exact .inr rfl
  | .ret e, ws, h, hh, n + 1, a, rest, m, hne, hr => by
    unfold RS at h
    obtain ⟨we, h1, h⟩ := h
    rw [h] at m
    obtain ⟨t, r, rfl, s1, _, m1⟩ := M.cons m
    refine stmt_kw (s := "return") (r := r ++ rest) s1 (by decide) (by decide) (by decide) (ne_app hne) ?_
    rw [if_neg (by decide), if_neg (by decide), if_neg (by decide), if_neg (by decide)]
    exact (ex_ret h1 n m1 hne hr).bind (.inr rfl)
  | .thr e, ws, h, hh, n + 1, a, rest, m, hne, hr => by
    unfold RS at h
    obtain ⟨we, h1, h⟩ := h
    rw [h] at m
    obtain ⟨t, r, rfl, s1, _, m1⟩ := M.cons m
    refine stmt_kw (s := "throw") (r := r ++ rest) s1 (by decide) (by decide) (by decide) (ne_app hne) ?_
    rw [if_neg (by decide), if_neg (by decide), if_neg (by decide), if_neg (by decide)]
    exact (ex_ret h1 n m1 hne hr).bind (.inr rfl)
  | .send x e, ws, h, hh, n + 1, a, rest, m, hne, hr => by
    unfold RS at h
    obtain ⟨we, h1, h⟩ := h
    rw [h] at m
    obtain ⟨t, r, rfl, s1, _, m1⟩ := M.cons m
    obtain ⟨t2, r, rfl, s2, w2, m2⟩ := m1.cons
    refine stmt_kw (s := "send") s1 (by decide) (by decide) (by decide) ne_cons ?_
    rw [if_neg (by decide), if_neg (by decide), if_neg (by decide), if_pos rfl]
    refine (take_cons s2 (ne_app hne)).bind ?_
    refine (ex_ret h1 n m2 hne hr).bind ?_
    rw [show t2.w = x from w2]
    exact .inr rfl
  | .spawn f as, ws, h, hh, n + 1, a, rest, m, hne, hr => by
    unfold RS at h
    obtain ⟨l, h1, h⟩ := h
    rw [h] at m
    obtain ⟨t, r, rfl, s1, _, m1⟩ := M.cons m
    obtain ⟨t2, r, rfl, s2, w2, m2⟩ := m1.cons
    refine stmt_kw (s := "spawn") s1 (by decide) (by decide) (by decide) ne_cons ?_
    rw [if_neg (by decide), if_pos rfl]
    refine (take_cons s2 (ne_app hne)).bind ?_
    refine (sevE_ret h1 n m2 hne).bind ?_
    rw [show t2.w = f from w2]
    exact .inr rfl
  | .tri x y z, ws, h, hh, n + 1, a, rest, m, hne, hr => by
    unfold RS at h
    obtain ⟨wa, wb, h1, h2, h⟩ := h
    rw [h] at m
    obtain ⟨t, r, rfl, s1, w1, m1⟩ := M.cons m
    obtain ⟨p, q, rfl, mp, mq⟩ := m1.app
    obtain ⟨t2, q, rfl, s2, w2, mq⟩ := mq.cons
    obtain ⟨t3, q, rfl, s3, w3, mq⟩ := mq.cons
    obtain ⟨p2, q2, rfl, mp2, mq2⟩ := mq.app
    obtain ⟨t4, r4, rfl, s4, _, m4⟩ := mq2.cons
    rw [m4.nil]
    have s2' : t2.s = "catch" := s2
    have s4' : t4.s = "end" := s4
    refine stmt_kw (s := "try") (r := p ++ t2 :: t3 :: (p2 ++ [t4]) ++ rest) s1 (by decide) (by decide) (by decide) (ne_app hne) ?_
    rw [if_pos (.inr (.inr rfl))]
    have el : p ++ t2 :: t3 :: (p2 ++ [t4]) ++ rest = p ++ (t2 :: t3 :: (p2 ++ (t4 :: rest))) := by simp
    rw [el]
    cases n with
    | zero => unfold pComp; exact .inl rfl
    | succ n =>
      unfold pComp
      rw [if_pos rfl]
      refine (stmts_ret x wa h1 n p (t2 :: t3 :: (p2 ++ (t4 :: rest))) mp ne_cons (by show stopB t2.s = true; rw [s2']; decide) (by show t2.s ∉ beginnings; rw [s2']; decide)).bind ?_
      refine (take_cons s2' ne_cons).bind ?_
      refine (take_cons s3 (ne_app ne_cons)).bind ?_
      refine (stmts_ret z wb h2 n p2 (t4 :: rest) mp2 ne_cons (by show stopB t4.s = true; rw [s4']; decide) (by show t4.s ∉ beginnings; rw [s4']; decide)).bind ?_
      refine (take_cons s4' hne).bind ?_
      rw [show t3.w = y from w3]
      exact .inr rfl
  | .here l s, ws, h, hh, n + 1, a, rest, m, hne, hr => by exact nomatch hh
theorem stmts_ret : ∀ (b : List St) (wb : List Wd), RSs b wb → ∀ (n : Nat) (a rest : List Tk), M a wb → rest ≠ [] → stopB (hd rest) = true → hd rest ∉ beginnings → Ret (pStmts n (a ++ rest)) b rest
  | b, wb, h, 0, a, rest, m, hne, hr, hb => by unfold pStmts; exact .inl rfl
  | b, wb, h, n + 1, a, rest, m, hne, hr, hb => by
    unfold pStmts
    have := loop_ret b wb h n [] a rest m hne hr hb ((a ++ rest).length + 1)
    rw [List.nil_append] at this
    exact this
theorem loop_ret : ∀ (b : List St) (wb : List Wd), RSs b wb → ∀ (n : Nat) (acc : List St) (a rest : List Tk), M a wb → rest ≠ [] → stopB (hd rest) = true → hd rest ∉ beginnings → ∀ K, Ret (stLoop (pLab n) (pStmt n) K acc (a ++ rest)) (acc ++ b) rest
  | _, _, _, _, _, _, _, _, _, _, _, 0 => by unfold stLoop; exact .inl rfl
  | [], wb, h, n, acc, a, rest, m, hne, hr, hb, K + 1 => by
    unfold RSs at h
    rw [h] at m
    rw [M.nil m]
    unfold stLoop
    rw [if_neg (show hd ([] ++ rest) ∉ beginnings from hb), List.append_nil]
    exact .inr rfl
  | s :: r, wb, h, n, acc, a, rest, m, hne, hr, hb, K + 1 => by
    unfold RSs at h
    obtain ⟨x, y, h1, h2, h3⟩ := h
    rw [h3] at m
    obtain ⟨p, q, rfl, mp, mq⟩ := M.app m
    obtain ⟨w, z, e1, e2, e3⟩ := fst_s s x h1
    have mp0 := mp
    rw [e1] at mp
    obtain ⟨t, p', rfl, s1, _, _⟩ := M.cons mp
    unfold stLoop
    rw [List.append_assoc, if_pos (show hd (t :: p' ++ (q ++ rest)) ∈ beginnings by show t.s ∈ beginnings; rw [s1]; exact e2)]
    have hs : Ret (if hd (t :: p' ++ (q ++ rest)) = "here" then pLab n (t :: p' ++ (q ++ rest)) else pStmt n (t :: p' ++ (q ++ rest))) s (q ++ rest) := by
      by_cases e : isHere s = true
      · rw [if_pos (show hd (t :: p' ++ (q ++ rest)) = "here" from (by show t.s = "here"; rw [s1]; exact e3.mpr e))]
        exact lab_ret s x h1 e n (t :: p') (q ++ rest) mp0 (ne_app hne) (stmts_stop h2 mq hr)
      · have e' : isHere s = false := by simpa using e
        rw [if_neg (show hd (t :: p' ++ (q ++ rest)) ≠ "here" from (by show t.s ≠ "here"; rw [s1]; exact here_ne e3 e'))]
        exact stmt_ret s x h1 e' n (t :: p') (q ++ rest) mp0 (ne_app hne) (stmts_stop h2 mq hr)
    refine hs.bind ?_
    have := loop_ret r y h2 n (acc ++ [s]) q rest mq hne hr hb K
    rw [List.append_assoc] at this
    exact this
theorem lab_ret : ∀ (s : St) (ws : List Wd), RS s ws → isHere s = true → ∀ (n : Nat) (a rest : List Tk), M a ws → rest ≠ [] → stopB (hd rest) = true → Ret (pLab n (a ++ rest)) s rest
  | s, ws, h, hh, 0, a, rest, m, hne, hr => by unfold pLab; exact .inl rfl
  | .here l s, ws, h, hh, n + 1, a, rest, m, hne, hr => by
    unfold RS at h
    obtain ⟨h0, w, h1, h⟩ := h
    rw [h] at m
    obtain ⟨t, r, rfl, s1, _, m1⟩ := M.cons m
    obtain ⟨t2, r, rfl, s2, w2, m2⟩ := m1.cons
    unfold pLab
    show Ret ((take "here" (t :: t2 :: (r ++ rest))).bind _) _ _
    refine (take_cons s1 ne_cons).bind ?_
    refine (take_cons s2 (ne_app hne)).bind ?_
    refine (stmt_ret s w h1 h0 n r rest m2 hne hr).bind ?_
    rw [show t2.w = l from w2]
    exact .inr rfl
  | .lt _ _, _, _, hh, _ + 1, _, _, _, _, _ => by exact nomatch hh
  | .st _ _, _, _, hh, _ + 1, _, _, _, _, _ => by exact nomatch hh
  | .put _ _ _, _, _, hh, _ + 1, _, _, _, _, _ => by exact nomatch hh
  | .act _ _, _, _, hh, _ + 1, _, _, _, _, _ => by exact nomatch hh
  | .iff _ _ _, _, _, hh, _ + 1, _, _, _, _, _ => by exact nomatch hh
  | .wh _ _, _, _, hh, _ + 1, _, _, _, _, _ => by exact nomatch hh
  | .ret _, _, _, hh, _ + 1, _, _, _, _, _ => by exact nomatch hh
  | .thr _, _, _, hh, _ + 1, _, _, _, _, _ => by exact nomatch hh
  | .send _ _, _, _, hh, _ + 1, _, _, _, _, _ => by exact nomatch hh
  | .spawn _ _, _, _, hh, _ + 1, _, _, _, _, _ => by exact nomatch hh
  | .tri _ _ _, _, _, hh, _ + 1, _, _, _, _, _ => by exact nomatch hh
end
theorem prts_nm : ∀ ps : List Str, Prts (take nm) ps (ps.map fun p => [nmw p])
  | [] => .nil
  | p :: r => .cons (fun a m => by
      obtain ⟨t, q, rfl, s1, w1, m1⟩ := M.cons m
      rw [m1.nil]
      have s1' : t.s = nm := s1
      have w1' : t.w = p := w1
      refine ⟨fun rest hne _ => ?_, t, [], rfl, by rw [s1']; decide⟩
      have := take_cons (r := rest) s1' hne
      rw [w1'] at this
      exact this) (prts_nm r)
theorem fns_ret : ∀ (p : Pg) (ws : List Wd), RP p ws → ∀ (n : Nat) (acc : Pg) (a : List Tk) (o : Tk), M a ws → o.s = ov → ∀ K, Ret (fnLoop (pStmts n) K acc (a ++ [o])) (acc ++ p) [o]
  | _, _, _, _, _, _, _, _, _, 0 => by unfold fnLoop; exact .inl rfl
  | [], ws, h, n, acc, a, o, m, ho, K + 1 => by
    unfold RP at h
    rw [h] at m
    rw [M.nil m]
    unfold fnLoop
    rw [if_pos (show hd ([] ++ [o]) = ov from ho), List.append_nil]
    exact .inr rfl
  | f :: r, ws, h, n, acc, a, o, m, ho, K + 1 => by
    unfold RP at h
    obtain ⟨x, y, ⟨wb, h1, h2⟩, h3, h4⟩ := h
    rw [h4] at m
    obtain ⟨p, q, rfl, mp, mq⟩ := M.app m
    rw [h2] at mp
    obtain ⟨t, p, rfl, s1, w1, mp⟩ := M.cons mp
    obtain ⟨t2, p, rfl, s2, w2, mp⟩ := mp.cons
    obtain ⟨p1, p2, rfl, m1, m2⟩ := mp.app
    obtain ⟨p3, p4, rfl, m3, m4⟩ := m2.app
    obtain ⟨t5, p5, rfl, s5, _, m5⟩ := m4.cons
    rw [m5.nil]
    have s1' : t.s = "func" := s1
    have s5' : t5.s = "end" := s5
    have el : t :: t2 :: (p1 ++ (p3 ++ [t5])) ++ q ++ [o] = t :: t2 :: (p1 ++ (p3 ++ (t5 :: (q ++ [o])))) := by simp
    unfold fnLoop
    rw [el, if_neg (by show t.s ≠ ov; rw [s1']; decide)]
    refine (take_cons s1' ne_cons).bind ?_
    refine (take_cons s2 (ne_app (ne_app ne_cons))).bind ?_
    refine (several_ret (prts_nm f.ps) m1 (ne_app ne_cons)).bind ?_
    refine (stmts_ret f.b wb h1 n p3 (t5 :: (q ++ [o])) m3 ne_cons (by show stopB t5.s = true; rw [s5']; decide) (by show t5.s ∉ beginnings; rw [s5']; decide)).bind ?_
    refine (take_cons s5' (ne_app ne_cons)).bind ?_
    have := fns_ret r y h3 n (acc ++ [⟨t2.w, f.ps, f.b⟩]) q o mq ho K
    rw [List.append_assoc] at this
    have e2 : t2.w = f.x := w2
    have e3 : (⟨t2.w, f.ps, f.b⟩ : Fn) = f := by rw [e2]
    rw [e3] at this ⊢
    exact this
/-- a rendering is read as the program -/
theorem read_ret {p : Pg} {ws : List Wd} (h : RP p ws) (n : Nat) {a : List Tk} {o : Tk} (m : M a ws) (ho : o.s = ov) : Ret (pRead n (a ++ [o])) p [o] := by
  unfold pRead
  have := fns_ret p ws h n [] a o m ho ((a ++ [o]).length + 1)
  exact this
end K4
set_option Elab.async false
set_option linter.all false
/-! K4h: the programs that the law draws; how deep their renderings nest. -/
namespace K4
open PySem
def okN : List Str := ["a", "b", "x", "in", "out", "top", "k", "zz"]
def okI : List Nat := [0, 1, 7, 10, 305, 999999999999, 1000000000000]
def signs : List Str := ["or", "and", "==", "!=", "<", "<=", "+", "-", "*", "/", "mod"]
mutual
def tE : Ex → Nat → Prop
  | .int n, _ => n ∈ okI
  | .non, _ => True
  | .var x, _ => x ∈ okN
  | .recv p, _ => p ∈ okN
  | .call f as, d => f ∈ okN ∧ 0 < d ∧ as.length ≤ 2 ∧ tEs as (d - 1)
  | .new fs, d => 0 < d ∧ fs.length ≤ 2 ∧ tEf fs (d - 1)
  | .get e f, d => 0 < d ∧ tE e (d - 1) ∧ f ∈ okN
  | .neg e, d => 0 < d ∧ tE e (d - 1)
  | .not e, d => 0 < d ∧ tE e (d - 1)
  | .op s l r, d => 0 < d ∧ s ∈ signs ∧ tE l (d - 1) ∧ tE r (d - 1)
def tEs : List Ex → Nat → Prop
  | [], _ => True
  | e :: r, d => tE e d ∧ tEs r d
def tEf : List (Str × Ex) → Nat → Prop
  | [], _ => True
  | (x, e) :: r, d => x ∈ okN ∧ tE e d ∧ tEf r d
end
/-- a statement: blocks in it inner deep, expressions deep -/
def tP (dp : Nat) : St → Prop
  | .lt x e => x ∈ okN ∧ tE e dp
  | .st x e => x ∈ okN ∧ tE e dp
  | .put r f e => (∃ (x : Str) (path : List Str), x ∈ okN ∧ path.length ≤ 2 ∧ (∀ g ∈ path, g ∈ okN) ∧ r = path.foldl .get (.var x)) ∧ f ∈ okN ∧ tE e dp
  | .act f as => f ∈ okN ∧ as.length ≤ 2 ∧ tEs as (dp - 1)
  | .ret e => tE e dp
  | .thr e => tE e dp
  | .send p e => p ∈ okN ∧ tE e dp
  | .spawn f as => f ∈ okN ∧ as.length ≤ 2 ∧ tEs as (dp - 1)
  | _ => False
mutual
def tS : St → Nat → Nat → Prop
  | .iff c a b, i, dp => 0 < i ∧ tE c dp ∧ a.length ≤ 1 ∧ b.length ≤ 1 ∧ tSs a (i - 1) dp ∧ tSs b (i - 1) dp
  | .wh c a, i, dp => 0 < i ∧ tE c dp ∧ a.length ≤ 1 ∧ tSs a (i - 1) dp
  | .tri a n b, i, dp => 0 < i ∧ n ∈ okN ∧ a.length ≤ 1 ∧ b.length ≤ 1 ∧ tSs a (i - 1) dp ∧ tSs b (i - 1) dp
  | .here l s, i, dp => l ∈ okN ∧ isHere s = false ∧ tS s i dp
  | .lt x e, _, dp => tP dp (.lt x e)
  | .st x e, _, dp => tP dp (.st x e)
  | .put r f e, _, dp => tP dp (.put r f e)
  | .act f as, _, dp => tP dp (.act f as)
  | .ret e, _, dp => tP dp (.ret e)
  | .thr e, _, dp => tP dp (.thr e)
  | .send p e, _, dp => tP dp (.send p e)
  | .spawn f as, _, dp => tP dp (.spawn f as)
def tSs : List St → Nat → Nat → Prop
  | [], _, _ => True
  | s :: r, i, dp => tS s i dp ∧ tSs r i dp
end
def tF (f : Fn) (i dp : Nat) : Prop := f.x ∈ okN ∧ f.ps.length ≤ 2 ∧ (∀ p ∈ f.ps, p ∈ okN) ∧ f.b.length ≤ 2 ∧ tSs f.b i dp
def tG (p : Pg) : Prop := p.length ≤ 2 ∧ ∃ i dp, i ≤ 2 ∧ 1 ≤ dp ∧ dp ≤ 2 ∧ ∀ f ∈ p, tF f i dp

/-! ### how deep -/
structure Bl (d b r : Nat) (a : List Tk) : Prop where
  all : ∀ rest, D (a ++ rest) ≤ max d (D rest) ∧ B (a ++ rest) ≤ max b (B rest) ∧ RM (a ++ rest) ≤ max r (RM rest)
def Lr (l : Nat) (a : List Tk) : Prop := ∀ rest, lr (a ++ rest) ≤ l
theorem Bl.nil {d b r : Nat} : Bl d b r [] := ⟨fun rest => ⟨Nat.le_max_right _ _, Nat.le_max_right _ _, Nat.le_max_right _ _⟩⟩
theorem Bl.app {d b r : Nat} {x y : List Tk} (h : Bl d b r x) (k : Bl d b r y) : Bl d b r (x ++ y) := ⟨fun rest => by
  rw [List.append_assoc]
  have h1 := h.all (y ++ rest)
  have k1 := k.all rest
  omega⟩
theorem Bl.mono {d b r d' b' r' : Nat} {x : List Tk} (h : Bl d b r x) (h1 : d ≤ d') (h2 : b ≤ b') (h3 : r ≤ r') : Bl d' b' r' x := ⟨fun rest => by
  have := h.all rest
  omega⟩
def plainB (s : Str) : Bool := neut s && !(s == "-" || s == "not")
theorem tok_facts {t : Tk} {r : List Tk} (h : plainB t.s = true) : D (t :: r) = D r ∧ B (t :: r) = B r ∧ lr (t :: r) = 0 ∧ RM (t :: r) = RM r := by
  simp only [plainB, neut, Bool.and_eq_true, Bool.not_eq_true', Bool.or_eq_false_iff, beq_eq_false_iff_ne, ne_eq] at h
  obtain ⟨⟨⟨⟨⟨⟨⟨n1, n2⟩, n3⟩, n4⟩, n5⟩, n6⟩, n7⟩, n8, n9⟩ := h
  have hl : lr (t :: r) = 0 := by simp [lr, n8, n9]
  refine ⟨by simp [D, n1, n2], by simp [B, n3, n4, n5, n6, n7], hl, ?_⟩
  show max (lr (t :: r)) (RM r) = RM r
  rw [hl]
  omega
theorem Bl.tok {d b r : Nat} {t : Tk} {x : List Tk} (h : plainB t.s = true) (k : Bl d b r x) : Bl d b r (t :: x) := ⟨fun rest => by
  obtain ⟨h1, h2, h3, h4⟩ := tok_facts (t := t) (r := x ++ rest) h
  have := k.all rest
  show D (t :: (x ++ rest)) ≤ _ ∧ B (t :: (x ++ rest)) ≤ _ ∧ RM (t :: (x ++ rest)) ≤ _
  omega⟩
theorem Lr.tok {l : Nat} {t : Tk} {x : List Tk} (h : plainB t.s = true) : Lr l (t :: x) := fun rest => by
  have := (tok_facts (t := t) (r := x ++ rest) h).2.2.1
  show lr (t :: (x ++ rest)) ≤ l
  omega
theorem Lr.app {l : Nat} {x y : List Tk} (h : Lr l x) : Lr l (x ++ y) := fun rest => by
  rw [List.append_assoc]
  exact h _
theorem Lr.mono {l l' : Nat} {x : List Tk} (h : Lr l x) (k : l ≤ l') : Lr l' x := fun rest => Nat.le_trans (h rest) k
theorem lp_facts {t : Tk} {r : List Tk} (h : t.s = "(") : D (t :: r) = D r + 1 ∧ B (t :: r) = B r ∧ lr (t :: r) = 0 ∧ RM (t :: r) = RM r := by
  have hl : lr (t :: r) = 0 := by simp only [lr, h]; exact if_neg (by decide)
  refine ⟨by simp only [D, h]; rfl, by simp only [B, h]; rfl, hl, ?_⟩
  show max (lr (t :: r)) (RM r) = RM r
  rw [hl]
  omega
theorem rp_facts {t : Tk} {r : List Tk} (h : t.s = ")") : D (t :: r) = D r - 1 ∧ B (t :: r) = B r ∧ lr (t :: r) = 0 ∧ RM (t :: r) = RM r := by
  have hl : lr (t :: r) = 0 := by simp only [lr, h]; exact if_neg (by decide)
  refine ⟨by simp only [D, h]; rfl, by simp only [B, h]; rfl, hl, ?_⟩
  show max (lr (t :: r)) (RM r) = RM r
  rw [hl]
  omega
theorem Bl.par {d b r : Nat} {t0 t1 : Tk} {x : List Tk} (h0 : t0.s = "(") (h1 : t1.s = ")") (k : Bl d b r x) : Bl (d + 1) b r (t0 :: (x ++ [t1])) := ⟨fun rest => by
  have e : t0 :: (x ++ [t1]) ++ rest = t0 :: (x ++ (t1 :: rest)) := by simp
  rw [e]
  have f0 := lp_facts (t := t0) (r := x ++ (t1 :: rest)) h0
  have f1 := rp_facts (t := t1) (r := rest) h1
  have := k.all (t1 :: rest)
  omega⟩
theorem Lr.par {l : Nat} {t : Tk} {x : List Tk} (h : t.s = "(") : Lr l (t :: x) := fun rest => by
  have := (lp_facts (t := t) (r := x ++ rest) h).2.2.1
  show lr (t :: (x ++ rest)) ≤ l
  omega
/-- a sign ahead -/
theorem Bl.sign {d b r l : Nat} {t : Tk} {x : List Tk} (h : neut t.s = true) (k : Bl d b r x) (hl : Lr l x) (hr : l + 1 ≤ r) : Bl d b r (t :: x) ∧ Lr (l + 1) (t :: x) := by
  have hL : ∀ rest, lr (t :: (x ++ rest)) ≤ l + 1 := fun rest => by
    have := hl rest
    show (if t.s = "-" ∨ t.s = "not" then lr (x ++ rest) + 1 else 0) ≤ l + 1
    split <;> omega
  refine ⟨⟨fun rest => ?_⟩, hL⟩
  simp only [neut, Bool.not_eq_true', Bool.or_eq_false_iff, beq_eq_false_iff_ne, ne_eq] at h
  obtain ⟨⟨⟨⟨⟨⟨n1, n2⟩, n3⟩, n4⟩, n5⟩, n6⟩, n7⟩ := h
  have hd' : D (t :: (x ++ rest)) = D (x ++ rest) := by simp [D, n1, n2]
  have hb : B (t :: (x ++ rest)) = B (x ++ rest) := by simp [B, n3, n4, n5, n6, n7]
  have hm : RM (t :: (x ++ rest)) = max (lr (t :: (x ++ rest))) (RM (x ++ rest)) := rfl
  have := k.all rest
  have := hL rest
  show D (t :: (x ++ rest)) ≤ _ ∧ B (t :: (x ++ rest)) ≤ _ ∧ RM (t :: (x ++ rest)) ≤ _
  omega
theorem rw_bl {P : List Wd → Prop} {t k d r : Nat} {ws : List Wd} {a : List Tk} (h : Rw P t k ws) (m : M a ws) (hb : ∀ bs a, P bs → M a bs → Bl d 0 r a ∧ Lr r a) : Bl (d + 1) 0 r a ∧ Lr r a := by
  obtain ⟨bs, h1, h2 | ⟨_, h2⟩⟩ := h
  · rw [h2] at m
    obtain ⟨t0, r0, rfl, s0, _, m⟩ := m.cons
    obtain ⟨p, q, rfl, mp, mq⟩ := m.app
    obtain ⟨t1, r1, rfl, s1, _, m1⟩ := mq.cons
    rw [m1.nil]
    exact ⟨(hb bs p h1 mp).1.par s0 s1, Lr.par s0⟩
  · rw [h2] at m
    obtain ⟨b1, b2⟩ := hb bs a h1 m
    exact ⟨b1.mono (Nat.le_succ d) (Nat.le_refl _) (Nat.le_refl _), b2⟩
/-- the parts of a row -/
def PB (d r : Nat) (l : List (List Wd)) : Prop := ∀ w ∈ l, ∀ a, M a w → Bl d 0 r a
theorem sep_bl {d r : Nat} : ∀ (l : List (List Wd)), PB d r l → ∀ a, M a (sepW l) → Bl d 0 r a
  | [], _, a, m => by
    rw [M.nil m]
    exact Bl.nil
  | [w], h, a, m => h w (by simp) a m
  | w :: w' :: l, h, a, m => by
    obtain ⟨p, q, rfl, mp, mq⟩ := M.app (show M a (w ++ kw "," :: sepW (w' :: l)) from m)
    obtain ⟨t, q', rfl, s1, _, m1⟩ := mq.cons
    refine (h w (by simp) p mp).app (Bl.tok (by rw [show t.s = "," from s1]; decide) (sep_bl (w' :: l) (fun x hx => h x (List.mem_cons_of_mem _ hx)) q' m1))
theorem row_bl {d r : Nat} {l : List (List Wd)} (h : PB d r l) {a : List Tk} (m : M a (rowW l)) : Bl (d + 1) 0 r a := by
  obtain ⟨t0, r0, rfl, s0, _, m⟩ := M.cons m
  obtain ⟨b, q, rfl, mb, mq⟩ := m.app
  obtain ⟨t1, r1, rfl, s1, _, m1⟩ := mq.cons
  rw [m1.nil]
  exact (sep_bl l h b mb).par s0 s1
theorem sign_neut {s : Str} (h : s ∈ signs) : neut s = true := (show ∀ s ∈ signs, neut s = true by decide) s h
mutual
theorem e_bl : ∀ (e : Ex) (d : Nat) (bs : List Wd) (a : List Tk), tE e d → RB e bs → M a bs → Bl (2 * d) 0 d a ∧ Lr d a
  | .int k, d, bs, a, ht, h, m => by
    unfold RB at h
    rw [h.2] at m
    obtain ⟨t, r, rfl, h1, _, mr⟩ := m.cons
    rw [mr.nil]
    have p : plainB t.s = true := by rw [show t.s = tn from h1]; decide
    exact ⟨Bl.tok p Bl.nil, Lr.tok p⟩
  | .non, d, bs, a, ht, h, m => by
    unfold RB at h
    rw [h] at m
    obtain ⟨t, r, rfl, h1, _, mr⟩ := m.cons
    rw [mr.nil]
    have p : plainB t.s = true := by rw [show t.s = "none" from h1]; decide
    exact ⟨Bl.tok p Bl.nil, Lr.tok p⟩
  | .var x, d, bs, a, ht, h, m => by
    unfold RB at h
    rw [h] at m
    obtain ⟨t, r, rfl, h1, _, mr⟩ := m.cons
    rw [mr.nil]
    have p : plainB t.s = true := by rw [show t.s = nm from h1]; decide
    exact ⟨Bl.tok p Bl.nil, Lr.tok p⟩
  | .recv x, d, bs, a, ht, h, m => by
    unfold RB at h
    rw [h] at m
    obtain ⟨t, r, rfl, h1, _, mr⟩ := m.cons
    obtain ⟨t', r', rfl, k1, _, mr'⟩ := mr.cons
    rw [mr'.nil]
    have p : plainB t.s = true := by rw [show t.s = "receive" from h1]; decide
    have p' : plainB t'.s = true := by rw [show t'.s = nm from k1]; decide
    exact ⟨Bl.tok p (Bl.tok p' Bl.nil), Lr.tok p⟩
  | .call f as, d, bs, a, ht, h, m => by
    unfold RB at h
    unfold tE at ht
    obtain ⟨l, hl, h⟩ := h
    rw [h] at m
    obtain ⟨t, r, rfl, h1, _, mr⟩ := m.cons
    have p : plainB t.s = true := by rw [show t.s = nm from h1]; decide
    exact ⟨Bl.tok p ((row_bl (es_bl as (d - 1) l ht.2.2.2 hl) mr).mono (by omega) (by omega) (by omega)), Lr.tok p⟩
  | .new fs, d, bs, a, ht, h, m => by
    unfold RB at h
    unfold tE at ht
    obtain ⟨l, hl, h⟩ := h
    rw [h] at m
    obtain ⟨t, r, rfl, h1, _, mr⟩ := m.cons
    have p : plainB t.s = true := by rw [show t.s = "new" from h1]; decide
    exact ⟨Bl.tok p ((row_bl (fs_bl fs (d - 1) l ht.2.2 hl) mr).mono (by omega) (by omega) (by omega)), Lr.tok p⟩
  | .get e f, d, bs, a, ht, h, m => by
    unfold RB at h
    unfold tE at ht
    obtain ⟨b, hb, h⟩ := h
    rw [h] at m
    obtain ⟨p, q, rfl, mp, mq⟩ := m.app
    obtain ⟨t, r, rfl, h1, h2, mr⟩ := mq.cons
    obtain ⟨t', r', rfl, k1, k2, mr'⟩ := mr.cons
    rw [mr'.nil]
    obtain ⟨b1, b2⟩ := rw_bl hb mp fun bs a => e_bl e (d - 1) bs a ht.2.1
    have p1 : plainB t.s = true := by rw [show t.s = "." from h1]; decide
    have p2 : plainB t'.s = true := by rw [show t'.s = nm from k1]; decide
    exact ⟨(b1.mono (by omega) (by omega) (by omega)).app (Bl.tok p1 (Bl.tok p2 Bl.nil)), (b2.mono (by omega)).app⟩
  | .neg e, d, bs, a, ht, h, m => by
    unfold RB at h
    unfold tE at ht
    obtain ⟨b, hb, h⟩ := h
    rw [h] at m
    obtain ⟨t, r, rfl, h1, h2, mr⟩ := m.cons
    obtain ⟨b1, b2⟩ := rw_bl hb mr fun bs a => e_bl e (d - 1) bs a ht.2
    have z := Bl.sign (t := t) (by rw [show t.s = "-" from h1]; decide) (b1.mono (d' := 2 * d) (b' := 0) (r' := d) (by omega) (by omega) (by omega)) b2 (by omega)
    exact ⟨z.1, z.2.mono (by omega)⟩
  | .not e, d, bs, a, ht, h, m => by
    unfold RB at h
    unfold tE at ht
    obtain ⟨b, hb, h⟩ := h
    rw [h] at m
    obtain ⟨t, r, rfl, h1, h2, mr⟩ := m.cons
    obtain ⟨b1, b2⟩ := rw_bl hb mr fun bs a => e_bl e (d - 1) bs a ht.2
    have z := Bl.sign (t := t) (by rw [show t.s = "not" from h1]; decide) (b1.mono (d' := 2 * d) (b' := 0) (r' := d) (by omega) (by omega) (by omega)) b2 (by omega)
    exact ⟨z.1, z.2.mono (by omega)⟩
  | .op s l r, d, bs, a, ht, h, m => by
    unfold RB at h
    unfold tE at ht
    obtain ⟨hs, x, y, hx, hy, h⟩ := h
    rw [h] at m
    obtain ⟨p, q, rfl, mp, mq⟩ := m.app
    obtain ⟨t, q', rfl, h1, h2, mr⟩ := mq.cons
    obtain ⟨b1, b2⟩ := rw_bl hx mp fun bs a => e_bl l (d - 1) bs a ht.2.2.1
    obtain ⟨c1, c2⟩ := rw_bl hy mr fun bs a => e_bl r (d - 1) bs a ht.2.2.2
    have z := Bl.sign (t := t) (by rw [show t.s = s from h1]; exact sign_neut ht.2.1) (c1.mono (d' := 2 * d) (b' := 0) (r' := d) (by omega) (by omega) (by omega)) c2 (by omega)
    exact ⟨(b1.mono (by omega) (by omega) (by omega)).app z.1, (b2.mono (by omega)).app⟩
theorem es_bl : ∀ (as : List Ex) (d : Nat) (l : List (List Wd)), tEs as d → RBs as l → PB (2 * d + 1) d l
  | [], d, l, ht, h => by
    unfold RBs at h
    rw [h]
    exact fun w hw => nomatch hw
  | e :: r, d, l, ht, h => by
    unfold RBs at h
    unfold tEs at ht
    obtain ⟨w, l', h1, h2, h3⟩ := h
    rw [h3]
    intro x hx a m
    rcases List.mem_cons.mp hx with hx | hx
    · rw [hx] at m
      exact (rw_bl h1 m fun bs a => e_bl e d bs a ht.1).1
    · exact es_bl r d l' ht.2 h2 x hx a m
theorem fs_bl : ∀ (fs : List (Str × Ex)) (d : Nat) (l : List (List Wd)), tEf fs d → RBf fs l → PB (2 * d + 1) d l
  | [], d, l, ht, h => by
    unfold RBf at h
    rw [h]
    exact fun w hw => nomatch hw
  | (n, e) :: r, d, l, ht, h => by
    unfold RBf at h
    unfold tEf at ht
    obtain ⟨w, l', h1, h2, h3⟩ := h
    rw [h3]
    intro x hx a m
    rcases List.mem_cons.mp hx with hx | hx
    · rw [hx] at m
      obtain ⟨t, a, rfl, s1, _, m⟩ := M.cons m
      obtain ⟨t', a, rfl, s2, _, m⟩ := m.cons
      exact Bl.tok (by rw [show t.s = nm from s1]; decide) (Bl.tok (by rw [show t'.s = ":" from s2]; decide) (rw_bl h1 m fun bs a => e_bl e d bs a ht.2.1).1)
    · exact fs_bl r d l' ht.2.2 h2 x hx a m
end
theorem re_bl {e : Ex} {d dp : Nat} {ws : List Wd} {a : List Tk} (ht : tE e dp) (h : RE e ws) (m : M a ws) : Bl (2 * dp + 1) 0 dp a := (rw_bl h m fun bs a => e_bl e dp bs a ht).1
theorem path_bl {d b r : Nat} : ∀ (path : List Str) (a : List Tk), M a (pathW path) → Bl d b r a
  | [], a, m => by
    rw [M.nil m]
    exact Bl.nil
  | g :: path, a, m => by
    obtain ⟨t, q, rfl, s1, _, m1⟩ := M.cons (show M a (kw "." :: nmw g :: pathW path) from m)
    obtain ⟨t', q', rfl, k1, _, m2⟩ := m1.cons
    exact Bl.tok (by rw [show t.s = "." from s1]; decide) (Bl.tok (by rw [show t'.s = nm from k1]; decide) (path_bl path q' m2))
theorem blk_facts {t : Tk} {r : List Tk} (h : t.s = "if" ∨ t.s = "while" ∨ t.s = "try" ∨ t.s = "func") : D (t :: r) = D r ∧ B (t :: r) = B r + 1 ∧ RM (t :: r) = RM r := by
  have hl : lr (t :: r) = 0 := by rcases h with h | h | h | h <;> (simp only [lr, h]; exact if_neg (by decide))
  refine ⟨by rcases h with h | h | h | h <;> (simp only [D, h]; rfl), by rcases h with h | h | h | h <;> (simp only [B, h]; rfl), ?_⟩
  show max (lr (t :: r)) (RM r) = RM r
  rw [hl]
  omega
theorem end_facts {t : Tk} {r : List Tk} (h : t.s = "end") : D (t :: r) = D r ∧ B (t :: r) = B r - 1 ∧ RM (t :: r) = RM r := by
  have hl : lr (t :: r) = 0 := by simp only [lr, h]; exact if_neg (by decide)
  refine ⟨by simp only [D, h]; rfl, by simp only [B, h]; rfl, ?_⟩
  show max (lr (t :: r)) (RM r) = RM r
  rw [hl]
  omega
theorem Bl.blk {d b r : Nat} {t0 t1 : Tk} {x : List Tk} (h0 : t0.s = "if" ∨ t0.s = "while" ∨ t0.s = "try" ∨ t0.s = "func") (h1 : t1.s = "end") (k : Bl d b r x) : Bl d (b + 1) r (t0 :: (x ++ [t1])) := ⟨fun rest => by
  have e : t0 :: (x ++ [t1]) ++ rest = t0 :: (x ++ (t1 :: rest)) := by simp
  rw [e]
  have f0 := blk_facts (t := t0) (r := x ++ (t1 :: rest)) h0
  have f1 := end_facts (t := t1) (r := rest) h1
  have := k.all (t1 :: rest)
  omega⟩
theorem row1_bl {as : List Ex} {dp : Nat} {l : List (List Wd)} {a : List Tk} (ht : tEs as (dp - 1)) (h : RBs as l) (m : M a (rowW l)) (hd : 1 ≤ dp) : Bl (2 * dp + 1) 0 dp a := (row_bl (es_bl as (dp - 1) l ht h) m).mono (by omega) (by omega) (by omega)
theorem part_bl {dp i : Nat} (hdp : 1 ≤ dp) : ∀ (s : St) (ws : List Wd) (a : List Tk), tP dp s → RS s ws → M a ws → Bl (2 * dp + 1) i dp a
  | .lt x e, ws, a, ht, h, m => by
    unfold RS at h
    obtain ⟨we, h1, h⟩ := h
    rw [h] at m
    obtain ⟨t, r, rfl, s1, _, m⟩ := M.cons m
    obtain ⟨t2, r, rfl, s2, _, m⟩ := m.cons
    obtain ⟨t3, r, rfl, s3, _, m⟩ := m.cons
    exact Bl.tok (by rw [show t.s = "let" from s1]; decide) (Bl.tok (by rw [show t2.s = nm from s2]; decide) (Bl.tok (by rw [show t3.s = "=" from s3]; decide) ((re_bl (d := 0) ht.2 h1 m).mono (by omega) (by omega) (by omega))))
  | .st x e, ws, a, ht, h, m => by
    unfold RS at h
    obtain ⟨we, h1, h⟩ := h
    rw [h] at m
    obtain ⟨t2, r, rfl, s2, _, m⟩ := M.cons m
    obtain ⟨t3, r, rfl, s3, _, m⟩ := m.cons
    exact Bl.tok (by rw [show t2.s = nm from s2]; decide) (Bl.tok (by rw [show t3.s = "=" from s3]; decide) ((re_bl (d := 0) ht.2 h1 m).mono (by omega) (by omega) (by omega)))
  | .put r0 f e, ws, a, ht, h, m => by
    unfold RS at h
    obtain ⟨x, path, _, we, h1, h⟩ := h
    rw [h] at m
    obtain ⟨t2, r, rfl, s2, _, m⟩ := M.cons m
    obtain ⟨p, q, rfl, mp, mq⟩ := m.app
    obtain ⟨t3, r, rfl, s3, _, m⟩ := mq.cons
    exact Bl.tok (by rw [show t2.s = nm from s2]; decide) ((path_bl _ p mp).app (Bl.tok (by rw [show t3.s = "=" from s3]; decide) ((re_bl (d := 0) ht.2.2 h1 m).mono (by omega) (by omega) (by omega))))
  | .act f as, ws, a, ht, h, m => by
    unfold RS at h
    obtain ⟨l, h1, h⟩ := h
    rw [h] at m
    obtain ⟨t2, r, rfl, s2, _, m⟩ := M.cons m
    exact Bl.tok (by rw [show t2.s = nm from s2]; decide) ((row1_bl ht.2.2 h1 m hdp).mono (by omega) (by omega) (by omega))
  | .ret e, ws, a, ht, h, m => by
    unfold RS at h
    obtain ⟨we, h1, h⟩ := h
    rw [h] at m
    obtain ⟨t, r, rfl, s1, _, m⟩ := M.cons m
    exact Bl.tok (by rw [show t.s = "return" from s1]; decide) ((re_bl (d := 0) ht h1 m).mono (by omega) (by omega) (by omega))
  | .thr e, ws, a, ht, h, m => by
    unfold RS at h
    obtain ⟨we, h1, h⟩ := h
    rw [h] at m
    obtain ⟨t, r, rfl, s1, _, m⟩ := M.cons m
    exact Bl.tok (by rw [show t.s = "throw" from s1]; decide) ((re_bl (d := 0) ht h1 m).mono (by omega) (by omega) (by omega))
  | .send p e, ws, a, ht, h, m => by
    unfold RS at h
    obtain ⟨we, h1, h⟩ := h
    rw [h] at m
    obtain ⟨t, r, rfl, s1, _, m⟩ := M.cons m
    obtain ⟨t2, r, rfl, s2, _, m⟩ := m.cons
    exact Bl.tok (by rw [show t.s = "send" from s1]; decide) (Bl.tok (by rw [show t2.s = nm from s2]; decide) ((re_bl (d := 0) ht.2 h1 m).mono (by omega) (by omega) (by omega)))
  | .spawn f as, ws, a, ht, h, m => by
    unfold RS at h
    obtain ⟨l, h1, h⟩ := h
    rw [h] at m
    obtain ⟨t, r, rfl, s1, _, m⟩ := M.cons m
    obtain ⟨t2, r, rfl, s2, _, m⟩ := m.cons
    exact Bl.tok (by rw [show t.s = "spawn" from s1]; decide) (Bl.tok (by rw [show t2.s = nm from s2]; decide) ((row1_bl ht.2.2 h1 m hdp).mono (by omega) (by omega) (by omega)))
  | .iff _ _ _, _, _, ht, _, _ => ht.elim
  | .wh _ _, _, _, ht, _, _ => ht.elim
  | .tri _ _ _, _, _, ht, _, _ => ht.elim
  | .here _ _, _, _, ht, _, _ => ht.elim
mutual
theorem s_bl {dp : Nat} (hdp : 1 ≤ dp) : ∀ (s : St) (i : Nat) (ws : List Wd) (a : List Tk), tS s i dp → RS s ws → M a ws → Bl (2 * dp + 1) i dp a
  | .iff c x y, i, ws, a, ht, h, m => by
    unfold RS at h
    unfold tS at ht
    obtain ⟨wc, wa, wb, h1, h2, h3, h⟩ := h
    rw [h] at m
    obtain ⟨t, r, rfl, s1, w1, m1⟩ := M.cons m
    obtain ⟨p, q, rfl, mp, mq⟩ := m1.app
    obtain ⟨p2, q2, rfl, mp2, mq2⟩ := mq.app
    obtain ⟨p3, q3, rfl, mp3, mq3⟩ := mq2.app
    obtain ⟨t4, r4, rfl, s4, _, m4⟩ := mq3.cons
    rw [m4.nil]
    have b1 : Bl (2 * dp + 1) (i - 1) dp p := (re_bl (d := 0) ht.2.1 h1 mp).mono (by omega) (by omega) (by omega)
    have b2 := ss_bl hdp x (i - 1) wa p2 ht.2.2.2.2.1 h2 mp2
    have b3 : Bl (2 * dp + 1) (i - 1) dp p3 := by
      by_cases hy : y.isEmpty = true
      · rw [if_pos hy] at mp3
        rw [M.nil mp3]
        exact Bl.nil
      · rw [if_neg hy] at mp3
        obtain ⟨t5, r5, rfl, s5, _, m5⟩ := M.cons mp3
        exact Bl.tok (by rw [show t5.s = "else" from s5]; decide) (ss_bl hdp y (i - 1) wb r5 ht.2.2.2.2.2 h3 m5)
    have z := Bl.blk (t0 := t) (t1 := t4) (.inl s1) s4 (b1.app (b2.app b3))
    have e : t :: (p ++ (p2 ++ p3) ++ [t4]) = t :: (p ++ (p2 ++ (p3 ++ [t4]))) := by simp
    rw [e] at z
    exact z.mono (Nat.le_refl _) (by omega) (Nat.le_refl _)
  | .wh c x, i, ws, a, ht, h, m => by
    unfold RS at h
    unfold tS at ht
    obtain ⟨wc, wa, h1, h2, h⟩ := h
    rw [h] at m
    obtain ⟨t, r, rfl, s1, w1, m1⟩ := M.cons m
    obtain ⟨p, q, rfl, mp, mq⟩ := m1.app
    obtain ⟨p2, q2, rfl, mp2, mq2⟩ := mq.app
    obtain ⟨t4, r4, rfl, s4, _, m4⟩ := mq2.cons
    rw [m4.nil]
    have b1 : Bl (2 * dp + 1) (i - 1) dp p := (re_bl (d := 0) ht.2.1 h1 mp).mono (by omega) (by omega) (by omega)
    have b2 := ss_bl hdp x (i - 1) wa p2 ht.2.2.2 h2 mp2
    have z := Bl.blk (t0 := t) (t1 := t4) (.inr (.inl s1)) s4 (b1.app b2)
    have e : t :: (p ++ p2 ++ [t4]) = t :: (p ++ (p2 ++ [t4])) := by simp
    rw [e] at z
    exact z.mono (Nat.le_refl _) (by omega) (Nat.le_refl _)
  | .tri x y z, i, ws, a, ht, h, m => by
    unfold RS at h
    unfold tS at ht
    obtain ⟨wa, wb, h1, h2, h⟩ := h
    rw [h] at m
    obtain ⟨t, r, rfl, s1, w1, m1⟩ := M.cons m
    obtain ⟨p, q, rfl, mp, mq⟩ := m1.app
    obtain ⟨t2, q, rfl, s2, w2, mq⟩ := mq.cons
    obtain ⟨t3, q, rfl, s3, w3, mq⟩ := mq.cons
    obtain ⟨p2, q2, rfl, mp2, mq2⟩ := mq.app
    obtain ⟨t4, r4, rfl, s4, _, m4⟩ := mq2.cons
    rw [m4.nil]
    have b1 := ss_bl hdp x (i - 1) wa p ht.2.2.2.2.1 h1 mp
    have b2 := ss_bl hdp z (i - 1) wb p2 ht.2.2.2.2.2 h2 mp2
    have k := Bl.blk (t0 := t) (t1 := t4) (.inr (.inr (.inl s1))) s4 (b1.app (Bl.tok (t := t2) (by rw [show t2.s = "catch" from s2]; decide) (Bl.tok (t := t3) (by rw [show t3.s = nm from s3]; decide) b2)))
    have e : t :: (p ++ t2 :: t3 :: p2 ++ [t4]) = t :: (p ++ t2 :: t3 :: (p2 ++ [t4])) := by simp
    rw [e] at k
    exact k.mono (Nat.le_refl _) (by omega) (Nat.le_refl _)
  | .here l s, i, ws, a, ht, h, m => by
    unfold RS at h
    unfold tS at ht
    obtain ⟨h0, w, h1, h⟩ := h
    rw [h] at m
    obtain ⟨t, r, rfl, s1, _, m1⟩ := M.cons m
    obtain ⟨t2, r, rfl, s2, w2, m2⟩ := m1.cons
    exact Bl.tok (by rw [show t.s = "here" from s1]; decide) (Bl.tok (by rw [show t2.s = nm from s2]; decide) (s_bl hdp s i w r ht.2.2 h1 m2))
  | .lt x e, i, ws, a, ht, h, m => part_bl hdp _ ws a (by unfold tS at ht; exact ht) h m
  | .st x e, i, ws, a, ht, h, m => part_bl hdp _ ws a (by unfold tS at ht; exact ht) h m
  | .put x f e, i, ws, a, ht, h, m => part_bl hdp _ ws a (by unfold tS at ht; exact ht) h m
  | .act x e, i, ws, a, ht, h, m => part_bl hdp _ ws a (by unfold tS at ht; exact ht) h m
  | .ret e, i, ws, a, ht, h, m => part_bl hdp _ ws a (by unfold tS at ht; exact ht) h m
  | .thr e, i, ws, a, ht, h, m => part_bl hdp _ ws a (by unfold tS at ht; exact ht) h m
  | .send x e, i, ws, a, ht, h, m => part_bl hdp _ ws a (by unfold tS at ht; exact ht) h m
  | .spawn x e, i, ws, a, ht, h, m => part_bl hdp _ ws a (by unfold tS at ht; exact ht) h m
theorem ss_bl {dp : Nat} (hdp : 1 ≤ dp) : ∀ (b : List St) (i : Nat) (ws : List Wd) (a : List Tk), tSs b i dp → RSs b ws → M a ws → Bl (2 * dp + 1) i dp a
  | [], i, ws, a, ht, h, m => by
    unfold RSs at h
    rw [h] at m
    rw [M.nil m]
    exact Bl.nil
  | s :: r, i, ws, a, ht, h, m => by
    unfold RSs at h
    unfold tSs at ht
    obtain ⟨x, y, h1, h2, h3⟩ := h
    rw [h3] at m
    obtain ⟨p, q, rfl, mp, mq⟩ := M.app m
    exact (s_bl hdp s i x p ht.1 h1 mp).app (ss_bl hdp r i y q ht.2 h2 mq)
end
theorem nms_bl {d r : Nat} : ∀ ps : List Str, PB d r (ps.map fun p => [nmw p])
  | [] => fun w hw => nomatch hw
  | p :: ps => fun w hw a m => by
    rcases List.mem_cons.mp hw with h | h
    · rw [h] at m
      obtain ⟨t, q, rfl, s1, _, m1⟩ := M.cons m
      rw [m1.nil]
      exact Bl.tok (by rw [show t.s = nm from s1]; decide) Bl.nil
    · exact nms_bl ps w h a m
theorem p_bl {i dp : Nat} (hdp : 1 ≤ dp) : ∀ (p : Pg) (ws : List Wd) (a : List Tk), (∀ f ∈ p, tF f i dp) → RP p ws → M a ws → Bl (2 * dp + 1) (i + 1) dp a
  | [], ws, a, ht, h, m => by
    unfold RP at h
    rw [h] at m
    rw [M.nil m]
    exact Bl.nil
  | f :: r, ws, a, ht, h, m => by
    unfold RP at h
    obtain ⟨x, y, ⟨wb, h1, h2⟩, h3, h4⟩ := h
    rw [h4] at m
    obtain ⟨p, q, rfl, mp, mq⟩ := M.app m
    rw [h2] at mp
    obtain ⟨t, p, rfl, s1, w1, mp⟩ := M.cons mp
    obtain ⟨t2, p, rfl, s2, w2, mp⟩ := mp.cons
    obtain ⟨p1, p2, rfl, m1, m2⟩ := mp.app
    obtain ⟨p3, p4, rfl, m3, m4⟩ := m2.app
    obtain ⟨t5, p5, rfl, s5, _, m5⟩ := m4.cons
    rw [m5.nil]
    have hf := ht f (by simp)
    have b3 := ss_bl hdp f.b i wb p3 hf.2.2.2.2 h1 m3
    have b1 : Bl (2 * dp + 1) i dp p1 := (row_bl (d := 0) (r := dp) (nms_bl f.ps) m1).mono (by omega) (by omega) (by omega)
    have k := Bl.blk (t0 := t) (t1 := t5) (.inr (.inr (.inr s1))) s5 (Bl.tok (t := t2) (by rw [show t2.s = nm from s2]; decide) (b1.app b3))
    have e : t :: (t2 :: (p1 ++ p3) ++ [t5]) = t :: t2 :: (p1 ++ (p3 ++ [t5])) := by simp
    rw [e] at k
    exact k.app (p_bl hdp r y q (fun f hf => ht f (List.mem_cons_of_mem _ hf)) h3 mq)
end K4
set_option Elab.async false
set_option linter.all false
/-! K4i: tokens with a pair of parentheses taken out; the reading of a rendering, of such tokens. -/
namespace K4
open PySem
theorem D_app {k : Nat} {x y : List Tk} (h : D x ≤ D y + k) : ∀ a : List Tk, D (a ++ x) ≤ D (a ++ y) + k
  | [] => h
  | t :: a => by
    have ih := D_app h a
    simp only [List.cons_append, D]
    split
    · omega
    · split <;> omega
theorem B_app {x y : List Tk} (h : B x = B y) : ∀ a : List Tk, B (a ++ x) = B (a ++ y)
  | [] => h
  | t :: a => by
    have ih := B_app h a
    simp only [List.cons_append, B, ih]
theorem lr_app {t : Tk} {b : List Tk} (h : lr (t :: b) = 0) : ∀ a : List Tk, lr (a ++ b) ≤ lr (a ++ t :: b) + lr b
  | [] => by simp only [List.nil_append]; omega
  | s :: a => by
    have ih := lr_app h a
    simp only [List.cons_append, lr]
    split <;> omega
theorem RM_sub (b : List Tk) : ∀ a : List Tk, RM b ≤ RM (a ++ b)
  | [] => Nat.le_refl _
  | s :: a => Nat.le_trans (RM_sub b a) (RM_tl _ _)
theorem RM_app {t : Tk} {b : List Tk} (h : lr (t :: b) = 0) : ∀ a : List Tk, RM (a ++ b) ≤ 2 * RM (a ++ t :: b)
  | [] => by
    have := RM_tl t b
    simp only [List.nil_append]
    omega
  | s :: a => by
    have ih := RM_app h a
    have h1 := lr_app h (s :: a)
    have h2 := lr_le b
    have h3 := RM_sub b (s :: a ++ [t])
    have h4 := lr_le (s :: a ++ t :: b)
    have e : s :: a ++ [t] ++ b = s :: a ++ t :: b := by simp
    rw [e] at h3
    have h5 := RM_tl s (a ++ t :: b)
    show max (lr (s :: a ++ b)) (RM (a ++ b)) ≤ 2 * RM (s :: a ++ t :: b)
    have h5' : RM (a ++ t :: b) ≤ RM (s :: a ++ t :: b) := h5
    omega
theorem out1 {t0 : Tk} {a b : List Tk} (h0 : t0.s = "(") : D (a ++ b) ≤ D (a ++ t0 :: b) ∧ B (a ++ b) = B (a ++ t0 :: b) ∧ RM (a ++ b) ≤ 2 * RM (a ++ t0 :: b) := by
  have f := lp_facts (t := t0) (r := b) h0
  refine ⟨?_, ?_, RM_app f.2.2.1 a⟩
  · have := D_app (k := 0) (x := b) (y := t0 :: b) (by omega) a
    omega
  · exact B_app f.2.1.symm a
theorem out2 {t0 t1 : Tk} {a b c : List Tk} (h0 : t0.s = "(") (h1 : t1.s = ")") : D (a ++ (b ++ c)) ≤ D (a ++ t0 :: (b ++ t1 :: c)) ∧ B (a ++ (b ++ c)) = B (a ++ t0 :: (b ++ t1 :: c)) ∧ RM (a ++ (b ++ c)) ≤ 4 * RM (a ++ t0 :: (b ++ t1 :: c)) := by
  have f1 := rp_facts (t := t1) (r := c) h1
  have f0 := lp_facts (t := t0) (r := b ++ t1 :: c) h0
  have g := out1 (a := a) (b := b ++ t1 :: c) h0
  refine ⟨?_, ?_, ?_⟩
  · have h2 := D_app (k := 1) (x := c) (y := t1 :: c) (by omega) b
    have := D_app (k := 0) (x := b ++ c) (y := t0 :: (b ++ t1 :: c)) (by omega) a
    omega
  · refine B_app ?_ a
    rw [f0.2.1]
    exact B_app f1.2.1.symm b
  · have r1 := RM_app (t := t1) (b := c) f1.2.2.1 (a ++ b)
    have e1 : a ++ b ++ c = a ++ (b ++ c) := List.append_assoc ..
    have e2 : a ++ b ++ t1 :: c = a ++ (b ++ t1 :: c) := List.append_assoc ..
    rw [e1, e2] at r1
    omega
/-- the bounds of a drawn program's rendering -/
theorem tG_bounds {p : Pg} {ws : List Wd} {a : List Tk} {o : Tk} (ht : tG p) (h : RP p ws) (m : M a ws) (ho : o.s = ov) : D (a ++ [o]) ≤ 5 ∧ B (a ++ [o]) ≤ 3 ∧ RM (a ++ [o]) ≤ 2 := by
  obtain ⟨_, i, dp, hi, h1, h2, hf⟩ := ht
  have b := (p_bl (i := i) h1 p ws a hf h m).all [o]
  have d0 : D [o] = 0 := by simp only [D, ho]; rfl
  have b0 : B [o] = 0 := by simp only [B, ho]; rfl
  have r0 : RM [o] = 0 := by
    have : lr [o] = 0 := by simp only [lr, ho]; exact if_neg (by decide)
    show max (lr [o]) 0 = 0
    omega
  omega
/-- the depth that all the law's texts are read within -/
def dep : Nat := 160
theorem read_ok {p : Pg} {ws : List Wd} {a : List Tk} {o : Tk} (ht : tG p) (h : RP p ws) (m : M a ws) (ho : o.s = ov) (hf : Fin (a ++ [o])) : pRead dep (a ++ [o]) = .ok p [o] := by
  have b := tG_bounds ht h m ho
  rcases read_ret h dep m ho with e | e
  · exact absurd e (pRead_G hf (by omega) (by unfold dep; omega))
  · exact e
/-- a text with fewer parentheses than p's own is not read as p -/
theorem less_ne {p q : Pg} {ts ts' : List Tk} {n : Nat} (h : pRead n ts = .ok q ts') (hp : pc ts < cnP p) : q ≠ p := fun e => by
  have := pRead_C h
  rw [e] at this
  omega
end K4
set_option Elab.async false
set_option linter.all false
/-! K4j: the tokens of a text, as a plain function; texts made of words and gaps. -/
namespace K4
open PySem
abbrev cd (s : Str) : List Nat := s.cps.toList
def S (l : List Nat) : Str := ⟨l.toArray⟩
theorem cd_S (l : List Nat) : cd (S l) = l := by simp [cd, S]
theorem S_cd (s : Str) : S (cd s) = s := by simp [cd, S]
theorem cd_app (a b : Str) : cd (a ++ b) = cd a ++ cd b := by
  show (a.cps ++ b.cps).toList = _
  simp
theorem cd_inj {a b : Str} (h : cd a = cd b) : a = b := by rw [← S_cd a, ← S_cd b, h]
theorem cd_len (s : Str) : (cd s).length = s.length := by simp [cd, Str.length]

def letS : Str := "abcdefghijklmnopqrstuvwxyz"
def figS : Str := "0123456789"
def gapS : Str := " \n"
def keywords : List Str := ["func", "end", "let", "if", "else", "while", "return", "send", "spawn", "try", "catch", "throw", "here", "new", "receive", "none", "and", "or", "not", "mod"]
def sgns : List Str := ["==", "!=", "<=", "(", ")", ",", ":", ".", "=", "<", "+", "-", "*", "/"]
/-- how many of some characters stand ahead -/
def runL (C : Str) : List Nat → Nat
  | [] => 0
  | c :: r => if c ∈ cd C then runL C r + 1 else 0
def letSort (w : Str) : Str := if w ∈ keywords then w else if w.length ≤ 12 then nm else bd
def figSort (w : Str) : Str := if ((cd w)[0]? = some 48 ∧ w ≠ "0") ∨ 13 < w.length ∨ 1000000000000 < numOf w then bd else tn
def sgnAt (cs : List Nat) : Str := match sgns.find? (fun s => (cd s).isPrefixOf cs) with
  | some s => s
  | none => Str.empty
def tokAt (cs : List Nat) : Str × Str :=
  if 0 < runL letS cs then (letSort (S (cs.take (runL letS cs))), S (cs.take (runL letS cs)))
  else if 0 < runL figS cs then (figSort (S (cs.take (runL figS cs))), S (cs.take (runL figS cs)))
  else if sgnAt cs ≠ Str.empty then (sgnAt cs, sgnAt cs)
  else (bd, S (cs.take 1))
def isWord (w : Str) : Bool := match cd w with
  | [] => false
  | c :: _ => decide (c ∈ cd letS ∨ c ∈ cd figS)
/-- from a place where no gap stands -/
def lexF : Nat → List Nat → Nat → Bool → List Tk
  | 0, _, _, _ => []
  | k + 1, cs, i, touches => if cs = [] then [⟨ov, Str.empty, i⟩] else
    let t := tokAt cs
    let n := t.2.length
    let g := runL gapS (cs.drop n)
    ⟨if (isWord t.2 && touches) = true then bd else t.1, t.2, i⟩ :: lexF k (cs.drop (n + g)) (i + (n + g)) (isWord t.2 && g == 0)
def toks (cs : List Nat) : List Tk := lexF (cs.length + 1) (cs.drop (runL gapS cs)) (runL gapS cs) false

theorem runL_le (C : Str) : ∀ cs : List Nat, runL C cs ≤ cs.length
  | [] => Nat.le_refl _
  | c :: r => by
    have := runL_le C r
    unfold runL
    split
    · simp only [List.length_cons]
      omega
    · omega
theorem runL_app {C : Str} {x : List Nat} (hx : ∀ c ∈ x, c ∈ cd C) {y : List Nat} (hy : ∀ c r, y = c :: r → c ∉ cd C) : runL C (x ++ y) = x.length := by
  induction x with
  | nil =>
    cases y with
    | nil => rfl
    | cons c r =>
      show runL C (c :: r) = 0
      unfold runL
      rw [if_neg (hy c r rfl)]
  | cons c x ih =>
    show runL C (c :: (x ++ y)) = _
    unfold runL
    rw [if_pos (hx c (by simp)), ih fun d hd => hx d (List.mem_cons_of_mem _ hd)]
    rfl
theorem runL_0 {C : Str} {c : Nat} {r : List Nat} (h : c ∉ cd C) : runL C (c :: r) = 0 := by
  unfold runL
  rw [if_neg h]
theorem sgn_mem {cs : List Nat} (h : sgnAt cs ≠ Str.empty) : sgnAt cs ∈ sgns ∧ (cd (sgnAt cs)).isPrefixOf cs = true := by
  unfold sgnAt at h ⊢
  cases e : sgns.find? (fun s => (cd s).isPrefixOf cs) with
  | none =>
    rw [e] at h
    exact absurd rfl h
  | some s =>
    exact ⟨List.mem_of_find?_eq_some e, by simpa using List.find?_some e⟩
theorem runL_take (C : Str) : ∀ cs : List Nat, ∀ c ∈ cs.take (runL C cs), c ∈ cd C
  | [] => fun c h => by simp [runL] at h
  | d :: r => fun c h => by
    unfold runL at h
    by_cases e : d ∈ cd C
    · rw [if_pos e, List.take_succ_cons] at h
      rcases List.mem_cons.mp h with h | h
      · rw [h]
        exact e
      · exact runL_take C r c h
    · rw [if_neg e] at h
      simp at h
/-- what a token is -/
structure Vt (t : Tk) : Prop where
  ne : cd t.w ≠ []
  sg : t.s ≠ nm → t.s ≠ tn → t.s ≠ bd → t.w = t.s
  fg : t.s = tn → (∀ c ∈ cd t.w, c ∈ cd figS) ∧ t.w.length ≤ 13
  nov : t.s ≠ ov
  len : t.w.length ≤ 12 ∨ t.s = bd ∨ t.s = tn ∨ t.s ∈ keywords ∨ t.s ∈ sgns
theorem tokAt_pre {cs : List Nat} (h : cs ≠ []) : ∃ x, cs = cd (tokAt cs).2 ++ x ∧ 0 < (tokAt cs).2.length := by
  have t1 : ∀ n, 0 < n → n ≤ cs.length → ∃ x, cs = cd (S (cs.take n)) ++ x ∧ 0 < (S (cs.take n)).length := fun n h1 h2 => by
    refine ⟨cs.drop n, by rw [cd_S, List.take_append_drop], ?_⟩
    rw [← cd_len, cd_S, List.length_take]
    omega
  unfold tokAt
  split
  · exact t1 _ (by assumption) (runL_le _ _)
  · split
    · exact t1 _ (by assumption) (runL_le _ _)
    · split
      · rename_i hs
        obtain ⟨h1, h2⟩ := sgn_mem hs
        obtain ⟨x, hx⟩ := List.isPrefixOf_iff_prefix.mp h2
        refine ⟨x, hx.symm, ?_⟩
        exact (show ∀ s ∈ sgns, 0 < s.length by decide) _ h1
      · refine t1 1 (by omega) ?_
        cases cs with
        | nil => exact absurd rfl h
        | cons c r => simp
theorem tokAt_vt {cs : List Nat} (h : cs ≠ []) (i : Nat) (b : Bool) : Vt ⟨if b = true then bd else (tokAt cs).1, (tokAt cs).2, i⟩ := by
  have hne : cd (tokAt cs).2 ≠ [] := fun e => by
    obtain ⟨x, _, h2⟩ := tokAt_pre h
    rw [← cd_len, e] at h2
    exact absurd h2 (by decide)
  cases b with
  | true => exact ⟨hne, fun _ _ h3 => absurd rfl h3, fun h => absurd h (by show bd ≠ tn; decide), by show bd ≠ ov; decide, .inr (.inl rfl)⟩
  | false =>
    show Vt ⟨(tokAt cs).1, (tokAt cs).2, i⟩
    revert hne
    unfold tokAt
    split
    · intro hne
      refine ⟨hne, ?_, ?_, ?_, ?_⟩
      · intro h1 h2 h3
        dsimp only at h1 h3 ⊢
        unfold letSort at h1 h3 ⊢
        split at h1
        · rw [if_pos (by assumption)]
        · split at h1
          · exact absurd rfl h1
          · rw [if_neg (by assumption), if_neg (by assumption)] at h3
            exact absurd rfl h3
      · intro h1
        dsimp only at h1
        unfold letSort at h1
        split at h1
        · rename_i hk
          rw [h1] at hk
          exact absurd hk (by decide)
        · split at h1 <;> exact absurd h1 (by decide)
      · dsimp only
        unfold letSort
        split
        · rename_i hk
          exact fun e => by rw [e] at hk; exact absurd hk (by decide)
        · split <;> decide
      · dsimp only
        unfold letSort
        split
        · exact .inr (.inr (.inr (.inl (by assumption))))
        · split
          · exact .inl (by assumption)
          · exact .inr (.inl rfl)
    · split
      · intro hne
        refine ⟨hne, ?_, ?_, ?_, ?_⟩
        · intro h1 h2 h3
          dsimp only at h2 h3
          unfold figSort at h2 h3
          split at h2
          · rw [if_pos (by assumption)] at h3
            exact absurd rfl h3
          · exact absurd rfl h2
        · intro h1
          dsimp only at h1 ⊢
          unfold figSort at h1
          split at h1
          · exact absurd h1 (by decide)
          · rename_i hk
            refine ⟨fun c hc => runL_take figS cs c (by rw [cd_S] at hc; exact hc), ?_⟩
            exact Nat.le_of_not_lt fun q => hk (.inr (.inl q))
        · dsimp only
          unfold figSort
          split <;> decide
        · dsimp only
          unfold figSort
          split
          · exact .inr (.inl rfl)
          · exact .inr (.inr (.inl rfl))
      · split
        · rename_i hs
          intro hne
          obtain ⟨h1, h2⟩ := sgn_mem hs
          exact ⟨hne, fun _ _ _ => rfl, fun h => absurd h ((show ∀ s ∈ sgns, s ≠ tn by decide) _ h1), (show ∀ s ∈ sgns, s ≠ ov by decide) _ h1, .inr (.inr (.inr (.inr h1)))⟩
        · intro hne
          exact ⟨hne, fun _ _ h3 => absurd rfl h3, fun h => absurd h (by show bd ≠ tn; decide), by show bd ≠ ov; decide, .inr (.inl rfl)⟩
theorem lexF_ne : ∀ (k : Nat) (cs : List Nat) (i : Nat) (b : Bool), lexF (k + 1) cs i b ≠ [] := fun k cs i b => by
  unfold lexF
  split
  · exact fun h => nomatch h
  · exact fun h => nomatch h
/-- all but the last token are tokens; the last one is the end -/
theorem lexF_fin : ∀ (k : Nat) (cs : List Nat) (i : Nat) (b : Bool), cs.length < k → Fin (lexF k cs i b) ∧ ∃ init o, lexF k cs i b = init ++ [o] ∧ o.s = ov ∧ o.w = Str.empty ∧ o.i = i + cs.length ∧ ∀ t ∈ init, Vt t
  | 0, cs, i, b, h => absurd h (Nat.not_lt_zero _)
  | k + 1, cs, i, b, h => by
    unfold lexF
    by_cases e : cs = []
    · rw [if_pos e]
      refine ⟨rfl, [], _, rfl, rfl, rfl, ?_, fun t ht => nomatch ht⟩
      rw [e]
      rfl
    · rw [if_neg e]
      obtain ⟨x, hx, hl⟩ := tokAt_pre e
      have hn : (tokAt cs).2.length ≤ cs.length := by
        have := congrArg List.length hx
        rw [List.length_append, cd_len] at this
        omega
      have hg := runL_le gapS (cs.drop (tokAt cs).2.length)
      rw [List.length_drop] at hg
      obtain ⟨f1, init, o, f2, f3, f4, f5, f6⟩ := lexF_fin k (cs.drop ((tokAt cs).2.length + runL gapS (cs.drop (tokAt cs).2.length))) (i + ((tokAt cs).2.length + runL gapS (cs.drop (tokAt cs).2.length))) (isWord (tokAt cs).2 && runL gapS (cs.drop (tokAt cs).2.length) == 0) (by rw [List.length_drop]; omega)
      have v := tokAt_vt e i (isWord (tokAt cs).2 && b)
      refine ⟨?_, _ :: init, o, by dsimp only; rw [f2]; rfl, f3, f4, ?_, ?_⟩
      · dsimp only
        rw [f2] at f1 ⊢
        cases init with
        | nil => exact ⟨v.nov, f1⟩
        | cons t r => exact ⟨v.nov, f1⟩
      · rw [f5, List.length_drop]
        omega
      · intro t ht
        rcases List.mem_cons.mp ht with ht | ht
        · rw [ht]
          exact v
        · exact f6 t ht
theorem toks_fin (cs : List Nat) : Fin (toks cs) ∧ ∃ init o, toks cs = init ++ [o] ∧ o.s = ov ∧ o.w = Str.empty ∧ o.i = cs.length ∧ ∀ t ∈ init, Vt t := by
  unfold toks
  have h := lexF_fin (cs.length + 1) (cs.drop (runL gapS cs)) (runL gapS cs) false (by rw [List.length_drop]; omega)
  obtain ⟨f1, init, o, f2, f3, f4, f5, f6⟩ := h
  refine ⟨f1, init, o, f2, f3, f4, ?_, f6⟩
  rw [f5, List.length_drop]
  have := runL_le gapS cs
  omega
end K4
set_option Elab.async false
set_option linter.all false
/-! K4k: a text of words and gaps has these words as its tokens. -/
namespace K4
open PySem
/-- the words that occur: each is its own token -/
def vocL : List Wd := okN.map nmw ++ keywords.map kw
def vocF : List Wd := okI.map inw
def vocS : List Wd := sgns.map kw
abbrev Piece := List Nat × Wd
def flat : List Piece → List Nat
  | [] => []
  | (g, w) :: r => g ++ (cd w.2 ++ flat r)
theorem flat_app : ∀ a b : List Piece, flat (a ++ b) = flat a ++ flat b
  | [], b => rfl
  | (g, w) :: r, b => by
    show g ++ (cd w.2 ++ flat (r ++ b)) = g ++ (cd w.2 ++ flat r) ++ flat b
    rw [flat_app r b]
    simp
def gapC (g : List Nat) : Prop := ∀ c ∈ g, c = 32 ∨ c = 10
def eqish (w : Wd) : Bool := w.2 == "=" || w.2 == "<"
def eqFree (w : Wd) : Bool := (cd w.2).head? != some 61
/-- between two words that could melt stands a gap; pw: the last word is wordy, pe: it is = or < -/
def Sp : Bool → Bool → List Piece → Prop
  | _, _, [] => True
  | pw, pe, (g, w) :: r => gapC g ∧ (g = [] → (pw = true → isWord w.2 = false) ∧ (pe = true → eqFree w = true)) ∧ (w ∈ vocL ∨ w ∈ vocF ∨ w ∈ vocS) ∧ Sp (isWord w.2) (eqish w) r
theorem gap_run {g x : List Nat} (hg : gapC g) (hx : ∀ c r, x = c :: r → c ≠ 32 ∧ c ≠ 10) : runL gapS (g ++ x) = g.length := by
  refine runL_app (fun c hc => ?_) fun c r e => ?_
  · rcases hg c hc with h | h <;> (rw [h]; decide)
  · obtain ⟨h1, h2⟩ := hx c r e
    have : cd gapS = [32, 10] := by decide
    rw [this]
    simp [h1, h2]
theorem voc_ne {w : Wd} (h : w ∈ vocL ∨ w ∈ vocF ∨ w ∈ vocS) : (cd w.2).head?.isSome = true ∧ (cd w.2).head? ≠ some 32 ∧ (cd w.2).head? ≠ some 10 := by
  rcases h with h | h | h
  · exact (show ∀ w ∈ vocL, (cd w.2).head?.isSome = true ∧ (cd w.2).head? ≠ some 32 ∧ (cd w.2).head? ≠ some 10 by decide +kernel) w h
  · exact (show ∀ w ∈ vocF, (cd w.2).head?.isSome = true ∧ (cd w.2).head? ≠ some 32 ∧ (cd w.2).head? ≠ some 10 by decide +kernel) w h
  · exact (show ∀ w ∈ vocS, (cd w.2).head?.isSome = true ∧ (cd w.2).head? ≠ some 32 ∧ (cd w.2).head? ≠ some 10 by decide +kernel) w h
/-- what follows a word: x -/
structure Foll (w : Wd) (x : List Nat) : Prop where
  wd : isWord w.2 = true → ∀ c r, x = c :: r → c ∉ cd letS ∧ c ∉ cd figS
  eq : eqish w = true → ∀ c r, x = c :: r → c ≠ 61
theorem find_app {α : Type} {p q : α → Bool} : ∀ {l : List α}, (∀ a ∈ l, p a = q a) → l.find? p = l.find? q
  | [], _ => rfl
  | a :: l, h => by
    rw [List.find?_cons, List.find?_cons, h a (by simp), find_app fun b hb => h b (List.mem_cons_of_mem _ hb)]
theorem tokAt_w {w : Wd} {x : List Nat} (h : w ∈ vocL ∨ w ∈ vocF ∨ w ∈ vocS) (f : Foll w x) : tokAt (cd w.2 ++ x) = w := by
  rcases h with h | h | h
  · obtain ⟨h1, h2, h3⟩ := (show ∀ w ∈ vocL, ((cd w.2).all fun c => decide (c ∈ cd letS)) = true ∧ (0 < (cd w.2).length ∧ isWord w.2 = true) ∧ letSort w.2 = w.1 by decide +kernel) w h
    have hr : runL letS (cd w.2 ++ x) = (cd w.2).length := runL_app (fun c hc => of_decide_eq_true (List.all_eq_true.mp h1 c hc)) fun c r e => (f.wd h2.2 c r e).1
    unfold tokAt
    rw [hr, if_pos h2.1, List.take_left, S_cd, h3]
  · obtain ⟨h1, h2, h3⟩ := (show ∀ w ∈ vocF, ((cd w.2).all fun c => decide (c ∈ cd figS ∧ c ∉ cd letS)) = true ∧ (0 < (cd w.2).length ∧ isWord w.2 = true) ∧ figSort w.2 = w.1 by decide +kernel) w h
    have hr : runL figS (cd w.2 ++ x) = (cd w.2).length := runL_app (fun c hc => (of_decide_eq_true (List.all_eq_true.mp h1 c hc)).1) fun c r e => (f.wd h2.2 c r e).2
    have hr0 : runL letS (cd w.2 ++ x) = 0 := by
      cases e : cd w.2 with
      | nil =>
        rw [e] at h2
        exact absurd h2.1 (by decide)
      | cons c r => exact runL_0 (of_decide_eq_true (List.all_eq_true.mp h1 c (by rw [e]; simp))).2
    unfold tokAt
    rw [hr, hr0, if_neg (by decide), if_pos h2.1, List.take_left, S_cd, h3]
  · have h0 := (show ∀ w ∈ vocS, (0 < (cd w.2).length ∧ ((cd w.2).all fun c => decide (c ∉ cd letS ∧ c ∉ cd figS)) = true) ∧ w.1 = w.2 ∧ w.2 ≠ Str.empty by decide +kernel) w h
    obtain ⟨⟨h1, h2⟩, h3, h4⟩ := h0
    have hs : sgnAt (cd w.2 ++ x) = w.2 := by
      have hx : eqish w = false ∨ (∀ c r, x = c :: r → c ≠ 61) := by
        cases e : eqish w with
        | false => exact .inl rfl
        | true => exact .inr (f.eq e)
      unfold vocS sgns at h
      simp only [List.map_cons, List.map_nil, List.mem_cons, List.not_mem_nil, or_false] at h
      have main : ∀ s : Str, w = kw s → ((x = [] → sgnAt (cd s ++ []) = s) ∧ ∀ c r, x = c :: r → sgnAt (cd s ++ c :: r) = s) → sgnAt (cd w.2 ++ x) = w.2 := by
        intro s e k
        rw [e]
        cases x with
        | nil => exact k.1 rfl
        | cons c r => exact k.2 c r rfl
      have ne61 : ∀ s : Str, w = kw s → (s = "=" ∨ s = "<") → ∀ c r, x = c :: r → (61 == c) = false := by
        intro s e k c r ex
        rcases hx with hx | hx
        · rw [e] at hx
          rcases k with k | k <;> (rw [k] at hx; exact absurd hx (by decide))
        · have := hx c r ex
          simp only [beq_eq_false_iff_ne, ne_eq]
          exact fun q => this q.symm
      rcases h with h | h | h | h | h | h | h | h | h | h | h | h | h | h
      · refine main _ h ⟨fun _ => by decide, fun c r _ => ?_⟩
        rfl
      · refine main _ h ⟨fun _ => by decide, fun c r _ => ?_⟩
        rfl
      · refine main _ h ⟨fun _ => by decide, fun c r _ => ?_⟩
        rfl
      · refine main _ h ⟨fun _ => by decide, fun c r _ => ?_⟩
        rfl
      · refine main _ h ⟨fun _ => by decide, fun c r _ => ?_⟩
        rfl
      · refine main _ h ⟨fun _ => by decide, fun c r _ => ?_⟩
        rfl
      · refine main _ h ⟨fun _ => by decide, fun c r _ => ?_⟩
        rfl
      · refine main _ h ⟨fun _ => by decide, fun c r _ => ?_⟩
        rfl
      · refine main _ h ⟨fun _ => by decide, fun c r ex => ?_⟩
        have := ne61 _ h (.inl rfl) c r ex
        show (match sgns.find? (fun s => (cd s).isPrefixOf (61 :: c :: r)) with | some s => s | none => Str.empty) = ("=" : Str)
        have e1 : (cd "==").isPrefixOf (61 :: c :: r) = false := by
          show ((61 == 61) && ((61 == c) && true)) = false
          rw [this]
          rfl
        have e2 : sgns.find? (fun s => (cd s).isPrefixOf (61 :: c :: r)) = some ("=" : Str) := by
          unfold sgns
          rw [List.find?_cons, e1]
          rfl
        rw [e2]
      · refine main _ h ⟨fun _ => by decide, fun c r ex => ?_⟩
        have := ne61 _ h (.inr rfl) c r ex
        show (match sgns.find? (fun s => (cd s).isPrefixOf (60 :: c :: r)) with | some s => s | none => Str.empty) = ("<" : Str)
        have e1 : (cd "<=").isPrefixOf (60 :: c :: r) = false := by
          show ((60 == 60) && ((61 == c) && true)) = false
          rw [this]
          rfl
        have e2 : sgns.find? (fun s => (cd s).isPrefixOf (60 :: c :: r)) = some ("<" : Str) := by
          unfold sgns
          rw [List.find?_cons, List.find?_cons, List.find?_cons, e1]
          rfl
        rw [e2]
      · refine main _ h ⟨fun _ => by decide, fun c r _ => ?_⟩
        rfl
      · refine main _ h ⟨fun _ => by decide, fun c r _ => ?_⟩
        rfl
      · refine main _ h ⟨fun _ => by decide, fun c r _ => ?_⟩
        rfl
      · refine main _ h ⟨fun _ => by decide, fun c r _ => ?_⟩
        rfl
    have n1 : ∀ C : Str, (∀ c ∈ cd w.2, c ∉ cd C) → runL C (cd w.2 ++ x) = 0 := fun C hC => by
      cases e : cd w.2 with
      | nil =>
        rw [e] at h1
        exact absurd h1 (by decide)
      | cons c r => exact runL_0 (hC c (by rw [e]; simp))
    unfold tokAt
    rw [n1 letS fun c hc => (of_decide_eq_true (List.all_eq_true.mp h2 c hc)).1, n1 figS fun c hc => (of_decide_eq_true (List.all_eq_true.mp h2 c hc)).2, if_neg (by decide), if_neg (by decide), hs, if_pos h4]
    exact Prod.ext h3.symm rfl

theorem head_flat {g : List Nat} {w : Wd} {r : List Piece} {t : List Nat} {c : Nat} {z : List Nat} (hg : gapC g) (hv : w ∈ vocL ∨ w ∈ vocF ∨ w ∈ vocS) (e : flat ((g, w) :: r) ++ t = c :: z) :
    (c = 32 ∨ c = 10) ∨ (g = [] ∧ ∃ z', cd w.2 = c :: z') := by
  have e' : g ++ (cd w.2 ++ (flat r ++ t)) = c :: z := by
    have h : flat ((g, w) :: r) = g ++ (cd w.2 ++ flat r) := rfl
    rw [h] at e
    simpa using e
  cases g with
  | cons a g =>
    injection e' with e1 _
    rw [← e1]
    exact .inl (hg a (by simp))
  | nil =>
    have hn := (voc_ne hv).1
    cases ew : cd w.2 with
    | nil =>
      rw [ew] at hn
      exact absurd hn (by decide)
    | cons a y =>
      rw [ew] at e'
      injection e' with e1 _
      exact .inr ⟨rfl, y, by rw [e1]⟩
theorem foll_of {w : Wd} {l : List Piece} {t : List Nat} (h : Sp (isWord w.2) (eqish w) l) (ht : gapC t) : Foll w (flat l ++ t) := by
  have gp : ∀ c, (c = 32 ∨ c = 10) → c ∉ cd letS ∧ c ∉ cd figS ∧ c ≠ 61 := by
    rintro c (rfl | rfl) <;> decide
  cases l with
  | nil => exact ⟨fun _ c r e => by
      have e' : t = c :: r := e
      have q := gp c (ht c (by rw [e']; simp))
      exact ⟨q.1, q.2.1⟩, fun _ c r e => by
      have e' : t = c :: r := e
      exact (gp c (ht c (by rw [e']; simp))).2.2⟩
  | cons p l =>
    obtain ⟨g, v⟩ := p
    obtain ⟨h1, h2, h3, h4⟩ := h
    refine ⟨fun hw c r e => ?_, fun hw c r e => ?_⟩
    · rcases head_flat h1 h3 e with q | ⟨q, z, hz⟩
      · exact ⟨(gp c q).1, (gp c q).2.1⟩
      · have := (h2 q).1 hw
        unfold isWord at this
        rw [hz] at this
        have := of_decide_eq_false this
        exact ⟨fun a => this (.inl a), fun a => this (.inr a)⟩
    · rcases head_flat h1 h3 e with q | ⟨q, z, hz⟩
      · exact (gp c q).2.2
      · have := (h2 q).2 hw
        unfold eqFree at this
        rw [hz] at this
        intro e
        rw [e] at this
        simp at this
/-- the tokens of words and gaps, from a place ahead of a gap; pw: the last word was wordy -/
theorem lex_pieces : ∀ (l : List Piece) (t : List Nat) (pw pe : Bool), Sp pw pe l → gapC t → ∀ (k i : Nat), (flat l ++ t).length < k →
    ∃ init o, lexF k ((flat l ++ t).drop (runL gapS (flat l ++ t))) i (pw && runL gapS (flat l ++ t) == 0) = init ++ [o] ∧ o.s = ov ∧ M init (l.map Prod.snd)
  | [], t, pw, pe, h, ht, 0, i, hk => absurd hk (Nat.not_lt_zero _)
  | [], t, pw, pe, h, ht, k + 1, i, hk => by
    have hr : runL gapS (flat [] ++ t) = t.length := by
      have := gap_run (x := []) ht (fun c r e => nomatch e)
      rw [List.append_nil] at this
      exact this
    rw [hr]
    unfold lexF
    rw [if_pos (by show (t.drop t.length) = []; simp)]
    exact ⟨[], _, rfl, rfl, rfl⟩
  | (g, w) :: l, t, pw, pe, h, ht, 0, i, hk => absurd hk (Nat.not_lt_zero _)
  | (g, w) :: l, t, pw, pe, h, ht, k + 1, i, hk => by
    obtain ⟨h1, h2, h3, h4⟩ := h
    have e0 : flat ((g, w) :: l) ++ t = g ++ (cd w.2 ++ (flat l ++ t)) := by
      show g ++ (cd w.2 ++ flat l) ++ t = _
      simp
    have hn := voc_ne h3
    have hw : ∀ c r, cd w.2 ++ (flat l ++ t) = c :: r → c ≠ 32 ∧ c ≠ 10 := fun c r e => by
      cases ew : cd w.2 with
      | nil =>
        rw [ew] at hn
        exact absurd hn.1 (by decide)
      | cons a y =>
        rw [ew] at e hn
        injection e with e1 _
        rw [← e1]
        exact ⟨fun q => hn.2.1 (by rw [q]; rfl), fun q => hn.2.2 (by rw [q]; rfl)⟩
    have hr : runL gapS (flat ((g, w) :: l) ++ t) = g.length := by
      rw [e0]
      exact gap_run h1 hw
    have hd' : (flat ((g, w) :: l) ++ t).drop g.length = cd w.2 ++ (flat l ++ t) := by rw [e0, List.drop_left]
    rw [hr, hd']
    have hne : cd w.2 ++ (flat l ++ t) ≠ [] := fun e => by
      have := (List.append_eq_nil_iff.mp e).1
      rw [this] at hn
      exact absurd hn.1 (by decide)
    have ht' := tokAt_w h3 (foll_of h4 ht)
    have hlen : w.2.length = (cd w.2).length := (cd_len w.2).symm
    unfold lexF
    rw [if_neg hne]
    dsimp only
    rw [ht', hlen, ← List.drop_drop, List.drop_left]
    have hpw : (isWord w.2 && (pw && g.length == 0)) = false := by
      cases g with
      | cons a g => simp
      | nil =>
        cases pw with
        | false => simp
        | true => rw [(h2 rfl).1 rfl]; rfl
    rw [hpw]
    have hl0 : 0 < (cd w.2).length := by
      cases ew : cd w.2 with
      | nil =>
        rw [ew] at hn
        exact absurd hn.1 (by decide)
      | cons a y => simp
    have hk' : (flat l ++ t).length < k := by
      rw [e0, List.length_append, List.length_append] at hk
      omega
    obtain ⟨init, o, q1, q2, q3⟩ := lex_pieces l t (isWord w.2) (eqish w) h4 ht k (i + ((cd w.2).length + runL gapS (flat l ++ t))) hk'
    rw [q1]
    refine ⟨_ :: init, o, rfl, q2, ?_⟩
    show M (_ :: init) (w :: l.map Prod.snd)
    unfold M at q3 ⊢
    rw [List.map_cons, q3]
    rfl
theorem toks_pieces {l : List Piece} {t : List Nat} (h : Sp false false l) (ht : gapC t) : ∃ init o, toks (flat l ++ t) = init ++ [o] ∧ o.s = ov ∧ M init (l.map Prod.snd) := by
  have := lex_pieces l t false false h ht ((flat l ++ t).length + 1) (runL gapS (flat l ++ t)) (Nat.lt_succ_self _)
  exact this
end K4
set_option Elab.async false
set_option linter.all false
/-! K4l: the words of a drawn program: known ones, = and < never ahead of a word that begins with =. -/
namespace K4
open PySem
abbrev inV (w : Wd) : Prop := w ∈ vocL ∨ w ∈ vocF ∨ w ∈ vocS
def Ch : Bool → List Wd → Prop
  | _, [] => True
  | pe, w :: r => (pe = true → eqFree w = true) ∧ inV w ∧ Ch (eqish w) r
def Cn (a : List Wd) : Prop := ∀ b, Ch false b → Ch false (a ++ b)
theorem Cn.nil : Cn [] := fun b h => h
theorem Cn.app {x y : List Wd} (h : Cn x) (k : Cn y) : Cn (x ++ y) := fun b hb => by
  rw [List.append_assoc]
  exact h _ (k b hb)
theorem Cn.tok {w : Wd} {a : List Wd} (h1 : inV w) (h2 : eqish w = false) (h : Cn a) : Cn (w :: a) := fun b hb => by
  show Ch false (w :: (a ++ b))
  refine ⟨(fun q => Bool.noConfusion q), h1, ?_⟩
  rw [h2]
  exact h b hb
theorem Cn.ch {a : List Wd} (h : Cn a) : Ch false a := by
  have := h [] True.intro
  rw [List.append_nil] at this
  exact this
theorem fst_free {w : Wd} (h : inV w) (k : w.1 ∈ fsts) : eqFree w = true := by
  rcases h with h | h | h
  · exact (show ∀ w ∈ vocL, w.1 ∈ fsts → eqFree w = true by decide +kernel) w h k
  · exact (show ∀ w ∈ vocF, w.1 ∈ fsts → eqFree w = true by decide +kernel) w h k
  · exact (show ∀ w ∈ vocS, w.1 ∈ fsts → eqFree w = true by decide +kernel) w h k
/-- = or < ahead of an expression -/
theorem Cn.eqt {w : Wd} {a : List Wd} (h1 : inV w) (h : Cn a) (k : ∃ f r, a = f :: r ∧ f.1 ∈ fsts) : Cn (w :: a) := fun b hb => by
  obtain ⟨f, r, rfl, hf⟩ := k
  show Ch false (w :: (f :: r ++ b))
  refine ⟨(fun q => Bool.noConfusion q), h1, ?_⟩
  have q := h b hb
  obtain ⟨_, q2, q3⟩ := (show Ch false (f :: (r ++ b)) from q)
  exact ⟨fun _ => fst_free q2 hf, q2, q3⟩
theorem v_nm {x : Str} (h : x ∈ okN) : inV (nmw x) ∧ eqish (nmw x) = false := by
  refine ⟨.inl (List.mem_append_left _ (List.mem_map.mpr ⟨x, h, rfl⟩)), ?_⟩
  exact (show ∀ x ∈ okN, eqish (nmw x) = false by decide +kernel) x h
theorem v_in {n : Nat} (h : n ∈ okI) : inV (inw n) ∧ eqish (inw n) = false := by
  refine ⟨.inr (.inl (List.mem_map.mpr ⟨n, h, rfl⟩)), ?_⟩
  exact (show ∀ x ∈ okI, eqish (inw x) = false by decide +kernel) n h
theorem rw_cn {P : List Wd → Prop} {t k : Nat} {ws : List Wd} (h : Rw P t k ws) (hb : ∀ bs, P bs → Cn bs) : Cn ws := by
  obtain ⟨bs, h1, h2 | ⟨_, h2⟩⟩ := h
  · rw [h2]
    exact Cn.tok (by decide +kernel) (by decide +kernel) ((hb bs h1).app (Cn.tok (by decide +kernel) (by decide +kernel) Cn.nil))
  · rw [h2]
    exact hb bs h1
theorem sep_cn : ∀ (l : List (List Wd)), (∀ w ∈ l, Cn w) → Cn (sepW l)
  | [], _ => Cn.nil
  | [w], h => h w (by simp)
  | w :: w' :: l, h => by
    show Cn (w ++ kw "," :: sepW (w' :: l))
    exact (h w (by simp)).app (Cn.tok (by decide +kernel) (by decide +kernel) (sep_cn (w' :: l) fun x hx => h x (List.mem_cons_of_mem _ hx)))
theorem row_cn {l : List (List Wd)} (h : ∀ w ∈ l, Cn w) : Cn (rowW l) := Cn.tok (by decide +kernel) (by decide +kernel) ((sep_cn l h).app (Cn.tok (by decide +kernel) (by decide +kernel) Cn.nil))
mutual
theorem e_cn : ∀ (e : Ex) (d : Nat) (bs : List Wd), tE e d → RB e bs → Cn bs
  | .int k, d, bs, ht, h => by
    unfold RB at h
    unfold tE at ht
    rw [h.2]
    exact Cn.tok (v_in ht).1 (v_in ht).2 Cn.nil
  | .non, d, bs, ht, h => by
    unfold RB at h
    rw [h]
    exact Cn.tok (by decide +kernel) (by decide +kernel) Cn.nil
  | .var x, d, bs, ht, h => by
    unfold RB at h
    unfold tE at ht
    rw [h]
    exact Cn.tok (v_nm ht).1 (v_nm ht).2 Cn.nil
  | .recv x, d, bs, ht, h => by
    unfold RB at h
    unfold tE at ht
    rw [h]
    exact Cn.tok (by decide +kernel) (by decide +kernel) (Cn.tok (v_nm ht).1 (v_nm ht).2 Cn.nil)
  | .call f as, d, bs, ht, h => by
    unfold RB at h
    unfold tE at ht
    obtain ⟨l, hl, h⟩ := h
    rw [h]
    exact Cn.tok (v_nm ht.1).1 (v_nm ht.1).2 (row_cn (es_cn as (d - 1) l ht.2.2.2 hl))
  | .new fs, d, bs, ht, h => by
    unfold RB at h
    unfold tE at ht
    obtain ⟨l, hl, h⟩ := h
    rw [h]
    exact Cn.tok (by decide +kernel) (by decide +kernel) (row_cn (fs_cn fs (d - 1) l ht.2.2 hl))
  | .get e f, d, bs, ht, h => by
    unfold RB at h
    unfold tE at ht
    obtain ⟨b, hb, h⟩ := h
    rw [h]
    exact (rw_cn hb fun bs => e_cn e (d - 1) bs ht.2.1).app (Cn.tok (by decide +kernel) (by decide +kernel) (Cn.tok (v_nm ht.2.2).1 (v_nm ht.2.2).2 Cn.nil))
  | .neg e, d, bs, ht, h => by
    unfold RB at h
    unfold tE at ht
    obtain ⟨b, hb, h⟩ := h
    rw [h]
    exact Cn.tok (by decide +kernel) (by decide +kernel) (rw_cn hb fun bs => e_cn e (d - 1) bs ht.2)
  | .not e, d, bs, ht, h => by
    unfold RB at h
    unfold tE at ht
    obtain ⟨b, hb, h⟩ := h
    rw [h]
    exact Cn.tok (by decide +kernel) (by decide +kernel) (rw_cn hb fun bs => e_cn e (d - 1) bs ht.2)
  | .op s l r, d, bs, ht, h => by
    unfold RB at h
    unfold tE at ht
    obtain ⟨hs, x, y, hx, hy, h⟩ := h
    rw [h]
    exact (rw_cn hx fun bs => e_cn l (d - 1) bs ht.2.2.1).app (Cn.eqt ((show ∀ s ∈ signs, inV (kw s) by decide +kernel) s ht.2.1) (rw_cn hy fun bs => e_cn r (d - 1) bs ht.2.2.2) (fst_rw hy (fst_e r)))
theorem es_cn : ∀ (as : List Ex) (d : Nat) (l : List (List Wd)), tEs as d → RBs as l → ∀ w ∈ l, Cn w
  | [], d, l, ht, h => by
    unfold RBs at h
    rw [h]
    exact fun w hw => nomatch hw
  | e :: r, d, l, ht, h => by
    unfold RBs at h
    unfold tEs at ht
    obtain ⟨w, l', h1, h2, h3⟩ := h
    rw [h3]
    intro x hx
    rcases List.mem_cons.mp hx with hx | hx
    · rw [hx]
      exact rw_cn h1 fun bs => e_cn e d bs ht.1
    · exact es_cn r d l' ht.2 h2 x hx
theorem fs_cn : ∀ (fs : List (Str × Ex)) (d : Nat) (l : List (List Wd)), tEf fs d → RBf fs l → ∀ w ∈ l, Cn w
  | [], d, l, ht, h => by
    unfold RBf at h
    rw [h]
    exact fun w hw => nomatch hw
  | (n, e) :: r, d, l, ht, h => by
    unfold RBf at h
    unfold tEf at ht
    obtain ⟨w, l', h1, h2, h3⟩ := h
    rw [h3]
    intro x hx
    rcases List.mem_cons.mp hx with hx | hx
    · rw [hx]
      exact Cn.tok (v_nm ht.1).1 (v_nm ht.1).2 (Cn.tok (by decide +kernel) (by decide +kernel) (rw_cn h1 fun bs => e_cn e d bs ht.2.1))
    · exact fs_cn r d l' ht.2.2 h2 x hx
end
theorem re_cn {e : Ex} {d : Nat} {ws : List Wd} (ht : tE e d) (h : RE e ws) : Cn ws ∧ ∃ f r, ws = f :: r ∧ f.1 ∈ fsts := ⟨rw_cn h fun bs => e_cn e d bs ht, fst_rw h (fst_e e)⟩
theorem path_cn : ∀ (path : List Str), (∀ g ∈ path, g ∈ okN) → Cn (pathW path)
  | [], _ => Cn.nil
  | g :: path, h => by
    show Cn (kw "." :: nmw g :: pathW path)
    have hg := v_nm (h g (by simp))
    exact Cn.tok (by decide +kernel) (by decide +kernel) (Cn.tok hg.1 hg.2 (path_cn path fun x hx => h x (List.mem_cons_of_mem _ hx)))
theorem chain_inj : ∀ (p q : List Str) (x y : Str), p.foldl Ex.get (.var x) = q.foldl Ex.get (.var y) → x = y ∧ p = q := by
  have last : ∀ (p : List Str) (e : Ex) (f : Str), (p ++ [f]).foldl Ex.get e = .get (p.foldl Ex.get e) f := fun p e f => by simp
  have len : ∀ (n : Nat) (p q : List Str) (x y : Str), p.length = n → p.foldl Ex.get (.var x) = q.foldl Ex.get (.var y) → x = y ∧ p = q := by
    intro n
    induction n with
    | zero =>
      intro p q x y hl h
      have hp : p = [] := List.length_eq_zero_iff.mp hl
      subst hp
      rcases List.eq_nil_or_concat q with hq | ⟨q', f, hq⟩
      · subst hq
        have h' : Ex.var x = .var y := h
        injection h' with h'
        exact ⟨h', rfl⟩
      · rw [hq, List.concat_eq_append, last] at h
        exact nomatch h
    | succ n ih =>
      intro p q x y hl h
      rcases List.eq_nil_or_concat p with hp | ⟨p', f, hp⟩
      · rw [hp] at hl
        exact nomatch hl
      · rcases List.eq_nil_or_concat q with hq | ⟨q', g, hq⟩
        · rw [hp, hq, List.concat_eq_append, last] at h
          exact nomatch h
        · rw [hp, hq, List.concat_eq_append, List.concat_eq_append, last, last] at h
          injection h with h1 h2
          rw [hp, List.concat_eq_append, List.length_append] at hl
          obtain ⟨i1, i2⟩ := ih p' q' x y (by simpa using hl) h1
          exact ⟨i1, by rw [hp, hq, i2, h2]⟩
  exact fun p q x y h => len p.length p q x y rfl h
theorem part_cn {dp : Nat} : ∀ (s : St) (ws : List Wd), tP dp s → RS s ws → Cn ws
  | .lt x e, ws, ht, h => by
    unfold RS at h
    obtain ⟨we, h1, h⟩ := h
    rw [h]
    have k := re_cn ht.2 h1
    exact Cn.tok (by decide +kernel) (by decide +kernel) (Cn.tok (v_nm ht.1).1 (v_nm ht.1).2 (Cn.eqt (by decide +kernel) k.1 k.2))
  | .st x e, ws, ht, h => by
    unfold RS at h
    obtain ⟨we, h1, h⟩ := h
    rw [h]
    have k := re_cn ht.2 h1
    exact Cn.tok (v_nm ht.1).1 (v_nm ht.1).2 (Cn.eqt (by decide +kernel) k.1 k.2)
  | .put r0 f e, ws, ht, h => by
    unfold RS at h
    obtain ⟨x, path, e0, we, h1, h⟩ := h
    obtain ⟨⟨y, q, t1, t2, t3, t4⟩, t5, t6⟩ := ht
    obtain ⟨i1, i2⟩ := chain_inj path q x y (e0.symm.trans t4)
    subst i1
    subst i2
    rw [h]
    have k := re_cn t6 h1
    refine Cn.tok (v_nm t1).1 (v_nm t1).2 ((path_cn _ fun g hg => ?_).app (Cn.eqt (by decide +kernel) k.1 k.2))
    rcases List.mem_append.mp hg with hg | hg
    · exact t3 g hg
    · rw [List.mem_singleton.mp hg]
      exact t5
  | .act f as, ws, ht, h => by
    unfold RS at h
    obtain ⟨l, h1, h⟩ := h
    rw [h]
    exact Cn.tok (v_nm ht.1).1 (v_nm ht.1).2 (row_cn (es_cn as (dp - 1) l ht.2.2 h1))
  | .ret e, ws, ht, h => by
    unfold RS at h
    obtain ⟨we, h1, h⟩ := h
    rw [h]
    exact Cn.tok (by decide +kernel) (by decide +kernel) (re_cn ht h1).1
  | .thr e, ws, ht, h => by
    unfold RS at h
    obtain ⟨we, h1, h⟩ := h
    rw [h]
    exact Cn.tok (by decide +kernel) (by decide +kernel) (re_cn ht h1).1
  | .send p e, ws, ht, h => by
    unfold RS at h
    obtain ⟨we, h1, h⟩ := h
    rw [h]
    exact Cn.tok (by decide +kernel) (by decide +kernel) (Cn.tok (v_nm ht.1).1 (v_nm ht.1).2 (re_cn ht.2 h1).1)
  | .spawn f as, ws, ht, h => by
    unfold RS at h
    obtain ⟨l, h1, h⟩ := h
    rw [h]
    exact Cn.tok (by decide +kernel) (by decide +kernel) (Cn.tok (v_nm ht.1).1 (v_nm ht.1).2 (row_cn (es_cn as (dp - 1) l ht.2.2 h1)))
  | .iff _ _ _, _, ht, _ => ht.elim
  | .wh _ _, _, ht, _ => ht.elim
  | .tri _ _ _, _, ht, _ => ht.elim
  | .here _ _, _, ht, _ => ht.elim
theorem Cn.kwt {s : Str} {a : List Wd} (h1 : inV (kw s)) (h2 : eqish (kw s) = false) (h : Cn a) : Cn (kw s :: a) := Cn.tok h1 h2 h
theorem end_cn : Cn [kw "end"] := Cn.tok (by decide +kernel) (by decide +kernel) Cn.nil
mutual
theorem s_cn {dp : Nat} : ∀ (s : St) (i : Nat) (ws : List Wd), tS s i dp → RS s ws → Cn ws
  | .iff c x y, i, ws, ht, h => by
    unfold RS at h
    unfold tS at ht
    obtain ⟨wc, wa, wb, h1, h2, h3, h⟩ := h
    rw [h]
    refine Cn.tok (by decide +kernel) (by decide +kernel) ((re_cn ht.2.1 h1).1.app ((ss_cn x (i - 1) wa ht.2.2.2.2.1 h2).app (Cn.app ?_ end_cn)))
    split
    · exact Cn.nil
    · exact Cn.tok (by decide +kernel) (by decide +kernel) (ss_cn y (i - 1) wb ht.2.2.2.2.2 h3)
  | .wh c x, i, ws, ht, h => by
    unfold RS at h
    unfold tS at ht
    obtain ⟨wc, wa, h1, h2, h⟩ := h
    rw [h]
    exact Cn.tok (by decide +kernel) (by decide +kernel) ((re_cn ht.2.1 h1).1.app ((ss_cn x (i - 1) wa ht.2.2.2 h2).app end_cn))
  | .tri x y z, i, ws, ht, h => by
    unfold RS at h
    unfold tS at ht
    obtain ⟨wa, wb, h1, h2, h⟩ := h
    rw [h]
    exact Cn.tok (by decide +kernel) (by decide +kernel) ((ss_cn x (i - 1) wa ht.2.2.2.2.1 h1).app (Cn.tok (by decide +kernel) (by decide +kernel) (Cn.tok (v_nm ht.2.1).1 (v_nm ht.2.1).2 ((ss_cn z (i - 1) wb ht.2.2.2.2.2 h2).app end_cn))))
  | .here l s, i, ws, ht, h => by
    unfold RS at h
    unfold tS at ht
    obtain ⟨h0, w, h1, h⟩ := h
    rw [h]
    exact Cn.tok (by decide +kernel) (by decide +kernel) (Cn.tok (v_nm ht.1).1 (v_nm ht.1).2 (s_cn s i w ht.2.2 h1))
  | .lt x e, i, ws, ht, h => part_cn _ ws (by unfold tS at ht; exact ht) h
  | .st x e, i, ws, ht, h => part_cn _ ws (by unfold tS at ht; exact ht) h
  | .put x f e, i, ws, ht, h => part_cn _ ws (by unfold tS at ht; exact ht) h
  | .act x e, i, ws, ht, h => part_cn _ ws (by unfold tS at ht; exact ht) h
  | .ret e, i, ws, ht, h => part_cn _ ws (by unfold tS at ht; exact ht) h
  | .thr e, i, ws, ht, h => part_cn _ ws (by unfold tS at ht; exact ht) h
  | .send x e, i, ws, ht, h => part_cn _ ws (by unfold tS at ht; exact ht) h
  | .spawn x e, i, ws, ht, h => part_cn _ ws (by unfold tS at ht; exact ht) h
theorem ss_cn {dp : Nat} : ∀ (b : List St) (i : Nat) (ws : List Wd), tSs b i dp → RSs b ws → Cn ws
  | [], i, ws, ht, h => by
    unfold RSs at h
    rw [h]
    exact Cn.nil
  | s :: r, i, ws, ht, h => by
    unfold RSs at h
    unfold tSs at ht
    obtain ⟨x, y, h1, h2, h3⟩ := h
    rw [h3]
    exact (s_cn s i x ht.1 h1).app (ss_cn r i y ht.2 h2)
end
theorem p_cn {i dp : Nat} : ∀ (p : Pg) (ws : List Wd), (∀ f ∈ p, tF f i dp) → RP p ws → Cn ws
  | [], ws, ht, h => by
    unfold RP at h
    rw [h]
    exact Cn.nil
  | f :: r, ws, ht, h => by
    unfold RP at h
    obtain ⟨x, y, ⟨wb, h1, h2⟩, h3, h4⟩ := h
    rw [h4, h2]
    have hf := ht f (by simp)
    refine (Cn.tok (by decide +kernel) (by decide +kernel) (Cn.tok (v_nm hf.1).1 (v_nm hf.1).2 ((row_cn ?_).app ((ss_cn f.b i wb hf.2.2.2.2 h1).app end_cn)))).app (p_cn r y (fun g hg => ht g (List.mem_cons_of_mem _ hg)) h3)
    intro w hw
    obtain ⟨q, hq, e⟩ := List.mem_map.mp hw
    rw [← e]
    have := v_nm (hf.2.2.1 q hq)
    exact Cn.tok this.1 this.2 Cn.nil
theorem tG_ch {p : Pg} {ws : List Wd} (ht : tG p) (h : RP p ws) : Ch false ws := by
  obtain ⟨_, i, dp, _, _, _, hf⟩ := ht
  exact (p_cn p ws hf h).ch
/-- the gaps -/
def Gp : Bool → List Piece → Prop
  | _, [] => True
  | pw, (g, w) :: r => gapC g ∧ (g = [] → pw = true → isWord w.2 = false) ∧ Gp (isWord w.2) r
theorem Gp.sp : ∀ {l : List Piece} {pw pe : Bool}, Gp pw l → Ch pe (l.map Prod.snd) → Sp pw pe l
  | [], _, _, _, _ => True.intro
  | (g, w) :: r, pw, pe, ⟨h1, h2, h3⟩, ⟨k1, k2, k3⟩ => ⟨h1, fun q => ⟨h2 q, k1⟩, k2, h3.sp k3⟩
/-- a text whose words are a rendering is read as the program -/
theorem text_ok {p : Pg} {l : List Piece} {t : List Nat} (ht : tG p) (h : RP p (l.map Prod.snd)) (hg : Gp false l) (hT : gapC t) : ∃ o, pRead dep (toks (flat l ++ t)) = .ok p [o] := by
  obtain ⟨init, o, e1, e2, e3⟩ := toks_pieces (hg.sp (tG_ch ht h)) hT
  refine ⟨o, ?_⟩
  have hf := (toks_fin (flat l ++ t)).1
  rw [e1] at hf ⊢
  exact read_ok ht h e3 e2 hf
end K4
set_option Elab.async false
set_option linter.all false
/-! K4m: the written text of expressions, its words and gaps. -/
namespace K4
open PySem
mutual
def exT : Ex → Str
  | .int n => numS n
  | .non => "none"
  | .var x => x
  | .call f as => f ++ ("(" ++ Str.join ", " (exsT as) ++ ")")
  | .recv p => "receive " ++ p
  | .new fs => "new(" ++ Str.join ", " (fsT fs) ++ ")"
  | .get e f => (if tight e < 6 then "(" ++ exT e ++ ")" else exT e) ++ "." ++ f
  | .neg e => "-" ++ (if tight e < 5 then "(" ++ exT e ++ ")" else exT e)
  | .not e => "not " ++ (if tight e < 5 then "(" ++ exT e ++ ")" else exT e)
  | .op s l r => (if tight l < lft (tightOf s) then "(" ++ exT l ++ ")" else exT l) ++ " " ++ s ++ " " ++ (if tight r < tightOf s + 1 then "(" ++ exT r ++ ")" else exT r)
def exsT : List Ex → List Str
  | [] => []
  | e :: r => exT e :: exsT r
def fsT : List (Str × Ex) → List Str
  | [] => []
  | (x, e) :: r => (x ++ ": " ++ exT e) :: fsT r
end
def opdT (e : Ex) (k : Nat) : Str := if tight e < k then "(" ++ exT e ++ ")" else exT e
def argsT (as : List Ex) : Str := "(" ++ Str.join ", " (exsT as) ++ ")"
def wrapP (b : Bool) (f : List Nat → List Piece) (g : List Nat) : List Piece := if b = true then (g, kw "(") :: (f [] ++ [([], kw ")")]) else f g
mutual
def eP : Ex → List Nat → List Piece
  | .int n, g => [(g, inw n)]
  | .non, g => [(g, kw "none")]
  | .var x, g => [(g, nmw x)]
  | .call f as, g => (g, nmw f) :: ([], kw "(") :: (asP as [] ++ [([], kw ")")])
  | .recv p, g => [(g, kw "receive"), ([32], nmw p)]
  | .new fs, g => (g, kw "new") :: ([], kw "(") :: (fsP fs [] ++ [([], kw ")")])
  | .get e f, g => wrapP (decide (tight e < 6)) (eP e) g ++ [([], kw "."), ([], nmw f)]
  | .neg e, g => (g, kw "-") :: wrapP (decide (tight e < 5)) (eP e) []
  | .not e, g => (g, kw "not") :: wrapP (decide (tight e < 5)) (eP e) [32]
  | .op s l r, g => wrapP (decide (tight l < lft (tightOf s))) (eP l) g ++ ([32], kw s) :: wrapP (decide (tight r < tightOf s + 1)) (eP r) [32]
def asP : List Ex → List Nat → List Piece
  | [], _ => []
  | e :: r, g => eP e g ++ (match r with
    | [] => []
    | _ :: _ => ([], kw ",") :: asP r [32])
def fsP : List (Str × Ex) → List Nat → List Piece
  | [], _ => []
  | (x, e) :: r, g => (g, nmw x) :: ([], kw ":") :: (eP e [32] ++ (match r with
    | [] => []
    | _ :: _ => ([], kw ",") :: fsP r [32]))
end
def oP (k : Nat) (e : Ex) (g : List Nat) : List Piece := wrapP (decide (tight e < k)) (eP e) g
def pcw (ws : List Wd) : Nat := match ws with
  | [] => 0
  | w :: r => (if w.1 = "(" then 1 else 0) + pcw r
theorem pcw_app : ∀ a b : List Wd, pcw (a ++ b) = pcw a + pcw b
  | [], b => by simp [pcw]
  | w :: a, b => by
    have := pcw_app a b
    simp only [List.cons_append, pcw]
    omega
def wds (l : List Piece) : List Wd := l.map Prod.snd
theorem wds_app (a b : List Piece) : wds (a ++ b) = wds a ++ wds b := List.map_append
theorem wds_cons (p : Piece) (b : List Piece) : wds (p :: b) = p.2 :: wds b := rfl
/-- anything may stand ahead -/
def Gf (x : List Piece) : Prop := ∀ pw, Gp pw x
theorem Gf.nil : Gf [] := fun _ => True.intro
theorem Gf.cons {g : List Nat} {w : Wd} {r : List Piece} (hg : gapC g) (h : g ≠ [] ∨ isWord w.2 = false) (hr : Gp (isWord w.2) r) : Gf ((g, w) :: r) := fun pw => ⟨hg, fun e _ => h.elim (fun q => absurd e q) id, hr⟩
structure EOk (e : Ex) : Prop where
  fl : ∀ g, flat (eP e g) = g ++ cd (exT e)
  gp : ∀ g pw X, gapC g → (g = [] → pw = false) → Gf X → Gp pw (eP e g ++ X)
  rb : ∀ g, RB e (wds (eP e g))
  ct : ∀ g, pcw (wds (eP e g)) = cn e
theorem flat_cons (g : List Nat) (w : Wd) (r : List Piece) : flat ((g, w) :: r) = g ++ (cd w.2 ++ flat r) := rfl
theorem cd_paren (x : Str) : cd ("(" ++ x ++ ")") = 40 :: (cd x ++ [41]) := by
  rw [cd_app, cd_app]
  rfl
structure WOk (b : Bool) (e : Ex) (t : Str) (f : List Nat → List Piece) : Prop where
  fl : ∀ g, flat (f g) = g ++ cd t
  gp : ∀ g pw X, gapC g → (g = [] → pw = false) → Gf X → Gp pw (f g ++ X)
  ct : ∀ g, pcw (wds (f g)) = cn e + (if b = true then 1 else 0)
theorem gap0 : gapC [] := fun c h => nomatch h
theorem gap1 : gapC [32] := fun c h => .inl (List.mem_singleton.mp h)
theorem EOk.w {e : Ex} (h : EOk e) (k : Nat) : WOk (decide (tight e < k)) e (if tight e < k then "(" ++ exT e ++ ")" else exT e) (wrapP (decide (tight e < k)) (eP e)) := by
  by_cases c : tight e < k
  · rw [decide_eq_true c, if_pos c]
    refine ⟨fun g => ?_, fun g pw X hg hp hX => ?_, fun g => ?_⟩
    · unfold wrapP
      rw [if_pos rfl, flat_cons, flat_app, h.fl, cd_paren]
      show g ++ ([40] ++ ([] ++ cd (exT e) ++ ([] ++ (cd (")" : Str) ++ [])))) = _
      simp
      rfl
    · unfold wrapP
      rw [if_pos rfl]
      show Gp pw ((g, kw "(") :: (eP e [] ++ [([], kw ")")] ++ X))
      refine ⟨hg, fun _ _ => (by decide), ?_⟩
      rw [List.append_assoc]
      exact h.gp [] _ _ gap0 (fun _ => (by decide)) (Gf.cons gap0 (.inr (by decide)) (hX _))
    · unfold wrapP
      rw [if_pos rfl, wds_cons, wds_app]
      show (if (kw "(").1 = "(" then 1 else 0) + pcw (wds (eP e []) ++ [kw ")"]) = _
      rw [pcw_app, h.ct]
      show 1 + (cn e + (0 + 0)) = cn e + 1
      omega
  · rw [decide_eq_false c, if_neg c]
    refine ⟨fun g => ?_, fun g pw X hg hp hX => ?_, fun g => ?_⟩
    · exact h.fl g
    · exact h.gp g pw X hg hp hX
    · exact h.ct g
theorem EOk.rw {e : Ex} (h : EOk e) (k : Nat) (g : List Nat) : Rw (RB e) (tight e) k (wds (wrapP (decide (tight e < k)) (eP e) g)) := by
  by_cases c : tight e < k
  · rw [decide_eq_true c]
    refine ⟨_, h.rb [], .inl ?_⟩
    unfold wrapP
    rw [if_pos rfl, wds_cons, wds_app]
    rfl
  · rw [decide_eq_false c]
    exact ⟨_, h.rb g, .inr ⟨Nat.le_of_not_lt c, rfl⟩⟩
structure AOk (as : List Ex) : Prop where
  fl : ∀ g, flat (asP as g) = (if as = [] then [] else g) ++ cd (Str.join ", " (exsT as))
  gp : ∀ g pw X, gapC g → (g = [] → pw = false) → Gf X → Gp pw (asP as g ++ X)
  rb : ∃ l, RBs as l ∧ ∀ g, wds (asP as g) = sepW l
  ct : ∀ g, pcw (wds (asP as g)) = cns as
structure FOk (fs : List (Str × Ex)) : Prop where
  fl : ∀ g, flat (fsP fs g) = (if fs = [] then [] else g) ++ cd (Str.join ", " (fsT fs))
  gp : ∀ g pw X, gapC g → (g = [] → pw = false) → Gf X → Gp pw (fsP fs g ++ X)
  rb : ∃ l, RBf fs l ∧ ∀ g, wds (fsP fs g) = sepW l
  ct : ∀ g, pcw (wds (fsP fs g)) = cnf fs
theorem num_ok {n : Nat} (h : n ∈ okI) : numOf (numS n) = n := (show ∀ n ∈ okI, numOf (numS n) = n by decide +kernel) n h
theorem sg_ok {s : Str} (h : s ∈ signs) : s ∈ levels (tightOf s) := (show ∀ s ∈ signs, s ∈ levels (tightOf s) by decide) s h
theorem okn_word {x : Str} (h : x ∈ okN) : isWord x = true := (show ∀ x ∈ okN, isWord x = true by decide) x h
theorem cd_join2 (x y : Str) (r : List Str) : cd (Str.join ", " (x :: y :: r)) = cd x ++ (44 :: 32 :: cd (Str.join ", " (y :: r))) := by
  show cd (x ++ (", " : Str) ++ Str.join ", " (y :: r)) = _
  rw [cd_app, cd_app, List.append_assoc]
  rfl
theorem row_wds (l : List (List Wd)) (x : List Piece) (e : wds x = sepW l) : wds (([], kw "(") :: (x ++ [([], kw ")")])) = rowW l := by
  rw [wds_cons, wds_app, e]
  rfl
theorem row_pc {x : List Piece} {n : Nat} (e : pcw (wds x) = n) : pcw (wds (([], kw "(") :: (x ++ [([], kw ")")]))) = 1 + n := by
  rw [wds_cons, wds_app]
  show 1 + pcw (wds x ++ [kw ")"]) = _
  rw [pcw_app, e]
  rfl
mutual
theorem eok : ∀ (e : Ex) (d : Nat), tE e d → EOk e
  | .int n, d, ht => by
    unfold tE at ht
    refine ⟨fun g => by unfold eP exT; simp [flat_cons, flat, inw], fun g pw X hg hp hX => ?_, fun g => ?_, fun g => by unfold eP cn; rfl⟩
    · unfold eP
      exact ⟨hg, fun e q => absurd (hp e) (by rw [q]; decide), hX _⟩
    · unfold RB eP
      exact ⟨num_ok ht, rfl⟩
  | .non, d, ht => by
    refine ⟨fun g => by unfold eP exT; simp [flat_cons, flat, kw], fun g pw X hg hp hX => ?_, fun g => ?_, fun g => by unfold eP cn; rfl⟩
    · unfold eP
      exact ⟨hg, fun e q => absurd (hp e) (by rw [q]; decide), hX _⟩
    · unfold RB eP
      rfl
  | .var x, d, ht => by
    refine ⟨fun g => by unfold eP exT; simp [flat_cons, flat, nmw], fun g pw X hg hp hX => ?_, fun g => ?_, fun g => by unfold eP cn; rfl⟩
    · unfold eP
      exact ⟨hg, fun e q => absurd (hp e) (by rw [q]; decide), hX _⟩
    · unfold RB eP
      rfl
  | .recv p, d, ht => by
    refine ⟨fun g => ?_, fun g pw X hg hp hX => ?_, fun g => ?_, fun g => by unfold eP cn; rfl⟩
    · unfold eP exT
      rw [flat_cons, flat_cons, cd_app]
      simp [flat, nmw, kw]
      rfl
    · unfold eP
      exact ⟨hg, fun e q => absurd (hp e) (by rw [q]; decide), gap1, fun e => (nomatch e), hX _⟩
    · unfold RB eP
      rfl
  | .call f as, d, ht => by
    unfold tE at ht
    have ih := asok as (d - 1) ht.2.2.2
    refine ⟨fun g => ?_, fun g pw X hg hp hX => ?_, fun g => ?_, fun g => ?_⟩
    · unfold eP exT
      rw [flat_cons, flat_cons, flat_app, ih.fl, cd_app, cd_paren]
      simp [flat, nmw, kw]
      rfl
    · unfold eP
      refine ⟨hg, fun e q => absurd (hp e) (by rw [q]; decide), gap0, fun _ _ => (by decide), ?_⟩
      show Gp _ (asP as [] ++ [([], kw ")")] ++ X)
      rw [List.append_assoc]
      exact ih.gp [] _ _ gap0 (fun _ => (by decide)) (Gf.cons gap0 (.inr (by decide)) (hX _))
    · obtain ⟨l, h1, h2⟩ := ih.rb
      unfold RB eP
      exact ⟨l, h1, by rw [wds_cons, row_wds l _ (h2 [])]⟩
    · unfold eP cn
      rw [wds_cons]
      show 0 + pcw (wds (([], kw "(") :: (asP as [] ++ [([], kw ")")]))) = _
      rw [row_pc (ih.ct [])]
      omega
  | .new fs, d, ht => by
    unfold tE at ht
    have ih := fsok fs (d - 1) ht.2.2
    refine ⟨fun g => ?_, fun g pw X hg hp hX => ?_, fun g => ?_, fun g => ?_⟩
    · unfold eP exT
      rw [flat_cons, flat_cons, flat_app, ih.fl, cd_app, cd_app]
      simp [flat, nmw, kw]
      rfl
    · unfold eP
      refine ⟨hg, fun e q => absurd (hp e) (by rw [q]; decide), gap0, fun _ _ => (by decide), ?_⟩
      show Gp _ (fsP fs [] ++ [([], kw ")")] ++ X)
      rw [List.append_assoc]
      exact ih.gp [] _ _ gap0 (fun _ => (by decide)) (Gf.cons gap0 (.inr (by decide)) (hX _))
    · obtain ⟨l, h1, h2⟩ := ih.rb
      unfold RB eP
      exact ⟨l, h1, by rw [wds_cons, row_wds l _ (h2 [])]⟩
    · unfold eP cn
      rw [wds_cons]
      show 0 + pcw (wds (([], kw "(") :: (fsP fs [] ++ [([], kw ")")]))) = _
      rw [row_pc (ih.ct [])]
      omega
  | .get e f, d, ht => by
    unfold tE at ht
    have ih := eok e (d - 1) ht.2.1
    have w := ih.w 6
    refine ⟨fun g => ?_, fun g pw X hg hp hX => ?_, fun g => ?_, fun g => ?_⟩
    · unfold eP exT
      rw [flat_app, w.fl, flat_cons, flat_cons, cd_app, cd_app]
      simp [flat, nmw, kw]
    · unfold eP
      rw [List.append_assoc]
      exact w.gp g pw _ hg hp (Gf.cons gap0 (.inr (by decide)) ⟨gap0, fun _ q => absurd q (by decide), hX _⟩)
    · unfold RB eP
      exact ⟨_, ih.rw 6 g, by rw [wds_app]; rfl⟩
    · unfold eP cn wrp
      rw [wds_app, pcw_app, w.ct]
      by_cases c : tight e < 6
      · simp only [decide_eq_true c, if_pos c]
        rfl
      · simp only [decide_eq_false c, if_neg c]
        rfl
  | .neg e, d, ht => by
    unfold tE at ht
    have ih := eok e (d - 1) ht.2
    have w := ih.w 5
    refine ⟨fun g => ?_, fun g pw X hg hp hX => ?_, fun g => ?_, fun g => ?_⟩
    · unfold eP exT
      rw [flat_cons, w.fl, cd_app]
      simp [kw]
    · unfold eP
      exact ⟨hg, fun _ _ => (by decide), w.gp [] _ _ gap0 (fun _ => (by decide)) hX⟩
    · unfold RB eP
      exact ⟨_, ih.rw 5 [], by rw [wds_cons]⟩
    · unfold eP cn wrp
      rw [wds_cons]
      show 0 + pcw (wds (wrapP (decide (tight e < 5)) (eP e) [])) = _
      rw [w.ct]
      by_cases c : tight e < 5
      · simp only [decide_eq_true c, if_pos c]
        simp
      · simp only [decide_eq_false c, if_neg c]
        simp
  | .not e, d, ht => by
    unfold tE at ht
    have ih := eok e (d - 1) ht.2
    have w := ih.w 5
    refine ⟨fun g => ?_, fun g pw X hg hp hX => ?_, fun g => ?_, fun g => ?_⟩
    · unfold eP exT
      rw [flat_cons, w.fl, cd_app]
      simp [kw]
      rfl
    · unfold eP
      exact ⟨hg, fun e q => absurd (hp e) (by rw [q]; decide), w.gp [32] _ _ gap1 (fun q => nomatch q) hX⟩
    · unfold RB eP
      exact ⟨_, ih.rw 5 [32], by rw [wds_cons]⟩
    · unfold eP cn wrp
      rw [wds_cons]
      show 0 + pcw (wds (wrapP (decide (tight e < 5)) (eP e) [32])) = _
      rw [w.ct]
      by_cases c : tight e < 5
      · simp only [decide_eq_true c, if_pos c]
        simp
      · simp only [decide_eq_false c, if_neg c]
        simp
  | .op s l r, d, ht => by
    unfold tE at ht
    have ihl := eok l (d - 1) ht.2.2.1
    have ihr := eok r (d - 1) ht.2.2.2
    have wl := ihl.w (lft (tightOf s))
    have wr := ihr.w (tightOf s + 1)
    refine ⟨fun g => ?_, fun g pw X hg hp hX => ?_, fun g => ?_, fun g => ?_⟩
    · unfold eP exT
      rw [flat_app, wl.fl, flat_cons, wr.fl, cd_app, cd_app, cd_app, cd_app]
      simp [kw]
      rfl
    · unfold eP
      rw [List.append_assoc]
      exact wl.gp g pw _ hg hp (Gf.cons gap1 (.inl (fun q => nomatch q)) (wr.gp [32] _ _ gap1 (fun q => nomatch q) hX))
    · unfold RB eP
      exact ⟨sg_ok ht.2.1, _, _, ihl.rw _ g, ihr.rw _ [32], by rw [wds_app, wds_cons]⟩
    · unfold eP cn wrp
      rw [wds_app, pcw_app, wds_cons, wl.ct]
      have hs : s ≠ "(" := (show ∀ s ∈ signs, s ≠ "(" by decide) s ht.2.1
      show _ + ((if s = "(" then 1 else 0) + pcw (wds (wrapP (decide (tight r < tightOf s + 1)) (eP r) [32]))) = _
      rw [wr.ct, if_neg hs]
      by_cases c : tight l < lft (tightOf s) <;> by_cases c' : tight r < tightOf s + 1 <;> simp [c, c']
theorem asok : ∀ (as : List Ex) (d : Nat), tEs as d → AOk as
  | [], d, ht => by
    refine ⟨fun g => by unfold asP exsT; rfl, fun g pw X hg hp hX => ?_, ⟨[], by unfold RBs; rfl, fun g => by unfold asP; rfl⟩, fun g => by unfold asP cns; rfl⟩
    unfold asP
    exact hX pw
  | [e], d, ht => by
    unfold tEs at ht
    have ih := eok e d ht.1
    refine ⟨fun g => ?_, fun g pw X hg hp hX => ?_, ?_, fun g => ?_⟩
    · unfold asP
      show flat (eP e g ++ []) = _
      rw [List.append_nil, ih.fl, if_neg (by simp)]
      unfold exsT
      rfl
    · unfold asP
      show Gp pw (eP e g ++ [] ++ X)
      rw [List.append_nil]
      exact ih.gp g pw X hg hp hX
    · refine ⟨[wds (eP e [])], ?_, fun g => ?_⟩
      · unfold RBs
        exact ⟨_, [], ⟨_, ih.rb [], .inr ⟨Nat.zero_le _, rfl⟩⟩, by unfold RBs; rfl, rfl⟩
      · unfold asP
        show wds (eP e g ++ []) = wds (eP e [])
        rw [List.append_nil]
        exact wds_g e g []
    · unfold asP cns
      show pcw (wds (eP e g ++ [])) = _
      rw [List.append_nil, ih.ct]
      unfold cns
      rfl
  | e :: e' :: r, d, ht => by
    unfold tEs at ht
    have ih := eok e d ht.1
    have ihr := asok (e' :: r) d ht.2
    refine ⟨fun g => ?_, fun g pw X hg hp hX => ?_, ?_, fun g => ?_⟩
    · unfold asP
      show flat (eP e g ++ ([], kw ",") :: asP (e' :: r) [32]) = _
      rw [flat_app, ih.fl, flat_cons, ihr.fl, if_neg (by simp), if_neg (by simp)]
      unfold exsT
      rw [show exsT (e' :: r) = exT e' :: exsT r by rw [exsT], cd_join2]
      simp [kw]
      rfl
    · unfold asP
      show Gp pw (eP e g ++ ([], kw ",") :: asP (e' :: r) [32] ++ X)
      rw [List.append_assoc]
      exact ih.gp g pw _ hg hp (Gf.cons gap0 (.inr (by decide)) (ihr.gp [32] _ X gap1 (fun q => nomatch q) hX))
    · obtain ⟨l, h1, h2⟩ := ihr.rb
      refine ⟨wds (eP e []) :: l, ?_, fun g => ?_⟩
      · unfold RBs
        exact ⟨_, l, ⟨_, ih.rb [], .inr ⟨Nat.zero_le _, rfl⟩⟩, h1, rfl⟩
      · unfold asP
        show wds (eP e g ++ ([], kw ",") :: asP (e' :: r) [32]) = _
        rw [wds_app, wds_cons, h2, wds_g e g []]
        unfold RBs at h1
        obtain ⟨a, l', _, _, h5⟩ := h1
        rw [h5]
        rfl
    · unfold asP cns
      show pcw (wds (eP e g ++ ([], kw ",") :: asP (e' :: r) [32])) = _
      rw [wds_app, pcw_app, ih.ct, wds_cons]
      show cn e + (0 + pcw (wds (asP (e' :: r) [32]))) = _
      rw [ihr.ct]
      omega
theorem fsok : ∀ (fs : List (Str × Ex)) (d : Nat), tEf fs d → FOk fs
  | [], d, ht => by
    refine ⟨fun g => by unfold fsP fsT; rfl, fun g pw X hg hp hX => ?_, ⟨[], by unfold RBf; rfl, fun g => by unfold fsP; rfl⟩, fun g => by unfold fsP cnf; rfl⟩
    unfold fsP
    exact hX pw
  | [(x, e)], d, ht => by
    unfold tEf at ht
    have ih := eok e d ht.2.1
    refine ⟨fun g => ?_, fun g pw X hg hp hX => ?_, ?_, fun g => ?_⟩
    · unfold fsP
      show flat ((g, nmw x) :: ([], kw ":") :: (eP e [32] ++ [])) = _
      rw [List.append_nil, flat_cons, flat_cons, ih.fl, if_neg (by simp)]
      unfold fsT fsT
      show _ = g ++ cd (x ++ ": " ++ exT e)
      rw [cd_app, cd_app]
      simp [kw, nmw]
      rfl
    · unfold fsP
      show Gp pw ((g, nmw x) :: ([], kw ":") :: (eP e [32] ++ [] ++ X))
      rw [List.append_nil]
      exact ⟨hg, fun e q => absurd (hp e) (by rw [q]; decide), gap0, fun _ _ => (by decide), ih.gp [32] _ X gap1 (fun q => nomatch q) hX⟩
    · refine ⟨[nmw x :: kw ":" :: wds (eP e [])], ?_, fun g => ?_⟩
      · unfold RBf
        exact ⟨_, [], ⟨_, ih.rb [], .inr ⟨Nat.zero_le _, rfl⟩⟩, by unfold RBf; rfl, rfl⟩
      · unfold fsP
        show wds ((g, nmw x) :: ([], kw ":") :: (eP e [32] ++ [])) = nmw x :: kw ":" :: wds (eP e [])
        rw [List.append_nil, wds_cons, wds_cons, wds_g e [32] []]
    · unfold fsP cnf
      show pcw (wds ((g, nmw x) :: ([], kw ":") :: (eP e [32] ++ []))) = _
      rw [List.append_nil, wds_cons, wds_cons]
      show 0 + (0 + pcw (wds (eP e [32]))) = _
      rw [ih.ct]
      unfold cnf
      omega
  | (x, e) :: p :: r, d, ht => by
    unfold tEf at ht
    have ih := eok e d ht.2.1
    have ihr := fsok (p :: r) d ht.2.2
    refine ⟨fun g => ?_, fun g pw X hg hp hX => ?_, ?_, fun g => ?_⟩
    · unfold fsP
      show flat ((g, nmw x) :: ([], kw ":") :: (eP e [32] ++ ([], kw ",") :: fsP (p :: r) [32])) = _
      rw [flat_cons, flat_cons, flat_app, ih.fl, flat_cons, ihr.fl, if_neg (by simp), if_neg (by simp)]
      unfold fsT
      obtain ⟨y, e'⟩ := p
      rw [show fsT ((y, e') :: r) = (y ++ ": " ++ exT e') :: fsT r by rw [fsT], cd_join2, cd_app, cd_app]
      simp [kw, nmw]
      rfl
    · unfold fsP
      show Gp pw ((g, nmw x) :: ([], kw ":") :: (eP e [32] ++ ([], kw ",") :: fsP (p :: r) [32] ++ X))
      rw [List.append_assoc]
      exact ⟨hg, fun e q => absurd (hp e) (by rw [q]; decide), gap0, fun _ _ => (by decide), ih.gp [32] _ _ gap1 (fun q => nomatch q) (Gf.cons gap0 (.inr (by decide)) (ihr.gp [32] _ X gap1 (fun q => nomatch q) hX))⟩
    · obtain ⟨l, h1, h2⟩ := ihr.rb
      refine ⟨(nmw x :: kw ":" :: wds (eP e [])) :: l, ?_, fun g => ?_⟩
      · unfold RBf
        exact ⟨_, l, ⟨_, ih.rb [], .inr ⟨Nat.zero_le _, rfl⟩⟩, h1, rfl⟩
      · unfold fsP
        show wds ((g, nmw x) :: ([], kw ":") :: (eP e [32] ++ ([], kw ",") :: fsP (p :: r) [32])) = _
        rw [wds_cons, wds_cons, wds_app, wds_cons, h2, wds_g e [32] []]
        obtain ⟨y, e'⟩ := p
        unfold RBf at h1
        obtain ⟨a, l', _, _, h5⟩ := h1
        rw [h5]
        rfl
    · unfold fsP cnf
      show pcw (wds ((g, nmw x) :: ([], kw ":") :: (eP e [32] ++ ([], kw ",") :: fsP (p :: r) [32]))) = _
      rw [wds_cons, wds_cons, wds_app]
      show 0 + (0 + pcw (wds (eP e [32]) ++ wds (([], kw ",") :: fsP (p :: r) [32]))) = _
      rw [pcw_app, ih.ct, wds_cons]
      show 0 + (0 + (cn e + (0 + pcw (wds (fsP (p :: r) [32]))))) = _
      rw [ihr.ct]
      omega
theorem wds_g : ∀ (e : Ex) (g h : List Nat), wds (eP e g) = wds (eP e h)
  | .int n, g, h => by unfold eP; rfl
  | .non, g, h => by unfold eP; rfl
  | .var x, g, h => by unfold eP; rfl
  | .call f as, g, h => by unfold eP; rfl
  | .recv p, g, h => by unfold eP; rfl
  | .new fs, g, h => by unfold eP; rfl
  | .get e f, g, h => by
    unfold eP
    rw [wds_app, wds_app]
    unfold wrapP
    split
    · rfl
    · rw [wds_g e g h]
  | .neg e, g, h => by unfold eP; rfl
  | .not e, g, h => by unfold eP; rfl
  | .op s l r, g, h => by
    unfold eP
    rw [wds_app, wds_app]
    unfold wrapP
    split
    · rfl
    · rw [wds_g l g h]
end
end K4
set_option Elab.async false
set_option linter.all false
/-! K4n: the written text of statements and programs. -/
namespace K4
open PySem
def lab : St → Str
  | .here l _ => "here " ++ l ++ " "
  | _ => Str.empty
def inn : St → St
  | .here _ s => s
  | s => s
def hdT : St → Str
  | .lt x e => "let " ++ x ++ " = " ++ exT e
  | .st x e => x ++ " = " ++ exT e
  | .put r f e => opdT r 6 ++ "." ++ f ++ " = " ++ exT e
  | .act f as => exT (.call f as)
  | .iff c _ _ => ("if" : Str) ++ " " ++ exT c
  | .wh c _ => ("while" : Str) ++ " " ++ exT c
  | .ret e => ("return" : Str) ++ " " ++ exT e
  | .thr e => ("throw" : Str) ++ " " ++ exT e
  | .send p e => "send " ++ p ++ " " ++ exT e
  | .spawn f as => "spawn " ++ f ++ argsT as
  | .tri _ _ _ => "try"
  | .here _ _ => Str.empty
mutual
def inT : St → Str → List Str
  | .iff _ a b, i => blT a (i ++ "  ") ++ (match b with
    | [] => []
    | _ :: _ => (i ++ "else") :: blT b (i ++ "  ")) ++ [i ++ "end"]
  | .wh _ a, i => blT a (i ++ "  ") ++ [i ++ "end"]
  | .tri a n b, i => blT a (i ++ "  ") ++ ((i ++ ("catch " ++ n)) :: blT b (i ++ "  ")) ++ [i ++ "end"]
  | .here _ s, i => inT s i
  | .lt _ _, _ => []
  | .st _ _, _ => []
  | .put _ _ _, _ => []
  | .act _ _, _ => []
  | .ret _, _ => []
  | .thr _, _ => []
  | .send _ _, _ => []
  | .spawn _ _, _ => []
def blT : List St → Str → List Str
  | [], _ => []
  | s :: r, i => (i ++ lab s ++ hdT (inn s)) :: (inT s i ++ blT r i)
end
def fnT (f : Fn) : List Str := ("func " ++ f.x ++ "(" ++ Str.join ", " f.ps ++ ")") :: (blT f.b "  " ++ [("end" : Str)])
def pgT : Pg → List Str
  | [] => []
  | f :: r => fnT f ++ pgT r
def pageT (p : Pg) : Str := Str.join "\n" (pgT p)

def hdP : St → List Nat → List Piece
  | .lt x e, g => (g, kw "let") :: ([32], nmw x) :: ([32], kw "=") :: eP e [32]
  | .st x e, g => (g, nmw x) :: ([32], kw "=") :: eP e [32]
  | .put r f e, g => eP r g ++ ([], kw ".") :: ([], nmw f) :: ([32], kw "=") :: eP e [32]
  | .act f as, g => eP (.call f as) g
  | .iff c _ _, g => (g, kw "if") :: eP c [32]
  | .wh c _, g => (g, kw "while") :: eP c [32]
  | .ret e, g => (g, kw "return") :: eP e [32]
  | .thr e, g => (g, kw "throw") :: eP e [32]
  | .send p e, g => (g, kw "send") :: ([32], nmw p) :: eP e [32]
  | .spawn f as, g => (g, kw "spawn") :: eP (.call f as) [32]
  | .tri _ _ _, g => [(g, kw "try")]
  | .here l s, g => (g, kw "here") :: ([32], nmw l) :: hdP s [32]
mutual
def inP : St → List Nat → List (List Piece)
  | .iff _ a b, i => blP a (i ++ [32, 32]) ++ (match b with
    | [] => []
    | _ :: _ => [(i, kw "else")] :: blP b (i ++ [32, 32])) ++ [[(i, kw "end")]]
  | .wh _ a, i => blP a (i ++ [32, 32]) ++ [[(i, kw "end")]]
  | .tri a n b, i => blP a (i ++ [32, 32]) ++ ([(i, kw "catch"), ([32], nmw n)] :: blP b (i ++ [32, 32])) ++ [[(i, kw "end")]]
  | .here _ s, i => inP s i
  | .lt _ _, _ => []
  | .st _ _, _ => []
  | .put _ _ _, _ => []
  | .act _ _, _ => []
  | .ret _, _ => []
  | .thr _, _ => []
  | .send _ _, _ => []
  | .spawn _ _, _ => []
def blP : List St → List Nat → List (List Piece)
  | [], _ => []
  | s :: r, i => hdP s i :: (inP s i ++ blP r i)
end
def psP : List Str → List Nat → List Piece
  | [], _ => []
  | x :: r, g => (g, nmw x) :: (match r with
    | [] => []
    | _ :: _ => ([], kw ",") :: psP r [32])
def fnP (f : Fn) : List (List Piece) := (([], kw "func") :: ([32], nmw f.x) :: ([], kw "(") :: (psP f.ps [] ++ [([], kw ")")])) :: (blP f.b [32, 32] ++ [[([], kw "end")]])
def pgP : Pg → List (List Piece)
  | [] => []
  | f :: r => fnP f ++ pgP r
def nl : List Piece → List Piece
  | [] => []
  | (g, w) :: r => (10 :: g, w) :: r
def jn : List (List Piece) → List Piece
  | [] => []
  | l :: r => match r with
    | [] => l
    | _ :: _ => l ++ nl (jn r)
/-- the words of lines -/
def wl : List (List Piece) → List Wd
  | [] => []
  | l :: r => wds l ++ wl r
theorem wl_app : ∀ a b : List (List Piece), wl (a ++ b) = wl a ++ wl b
  | [], b => rfl
  | l :: a, b => by
    show wds l ++ wl (a ++ b) = wds l ++ wl a ++ wl b
    rw [wl_app a b, List.append_assoc]
/-- a line: it begins with a gap of its own -/
def LG (l : List Piece) : Prop := ∃ g w r, l = (g, w) :: r ∧ gapC g ∧ ∀ X, Gf X → Gp (isWord w.2) (r ++ X)
theorem wds_nl (l : List Piece) : wds (nl l) = wds l := by
  cases l with
  | nil => rfl
  | cons p r => rfl
theorem wds_jn : ∀ Ls : List (List Piece), wds (jn Ls) = wl Ls
  | [] => rfl
  | [l] => by
    show wds l = wds l ++ []
    rw [List.append_nil]
  | l :: l' :: r => by
    show wds (l ++ nl (jn (l' :: r))) = wds l ++ wl (l' :: r)
    rw [wds_app, wds_nl, wds_jn (l' :: r)]
theorem jn_ne {l : List Piece} {r : List (List Piece)} (h : LG l) : ∃ g w x, jn (l :: r) = (g, w) :: x := by
  obtain ⟨g, w, x, rfl, _, _⟩ := h
  cases r with
  | nil => exact ⟨g, w, x, rfl⟩
  | cons l' r => exact ⟨g, w, _, rfl⟩
theorem jn_gp : ∀ (Ls : List (List Piece)), (∀ l ∈ Ls, LG l) → Gf (nl (jn Ls)) ∧ Gp false (jn Ls)
  | [], _ => ⟨Gf.nil, True.intro⟩
  | [l], h => by
    obtain ⟨g, w, x, rfl, hg, hX⟩ := h l (by simp)
    have e := hX [] Gf.nil
    rw [List.append_nil] at e
    refine ⟨Gf.cons (fun c hc => ?_) (.inl (fun q => nomatch q)) e, hg, fun _ q => (nomatch q), e⟩
    rcases List.mem_cons.mp hc with q | q
    · exact .inr q
    · exact hg c q
  | l :: l' :: r, h => by
    obtain ⟨g, w, x, rfl, hg, hX⟩ := h l (by simp)
    have ih := jn_gp (l' :: r) fun q hq => h q (List.mem_cons_of_mem _ hq)
    have e := hX _ ih.1
    refine ⟨Gf.cons (fun c hc => ?_) (.inl (fun q => nomatch q)) e, hg, fun _ q => (nomatch q), e⟩
    rcases List.mem_cons.mp hc with q | q
    · exact .inr q
    · exact hg c q
theorem jn_flat : ∀ (Ls : List (List Piece)) (ts : List Str), (∀ l ∈ Ls, LG l) → Ls.map flat = ts.map cd → flat (jn Ls) = cd (Str.join "\n" ts)
  | [], [], _, _ => rfl
  | [], _ :: _, _, h => nomatch h
  | _ :: _, [], _, h => nomatch h
  | [l], [t], _, h => by
    injection h with h1 _
  | [l], _ :: _ :: _, _, h => by
    injection h with _ h
    exact nomatch h
  | _ :: _ :: _, [t], _, h => by
    injection h with _ h
    exact nomatch h
  | l :: l' :: r, t :: t' :: u, hl, h => by
    injection h with h1 h2
    have ih := jn_flat (l' :: r) (t' :: u) (fun q hq => hl q (List.mem_cons_of_mem _ hq)) h2
    show flat (l ++ nl (jn (l' :: r))) = cd (t ++ ("\n" : Str) ++ Str.join "\n" (t' :: u))
    obtain ⟨g, w, x, e⟩ := jn_ne (r := r) (hl l' (by simp))
    rw [flat_app, h1, cd_app, cd_app, ← ih, e]
    show cd t ++ (10 :: g ++ (cd w.2 ++ flat x)) = cd t ++ [10] ++ (g ++ (cd w.2 ++ flat x))
    simp
/-! ### lines of statements -/
theorem chain_pw : ∀ (path : List Str) (e : Ex) (g : List Nat), tight e = 6 → wds (eP (path.foldl .get e) g) = wds (eP e g) ++ pathW path
  | [], e, g, h => by
    show wds (eP e g) = wds (eP e g) ++ []
    rw [List.append_nil]
  | f :: path, e, g, h => by
    have ih := chain_pw path (.get e f) g rfl
    show wds (eP (path.foldl .get (.get e f)) g) = wds (eP e g) ++ (kw "." :: nmw f :: pathW path)
    have e1 : eP (.get e f) g = eP e g ++ [([], kw "."), ([], nmw f)] := by
      rw [eP]
      unfold wrapP
      rw [h]
      rfl
    rw [ih, e1, wds_app, List.append_assoc]
    rfl
theorem chain_t : ∀ (path : List Str) (e : Ex), tight e = 6 → tight (path.foldl .get e) = 6
  | [], e, h => h
  | f :: path, e, h => chain_t path (.get e f) rfl
theorem chain_tE : ∀ (path : List Str) (e : Ex) (d : Nat), tE e d → (∀ g ∈ path, g ∈ okN) → tE (path.foldl .get e) (d + path.length)
  | [], e, d, h, _ => h
  | f :: path, e, d, h, hp => by
    have := chain_tE path (.get e f) (d + 1) (by unfold tE; exact ⟨Nat.succ_pos d, h, hp f (by simp)⟩) fun g hg => hp g (List.mem_cons_of_mem _ hg)
    have e1 : d + 1 + path.length = d + (f :: path).length := by simp only [List.length_cons]; omega
    rw [e1] at this
    exact this
structure HOk (s : St) (g : List Nat) (t : Str) : Prop where
  fl : flat (hdP s g) = g ++ cd t
  lg : gapC g → LG (hdP s g)
theorem lg_of {g : List Nat} {w : Wd} {r : List Piece} (h : ∀ X, Gf X → Gp (isWord w.2) (r ++ X)) (hg : gapC g) : LG ((g, w) :: r) := ⟨g, w, r, rfl, hg, h⟩
theorem lg_e {e : Ex} (h : EOk e) {g : List Nat} (hg : gapC g) (Y : List Piece) (hY : Gf Y) (hne : ∃ w r, eP e g = (g, w) :: r) : LG (eP e g ++ Y) := by
  obtain ⟨w, r, e1⟩ := hne
  rw [e1]
  refine ⟨g, w, r ++ Y, rfl, hg, fun X hX => ?_⟩
  have := h.gp g false (Y ++ X) hg (fun _ => rfl) (fun pw => ?_)
  · rw [e1] at this
    rw [List.append_assoc]
    exact this.2.2
  · have hh : ∀ (a : List Piece) (pw : Bool), Gp pw a → Gf X → Gp pw (a ++ X) := by
      intro a
      induction a with
      | nil => intro pw _ h; exact h pw
      | cons p a ih =>
        intro pw h1 h2
        obtain ⟨g, w⟩ := p
        exact ⟨h1.1, h1.2.1, ih _ h1.2.2 h2⟩
    exact hh Y pw (hY pw) hX
theorem eP_hd : ∀ (e : Ex) (g : List Nat), ∃ w r, eP e g = (g, w) :: r
  | .int n, g => by unfold eP; exact ⟨_, _, rfl⟩
  | .non, g => by unfold eP; exact ⟨_, _, rfl⟩
  | .var x, g => by unfold eP; exact ⟨_, _, rfl⟩
  | .call f as, g => by unfold eP; exact ⟨_, _, rfl⟩
  | .recv p, g => by unfold eP; exact ⟨_, _, rfl⟩
  | .new fs, g => by unfold eP; exact ⟨_, _, rfl⟩
  | .get e f, g => by
    unfold eP wrapP
    split
    · exact ⟨_, _, rfl⟩
    · obtain ⟨w, r, h⟩ := eP_hd e g
      rw [h]
      exact ⟨_, _, rfl⟩
  | .neg e, g => by unfold eP; exact ⟨_, _, rfl⟩
  | .not e, g => by unfold eP; exact ⟨_, _, rfl⟩
  | .op s l r, g => by
    unfold eP wrapP
    split
    · exact ⟨_, _, rfl⟩
    · obtain ⟨w, r, h⟩ := eP_hd l g
      rw [h]
      exact ⟨_, _, rfl⟩
theorem gp_e {e : Ex} (h : EOk e) (pw : Bool) : ∀ X, Gf X → Gp pw (eP e [32] ++ X) := fun X hX => h.gp [32] pw X gap1 (fun q => nomatch q) hX
mutual
theorem tE_up : ∀ (e : Ex) (d d' : Nat), d ≤ d' → tE e d → tE e d'
  | .int _, _, _, _, h => by unfold tE at h ⊢; exact h
  | .non, _, _, _, h => by unfold tE at h ⊢; exact h
  | .var _, _, _, _, h => by unfold tE at h ⊢; exact h
  | .recv _, _, _, _, h => by unfold tE at h ⊢; exact h
  | .call f as, d, d', k, h => by
    unfold tE at h ⊢
    exact ⟨h.1, by omega, h.2.2.1, tEs_up as _ _ (by omega) h.2.2.2⟩
  | .new fs, d, d', k, h => by
    unfold tE at h ⊢
    exact ⟨by omega, h.2.1, tEf_up fs _ _ (by omega) h.2.2⟩
  | .get e f, d, d', k, h => by
    unfold tE at h ⊢
    exact ⟨by omega, tE_up e _ _ (by omega) h.2.1, h.2.2⟩
  | .neg e, d, d', k, h => by
    unfold tE at h ⊢
    exact ⟨by omega, tE_up e _ _ (by omega) h.2⟩
  | .not e, d, d', k, h => by
    unfold tE at h ⊢
    exact ⟨by omega, tE_up e _ _ (by omega) h.2⟩
  | .op s l r, d, d', k, h => by
    unfold tE at h ⊢
    exact ⟨by omega, h.2.1, tE_up l _ _ (by omega) h.2.2.1, tE_up r _ _ (by omega) h.2.2.2⟩
theorem tEs_up : ∀ (as : List Ex) (d d' : Nat), d ≤ d' → tEs as d → tEs as d'
  | [], _, _, _, h => by unfold tEs at h ⊢; exact h
  | e :: r, d, d', k, h => by
    unfold tEs at h ⊢
    exact ⟨tE_up e d d' k h.1, tEs_up r d d' k h.2⟩
theorem tEf_up : ∀ (fs : List (Str × Ex)) (d d' : Nat), d ≤ d' → tEf fs d → tEf fs d'
  | [], _, _, _, h => by unfold tEf at h ⊢; exact h
  | (x, e) :: r, d, d', k, h => by
    unfold tEf at h ⊢
    exact ⟨h.1, tE_up e d d' k h.2.1, tEf_up r d d' k h.2.2⟩
end
theorem part_h {dp : Nat} : ∀ (s : St) (g : List Nat), tP dp s → HOk s g (hdT s)
  | .lt x e, g, ht => by
    have k := eok e dp ht.2
    refine ⟨?_, fun hg => lg_of (fun X hX => ⟨gap1, fun q => (nomatch q), gap1, fun q => (nomatch q), gp_e k _ X hX⟩) hg⟩
    unfold hdP hdT
    rw [flat_cons, flat_cons, flat_cons, k.fl, cd_app, cd_app, cd_app]
    simp [kw, nmw]
    rfl
  | .st x e, g, ht => by
    have k := eok e dp ht.2
    refine ⟨?_, fun hg => lg_of (fun X hX => ⟨gap1, fun q => (nomatch q), gp_e k _ X hX⟩) hg⟩
    unfold hdP hdT
    rw [flat_cons, flat_cons, k.fl, cd_app, cd_app]
    simp [kw, nmw]
    rfl
  | .put r f e, g, ht => by
    obtain ⟨⟨x, path, t1, t2, t3, t4⟩, t5, t6⟩ := ht
    have k := eok e dp t6
    have kr : EOk r := by
      rw [t4]
      exact eok _ _ (chain_tE path (.var x) 0 (by unfold tE; exact t1) t3)
    have tr : tight r = 6 := by
      rw [t4]
      exact chain_t path _ rfl
    refine ⟨?_, fun hg => ?_⟩
    · have ho : opdT r 6 = exT r := if_neg (by rw [tr]; decide)
      show flat (eP r g ++ ([], kw ".") :: ([], nmw f) :: ([32], kw "=") :: eP e [32]) = g ++ cd (opdT r 6 ++ "." ++ f ++ " = " ++ exT e)
      rw [ho, flat_app, kr.fl, flat_cons, flat_cons, flat_cons, k.fl, cd_app, cd_app, cd_app, cd_app]
      simp [kw, nmw]
      rfl
    · show LG (eP r g ++ ([], kw ".") :: ([], nmw f) :: ([32], kw "=") :: eP e [32])
      refine lg_e kr hg _ (Gf.cons gap0 (.inr (by decide)) ⟨gap0, fun _ q => absurd q (by decide), gap1, fun q => (nomatch q), ?_⟩) (eP_hd r g)
      have := gp_e k (isWord (kw "=").2) [] Gf.nil
      rw [List.append_nil] at this
      exact this
  | .act f as, g, ht => by
    have k := eok (.call f as) dp
    by_cases hd' : 0 < dp
    · have k' := k (by unfold tE; exact ⟨ht.1, hd', ht.2.1, ht.2.2⟩)
      refine ⟨by unfold hdP hdT; exact k'.fl g, fun hg => ?_⟩
      unfold hdP
      have := lg_e k' hg [] Gf.nil (eP_hd _ g)
      rw [List.append_nil] at this
      exact this
    · have k' := eok (.call f as) 1 (by
        unfold tE
        refine ⟨ht.1, by omega, ht.2.1, ?_⟩
        have : dp - 1 = 1 - 1 := by omega
        rw [← this]
        exact ht.2.2)
      refine ⟨by unfold hdP hdT; exact k'.fl g, fun hg => ?_⟩
      unfold hdP
      have := lg_e k' hg [] Gf.nil (eP_hd _ g)
      rw [List.append_nil] at this
      exact this
  | .ret e, g, ht => by
    have k := eok e dp ht
    refine ⟨?_, fun hg => lg_of (fun X hX => gp_e k _ X hX) hg⟩
    unfold hdP hdT
    rw [flat_cons, k.fl, cd_app, cd_app]
    simp [kw]
    rfl
  | .thr e, g, ht => by
    have k := eok e dp ht
    refine ⟨?_, fun hg => lg_of (fun X hX => gp_e k _ X hX) hg⟩
    unfold hdP hdT
    rw [flat_cons, k.fl, cd_app, cd_app]
    simp [kw]
    rfl
  | .send p e, g, ht => by
    have k := eok e dp ht.2
    refine ⟨?_, fun hg => lg_of (fun X hX => ⟨gap1, fun q => (nomatch q), gp_e k _ X hX⟩) hg⟩
    unfold hdP hdT
    rw [flat_cons, flat_cons, k.fl, cd_app, cd_app, cd_app]
    simp [kw, nmw]
    rfl
  | .spawn f as, g, ht => by
    have k := eok (.call f as) (dp + 1) (by
      unfold tE
      refine ⟨ht.1, by omega, ht.2.1, ?_⟩
      exact tEs_up as (dp - 1) (dp + 1 - 1) (by omega) ht.2.2)
    refine ⟨?_, fun hg => lg_of (fun X hX => gp_e k _ X hX) hg⟩
    unfold hdP hdT argsT
    rw [flat_cons, k.fl, cd_app, cd_app]
    unfold exT
    rw [cd_app]
    simp [kw]
    rfl
  | .iff _ _ _, _, ht => ht.elim
  | .wh _ _, _, ht => ht.elim
  | .tri _ _ _, _, ht => ht.elim
  | .here _ _, _, ht => ht.elim
end K4
set_option Elab.async false
set_option linter.all false
/-! K4o: the page of a program: its words are a rendering; it is read as the program. -/
namespace K4
open PySem
structure SOk (s : St) : Prop where
  hf : ∀ g, flat (hdP s g) = g ++ cd (lab s ++ hdT (inn s))
  hl : ∀ g, gapC g → LG (hdP s g)
  hg : ∀ g h, wds (hdP s g) = wds (hdP s h)
  fl : ∀ i : Str, (inP s (cd i)).map flat = (inT s i).map cd
  lg : ∀ i, gapC i → ∀ l ∈ inP s i, LG l
  rs : ∀ i, RS s (wds (hdP s i) ++ wl (inP s i))
  ct : ∀ i, pcw (wds (hdP s i) ++ wl (inP s i)) = cnS s
structure BOk (b : List St) : Prop where
  fl : ∀ i : Str, (blP b (cd i)).map flat = (blT b i).map cd
  lg : ∀ i, gapC i → ∀ l ∈ blP b i, LG l
  rs : ∀ i, RSs b (wl (blP b i))
  ct : ∀ i, pcw (wl (blP b i)) = cnSs b
theorem re_of {e : Ex} {d : Nat} (h : tE e d) : RE e (wds (eP e [32])) := ⟨_, (eok e d h).rb [32], .inr ⟨Nat.zero_le _, rfl⟩⟩
theorem call_row {f : Str} {as : List Ex} {d : Nat} (h : tEs as d) (g : List Nat) : ∃ l, RBs as l ∧ wds (eP (.call f as) g) = nmw f :: rowW l ∧ pcw (rowW l) = 1 + cns as := by
  obtain ⟨l, h1, h2⟩ := (asok as d h).rb
  refine ⟨l, h1, ?_, ?_⟩
  · rw [eP, wds_cons, row_wds l _ (h2 [])]
  · rw [← row_wds l _ (h2 []), row_pc ((asok as d h).ct [])]
theorem empty_app (x : Str) : Str.empty ++ x = x := cd_inj (by rw [cd_app]; rfl)
theorem part_ok {dp : Nat} (s : St) (ht : tP dp s) (h1 : lab s = Str.empty) (h2 : inn s = s) (h3 : ∀ i, inP s i = []) (h4 : ∀ i, inT s i = []) (rs : ∀ g, RS s (wds (hdP s g))) (ct : ∀ g, pcw (wds (hdP s g)) = cnS s) (hg : ∀ g h, wds (hdP s g) = wds (hdP s h)) : SOk s := by
  refine ⟨fun g => ?_, fun g hg => (part_h s g ht).lg hg, hg, fun i => by rw [h3, h4]; rfl, fun i _ l hl => (by rw [h3] at hl; exact (nomatch hl)), fun i => ?_, fun i => ?_⟩
  · rw [h1, h2, empty_app]
    exact (part_h s g ht).fl
  · rw [h3]
    show RS s (wds (hdP s i) ++ [])
    rw [List.append_nil]
    exact rs i
  · rw [h3]
    show pcw (wds (hdP s i) ++ []) = _
    rw [List.append_nil]
    exact ct i
theorem pc_nm (x : Str) (r : List Wd) : pcw (nmw x :: r) = pcw r := by
  show (if nm = "(" then 1 else 0) + pcw r = _
  rw [if_neg (by decide), Nat.zero_add]
theorem pc_kw {s : Str} (h : s ≠ "(") (r : List Wd) : pcw (kw s :: r) = pcw r := by
  show (if s = "(" then 1 else 0) + pcw r = _
  rw [if_neg h, Nat.zero_add]
theorem pc_path : ∀ path : List Str, pcw (pathW path) = 0
  | [] => rfl
  | g :: path => by
    show pcw (kw "." :: nmw g :: pathW path) = 0
    rw [pc_kw (by decide), pc_nm, pc_path path]
theorem put_wds {x : Str} {path : List Str} {f : Str} {e : Ex} (g : List Nat) : wds (hdP (.put (path.foldl .get (.var x)) f e) g) = nmw x :: (pathW (path ++ [f]) ++ kw "=" :: wds (eP e [32])) := by
  show wds (eP (path.foldl .get (.var x)) g ++ ([], kw ".") :: ([], nmw f) :: ([32], kw "=") :: eP e [32]) = _
  rw [wds_app, chain_pw path (.var x) g rfl]
  have e1 : wds (eP (.var x) g) = [nmw x] := by rw [eP]; rfl
  rw [e1, wds_cons, wds_cons, wds_cons]
  have e2 : pathW (path ++ [f]) = pathW path ++ [kw ".", nmw f] := by
    unfold pathW
    rw [List.flatMap_append]
    rfl
  rw [e2]
  simp
mutual
theorem sok {dp : Nat} (hdp : 1 ≤ dp) : ∀ (s : St) (i : Nat), tS s i dp → SOk s
  | .lt x e, i, ht => by
    have ht' : tP dp (.lt x e) := by unfold tS at ht; exact ht
    have k := eok e dp ht'.2
    refine part_ok _ ht' rfl rfl (fun _ => by unfold inP; rfl) (fun _ => by unfold inT; rfl) (fun g => ?_) (fun g => ?_) fun g h => rfl
    · unfold RS
      exact ⟨_, re_of ht'.2, rfl⟩
    · show pcw (kw "let" :: nmw x :: kw "=" :: wds (eP e [32])) = _
      rw [pc_kw (by decide), pc_nm, pc_kw (by decide), k.ct]
      unfold cnS
      rfl
  | .st x e, i, ht => by
    have ht' : tP dp (.st x e) := by unfold tS at ht; exact ht
    have k := eok e dp ht'.2
    refine part_ok _ ht' rfl rfl (fun _ => by unfold inP; rfl) (fun _ => by unfold inT; rfl) (fun g => ?_) (fun g => ?_) fun g h => rfl
    · unfold RS
      exact ⟨_, re_of ht'.2, rfl⟩
    · show pcw (nmw x :: kw "=" :: wds (eP e [32])) = _
      rw [pc_nm, pc_kw (by decide), k.ct]
      unfold cnS
      rfl
  | .put r f e, i, ht => by
    have ht' : tP dp (.put r f e) := by unfold tS at ht; exact ht
    have ht2 := ht'
    obtain ⟨⟨x, path, t1, t2, t3, rfl⟩, t5, t6⟩ := ht2
    have k := eok e dp t6
    refine part_ok _ ht' rfl rfl (fun _ => by unfold inP; rfl) (fun _ => by unfold inT; rfl) (fun g => ?_) (fun g => ?_) fun g h => by rw [put_wds, put_wds]
    · unfold RS
      exact ⟨x, path, rfl, _, re_of t6, put_wds g⟩
    · rw [put_wds, pc_nm, pcw_app, pc_path, pc_kw (by decide), k.ct]
      unfold cnS
      rw [chain_0 _ _ (by simp [cw, cn, wrp, tight])]
  | .act f as, i, ht => by
    have ht' : tP dp (.act f as) := by unfold tS at ht; exact ht
    refine part_ok _ ht' rfl rfl (fun _ => by unfold inP; rfl) (fun _ => by unfold inT; rfl) (fun g => ?_) (fun g => ?_) fun g h => wds_g _ g h
    · obtain ⟨l, h1, h2, h3⟩ := call_row (f := f) ht'.2.2 g
      unfold RS
      exact ⟨l, h1, h2⟩
    · obtain ⟨l, h1, h2, h3⟩ := call_row (f := f) ht'.2.2 g
      show pcw (wds (eP (.call f as) g)) = _
      rw [h2, pc_nm, h3]
      unfold cnS
      rfl
  | .ret e, i, ht => by
    have ht' : tP dp (.ret e) := by unfold tS at ht; exact ht
    have k := eok e dp ht'
    refine part_ok _ ht' rfl rfl (fun _ => by unfold inP; rfl) (fun _ => by unfold inT; rfl) (fun g => ?_) (fun g => ?_) fun g h => rfl
    · unfold RS
      exact ⟨_, re_of (show tE e dp from ht'), rfl⟩
    · show pcw (kw "return" :: wds (eP e [32])) = _
      rw [pc_kw (by decide), k.ct]
      unfold cnS
      rfl
  | .thr e, i, ht => by
    have ht' : tP dp (.thr e) := by unfold tS at ht; exact ht
    have k := eok e dp ht'
    refine part_ok _ ht' rfl rfl (fun _ => by unfold inP; rfl) (fun _ => by unfold inT; rfl) (fun g => ?_) (fun g => ?_) fun g h => rfl
    · unfold RS
      exact ⟨_, re_of (show tE e dp from ht'), rfl⟩
    · show pcw (kw "throw" :: wds (eP e [32])) = _
      rw [pc_kw (by decide), k.ct]
      unfold cnS
      rfl
  | .send p e, i, ht => by
    have ht' : tP dp (.send p e) := by unfold tS at ht; exact ht
    have k := eok e dp ht'.2
    refine part_ok _ ht' rfl rfl (fun _ => by unfold inP; rfl) (fun _ => by unfold inT; rfl) (fun g => ?_) (fun g => ?_) fun g h => rfl
    · unfold RS
      exact ⟨_, re_of ht'.2, rfl⟩
    · show pcw (kw "send" :: nmw p :: wds (eP e [32])) = _
      rw [pc_kw (by decide), pc_nm, k.ct]
      unfold cnS
      rfl
  | .spawn f as, i, ht => by
    have ht' : tP dp (.spawn f as) := by unfold tS at ht; exact ht
    refine part_ok _ ht' rfl rfl (fun _ => by unfold inP; rfl) (fun _ => by unfold inT; rfl) (fun g => ?_) (fun g => ?_) fun g h => rfl
    · obtain ⟨l, h1, h2, h3⟩ := call_row (f := f) ht'.2.2 [32]
      unfold RS
      refine ⟨l, h1, ?_⟩
      show kw "spawn" :: wds (eP (.call f as) [32]) = _
      rw [h2]
    · obtain ⟨l, h1, h2, h3⟩ := call_row (f := f) ht'.2.2 [32]
      show pcw (kw "spawn" :: wds (eP (.call f as) [32])) = _
      rw [pc_kw (by decide), h2, pc_nm, h3]
      unfold cnS
      rfl
  | .iff c a b, i, ht => by
    unfold tS at ht
    have kc := eok c dp ht.2.1
    have ka := bok hdp a (i - 1) ht.2.2.2.2.1
    have kb := bok hdp b (i - 1) ht.2.2.2.2.2
    have g2 : ∀ i, gapC i → gapC (i ++ [32, 32]) := fun i hi c hc => by
      rcases List.mem_append.mp hc with q | q
      · exact hi c q
      · simp at q
        exact .inl q
    have ind : ∀ j : Str, cd j ++ [32, 32] = cd (j ++ "  ") := fun j => by
      rw [cd_app]
      rfl
    have le : ∀ g (s : Str), gapC g → LG [(g, kw s)] := fun g s hg => lg_of (fun X hX => hX _) hg
    refine ⟨fun g => ?_, fun g hg => lg_of (fun X hX => gp_e kc _ X hX) hg, fun g h => rfl, fun j => ?_, fun j hj l hl => ?_, fun j => ?_, fun j => ?_⟩
    · show flat ((g, kw "if") :: eP c [32]) = g ++ cd (Str.empty ++ (("if" : Str) ++ " " ++ exT c))
      rw [flat_cons, kc.fl, empty_app, cd_app, cd_app]
      simp [kw]
      rfl
    · unfold inP inT
      rw [List.map_append, List.map_append, List.map_append, List.map_append, ind, ka.fl]
      congr 1
      · congr 1
        cases b with
        | nil => rfl
        | cons s r =>
          show flat [(cd j, kw "else")] :: (blP (s :: r) (cd (j ++ "  "))).map flat = cd (j ++ "else") :: (blT (s :: r) (j ++ "  ")).map cd
          rw [kb.fl, flat_cons, cd_app]
          simp [kw, flat]
      · show [flat [(cd j, kw "end")]] = [cd (j ++ "end")]
        rw [flat_cons, cd_app]
        simp [kw, flat]
    · unfold inP at hl
      rcases List.mem_append.mp hl with hl | hl
      · rcases List.mem_append.mp hl with hl | hl
        · exact ka.lg _ (g2 j hj) l hl
        · cases b with
          | nil => exact nomatch hl
          | cons s r =>
            rcases List.mem_cons.mp hl with q | q
            · rw [q]
              exact le j _ hj
            · exact kb.lg _ (g2 j hj) l q
      · rw [List.mem_singleton.mp hl]
        exact le j _ hj
    · unfold RS inP
      refine ⟨_, _, wl (blP b (j ++ [32, 32])), re_of ht.2.1, ka.rs (j ++ [32, 32]), kb.rs _, ?_⟩
      rw [wl_app, wl_app]
      cases b with
      | nil =>
        show kw "if" :: wds (eP c [32]) ++ (wl (blP a (j ++ [32, 32])) ++ [] ++ [kw "end"]) = _
        simp
      | cons s r =>
        show kw "if" :: wds (eP c [32]) ++ (wl (blP a (j ++ [32, 32])) ++ kw "else" :: wl (blP (s :: r) (j ++ [32, 32])) ++ [kw "end"]) = _
        simp
    · unfold inP
      rw [wl_app, wl_app, pcw_app, pcw_app, pcw_app, ka.ct]
      have e1 : pcw (wds (hdP (.iff c a b) j)) = cn c := by
        show pcw (kw "if" :: wds (eP c [32])) = _
        rw [pc_kw (by decide), kc.ct]
      have e3 : pcw (wl [[(j, kw "end")]]) = 0 := rfl
      rw [e1, e3]
      unfold cnS
      cases b with
      | nil =>
        have e4 : cnSs [] = 0 := by rw [cnSs]
        have e5 : pcw (wl []) = 0 := rfl
        dsimp only
        omega
      | cons s r =>
        have e2 : pcw (wl ([(j, kw "else")] :: blP (s :: r) (j ++ [32, 32]))) = cnSs (s :: r) := by
          show pcw (kw "else" :: wl (blP (s :: r) (j ++ [32, 32]))) = _
          rw [pc_kw (by decide), kb.ct]
        dsimp only
        omega
  | .wh c a, i, ht => by
    unfold tS at ht
    have kc := eok c dp ht.2.1
    have ka := bok hdp a (i - 1) ht.2.2.2
    have g2 : ∀ i, gapC i → gapC (i ++ [32, 32]) := fun i hi c hc => by
      rcases List.mem_append.mp hc with q | q
      · exact hi c q
      · simp at q
        exact .inl q
    have ind : ∀ j : Str, cd j ++ [32, 32] = cd (j ++ "  ") := fun j => by
      rw [cd_app]
      rfl
    have le : ∀ g (s : Str), gapC g → LG [(g, kw s)] := fun g s hg => lg_of (fun X hX => hX _) hg
    refine ⟨fun g => ?_, fun g hg => lg_of (fun X hX => gp_e kc _ X hX) hg, fun g h => rfl, fun j => ?_, fun j hj l hl => ?_, fun j => ?_, fun j => ?_⟩
    · show flat ((g, kw "while") :: eP c [32]) = g ++ cd (Str.empty ++ (("while" : Str) ++ " " ++ exT c))
      rw [flat_cons, kc.fl, empty_app, cd_app, cd_app]
      simp [kw]
      rfl
    · unfold inP inT
      rw [List.map_append, List.map_append, ind, ka.fl]
      congr 1
      show [flat [(cd j, kw "end")]] = [cd (j ++ "end")]
      rw [flat_cons, cd_app]
      simp [kw, flat]
    · unfold inP at hl
      rcases List.mem_append.mp hl with hl | hl
      · exact ka.lg _ (g2 j hj) l hl
      · rw [List.mem_singleton.mp hl]
        exact le j _ hj
    · unfold RS inP
      refine ⟨_, _, re_of ht.2.1, ka.rs (j ++ [32, 32]), ?_⟩
      rw [wl_app]
      show kw "while" :: wds (eP c [32]) ++ (wl (blP a (j ++ [32, 32])) ++ [kw "end"]) = _
      simp
    · unfold inP
      rw [wl_app, pcw_app, pcw_app, ka.ct]
      have e1 : pcw (wds (hdP (.wh c a) j)) = cn c := by
        show pcw (kw "while" :: wds (eP c [32])) = _
        rw [pc_kw (by decide), kc.ct]
      have e3 : pcw (wl [[(j, kw "end")]]) = 0 := rfl
      rw [e1, e3]
      unfold cnS
      omega
  | .tri a n b, i, ht => by
    unfold tS at ht
    have ka := bok hdp a (i - 1) ht.2.2.2.2.1
    have kb := bok hdp b (i - 1) ht.2.2.2.2.2
    have g2 : ∀ i, gapC i → gapC (i ++ [32, 32]) := fun i hi c hc => by
      rcases List.mem_append.mp hc with q | q
      · exact hi c q
      · simp at q
        exact .inl q
    have ind : ∀ j : Str, cd j ++ [32, 32] = cd (j ++ "  ") := fun j => by
      rw [cd_app]
      rfl
    have le : ∀ g (s : Str), gapC g → LG [(g, kw s)] := fun g s hg => lg_of (fun X hX => hX _) hg
    refine ⟨fun g => ?_, fun g hg => le g _ hg, fun g h => rfl, fun j => ?_, fun j hj l hl => ?_, fun j => ?_, fun j => ?_⟩
    · show flat [(g, kw "try")] = g ++ cd (Str.empty ++ "try")
      rw [flat_cons, empty_app]
      simp [kw, flat]
    · unfold inP inT
      rw [List.map_append, List.map_append, List.map_append, List.map_append, ind, ka.fl]
      congr 1
      · congr 1
        show flat [(cd j, kw "catch"), ([32], nmw n)] :: (blP b (cd (j ++ "  "))).map flat = cd (j ++ ("catch " ++ n)) :: (blT b (j ++ "  ")).map cd
        rw [kb.fl, flat_cons, flat_cons, cd_app, cd_app]
        simp [kw, flat, nmw]
        rfl
      · show [flat [(cd j, kw "end")]] = [cd (j ++ "end")]
        rw [flat_cons, cd_app]
        simp [kw, flat]
    · unfold inP at hl
      rcases List.mem_append.mp hl with hl | hl
      · rcases List.mem_append.mp hl with hl | hl
        · exact ka.lg _ (g2 j hj) l hl
        · rcases List.mem_cons.mp hl with q | q
          · rw [q]
            exact lg_of (fun X hX => ⟨gap1, fun q => (nomatch q), hX _⟩) hj
          · exact kb.lg _ (g2 j hj) l q
      · rw [List.mem_singleton.mp hl]
        exact le j _ hj
    · unfold RS inP
      refine ⟨_, _, ka.rs (j ++ [32, 32]), kb.rs (j ++ [32, 32]), ?_⟩
      rw [wl_app, wl_app]
      show kw "try" :: [] ++ (wl (blP a (j ++ [32, 32])) ++ kw "catch" :: nmw n :: wl (blP b (j ++ [32, 32])) ++ [kw "end"]) = _
      simp
    · unfold inP
      rw [wl_app, wl_app, pcw_app, pcw_app, pcw_app, ka.ct]
      have e1 : pcw (wds (hdP (.tri a n b) j)) = 0 := rfl
      have e2 : pcw (wl ([(j, kw "catch"), ([32], nmw n)] :: blP b (j ++ [32, 32]))) = cnSs b := by
        show pcw (kw "catch" :: nmw n :: wl (blP b (j ++ [32, 32]))) = _
        rw [pc_kw (by decide), pc_nm, kb.ct]
      have e3 : pcw (wl [[(j, kw "end")]]) = 0 := rfl
      rw [e1, e2, e3]
      unfold cnS
      omega
  | .here l s, i, ht => by
    unfold tS at ht
    have k := sok hdp s i ht.2.2
    have hlab : lab s = Str.empty ∧ inn s = s := by
      have := ht.2.1
      cases s with
      | here _ _ => exact nomatch this
      | _ => exact ⟨rfl, rfl⟩
    refine ⟨fun g => ?_, fun g hg => ?_, fun g h => rfl, fun j => ?_, fun j hj x hx => ?_, fun j => ?_, fun j => ?_⟩
    · show flat ((g, kw "here") :: ([32], nmw l) :: hdP s [32]) = g ++ cd ("here " ++ l ++ " " ++ hdT s)
      rw [flat_cons, flat_cons, k.hf, hlab.1, hlab.2, empty_app, cd_app, cd_app, cd_app]
      simp [kw, nmw]
      rfl
    · obtain ⟨g', w, r, e1, e2, e3⟩ := k.hl [32] gap1
      refine lg_of (w := kw "here") (r := ([32], nmw l) :: hdP s [32]) (fun X hX => ⟨gap1, fun q => (nomatch q), ?_⟩) hg
      have hg' : g' = [32] := by
        have h2 := k.hl [32] gap1
        exact hd_gap s [32] g' w r e1
      show Gp _ (hdP s [32] ++ X)
      rw [e1]
      exact ⟨e2, fun q => (by rw [hg'] at q; exact (nomatch q)), e3 X hX⟩
    · unfold inP inT
      exact k.fl j
    · unfold inP at hx
      exact k.lg j hj x hx
    · unfold RS
      refine ⟨ht.2.1, _, k.rs j, ?_⟩
      show kw "here" :: nmw l :: wds (hdP s [32]) ++ wl (inP (.here l s) j) = _
      rw [inP, k.hg [32] j]
      rfl
    · show pcw (kw "here" :: nmw l :: (wds (hdP s [32]) ++ wl (inP (.here l s) j))) = _
      rw [pc_kw (by decide), pc_nm, inP, k.hg [32] j, k.ct, cnS]
theorem bok {dp : Nat} (hdp : 1 ≤ dp) : ∀ (b : List St) (i : Nat), tSs b i dp → BOk b
  | [], i, ht => ⟨fun _ => by unfold blP blT; rfl, fun _ _ l hl => (by unfold blP at hl; exact (nomatch hl)), fun _ => (by unfold RSs blP; rfl), fun _ => by unfold blP cnSs; rfl⟩
  | s :: r, i, ht => by
    unfold tSs at ht
    have k := sok hdp s i ht.1
    have kr := bok hdp r i ht.2
    refine ⟨fun j => ?_, fun j hj l hl => ?_, fun j => ?_, fun j => ?_⟩
    · unfold blP blT
      rw [List.map_cons, List.map_cons, List.map_append, List.map_append, k.hf, k.fl, kr.fl, cd_app, cd_app, cd_app, List.append_assoc]
    · unfold blP at hl
      rcases List.mem_cons.mp hl with q | q
      · rw [q]
        exact k.hl j hj
      · rcases List.mem_append.mp q with q | q
        · exact k.lg j hj l q
        · exact kr.lg j hj l q
    · unfold RSs blP
      refine ⟨_, _, k.rs j, kr.rs j, ?_⟩
      show wds (hdP s j) ++ wl (inP s j ++ blP r j) = _
      rw [wl_app, List.append_assoc]
    · unfold blP cnSs
      show pcw (wds (hdP s j) ++ wl (inP s j ++ blP r j)) = _
      rw [wl_app, ← List.append_assoc, pcw_app, k.ct, kr.ct]
theorem hd_gap : ∀ (s : St) (g g' : List Nat) (w : Wd) (r : List Piece), hdP s g = (g', w) :: r → g' = g
  | .lt _ _, g, g', w, r, h => by injection h with h _; injection h with h _; exact h.symm
  | .st _ _, g, g', w, r, h => by injection h with h _; injection h with h _; exact h.symm
  | .put r0 f e, g, g', w, r, h => by
    have h' : eP r0 g ++ ([], kw ".") :: ([], nmw f) :: ([32], kw "=") :: eP e [32] = (g', w) :: r := h
    obtain ⟨v, x, e1⟩ := eP_hd r0 g
    rw [e1] at h'
    injection h' with h' _
    injection h' with h' _
    exact h'.symm
  | .act f as, g, g', w, r, h => by
    have h' : eP (.call f as) g = (g', w) :: r := h
    obtain ⟨v, x, e1⟩ := eP_hd (.call f as) g
    rw [e1] at h'
    injection h' with h' _
    injection h' with h' _
    exact h'.symm
  | .iff _ _ _, g, g', w, r, h => by injection h with h _; injection h with h _; exact h.symm
  | .wh _ _, g, g', w, r, h => by injection h with h _; injection h with h _; exact h.symm
  | .ret _, g, g', w, r, h => by injection h with h _; injection h with h _; exact h.symm
  | .thr _, g, g', w, r, h => by injection h with h _; injection h with h _; exact h.symm
  | .send _ _, g, g', w, r, h => by injection h with h _; injection h with h _; exact h.symm
  | .spawn _ _, g, g', w, r, h => by injection h with h _; injection h with h _; exact h.symm
  | .tri _ _ _, g, g', w, r, h => by injection h with h _; injection h with h _; exact h.symm
  | .here _ _, g, g', w, r, h => by injection h with h _; injection h with h _; exact h.symm
end
/-! ### programs -/
theorem ps_fl : ∀ (ps : List Str) (g : List Nat), flat (psP ps g) = (if ps = [] then [] else g) ++ cd (Str.join ", " ps)
  | [], g => rfl
  | [x], g => by
    show flat [(g, nmw x)] = _
    rw [flat_cons, if_neg (by simp)]
    simp [flat, nmw]
    rfl
  | x :: y :: r, g => by
    show flat ((g, nmw x) :: ([], kw ",") :: psP (y :: r) [32]) = _
    rw [flat_cons, flat_cons, ps_fl (y :: r) [32], if_neg (by simp), if_neg (by simp), cd_join2]
    simp [nmw, kw]
    rfl
theorem ps_gp : ∀ (ps : List Str) (g : List Nat) (pw : Bool) (X : List Piece), gapC g → (g = [] → pw = false) → Gf X → Gp pw (psP ps g ++ X)
  | [], g, pw, X, hg, hp, hX => hX pw
  | [x], g, pw, X, hg, hp, hX => ⟨hg, fun e q => absurd (hp e) (by rw [q]; decide), hX _⟩
  | x :: y :: r, g, pw, X, hg, hp, hX => ⟨hg, fun e q => absurd (hp e) (by rw [q]; decide), gap0, fun _ _ => (by decide), ps_gp (y :: r) [32] _ X gap1 (fun q => (nomatch q)) hX⟩
theorem ps_wds : ∀ (ps : List Str) (g : List Nat), wds (psP ps g) = sepW (ps.map fun p => [nmw p])
  | [], g => rfl
  | [x], g => rfl
  | x :: y :: r, g => by
    show nmw x :: kw "," :: wds (psP (y :: r) [32]) = nmw x :: kw "," :: sepW ((y :: r).map fun p => [nmw p])
    rw [ps_wds (y :: r) [32]]
theorem ps_pc : ∀ (ps : List Str) (g : List Nat), pcw (wds (psP ps g)) = 0
  | [], g => rfl
  | [x], g => rfl
  | x :: y :: r, g => by
    show pcw (nmw x :: kw "," :: wds (psP (y :: r) [32])) = 0
    rw [pc_nm, pc_kw (by decide), ps_pc (y :: r) [32]]
structure POk (p : Pg) : Prop where
  fl : (pgP p).map flat = (pgT p).map cd
  lg : ∀ l ∈ pgP p, LG l
  rp : RP p (wl (pgP p))
  ct : pcw (wl (pgP p)) = cnP p
theorem pok {i dp : Nat} (hdp : 1 ≤ dp) : ∀ (p : Pg), (∀ f ∈ p, tF f i dp) → POk p
  | [], _ => ⟨rfl, fun l hl => (nomatch hl), rfl, rfl⟩
  | f :: r, ht => by
    have kr := pok hdp r fun g hg => ht g (List.mem_cons_of_mem _ hg)
    have hf := ht f (by simp)
    have k := bok hdp f.b i hf.2.2.2.2
    have e2 : cd (("  " : Str)) = [32, 32] := by decide
    have g2 : gapC [32, 32] := fun c hc => by
      simp at hc
      exact .inl hc
    have hw : wds (([], kw "func") :: ([32], nmw f.x) :: ([], kw "(") :: (psP f.ps [] ++ [([], kw ")")])) = kw "func" :: nmw f.x :: rowW (f.ps.map fun p => [nmw p]) := by
      rw [wds_cons, wds_cons, row_wds _ _ (ps_wds f.ps [])]
    refine ⟨?_, fun l hl => ?_, ?_, ?_⟩
    · show (fnP f ++ pgP r).map flat = (fnT f ++ pgT r).map cd
      rw [List.map_append, List.map_append, kr.fl]
      congr 1
      unfold fnP fnT
      rw [List.map_cons, List.map_cons, List.map_append, List.map_append, ← e2, k.fl]
      congr 1
      rw [flat_cons, flat_cons, flat_cons, flat_app, ps_fl, cd_app, cd_app, cd_app, cd_app]
      simp [kw, nmw, flat]
      rfl
    · rcases List.mem_append.mp (show l ∈ fnP f ++ pgP r from hl) with q | q
      · unfold fnP at q
        rcases List.mem_cons.mp q with q | q
        · rw [q]
          refine lg_of (fun X hX => ?_) gap0
          refine ⟨gap1, fun q => (nomatch q), gap0, fun _ _ => (by decide), ?_⟩
          show Gp _ (psP f.ps [] ++ [([], kw ")")] ++ X)
          rw [List.append_assoc]
          exact ps_gp f.ps [] _ _ gap0 (fun _ => (by decide)) (Gf.cons gap0 (.inr (by decide)) (hX _))
        · rcases List.mem_append.mp q with q | q
          · exact k.lg _ g2 l q
          · rw [List.mem_singleton.mp q]
            exact lg_of (fun X hX => hX _) gap0
      · exact kr.lg l q
    · unfold RP
      refine ⟨wl (fnP f), wl (pgP r), ⟨wl (blP f.b [32, 32]), k.rs _, ?_⟩, kr.rp, ?_⟩
      · unfold fnP
        show wds _ ++ wl (blP f.b [32, 32] ++ [[([], kw "end")]]) = _
        rw [hw, wl_app]
        simp [wl, wds]
      · show wl (fnP f ++ pgP r) = _
        rw [wl_app]
    · show pcw (wl (fnP f ++ pgP r)) = (1 + cnSs f.b) + cnP r
      rw [wl_app, pcw_app, kr.ct]
      congr 1
      unfold fnP
      show pcw (wds _ ++ wl (blP f.b [32, 32] ++ [[([], kw "end")]])) = _
      rw [pcw_app, wl_app, pcw_app, k.ct, wds_cons, wds_cons, pc_kw (by decide), pc_nm, row_pc (ps_pc f.ps [])]
      rfl
theorem tG_pok {p : Pg} (ht : tG p) : POk p := by
  obtain ⟨_, i, dp, _, h1, _, hf⟩ := ht
  exact pok h1 p hf
def pieces (p : Pg) : List Piece := jn (pgP p)
theorem page_flat {p : Pg} (ht : tG p) : flat (pieces p) = cd (pageT p) := jn_flat _ _ (tG_pok ht).lg (tG_pok ht).fl
theorem page_gp {p : Pg} (ht : tG p) : Gp false (pieces p) := (jn_gp _ (tG_pok ht).lg).2
theorem page_rp {p : Pg} (ht : tG p) : RP p (wds (pieces p)) := by
  unfold pieces
  rw [wds_jn]
  exact (tG_pok ht).rp
theorem page_ct {p : Pg} (ht : tG p) : pcw (wds (pieces p)) = cnP p := by
  unfold pieces
  rw [wds_jn]
  exact (tG_pok ht).ct
/-- the page is read as the program -/
theorem page_ok {p : Pg} (ht : tG p) : ∃ o, pRead dep (toks (cd (pageT p))) = .ok p [o] := by
  have := text_ok (t := []) ht (page_rp ht) (page_gp ht) gap0
  rw [List.append_nil, page_flat ht] at this
  exact this
end K4
set_option Elab.async false
set_option linter.all false
/-! K4p: the page with wider gaps; the page without a pair of parentheses. -/
namespace K4
open PySem
def widen (cs : List Nat) : List Nat := cs.flatMap fun c => if c = 32 ∨ c = 10 then [32, 10, 32] else [c]
theorem widen_app (a b : List Nat) : widen (a ++ b) = widen a ++ widen b := List.flatMap_append
theorem widen_id : ∀ (x : List Nat), (∀ c ∈ x, c ≠ 32 ∧ c ≠ 10) → widen x = x
  | [], _ => rfl
  | c :: x, h => by
    have h1 := h c (by simp)
    show (if c = 32 ∨ c = 10 then [32, 10, 32] else [c]) ++ widen x = c :: x
    rw [if_neg (by simp [h1]), widen_id x fun d hd => h d (List.mem_cons_of_mem _ hd)]
    rfl
theorem widen_gap : ∀ (g : List Nat), gapC g → gapC (widen g)
  | [], _ => gap0
  | c :: g, h => by
    intro d hd
    have hd' : d ∈ (if c = 32 ∨ c = 10 then [32, 10, 32] else [c]) ++ widen g := hd
    rw [if_pos (h c (by simp))] at hd'
    rcases List.mem_append.mp hd' with q | q
    · simp at q
      rcases q with q | q | q
      · exact .inl q
      · exact .inr q
      · exact .inl q
    · exact widen_gap g (fun e he => h e (List.mem_cons_of_mem _ he)) d q
theorem voc_blank {w : Wd} (h : inV w) : ∀ c ∈ cd w.2, c ≠ 32 ∧ c ≠ 10 := by
  have key : ((cd w.2).all fun c => decide (c ≠ 32 ∧ c ≠ 10)) = true := by
    rcases h with h | h | h
    · exact (show ∀ w ∈ vocL, ((cd w.2).all fun c => decide (c ≠ 32 ∧ c ≠ 10)) = true by decide +kernel) w h
    · exact (show ∀ w ∈ vocF, ((cd w.2).all fun c => decide (c ≠ 32 ∧ c ≠ 10)) = true by decide +kernel) w h
    · exact (show ∀ w ∈ vocS, ((cd w.2).all fun c => decide (c ≠ 32 ∧ c ≠ 10)) = true by decide +kernel) w h
  exact fun c hc => of_decide_eq_true (List.all_eq_true.mp key c hc)
def wideP (l : List Piece) : List Piece := l.map fun p => (widen p.1, p.2)
theorem wide_nil {g : List Nat} (hg : gapC g) (h : widen g = []) : g = [] := by
  cases g with
  | nil => rfl
  | cons c g =>
    have h' : (if c = 32 ∨ c = 10 then [32, 10, 32] else [c]) ++ widen g = [] := h
    rw [if_pos (hg c (by simp))] at h'
    exact nomatch h'
theorem wide_sp : ∀ (l : List Piece) (pw pe : Bool), Sp pw pe l → Sp pw pe (wideP l) ∧ flat (wideP l) = widen (flat l) ∧ wds (wideP l) = wds l
  | [], _, _, _ => ⟨True.intro, rfl, rfl⟩
  | (g, w) :: r, pw, pe, ⟨h1, h2, h3, h4⟩ => by
    obtain ⟨i1, i2, i3⟩ := wide_sp r _ _ h4
    refine ⟨⟨widen_gap g h1, fun e => h2 (wide_nil h1 e), h3, i1⟩, ?_, ?_⟩
    · show widen g ++ (cd w.2 ++ flat (wideP r)) = widen (g ++ (cd w.2 ++ flat r))
      rw [widen_app, widen_app, i2, widen_id (cd w.2) (voc_blank h3)]
    · show w :: wds (wideP r) = w :: wds r
      rw [i3]
theorem sp_ok {p : Pg} {l : List Piece} {t : List Nat} (ht : tG p) (h : RP p (wds l)) (hs : Sp false false l) (hT : gapC t) : ∃ o, pRead dep (toks (flat l ++ t)) = .ok p [o] := by
  obtain ⟨init, o, e1, e2, e3⟩ := toks_pieces hs hT
  refine ⟨o, ?_⟩
  have hf := (toks_fin (flat l ++ t)).1
  rw [e1] at hf ⊢
  exact read_ok ht h e3 e2 hf
theorem page_sp {p : Pg} (ht : tG p) : Sp false false (pieces p) := (page_gp ht).sp (tG_ch ht (page_rp ht))
theorem wide_ok {p : Pg} (ht : tG p) : ∃ o, pRead dep (toks (widen (cd (pageT p)))) = .ok p [o] := by
  obtain ⟨h1, h2, h3⟩ := wide_sp _ _ _ (page_sp ht)
  have := sp_ok (l := wideP (pieces p)) (t := []) ht (by rw [h3]; exact page_rp ht) h1 gap0
  rw [List.append_nil, h2, page_flat ht] at this
  exact this

/-! ### without a pair -/
theorem split_at {c : Nat} : ∀ {u v A X : List Nat}, c ∉ u → u ++ v = A ++ c :: X → ∃ A', A = u ++ A' ∧ v = A' ++ c :: X
  | [], v, A, X, _, h => ⟨A, rfl, h⟩
  | a :: u, v, [], X, hu, h => by
    injection h with h1 _
    exact absurd (List.mem_cons.mpr (.inl h1.symm)) hu
  | a :: u, v, b :: A, X, hu, h => by
    injection h with h1 h2
    obtain ⟨A', e1, e2⟩ := split_at (fun q => hu (List.mem_cons_of_mem _ q)) h2
    exact ⟨A', by rw [h1, e1]; rfl, e2⟩
theorem par_word {w : Wd} (h : inV w) : (w = kw "(" ∨ 40 ∉ cd w.2) ∧ (w = kw ")" ∨ 41 ∉ cd w.2) := by
  rcases h with h | h | h
  · exact (show ∀ w ∈ vocL, (w = kw "(" ∨ 40 ∉ cd w.2) ∧ (w = kw ")" ∨ 41 ∉ cd w.2) by decide +kernel) w h
  · exact (show ∀ w ∈ vocF, (w = kw "(" ∨ 40 ∉ cd w.2) ∧ (w = kw ")" ∨ 41 ∉ cd w.2) by decide +kernel) w h
  · exact (show ∀ w ∈ vocS, (w = kw "(" ∨ 40 ∉ cd w.2) ∧ (w = kw ")" ∨ 41 ∉ cd w.2) by decide +kernel) w h
/-- where a parenthesis stands in a text of words -/
theorem find_par {c : Nat} {s : Str} (hc : c ≠ 32 ∧ c ≠ 10) (hs : cd s = [c]) (hw : ∀ w, inV w → w = kw s ∨ c ∉ cd w.2) : ∀ (l : List Piece) (pw pe : Bool) (A X : List Nat), Sp pw pe l → flat l = A ++ c :: X →
    ∃ l1 g l2, l = l1 ++ (g, kw s) :: l2 ∧ A = flat l1 ++ g ∧ X = flat l2
  | [], _, _, A, X, _, h => by
    have h' : ([] : List Nat) = A ++ c :: X := h
    cases A <;> exact nomatch h'
  | (g, w) :: r, pw, pe, A, X, ⟨h1, h2, h3, h4⟩, h => by
    have hg : c ∉ g := fun q => by
      rcases h1 c q with e | e
      · exact hc.1 e
      · exact hc.2 e
    obtain ⟨A', e1, e2⟩ := split_at hg (show g ++ (cd w.2 ++ flat r) = A ++ c :: X from h)
    have step : ∀ A'', A' = cd w.2 ++ A'' → flat r = A'' ++ c :: X → ∃ l1 g' l2, (g, w) :: r = l1 ++ (g', kw s) :: l2 ∧ A = flat l1 ++ g' ∧ X = flat l2 := by
      intro A'' e3 e4
      obtain ⟨l1, g', l2, i1, i2, i3⟩ := find_par hc hs hw r _ _ A'' X h4 e4
      refine ⟨(g, w) :: l1, g', l2, by rw [i1]; rfl, ?_, i3⟩
      rw [e1, e3, i2]
      show g ++ (cd w.2 ++ (flat l1 ++ g')) = g ++ (cd w.2 ++ flat l1) ++ g'
      simp
    rcases hw w h3 with e | e
    · rw [e] at e2
      have e2' : c :: flat r = A' ++ c :: X := by
        have : cd (kw s).2 = [c] := hs
        rw [this] at e2
        exact e2
      cases A' with
      | nil =>
        injection e2' with _ e5
        exact ⟨[], g, r, by rw [e]; rfl, by rw [e1]; simp [flat], e5.symm⟩
      | cons a A'' =>
        injection e2' with e5 e6
        refine step A'' ?_ e6
        rw [e]
        show a :: A'' = cd s ++ A''
        rw [hs, e5]
        rfl
    · obtain ⟨A'', e3, e4⟩ := split_at e e2
      exact step A'' e3 e4
/-- a gap more ahead -/
def ag (h : List Nat) : List Piece → List Piece × List Nat
  | [] => ([], h)
  | (g, w) :: r => ((h ++ g, w) :: r, [])
theorem ag_flat (h : List Nat) (l : List Piece) (t : List Nat) : flat (ag h l).1 ++ ((ag h l).2 ++ t) = h ++ (flat l ++ t) := by
  cases l with
  | nil => rfl
  | cons p r =>
    obtain ⟨g, w⟩ := p
    show h ++ g ++ (cd w.2 ++ flat r) ++ ([] ++ t) = h ++ (g ++ (cd w.2 ++ flat r) ++ t)
    simp
theorem ag_sp {h : List Nat} (hh : gapC h) (hne : h ≠ []) : ∀ {l : List Piece} {pw pe : Bool}, Sp pw pe l → (∀ pw' pe', Sp pw' pe' (ag h l).1) ∧ gapC (ag h l).2
  | [], _, _, _ => ⟨fun _ _ => True.intro, hh⟩
  | (g, w) :: r, _, _, ⟨h1, h2, h3, h4⟩ => ⟨fun _ _ => ⟨fun c hc => (List.mem_append.mp hc).elim (hh c) (h1 c), fun e => absurd (List.append_eq_nil_iff.mp e).1 hne, h3, h4⟩, gap0⟩
theorem ag_wds (h : List Nat) (l : List Piece) : wds (ag h l).1 = wds l := by
  cases l with
  | nil => rfl
  | cons p r => rfl
theorem sp_app : ∀ {a b b' : List Piece} {pw pe : Bool}, Sp pw pe (a ++ b) → (∀ pw pe, Sp pw pe b → Sp pw pe b') → Sp pw pe (a ++ b')
  | [], b, b', pw, pe, h, k => k pw pe h
  | (g, w) :: a, b, b', pw, pe, ⟨h1, h2, h3, h4⟩, k => ⟨h1, h2, h3, sp_app h4 k⟩
theorem sp_drop : ∀ {a b : List Piece} {pw pe : Bool}, Sp pw pe (a ++ b) → ∃ pw' pe', Sp pw' pe' b
  | [], b, pw, pe, h => ⟨pw, pe, h⟩
  | (g, w) :: a, b, pw, pe, ⟨_, _, _, h4⟩ => sp_drop h4
theorem D_congr : ∀ {x y : List Tk}, x.map Tk.s = y.map Tk.s → D x = D y
  | [], [], _ => rfl
  | [], _ :: _, h => nomatch h
  | _ :: _, [], h => nomatch h
  | t :: x, u :: y, h => by
    injection h with h1 h2
    simp only [D, h1, D_congr h2]
theorem B_congr : ∀ {x y : List Tk}, x.map Tk.s = y.map Tk.s → B x = B y
  | [], [], _ => rfl
  | [], _ :: _, h => nomatch h
  | _ :: _, [], h => nomatch h
  | t :: x, u :: y, h => by
    injection h with h1 h2
    simp only [B, h1, B_congr h2]
theorem lr_congr : ∀ {x y : List Tk}, x.map Tk.s = y.map Tk.s → lr x = lr y
  | [], [], _ => rfl
  | [], _ :: _, h => nomatch h
  | _ :: _, [], h => nomatch h
  | t :: x, u :: y, h => by
    injection h with h1 h2
    simp only [lr, h1, lr_congr h2]
theorem RM_congr : ∀ {x y : List Tk}, x.map Tk.s = y.map Tk.s → RM x = RM y
  | [], [], _ => rfl
  | [], _ :: _, h => nomatch h
  | _ :: _, [], h => nomatch h
  | t :: x, u :: y, h => by
    have e := lr_congr h
    injection h with h1 h2
    show max (lr (t :: x)) (RM x) = max (lr (u :: y)) (RM y)
    rw [e, RM_congr h2]
theorem M.s {a : List Tk} {ws : List Wd} (m : M a ws) : a.map Tk.s = ws.map Prod.fst := by
  unfold M at m
  rw [← m, List.map_map]
  rfl
theorem pc_m {o : Tk} (ho : o.s = ov) : ∀ {a : List Tk} {ws : List Wd}, M a ws → pc (a ++ [o]) = pcw ws
  | [], [], _ => by
    show (if o.s = "(" then 1 else 0) + 0 = 0
    rw [if_neg (by rw [ho]; decide)]
  | [], _ :: _, m => nomatch m
  | _ :: _, [], m => nomatch m
  | t :: a, w :: ws, m => by
    unfold M at m
    injection m with m1 m2
    have ih := pc_m ho (show M a ws from m2)
    show (if t.s = "(" then 1 else 0) + pc (a ++ [o]) = (if w.1 = "(" then 1 else 0) + pcw ws
    rw [ih, ← m1]
/-- tokens with a pair less (or just the opening one) -/
theorem less_core {p : Pg} (ht : tG p) {l : List Piece} {t : List Nat} {w1 w2 w3 : List Wd} (hs : Sp false false l) (hT : gapC t) (hp : wds (pieces p) = w1 ++ kw "(" :: w2 ++ w3) (hl : ∃ w4 w5, (w2 ++ w3 = w4 ++ kw ")" :: w5 ∧ wds l = w1 ++ (w4 ++ w5)) ∨ wds l = w1 ++ (w2 ++ w3)) :
    pRead dep (toks (flat l ++ t)) ≠ .out ∧ ∀ q ts, pRead dep (toks (flat l ++ t)) = .ok q ts → q ≠ p := by
  have hp' : wds (pieces p) = w1 ++ kw "(" :: (w2 ++ w3) := by rw [hp]; simp
  obtain ⟨init, o, e1, e2, e3⟩ := toks_pieces hs hT
  obtain ⟨init0, o0, e4, e5, e6⟩ := toks_pieces (page_sp ht) gap0
  have b0 := tG_bounds ht (page_rp ht) (show M init0 (wds (pieces p)) from e6) e5
  have hf := (toks_fin (flat l ++ t)).1
  have hfew : pcw (wds l) < cnP p := by
    have := page_ct ht
    rw [hp', pcw_app] at this
    have hk : pcw (kw "(" :: (w2 ++ w3)) = 1 + pcw (w2 ++ w3) := rfl
    rw [hk] at this
    obtain ⟨w4, w5, ⟨h1, h2⟩ | h2⟩ := hl
    · rw [h1, pcw_app, pc_kw (by decide)] at this
      rw [h2, pcw_app, pcw_app]
      omega
    · rw [h2, pcw_app]
      omega
  have hb : D (init ++ [o]) ≤ 5 ∧ B (init ++ [o]) ≤ 3 ∧ RM (init ++ [o]) ≤ 8 := by
    have m0 : M init0 (w1 ++ kw "(" :: (w2 ++ w3)) := by rw [← hp']; exact e6
    obtain ⟨a, q, rfl, ma, mq⟩ := m0.app
    obtain ⟨t0, q, rfl, s0, _, mq⟩ := mq.cons
    have s0' : t0.s = "(" := s0
    obtain ⟨w4, w5, ⟨h1, h2⟩ | h2⟩ := hl
    · rw [h1] at mq
      obtain ⟨b, q, rfl, mb, mq⟩ := mq.app
      obtain ⟨t1, c, rfl, s1, _, mc⟩ := mq.cons
      have s1' : t1.s = ")" := s1
      have k := out2 (a := a) (b := b) (c := c ++ [o0]) s0' s1'
      have e : a ++ t0 :: (b ++ t1 :: c) ++ [o0] = a ++ t0 :: (b ++ t1 :: (c ++ [o0])) := by simp
      rw [e] at b0
      have me : (init ++ [o]).map Tk.s = (a ++ (b ++ (c ++ [o0]))).map Tk.s := by
        have m1 := M.s (show M init (w1 ++ (w4 ++ w5)) by rw [← h2]; exact e3)
        simp only [List.map_append, m1, ma.s, mb.s, mc.s, List.map_cons, List.map_nil, e2, e5, List.append_assoc]
      rw [D_congr me, B_congr me, RM_congr me]
      omega
    · have k := out1 (a := a) (b := q ++ [o0]) s0'
      have e : a ++ t0 :: q ++ [o0] = a ++ t0 :: (q ++ [o0]) := by simp
      rw [e] at b0
      have me : (init ++ [o]).map Tk.s = (a ++ (q ++ [o0])).map Tk.s := by
        have m1 := M.s (show M init (w1 ++ (w2 ++ w3)) by rw [← h2]; exact e3)
        simp only [List.map_append, m1, ma.s, mq.s, List.map_cons, List.map_nil, e2, e5, List.append_assoc]
      rw [D_congr me, B_congr me, RM_congr me]
      omega
  rw [e1] at hf ⊢
  refine ⟨pRead_G hf hb.2.2 (by unfold dep; omega), fun q ts h => less_ne h ?_⟩
  rw [pc_m e2 e3]
  exact hfew
theorem gap_sn {g : List Nat} (h : gapC g) (k : List Nat) (hk : gapC k) : gapC (g ++ k) := fun c hc => (List.mem_append.mp hc).elim (h c) (hk c)
/-- the page without a pair of parentheses -/
theorem less_ok {p : Pg} (ht : tG p) {A X Y : List Nat} (h : cd (pageT p) = A ++ 40 :: (X ++ 41 :: Y)) :
    pRead dep (toks (A ++ 32 :: (X ++ 32 :: Y))) ≠ .out ∧ ∀ q ts, pRead dep (toks (A ++ 32 :: (X ++ 32 :: Y))) = .ok q ts → q ≠ p := by
  have hs := page_sp ht
  obtain ⟨l1, g, l2, e1, e2, e3⟩ := find_par (c := 40) (s := "(") (by decide) (by decide) (fun w hw => (par_word hw).1) _ _ _ A _ hs ((page_flat ht).trans h)
  rw [e1] at hs
  obtain ⟨_, _, k1, k2, k3, k4⟩ := sp_drop hs
  obtain ⟨l3, g', l4, f1, f2, f3⟩ := find_par (c := 41) (s := ")") (by decide) (by decide) (fun w hw => (par_word hw).2) l2 _ _ X Y k4 e3.symm
  rw [f1] at k4 hs
  obtain ⟨_, _, j1, j2, j3, j4⟩ := sp_drop k4
  have a4 := ag_sp (h := g' ++ [32]) (gap_sn j1 _ gap1) (by simp) j4
  have s3 : Sp (isWord (kw "(").2) (eqish (kw "(")) (l3 ++ (ag (g' ++ [32]) l4).1) := sp_app k4 fun pw pe _ => a4.1 pw pe
  have a2 := ag_sp (h := g ++ [32]) (gap_sn k1 _ gap1) (by simp) s3
  have sN : Sp false false (l1 ++ (ag (g ++ [32]) (l3 ++ (ag (g' ++ [32]) l4).1)).1) := sp_app hs fun pw pe _ => a2.1 pw pe
  have hfl : flat (l1 ++ (ag (g ++ [32]) (l3 ++ (ag (g' ++ [32]) l4).1)).1) ++ ((ag (g ++ [32]) (l3 ++ (ag (g' ++ [32]) l4).1)).2 ++ (ag (g' ++ [32]) l4).2) = A ++ 32 :: (X ++ 32 :: Y) := by
    rw [flat_app, List.append_assoc, ag_flat, flat_app, List.append_assoc]
    have := ag_flat (g' ++ [32]) l4 []
    rw [List.append_nil, List.append_nil] at this
    rw [List.append_assoc (flat l3), this, e2, f2, f3]
    simp
  have hw : wds (pieces p) = wds l1 ++ kw "(" :: (wds l3 ++ [kw ")"]) ++ wds l4 := by
    rw [e1, f1, wds_app, wds_cons, wds_app, wds_cons]
    simp
  have := less_core ht (t := (ag (g ++ [32]) (l3 ++ (ag (g' ++ [32]) l4).1)).2 ++ (ag (g' ++ [32]) l4).2) sN (gap_sn a2.2 _ a4.2) hw ⟨wds l3, wds l4, .inl ⟨by simp, by rw [wds_app, ag_wds, wds_app, ag_wds]⟩⟩
  rw [hfl] at this
  exact this
/-- .. or just the opening one -/
theorem less_ok1 {p : Pg} (ht : tG p) {A X : List Nat} (h : cd (pageT p) = A ++ 40 :: X) :
    pRead dep (toks (A ++ 32 :: 32 :: X)) ≠ .out ∧ ∀ q ts, pRead dep (toks (A ++ 32 :: 32 :: X)) = .ok q ts → q ≠ p := by
  have hs := page_sp ht
  obtain ⟨l1, g, l2, e1, e2, e3⟩ := find_par (c := 40) (s := "(") (by decide) (by decide) (fun w hw => (par_word hw).1) _ _ _ A _ hs ((page_flat ht).trans h)
  rw [e1] at hs
  obtain ⟨_, _, k1, k2, k3, k4⟩ := sp_drop hs
  have g2 : gapC [32, 32] := fun c hc => by
    simp at hc
    exact .inl hc
  have a2 := ag_sp (h := g ++ [32, 32]) (gap_sn k1 _ g2) (by simp) k4
  have sN : Sp false false (l1 ++ (ag (g ++ [32, 32]) l2).1) := sp_app hs fun pw pe _ => a2.1 pw pe
  have hfl : flat (l1 ++ (ag (g ++ [32, 32]) l2).1) ++ (ag (g ++ [32, 32]) l2).2 = A ++ 32 :: 32 :: X := by
    have := ag_flat (g ++ [32, 32]) l2 []
    rw [List.append_nil, List.append_nil] at this
    rw [flat_app, List.append_assoc, this, e2, e3]
    simp
  have hw : wds (pieces p) = wds l1 ++ kw "(" :: [] ++ wds l2 := by
    rw [e1, wds_app, wds_cons]
    simp
  have := less_core ht (t := (ag (g ++ [32, 32]) l2).2) sN a2.2 hw ⟨[], [], .inr (by rw [wds_app, ag_wds]; rfl)⟩
  rw [hfl] at this
  exact this
end K4
set_option Elab.async false
set_option linter.all false
/-! K4q: the raw words that the law makes. -/
namespace K4
open PySem
/-- "(!" begins a row, "-!" is the minus of a neg -/
def sb (x : Str) : Str := if x = "(!" then "(" else if x = "-!" then "-" else x
abbrev Raw (rs : List Str) (ws : List Wd) : Prop := rs.map sb = ws.map Prod.snd
theorem Raw.app {a c : List Str} {b d : List Wd} (h : Raw a b) (k : Raw c d) : Raw (a ++ c) (b ++ d) := by
  unfold Raw at *
  rw [List.map_append, List.map_append, h, k]
theorem Raw.cons {x : Str} {w : Wd} {c : List Str} {d : List Wd} (h : sb x = w.2) (k : Raw c d) : Raw (x :: c) (w :: d) := by
  unfold Raw at *
  rw [List.map_cons, List.map_cons, h, k]
theorem Raw.nil : Raw [] [] := rfl
def sepR : List (List Str) → List Str
  | [] => []
  | a :: r => match r with
    | [] => a
    | _ => a ++ (",":Str) :: sepR r
def rowR (l : List (List Str)) : List Str := ("(!":Str) :: (sepR l ++ [(")":Str)])
theorem sepR_snoc : ∀ (xs : List (List Str)) (y : List Str), sepR (xs ++ [y]) = sepR xs ++ ((if xs = [] then [] else [(",":Str)]) ++ y)
  | [], y => by simp [sepR]
  | [x], y => by
    show x ++ (",":Str) :: y = x ++ _
    simp
  | x :: x' :: r, y => by
    have ih := sepR_snoc (x' :: r) y
    show x ++ (",":Str) :: sepR (x' :: r ++ [y]) = x ++ (",":Str) :: sepR (x' :: r) ++ _
    rw [ih]
    simp
theorem sep_raw : ∀ (rss : List (List Str)) (wss : List (List Wd)), rss.map (List.map sb) = wss.map (List.map Prod.snd) → Raw (sepR rss) (sepW wss)
  | [], [], _ => rfl
  | [], _ :: _, h => by simp at h
  | _ :: _, [], h => by simp at h
  | [a], [b], h => by
    simp only [List.map_cons, List.map_nil, List.cons.injEq] at h
    exact h.1
  | [a], b :: b' :: s, h => by simp at h
  | a :: a' :: r, [b], h => by simp at h
  | a :: a' :: r, b :: b' :: s, h => by
    have h' : a.map sb = b.map Prod.snd ∧ (a' :: r).map (List.map sb) = (b' :: s).map (List.map Prod.snd) := by
      rw [List.map_cons, List.map_cons (l := b' :: s)] at h
      exact List.cons.inj h
    have ih := sep_raw (a' :: r) (b' :: s) h'.2
    show Raw (a ++ (",":Str) :: sepR (a' :: r)) (b ++ kw "," :: sepW (b' :: s))
    exact Raw.app h'.1 (Raw.cons (by decide) ih)
theorem row_raw {rss : List (List Str)} {wss : List (List Wd)} (h : rss.map (List.map sb) = wss.map (List.map Prod.snd)) : Raw (rowR rss) (rowW wss) :=
  Raw.cons (by decide) ((sep_raw rss wss h).app (Raw.cons (by decide) Raw.nil))
theorem sb_nm {x : Str} (h : x ∈ okN) : sb x = x := (show ∀ x ∈ okN, sb x = x by decide) x h
theorem sb_num {n : Nat} (h : n ∈ okI) : sb (numS n) = numS n := (show ∀ n ∈ okI, sb (numS n) = numS n by decide +kernel) n h
theorem sb_sg {x : Str} (h : x ∈ signs) : sb x = x := (show ∀ x ∈ signs, sb x = x by decide) x h
theorem rows_es : ∀ (as : List Ex) (rss : List (List Str)), rss.length = as.length → (∀ (i : Nat) (e : Ex) (rs : List Str), as[i]? = some e → rss[i]? = some rs → ∃ ws, Raw rs ws ∧ Rw (RB e) (tight e) 0 ws) → ∃ wss, RBs as wss ∧ rss.map (List.map sb) = wss.map (List.map Prod.snd)
  | [], [], _, _ => ⟨[], by simp only [RBs], rfl⟩
  | [], _ :: _, h, _ => by simp at h
  | _ :: _, [], h, _ => by simp at h
  | e :: as, rs :: rss, hl, h => by
    obtain ⟨ws, h1, h2⟩ := h 0 e rs rfl rfl
    obtain ⟨wss, h3, h4⟩ := rows_es as rss (by simpa using hl) fun i e rs he hr => h (i + 1) e rs (by simpa using he) (by simpa using hr)
    refine ⟨ws :: wss, ?_, ?_⟩
    · simp only [RBs]
      exact ⟨ws, wss, h2, h3, rfl⟩
    · rw [List.map_cons, List.map_cons, h4]
      exact congrArg (· :: _) h1
theorem rows_fs : ∀ (fs : List (Str × Ex)) (rss : List (List Str)), rss.length = fs.length → (∀ (i : Nat) (p : Str × Ex) (rs : List Str), fs[i]? = some p → rss[i]? = some rs → ∃ ws, Raw rs (nmw p.1 :: kw ":" :: ws) ∧ Rw (RB p.2) (tight p.2) 0 ws) → ∃ wss, RBf fs wss ∧ rss.map (List.map sb) = wss.map (List.map Prod.snd)
  | [], [], _, _ => ⟨[], by simp only [RBf], rfl⟩
  | [], _ :: _, h, _ => by simp at h
  | _ :: _, [], h, _ => by simp at h
  | (x, e) :: as, rs :: rss, hl, h => by
    obtain ⟨ws, h1, h2⟩ := h 0 (x, e) rs rfl rfl
    obtain ⟨wss, h3, h4⟩ := rows_fs as rss (by simpa using hl) fun i e rs he hr => h (i + 1) e rs (by simpa using he) (by simpa using hr)
    refine ⟨(nmw x :: kw ":" :: ws) :: wss, ?_, ?_⟩
    · simp only [RBf]
      exact ⟨ws, wss, h2, h3, rfl⟩
    · rw [List.map_cons, List.map_cons, h4]
      exact congrArg (· :: _) h1
theorem rowR_len {rss : List (List Str)} {n : Nat} (h : ∀ rs ∈ rss, rs.length ≤ n) (k : rss.length ≤ 2) : (rowR rss).length ≤ 2 * n + 3 := by
  match rss, h, k with
  | [], _, _ => simp [rowR, sepR]
  | [a], h, _ =>
    have := h a (by simp)
    simp [rowR, sepR]
    omega
  | [a, b], h, _ =>
    have h1 := h a (by simp)
    have h2 := h b (by simp)
    simp [rowR, sepR]
    omega
  | _ :: _ :: _ :: _, _, k => simp at k
/-- a chain of fields, without parentheses -/
def CH : Ex → List Wd → Prop
  | .var x, ws => ws = [nmw x]
  | .get e f, ws => 6 ≤ tight e → ∃ bs, CH e bs ∧ ws = bs ++ [kw ".", nmw f]
  | _, _ => True
theorem chain_ch {x : Str} : ∀ (n : Nat) (path : List Str) (ws : List Wd), path.length = n → CH (path.foldl .get (.var x)) ws → ws = nmw x :: pathW path := by
  intro n
  induction n with
  | zero =>
    intro path ws hl h
    obtain rfl := List.length_eq_zero_iff.mp hl
    unfold CH at h
    exact h
  | succ n ih =>
    intro path ws hl h
    rcases List.eq_nil_or_concat path with hp | ⟨p, f, hp⟩
    · rw [hp] at hl
      exact nomatch hl
    · rw [List.concat_eq_append] at hp
      have e1 : path.foldl Ex.get (.var x) = .get (p.foldl .get (.var x)) f := by rw [hp]; simp
      rw [e1] at h
      unfold CH at h
      have t6 : tight (p.foldl .get (.var x)) = 6 := chain_t p (.var x) rfl
      obtain ⟨bs, h1, h2⟩ := h (by omega)
      have l1 : p.length = n := by
        rw [hp, List.length_append] at hl
        simpa using hl
      rw [h2, ih p bs l1 h1, hp]
      unfold pathW
      simp
/-- draws and words of an expression -/
def cW : Nat → Nat
  | 0 => 1
  | d + 1 => 1 + 2 * cW d
def cB : Nat → Nat
  | 0 => 0
  | d + 1 => 2 * cW d
theorem cW_B (d : Nat) : cW d = 1 + cB d := by cases d <;> rfl
def lW : Nat → Nat
  | 0 => 4
  | d + 1 => 2 * lW d + 12
theorem lW_pos (d : Nat) : 4 ≤ lW d := by
  cases d with
  | zero => exact Nat.le_refl _
  | succ d =>
    show 4 ≤ 2 * lW d + 12
    omega
/-- the first line of a statement -/
def HW0 : St → List Wd → Prop
  | .iff c _ _, ws => ∃ wc, RE c wc ∧ ws = kw "if" :: wc
  | .wh c _, ws => ∃ wc, RE c wc ∧ ws = kw "while" :: wc
  | .tri _ _ _, ws => ws = [kw "try"]
  | .here _ _, _ => False
  | s, ws => RS s ws
def HW : St → List Wd → Prop
  | .here l s, ws => ∃ w, HW0 s w ∧ ws = kw "here" :: nmw l :: w
  | s, ws => HW0 s ws
theorem HW.of {s : St} {ws : List Wd} (h : isHere s = false) (k : HW0 s ws) : HW s ws := by
  cases s with
  | here l s => exact nomatch h
  | _ => exact k
end K4
set_option Elab.async false
set_option linter.all false
/-! K4r: what is read bears texts of code points. -/
namespace K4
open PySem
abbrev ok1 (s : Str) : Prop := PyData.strOk s = true
theorem ok1_cd {s : Str} (h : ∀ c ∈ cd s, c < 1114112) : ok1 s := by
  unfold ok1 PyData.strOk
  rw [← Array.all_toList, List.all_eq_true]
  intro c hc
  exact decide_eq_true (h c hc)
def W (ts : List Tk) : Prop := ∀ t ∈ ts, ok1 t.w
abbrev Le (d : PyData) : Prop := d.canLay0 = true
theorem le_tup {ds : List PyData} (h : ∀ d ∈ ds, Le d) : Le (.tuple ds) := by
  have go : ∀ ds : List PyData, (∀ d ∈ ds, Le d) → PyData.canLayAll0 ds = true := by
    intro ds
    induction ds with
    | nil => exact fun _ => by simp only [PyData.canLayAll0]
    | cons d r ih =>
      intro h
      simp only [PyData.canLayAll0, h d (by simp), ih fun x hx => h x (List.mem_cons_of_mem _ hx), Bool.and_self]
  unfold Le
  simp only [PyData.canLay0]
  exact go ds h
theorem le_str {s : Str} (h : ok1 s) : Le (.str s) := by
  unfold Le
  simp only [PyData.canLay0]
  exact h
theorem le_int {i : Int} : Le (.int i) := by
  unfold Le
  simp only [PyData.canLay0]
theorem l0 : ∀ d ∈ ([] : List PyData), Le d := fun d h => nomatch h
theorem lc {d : PyData} {ds : List PyData} (h : Le d) (k : ∀ x ∈ ds, Le x) : ∀ x ∈ d :: ds, Le x := fun x hx => by
  rcases List.mem_cons.mp hx with rfl | hx
  · exact h
  · exact k x hx
theorem ls {s : Str} {ds : List PyData} (h : ok1 s) (k : ∀ x ∈ ds, Le x) : ∀ x ∈ PyData.str s :: ds, Le x := lc (le_str h) k
theorem exsD_app : ∀ a b : List Ex, exsD (a ++ b) = exsD a ++ exsD b
  | [], b => rfl
  | e :: r, b => congrArg (e.toD :: ·) (exsD_app r b)
theorem fsD_app : ∀ a b : List (Str × Ex), fsD (a ++ b) = fsD a ++ fsD b
  | [], b => rfl
  | (x, e) :: r, b => congrArg (PyData.tuple [.str x, e.toD] :: ·) (fsD_app r b)
theorem stsD_app : ∀ a b : List St, stsD (a ++ b) = stsD a ++ stsD b
  | [], b => rfl
  | e :: r, b => congrArg (e.toD :: ·) (stsD_app r b)
abbrev LE (e : Ex) : Prop := Le e.toD
abbrev LEs (l : List Ex) : Prop := ∀ d ∈ exsD l, Le d
abbrev LF (q : Str × Ex) : Prop := ok1 q.1 ∧ LE q.2
abbrev LFs (l : List (Str × Ex)) : Prop := ∀ d ∈ fsD l, Le d
abbrev LS (s : St) : Prop := Le s.toD
abbrev LSs (l : List St) : Prop := ∀ d ∈ stsD l, Le d
def Y {α : Type} (A : α → Prop) (r : R α) : Prop := ∀ a ts', r = .ok a ts' → A a ∧ W ts'
theorem Y.out {α : Type} {A : α → Prop} : Y A R.out := fun _ _ h => nomatch h
theorem Y.err {α : Type} {A : α → Prop} {i : Nat} : Y A (R.err i) := fun _ _ h => nomatch h
theorem Y.ok {α : Type} {A : α → Prop} {a : α} {ts : List Tk} (h : A a) (w : W ts) : Y A (R.ok a ts) := fun _ _ e => by
  cases e
  exact ⟨h, w⟩
theorem Y.bind {α β : Type} {A : α → Prop} {B : β → Prop} {r : R α} {k : α → List Tk → R β} (h : Y A r) (hk : ∀ a ts, A a → W ts → Y B (k a ts)) : Y B (r.bind k) := by
  cases r with
  | out => exact Y.out
  | err i => exact Y.err
  | ok a ts =>
    obtain ⟨h1, h2⟩ := h a ts rfl
    exact hk a ts h1 h2
theorem Y.adv {α : Type} {A : α → Prop} {ts : List Tk} {k : Str → List Tk → R α} (w : W ts) (hk : ∀ x ts', ok1 x → W ts' → Y A (k x ts')) : Y A (adv ts k) := by
  match ts, w with
  | [], _ => exact Y.out
  | [t], _ => exact Y.out
  | t :: t' :: r, w => exact hk t.w (t' :: r) (w t (by simp)) fun x hx => w x (List.mem_cons_of_mem _ hx)
theorem Y.take {s : Str} {ts : List Tk} (w : W ts) : Y ok1 (take s ts) := by
  unfold K4.take
  by_cases e : hd ts = s
  · rw [if_pos e]
    exact Y.adv w fun x ts' h k => Y.ok h k
  · rw [if_neg e]
    exact Y.err
theorem lev_ok {d : Nat} {s : Str} (h : s ∈ levels d) : ok1 s := by
  match d, h with
  | 0, h => exact (show ∀ s ∈ levels 0, ok1 s by decide +kernel) s h
  | 1, h => exact (show ∀ s ∈ levels 1, ok1 s by decide +kernel) s h
  | 2, h => exact (show ∀ s ∈ levels 2, ok1 s by decide +kernel) s h
  | 3, h => exact (show ∀ s ∈ levels 3, ok1 s by decide +kernel) s h
  | 4, h => exact (show ∀ s ∈ levels 4, ok1 s by decide +kernel) s h
  | d + 5, h => cases h
theorem le_op {s : Str} {l r : Ex} (hs : ok1 s) (h : LE l) (k : LE r) : LE (.op s l r) := le_tup (ls (by decide +kernel) (ls hs (lc h (lc k l0))))
theorem le_get {e : Ex} {f : Str} (h : LE e) (k : ok1 f) : LE (.get e f) := le_tup (ls (by decide +kernel) (lc h (ls k l0)))
theorem opLoop_Y {p : PM Ex} {d : Nat} (hp : ∀ ts, W ts → Y LE (p ts)) : ∀ (k : Nat) (x : Ex) (ts : List Tk), LE x → W ts → Y LE (opLoop p d k x ts)
  | 0, _, _, _, _ => Y.out
  | k + 1, x, ts, h, w => by
    unfold opLoop
    by_cases e : hd ts ∈ levels d
    · rw [if_pos e]
      refine Y.adv w fun _ ts1 _ w1 => ?_
      refine (hp ts1 w1).bind fun y ts2 h2 w2 => ?_
      by_cases e2 : d = 2
      · rw [if_pos e2]
        exact Y.ok (le_op (lev_ok e) h h2) w2
      · rw [if_neg e2]
        exact opLoop_Y hp k _ ts2 (le_op (lev_ok e) h h2) w2
    · rw [if_neg e]
      exact Y.ok h w
theorem dotLoop_Y : ∀ (k : Nat) (x : Ex) (ts : List Tk), LE x → W ts → Y LE (dotLoop k x ts)
  | 0, _, _, _, _ => Y.out
  | k + 1, x, ts, h, w => by
    unfold dotLoop
    by_cases e : hd ts = "."
    · rw [if_pos e]
      refine Y.adv w fun _ ts1 _ w1 => ?_
      exact (Y.take w1).bind fun f ts2 h2 w2 => dotLoop_Y k _ ts2 (le_get h h2) w2
    · rw [if_neg e]
      exact Y.ok h w
theorem sepLoop_Y {α : Type} {p : PM α} {A : α → Prop} {B : List α → Prop} (hB : ∀ l a, B l → A a → B (l ++ [a])) (hp : ∀ ts, W ts → Y A (p ts)) : ∀ (k : Nat) (acc : List α) (ts : List Tk), B acc → W ts → Y B (sepLoop p k acc ts)
  | 0, _, _, _, _ => Y.out
  | k + 1, acc, ts, h, w => by
    unfold sepLoop
    by_cases e : hd ts = ","
    · rw [if_pos e]
      refine Y.adv w fun _ ts1 _ w1 => ?_
      exact (hp ts1 w1).bind fun y ts2 h2 w2 => sepLoop_Y hB hp k _ ts2 (hB _ _ h h2) w2
    · rw [if_neg e]
      exact Y.ok h w
theorem several_Y {α : Type} {p : PM α} {A : α → Prop} {B : List α → Prop} (h0 : B []) (hB : ∀ l a, B l → A a → B (l ++ [a])) (hp : ∀ ts, W ts → Y A (p ts)) (ts : List Tk) (w : W ts) : Y B (several p ts) := by
  unfold several
  refine (Y.take w).bind fun _ ts1 _ w1 => ?_
  by_cases e : hd ts1 = ")"
  · rw [if_pos e]
    exact Y.adv w1 fun _ ts2 _ w2 => Y.ok h0 w2
  · rw [if_neg e]
    refine (hp ts1 w1).bind fun a ts2 h2 w2 => ?_
    refine (sepLoop_Y hB hp _ [a] ts2 (by simpa using hB [] a h0 h2) w2).bind fun as ts3 h3 w3 => ?_
    exact (Y.take w3).bind fun _ ts4 _ w4 => Y.ok h3 w4
theorem les_snoc (l : List Ex) (a : Ex) (h : LEs l) (k : LE a) : LEs (l ++ [a]) := fun d hd => by
  rw [exsD_app] at hd
  rcases List.mem_append.mp hd with h1 | h1
  · exact h d h1
  · rw [show d = a.toD from List.mem_singleton.mp h1]
    exact k
theorem lfs_snoc (l : List (Str × Ex)) (a : Str × Ex) (h : LFs l) (k : LF a) : LFs (l ++ [a]) := fun d hd => by
  rw [fsD_app] at hd
  rcases List.mem_append.mp hd with h1 | h1
  · exact h d h1
  · obtain ⟨x, e⟩ := a
    rw [show d = .tuple [.str x, e.toD] from List.mem_singleton.mp h1]
    exact le_tup (ls k.1 (lc k.2 l0))
theorem lss_snoc (l : List St) (a : St) (h : LSs l) (k : LS a) : LSs (l ++ [a]) := fun d hd => by
  rw [stsD_app] at hd
  rcases List.mem_append.mp hd with h1 | h1
  · exact h d h1
  · rw [show d = a.toD from List.mem_singleton.mp h1]
    exact k
mutual
theorem pLevel_Y : ∀ (n d : Nat) (ts : List Tk), W ts → Y LE (pLevel n d ts)
  | 0, _, _, _ => by unfold pLevel; exact Y.out
  | n + 1, d, ts, w => by
    unfold pLevel
    by_cases e : d = 5
    · rw [if_pos e]
      exact pSigned_Y n ts w
    · rw [if_neg e]
      exact (pLevel_Y n (d + 1) ts w).bind fun x ts1 h1 w1 => opLoop_Y (fun ts' w' => pLevel_Y n (d + 1) ts' w') _ x ts1 h1 w1
theorem pSigned_Y : ∀ (n : Nat) (ts : List Tk), W ts → Y LE (pSigned n ts)
  | 0, _, _ => by unfold pSigned; exact Y.out
  | n + 1, ts, w => by
    unfold pSigned
    by_cases e : hd ts = "-"
    · rw [if_pos e]
      refine Y.adv w fun _ ts1 _ w1 => ?_
      exact (pSigned_Y n ts1 w1).bind fun x ts2 h2 w2 => Y.ok (le_tup (ls (by decide +kernel) (lc h2 l0))) w2
    rw [if_neg e]
    by_cases e : hd ts = "not"
    · rw [if_pos e]
      refine Y.adv w fun _ ts1 _ w1 => ?_
      exact (pSigned_Y n ts1 w1).bind fun x ts2 h2 w2 => Y.ok (le_tup (ls (by decide +kernel) (lc h2 l0))) w2
    rw [if_neg e]
    exact (pItem_Y n ts w).bind fun x ts1 h1 w1 => dotLoop_Y _ x ts1 h1 w1
theorem pItem_Y : ∀ (n : Nat) (ts : List Tk), W ts → Y LE (pItem n ts)
  | 0, _, _ => by unfold pItem; exact Y.out
  | n + 1, ts, w => by
    unfold pItem
    by_cases e : hd ts = tn
    · rw [if_pos e]
      exact Y.adv w fun _ ts1 _ w1 => Y.ok (le_tup (ls (by decide +kernel) (lc le_int l0))) w1
    rw [if_neg e]
    by_cases e : hd ts = nm
    · rw [if_pos e]
      refine Y.adv w fun x ts1 hx w1 => ?_
      by_cases e2 : hd ts1 = "("
      · rw [if_pos e2]
        exact (pSevE_Y n ts1 w1).bind fun as ts2 h2 w2 => Y.ok (le_tup (ls (by decide +kernel) (ls hx (lc (le_tup h2) l0)))) w2
      · rw [if_neg e2]
        exact Y.ok (le_tup (ls (by decide +kernel) (ls hx l0))) w1
    rw [if_neg e]
    by_cases e : hd ts = "none"
    · rw [if_pos e]
      exact Y.adv w fun _ ts1 _ w1 => Y.ok (le_tup (ls (by decide +kernel) l0)) w1
    rw [if_neg e]
    by_cases e : hd ts = "receive"
    · rw [if_pos e]
      refine Y.adv w fun _ ts1 _ w1 => ?_
      exact (Y.take w1).bind fun p ts2 h2 w2 => Y.ok (le_tup (ls (by decide +kernel) (ls h2 l0))) w2
    rw [if_neg e]
    by_cases e : hd ts = "new"
    · rw [if_pos e]
      refine Y.adv w fun _ ts1 _ w1 => ?_
      exact (pSevF_Y n ts1 w1).bind fun as ts2 h2 w2 => Y.ok (le_tup (ls (by decide +kernel) (lc (le_tup h2) l0))) w2
    rw [if_neg e]
    refine (Y.take w).bind fun _ ts1 _ w1 => ?_
    refine (pExpr_Y n ts1 w1).bind fun x ts2 h2 w2 => ?_
    exact (Y.take w2).bind fun _ ts3 _ w3 => Y.ok h2 w3
theorem pExpr_Y : ∀ (n : Nat) (ts : List Tk), W ts → Y LE (pExpr n ts)
  | 0, _, _ => by unfold pExpr; exact Y.out
  | n + 1, ts, w => by
    unfold pExpr
    exact pLevel_Y n 0 ts w
theorem pPartE_Y : ∀ (n : Nat) (ts : List Tk), W ts → Y LE (pPartE n ts)
  | 0, _, _ => by unfold pPartE; exact Y.out
  | n + 1, ts, w => by
    unfold pPartE
    exact pExpr_Y n ts w
theorem pPartF_Y : ∀ (n : Nat) (ts : List Tk), W ts → Y LF (pPartF n ts)
  | 0, _, _ => by unfold pPartF; exact Y.out
  | n + 1, ts, w => by
    unfold pPartF
    exact pField_Y n ts w
theorem pSevE_Y : ∀ (n : Nat) (ts : List Tk), W ts → Y LEs (pSevE n ts)
  | 0, _, _ => by unfold pSevE; exact Y.out
  | n + 1, ts, w => by
    unfold pSevE
    exact several_Y (A := LE) l0 les_snoc (fun ts w => pPartE_Y n ts w) ts w
theorem pSevF_Y : ∀ (n : Nat) (ts : List Tk), W ts → Y LFs (pSevF n ts)
  | 0, _, _ => by unfold pSevF; exact Y.out
  | n + 1, ts, w => by
    unfold pSevF
    exact several_Y (A := LF) l0 lfs_snoc (fun ts w => pPartF_Y n ts w) ts w
theorem pField_Y : ∀ (n : Nat) (ts : List Tk), W ts → Y LF (pField n ts)
  | 0, _, _ => by unfold pField; exact Y.out
  | n + 1, ts, w => by
    unfold pField
    refine (Y.take w).bind fun x ts1 hx w1 => ?_
    refine (Y.take w1).bind fun _ ts2 _ w2 => ?_
    exact (pExpr_Y n ts2 w2).bind fun e ts3 h3 w3 => Y.ok ⟨hx, h3⟩ w3
end
theorem stLoop_Y {lab st : PM St} (hl : ∀ ts, W ts → Y LS (lab ts)) (hs : ∀ ts, W ts → Y LS (st ts)) : ∀ (k : Nat) (acc : List St) (ts : List Tk), LSs acc → W ts → Y LSs (stLoop lab st k acc ts)
  | 0, _, _, _, _ => Y.out
  | k + 1, acc, ts, h, w => by
    unfold stLoop
    by_cases e : hd ts ∈ beginnings
    · rw [if_pos e]
      have hx : Y LS (if hd ts = "here" then lab ts else st ts) := by
        by_cases e2 : hd ts = "here"
        · rw [if_pos e2]
          exact hl ts w
        · rw [if_neg e2]
          exact hs ts w
      exact hx.bind fun s ts1 h1 w1 => stLoop_Y hl hs k _ ts1 (lss_snoc _ _ h h1) w1
    · rw [if_neg e]
      exact Y.ok h w
theorem pathLoop_Y : ∀ (k : Nat) (acc : List Str) (ts : List Tk), (∀ f ∈ acc, ok1 f) → W ts → Y (fun l => ∀ f ∈ l, ok1 f) (pathLoop k acc ts)
  | 0, _, _, _, _ => Y.out
  | k + 1, acc, ts, h, w => by
    unfold pathLoop
    by_cases e : hd ts = "."
    · rw [if_pos e]
      refine Y.adv w fun _ ts1 _ w1 => ?_
      refine (Y.take w1).bind fun f ts2 h2 w2 => pathLoop_Y k _ ts2 (fun g hg => ?_) w2
      rcases List.mem_append.mp hg with hg | hg
      · exact h g hg
      · rw [List.mem_singleton.mp hg]
        exact h2
    · rw [if_neg e]
      exact Y.ok h w
theorem le_chain : ∀ (path : List Str) (e : Ex), LE e → (∀ f ∈ path, ok1 f) → LE (path.foldl .get e)
  | [], e, h, _ => h
  | f :: r, e, h, k => le_chain r (.get e f) (le_get h (k f (by simp))) fun g hg => k g (List.mem_cons_of_mem _ hg)
theorem mkSet_le {x : Str} {path : List Str} {v : Ex} (hx : ok1 x) (hp : ∀ f ∈ path, ok1 f) (hv : LE v) : LS (mkSet x path v) := by
  unfold mkSet
  cases e : path.getLast? with
  | none => exact le_tup (ls (by decide +kernel) (ls hx (lc hv l0)))
  | some f =>
    refine le_tup (ls (by decide +kernel) (lc (le_chain _ (.var x) (le_tup (ls (by decide +kernel) (ls hx l0))) fun g hg => hp g ((List.dropLast_prefix path).subset hg)) (ls (hp f (List.mem_of_getLast? e)) (lc hv l0))))
theorem mkComp_le {w : Str} {c : Ex} {a b : List St} (hc : LE c) (ha : LSs a) (hb : LSs b) : LS (mkComp w c a b) := by
  unfold mkComp
  split
  · exact le_tup (ls (by decide +kernel) (lc hc (lc (le_tup ha) (lc (le_tup hb) l0))))
  · exact le_tup (ls (by decide +kernel) (lc hc (lc (le_tup ha) l0)))
mutual
theorem pStmts_Y : ∀ (n : Nat) (ts : List Tk), W ts → Y LSs (pStmts n ts)
  | 0, _, _ => by unfold pStmts; exact Y.out
  | n + 1, ts, w => by
    unfold pStmts
    exact stLoop_Y (pLab_Y n) (pStmt_Y n) _ [] ts l0 w
theorem pLab_Y : ∀ (n : Nat) (ts : List Tk), W ts → Y LS (pLab n ts)
  | 0, _, _ => by unfold pLab; exact Y.out
  | n + 1, ts, w => by
    unfold pLab
    refine (Y.take w).bind fun _ ts1 _ w1 => ?_
    refine (Y.take w1).bind fun l ts2 hl w2 => ?_
    exact (pStmt_Y n ts2 w2).bind fun s ts3 h3 w3 => Y.ok (le_tup (ls (by decide +kernel) (ls hl (lc h3 l0)))) w3
theorem pStmt_Y : ∀ (n : Nat) (ts : List Tk), W ts → Y LS (pStmt n ts)
  | 0, _, _ => by unfold pStmt; exact Y.out
  | n + 1, ts, w => by
    unfold pStmt
    by_cases e : hd ts = nm
    · rw [if_pos e]
      exact pNamed_Y n ts w
    rw [if_neg e]
    by_cases eb : hd ts ∉ beginnings ∨ hd ts = "here"
    · rw [if_pos eb]
      exact Y.err
    rw [if_neg eb]
    refine Y.adv w fun _ ts1 _ w1 => ?_
    by_cases ec : hd ts = "if" ∨ hd ts = "while" ∨ hd ts = "try"
    · rw [if_pos ec]
      exact pComp_Y n (hd ts) ts1 w1
    rw [if_neg ec]
    by_cases e2 : hd ts = "spawn"
    · rw [if_pos e2]
      refine (Y.take w1).bind fun f ts2 hf w2 => ?_
      exact (pSevE_Y n ts2 w2).bind fun as ts3 h3 w3 => Y.ok (le_tup (ls (by decide +kernel) (ls hf (lc (le_tup h3) l0)))) w3
    rw [if_neg e2]
    by_cases e2 : hd ts = "let"
    · rw [if_pos e2]
      refine (Y.take w1).bind fun x ts2 hx w2 => ?_
      refine (Y.take w2).bind fun _ ts3 _ w3 => ?_
      exact (pExpr_Y n ts3 w3).bind fun e ts4 h4 w4 => Y.ok (le_tup (ls (by decide +kernel) (ls hx (lc h4 l0)))) w4
    rw [if_neg e2]
    by_cases e2 : hd ts = "send"
    · rw [if_pos e2]
      refine (Y.take w1).bind fun x ts2 hx w2 => ?_
      exact (pExpr_Y n ts2 w2).bind fun e ts4 h4 w4 => Y.ok (le_tup (ls (by decide +kernel) (ls hx (lc h4 l0)))) w4
    rw [if_neg e2]
    refine (pExpr_Y n ts1 w1).bind fun e ts4 h4 w4 => Y.ok ?_ w4
    split <;> exact le_tup (ls (by decide +kernel) (lc h4 l0))
theorem pComp_Y : ∀ (n : Nat) (word : Str) (ts : List Tk), W ts → Y LS (pComp n word ts)
  | 0, _, _, _ => by unfold pComp; exact Y.out
  | n + 1, word, ts, w => by
    unfold pComp
    by_cases e : word = "try"
    · rw [if_pos e]
      refine (pStmts_Y n ts w).bind fun a ts1 ha w1 => ?_
      refine (Y.take w1).bind fun _ ts2 _ w2 => ?_
      refine (Y.take w2).bind fun x ts3 hx w3 => ?_
      refine (pStmts_Y n ts3 w3).bind fun b ts4 hb w4 => ?_
      exact (Y.take w4).bind fun _ ts5 _ w5 => Y.ok (le_tup (ls (by decide +kernel) (lc (le_tup ha) (ls hx (lc (le_tup hb) l0))))) w5
    rw [if_neg e]
    refine (pExpr_Y n ts w).bind fun c ts1 hc w1 => ?_
    refine (pStmts_Y n ts1 w1).bind fun a ts2 ha w2 => ?_
    by_cases e2 : word = "if" ∧ hd ts2 = "else"
    · rw [if_pos e2]
      refine Y.adv w2 fun _ ts3 _ w3 => ?_
      refine (pStmts_Y n ts3 w3).bind fun b ts4 hb w4 => ?_
      exact (Y.take w4).bind fun _ ts5 _ w5 => Y.ok (mkComp_le hc ha hb) w5
    · rw [if_neg e2]
      exact (Y.take w2).bind fun _ ts5 _ w5 => Y.ok (mkComp_le hc ha l0) w5
theorem pNamed_Y : ∀ (n : Nat) (ts : List Tk), W ts → Y LS (pNamed n ts)
  | 0, _, _ => by unfold pNamed; exact Y.out
  | n + 1, ts, w => by
    unfold pNamed
    refine (Y.take w).bind fun x ts1 hx w1 => ?_
    by_cases e : hd ts1 = "("
    · rw [if_pos e]
      exact (pSevE_Y n ts1 w1).bind fun as ts2 h2 w2 => Y.ok (le_tup (ls (by decide +kernel) (lc (le_tup (ls (by decide +kernel) (ls hx (lc (le_tup h2) l0)))) l0))) w2
    · rw [if_neg e]
      refine (pathLoop_Y _ [] ts1 (fun f hf => nomatch hf) w1).bind fun path ts2 hp w2 => ?_
      refine (Y.take w2).bind fun _ ts3 _ w3 => ?_
      exact (pExpr_Y n ts3 w3).bind fun v ts4 hv w4 => Y.ok (mkSet_le hx hp hv) w4
end
theorem fnLoop_Y {stm : PM (List St)} (hs : ∀ ts, W ts → Y LSs (stm ts)) : ∀ (k : Nat) (acc : List Fn) (ts : List Tk), (∀ f ∈ acc, Le f.toD) → W ts → Y (fun l : List Fn => ∀ f ∈ l, Le f.toD) (fnLoop stm k acc ts)
  | 0, _, _, _, _ => Y.out
  | k + 1, acc, ts, h, w => by
    unfold fnLoop
    by_cases e : hd ts = ov
    · rw [if_pos e]
      exact Y.ok h w
    rw [if_neg e]
    refine (Y.take w).bind fun _ ts1 _ w1 => ?_
    refine (Y.take w1).bind fun x ts2 hx w2 => ?_
    refine (several_Y (p := take nm) (A := ok1) (B := fun l => ∀ f ∈ l, ok1 f) (fun f hf => nomatch hf) (fun l a hl ha g hg => ?_) (fun ts w => Y.take w) ts2 w2).bind fun ps ts3 hp w3 => ?_
    · rcases List.mem_append.mp hg with hg | hg
      · exact hl g hg
      · rw [List.mem_singleton.mp hg]
        exact ha
    refine (hs ts3 w3).bind fun b ts4 hb w4 => ?_
    refine (Y.take w4).bind fun _ ts5 _ w5 => ?_
    refine fnLoop_Y hs k _ ts5 (fun f hf => ?_) w5
    rcases List.mem_append.mp hf with hf | hf
    · exact h f hf
    · rw [List.mem_singleton.mp hf]
      refine le_tup (ls hx (lc (le_tup fun d hd => ?_) (lc (le_tup hb) l0)))
      obtain ⟨q, hq, rfl⟩ := List.mem_map.mp hd
      exact le_str (hp q hq)
theorem pRead_Y {n : Nat} {ts ts' : List Tk} {p : Pg} (w : W ts) (h : pRead n ts = .ok p ts') : (pgD p).canLay0 = true := by
  unfold pRead at h
  have := (fnLoop_Y (pStmts_Y n) (ts.length + 1) [] ts (fun f hf => nomatch hf) w p ts' h).1
  refine le_tup fun d hd => ?_
  obtain ⟨f, hf, rfl⟩ := List.mem_map.mp hd
  exact this f hf
theorem lexF_W : ∀ (k : Nat) (cs : List Nat) (i : Nat) (b : Bool), (∀ c ∈ cs, c < 1114112) → W (lexF k cs i b)
  | 0, _, _, _, _ => fun t ht => nomatch ht
  | k + 1, cs, i, b, h => by
    unfold lexF
    by_cases e : cs = []
    · rw [if_pos e]
      intro t ht
      rw [List.mem_singleton.mp ht]
      show ok1 Str.empty
      decide +kernel
    · rw [if_neg e]
      obtain ⟨x, hx, _⟩ := tokAt_pre e
      intro t ht
      rcases List.mem_cons.mp ht with ht | ht
      · rw [ht]
        refine ok1_cd fun c hc => h c ?_
        rw [hx]
        exact List.mem_append_left _ hc
      · exact lexF_W k _ _ _ (fun c hc => h c (List.mem_of_mem_drop hc)) t ht
theorem toks_W {cs : List Nat} (h : ∀ c ∈ cs, c < 1114112) : W (toks cs) := lexF_W _ _ _ _ fun c hc => h c (List.mem_of_mem_drop hc)
theorem voc_asc {w : Wd} (h : inV w) : ∀ c ∈ cd w.2, c < 1114112 := by
  rcases h with h | h | h
  · exact (show ∀ w ∈ vocL, ∀ c ∈ cd w.2, c < 1114112 by decide +kernel) w h
  · exact (show ∀ w ∈ vocF, ∀ c ∈ cd w.2, c < 1114112 by decide +kernel) w h
  · exact (show ∀ w ∈ vocS, ∀ c ∈ cd w.2, c < 1114112 by decide +kernel) w h
theorem sp_asc : ∀ (l : List Piece) (pw pe : Bool), Sp pw pe l → ∀ c ∈ flat l, c < 1114112
  | [], _, _, _, c, hc => nomatch hc
  | (g, w) :: r, pw, pe, ⟨h1, _, h3, h4⟩, c, hc => by
    rcases List.mem_append.mp hc with hc | hc
    · rcases h1 c hc with e | e <;> (rw [e]; decide)
    · rcases List.mem_append.mp hc with hc | hc
      · exact voc_asc h3 c hc
      · exact sp_asc r _ _ h4 c hc
theorem page_asc {p : Pg} (ht : tG p) : ∀ c ∈ cd (pageT p), c < 1114112 := by
  rw [← page_flat ht]
  exact sp_asc _ _ _ (page_sp ht)
end K4
set_option Elab.async false
set_option linter.all false
/-! K4s: programs whose data are equal are equal. -/
namespace K4
open PySem
def tg : PyData → Str
  | .tuple (.str s :: _) => s
  | _ => Str.empty
theorem beq_str {a b : Str} (h : (a == b) = true) : a = b := eq_of_beq h
theorem tg_eq {d e : PyData} {s t : Str} {r u : List PyData} (hd : d = .tuple (.str s :: r)) (he : e = .tuple (.str t :: u)) (h : PyData.eqv d e = true) : s = t ∧ PyData.eqvAll r u = true := by
  subst hd he
  simp only [PyData.eqv, PyData.eqvAll, Bool.and_eq_true] at h
  exact ⟨beq_str h.1, h.2⟩
theorem ev_cons {d e : PyData} {r u : List PyData} (h : PyData.eqvAll (d :: r) (e :: u) = true) : PyData.eqv d e = true ∧ PyData.eqvAll r u = true := by
  simpa only [PyData.eqvAll, Bool.and_eq_true] using h
theorem ev_str {s t : Str} (h : PyData.eqv (.str s) (.str t) = true) : s = t := by
  simp only [PyData.eqv] at h
  exact beq_str h
theorem ev_int {s t : Int} (h : PyData.eqv (.int s) (.int t) = true) : s = t := by
  simp only [PyData.eqv] at h
  exact eq_of_beq h
theorem ev_tup {s t : List PyData} (h : PyData.eqv (.tuple s) (.tuple t) = true) : PyData.eqvAll s t = true := by
  simpa only [PyData.eqv] using h
def tE1 : Ex → Str
  | .int _ => "int"
  | .non => "none"
  | .var _ => "var"
  | .call _ _ => "call"
  | .recv _ => "receive"
  | .new _ => "new"
  | .get _ _ => "get"
  | .neg _ => "neg"
  | .not _ => "not"
  | .op _ _ _ => "op"
def iE : Ex → Nat
  | .int _ => 0
  | .non => 1
  | .var _ => 2
  | .call _ _ => 3
  | .recv _ => 4
  | .new _ => 5
  | .get _ _ => 6
  | .neg _ => 7
  | .not _ => 8
  | .op _ _ _ => 9
def cdE (s : Str) : Nat := if s = "int" then 0 else if s = "none" then 1 else if s = "var" then 2 else if s = "call" then 3 else if s = "receive" then 4 else if s = "new" then 5 else if s = "get" then 6 else if s = "neg" then 7 else if s = "not" then 8 else 9
theorem cdE_1 : ∀ e : Ex, cdE (tE1 e) = iE e
  | .int _ => (by decide +kernel : cdE "int" = 0)
  | .non => (by decide +kernel : cdE "none" = 1)
  | .var _ => (by decide +kernel : cdE "var" = 2)
  | .call _ _ => (by decide +kernel : cdE "call" = 3)
  | .recv _ => (by decide +kernel : cdE "receive" = 4)
  | .new _ => (by decide +kernel : cdE "new" = 5)
  | .get _ _ => (by decide +kernel : cdE "get" = 6)
  | .neg _ => (by decide +kernel : cdE "neg" = 7)
  | .not _ => (by decide +kernel : cdE "not" = 8)
  | .op _ _ _ => (by decide +kernel : cdE "op" = 9)
theorem tE_ex (e : Ex) : ∃ r, e.toD = .tuple (.str (tE1 e) :: r) := by cases e <;> exact ⟨_, rfl⟩
theorem iE_eq {e f : Ex} (h : PyData.eqv e.toD f.toD = true) : iE e = iE f := by
  obtain ⟨r, h1⟩ := tE_ex e
  obtain ⟨u, h2⟩ := tE_ex f
  rw [← cdE_1, ← cdE_1, (tg_eq h1 h2 h).1]
mutual
theorem ex_inj : ∀ (e f : Ex), PyData.eqv e.toD f.toD = true → e = f
  | .int n, f, h => by
    cases f with
    | int m =>
      have h1 := ev_int (ev_cons (tg_eq rfl rfl h).2).1
      have : n = m := by omega
      rw [this]
    | _ => exact absurd (iE_eq h) (by simp [iE])
  | .non, f, h => by
    cases f with
    | non => rfl
    | _ => exact absurd (iE_eq h) (by simp [iE])
  | .var x, f, h => by
    cases f with
    | var y => rw [ev_str (ev_cons (tg_eq rfl rfl h).2).1]
    | _ => exact absurd (iE_eq h) (by simp [iE])
  | .recv x, f, h => by
    cases f with
    | recv y => rw [ev_str (ev_cons (tg_eq rfl rfl h).2).1]
    | _ => exact absurd (iE_eq h) (by simp [iE])
  | .call x as, f, h => by
    cases f with
    | call y bs =>
      obtain ⟨h1, h2⟩ := ev_cons (tg_eq rfl rfl h).2
      rw [ev_str h1, exs_inj as bs (ev_tup (ev_cons h2).1)]
    | _ => exact absurd (iE_eq h) (by simp [iE])
  | .new as, f, h => by
    cases f with
    | new bs => rw [fs_inj as bs (ev_tup (ev_cons (tg_eq rfl rfl h).2).1)]
    | _ => exact absurd (iE_eq h) (by simp [iE])
  | .get e x, f, h => by
    cases f with
    | get e' y =>
      obtain ⟨h1, h2⟩ := ev_cons (tg_eq rfl rfl h).2
      rw [ex_inj e e' h1, ev_str (ev_cons h2).1]
    | _ => exact absurd (iE_eq h) (by simp [iE])
  | .neg e, f, h => by
    cases f with
    | neg e' => rw [ex_inj e e' (ev_cons (tg_eq rfl rfl h).2).1]
    | _ => exact absurd (iE_eq h) (by simp [iE])
  | .not e, f, h => by
    cases f with
    | not e' => rw [ex_inj e e' (ev_cons (tg_eq rfl rfl h).2).1]
    | _ => exact absurd (iE_eq h) (by simp [iE])
  | .op s l r, f, h => by
    cases f with
    | op s' l' r' =>
      obtain ⟨h1, h2⟩ := ev_cons (tg_eq rfl rfl h).2
      obtain ⟨h3, h4⟩ := ev_cons h2
      rw [ev_str h1, ex_inj l l' h3, ex_inj r r' (ev_cons h4).1]
    | _ => exact absurd (iE_eq h) (by simp [iE])
theorem exs_inj : ∀ (as bs : List Ex), PyData.eqvAll (exsD as) (exsD bs) = true → as = bs
  | [], [], _ => rfl
  | [], _ :: _, h => by simp [exsD, PyData.eqvAll] at h
  | _ :: _, [], h => by simp [exsD, PyData.eqvAll] at h
  | e :: r, f :: s, h => by
    obtain ⟨h1, h2⟩ := ev_cons (show PyData.eqvAll (e.toD :: exsD r) (f.toD :: exsD s) = true from h)
    rw [ex_inj e f h1, exs_inj r s h2]
theorem fs_inj : ∀ (as bs : List (Str × Ex)), PyData.eqvAll (fsD as) (fsD bs) = true → as = bs
  | [], [], _ => rfl
  | [], (_, _) :: _, h => by simp [fsD, PyData.eqvAll] at h
  | (_, _) :: _, [], h => by simp [fsD, PyData.eqvAll] at h
  | (x, e) :: r, (y, f) :: s, h => by
    obtain ⟨h1, h2⟩ := ev_cons (show PyData.eqvAll (.tuple [.str x, e.toD] :: fsD r) (.tuple [.str y, f.toD] :: fsD s) = true from h)
    obtain ⟨h3, h4⟩ := ev_cons (ev_tup h1)
    rw [ev_str h3, ex_inj e f (ev_cons h4).1, fs_inj r s h2]
end
def tS1 : St → Str
  | .lt _ _ => "let"
  | .st _ _ => "set"
  | .put _ _ _ => "put"
  | .act _ _ => "do"
  | .iff _ _ _ => "if"
  | .wh _ _ => "while"
  | .ret _ => "return"
  | .thr _ => "throw"
  | .send _ _ => "send"
  | .spawn _ _ => "spawn"
  | .tri _ _ _ => "try"
  | .here _ _ => "here"
def iS : St → Nat
  | .lt _ _ => 0
  | .st _ _ => 1
  | .put _ _ _ => 2
  | .act _ _ => 3
  | .iff _ _ _ => 4
  | .wh _ _ => 5
  | .ret _ => 6
  | .thr _ => 7
  | .send _ _ => 8
  | .spawn _ _ => 9
  | .tri _ _ _ => 10
  | .here _ _ => 11
def cdS (s : Str) : Nat := if s = "let" then 0 else if s = "set" then 1 else if s = "put" then 2 else if s = "do" then 3 else if s = "if" then 4 else if s = "while" then 5 else if s = "return" then 6 else if s = "throw" then 7 else if s = "send" then 8 else if s = "spawn" then 9 else if s = "try" then 10 else 11
theorem cdS_1 : ∀ e : St, cdS (tS1 e) = iS e
  | .lt _ _ => (by decide +kernel : cdS "let" = 0)
  | .st _ _ => (by decide +kernel : cdS "set" = 1)
  | .put _ _ _ => (by decide +kernel : cdS "put" = 2)
  | .act _ _ => (by decide +kernel : cdS "do" = 3)
  | .iff _ _ _ => (by decide +kernel : cdS "if" = 4)
  | .wh _ _ => (by decide +kernel : cdS "while" = 5)
  | .ret _ => (by decide +kernel : cdS "return" = 6)
  | .thr _ => (by decide +kernel : cdS "throw" = 7)
  | .send _ _ => (by decide +kernel : cdS "send" = 8)
  | .spawn _ _ => (by decide +kernel : cdS "spawn" = 9)
  | .tri _ _ _ => (by decide +kernel : cdS "try" = 10)
  | .here _ _ => (by decide +kernel : cdS "here" = 11)
theorem tS_ex (e : St) : ∃ r, e.toD = .tuple (.str (tS1 e) :: r) := by cases e <;> exact ⟨_, rfl⟩
theorem iS_eq {e f : St} (h : PyData.eqv e.toD f.toD = true) : iS e = iS f := by
  obtain ⟨r, h1⟩ := tS_ex e
  obtain ⟨u, h2⟩ := tS_ex f
  rw [← cdS_1, ← cdS_1, (tg_eq h1 h2 h).1]
mutual
theorem st_inj : ∀ (e f : St), PyData.eqv e.toD f.toD = true → e = f
  | .lt x e, f, h => by
    cases f with
    | lt y e' =>
      obtain ⟨h1, h2⟩ := ev_cons (tg_eq rfl rfl h).2
      rw [ev_str h1, ex_inj e e' (ev_cons h2).1]
    | _ => exact absurd (iS_eq h) (by simp [iS])
  | .st x e, f, h => by
    cases f with
    | st y e' =>
      obtain ⟨h1, h2⟩ := ev_cons (tg_eq rfl rfl h).2
      rw [ev_str h1, ex_inj e e' (ev_cons h2).1]
    | _ => exact absurd (iS_eq h) (by simp [iS])
  | .put r x e, f, h => by
    cases f with
    | put r' y e' =>
      obtain ⟨h1, h2⟩ := ev_cons (tg_eq rfl rfl h).2
      obtain ⟨h3, h4⟩ := ev_cons h2
      rw [ex_inj r r' h1, ev_str h3, ex_inj e e' (ev_cons h4).1]
    | _ => exact absurd (iS_eq h) (by simp [iS])
  | .act x as, f, h => by
    cases f with
    | act y bs =>
      have h1 := (ev_cons (tg_eq rfl rfl h).2).1
      obtain ⟨h3, h4⟩ := ev_cons (tg_eq rfl rfl h1).2
      rw [ev_str h3, exs_inj as bs (ev_tup (ev_cons h4).1)]
    | _ => exact absurd (iS_eq h) (by simp [iS])
  | .iff c a b, f, h => by
    cases f with
    | iff c' a' b' =>
      obtain ⟨h1, h2⟩ := ev_cons (tg_eq rfl rfl h).2
      obtain ⟨h3, h4⟩ := ev_cons h2
      rw [ex_inj c c' h1, sts_inj a a' (ev_tup h3), sts_inj b b' (ev_tup (ev_cons h4).1)]
    | _ => exact absurd (iS_eq h) (by simp [iS])
  | .wh c a, f, h => by
    cases f with
    | wh c' a' =>
      obtain ⟨h1, h2⟩ := ev_cons (tg_eq rfl rfl h).2
      rw [ex_inj c c' h1, sts_inj a a' (ev_tup (ev_cons h2).1)]
    | _ => exact absurd (iS_eq h) (by simp [iS])
  | .ret e, f, h => by
    cases f with
    | ret e' => rw [ex_inj e e' (ev_cons (tg_eq rfl rfl h).2).1]
    | _ => exact absurd (iS_eq h) (by simp [iS])
  | .thr e, f, h => by
    cases f with
    | thr e' => rw [ex_inj e e' (ev_cons (tg_eq rfl rfl h).2).1]
    | _ => exact absurd (iS_eq h) (by simp [iS])
  | .send x e, f, h => by
    cases f with
    | send y e' =>
      obtain ⟨h1, h2⟩ := ev_cons (tg_eq rfl rfl h).2
      rw [ev_str h1, ex_inj e e' (ev_cons h2).1]
    | _ => exact absurd (iS_eq h) (by simp [iS])
  | .spawn x as, f, h => by
    cases f with
    | spawn y bs =>
      obtain ⟨h1, h2⟩ := ev_cons (tg_eq rfl rfl h).2
      rw [ev_str h1, exs_inj as bs (ev_tup (ev_cons h2).1)]
    | _ => exact absurd (iS_eq h) (by simp [iS])
  | .tri a n b, f, h => by
    cases f with
    | tri a' n' b' =>
      obtain ⟨h1, h2⟩ := ev_cons (tg_eq rfl rfl h).2
      obtain ⟨h3, h4⟩ := ev_cons h2
      rw [sts_inj a a' (ev_tup h1), ev_str h3, sts_inj b b' (ev_tup (ev_cons h4).1)]
    | _ => exact absurd (iS_eq h) (by simp [iS])
  | .here l s, f, h => by
    cases f with
    | here l' s' =>
      obtain ⟨h1, h2⟩ := ev_cons (tg_eq rfl rfl h).2
      rw [ev_str h1, st_inj s s' (ev_cons h2).1]
    | _ => exact absurd (iS_eq h) (by simp [iS])
theorem sts_inj : ∀ (as bs : List St), PyData.eqvAll (stsD as) (stsD bs) = true → as = bs
  | [], [], _ => rfl
  | [], _ :: _, h => by simp [stsD, PyData.eqvAll] at h
  | _ :: _, [], h => by simp [stsD, PyData.eqvAll] at h
  | e :: r, f :: s, h => by
    obtain ⟨h1, h2⟩ := ev_cons (show PyData.eqvAll (e.toD :: stsD r) (f.toD :: stsD s) = true from h)
    rw [st_inj e f h1, sts_inj r s h2]
end
theorem strs_inj : ∀ (as bs : List Str), PyData.eqvAll (as.map .str) (bs.map .str) = true → as = bs
  | [], [], _ => rfl
  | [], _ :: _, h => by simp [PyData.eqvAll] at h
  | _ :: _, [], h => by simp [PyData.eqvAll] at h
  | e :: r, f :: s, h => by
    obtain ⟨h1, h2⟩ := ev_cons (show PyData.eqvAll (.str e :: r.map .str) (.str f :: s.map .str) = true from h)
    rw [ev_str h1, strs_inj r s h2]
theorem fn_inj (f g : Fn) (h : PyData.eqv f.toD g.toD = true) : f = g := by
  obtain ⟨x, ps, b⟩ := f
  obtain ⟨y, qs, c⟩ := g
  obtain ⟨h1, h2⟩ := tg_eq rfl rfl h
  obtain ⟨h3, h4⟩ := ev_cons h2
  have h1 : x = y := h1
  rw [h1, strs_inj ps qs (ev_tup h3), sts_inj b c (ev_tup (ev_cons h4).1)]
theorem pgs_inj : ∀ (p q : Pg), PyData.eqvAll (p.map Fn.toD) (q.map Fn.toD) = true → p = q
  | [], [], _ => rfl
  | [], _ :: _, h => by simp [PyData.eqvAll] at h
  | _ :: _, [], h => by simp [PyData.eqvAll] at h
  | f :: p, g :: q, h => by
    obtain ⟨h1, h2⟩ := ev_cons (show PyData.eqvAll (f.toD :: p.map Fn.toD) (g.toD :: q.map Fn.toD) = true from h)
    rw [fn_inj f g h1, pgs_inj p q h2]
theorem pg_inj {p q : Pg} (h : PyData.eqv (pgD p) (pgD q) = true) : p = q := pgs_inj p q (ev_tup h)
end K4
set_option Elab.async false
set_option linter.all false
set_option maxRecDepth 100000
set_option maxHeartbeats 4000000
namespace W4
open PySem PySem.Spec PyProof.Rows L2
section
variable {P : Program} {w : World} {K : PySem.W.Frag} {mg : Str → Option Value} {base : Heap} {x qual : Str} {params : Arguments} {body : List Stmt} {scope : Scope} {dvs : List V} {kws : List (Str × V)} {f : Addr} {fd : FuncData}
/-- the same, and a token is out in the body -/
theorem FunD.okGT {CX : CXT} {N ps : List Str} {k : Nat} {sp : Sp} (F : FunD K x qual params body scope dvs kws f fd) (S : FnScope N ps scope) (plain : ∀ y ∈ scope.names, y.2 ≠ .cell) (some1 : 1 ≤ ps.length) (num : ∀ vs H Q E, sp vs H Q E → vs.length = ps.length)
    (bd : ∀ (cdv : Value) (A : Around) (outer : List Env) (s : Shared) (H : Hp) (vs : List V) (Q : VK) (E : XK), A.guards = some [] → Room k (A.deeper (envOfC qual scope s.heap.objs.size f cdv)) → sp vs H Q E →
      ∃ t, PSsT (cxOf CX P w K mg base N qual scope f cdv A outer s H E) body t ∧ t { nx := fun _ H' => Q .non H', rt := Q } (start N vs) H) : FnG P w K mg base CX (k + 1) f fd ps sp := by
  obtain ⟨oc, od, dV, kV, doc, pm, an, cdv, ct, osl, rfl, lk, code, _, _⟩ := F.ex
  refine ⟨num, fun A gd hr outer s H e0 args us vs hb rv Q E hsp => ?_⟩
  have lens := num _ _ _ _ hsp
  have lenU : us.length = ps.length := by rw [← rv.length, lens]
  have lenZ : (ps.zip us).length = ps.length := by rw [List.length_zip, lenU, Nat.min_self]
  have keepB : ∀ b o, base.get? b = some o → s.heap.get? b = some o := fun b o e => (e0.bs b o e).1
  have inK : K.In s.heap := e0.mod.kin.keeps keepB
  have lim := e0.mod.nolimit.keeps keepB
  have locs : ∀ y ∈ ps.zip us, scope.names.lookup y.1 = some .local := by
    intro ⟨n, v⟩ hy
    rcases S.par n (List.of_mem_zip hy).1 with q | q
    · exact q
    · exact absurd rfl (plain _ (PySem.mem_of_lookup q))
  have kinds : ∀ y ∈ ps.zip us, (envOfC qual scope s.heap.objs.size f cdv).kindOf y.1 = some .local := by
    intro y hy
    first
    | exact locs y hy
    | (simp only [Env.kindOf]; exact locs y hy)
  refine codeAny_call_function hr.depth (inK _ _ lk) rfl S.co S.gen rfl (PySem.W.codeRec_of inK code) (hb _ _ _ _ ?_)
  refine wpAny_newFunctionEnv plain locs (fun h1 ns1 but1 => ?_) S.kind
  have noCells := cells_none scope.names (s.heap.objs.size + 1) [] plain
  have map1 : (bindL (envOfC qual scope s.heap.objs.size f cdv).kindOf (ps.zip us) fun _ => none) = fun y => (ps.zip us).reverse.lookup y := by
    funext y
    rw [bindL_loc _ _ kinds y]
    cases (ps.zip us).reverse.lookup y <;> rfl
  have inC : InCallC s s.heap.objs.size (bindL (envOfC qual scope s.heap.objs.size f cdv).kindOf (ps.zip us) fun _ => none) (cellsFrom (s.heap.objs.size + 1) scope.names [])
      (bindC (envOfC qual scope s.heap.objs.size f cdv).kindOf (ps.zip us) fun _ => none) ⟨h1, s.gens, s.drawn, s.toks + (ps.zip us).length, s.os⟩ := by
    rw [map1, noCells]
    refine ⟨⟨⟨_, _, rfl⟩, ns1, fun b o e => but1.extBut b o (Nat.ne_of_lt (Heap.lt_size e)) (Heap.get?_push_of_some _ e), Nat.le_refl _⟩, fun n c hc => ?_, .nil, fun n c hc => ?_⟩
    · exact absurd hc (by simp)
    · exact absurd hc (by simp)
  have sameEnv : newEnv scope s.heap.objs.size mainGlobals [] (qual ++ ".<locals>.") (some f) cdv none builtinsNs = envOfC qual scope s.heap.objs.size f cdv := by
    unfold envOfC
    rw [noCells] <;> rfl
  have out : 1 ≤ s.toks + (ps.zip us).length := by omega
  show Heap.NoLimit h1 ∧ codeAny (model P w) A (.func body (newEnv scope s.heap.objs.size mainGlobals [] (qual ++ ".<locals>.") (some f) cdv none builtinsNs)) _ ⟨h1, s.gens, s.drawn, s.toks + (ps.zip us).length, s.os⟩
  rw [sameEnv]
  refine ⟨lim.keeps inC.toInCall.keep, codeAny_func ?_⟩
  obtain ⟨t, ht, hq⟩ := bd cdv A outer s H vs Q E gd (hr.deeper _) hsp
  refine wpAny_mono (ht [] ⟨h1, s.gens, s.drawn, s.toks + (ps.zip us).length, s.os⟩ (start N vs) H _ out (inv_start S hr.hd e0 lens rv inC) hq) (fun fl s2 ends => ?_) fun _ _ y => y
  cases fl with
  | ret u =>
    obtain ⟨v, σ2, H2, J, ru, q⟩ := ends
    exact ⟨v, H2, J.os, J.bare, J.base, J.hok, ru, q⟩
  | next =>
    obtain ⟨σ2, H2, J, q⟩ := ends
    exact ⟨V.non, H2, J.os, J.bare, J.base, J.hok, rfl, q⟩
  | brk =>
    obtain ⟨_, _, _, q⟩ := ends
    exact q.elim
  | cont =>
    obtain ⟨_, _, _, q⟩ := ends
    exact q.elim
end
section
variable {X : Cx}
theorem pst_set {i : Nat} {x : Str} {e : Expr} {te : TE} {p1 pos : Pos} (nd : X.N.Nodup) (hi : X.N[i]? = some x) (hx : Loc X.env.scope x) (he : PET X e te) (hs : swapsWith e (some (.Name x p1)) pos.line X.env = pure false := by rfl)
    (hf : X.fn x = true ∨ X.env.scope.names.lookup x = some .local := by first | exact .inl rfl | exact .inr rfl) : PST X (.Assign [.Name x p1] e pos) (tAsg te (gName i)) := by
  intro pins s σ H D one I h
  refine wpAny_Assign_Name (thn (he pins s σ H _ one I h) fun v s1 ⟨y, H1, I1, r1, q⟩ => ?_) hs
  exact store_ok I1 nd hi hx r1 (fun s2 I2 => ⟨_, H1, I2, q⟩) hf
/-- == of plain data, the right one not deep -/
def rEqM (K : PySem.W.Frag) : R2 := fun x y H Q => ∃ d e, Dp K H x d ∧ Dp K H y e ∧ d.canLay0 = true ∧ e.canLay0 = true ∧ e.depth ≤ 60 ∧ Q (.bl (PyData.eqv d e)) H
theorem op_eqM (hu : X.A.units + 64 < cLine) : OpR X (compareOp .Eq) (rEqM X.K) := by
  intro pins s σ H x y v u Q I rx ry h
  obtain ⟨d, e, hd, he, cd, ce, dp, q⟩ := h
  obtain ⟨as, r1⟩ := Dp.reads I d x v hd rx
  obtain ⟨bs, r2⟩ := Dp.reads I e y u he ry
  have mn : min d.depth e.depth ≤ e.depth := Nat.min_le_right _ _
  exact SeqAt.compareEq_reads r1 r2 cd ce (by omega) ⟨.bl _, H, I, rfl, q⟩
end
/-! ### what the top has left -/
structure Txt (K : PySem.W.Frag) (mg : Str → Option Value) (w : World) : Prop where
  say : He.SaysD fa fn K
  more : ex K = true
  tab : ∃ es n, KDict K w (He.ga K "TIGHTNESS") es n
  glo : ∀ x, He.Fa.glo x ∈ fa → mg x = some (.ref (He.ga K x))
  free : ∀ x, He.Fa.free x ∈ fa → mg x = none
  str : ∀ x z, He.Fa.str x z ∈ fa → ∃ t, mg x = some (.str z t)
  int : ∀ x i, He.Fa.int x i ∈ fa → ∃ t, mg x = some (.int i t)
theorem txt_of {K : PySem.W.Frag} {h h0 : Heap} {mg : Str → Option Value} {w : World} (X : K.In h) (G : h.Ns mainGlobals mg) (c : He.SaysX fa fn tabs [] ex w h0 K) : Txt K mg w :=
  ⟨c.t.d, c.more, c.t.tab 0 rfl, fun x m => He.glo_ok X G (c.t.d.facts m), fun x m => He.free_ok X G (c.t.d.facts m), fun x z m => He.str_ok X G (c.t.d.facts m), fun x i m => He.int_ok X G (c.t.d.facts m)⟩
/-- a def of the module -/
structure Clb (P : Program) (w : World) (K : PySem.W.Frag) (mg : Str → Option Value) (base : Heap) (CX : CXT) (k : Nat) (x : Str) (sp : Sp) : Prop where
  ex : ∃ (f : Addr) (fd : FuncData) (ps : List Str), FnOk P w K mg base CX k f fd ps sp ∧ mg x = some (.ref f) ∧ PySem.W.keepIn K (.ref f) = true ∧ Binds K fd ps []
structure ClbG (P : Program) (w : World) (K : PySem.W.Frag) (mg : Str → Option Value) (base : Heap) (CX : CXT) (k : Nat) (x : Str) (sp : Sp) : Prop where
  ex : ∃ (f : Addr) (fd : FuncData) (ps : List Str), FnG P w K mg base CX k f fd ps sp ∧ mg x = some (.ref f) ∧ PySem.W.keepIn K (.ref f) = true ∧ Binds K fd ps []
/-- a method of the Reader -/
structure Mth (P : Program) (w : World) (K : PySem.W.Frag) (mg : Str → Option Value) (base : Heap) (CX : CXT) (k : Nat) (m : Str) (sp : Sp) : Prop where
  ex : ∃ (f : Addr) (fd : FuncData) (ps : List Str), Cls K (He.ga K "Reader") ∧ Meth K (He.ga K "Reader") m f ∧ FnOk P w K mg base CX k f fd ps sp ∧ Binds K fd ps []
theorem Clb.mono {P : Program} {w : World} {K : PySem.W.Frag} {mg : Str → Option Value} {base : Heap} {CX : CXT} {j k : Nat} {x : Str} {sp : Sp} (c : Clb P w K mg base CX j x sp) (h : j ≤ k) : Clb P w K mg base CX k x sp := by
  obtain ⟨f, fd, ps, F, r⟩ := c.ex
  exact ⟨f, fd, ps, F.mono h, r⟩
theorem Mth.mono {P : Program} {w : World} {K : PySem.W.Frag} {mg : Str → Option Value} {base : Heap} {CX : CXT} {j k : Nat} {x : Str} {sp : Sp} (c : Mth P w K mg base CX j x sp) (h : j ≤ k) : Mth P w K mg base CX k x sp := by
  obtain ⟨f, fd, ps, C, M, F, r⟩ := c.ex
  exact ⟨f, fd, ps, C, M, F.mono h, r⟩
section
variable {X : Cx} {CX : CXT} {k j : Nat} {x m : Str} {sp : Sp} {E : XK} {p pos apos : Pos} {e o : Expr} {es : List Expr} {ta : TE} {t : TA}
theorem pe_cl (c : Clb X.prog X.w X.K X.mg X.base CX k x sp) (hr : Room j X.A) (hk : k ≤ j) (hx : Passes CX X E) (hg : Gl X x) (ha : PA X (e :: es) t)
    (hdb : (x == ("__debug__" : Str)) = false := by decide) (he : starEach (e :: es) X.env = (false, eval e X.env) :: starEach es X.env := by rfl) (hpl : (backTo pos (starEach es X.env)).any (·.1) = false := by rfl) :
    PE X (.Call (.Name x p) (e :: es) [] pos) (tCall sp [] E t) := by
  obtain ⟨f, fd, ps, F, hm, kp, b⟩ := c.ex
  exact pe_call F (hr.mono hk) hg hm kp b .nil hx ha hdb he hpl
theorem pe_clG (c : ClbG X.prog X.w X.K X.mg X.base CX k x sp) (gd : X.A.guards = some []) (hr : Room j X.A) (hk : k ≤ j) (hx : Passes CX X E) (hg : Gl X x) (ha : PA X (e :: es) t)
    (hdb : (x == ("__debug__" : Str)) = false := by decide) (he : starEach (e :: es) X.env = (false, eval e X.env) :: starEach es X.env := by rfl) (hpl : (backTo pos (starEach es X.env)).any (·.1) = false := by rfl) :
    PE X (.Call (.Name x p) (e :: es) [] pos) (tCall sp [] E t) := by
  obtain ⟨f, fd, ps, F, hm, kp, b⟩ := c.ex
  have F' : FnG X.prog X.w X.K X.mg X.base CX j f fd ps sp := ⟨F.num, fun A g r => F.go A g (r.mono hk)⟩
  exact pe_callG F' gd hr hg hm kp b hx ha hdb he hpl
theorem pe_clS {E : L2.St → XK} (c : Clb X.prog X.w X.K X.mg X.base CX k x sp) (hr : Room j X.A) (hk : k ≤ j) (hx : ∀ σ, PassesAt CX X σ (E σ)) (hg : Gl X x) (ha : PA X (e :: es) t)
    (hdb : (x == ("__debug__" : Str)) = false := by decide) (he : starEach (e :: es) X.env = (false, eval e X.env) :: starEach es X.env := by rfl) (hpl : (backTo pos (starEach es X.env)).any (·.1) = false := by rfl) :
    PE X (.Call (.Name x p) (e :: es) [] pos) (tCallS sp E t) := by
  obtain ⟨f, fd, ps, F, hm, kp, b⟩ := c.ex
  exact pe_callS F (hr.mono hk) hg hm kp b hx ha hdb he hpl
theorem pe_ml {pl : Sem Bool} (c : Mth X.prog X.w X.K X.mg X.base CX k m sp) (hr : Room j X.A) (hk : k ≤ j) (hx : Passes CX X E) (he : PE X o ta) (ha : PA X (e :: es) t)
    (hst : starEach (e :: es) X.env = (false, eval e X.env) :: starEach es X.env := by rfl) (hpl : (backTo pos (starEach es X.env)).any (·.1) = false := by rfl)
    (ht : eval (.Call (.Attribute o m apos) (e :: es) [] pos) X.env = (do
      let ov ← eval o X.env
      standAt apos.atName
      let (f, first) ← holding [ov] (getMethod ov m pl)
      callWith pos f first (backTo pos (starEach (e :: es) X.env)) (backToKw pos (keywordEach [] X.env))) := by rfl) :
    PE X (.Call (.Attribute o m apos) (e :: es) [] pos) (tMeth (He.ga X.K "Reader") m sp [] E ta t) := by
  obtain ⟨f, fd, ps, C, M, F, b⟩ := c.ex
  exact pe_meth (pl := pl) he C M F (hr.mono hk) b .nil hx ha hst hpl ht
theorem pe_ml0 {pl : Sem Bool} (c : Mth X.prog X.w X.K X.mg X.base CX k m sp) (hr : Room j X.A) (hk : k ≤ j) (hx : Passes CX X E) (he : PE X o ta)
    (ht : eval (.Call (.Attribute o m apos) [] [] pos) X.env = (do
      let ov ← eval o X.env
      standAt apos.atName
      let (f, first) ← holding [ov] (getMethod ov m pl)
      callWith pos f first (backTo pos (starEach [] X.env)) (backToKw pos (keywordEach [] X.env))) := by rfl) :
    PE X (.Call (.Attribute o m apos) [] [] pos) (tMeth (He.ga X.K "Reader") m sp [] E ta tNil) := by
  obtain ⟨f, fd, ps, C, M, F, b⟩ := c.ex
  exact pe_meth0 (pl := pl) he C M F (hr.mono hk) b .nil hx ht
end
end W4
set_option Elab.async false
set_option linter.all false
set_option maxRecDepth 100000
set_option maxHeartbeats 4000000
namespace W4
open PySem PySem.Spec PyProof.Rows L2
theorem in_of {α : Type} {l : List α} {a : α} (i : Nat) (h : l[i]? = some a) : a ∈ l := List.mem_of_getElem? h
section
variable {P : Program} {w : World} {K : PySem.W.Frag} {mg : Str → Option Value} {base : Heap}
theorem Txt.funD (T : Txt K mg w) {d : He.DefD} (m : d ∈ fn) (h1 : d.dfl = []) (h2 : d.kwd = []) : ∃ fd, FunD K d.name d.qual d.params d.body d.scope [] [] (He.fAd K d.at_) fd := by
  obtain ⟨fd, F⟩ := T.say.defs m
  have e1 : d.dvs K = [] := by unfold He.DefD.dvs; rw [h1] <;> rfl
  have e2 : d.kws K = [] := by unfold He.DefD.kws; rw [h2] <;> rfl
  rw [e1, e2] at F
  exact ⟨fd, F⟩
abbrev BdOk (d : He.DefD) (ps : List Str) : Prop := ∀ (kV doc pm : Value) (an : Option Addr) (cdv ct : Value) (us : List Value), us.length = ps.length → bindArgs (PySem.W.fnOf d.name d.qual d.params d.body d.scope .none kV doc pm an cdv ct) ⟨us, []⟩ = pure (ps.zip us)
/-- a def that lets nothing out -/
theorem Txt.clb (T : Txt K mg w) {d : He.DefD} (m : d ∈ fn) {x : Str} (hx : d.at_ = (x, none)) (gl : mg x = some (.ref (He.ga K x))) (h1 : d.dfl = []) (h2 : d.kwd = []) {N ps : List Str} {k : Nat} {sp : Sp} (S : FnScope N ps d.scope) (bd : BdOk d ps)
    (len : ∀ vs H Q E, sp vs H Q E → vs.length = ps.length)
    (body : ∀ (cdv : Value) (A : Around) (outer : List Env) (s : Shared) (H : Hp) (vs : List V) (Q : VK) (E : XK), Room k (A.deeper (envOfC d.qual d.scope s.heap.objs.size (He.fAd K d.at_) cdv)) → sp vs H Q E →
      ∃ t, PSs (cxOf CX0 P w K mg base N d.qual d.scope (He.fAd K d.at_) cdv A outer s H E).nox d.body t ∧ t { nx := fun _ H' => Q .non H', rt := Q } (start N vs) H) : Clb P w K mg base CX0 (k + 1) x sp := by
  obtain ⟨fd, F⟩ := T.funD m h1 h2
  have e : He.fAd K d.at_ = He.ga K x := by rw [hx] <;> rfl
  refine ⟨He.ga K x, fd, ps, ?_, gl, by rw [← e]; exact F.kp, F.bindsN bd⟩
  rw [← e]
  refine F.ok S len fun cdv A outer s H vs Q E hr h => ?_
  obtain ⟨t, h, q⟩ := body cdv A outer s H vs Q E hr h
  exact ⟨t, h.nox, q⟩
/-- one that may raise -/
theorem Txt.clbX (T : Txt K mg w) {d : He.DefD} (m : d ∈ fn) {x : Str} (hx : d.at_ = (x, none)) (gl : mg x = some (.ref (He.ga K x))) (h1 : d.dfl = []) (h2 : d.kwd = []) {N ps : List Str} {k : Nat} {sp : Sp} (S : FnScope N ps d.scope) (bd : BdOk d ps)
    (len : ∀ vs H Q E, sp vs H Q E → vs.length = ps.length)
    (body : ∀ (cdv : Value) (A : Around) (outer : List Env) (s : Shared) (H : Hp) (vs : List V) (Q : VK) (E : XK), Room k (A.deeper (envOfC d.qual d.scope s.heap.objs.size (He.fAd K d.at_) cdv)) → sp vs H Q E →
      ∃ t, PSs (cxOf (L2.CX P w) P w K mg base N d.qual d.scope (He.fAd K d.at_) cdv A outer s H E) d.body t ∧ t { nx := fun _ H' => Q .non H', rt := Q } (start N vs) H) : Clb P w K mg base (L2.CX P w) (k + 1) x sp := by
  obtain ⟨fd, F⟩ := T.funD m h1 h2
  have e : He.fAd K d.at_ = He.ga K x := by rw [hx] <;> rfl
  refine ⟨He.ga K x, fd, ps, ?_, gl, by rw [← e]; exact F.kp, F.bindsN bd⟩
  rw [← e]
  exact F.ok S len body
theorem Txt.clbG (T : Txt K mg w) {d : He.DefD} (m : d ∈ fn) {x : Str} (hx : d.at_ = (x, none)) (gl : mg x = some (.ref (He.ga K x))) (h1 : d.dfl = []) (h2 : d.kwd = []) {N ps : List Str} {k : Nat} {sp : Sp} (S : FnScope N ps d.scope) (bd : BdOk d ps)
    (len : ∀ vs H Q E, sp vs H Q E → vs.length = ps.length)
    (body : ∀ (cdv : Value) (A : Around) (outer : List Env) (s : Shared) (H : Hp) (vs : List V) (Q : VK) (E : XK), A.guards = some [] → Room k (A.deeper (envOfC d.qual d.scope s.heap.objs.size (He.fAd K d.at_) cdv)) → sp vs H Q E →
      ∃ t, PSs (cxOf CX0 P w K mg base N d.qual d.scope (He.fAd K d.at_) cdv A outer s H E).nox d.body t ∧ t { nx := fun _ H' => Q .non H', rt := Q } (start N vs) H) : ClbG P w K mg base CX0 (k + 1) x sp := by
  obtain ⟨fd, F⟩ := T.funD m h1 h2
  have e : He.fAd K d.at_ = He.ga K x := by rw [hx] <;> rfl
  refine ⟨He.ga K x, fd, ps, ?_, gl, by rw [← e]; exact F.kp, F.bindsN bd⟩
  rw [← e]
  refine FunD.okG F S len fun cdv A outer s H vs Q E gd hr h => ?_
  obtain ⟨t, h, q⟩ := body cdv A outer s H vs Q E gd hr h
  exact ⟨t, h.nox, q⟩
theorem Txt.clbGT (T : Txt K mg w) {d : He.DefD} (m : d ∈ fn) {x : Str} (hx : d.at_ = (x, none)) (gl : mg x = some (.ref (He.ga K x))) (h1 : d.dfl = []) (h2 : d.kwd = []) {N ps : List Str} {k : Nat} {sp : Sp} (S : FnScope N ps d.scope) (bd : BdOk d ps)
    (plain : ∀ y ∈ d.scope.names, y.2 ≠ .cell) (some1 : 1 ≤ ps.length) (len : ∀ vs H Q E, sp vs H Q E → vs.length = ps.length)
    (body : ∀ (cdv : Value) (A : Around) (outer : List Env) (s : Shared) (H : Hp) (vs : List V) (Q : VK) (E : XK), A.guards = some [] → Room k (A.deeper (envOfC d.qual d.scope s.heap.objs.size (He.fAd K d.at_) cdv)) → sp vs H Q E →
      ∃ t, PSsT (cxOf CX0 P w K mg base N d.qual d.scope (He.fAd K d.at_) cdv A outer s H E) d.body t ∧ t { nx := fun _ H' => Q .non H', rt := Q } (start N vs) H) : ClbG P w K mg base CX0 (k + 1) x sp := by
  obtain ⟨fd, F⟩ := T.funD m h1 h2
  have e : He.fAd K d.at_ = He.ga K x := by rw [hx] <;> rfl
  refine ⟨He.ga K x, fd, ps, ?_, gl, by rw [← e]; exact F.kp, F.bindsN bd⟩
  rw [← e]
  exact FunD.okGT F S plain some1 len body
/-- a method of the Reader -/
theorem Txt.mthX (T : Txt K mg w) {d : He.DefD} (md : d ∈ fn) {m : Str} (hx : d.at_ = (("Reader" : Str), some m)) (me : Meth K (He.ga K "Reader") m (He.ma K (He.ga K "Reader") m)) (h1 : d.dfl = []) (h2 : d.kwd = []) {N ps : List Str} {k : Nat} {sp : Sp} (S : FnScope N ps d.scope) (bd : BdOk d ps)
    (cl : Cls K (He.ga K "Reader")) (len : ∀ vs H Q E, sp vs H Q E → vs.length = ps.length)
    (body : ∀ (cdv : Value) (A : Around) (outer : List Env) (s : Shared) (H : Hp) (vs : List V) (Q : VK) (E : XK), Room k (A.deeper (envOfC d.qual d.scope s.heap.objs.size (He.fAd K d.at_) cdv)) → sp vs H Q E →
      ∃ t, PSs (cxOf (L2.CX P w) P w K mg base N d.qual d.scope (He.fAd K d.at_) cdv A outer s H E) d.body t ∧ t { nx := fun _ H' => Q .non H', rt := Q } (start N vs) H) : Mth P w K mg base (L2.CX P w) (k + 1) m sp := by
  obtain ⟨fd, F⟩ := T.funD md h1 h2
  have e : He.fAd K d.at_ = He.ma K (He.ga K "Reader") m := by rw [hx] <;> rfl
  refine ⟨_, fd, ps, cl, me, ?_, F.bindsN bd⟩
  rw [← e]
  exact F.ok S len body
theorem Txt.mth (T : Txt K mg w) {d : He.DefD} (md : d ∈ fn) {m : Str} (hx : d.at_ = (("Reader" : Str), some m)) (me : Meth K (He.ga K "Reader") m (He.ma K (He.ga K "Reader") m)) (h1 : d.dfl = []) (h2 : d.kwd = []) {N ps : List Str} {k : Nat} {sp : Sp} (S : FnScope N ps d.scope) (bd : BdOk d ps)
    (cl : Cls K (He.ga K "Reader")) (len : ∀ vs H Q E, sp vs H Q E → vs.length = ps.length)
    (body : ∀ (cdv : Value) (A : Around) (outer : List Env) (s : Shared) (H : Hp) (vs : List V) (Q : VK) (E : XK), Room k (A.deeper (envOfC d.qual d.scope s.heap.objs.size (He.fAd K d.at_) cdv)) → sp vs H Q E →
      ∃ t, PSs (cxOf CX0 P w K mg base N d.qual d.scope (He.fAd K d.at_) cdv A outer s H E).nox d.body t ∧ t { nx := fun _ H' => Q .non H', rt := Q } (start N vs) H) : Mth P w K mg base CX0 (k + 1) m sp := by
  obtain ⟨fd, F⟩ := T.funD md h1 h2
  have e : He.fAd K d.at_ = He.ma K (He.ga K "Reader") m := by rw [hx] <;> rfl
  refine ⟨_, fd, ps, cl, me, ?_, F.bindsN bd⟩
  rw [← e]
  refine F.ok S len fun cdv A outer s H vs Q E hr h => ?_
  obtain ⟨t, h, q⟩ := body cdv A outer s H vs Q E hr h
  exact ⟨t, h.nox, q⟩
end
section
variable {w : World} {K : PySem.W.Frag} {mg : Str → Option Value}
theorem m_as_tuples : d_as_tuples ∈ fn := in_of 0 rfl
theorem m_run_length : d_run_length ∈ fn := in_of 1 rfl
theorem m_letters_sort : d_letters_sort ∈ fn := in_of 2 rfl
theorem m_figures_sort : d_figures_sort ∈ fn := in_of 3 rfl
theorem m_sign_at : d_sign_at ∈ fn := in_of 4 rfl
theorem m_token_at : d_token_at ∈ fn := in_of 5 rfl
theorem m_tokens_of : d_tokens_of ∈ fn := in_of 6 rfl
theorem m_tightness : d_tightness ∈ fn := in_of 7 rfl
theorem m_operand_text : d_operand_text ∈ fn := in_of 8 rfl
theorem m_args_text : d_args_text ∈ fn := in_of 9 rfl
theorem m_op_text : d_op_text ∈ fn := in_of 10 rfl
theorem m_expr_text : d_expr_text ∈ fn := in_of 11 rfl
theorem m_head_text : d_head_text ∈ fn := in_of 12 rfl
theorem m_inner_lines : d_inner_lines ∈ fn := in_of 13 rfl
theorem m_block_lines : d_block_lines ∈ fn := in_of 14 rfl
theorem m_program_lines : d_program_lines ∈ fn := in_of 15 rfl
theorem m_read : d_read ∈ fn := in_of 16 rfl
theorem m_write : d_write ∈ fn := in_of 17 rfl
theorem m_q_cells : d_q_cells ∈ fn := in_of 18 rfl
theorem m_q_box : d_q_box ∈ fn := in_of 19 rfl
theorem m_q_take : d_q_take ∈ fn := in_of 20 rfl
theorem m_q_of : d_q_of ∈ fn := in_of 21 rfl
theorem m_q_same : d_q_same ∈ fn := in_of 22 rfl
theorem m_q_name : d_q_name ∈ fn := in_of 23 rfl
theorem m_q_names : d_q_names ∈ fn := in_of 24 rfl
theorem m_q_tree_leaf : d_q_tree_leaf ∈ fn := in_of 25 rfl
theorem m_q_tree : d_q_tree ∈ fn := in_of 26 rfl
theorem m_q_tree_part : d_q_tree_part ∈ fn := in_of 27 rfl
theorem m_q_tree_block : d_q_tree_block ∈ fn := in_of 28 rfl
theorem m_q_tree_program : d_q_tree_program ∈ fn := in_of 29 rfl
theorem m_q_tight : d_q_tight ∈ fn := in_of 30 rfl
theorem m_q_words : d_q_words ∈ fn := in_of 31 rfl
theorem m_q_bare_words : d_q_bare_words ∈ fn := in_of 32 rfl
theorem m_q_row_words : d_q_row_words ∈ fn := in_of 33 rfl
theorem m_q_head_words : d_q_head_words ∈ fn := in_of 34 rfl
theorem m_q_lines : d_q_lines ∈ fn := in_of 35 rfl
theorem m_q_all_lines : d_q_all_lines ∈ fn := in_of 36 rfl
theorem m_q_plain_words : d_q_plain_words ∈ fn := in_of 37 rfl
theorem m_q_spread : d_q_spread ∈ fn := in_of 38 rfl
theorem m_q_heard : d_q_heard ∈ fn := in_of 39 rfl
theorem m_q_partner : d_q_partner ∈ fn := in_of 40 rfl
theorem m_q_right : d_q_right ∈ fn := in_of 41 rfl
theorem m_law : d_law ∈ fn := in_of 42 rfl
theorem m_BadText_init : d_BadText_init ∈ fn := in_of 43 rfl
theorem m_Reader_init : d_Reader_init ∈ fn := in_of 44 rfl
theorem m_Reader_next_sort : d_Reader_next_sort ∈ fn := in_of 45 rfl
theorem m_Reader_fail : d_Reader_fail ∈ fn := in_of 46 rfl
theorem m_Reader_take : d_Reader_take ∈ fn := in_of 47 rfl
theorem m_Reader_passed : d_Reader_passed ∈ fn := in_of 48 rfl
theorem m_Reader_part : d_Reader_part ∈ fn := in_of 49 rfl
theorem m_Reader_several : d_Reader_several ∈ fn := in_of 50 rfl
theorem m_Reader_functions : d_Reader_functions ∈ fn := in_of 51 rfl
theorem m_Reader_statements : d_Reader_statements ∈ fn := in_of 52 rfl
theorem m_Reader_labelled : d_Reader_labelled ∈ fn := in_of 53 rfl
theorem m_Reader_statement : d_Reader_statement ∈ fn := in_of 54 rfl
theorem m_Reader_compound : d_Reader_compound ∈ fn := in_of 55 rfl
theorem m_Reader_named : d_Reader_named ∈ fn := in_of 56 rfl
theorem m_Reader_expr : d_Reader_expr ∈ fn := in_of 57 rfl
theorem m_Reader_level : d_Reader_level ∈ fn := in_of 58 rfl
theorem m_Reader_signed : d_Reader_signed ∈ fn := in_of 59 rfl
theorem m_Reader_item : d_Reader_item ∈ fn := in_of 60 rfl
theorem m_Reader_field : d_Reader_field ∈ fn := in_of 61 rfl
theorem Txt.g_as_tuples (T : Txt K mg w) : mg "as_tuples" = some (.ref (He.ga K "as_tuples")) := T.glo _ (in_of 0 rfl)
theorem Txt.g_run_length (T : Txt K mg w) : mg "run_length" = some (.ref (He.ga K "run_length")) := T.glo _ (in_of 1 rfl)
theorem Txt.g_letters_sort (T : Txt K mg w) : mg "letters_sort" = some (.ref (He.ga K "letters_sort")) := T.glo _ (in_of 2 rfl)
theorem Txt.g_figures_sort (T : Txt K mg w) : mg "figures_sort" = some (.ref (He.ga K "figures_sort")) := T.glo _ (in_of 3 rfl)
theorem Txt.g_sign_at (T : Txt K mg w) : mg "sign_at" = some (.ref (He.ga K "sign_at")) := T.glo _ (in_of 4 rfl)
theorem Txt.g_token_at (T : Txt K mg w) : mg "token_at" = some (.ref (He.ga K "token_at")) := T.glo _ (in_of 5 rfl)
theorem Txt.g_tokens_of (T : Txt K mg w) : mg "tokens_of" = some (.ref (He.ga K "tokens_of")) := T.glo _ (in_of 6 rfl)
theorem Txt.g_tightness (T : Txt K mg w) : mg "tightness" = some (.ref (He.ga K "tightness")) := T.glo _ (in_of 7 rfl)
theorem Txt.g_operand_text (T : Txt K mg w) : mg "operand_text" = some (.ref (He.ga K "operand_text")) := T.glo _ (in_of 8 rfl)
theorem Txt.g_args_text (T : Txt K mg w) : mg "args_text" = some (.ref (He.ga K "args_text")) := T.glo _ (in_of 9 rfl)
theorem Txt.g_op_text (T : Txt K mg w) : mg "op_text" = some (.ref (He.ga K "op_text")) := T.glo _ (in_of 10 rfl)
theorem Txt.g_expr_text (T : Txt K mg w) : mg "expr_text" = some (.ref (He.ga K "expr_text")) := T.glo _ (in_of 11 rfl)
theorem Txt.g_head_text (T : Txt K mg w) : mg "head_text" = some (.ref (He.ga K "head_text")) := T.glo _ (in_of 12 rfl)
theorem Txt.g_inner_lines (T : Txt K mg w) : mg "inner_lines" = some (.ref (He.ga K "inner_lines")) := T.glo _ (in_of 13 rfl)
theorem Txt.g_block_lines (T : Txt K mg w) : mg "block_lines" = some (.ref (He.ga K "block_lines")) := T.glo _ (in_of 14 rfl)
theorem Txt.g_program_lines (T : Txt K mg w) : mg "program_lines" = some (.ref (He.ga K "program_lines")) := T.glo _ (in_of 15 rfl)
theorem Txt.g_read (T : Txt K mg w) : mg "read" = some (.ref (He.ga K "read")) := T.glo _ (in_of 16 rfl)
theorem Txt.g_write (T : Txt K mg w) : mg "write" = some (.ref (He.ga K "write")) := T.glo _ (in_of 17 rfl)
theorem Txt.g_q_cells (T : Txt K mg w) : mg "_law_cells" = some (.ref (He.ga K "_law_cells")) := T.glo _ (in_of 18 rfl)
theorem Txt.g_q_box (T : Txt K mg w) : mg "_law_box" = some (.ref (He.ga K "_law_box")) := T.glo _ (in_of 19 rfl)
theorem Txt.g_q_take (T : Txt K mg w) : mg "_law_take" = some (.ref (He.ga K "_law_take")) := T.glo _ (in_of 20 rfl)
theorem Txt.g_q_of (T : Txt K mg w) : mg "_law_of" = some (.ref (He.ga K "_law_of")) := T.glo _ (in_of 21 rfl)
theorem Txt.g_q_same (T : Txt K mg w) : mg "_law_same" = some (.ref (He.ga K "_law_same")) := T.glo _ (in_of 22 rfl)
theorem Txt.g_q_name (T : Txt K mg w) : mg "_law_name" = some (.ref (He.ga K "_law_name")) := T.glo _ (in_of 23 rfl)
theorem Txt.g_q_names (T : Txt K mg w) : mg "_law_names" = some (.ref (He.ga K "_law_names")) := T.glo _ (in_of 24 rfl)
theorem Txt.g_q_tree_leaf (T : Txt K mg w) : mg "_law_tree_leaf" = some (.ref (He.ga K "_law_tree_leaf")) := T.glo _ (in_of 25 rfl)
theorem Txt.g_q_tree (T : Txt K mg w) : mg "_law_tree" = some (.ref (He.ga K "_law_tree")) := T.glo _ (in_of 26 rfl)
theorem Txt.g_q_tree_part (T : Txt K mg w) : mg "_law_tree_part" = some (.ref (He.ga K "_law_tree_part")) := T.glo _ (in_of 27 rfl)
theorem Txt.g_q_tree_block (T : Txt K mg w) : mg "_law_tree_block" = some (.ref (He.ga K "_law_tree_block")) := T.glo _ (in_of 28 rfl)
theorem Txt.g_q_tree_program (T : Txt K mg w) : mg "_law_tree_program" = some (.ref (He.ga K "_law_tree_program")) := T.glo _ (in_of 29 rfl)
theorem Txt.g_q_tight (T : Txt K mg w) : mg "_law_tight" = some (.ref (He.ga K "_law_tight")) := T.glo _ (in_of 30 rfl)
theorem Txt.g_q_words (T : Txt K mg w) : mg "_law_words" = some (.ref (He.ga K "_law_words")) := T.glo _ (in_of 31 rfl)
theorem Txt.g_q_bare_words (T : Txt K mg w) : mg "_law_bare_words" = some (.ref (He.ga K "_law_bare_words")) := T.glo _ (in_of 32 rfl)
theorem Txt.g_q_row_words (T : Txt K mg w) : mg "_law_row_words" = some (.ref (He.ga K "_law_row_words")) := T.glo _ (in_of 33 rfl)
theorem Txt.g_q_head_words (T : Txt K mg w) : mg "_law_head_words" = some (.ref (He.ga K "_law_head_words")) := T.glo _ (in_of 34 rfl)
theorem Txt.g_q_lines (T : Txt K mg w) : mg "_law_lines" = some (.ref (He.ga K "_law_lines")) := T.glo _ (in_of 35 rfl)
theorem Txt.g_q_all_lines (T : Txt K mg w) : mg "_law_all_lines" = some (.ref (He.ga K "_law_all_lines")) := T.glo _ (in_of 36 rfl)
theorem Txt.g_q_plain_words (T : Txt K mg w) : mg "_law_plain_words" = some (.ref (He.ga K "_law_plain_words")) := T.glo _ (in_of 37 rfl)
theorem Txt.g_q_spread (T : Txt K mg w) : mg "_law_spread" = some (.ref (He.ga K "_law_spread")) := T.glo _ (in_of 38 rfl)
theorem Txt.g_q_heard (T : Txt K mg w) : mg "_law_heard" = some (.ref (He.ga K "_law_heard")) := T.glo _ (in_of 39 rfl)
theorem Txt.g_q_partner (T : Txt K mg w) : mg "_law_partner" = some (.ref (He.ga K "_law_partner")) := T.glo _ (in_of 40 rfl)
theorem Txt.g_q_right (T : Txt K mg w) : mg "_law_right" = some (.ref (He.ga K "_law_right")) := T.glo _ (in_of 41 rfl)
theorem Txt.g_law (T : Txt K mg w) : mg "law" = some (.ref (He.ga K "law")) := T.glo _ (in_of 42 rfl)
theorem Txt.g_BadText (T : Txt K mg w) : mg "BadText" = some (.ref (He.ga K "BadText")) := T.glo _ (in_of 43 rfl)
theorem Txt.g_Unsound (T : Txt K mg w) : mg "Unsound" = some (.ref (He.ga K "Unsound")) := T.glo _ (in_of 44 rfl)
theorem Txt.g_BadLine (T : Txt K mg w) : mg "BadLine" = some (.ref (He.ga K "BadLine")) := T.glo _ (in_of 45 rfl)
theorem Txt.g_Reader (T : Txt K mg w) : mg "Reader" = some (.ref (He.ga K "Reader")) := T.glo _ (in_of 46 rfl)
theorem Txt.g_SIGNS (T : Txt K mg w) : mg "SIGNS" = some (.ref (He.ga K "SIGNS")) := T.glo _ (in_of 47 rfl)
theorem Txt.g_KEYWORDS (T : Txt K mg w) : mg "KEYWORDS" = some (.ref (He.ga K "KEYWORDS")) := T.glo _ (in_of 48 rfl)
theorem Txt.g_TIGHTNESS (T : Txt K mg w) : mg "TIGHTNESS" = some (.ref (He.ga K "TIGHTNESS")) := T.glo _ (in_of 49 rfl)
theorem Txt.g_LEVELS (T : Txt K mg w) : mg "LEVELS" = some (.ref (He.ga K "LEVELS")) := T.glo _ (in_of 50 rfl)
theorem Txt.g_BEGINNINGS (T : Txt K mg w) : mg "BEGINNINGS" = some (.ref (He.ga K "BEGINNINGS")) := T.glo _ (in_of 51 rfl)
theorem Txt.f_isinstance (T : Txt K mg w) : mg "isinstance" = none := T.free _ (in_of 52 rfl)
theorem Txt.f_list (T : Txt K mg w) : mg "list" = none := T.free _ (in_of 53 rfl)
theorem Txt.f_tuple (T : Txt K mg w) : mg "tuple" = none := T.free _ (in_of 54 rfl)
theorem Txt.f_len (T : Txt K mg w) : mg "len" = none := T.free _ (in_of 55 rfl)
theorem Txt.f_str (T : Txt K mg w) : mg "str" = none := T.free _ (in_of 56 rfl)
theorem Txt.f_int (T : Txt K mg w) : mg "int" = none := T.free _ (in_of 57 rfl)
theorem Txt.f_range (T : Txt K mg w) : mg "range" = none := T.free _ (in_of 58 rfl)
theorem Txt.f_enumerate (T : Txt K mg w) : mg "enumerate" = none := T.free _ (in_of 59 rfl)
theorem Txt.f_abs (T : Txt K mg w) : mg "abs" = none := T.free _ (in_of 60 rfl)
theorem Txt.f_repr (T : Txt K mg w) : mg "repr" = none := T.free _ (in_of 61 rfl)
theorem Txt.f_min (T : Txt K mg w) : mg "min" = none := T.free _ (in_of 62 rfl)
theorem Txt.f_all (T : Txt K mg w) : mg "all" = none := T.free _ (in_of 63 rfl)
theorem Txt.f_ValueError (T : Txt K mg w) : mg "ValueError" = none := T.free _ (in_of 64 rfl)
theorem Txt.v_LETTERS (T : Txt K mg w) : ∃ u, mg "LETTERS" = some u ∧ RelV (.str "abcdefghijklmnopqrstuvwxyz") u := by
  obtain ⟨t, e⟩ := T.str "LETTERS" "abcdefghijklmnopqrstuvwxyz" (in_of 65 rfl)
  exact ⟨_, e, ⟨t, rfl⟩⟩
theorem Txt.v_FIGURES (T : Txt K mg w) : ∃ u, mg "FIGURES" = some u ∧ RelV (.str "0123456789") u := by
  obtain ⟨t, e⟩ := T.str "FIGURES" "0123456789" (in_of 66 rfl)
  exact ⟨_, e, ⟨t, rfl⟩⟩
theorem Txt.v_GAPS (T : Txt K mg w) : ∃ u, mg "GAPS" = some u ∧ RelV (.str " \n") u := by
  obtain ⟨t, e⟩ := T.str "GAPS" " \n" (in_of 67 rfl)
  exact ⟨_, e, ⟨t, rfl⟩⟩
theorem Txt.v_NAME (T : Txt K mg w) : ∃ u, mg "NAME" = some u ∧ RelV (.str "name") u := by
  obtain ⟨t, e⟩ := T.str "NAME" "name" (in_of 68 rfl)
  exact ⟨_, e, ⟨t, rfl⟩⟩
theorem Txt.v_INTEGER (T : Txt K mg w) : ∃ u, mg "INTEGER" = some u ∧ RelV (.str "integer") u := by
  obtain ⟨t, e⟩ := T.str "INTEGER" "integer" (in_of 69 rfl)
  exact ⟨_, e, ⟨t, rfl⟩⟩
theorem Txt.v_BAD (T : Txt K mg w) : ∃ u, mg "BAD" = some u ∧ RelV (.str "bad") u := by
  obtain ⟨t, e⟩ := T.str "BAD" "bad" (in_of 70 rfl)
  exact ⟨_, e, ⟨t, rfl⟩⟩
theorem Txt.v_OVER (T : Txt K mg w) : ∃ u, mg "OVER" = some u ∧ RelV (.str "over") u := by
  obtain ⟨t, e⟩ := T.str "OVER" "over" (in_of 71 rfl)
  exact ⟨_, e, ⟨t, rfl⟩⟩
theorem Txt.v_INDENT (T : Txt K mg w) : ∃ u, mg "INDENT" = some u ∧ RelV (.str "  ") u := by
  obtain ⟨t, e⟩ := T.str "INDENT" "  " (in_of 72 rfl)
  exact ⟨_, e, ⟨t, rfl⟩⟩
theorem Txt.v_EXPR (T : Txt K mg w) : ∃ u, mg "EXPR" = some u ∧ RelV (.str "expr") u := by
  obtain ⟨t, e⟩ := T.str "EXPR" "expr" (in_of 73 rfl)
  exact ⟨_, e, ⟨t, rfl⟩⟩
theorem Txt.v_FIELD (T : Txt K mg w) : ∃ u, mg "FIELD" = some u ∧ RelV (.str "field") u := by
  obtain ⟨t, e⟩ := T.str "FIELD" "field" (in_of 74 rfl)
  exact ⟨_, e, ⟨t, rfl⟩⟩
theorem Txt.v_LIMIT (T : Txt K mg w) : ∃ u, mg "LIMIT" = some u ∧ RelV (.int 1000000000000) u := by
  obtain ⟨t, e⟩ := T.int "LIMIT" 1000000000000 (in_of 75 rfl)
  exact ⟨_, e, ⟨t, rfl⟩⟩
theorem Txt.v_MOST_LETTERS (T : Txt K mg w) : ∃ u, mg "MOST_LETTERS" = some u ∧ RelV (.int 12) u := by
  obtain ⟨t, e⟩ := T.int "MOST_LETTERS" 12 (in_of 76 rfl)
  exact ⟨_, e, ⟨t, rfl⟩⟩
theorem Txt.v_TESTS_writing (T : Txt K mg w) : ∃ u, mg "TESTS_writing" = some u ∧ RelV (.int 2) u := by
  obtain ⟨t, e⟩ := T.int "TESTS_writing" 2 (in_of 77 rfl)
  exact ⟨_, e, ⟨t, rfl⟩⟩
theorem Txt.v_SIGNED (T : Txt K mg w) : ∃ u, mg "SIGNED" = some u ∧ RelV (.int 5) u := by
  obtain ⟨t, e⟩ := T.int "SIGNED" 5 (in_of 78 rfl)
  exact ⟨_, e, ⟨t, rfl⟩⟩
theorem Txt.v_ITEM (T : Txt K mg w) : ∃ u, mg "ITEM" = some u ∧ RelV (.int 6) u := by
  obtain ⟨t, e⟩ := T.int "ITEM" 6 (in_of 79 rfl)
  exact ⟨_, e, ⟨t, rfl⟩⟩
theorem Txt.v_TESTS_text (T : Txt K mg w) : ∃ u, mg "TESTS_text" = some u ∧ RelV (.int 2) u := by
  obtain ⟨t, e⟩ := T.int "TESTS_text" 2 (in_of 80 rfl)
  exact ⟨_, e, ⟨t, rfl⟩⟩
theorem Txt.v_SIGNS (T : Txt K mg w) : ∃ u, mg "SIGNS" = some u ∧ RelV (.ref (He.ga K "SIGNS")) u := ⟨_, T.g_SIGNS, rfl⟩
theorem Txt.v_KEYWORDS (T : Txt K mg w) : ∃ u, mg "KEYWORDS" = some u ∧ RelV (.ref (He.ga K "KEYWORDS")) u := ⟨_, T.g_KEYWORDS, rfl⟩
theorem Txt.v_TIGHTNESS (T : Txt K mg w) : ∃ u, mg "TIGHTNESS" = some u ∧ RelV (.ref (He.ga K "TIGHTNESS")) u := ⟨_, T.g_TIGHTNESS, rfl⟩
theorem Txt.v_LEVELS (T : Txt K mg w) : ∃ u, mg "LEVELS" = some u ∧ RelV (.ref (He.ga K "LEVELS")) u := ⟨_, T.g_LEVELS, rfl⟩
theorem Txt.v_BEGINNINGS (T : Txt K mg w) : ∃ u, mg "BEGINNINGS" = some u ∧ RelV (.ref (He.ga K "BEGINNINGS")) u := ⟨_, T.g_BEGINNINGS, rfl⟩
theorem Txt.v_BadText (T : Txt K mg w) : ∃ u, mg "BadText" = some u ∧ RelV (.ref (He.ga K "BadText")) u := ⟨_, T.g_BadText, rfl⟩
theorem Txt.v_BadLine (T : Txt K mg w) : ∃ u, mg "BadLine" = some u ∧ RelV (.ref (He.ga K "BadLine")) u := ⟨_, T.g_BadLine, rfl⟩
theorem Txt.v_Unsound (T : Txt K mg w) : ∃ u, mg "Unsound" = some u ∧ RelV (.ref (He.ga K "Unsound")) u := ⟨_, T.g_Unsound, rfl⟩
theorem Txt.cR (T : Txt K mg w) : Cls K (He.ga K "Reader") := He.cls_ok (T.say.facts (in_of 81 rfl))
theorem Txt.mkR (T : Txt K mg w) : Mk K (He.ga K "Reader") (He.ma K (He.ga K "Reader") "__init__") := He.mkr_ok (T.say.facts (in_of 82 rfl))
theorem Txt.na_own_tokens (T : Txt K mg w) : NoAttr K (He.ga K "Reader") "own_tokens" := He.noat_ok (T.say.facts (in_of 83 rfl))
theorem Txt.na_own_place (T : Txt K mg w) : NoAttr K (He.ga K "Reader") "own_place" := He.noat_ok (T.say.facts (in_of 84 rfl))
theorem Txt.me_next_sort (T : Txt K mg w) : Meth K (He.ga K "Reader") "next_sort" (He.ma K (He.ga K "Reader") "next_sort") := He.meth_ok (T.say.facts (in_of 85 rfl))
theorem Txt.me_fail (T : Txt K mg w) : Meth K (He.ga K "Reader") "fail" (He.ma K (He.ga K "Reader") "fail") := He.meth_ok (T.say.facts (in_of 86 rfl))
theorem Txt.me_take (T : Txt K mg w) : Meth K (He.ga K "Reader") "take" (He.ma K (He.ga K "Reader") "take") := He.meth_ok (T.say.facts (in_of 87 rfl))
theorem Txt.me_passed (T : Txt K mg w) : Meth K (He.ga K "Reader") "passed" (He.ma K (He.ga K "Reader") "passed") := He.meth_ok (T.say.facts (in_of 88 rfl))
theorem Txt.me_part (T : Txt K mg w) : Meth K (He.ga K "Reader") "part" (He.ma K (He.ga K "Reader") "part") := He.meth_ok (T.say.facts (in_of 89 rfl))
theorem Txt.me_several (T : Txt K mg w) : Meth K (He.ga K "Reader") "several" (He.ma K (He.ga K "Reader") "several") := He.meth_ok (T.say.facts (in_of 90 rfl))
theorem Txt.me_functions (T : Txt K mg w) : Meth K (He.ga K "Reader") "functions" (He.ma K (He.ga K "Reader") "functions") := He.meth_ok (T.say.facts (in_of 91 rfl))
theorem Txt.me_statements (T : Txt K mg w) : Meth K (He.ga K "Reader") "statements" (He.ma K (He.ga K "Reader") "statements") := He.meth_ok (T.say.facts (in_of 92 rfl))
theorem Txt.me_labelled (T : Txt K mg w) : Meth K (He.ga K "Reader") "labelled" (He.ma K (He.ga K "Reader") "labelled") := He.meth_ok (T.say.facts (in_of 93 rfl))
theorem Txt.me_statement (T : Txt K mg w) : Meth K (He.ga K "Reader") "statement" (He.ma K (He.ga K "Reader") "statement") := He.meth_ok (T.say.facts (in_of 94 rfl))
theorem Txt.me_compound (T : Txt K mg w) : Meth K (He.ga K "Reader") "compound" (He.ma K (He.ga K "Reader") "compound") := He.meth_ok (T.say.facts (in_of 95 rfl))
theorem Txt.me_named (T : Txt K mg w) : Meth K (He.ga K "Reader") "named" (He.ma K (He.ga K "Reader") "named") := He.meth_ok (T.say.facts (in_of 96 rfl))
theorem Txt.me_expr (T : Txt K mg w) : Meth K (He.ga K "Reader") "expr" (He.ma K (He.ga K "Reader") "expr") := He.meth_ok (T.say.facts (in_of 97 rfl))
theorem Txt.me_level (T : Txt K mg w) : Meth K (He.ga K "Reader") "level" (He.ma K (He.ga K "Reader") "level") := He.meth_ok (T.say.facts (in_of 98 rfl))
theorem Txt.me_signed (T : Txt K mg w) : Meth K (He.ga K "Reader") "signed" (He.ma K (He.ga K "Reader") "signed") := He.meth_ok (T.say.facts (in_of 99 rfl))
theorem Txt.me_item (T : Txt K mg w) : Meth K (He.ga K "Reader") "item" (He.ma K (He.ga K "Reader") "item") := He.meth_ok (T.say.facts (in_of 100 rfl))
theorem Txt.me_field (T : Txt K mg w) : Meth K (He.ga K "Reader") "field" (He.ma K (He.ga K "Reader") "field") := He.meth_ok (T.say.facts (in_of 101 rfl))
theorem Txt.hit (T : Txt K mg w) : PySem.W.exmAny K (.ref (He.ga K "BadText")) [.ref (He.ga K "BadLine"), .ref (He.ga K "BadText"), .ref (He.ga K "Unsound")] = some true := by
  have h1 := He.exm_ok (T.say.facts (in_of 103 rfl))
  have h2 := He.exm_ok (T.say.facts (in_of 102 rfl))
  have h3 := He.exm_ok (T.say.facts (in_of 104 rfl))
  unfold PySem.W.exmAny PySem.W.exmAny PySem.W.exmAny PySem.W.exmAny
  rw [h1, h2, h3] <;> rfl
theorem Txt.noAt (T : Txt K mg w) : PySem.W.findIn K (.ref (He.ga K "BadText")) "at" = some none := He.eqO_ok (T.say.facts (in_of 106 rfl))
theorem levels_ok {K : PySem.W.Frag} : ∀ (ls : List (List Str)) (us : List Value), levelsB K ls us = true → ∃ as : List Addr, us = as.map Value.ref ∧ as.length = ls.length ∧ ∀ (i : Nat) (a : Addr) (l : List Str), as[i]? = some a → ls[i]? = some l → ∀ H : Hp, SqT K H a (l.map V.str)
  | [], [], _ => ⟨[], rfl, rfl, fun i a l h => by simp at h⟩
  | [], _ :: _, h => nomatch h
  | _ :: _, [], h => nomatch h
  | l :: ls, .ref a :: us, h => by
    obtain ⟨h1, h2⟩ := He.ba h
    obtain ⟨as, e1, e2, e3⟩ := levels_ok ls us h2
    refine ⟨a :: as, by rw [e1] <;> rfl, by rw [List.length_cons, List.length_cons, e2], fun i b m hb hm H => ?_⟩
    cases i with
    | zero =>
      cases hb
      cases hm
      cases q : K.lookup a with
      | none =>
        rw [q] at h1
        cases h1
      | some o =>
        obtain ⟨oc, od, dt, osl⟩ := o
        rw [q] at h1
        cases oc with
        | type c =>
          cases dt with
          | seq its n =>
            obtain ⟨z1, z2⟩ := He.ba h1
            obtain ⟨z3, z4⟩ := He.ba z2
            exact .inr ⟨_, its, n, q, congrArg Value.type (of_decide_eq_true z1), rfl, of_decide_eq_true z3, He.relAll_ok z4⟩
          | _ => cases h1
        | _ => cases h1
    | succ i => exact e3 i b m hb hm H
  | _ :: _, .none :: _, h => nomatch h
  | _ :: _, .ellipsis :: _, h => nomatch h
  | _ :: _, .notImplemented :: _, h => nomatch h
  | _ :: _, .bool _ :: _, h => nomatch h
  | _ :: _, .int _ _ :: _, h => nomatch h
  | _ :: _, .float _ _ :: _, h => nomatch h
  | _ :: _, .str _ _ :: _, h => nomatch h
  | _ :: _, .bytes _ _ :: _, h => nomatch h
  | _ :: _, .type _ :: _, h => nomatch h
  | _ :: _, .builtin _ :: _, h => nomatch h
theorem oex_ok {K : PySem.W.Frag} {C : Addr} (h : oexB K C = true) : ∃ nm q N bs bm sn sub ab col dd k0 k1 k2 k3 k5, K.lookup C = some (excClassObj nm q C N bs bm true sn sub ab col dd k0 k1 k2 k3 k5 "ValueError.__new__") ∧ PySem.HandSPX.refsVE bm = true := by
  unfold oexB at h
  split at h
  · rename_i dd cd sl ho
    split at h
    · rename_i C' bm k0 k1 k2 k3 n k5 hm hs
      simp only [Bool.and_eq_true, beq_iff_eq, Bool.not_eq_true'] at h
      obtain ⟨⟨rfl, rfl⟩, ⟨hdel, hdct⟩, hv⟩ := h
      obtain ⟨nm, bs, mro, ns, qn, hd, sn, sub, ab, col, del⟩ := cd
      dsimp only at hm hdel hdct
      subst hm hdel hdct
      have hsl : sl = #[k0, k1, k2, k3, some (.builtin "ValueError.__new__"), k5] := by
        obtain ⟨l⟩ := sl
        simp only at hs
        rw [hs]
      subst hsl
      exact ⟨nm, qn, ns, bs, bm, sn, sub, ab, col, dd, k0, k1, k2, k3, k5, ho, hv⟩
    · cases h
  · cases h
def signsL : List Str := ["==", "!=", "<=", "(", ")", ",", ":", ".", "=", "<", "+", "-", "*", "/"]
def kwsL : List Str := ["func", "end", "let", "if", "else", "while", "return", "send", "spawn", "try", "catch", "throw", "here", "new", "receive", "none", "and", "or", "not", "mod"]
def begsL : List Str := ["name", "let", "if", "while", "return", "throw", "send", "spawn", "try", "here"]
/-- all that the Bool tells -/
structure Mor (K : PySem.W.Frag) : Prop where
  lev : ∃ as : List Addr, (∀ H : Hp, SqT K H (He.ga K "LEVELS") (as.map V.ref)) ∧ as.length = 5 ∧ ∀ (i : Nat) (a : Addr) (l : List Str), as[i]? = some a → lvls[i]? = some l → ∀ H : Hp, SqT K H a (l.map V.str)
  signs : ∀ H : Hp, SqT K H (He.ga K "SIGNS") (signsL.map V.str)
  kws : ∀ H : Hp, SqT K H (He.ga K "KEYWORDS") (kwsL.map V.str)
  begs : ∀ H : Hp, SqT K H (He.ga K "BEGINNINGS") (begsL.map V.str)
  tig : He.valsB K (He.ga K "TIGHTNESS") [("or", .int 0), ("and", .int 1), ("==", .int 2), ("!=", .int 2), ("<", .int 2), ("<=", .int 2), ("+", .int 3), ("-", .int 3), ("*", .int 4), ("/", .int 4), ("mod", .int 4)] = true
  ox : OexC K (He.ga K "BadText")
  kep : KepC K (He.ga K "BadText")
  ini : PySem.W.findIn K (bt K) "__init__" = some (some (.ref (He.ma K (He.ga K "BadText") "__init__")))
  inf : PySem.W.typeIn K (.ref (He.ma K (He.ga K "BadText") "__init__")) = some (.type "function")
  ve : PySem.W.findCls K (.type "ValueError") (.type "type") "__init__" = some (.val (.builtin "ValueError.__init__"))
  is1 : PySem.W.kitOne K (bt K) (bt K) = some true
  is2 : PySem.W.kitOne K (bt K) (.type "ValueError") = some true
  is3 : PySem.W.kitAny K (bt K) [.ref (He.ga K "BadLine"), .ref (He.ga K "Unsound")] = some false
theorem clsIn_some {K : PySem.W.Frag} {C : Addr} {o : Obj} {cd : ClassData} (h : K.lookup C = some o) (d : o.data = .cls cd) : (PySem.W.clsIn K C).isSome = true := by
  obtain ⟨oc, od, dt, sl⟩ := o
  dsimp only at d
  subst d
  unfold PySem.W.clsIn
  rw [h]
  first
    | rfl
    | (cases oc <;> rfl)
theorem Txt.mor (T : Txt K mg w) : Mor K := by
  have h := T.more
  unfold ex at h
  obtain ⟨a1, h⟩ := He.ba h
  obtain ⟨a2, h⟩ := He.ba h
  obtain ⟨a3, h⟩ := He.ba h
  obtain ⟨a4, h⟩ := He.ba h
  obtain ⟨a5, h⟩ := He.ba h
  obtain ⟨a6, h⟩ := He.ba h
  obtain ⟨a7, h⟩ := He.ba h
  obtain ⟨a8, h⟩ := He.ba h
  obtain ⟨a9, h⟩ := He.ba h
  obtain ⟨a10, h⟩ := He.ba h
  obtain ⟨a11, h⟩ := He.ba h
  obtain ⟨a12, h⟩ := He.ba h
  obtain ⟨a13, h⟩ := He.ba h
  obtain ⟨a14, h⟩ := He.ba h
  obtain ⟨a15, h⟩ := He.ba h
  obtain ⟨a16, h⟩ := He.ba h
  obtain ⟨a17, h⟩ := He.ba h
  obtain ⟨a18, a19⟩ := He.ba h
  have oc := oex_ok a6
  have xf := xfB_ok a7
  refine ⟨?_, He.tupB_ok a2, He.tupB_ok a3, He.tupB_ok a4, a5, ⟨oc, of_decide_eq_true a8, xf.exC, of_decide_eq_true a9, He.keep_ok (T.say.facts (in_of 105 rfl))⟩, ⟨?_, xf, of_decide_eq_true a13, of_decide_eq_true a14, of_decide_eq_true a15, of_decide_eq_true a16⟩,
    of_decide_eq_true a10, of_decide_eq_true a11, ?_, of_decide_eq_true a17, of_decide_eq_true a18, of_decide_eq_true a19⟩
  · cases q : K.lookup (He.ga K "LEVELS") with
    | none =>
      rw [q] at a1
      cases a1
    | some o =>
      obtain ⟨oc, od, dt, osl⟩ := o
      rw [q] at a1
      cases oc with
      | type c =>
        cases dt with
        | seq its n =>
          obtain ⟨z1, z2⟩ := He.ba a1
          obtain ⟨z3, z4⟩ := He.ba z2
          obtain ⟨as, e1, e2, e3⟩ := levels_ok lvls its.toList z4
          refine ⟨as, fun H => .inr ⟨_, its, n, q, congrArg Value.type (of_decide_eq_true z1), rfl, of_decide_eq_true z3, ?_⟩, e2, e3⟩
          rw [e1]
          clear e1 e2 e3
          induction as with
          | nil => exact .nil
          | cons a r ih => exact .cons rfl ih
        | _ => cases a1
      | _ => cases a1
  · obtain ⟨_, _, _, _, _, _, _, _, _, _, _, _, _, _, _, lk, _⟩ := oc
    exact clsIn_some lk rfl
  · cases q : PySem.W.findCls K (.type "ValueError") (.type "type") "__init__" with
    | none =>
      rw [q] at a12
      cases a12
    | some r =>
      rw [q] at a12
      cases r with
      | val v => rw [of_decide_eq_true a12]
      | _ => cases a12
theorem Txt.vinit (T : Txt K mg w) : PySem.W.findCls K (.type "ValueError") (.type "type") "__init__" = some (.val (.builtin "ValueError.__init__")) := T.mor.ve
end
end W4
set_option Elab.async false
set_option linter.all false
set_option maxRecDepth 100000
set_option maxHeartbeats 4000000
namespace W4
open PySem PySem.Spec PyProof.Rows L2
/-- all but what stands at p is as it was -/
def Sm (p : Addr) (H H' : Hp) : Prop := ∀ b o, H b = some o → b ≠ p → H' b = some o
theorem Sm.refl (p : Addr) (H : Hp) : Sm p H H := fun _ _ h _ => h
theorem Sm.trans {p : Addr} {H H1 H2 : Hp} (a : Sm p H H1) (b : Sm p H1 H2) : Sm p H H2 := fun c o h n => b c o (a c o h n) n
theorem Sm.of {p : Addr} {H H' : Hp} (a : Same H H') : Sm p H H' := fun c o h _ => a c o h
theorem Sm.new {p q : Addr} {o : HO} {H : Hp} (h : H q = none) : Sm p H (upd H q o) := fun b u e _ => by
  rw [upd_ne (ne_of_none e h)]
  exact e
theorem Sm.at {p : Addr} {o : HO} {H : Hp} : Sm p H (upd H p o) := fun b u e n => by
  rw [upd_ne n]
  exact e
theorem Sm.upd_at {p : Addr} {o : HO} {H H1 : Hp} (h : Sm p H H1) : Sm p H (upd H1 p o) := h.trans Sm.at
theorem Sm.upd_new {p q : Addr} {o : HO} {H H1 : Hp} (h : Sm p H H1) (n : H1 q = none) : Sm p H (upd H1 q o) := h.trans (Sm.new n)
theorem same_new {q : Addr} {o : HO} {H : Hp} (h : H q = none) : Same H (upd H q o) := fun b u e => by
  rw [upd_ne (ne_of_none e h)]
  exact e
/-- an own object p that was laid behind H may change -/
theorem Same.own {p : Addr} {o : HO} {H H1 : Hp} (h : Same H H1) (n : H p = none) : Same H (upd H1 p o) := fun b u e => by
  rw [upd_ne (ne_of_none e n)]
  exact h b u e
theorem Sm.own {p q : Addr} {o : HO} {H H1 : Hp} (h : Sm p H H1) (n : H q = none) : Sm p H (upd H1 q o) := fun b u e m => by
  rw [upd_ne (ne_of_none e n)]
  exact h b u e m
/-- what is no tuple, behind a step that changes q alone -/
theorem Same.sm {p : Addr} {H H1 : Hp} (h : Same H H1) : Sm p H H1 := Sm.of h
theorem Sm.free {p q : Addr} {H H1 : Hp} (h : Sm p H H1) (n : H1 q = none) (e : H p ≠ none) (e1 : H1 p ≠ none) : H q = none := by
  cases z : H q with
  | none => rfl
  | some o =>
    by_cases hq : q = p
    · rw [hq] at n
      exact absurd n e1
    · rw [h q o z hq] at n
      cases n
theorem sz {n : Nat} (h : Nat.ble n sizeLine = true) : n ≤ sizeLine := Nat.le_of_ble_eq_true h
mutual
/-- plain data of ints, texts and tuples -/
inductive Va (H : Hp) : V → PyData → Prop
  | int (i : Int) : Va H (.int i) (.int i)
  | str (x : Str) : Va H (.str x) (.str x)
  | tup {a : Addr} {xs : List V} {ds : List PyData} : H a = some (.tup xs) → VaL H xs ds → Va H (.ref a) (.tuple ds)
inductive VaL (H : Hp) : List V → List PyData → Prop
  | nil : VaL H [] []
  | cons {v : V} {vs : List V} {d : PyData} {ds : List PyData} : Va H v d → VaL H vs ds → VaL H (v :: vs) (d :: ds)
end
mutual
theorem Va.keep {H H' : Hp} (k : ∀ b xs, H b = some (.tup xs) → H' b = some (.tup xs)) : ∀ {v : V} {d : PyData}, Va H v d → Va H' v d
  | _, _, .int i => .int i
  | _, _, .str x => .str x
  | _, _, .tup e h => .tup (k _ _ e) (VaL.keep k h)
theorem VaL.keep {H H' : Hp} (k : ∀ b xs, H b = some (.tup xs) → H' b = some (.tup xs)) : ∀ {vs : List V} {ds : List PyData}, VaL H vs ds → VaL H' vs ds
  | _, _, .nil => .nil
  | _, _, .cons h t => .cons (Va.keep k h) (VaL.keep k t)
end
mutual
theorem Va.dp {K : PySem.W.Frag} {H : Hp} : ∀ {v : V} {d : PyData}, Va H v d → Dp K H v d
  | _, _, .int i => .int i
  | _, _, .str x => .str x
  | _, _, .tup e h => .tup (.inl (.inl e)) (VaL.dp h)
theorem VaL.dp {K : PySem.W.Frag} {H : Hp} : ∀ {vs : List V} {ds : List PyData}, VaL H vs ds → DpAll K H vs ds
  | _, _, .nil => .nil
  | _, _, .cons h t => .cons (Va.dp h) (VaL.dp t)
end
/-- tuples stay -/
def Tp (H H' : Hp) : Prop := ∀ b xs, H b = some (.tup xs) → H' b = some (.tup xs)
theorem Tp.trans {H H1 H2 : Hp} (a : Tp H H1) (b : Tp H1 H2) : Tp H H2 := fun c xs h => b c xs (a c xs h)
theorem Tp.of {H H' : Hp} (a : Same H H') : Tp H H' := fun b xs h => a b _ h
theorem Sm.tp {p : Addr} {H H' : Hp} (a : Sm p H H') (n : ∀ xs, H p ≠ some (.tup xs)) : Tp H H' := fun b xs h => a b _ h fun e => n xs (by rw [← e]; exact h)
theorem VaL.app {H : Hp} : ∀ {vs ws : List V} {ds es : List PyData}, VaL H vs ds → VaL H ws es → VaL H (vs ++ ws) (ds ++ es)
  | _, _, _, _, .nil, h => h
  | _, _, _, _, .cons h t, k => .cons h (VaL.app t k)
theorem VaL.length {H : Hp} : ∀ {vs : List V} {ds : List PyData}, VaL H vs ds → vs.length = ds.length
  | _, _, .nil => rfl
  | _, _, .cons _ t => by rw [List.length_cons, List.length_cons, t.length]
theorem VaL.get {H : Hp} : ∀ {vs : List V} {ds : List PyData} {i : Nat} {v : V}, VaL H vs ds → vs[i]? = some v → ∃ d, ds[i]? = some d ∧ Va H v d
  | _, _, _, _, .nil, e => by simp at e
  | _, _, 0, _, .cons h _, e => by cases e; exact ⟨_, rfl, h⟩
  | _, _, i + 1, _, .cons _ t, e => by
    obtain ⟨d, h1, h2⟩ := VaL.get (i := i) t (by simpa using e)
    exact ⟨d, by simpa using h1, h2⟩
theorem Va.tup_inv {H : Hp} {v : V} {ds : List PyData} (h : Va H v (.tuple ds)) : ∃ a xs, v = .ref a ∧ H a = some (.tup xs) ∧ VaL H xs ds := by
  cases h with
  | tup e l => exact ⟨_, _, rfl, e, l⟩
theorem Va.str_inv {H : Hp} {v : V} {x : Str} (h : Va H v (.str x)) : v = .str x := by
  cases h
  rfl
theorem Va.int_inv {H : Hp} {v : V} {i : Int} (h : Va H v (.int i)) : v = .int i := by
  cases h
  rfl
theorem VaL.nil_inv {H : Hp} {vs : List V} (h : VaL H vs []) : vs = [] := by
  cases h
  rfl
theorem VaL.cons_inv {H : Hp} {vs : List V} {d : PyData} {ds : List PyData} (h : VaL H vs (d :: ds)) : ∃ v ws, vs = v :: ws ∧ Va H v d ∧ VaL H ws ds := by
  cases h with
  | cons h t => exact ⟨_, _, rfl, h, t⟩
theorem sq_of {K : PySem.W.Frag} {H : Hp} {a : Addr} {xs : List V} (h : H a = some (.lst xs)) : SqL K H a xs := .inl (.inl h)
theorem st_of {K : PySem.W.Frag} {H : Hp} {a : Addr} {xs : List V} (h : H a = some (.tup xs)) : SqT K H a xs := .inl (.inl h)
/-! ### the box of draws; m draws are left at least -/
def Bx (H : Hp) (b : Addr) (m : Nat) : Prop := ∃ g s f : Int, H b = some (.lst [.int g, .int s, .int f]) ∧ 0 ≤ f ∧ f + m ≤ 2 ^ 40
theorem Bx.mono {H : Hp} {b : Addr} {m n : Nat} (h : Bx H b m) (l : n ≤ m) : Bx H b n := by
  obtain ⟨g, s, f, e, h0, h1⟩ := h
  exact ⟨g, s, f, e, h0, by omega⟩
theorem Bx.new {H : Hp} {b q : Addr} {o : HO} {m : Nat} (h : Bx H b m) (n : H q = none) : Bx (upd H q o) b m := by
  obtain ⟨g, s, f, e, r⟩ := h
  exact ⟨g, s, f, by rw [upd_ne (ne_of_none e n)]; exact e, r⟩
theorem Bx.notup {H : Hp} {b : Addr} {m : Nat} (h : Bx H b m) (xs : List V) : H b ≠ some (.tup xs) := by
  obtain ⟨g, s, f, e, r⟩ := h
  rw [e]
  exact fun z => nomatch z
theorem Bx.there {H : Hp} {b : Addr} {m : Nat} (h : Bx H b m) : H b ≠ none := by
  obtain ⟨g, s, f, e, r⟩ := h
  rw [e]
  exact fun z => nomatch z
theorem Va.new {H : Hp} {v : V} {d : PyData} {q : Addr} {o : HO} (h : Va H v d) (n : H q = none) : Va (upd H q o) v d := h.keep (Tp.of (same_new n))
theorem VaL.new {H : Hp} {v : List V} {d : List PyData} {q : Addr} {o : HO} (h : VaL H v d) (n : H q = none) : VaL (upd H q o) v d := h.keep (Tp.of (same_new n))
theorem va_new {H : Hp} {t : Addr} {xs : List V} {ds : List PyData} (n : H t = none) (h : VaL H xs ds) : Va (upd H t (.tup xs)) (.ref t) (.tuple ds) := .tup upd_same (h.new n)
/-- an object that is no tuple is stored to -/
theorem Tp.upd {H : Hp} {p : Addr} {o : HO} (h : ∀ xs, H p ≠ some (.tup xs)) : Tp H (upd H p o) := fun b xs e => by
  have n : b ≠ p := fun z => h xs (by rw [← z]; exact e)
  rw [upd_ne n]
  exact e
theorem lst_notup {H : Hp} {p : Addr} {ys : List V} (h : H p = some (.lst ys)) (xs : List V) : H p ≠ some (.tup xs) := by
  rw [h]
  exact fun z => nomatch z
theorem Bx.upd {H : Hp} {b q : Addr} {o : HO} {m : Nat} (h : Bx H b m) (n : b ≠ q) : Bx (upd H q o) b m := by
  obtain ⟨g, s, f, e, r⟩ := h
  exact ⟨g, s, f, by rw [upd_ne n]; exact e, r⟩
theorem mem_map_str {l : List Str} {i : Nat} {v : V} (h : (l.map V.str)[i]? = some v) : ∃ x ∈ l, v = .str x := by
  obtain ⟨x, hx, e⟩ := List.mem_map.mp (List.mem_of_getElem? h)
  exact ⟨x, hx, e.symm⟩
theorem mem_map_int {l : List Nat} {i : Nat} {v : V} (h : (l.map fun n : Nat => V.int n)[i]? = some v) : ∃ x ∈ l, v = .int (x : Nat) := by
  obtain ⟨x, hx, e⟩ := List.mem_map.mp (List.mem_of_getElem? h)
  exact ⟨x, hx, e.symm⟩
end W4
set_option Elab.async false
set_option linter.all false
set_option maxRecDepth 100000
set_option maxHeartbeats 4000000
namespace W4
open PySem PySem.Spec PyProof.Rows L2
local macro_rules | `(tactic| walk_at "rd") => `(tactic| repeat (first | refine ⟨_, rfl, ?_⟩ | refine ⟨_, _, rfl, rfl, ?_⟩))
abbrev N_q_take : List Str := ["_law_box_here", "_law_below", "_law_found", "_law_seed", "_law_far", "_law_once", "_law_twice"]
abbrev P_q_take : List Str := ["_law_box_here", "_law_below"]
theorem sc_q_take : FnScope N_q_take P_q_take (defScope s_q_take) := ⟨rfl, rfl, rfl, by decide +kernel, rfl, by decide +kernel, by decide +kernel⟩
theorem bd_q_take (kV doc pm : Value) (an : Option Addr) (cdv ct : Value) (us : List Value) (hl : us.length = P_q_take.length) : bindArgs (PySem.W.fnOf d_q_take.name d_q_take.qual d_q_take.params d_q_take.body d_q_take.scope .none kV doc pm an cdv ct) ⟨us, []⟩ = pure (P_q_take.zip us) := match us, hl with | [_, _], _ => rfl
abbrev N_q_of : List Str := ["_law_box_here", "_law_some"]
abbrev P_q_of : List Str := ["_law_box_here", "_law_some"]
theorem sc_q_of : FnScope N_q_of P_q_of (defScope s_q_of) := ⟨rfl, rfl, rfl, by decide +kernel, rfl, by decide +kernel, by decide +kernel⟩
theorem bd_q_of (kV doc pm : Value) (an : Option Addr) (cdv ct : Value) (us : List Value) (hl : us.length = P_q_of.length) : bindArgs (PySem.W.fnOf d_q_of.name d_q_of.qual d_q_of.params d_q_of.body d_q_of.scope .none kV doc pm an cdv ct) ⟨us, []⟩ = pure (P_q_of.zip us) := match us, hl with | [_, _], _ => rfl
abbrev N_q_name : List Str := ["_law_box_here"]
abbrev P_q_name : List Str := ["_law_box_here"]
theorem sc_q_name : FnScope N_q_name P_q_name (defScope s_q_name) := ⟨rfl, rfl, rfl, by decide +kernel, rfl, by decide +kernel, by decide +kernel⟩
theorem bd_q_name (kV doc pm : Value) (an : Option Addr) (cdv ct : Value) (us : List Value) (hl : us.length = P_q_name.length) : bindArgs (PySem.W.fnOf d_q_name.name d_q_name.qual d_q_name.params d_q_name.body d_q_name.scope .none kV doc pm an cdv ct) ⟨us, []⟩ = pure (P_q_name.zip us) := match us, hl with | [_], _ => rfl
section
variable {P : Program} {w : World} {K : PySem.W.Frag} {mg : Str → Option Value} {base : Heap}
def spTake : Sp := fun vs H Q _ => ∃ (b : Addr) (n : Int) (m : Nat), vs = [.ref b, .int n] ∧ 0 < n ∧ n < 2 ^ 30 ∧ Bx H b (m + 1) ∧ ∀ (r : Int) (H' : Hp), 0 ≤ r → r < n → Bx H' b m → Sm b H H' → Q (.int r) H'
theorem ok_take (T : Txt K mg w) : Clb P w K mg base CX0 1 "_law_take" spTake := by
  refine T.clb (d := d_q_take) m_q_take rfl T.g_q_take rfl rfl sc_q_take bd_q_take (fun vs H Q E h => ?_) (fun cdv A outer s H vs Q E hr h => ?_)
  · obtain ⟨b, n, m, rfl, _⟩ := h
    rfl
  · obtain ⟨b, n, m, rfl, n0, n1, ⟨g, se, f, hb, f0, f1⟩, k⟩ := h
    refine ⟨_, (pss_cons (ps_if (pt_cmpR op_gt (pe_ix ix_list (pv 0) pe_int (fun _ _ => rfl)) pe_int (nomark _))
    (pss_cons (ps_set (i := 2) sc_q_take.nd rfl (.inl rfl) (pe_op op_mod (pe_ix ix_list (pv 0) pe_int (fun _ _ => rfl)) (pv 1)))
    (pss_cons (ps_asg (pe_op op_fdiv (pe_ix ix_list (pv 0) pe_int (fun _ _ => rfl)) (pv 1)) (pg_sub (pv 0) pe_int set_list))
    (pss_one (ps_ret (pv 2)))))
    pss_nil)
    (pss_cons (ps_par (i := 3) (j := 4) rfl sc_q_take.nd rfl rfl (by decide) rfl rfl (pa_cons (pe_ix ix_list (pv 0) pe_int (fun _ _ => rfl)) (pa_cons (pe_op op_add (pe_ix ix_list (pv 0) pe_int (fun _ _ => rfl)) pe_int) pa_nil)) (by rfl))
    (pss_cons (ps_asg (pv 4) (pg_sub (pv 0) pe_int set_list))
    (pss_cons (ps_set (i := 5) sc_q_take.nd rfl (.inl rfl) (pe_op op_mod (pe_op op_mul (pe_op op_add (pv 3) (pe_op op_mul pe_int (pv 4))) (pe_op op_add pe_int (pv 4))) pe_int))
    (pss_cons (ps_set (i := 6) sc_q_take.nd rfl (.inl rfl) (pe_op op_mod (pe_op op_mul (pe_op op_add (pe_op op_add (pv 5) (pv 4)) (pe_op op_fdiv (pv 3) pe_int)) (pe_op op_add (pe_op op_mod (pv 5) pe_int) pe_int)) pe_int))
    (pss_one (ps_ret (pe_op op_mod (pe_op op_fdiv (pe_op op_mod (pe_op op_add (pe_op op_mul (pv 6) pe_int) (pv 5)) pe_int) pe_int) (pv 1))))))))), ?_⟩
    have sq : SqL K H b [.int g, .int se, .int f] := sq_of hb
    have fb : f < 2 ^ 40 := by omega
    refine ⟨_, rfl, b, _, 0, .int g, rfl, rfl, sq, atI_nat (j := 0) rfl, _, _, rfl, rfl, _, rfl, ite2 (fun pos => ?_) (fun neg => ?_)⟩
    · refine ⟨_, rfl, b, _, 0, .int g, rfl, rfl, sq, atI_nat (j := 0) rfl, _, rfl, _, _, rfl, rfl, n0, ?_⟩
      refine ⟨_, rfl, b, _, 0, .int g, rfl, rfl, sq, atI_nat (j := 0) rfl, _, rfl, _, _, rfl, rfl, ⟨n0, n1⟩, ?_⟩
      refine ⟨_, rfl, b, _, 0, 0, rfl, rfl, hb, rfl, ?_⟩
      refine ⟨_, rfl, k (g % n) _ (Int.emod_nonneg _ (by omega)) (Int.emod_lt_of_pos _ n0) ⟨g / n, se, f, upd_same, f0, by omega⟩ Sm.at⟩
    · refine ⟨_, rfl, b, _, 1, .int se, rfl, rfl, sq, atI_nat (j := 1) rfl, _, rfl, b, _, 2, .int f, rfl, rfl, sq, atI_nat (j := 2) rfl, _, _, rfl, rfl, _, _, rfl, ?_⟩
      refine ⟨_, rfl, _, rfl, b, _, 2, 2, rfl, rfl, hb, rfl, ?_⟩
      have cm : CMul (se + 48271 * (f + 1)) (39373 + (f + 1)) := .inr ⟨by omega, by omega⟩
      walk_at "rd"
      refine ⟨.inl ⟨by decide, by decide⟩, ?_⟩
      walk_at "rd"
      refine ⟨cm, ?_⟩
      walk_at "rd"
      refine ⟨(by show (0 : Int) < 2147483647; decide), ?_⟩
      have o0 : 0 ≤ (se + 48271 * (f + 1)) * (39373 + (f + 1)) % 2147483647 := Int.emod_nonneg _ (by decide)
      have o1 : (se + 48271 * (f + 1)) * (39373 + (f + 1)) % 2147483647 < 2147483647 := Int.emod_lt_of_pos _ (by decide)
      generalize (se + 48271 * (f + 1)) * (39373 + (f + 1)) % 2147483647 = once at o0 o1
      have m0 : 0 ≤ once % 40009 := Int.emod_nonneg _ (by decide)
      have m1 : once % 40009 < 40009 := Int.emod_lt_of_pos _ (by decide)
      walk_at "rd"
      refine ⟨⟨by decide, by decide⟩, ?_⟩
      walk_at "rd"
      refine ⟨(by show (0 : Int) < 40009; decide), ?_⟩
      walk_at "rd"
      refine ⟨.inr ⟨by omega, by omega⟩, ?_⟩
      walk_at "rd"
      refine ⟨(by show (0 : Int) < 2147483629; decide), ?_⟩
      walk_at "rd"
      refine ⟨.inr ⟨by decide, by decide⟩, ?_⟩
      walk_at "rd"
      refine ⟨(by show (0 : Int) < 2147483587; decide), ?_⟩
      walk_at "rd"
      refine ⟨⟨by decide, by decide⟩, ?_⟩
      walk_at "rd"
      refine ⟨n0, ?_⟩
      exact k _ _ (Int.emod_nonneg _ (by omega)) (Int.emod_lt_of_pos _ n0) ⟨g, se, f + 1, upd_same, by omega, by omega⟩ Sm.at
def spOf : Sp := fun vs H Q _ => ∃ (b l : Addr) (xs : List V) (m : Nat), vs = [.ref b, .ref l] ∧ H l = some (.lst xs) ∧ l ≠ b ∧ 0 < xs.length ∧ xs.length < 2 ^ 20 ∧ Bx H b (m + 1) ∧ ∀ (i : Nat) (v : V) (H' : Hp), xs[i]? = some v → Bx H' b m → Sm b H H' → Q v H'
theorem ok_of (T : Txt K mg w) : Clb P w K mg base CX0 2 "_law_of" spOf := by
  have c_q_take := ok_take (P := P) (base := base) T
  refine T.clb (d := d_q_of) m_q_of rfl T.g_q_of rfl rfl sc_q_of bd_q_of (fun vs H Q E h => ?_) (fun cdv A outer s H vs Q E hr h => ?_)
  · obtain ⟨b, l, xs, m, rfl, _⟩ := h
    rfl
  · obtain ⟨b, l, xs, m, rfl, hl, ne, l0, l1, hb, k⟩ := h
    refine ⟨_, (pss_one (ps_ret (pe_ix ix_list (pv 1) (pe_cl c_q_take hr (by first | decide | omega) pass0 (by rfl) (pa_cons (pv 0) (pa_cons (pe_callB call_len (by rfl) T.f_len (by decide +kernel) (pa_cons (pv 1) pa_nil)) pa_nil))) (fun _ _ => rfl)))), ?_⟩
    refine ⟨_, rfl, _, rfl, _, rfl, _, xs.length, rfl, .inl ⟨_, sq_of hl, rfl⟩, b, _, m, rfl, by omega, by omega, hb, fun r H' r0 r1 B S => ?_⟩
    obtain ⟨j, rfl⟩ : ∃ j : Nat, r = j := ⟨r.toNat, by omega⟩
    have hj : j < xs.length := by omega
    refine ⟨l, xs, (j : Int), xs[j], rfl, rfl, sq_of (S l _ hl ne), atI_nat (List.getElem?_eq_getElem hj), k j _ H' (List.getElem?_eq_getElem hj) B S⟩
def nmL : List Str := ["a", "b", "x", "in", "out", "top", "a", "b", "k", "zz"]
def spName : Sp := fun vs H Q _ => ∃ (b : Addr) (m : Nat), vs = [.ref b] ∧ Bx H b (m + 1) ∧ ∀ (x : Str) (H' : Hp), x ∈ K4.okN → Bx H' b m → Sm b H H' → Q (.str x) H'
theorem ok_name (T : Txt K mg w) : Clb P w K mg base CX0 3 "_law_name" spName := by
  have c_q_of := ok_of (P := P) (base := base) T
  refine T.clb (d := d_q_name) m_q_name rfl T.g_q_name rfl rfl sc_q_name bd_q_name (fun vs H Q E h => ?_) (fun cdv A outer s H vs Q E hr h => ?_)
  · obtain ⟨b, m, rfl, _⟩ := h
    rfl
  · obtain ⟨b, m, rfl, hb, k⟩ := h
    refine ⟨_, (pss_one (ps_ret (pe_cl c_q_of hr (by first | decide | omega) pass0 (by rfl) (pa_cons (pv 0) (pa_cons (pe_lst (pa_cons pe_str (pa_cons pe_str (pa_cons pe_str (pa_cons pe_str (pa_cons pe_str (pa_cons pe_str (pa_cons pe_str (pa_cons pe_str (pa_cons pe_str (pa_cons pe_str pa_nil))))))))))) pa_nil))))), ?_⟩
    refine ⟨_, rfl, by decide, fun l nl => ?_⟩
    have ne : l ≠ b := fun z => hb.there (by rw [← z]; exact nl)
    refine ⟨b, l, nmL.map V.str, m, rfl, upd_same, ne, by decide, by decide, hb.new nl, fun i v H' hv B S => ?_⟩
    obtain ⟨x, hx, rfl⟩ := mem_map_str hv
    exact k x H' ((show ∀ x ∈ nmL, x ∈ K4.okN by decide) x hx) B ((Sm.new nl).trans S)
end
end W4
set_option Elab.async false
set_option linter.all false
set_option maxRecDepth 100000
set_option maxHeartbeats 4000000
namespace W4
open PySem PySem.Spec PyProof.Rows L2
local macro_rules | `(tactic| walk_at "rd") => `(tactic| repeat (first | refine ⟨_, rfl, ?_⟩ | refine ⟨_, _, rfl, rfl, ?_⟩ | refine ⟨rfl, _, rfl, ?_⟩))
abbrev N_q_tree_leaf : List Str := ["_law_box_here", "_law_way"]
abbrev P_q_tree_leaf : List Str := ["_law_box_here"]
theorem sc_q_tree_leaf : FnScope N_q_tree_leaf P_q_tree_leaf (defScope s_q_tree_leaf) := ⟨rfl, rfl, rfl, by decide +kernel, rfl, by decide +kernel, by decide +kernel⟩
theorem bd_q_tree_leaf (kV doc pm : Value) (an : Option Addr) (cdv ct : Value) (us : List Value) (hl : us.length = P_q_tree_leaf.length) : bindArgs (PySem.W.fnOf d_q_tree_leaf.name d_q_tree_leaf.qual d_q_tree_leaf.params d_q_tree_leaf.body d_q_tree_leaf.scope .none kV doc pm an cdv ct) ⟨us, []⟩ = pure (P_q_tree_leaf.zip us) := match us, hl with | [_], _ => rfl
abbrev N_q_tree : List Str := ["_law_box_here", "_law_deep", "_law_way", "_law_sign", "_law_k"]
abbrev P_q_tree : List Str := ["_law_box_here", "_law_deep"]
theorem sc_q_tree : FnScope N_q_tree P_q_tree (defScope s_q_tree) := ⟨rfl, rfl, rfl, by decide +kernel, rfl, by decide +kernel, by decide +kernel⟩
theorem bd_q_tree (kV doc pm : Value) (an : Option Addr) (cdv ct : Value) (us : List Value) (hl : us.length = P_q_tree.length) : bindArgs (PySem.W.fnOf d_q_tree.name d_q_tree.qual d_q_tree.params d_q_tree.body d_q_tree.scope .none kV doc pm an cdv ct) ⟨us, []⟩ = pure (P_q_tree.zip us) := match us, hl with | [_, _], _ => rfl
section
variable {P : Program} {w : World} {K : PySem.W.Frag} {mg : Str → Option Value} {base : Heap}
def spLeaf : Sp := fun vs H Q _ => ∃ (b : Addr) (m : Nat), vs = [.ref b] ∧ Bx H b (m + 2) ∧ ∀ (e : K4.Ex) (v : V) (H' : Hp), (∀ d, K4.tE e d) → Va H' v e.toD → Bx H' b m → Sm b H H' → Q v H'
theorem ok_leaf (T : Txt K mg w) : Clb P w K mg base CX0 4 "_law_tree_leaf" spLeaf := by
  have c_q_take := ok_take (P := P) (base := base) T
  have c_q_of := ok_of (P := P) (base := base) T
  have c_q_name := ok_name (P := P) (base := base) T
  refine T.clb (d := d_q_tree_leaf) m_q_tree_leaf rfl T.g_q_tree_leaf rfl rfl sc_q_tree_leaf bd_q_tree_leaf (fun vs H Q E h => ?_) (fun cdv A outer s H vs Q E hr h => ?_)
  · obtain ⟨b, m, rfl, _⟩ := h
    rfl
  · obtain ⟨b, m, rfl, hb, k⟩ := h
    refine ⟨_, (pss_cons (ps_set (i := 1) sc_q_tree_leaf.nd rfl (.inl rfl) (pe_cl c_q_take hr (by first | decide | omega) pass0 (by rfl) (pa_cons (pv 0) (pa_cons pe_int pa_nil))))
    (pss_cons (ps_if (pt_cmpR op_eq (pv 1) pe_int (nomark _))
    (pss_one (ps_ret (pe_tup (pa_cons pe_str (pa_cons (pe_cl c_q_of hr (by first | decide | omega) pass0 (by rfl) (pa_cons (pv 0) (pa_cons (pe_lst (pa_cons pe_int (pa_cons pe_int (pa_cons pe_int (pa_cons pe_int (pa_cons pe_int (pa_cons pe_int (pa_cons (pe_op op_pow pe_int pe_int) pa_nil)))))))) pa_nil))) pa_nil)))))
    pss_nil)
    (pss_cons (ps_if (pt_cmpR op_lt (pv 1) pe_int (nomark _))
    (pss_one (ps_ret (pe_tup (pa_cons pe_str (pa_cons (pe_cl c_q_name hr (by first | decide | omega) pass0 (by rfl) (pa_cons (pv 0) pa_nil)) pa_nil)))))
    pss_nil)
    (pss_one (ps_ret (pe_ifExp (pt_cmpR op_eq (pv 1) pe_int (nomark _)) (pe_tup (pa_cons pe_str pa_nil)) (pe_tup (pa_cons pe_str (pa_cons (pe_cl c_q_name hr (by first | decide | omega) pass0 (by rfl) (pa_cons (pv 0) pa_nil)) pa_nil))))))))), ?_⟩
    refine ⟨_, rfl, b, 5, m + 1, rfl, by decide, by decide, hb, fun way H1 w0 w1 B1 S1 => ?_⟩
    refine ⟨_, rfl, rfl, _, rfl, ite2 (fun e0 => ?_) (fun e0 => ?_)⟩
    · refine ⟨_, rfl, ?_⟩
      walk_at "rd"
      refine ⟨⟨by decide, by decide, by decide⟩, sz rfl, fun l nl => ?_⟩
      have ne : l ≠ b := fun z => B1.there (by rw [← z]; exact nl)
      refine ⟨b, l, K4.okI.map fun n : Nat => V.int n, m, rfl, upd_same, ne, by decide, by decide, B1.new nl, fun i v H2 hv B2 S2 => ?_⟩
      obtain ⟨n, hn, rfl⟩ := mem_map_int hv
      refine ⟨sz rfl, fun t nt => ?_⟩
      exact k (.int n) _ _ (fun d => hn) (va_new nt (.cons (.str _) (.cons (.int _) .nil))) (B2.new nt) ((S1.trans ((Sm.new nl).trans S2)).upd_new nt)
    · refine ⟨_, rfl, ?_⟩
      walk_at "rd"
      refine ite2 (fun e1 => ?_) (fun e1 => ?_)
      · refine ⟨_, rfl, b, m, rfl, B1, fun x H2 hx B2 S2 => ⟨sz rfl, fun t nt => ?_⟩⟩
        exact k (.var x) _ _ (fun d => hx) (va_new nt (.cons (.str _) (.cons (.str _) .nil))) (B2.new nt) ((S1.trans S2).upd_new nt)
      · refine ⟨_, rfl, rfl, _, rfl, ite2 (fun e2 => ?_) (fun e2 => ?_)⟩
        · refine ⟨sz rfl, fun t nt => ?_⟩
          exact k .non _ _ (fun d => True.intro) (va_new nt (.cons (.str _) .nil)) ((B1.new nt).mono (by omega)) (S1.upd_new nt)
        · refine ⟨_, rfl, b, m, rfl, B1, fun x H2 hx B2 S2 => ⟨sz rfl, fun t nt => ?_⟩⟩
          exact k (.recv x) _ _ (fun d => hx) (va_new nt (.cons (.str _) (.cons (.str _) .nil))) (B2.new nt) ((S1.trans S2).upd_new nt)
def cT : Nat → Nat
  | 0 => 3
  | d + 1 => 8 + 2 * cT d
theorem cT_pos (d : Nat) : 3 ≤ cT d := by
  cases d with
  | zero => exact Nat.le_refl _
  | succ d =>
    show 3 ≤ 8 + 2 * cT d
    omega
theorem leaf_any {e : K4.Ex} (h : ∀ d, K4.tE e d) (d : Nat) : K4.tE e d := h d
def spTree (n : Nat) : Sp := fun vs H Q _ => ∃ (b : Addr) (d m : Nat), vs = [.ref b, .int d] ∧ d < n ∧ Bx H b (m + cT d) ∧ ∀ (e : K4.Ex) (v : V) (H' : Hp), K4.tE e d → Va H' v e.toD → Bx H' b m → Sm b H H' → Q v H'
theorem tEs_all {d : Nat} : ∀ {es : List K4.Ex}, (∀ e ∈ es, K4.tE e d) → K4.tEs es d
  | [], _ => True.intro
  | e :: r, h => ⟨h e (List.mem_cons_self ..), tEs_all fun x hx => h x (List.mem_cons_of_mem _ hx)⟩
theorem tEf_all {d : Nat} : ∀ {es : List (Str × K4.Ex)}, (∀ p ∈ es, p.1 ∈ K4.okN ∧ K4.tE p.2 d) → K4.tEf es d
  | [], _ => True.intro
  | (x, e) :: r, h => ⟨(h (x, e) (List.mem_cons_self ..)).1, (h (x, e) (List.mem_cons_self ..)).2, tEf_all fun x hx => h x (List.mem_cons_of_mem _ hx)⟩
theorem exsD_map : ∀ es : List K4.Ex, K4.exsD es = es.map K4.Ex.toD
  | [] => rfl
  | e :: r => congrArg (e.toD :: ·) (exsD_map r)
def fD (p : Str × K4.Ex) : PyData := .tuple [.str p.1, p.2.toD]
theorem fsD_map : ∀ es : List (Str × K4.Ex), K4.fsD es = es.map fD
  | [] => rfl
  | (x, e) :: r => congrArg (PyData.tuple [.str x, e.toD] :: ·) (fsD_map r)
theorem stsD_map : ∀ es : List K4.St, K4.stsD es = es.map K4.St.toD
  | [] => rfl
  | e :: r => congrArg (e.toD :: ·) (stsD_map r)
/-- a list of data that a comprehension makes: i are made of n, c draws each -/
structure Col {α : Type} (f : α → PyData) (ok : α → Prop) (H0 : Hp) (b D : Addr) (n m c i : Nat) (H : Hp) : Prop where
  ex : ∃ (as : List α) (vs : List V) (k : Nat), i + k = n ∧ as.length = i ∧ (∀ a ∈ as, ok a) ∧ H D = some (.lst vs) ∧ VaL H vs (as.map f) ∧ Bx H b (m + k * c) ∧ Sm b H0 H
theorem Col.start {α : Type} {f : α → PyData} {ok : α → Prop} {H0 H : Hp} {b D : Addr} {n m c : Nat} (S : Sm b H0 H) (B : Bx H b (m + n * c)) (nD : H D = none) : Col f ok H0 b D n m c 0 (upd H D (.lst [])) :=
  ⟨[], [], n, by omega, rfl, (fun _ h => by cases h), upd_same, .nil, B.new nD, S.upd_new nD⟩
theorem Col.turn {α : Type} {f : α → PyData} {ok : α → Prop} {H0 H : Hp} {b D : Addr} {n m c i : Nat} (t : Col f ok H0 b D n m c i H) (lt : i < n) : ∃ k, i + k + 1 = n ∧ Bx H b (m + k * c + c) := by
  obtain ⟨as, vs, kk, ek, len, hes, at_, va, B, S⟩ := t.ex
  obtain ⟨kk, rfl⟩ : ∃ k', kk = k' + 1 := ⟨kk - 1, by omega⟩
  rw [Nat.succ_mul] at B
  exact ⟨kk, by omega, by rw [Nat.add_assoc]; exact B⟩
/-- one more -/
theorem Col.next {α : Type} {f : α → PyData} {ok : α → Prop} {H0 H H1 : Hp} {b D : Addr} {n m c i k : Nat} {a : α} {v : V} (t : Col f ok H0 b D n m c i H) (ek : i + k + 1 = n) (nD : H0 D = none) (hD : D ≠ b) (ha : ok a) (hv : Va H1 v (f a)) (B1 : Bx H1 b (m + k * c)) (S1 : Sm b H H1) (few : n ≤ 1000) :
    ∃ acc, H1 D = some (.lst acc) ∧ acc.length < sizeLine ∧ Col f ok H0 b D n m c (i + 1) (upd H1 D (.lst (acc ++ [v]))) := by
  obtain ⟨as, vs, kk, ekk, len, has, at_, va, B, S⟩ := t.ex
  have at1 := S1 D _ at_ hD
  have tp1 := S1.tp B.notup
  have lv := va.length
  rw [List.length_map] at lv
  refine ⟨vs, at1, Nat.lt_of_lt_of_le (show vs.length < 1001 by omega) (by decide), as ++ [a], vs ++ [v], k, by omega, by simp [len], fun x hx => ?_, upd_same, ?_, B1.upd (Ne.symm hD), (S.trans S1).own nD⟩
  · rcases List.mem_append.mp hx with h | h
    · exact has x h
    · rw [List.mem_singleton.mp h]
      exact ha
  · rw [List.map_append]
    exact ((va.keep tp1).app (.cons hv .nil)).keep (Tp.upd (lst_notup at1))
theorem Col.done {α : Type} {f : α → PyData} {ok : α → Prop} {H0 H : Hp} {b D : Addr} {n m c : Nat} (t : Col f ok H0 b D n m c n H) : ∃ (as : List α) (vs : List V), as.length = n ∧ (∀ a ∈ as, ok a) ∧ H D = some (.lst vs) ∧ VaL H vs (as.map f) ∧ Bx H b m ∧ Sm b H0 H := by
  obtain ⟨as, vs, kk, ekk, len, has, at_, va, B, S⟩ := t.ex
  exact ⟨as, vs, len, has, at_, va, B.mono (by omega), S⟩
theorem Txt.none (T : Txt K mg w) {d : He.DefD} (m : d ∈ fn) {x : Str} (hx : d.at_ = (x, Option.none)) (gl : mg x = some (.ref (He.ga K x))) (h1 : d.dfl = []) (h2 : d.kwd = []) {N ps : List Str} (k : Nat) (S : FnScope N ps d.scope) (bd : BdOk d ps) {sp : Sp} (no : ∀ vs H Q E, ¬ sp vs H Q E) :
    Clb P w K mg base CX0 (k + 1) x sp := T.clb m hx gl h1 h2 S bd (fun vs H Q E h => (no vs H Q E h).elim) fun cdv A outer s H vs Q E hr h => (no vs H Q E h).elim
def sgL : List Str := ["or", "and", "==", "!=", "<", "<=", "+", "-", "*", "/", "mod", "-", "and"]
theorem ok_tree (T : Txt K mg w) : ∀ n, Clb P w K mg base CX0 (4 + n) "_law_tree" (spTree n)
  | 0 => T.none (d := d_q_tree) m_q_tree rfl T.g_q_tree rfl rfl 3 sc_q_tree bd_q_tree fun vs H Q E ⟨b, d, m, _, h, _⟩ => Nat.not_lt_zero _ h
  | n + 1 => by
    have c_q_take := ok_take (P := P) (base := base) T
    have c_q_of := ok_of (P := P) (base := base) T
    have c_q_name := ok_name (P := P) (base := base) T
    have c_q_tree_leaf := ok_leaf (P := P) (base := base) T
    have c_q_tree := ok_tree T n
    refine T.clb (k := 4 + n) (d := d_q_tree) m_q_tree rfl T.g_q_tree rfl rfl sc_q_tree bd_q_tree (fun vs H Q E h => ?_) (fun cdv A outer s H vs Q E hr h => ?_)
    · obtain ⟨b, d, m, rfl, _⟩ := h
      rfl
    · obtain ⟨b, d, m, rfl, dn, hb, k⟩ := h
      refine ⟨_, (pss_cons (ps_set (i := 2) sc_q_tree.nd rfl (.inl rfl) (pe_ifExp (pt_cmpR op_gt (pv 1) pe_int (nomark _)) (pe_cl c_q_take hr (by first | decide | omega) pass0 (by rfl) (pa_cons (pv 0) (pa_cons pe_int pa_nil))) pe_int))
    (pss_cons (ps_if (pt_cmpR op_lt (pv 2) pe_int (nomark _))
    (pss_one (ps_ret (pe_cl c_q_tree_leaf hr (by first | decide | omega) pass0 (by rfl) (pa_cons (pv 0) pa_nil))))
    pss_nil)
    (pss_cons (ps_if (pt_cmpR op_lt (pv 2) pe_int (nomark _))
    (pss_cons (ps_set (i := 3) sc_q_tree.nd rfl (.inl rfl) (pe_cl c_q_of hr (by first | decide | omega) pass0 (by rfl) (pa_cons (pv 0) (pa_cons (pe_lst (pa_cons pe_str (pa_cons pe_str (pa_cons pe_str (pa_cons pe_str (pa_cons pe_str (pa_cons pe_str (pa_cons pe_str (pa_cons pe_str (pa_cons pe_str (pa_cons pe_str (pa_cons pe_str (pa_cons pe_str (pa_cons pe_str pa_nil)))))))))))))) pa_nil))))
    (pss_one (ps_ret (pe_tup (pa_cons pe_str (pa_cons (pv 3) (pa_cons (pe_cl c_q_tree hr (by first | decide | omega) pass0 (by rfl) (pa_cons (pv 0) (pa_cons (pe_op op_sub (pv 1) pe_int) pa_nil))) (pa_cons (pe_cl c_q_tree hr (by first | decide | omega) pass0 (by rfl) (pa_cons (pv 0) (pa_cons (pe_op op_sub (pv 1) pe_int) pa_nil))) pa_nil))))))))
    pss_nil)
    (pss_cons (ps_if (pt_cmpR op_lt (pv 2) pe_int (nomark _))
    (pss_one (ps_ret (pe_tup (pa_cons (pe_ix ix_list (pe_lst (pa_cons pe_str (pa_cons pe_str pa_nil))) (pe_op op_sub (pv 2) pe_int) (fun _ _ => rfl)) (pa_cons (pe_cl c_q_tree hr (by first | decide | omega) pass0 (by rfl) (pa_cons (pv 0) (pa_cons (pe_op op_sub (pv 1) pe_int) pa_nil))) pa_nil)))))
    pss_nil)
    (pss_cons (ps_if (pt_cmpR op_eq (pv 2) pe_int (nomark _))
    (pss_one (ps_ret (pe_tup (pa_cons pe_str (pa_cons (pe_cl c_q_name hr (by first | decide | omega) pass0 (by rfl) (pa_cons (pv 0) pa_nil)) (pa_cons (pe_callTy call_tuple_of (by rfl) T.f_tuple (by decide +kernel) (pa_cons (pe_lc (own := [("_law_k", 4)]) (g := gName 4) rfl sc_q_tree.nd (pi_range1 (by rfl) T.f_range (pa_cons (pe_cl c_q_take hr (by first | decide | omega) pass0 (by rfl) (pa_cons (pv 0) (pa_cons pe_int pa_nil))) pa_nil)) (blkOk_by (own := [("_law_k", 4)]) (N := N_q_tree) (sc := defScope s_q_tree) (by decide +kernel)) (fun _ _ _ _ _ => pg_name (i := 4) sc_q_tree.nd rfl (.inl rfl)) (fun _ _ _ _ _ => pts_nil) (fun _ _ _ _ _ => (pe_cl c_q_tree hr (by first | decide | omega) pass0 (by rfl) (pa_cons (pv 0) (pa_cons (pe_op op_sub (pv 1) pe_int) pa_nil))))) pa_nil)) pa_nil))))))
    pss_nil)
    (pss_cons (ps_if (pt_cmpR op_eq (pv 2) pe_int (nomark _))
    (pss_one (ps_ret (pe_tup (pa_cons pe_str (pa_cons (pe_callTy call_tuple_of (by rfl) T.f_tuple (by decide +kernel) (pa_cons (pe_lc (own := [("_law_k", 4)]) (g := gName 4) rfl sc_q_tree.nd (pi_range1 (by rfl) T.f_range (pa_cons (pe_cl c_q_take hr (by first | decide | omega) pass0 (by rfl) (pa_cons (pv 0) (pa_cons pe_int pa_nil))) pa_nil)) (blkOk_by (own := [("_law_k", 4)]) (N := N_q_tree) (sc := defScope s_q_tree) (by decide +kernel)) (fun _ _ _ _ _ => pg_name (i := 4) sc_q_tree.nd rfl (.inl rfl)) (fun _ _ _ _ _ => pts_nil) (fun _ _ _ _ _ => (pe_tup (pa_cons (pe_cl c_q_name hr (by first | decide | omega) pass0 (by rfl) (pa_cons (pv 0) pa_nil)) (pa_cons (pe_cl c_q_tree hr (by first | decide | omega) pass0 (by rfl) (pa_cons (pv 0) (pa_cons (pe_op op_sub (pv 1) pe_int) pa_nil))) pa_nil))))) pa_nil)) pa_nil)))))
    pss_nil)
    (pss_one (ps_ret (pe_tup (pa_cons pe_str (pa_cons (pe_cl c_q_tree hr (by first | decide | omega) pass0 (by rfl) (pa_cons (pv 0) (pa_cons (pe_op op_sub (pv 1) pe_int) pa_nil))) (pa_cons (pe_cl c_q_name hr (by first | decide | omega) pass0 (by rfl) (pa_cons (pv 0) pa_nil)) pa_nil)))))))))))), ?_⟩
      cases d with
      | zero =>
        walk_at "rd"
        exact ⟨b, m, rfl, hb.mono (by show m + 2 ≤ m + 3; omega), fun e v H' he hv B S => k e v H' (he _) hv B S⟩
      | succ d =>
        walk_at "rd"
        refine ite2 (fun _ => ?_) (fun h => absurd (decide_eq_true (by omega)) h)
        have hb' : Bx H b ((m + 7 + 2 * cT d) + 1) := hb.mono (by show m + 7 + 2 * cT d + 1 ≤ m + (8 + 2 * cT d); omega)
        refine ⟨_, rfl, b, 11, _, rfl, by decide, by decide, hb', fun way H1 w0 w1 B1 S1 => ?_⟩
        have callT : ∀ (H1 : Hp) (m : Nat) (Q : VK), Bx H1 b (m + cT d) → (∀ (e : K4.Ex) (v : V) (H' : Hp), K4.tE e d → Va H' v e.toD → Bx H' b m → Sm b H1 H' → Q v H') → spTree n [V.ref b, V.int (((d + 1 : Nat) : Int) - 1)] H1 Q E0 := fun H1 m Q hB q =>
          ⟨b, d, m, by rw [show (((d + 1 : Nat) : Int) - 1) = (d : Int) by omega], by omega, hB, q⟩
        walk_at "rd"
        refine ite2 (fun c0 => ?_) (fun c0 => ?_)
        · refine ⟨_, rfl, b, m + 3 + 2 * cT d, rfl, B1.mono (by omega), fun e v H' he hv B S => k e v H' (he _) hv (B.mono (by omega)) (S1.trans S)⟩
        walk_at "rd"
        refine ite2 (fun c1 => ?_) (fun c1 => ?_)
        · -- op
          walk_at "rd"
          refine ⟨sz rfl, fun l nl => ?_⟩
          have ne : l ≠ b := fun z => B1.there (by rw [← z]; exact nl)
          refine ⟨b, l, sgL.map V.str, m + 2 * cT d, rfl, upd_same, ne, by decide, by decide, (B1.new nl).mono (by omega), fun i v H2 hv B2 S2 => ?_⟩
          obtain ⟨x, hx, rfl⟩ := mem_map_str hv
          have hx' : x ∈ K4.signs := (show ∀ x ∈ sgL, x ∈ K4.signs by decide) x hx
          walk_at "rd"
          refine callT _ (m + cT d) _ (B2.mono (by omega)) fun e3 v3 H3 he3 hv3 B3 S3 => ?_
          walk_at "rd"
          refine callT _ m _ B3 fun e4 v4 H4 he4 hv4 B4 S4 => ?_
          refine ⟨sz rfl, fun t nt => ?_⟩
          have tp := S4.tp B3.notup
          exact k (.op x e3 e4) _ _ ⟨Nat.succ_pos _, hx', he3, he4⟩ (va_new nt (.cons (.str _) (.cons (.str _) (.cons (hv3.keep tp) (.cons hv4 .nil))))) (B4.new nt) ((((S1.trans ((Sm.new nl).trans S2)).trans S3).trans S4).upd_new nt)
        walk_at "rd"
        have c0' : ¬ way < 2 := fun z => c0 (decide_eq_true z)
        have c1' : ¬ way < 6 := fun z => c1 (decide_eq_true z)
        refine ite2 (fun c2 => ?_) (fun c2 => ?_)
        · have c2' : way < 8 := of_decide_eq_true c2
          have hw : way = 6 ∨ way = 7 := by omega
          refine ⟨sz rfl, fun l nl => ?_⟩
          have ne : l ≠ b := fun z => B1.there (by rw [← z]; exact nl)
          walk_at "rd"
          rcases hw with rfl | rfl
          · refine ⟨l, _, _, .str "neg", rfl, rfl, sq_of upd_same, rfl, ?_⟩
            walk_at "rd"
            refine callT _ m _ ((B1.new nl).mono (by omega)) fun e3 v3 H3 he3 hv3 B3 S3 => ⟨sz rfl, fun t nt => ?_⟩
            exact k (.neg e3) _ _ ⟨Nat.succ_pos _, he3⟩ (va_new nt (.cons (.str _) (.cons hv3 .nil))) (B3.new nt) (((S1.upd_new nl).trans S3).upd_new nt)
          · refine ⟨l, _, _, .str "not", rfl, rfl, sq_of upd_same, rfl, ?_⟩
            walk_at "rd"
            refine callT _ m _ ((B1.new nl).mono (by omega)) fun e3 v3 H3 he3 hv3 B3 S3 => ⟨sz rfl, fun t nt => ?_⟩
            exact k (.not e3) _ _ ⟨Nat.succ_pos _, he3⟩ (va_new nt (.cons (.str _) (.cons hv3 .nil))) (B3.new nt) (((S1.upd_new nl).trans S3).upd_new nt)
        have c2' : ¬ way < 8 := fun z => c2 (decide_eq_true z)
        have hw : way = 8 ∨ way = 9 ∨ way = 10 := by omega
        rcases hw with rfl | rfl | rfl
        · -- a call
          walk_at "rd"
          refine ⟨b, m + 4 + 2 * cT d, rfl, B1.mono (by omega), fun f H2 hf B2 S2 => ?_⟩
          walk_at "rd"
          refine ⟨b, 3, m + 3 + 2 * cT d, rfl, by decide, by decide, B2.mono (by omega), fun r H3 r0 r1 B3 S3 => ?_⟩
          have S13 := (S1.trans S2).trans S3
          obtain ⟨n2, rfl⟩ : ∃ n2 : Nat, r = n2 := ⟨r.toNat, by omega⟩
          have rc : (n2 : Nat) * cT d ≤ 2 * cT d := Nat.mul_le_mul_right _ (by omega)
          refine ⟨(n2 : Int), rfl, by omega, by omega, fun D nD => lc_range (lo := 0) (n := ((n2 : Nat) : Int).toNat) (fun i H => Col K4.Ex.toD (fun e => K4.tE e d) H3 b D n2 m (cT d) i H) (Col.start (Sm.refl _ _) (B3.mono (by omega)) nD) ?_ ?_⟩
          · intro i H4 hi t
            rw [Int.toNat_natCast] at hi
            have hD : D ≠ b := fun z => B3.there (by rw [← z]; exact nD)
            obtain ⟨kk, ek, B⟩ := t.turn hi
            refine ⟨rfl, ?_⟩
            walk_at "rd"
            refine callT _ (m + kk * cT d) _ B fun e v H5 he hv B5 S5 => ?_
            exact t.next ek nD hD he hv B5 S5 (by omega)
          · intro H4 t
            rw [Int.toNat_natCast] at t
            obtain ⟨es, vs, len, hes, at_, va, B, S⟩ := t.done
            rw [← exsD_map] at va
            refine ⟨D, vs, rfl, .inl ⟨sq_of at_, fun l nl => ⟨sz rfl, fun t nt => ?_⟩⟩⟩
            refine k (.call f es) _ _ ⟨hf, Nat.succ_pos _, by omega, tEs_all hes⟩ (va_new nt (.cons (.str _) (.cons (.str _) (.cons (va_new nl va) .nil)))) ((B.new nl).new nt) (((S13.trans S).upd_new nl).upd_new nt)
        · -- a new record
          walk_at "rd"
          refine ⟨b, 3, m + 4 + 2 * cT d, rfl, by decide, by decide, B1.mono (by omega), fun r H3 r0 r1 B3 S3 => ?_⟩
          have S13 := S1.trans S3
          obtain ⟨n2, rfl⟩ : ∃ n2 : Nat, r = n2 := ⟨r.toNat, by omega⟩
          have rc : (n2 : Nat) * (1 + cT d) ≤ 2 * (1 + cT d) := Nat.mul_le_mul_right _ (by omega)
          refine ⟨(n2 : Int), rfl, by omega, by omega, fun D nD => lc_range (lo := 0) (n := ((n2 : Nat) : Int).toNat) (fun i H => Col fD (fun p => p.1 ∈ K4.okN ∧ K4.tE p.2 d) H3 b D n2 m (1 + cT d) i H) (Col.start (Sm.refl _ _) (B3.mono (by omega)) nD) ?_ ?_⟩
          · intro i H4 hi t
            rw [Int.toNat_natCast] at hi
            have hD : D ≠ b := fun z => B3.there (by rw [← z]; exact nD)
            obtain ⟨kk, ek, B⟩ := t.turn hi
            refine ⟨rfl, ?_⟩
            walk_at "rd"
            refine ⟨b, m + kk * (1 + cT d) + cT d, rfl, B.mono (by omega), fun x H5 hx B5 S5 => ?_⟩
            walk_at "rd"
            refine callT _ (m + kk * (1 + cT d)) _ B5 fun e v H6 he hv B6 S6 => ⟨sz rfl, fun q nq => ?_⟩
            exact t.next (a := (x, e)) ek nD hD ⟨hx, he⟩ (va_new nq (.cons (.str _) (.cons hv .nil))) (B6.new nq) ((S5.trans S6).upd_new nq) (by omega)
          · intro H4 t
            rw [Int.toNat_natCast] at t
            obtain ⟨es, vs, len, hes, at_, va, B, S⟩ := t.done
            rw [← fsD_map] at va
            refine ⟨D, vs, rfl, .inl ⟨sq_of at_, fun l nl => ⟨sz rfl, fun t nt => ?_⟩⟩⟩
            refine k (.new es) _ _ ⟨Nat.succ_pos _, by omega, tEf_all hes⟩ (va_new nt (.cons (.str _) (.cons (va_new nl va) .nil))) ((B.new nl).new nt) (((S13.trans S).upd_new nl).upd_new nt)
        · -- a field
          walk_at "rd"
          refine callT _ (m + 4) _ (B1.mono (by have := cT_pos d; omega)) fun e3 v3 H3 he3 hv3 B3 S3 => ?_
          walk_at "rd"
          refine ⟨b, m, rfl, B3.mono (by omega), fun f H4 hf B4 S4 => ⟨sz rfl, fun t nt => ?_⟩⟩
          exact k (.get e3 f) _ _ ⟨Nat.succ_pos _, he3, hf⟩ (va_new nt (.cons (.str _) (.cons (hv3.keep (S4.tp B3.notup)) (.cons (.str _) .nil)))) (B4.new nt) (((S1.trans S3).trans S4).upd_new nt)
end
end W4
set_option Elab.async false
set_option linter.all false
set_option maxRecDepth 100000
set_option maxHeartbeats 4000000
set_option pp.maxSteps 400
namespace W4
open PySem PySem.Spec PyProof.Rows L2
local macro_rules | `(tactic| walk_at "rd") => `(tactic| repeat (first | refine ⟨_, rfl, ?_⟩ | refine ⟨_, _, rfl, rfl, ?_⟩ | refine ⟨rfl, _, rfl, ?_⟩))
abbrev N_q_names : List Str := ["_law_box_here", "_law_most", "_law_k"]
abbrev P_q_names : List Str := ["_law_box_here", "_law_most"]
theorem sc_q_names : FnScope N_q_names P_q_names (defScope s_q_names) := ⟨rfl, rfl, rfl, by decide +kernel, rfl, by decide +kernel, by decide +kernel⟩
theorem bd_q_names (kV doc pm : Value) (an : Option Addr) (cdv ct : Value) (us : List Value) (hl : us.length = P_q_names.length) : bindArgs (PySem.W.fnOf d_q_names.name d_q_names.qual d_q_names.params d_q_names.body d_q_names.scope .none kV doc pm an cdv ct) ⟨us, []⟩ = pure (P_q_names.zip us) := match us, hl with | [_, _], _ => rfl
abbrev N_q_tree_part : List Str := ["_law_box_here", "_law_deep", "_law_way", "_law_record", "_law_k", "_law_args"]
abbrev P_q_tree_part : List Str := ["_law_box_here", "_law_deep"]
theorem sc_q_tree_part : FnScope N_q_tree_part P_q_tree_part (defScope s_q_tree_part) := ⟨rfl, rfl, rfl, by decide +kernel, rfl, by decide +kernel, by decide +kernel⟩
theorem bd_q_tree_part (kV doc pm : Value) (an : Option Addr) (cdv ct : Value) (us : List Value) (hl : us.length = P_q_tree_part.length) : bindArgs (PySem.W.fnOf d_q_tree_part.name d_q_tree_part.qual d_q_tree_part.params d_q_tree_part.body d_q_tree_part.scope .none kV doc pm an cdv ct) ⟨us, []⟩ = pure (P_q_tree_part.zip us) := match us, hl with | [_, _], _ => rfl
abbrev N_q_tree_block : List Str := ["_law_box_here", "_law_most", "_law_inner", "_law_deep", "_law_found", "_law_k", "_law_way", "_law_side", "_law_blocks", "_law_name_here"]
abbrev P_q_tree_block : List Str := ["_law_box_here", "_law_most", "_law_inner", "_law_deep"]
theorem sc_q_tree_block : FnScope N_q_tree_block P_q_tree_block (defScope s_q_tree_block) := ⟨rfl, rfl, rfl, by decide +kernel, rfl, by decide +kernel, by decide +kernel⟩
theorem bd_q_tree_block (kV doc pm : Value) (an : Option Addr) (cdv ct : Value) (us : List Value) (hl : us.length = P_q_tree_block.length) : bindArgs (PySem.W.fnOf d_q_tree_block.name d_q_tree_block.qual d_q_tree_block.params d_q_tree_block.body d_q_tree_block.scope .none kV doc pm an cdv ct) ⟨us, []⟩ = pure (P_q_tree_block.zip us) := match us, hl with | [_, _, _, _], _ => rfl
abbrev N_q_tree_program : List Str := ["_law_box_here", "_law_nested", "_law_found", "_law_k", "_law_name_here", "_law_params"]
abbrev P_q_tree_program : List Str := ["_law_box_here"]
theorem sc_q_tree_program : FnScope N_q_tree_program P_q_tree_program (defScope s_q_tree_program) := ⟨rfl, rfl, rfl, by decide +kernel, rfl, by decide +kernel, by decide +kernel⟩
theorem bd_q_tree_program (kV doc pm : Value) (an : Option Addr) (cdv ct : Value) (us : List Value) (hl : us.length = P_q_tree_program.length) : bindArgs (PySem.W.fnOf d_q_tree_program.name d_q_tree_program.qual d_q_tree_program.params d_q_tree_program.body d_q_tree_program.scope .none kV doc pm an cdv ct) ⟨us, []⟩ = pure (P_q_tree_program.zip us) := match us, hl with | [_], _ => rfl
section
variable {P : Program} {w : World} {K : PySem.W.Frag} {mg : Str → Option Value} {base : Heap}
def spNames : Sp := fun vs H Q _ => ∃ (b : Addr) (m : Nat), vs = [.ref b, .int 2] ∧ Bx H b (m + 3) ∧ ∀ (ps : List Str) (v : V) (H' : Hp), ps.length ≤ 2 → (∀ p ∈ ps, p ∈ K4.okN) → Va H' v (.tuple (ps.map PyData.str)) → Bx H' b m → Sm b H H' → Q v H'
theorem ok_names (T : Txt K mg w) : Clb P w K mg base CX0 4 "_law_names" spNames := by
  have c_q_take := ok_take (P := P) (base := base) T
  have c_q_name := ok_name (P := P) (base := base) T
  refine T.clb (d := d_q_names) m_q_names rfl T.g_q_names rfl rfl sc_q_names bd_q_names (fun vs H Q E h => ?_) (fun cdv A outer s H vs Q E hr h => ?_)
  · obtain ⟨b, m, rfl, _⟩ := h
    rfl
  · obtain ⟨b, m, rfl, B1, k⟩ := h
    refine ⟨_, (pss_one (ps_ret (pe_callTy call_tuple_of (by rfl) T.f_tuple (by decide +kernel) (pa_cons (pe_lc (own := [("_law_k", 2)]) (g := gName 2) rfl sc_q_names.nd (pi_range1 (by rfl) T.f_range (pa_cons (pe_cl c_q_take hr (by first | decide | omega) pass0 (by rfl) (pa_cons (pv 0) (pa_cons (pe_op op_add (pv 1) pe_int) pa_nil))) pa_nil)) (blkOk_by (own := [("_law_k", 2)]) (N := N_q_names) (sc := defScope s_q_names) (by decide +kernel)) (fun _ _ _ _ _ => pg_name (i := 2) sc_q_names.nd rfl (.inl rfl)) (fun _ _ _ _ _ => pts_nil) (fun _ _ _ _ _ => (pe_cl c_q_name hr (by first | decide | omega) pass0 (by rfl) (pa_cons (pv 0) pa_nil)))) pa_nil)))), ?_⟩
    walk_at "rd"
    refine ⟨b, 3, m + 2, rfl, by decide, by decide, B1, fun r H3 r0 r1 B3 S3 => ?_⟩
    obtain ⟨n2, rfl⟩ : ∃ n2 : Nat, r = n2 := ⟨r.toNat, by omega⟩
    refine ⟨(n2 : Int), rfl, by omega, by omega, fun D nD => lc_range (lo := 0) (n := ((n2 : Nat) : Int).toNat) (fun i H => Col PyData.str (fun p => p ∈ K4.okN) H3 b D n2 m 1 i H) (Col.start (Sm.refl _ _) (B3.mono (by omega)) nD) ?_ ?_⟩
    · intro i H4 hi t
      rw [Int.toNat_natCast] at hi
      have hD : D ≠ b := fun z => B3.there (by rw [← z]; exact nD)
      obtain ⟨kk, ek, B⟩ := t.turn hi
      refine ⟨rfl, ?_⟩
      walk_at "rd"
      refine ⟨b, m + kk * 1, rfl, B, fun x H5 hx B5 S5 => ?_⟩
      exact t.next ek nD hD hx (.str x) B5 S5 (by omega)
    · intro H4 t
      rw [Int.toNat_natCast] at t
      obtain ⟨ps, vs, len, hps, at_, va, B, S⟩ := t.done
      exact ⟨D, vs, rfl, .inl ⟨sq_of at_, fun l nl => k ps _ _ (by omega) hps (va_new nl va) (B.new nl) ((S3.trans S).upd_new nl)⟩⟩
theorem fold_snoc (path : List Str) (f x : Str) : ((path ++ [f]).foldl K4.Ex.get (K4.Ex.var x)).toD = .tuple [.str "get", (path.foldl K4.Ex.get (K4.Ex.var x)).toD, .str f] := by
  rw [List.foldl_append]
  rfl
def spPart : Sp := fun vs H Q _ => ∃ (b : Addr) (dp m : Nat), vs = [.ref b, .int dp] ∧ 1 ≤ dp ∧ dp ≤ 2 ∧ Bx H b (m + 8 + 2 * cT dp) ∧ ∀ (e : K4.St) (v : V) (H' : Hp), (∀ i, K4.tS e i dp) → K4.isHere e = false → Va H' v e.toD → Bx H' b m → Sm b H H' → Q v H'
theorem ok_part (T : Txt K mg w) : Clb P w K mg base CX0 8 "_law_tree_part" spPart := by
  have c_q_take := ok_take (P := P) (base := base) T
  have c_q_name := ok_name (P := P) (base := base) T
  have c_q_tree := ok_tree (P := P) (base := base) T 3
  refine T.clb (d := d_q_tree_part) m_q_tree_part rfl T.g_q_tree_part rfl rfl sc_q_tree_part bd_q_tree_part (fun vs H Q E h => ?_) (fun cdv A outer s H vs Q E hr h => ?_)
  · obtain ⟨b, dp, m, rfl, _⟩ := h
    rfl
  · obtain ⟨b, dp, m, rfl, dp1, dp2, hb, k⟩ := h
    refine ⟨_, (pss_cons (ps_set (i := 2) sc_q_tree_part.nd rfl (.inl rfl) (pe_cl c_q_take hr (by first | decide | omega) pass0 (by rfl) (pa_cons (pv 0) (pa_cons pe_int pa_nil))))
    (pss_cons (ps_if (pt_cmpR op_eq (pv 2) pe_int (nomark _))
    (pss_one (ps_ret (pe_tup (pa_cons pe_str (pa_cons (pe_cl c_q_name hr (by first | decide | omega) pass0 (by rfl) (pa_cons (pv 0) pa_nil)) (pa_cons (pe_cl c_q_tree hr (by first | decide | omega) pass0 (by rfl) (pa_cons (pv 0) (pa_cons (pv 1) pa_nil))) pa_nil))))))
    pss_nil)
    (pss_cons (ps_if (pt_cmpR op_eq (pv 2) pe_int (nomark _))
    (pss_one (ps_ret (pe_tup (pa_cons pe_str (pa_cons (pe_cl c_q_name hr (by first | decide | omega) pass0 (by rfl) (pa_cons (pv 0) pa_nil)) (pa_cons (pe_cl c_q_tree hr (by first | decide | omega) pass0 (by rfl) (pa_cons (pv 0) (pa_cons (pv 1) pa_nil))) pa_nil))))))
    pss_nil)
    (pss_cons (ps_if (pt_cmpR op_eq (pv 2) pe_int (nomark _))
    (pss_cons (ps_set (i := 3) sc_q_tree_part.nd rfl (.inl rfl) (pe_tup (pa_cons pe_str (pa_cons (pe_cl c_q_name hr (by first | decide | omega) pass0 (by rfl) (pa_cons (pv 0) pa_nil)) pa_nil))))
    (pss_cons (ps_for PassesOwn.never rfl (pi_range1 (by rfl) T.f_range (pa_cons (pe_cl c_q_take hr (by first | decide | omega) pass0 (by rfl) (pa_cons (pv 0) (pa_cons pe_int pa_nil))) pa_nil)) (pg_name (i := 4) sc_q_tree_part.nd rfl (.inl rfl))
    (pss_one (ps_set (i := 3) sc_q_tree_part.nd rfl (.inl rfl) (pe_tup (pa_cons pe_str (pa_cons (pv 3) (pa_cons (pe_cl c_q_name hr (by first | decide | omega) pass0 (by rfl) (pa_cons (pv 0) pa_nil)) pa_nil)))))))
    (pss_one (ps_ret (pe_tup (pa_cons pe_str (pa_cons (pv 3) (pa_cons (pe_cl c_q_name hr (by first | decide | omega) pass0 (by rfl) (pa_cons (pv 0) pa_nil)) (pa_cons (pe_cl c_q_tree hr (by first | decide | omega) pass0 (by rfl) (pa_cons (pv 0) (pa_cons (pv 1) pa_nil))) pa_nil)))))))))
    pss_nil)
    (pss_cons (ps_if (pt_cmpR op_lt (pv 2) pe_int (nomark _))
    (pss_cons (ps_set (i := 5) sc_q_tree_part.nd rfl (.inl rfl) (pe_callTy call_tuple_of (by rfl) T.f_tuple (by decide +kernel) (pa_cons (pe_lc (own := [("_law_k", 4)]) (g := gName 4) rfl sc_q_tree_part.nd (pi_range1 (by rfl) T.f_range (pa_cons (pe_cl c_q_take hr (by first | decide | omega) pass0 (by rfl) (pa_cons (pv 0) (pa_cons pe_int pa_nil))) pa_nil)) (blkOk_by (own := [("_law_k", 4)]) (N := N_q_tree_part) (sc := defScope s_q_tree_part) (by decide +kernel)) (fun _ _ _ _ _ => pg_name (i := 4) sc_q_tree_part.nd rfl (.inl rfl)) (fun _ _ _ _ _ => pts_nil) (fun _ _ _ _ _ => (pe_cl c_q_tree hr (by first | decide | omega) pass0 (by rfl) (pa_cons (pv 0) (pa_cons (pe_op op_sub (pv 1) pe_int) pa_nil))))) pa_nil)))
    (pss_one (ps_ret (pe_ifExp (pt_cmpR op_eq (pv 2) pe_int (nomark _)) (pe_tup (pa_cons pe_str (pa_cons (pe_tup (pa_cons pe_str (pa_cons (pe_cl c_q_name hr (by first | decide | omega) pass0 (by rfl) (pa_cons (pv 0) pa_nil)) (pa_cons (pv 5) pa_nil)))) pa_nil))) (pe_tup (pa_cons pe_str (pa_cons (pe_cl c_q_name hr (by first | decide | omega) pass0 (by rfl) (pa_cons (pv 0) pa_nil)) (pa_cons (pv 5) pa_nil))))))))
    pss_nil)
    (pss_cons (ps_if (pt_cmpR op_eq (pv 2) pe_int (nomark _))
    (pss_one (ps_ret (pe_tup (pa_cons pe_str (pa_cons (pe_cl c_q_name hr (by first | decide | omega) pass0 (by rfl) (pa_cons (pv 0) pa_nil)) (pa_cons (pe_cl c_q_tree hr (by first | decide | omega) pass0 (by rfl) (pa_cons (pv 0) (pa_cons (pv 1) pa_nil))) pa_nil))))))
    pss_nil)
    (pss_one (ps_ret (pe_tup (pa_cons (pe_ix ix_list (pe_lst (pa_cons pe_str (pa_cons pe_str pa_nil))) (pe_op op_sub (pv 2) pe_int) (fun _ _ => rfl)) (pa_cons (pe_cl c_q_tree hr (by first | decide | omega) pass0 (by rfl) (pa_cons (pv 0) (pa_cons (pv 1) pa_nil))) pa_nil))))))))))), ?_⟩
    have cp := cT_pos dp
    have callT : ∀ (H1 : Hp) (m : Nat) (Q : VK), Bx H1 b (m + cT dp) → (∀ (e : K4.Ex) (v : V) (H' : Hp), K4.tE e dp → Va H' v e.toD → Bx H' b m → Sm b H1 H' → Q v H') → spTree 3 [V.ref b, V.int (dp : Int)] H1 Q E0 := fun H1 m Q hB q =>
      ⟨b, dp, m, rfl, by omega, hB, q⟩
    obtain ⟨d, rfl⟩ : ∃ d, dp = d + 1 := ⟨dp - 1, by omega⟩
    have cd : cT (d + 1) = 8 + 2 * cT d := rfl
    have callD : ∀ (H1 : Hp) (m : Nat) (Q : VK), Bx H1 b (m + cT d) → (∀ (e : K4.Ex) (v : V) (H' : Hp), K4.tE e d → Va H' v e.toD → Bx H' b m → Sm b H1 H' → Q v H') → spTree 3 [V.ref b, V.int (((d + 1 : Nat) : Int) - 1)] H1 Q E0 := fun H1 m Q hB q =>
      ⟨b, d, m, by rw [show (((d + 1 : Nat) : Int) - 1) = (d : Int) by omega], by omega, hB, q⟩
    generalize ec : cT (d + 1) = c at *
    walk_at "rd"
    refine ⟨b, 8, m + 7 + 2 * c, rfl, by decide, by decide, hb.mono (by omega), fun way H1 w0 w1 B1 S1 => ?_⟩
    have hw : way = 0 ∨ way = 1 ∨ way = 2 ∨ way = 3 ∨ way = 4 ∨ way = 5 ∨ way = 6 ∨ way = 7 := by omega
    rcases hw with rfl | rfl | rfl | rfl | rfl | rfl | rfl | rfl
    · walk_at "rd"
      refine ⟨b, m + c, rfl, B1.mono (by omega), fun x H2 hx B2 S2 => ?_⟩
      walk_at "rd"
      refine callT _ m _ B2 fun e v H3 he hv B3 S3 => ⟨sz rfl, fun t nt => ?_⟩
      exact k (.lt x e) _ _ (fun _ => ⟨hx, he⟩) rfl (va_new nt (.cons (.str _) (.cons (.str _) (.cons hv .nil)))) (B3.new nt) (((S1.trans S2).trans S3).upd_new nt)
    · walk_at "rd"
      refine ⟨b, m + c, rfl, B1.mono (by omega), fun x H2 hx B2 S2 => ?_⟩
      walk_at "rd"
      refine callT _ m _ B2 fun e v H3 he hv B3 S3 => ⟨sz rfl, fun t nt => ?_⟩
      exact k (.st x e) _ _ (fun _ => ⟨hx, he⟩) rfl (va_new nt (.cons (.str _) (.cons (.str _) (.cons hv .nil)))) (B3.new nt) (((S1.trans S2).trans S3).upd_new nt)
    · walk_at "rd"
      refine ⟨b, m + c + 4, rfl, B1.mono (by omega), fun x H2 hx B2 S2 => ⟨sz rfl, fun t nt => ?_⟩⟩
      walk_at "rd"
      refine ⟨b, 3, m + c + 3, rfl, by decide, by decide, B2.new nt, fun r H3 r0 r1 B3 S3 => ?_⟩
      obtain ⟨n2, rfl⟩ : ∃ n2 : Nat, r = n2 := ⟨r.toNat, by omega⟩
      have S13 := ((S1.trans S2).upd_new nt).trans S3
      refine ⟨(n2 : Int), rfl, by omega, by omega, for_range (lo := 0) (n := ((n2 : Nat) : Int).toNat) (fun i σ H => ∃ (path : List Str) (rc : V) (y : Option V), path.length = i ∧ (∀ g ∈ path, g ∈ K4.okN) ∧ σ = [some (.ref b), some (.int ((d + 1 : Nat) : Int)), some (.int 2), some rc, y, none] ∧
        Va H rc (path.foldl K4.Ex.get (K4.Ex.var x)).toD ∧ Bx H b (m + c + 1 + (2 - i)) ∧ Sm b H3 H) ?_ ?_ ?_⟩
      · exact ⟨[], _, _, rfl, (fun _ h => by cases h), rfl, (va_new nt (.cons (.str _) (.cons (.str _) .nil))).keep (S3.tp (B2.new nt).notup), B3.mono (by omega), Sm.refl _ _⟩
      · rintro i σ H4 hi ⟨path, rc, y, len, hp, rfl, hv, B4, S4⟩
        rw [Int.toNat_natCast] at hi
        walk_at "rd"
        refine ⟨b, m + c + 1 + (2 - (i + 1)), rfl, B4.mono (by omega), fun f H5 hf B5 S5 => ⟨sz rfl, fun t nt => ?_⟩⟩
        refine ⟨path ++ [f], _, _, by simp [len], fun g hg => ?_, rfl, ?_, B5.new nt, (S4.trans S5).upd_new nt⟩
        · rcases List.mem_append.mp hg with h | h
          · exact hp g h
          · rw [List.mem_singleton.mp h]
            exact hf
        · rw [fold_snoc]
          exact va_new nt (.cons (.str _) (.cons (hv.keep (S5.tp B4.notup)) (.cons (.str _) .nil)))
      · rintro σ H4 ⟨path, rc, y, len, hp, rfl, hv, B4, S4⟩
        rw [Int.toNat_natCast] at len
        walk_at "rd"
        refine ⟨b, m + c, rfl, B4.mono (by omega), fun f H5 hf B5 S5 => ?_⟩
        walk_at "rd"
        refine callT _ m _ B5 fun e v H6 he hv6 B6 S6 => ⟨sz rfl, fun t nt => ?_⟩
        have tp := (S5.trans S6).tp B4.notup
        exact k (.put _ f e) _ _ (fun _ => ⟨⟨x, path, hx, by omega, hp, rfl⟩, hf, he⟩) rfl (va_new nt (.cons (.str _) (.cons (hv.keep tp) (.cons (.str _) (.cons hv6 .nil))))) (B6.new nt) ((((S13.trans S4).trans S5).trans S6).upd_new nt)
    · walk_at "rd"
      refine ⟨b, 3, m + 1 + 2 * cT d, rfl, by decide, by decide, B1.mono (by omega), fun r H3 r0 r1 B3 S3 => ?_⟩
      obtain ⟨n2, rfl⟩ : ∃ n2 : Nat, r = n2 := ⟨r.toNat, by omega⟩
      have rc : (n2 : Nat) * cT d ≤ 2 * cT d := Nat.mul_le_mul_right _ (by omega)
      refine ⟨(n2 : Int), rfl, by omega, by omega, fun D nD => lc_range (lo := 0) (n := ((n2 : Nat) : Int).toNat) (fun i H => Col K4.Ex.toD (fun e => K4.tE e d) H3 b D n2 (m + 1) (cT d) i H) (Col.start (Sm.refl _ _) (B3.mono (by omega)) nD) ?_ ?_⟩
      · intro i H4 hi t
        rw [Int.toNat_natCast] at hi
        have hD : D ≠ b := fun z => B3.there (by rw [← z]; exact nD)
        obtain ⟨kk, ek, B⟩ := t.turn hi
        refine ⟨rfl, ?_⟩
        walk_at "rd"
        refine callD _ (m + 1 + kk * cT d) _ B fun e v H5 he hv B5 S5 => ?_
        exact t.next ek nD hD he hv B5 S5 (by omega)
      · intro H4 t
        rw [Int.toNat_natCast] at t
        obtain ⟨es, vs, len, hes, at_, va, B, S⟩ := t.done
        rw [← exsD_map] at va
        refine ⟨D, vs, rfl, .inl ⟨sq_of at_, fun l nl => ?_⟩⟩
        walk_at "rd"
        refine ⟨b, m, rfl, B.new nl, fun f H5 hf B5 S5 => ?_⟩
        have vl := (va_new nl va).keep (S5.tp (B.new nl).notup)
        have S15 := (((S1.trans S3).trans S).upd_new nl).trans S5
        walk_at "rd"
        refine ⟨sz rfl, fun t nt => ⟨sz rfl, fun u nu => ?_⟩⟩
        exact k (.act f es) _ _ (fun _ => ⟨hf, by omega, tEs_all hes⟩) rfl (va_new nu (.cons (.str _) (.cons (va_new nt (.cons (.str _) (.cons (.str _) (.cons vl .nil)))) .nil))) ((B5.new nt).new nu) ((S15.upd_new nt).upd_new nu)
    · walk_at "rd"
      refine ⟨b, 3, m + 1 + 2 * cT d, rfl, by decide, by decide, B1.mono (by omega), fun r H3 r0 r1 B3 S3 => ?_⟩
      obtain ⟨n2, rfl⟩ : ∃ n2 : Nat, r = n2 := ⟨r.toNat, by omega⟩
      have rc : (n2 : Nat) * cT d ≤ 2 * cT d := Nat.mul_le_mul_right _ (by omega)
      refine ⟨(n2 : Int), rfl, by omega, by omega, fun D nD => lc_range (lo := 0) (n := ((n2 : Nat) : Int).toNat) (fun i H => Col K4.Ex.toD (fun e => K4.tE e d) H3 b D n2 (m + 1) (cT d) i H) (Col.start (Sm.refl _ _) (B3.mono (by omega)) nD) ?_ ?_⟩
      · intro i H4 hi t
        rw [Int.toNat_natCast] at hi
        have hD : D ≠ b := fun z => B3.there (by rw [← z]; exact nD)
        obtain ⟨kk, ek, B⟩ := t.turn hi
        refine ⟨rfl, ?_⟩
        walk_at "rd"
        refine callD _ (m + 1 + kk * cT d) _ B fun e v H5 he hv B5 S5 => ?_
        exact t.next ek nD hD he hv B5 S5 (by omega)
      · intro H4 t
        rw [Int.toNat_natCast] at t
        obtain ⟨es, vs, len, hes, at_, va, B, S⟩ := t.done
        rw [← exsD_map] at va
        refine ⟨D, vs, rfl, .inl ⟨sq_of at_, fun l nl => ?_⟩⟩
        walk_at "rd"
        refine ⟨b, m, rfl, B.new nl, fun f H5 hf B5 S5 => ?_⟩
        have vl := (va_new nl va).keep (S5.tp (B.new nl).notup)
        have S15 := (((S1.trans S3).trans S).upd_new nl).trans S5
        walk_at "rd"
        refine ⟨sz rfl, fun t nt => ?_⟩
        exact k (.spawn f es) _ _ (fun _ => ⟨hf, by omega, tEs_all hes⟩) rfl (va_new nt (.cons (.str _) (.cons (.str _) (.cons vl .nil)))) (B5.new nt) (S15.upd_new nt)
    · walk_at "rd"
      refine ⟨b, m + c, rfl, B1.mono (by omega), fun x H2 hx B2 S2 => ?_⟩
      walk_at "rd"
      refine callT _ m _ B2 fun e v H3 he hv B3 S3 => ⟨sz rfl, fun t nt => ?_⟩
      exact k (.send x e) _ _ (fun _ => ⟨hx, he⟩) rfl (va_new nt (.cons (.str _) (.cons (.str _) (.cons hv .nil)))) (B3.new nt) (((S1.trans S2).trans S3).upd_new nt)
    · walk_at "rd"
      refine ⟨sz rfl, fun l nl => ?_⟩
      walk_at "rd"
      refine ⟨l, _, _, .str "return", rfl, rfl, sq_of upd_same, rfl, ?_⟩
      walk_at "rd"
      refine callT _ m _ ((B1.new nl).mono (by omega)) fun e v H3 he hv B3 S3 => ⟨sz rfl, fun t nt => ?_⟩
      exact k (.ret e) _ _ (fun _ => he) rfl (va_new nt (.cons (.str _) (.cons hv .nil))) (B3.new nt) (((S1.upd_new nl).trans S3).upd_new nt)
    · walk_at "rd"
      refine ⟨sz rfl, fun l nl => ?_⟩
      walk_at "rd"
      refine ⟨l, _, _, .str "throw", rfl, rfl, sq_of upd_same, rfl, ?_⟩
      walk_at "rd"
      refine callT _ m _ ((B1.new nl).mono (by omega)) fun e v H3 he hv B3 S3 => ⟨sz rfl, fun t nt => ?_⟩
      exact k (.thr e) _ _ (fun _ => he) rfl (va_new nt (.cons (.str _) (.cons hv .nil))) (B3.new nt) (((S1.upd_new nl).trans S3).upd_new nt)
theorem at_new {H : Hp} {p q : Addr} {o u : HO} (h : H p = some u) (n : H q = none) : upd H q o p = some u := (upd_ne (ne_of_none h n)).trans h
def cI (dp : Nat) : Nat → Nat
  | 0 => 20 + 2 * cT dp
  | i + 1 => 20 + 2 * cT dp + 2 * (1 + cI dp i)
theorem cI_pos (dp : Nat) : ∀ i, 20 + 2 * cT dp ≤ cI dp i
  | 0 => Nat.le_refl _
  | i + 1 => by
    show 20 + 2 * cT dp ≤ 20 + 2 * cT dp + 2 * (1 + cI dp i)
    omega
theorem tSs_all {i dp : Nat} : ∀ {es : List K4.St}, (∀ e ∈ es, K4.tS e i dp) → K4.tSs es i dp
  | [], _ => True.intro
  | e :: r, h => ⟨h e (List.mem_cons_self ..), tSs_all fun x hx => h x (List.mem_cons_of_mem _ hx)⟩
def spBlock (n : Nat) : Sp := fun vs H Q _ => ∃ (b : Addr) (mo i dp m : Nat), vs = [.ref b, .int mo, .int i, .int dp] ∧ i < n ∧ mo ≤ 2 ∧ 1 ≤ dp ∧ dp ≤ 2 ∧ Bx H b (m + mo * cI dp i + 1) ∧
  ∀ (bl : List K4.St) (v : V) (H' : Hp), bl.length ≤ mo → K4.tSs bl i dp → Va H' v (.tuple (K4.stsD bl)) → Bx H' b m → Sm b H H' → Q v H'
theorem ok_block (T : Txt K mg w) : ∀ n, Clb P w K mg base CX0 (8 + n) "_law_tree_block" (spBlock n)
  | 0 => T.none (d := d_q_tree_block) m_q_tree_block rfl T.g_q_tree_block rfl rfl 7 sc_q_tree_block bd_q_tree_block fun vs H Q E ⟨b, mo, i, dp, m, _, h, _⟩ => Nat.not_lt_zero _ h
  | n + 1 => by
    have c_q_take := ok_take (P := P) (base := base) T
    have c_q_name := ok_name (P := P) (base := base) T
    have c_q_tree := ok_tree (P := P) (base := base) T 3
    have c_q_tree_part := ok_part (P := P) (base := base) T
    have c_q_tree_block := ok_block T n
    refine T.clb (k := 8 + n) (d := d_q_tree_block) m_q_tree_block rfl T.g_q_tree_block rfl rfl sc_q_tree_block bd_q_tree_block (fun vs H Q E h => ?_) (fun cdv A outer s H vs Q E hr h => ?_)
    · obtain ⟨b, mo, i, dp, m, rfl, _⟩ := h
      rfl
    · obtain ⟨b, mo, i, dp, m, rfl, inn, mo2, dp1, dp2, hb, k⟩ := h
      refine ⟨_, (pss_cons (ps_set (i := 4) sc_q_tree_block.nd rfl (.inl rfl) (pe_lst pa_nil))
    (pss_cons (ps_for PassesOwn.never rfl (pi_range1 (by rfl) T.f_range (pa_cons (pe_cl c_q_take hr (by first | decide | omega) pass0 (by rfl) (pa_cons (pv 0) (pa_cons (pe_op op_add (pv 1) pe_int) pa_nil))) pa_nil)) (pg_name (i := 5) sc_q_tree_block.nd rfl (.inl rfl))
    (C8.pss_cut (ps_set (i := 6) sc_q_tree_block.nd rfl (.inl rfl) (pe_ifExp (pt_cmpR op_gt (pv 2) pe_int (nomark _)) (pe_cl c_q_take hr (by first | decide | omega) pass0 (by rfl) (pa_cons (pv 0) (pa_cons pe_int pa_nil))) pe_int))
    (C8.pss_cut (ps_if (pt_cmpR op_lt (pv 6) pe_int (nomark _))
    (pss_cons (ps_setLc (i := 8) (own := [("_law_side", 7)]) (g := gName 7) rfl sc_q_tree_block.nd rfl rfl (sw_true rfl rfl rfl (by decide +kernel)) (pi_range1 (by rfl) T.f_range (pa_cons pe_int pa_nil)) (blkOk_by (own := [("_law_side", 7)]) (N := N_q_tree_block) (sc := defScope s_q_tree_block) (by decide +kernel)) (fun _ _ _ _ _ => pg_name (i := 7) sc_q_tree_block.nd rfl (.inl rfl)) (fun _ _ _ _ _ => pts_nil) (fun _ _ _ _ _ => (pe_cl c_q_tree_block hr (by first | decide | omega) pass0 (by rfl) (pa_cons (pv 0) (pa_cons pe_int (pa_cons (pe_op op_sub (pv 2) pe_int) (pa_cons (pv 3) pa_nil)))))))
    (pss_one (ps_expr (pe_bm PySem.F.plainAttrs_list PySem.F.slot_list_append PySem.F.type_list_append mt_append (pv 4) (pa_cons (pe_tup (pa_cons pe_str (pa_cons (pe_cl c_q_tree hr (by first | decide | omega) pass0 (by rfl) (pa_cons (pv 0) (pa_cons (pv 3) pa_nil))) (pa_cons (pe_ix ix_list (pv 8) pe_int (fun _ _ => rfl)) (pa_cons (pe_ix ix_list (pv 8) pe_int (fun _ _ => rfl)) pa_nil))))) pa_nil)))))
    (pss_one (ps_if (pt_cmpR op_eq (pv 6) pe_int (nomark _))
    (pss_one (ps_expr (pe_bm PySem.F.plainAttrs_list PySem.F.slot_list_append PySem.F.type_list_append mt_append (pv 4) (pa_cons (pe_tup (pa_cons pe_str (pa_cons (pe_cl c_q_tree hr (by first | decide | omega) pass0 (by rfl) (pa_cons (pv 0) (pa_cons (pv 3) pa_nil))) (pa_cons (pe_cl c_q_tree_block hr (by first | decide | omega) pass0 (by rfl) (pa_cons (pv 0) (pa_cons pe_int (pa_cons (pe_op op_sub (pv 2) pe_int) (pa_cons (pv 3) pa_nil))))) pa_nil)))) pa_nil))))
    (pss_one (ps_if (pt_cmpR op_eq (pv 6) pe_int (nomark _))
    (pss_cons (ps_set (i := 9) sc_q_tree_block.nd rfl (.inl rfl) (pe_cl c_q_name hr (by first | decide | omega) pass0 (by rfl) (pa_cons (pv 0) pa_nil)))
    (pss_cons (ps_setLc (i := 8) (own := [("_law_side", 7)]) (g := gName 7) rfl sc_q_tree_block.nd rfl rfl (sw_true rfl rfl rfl (by decide +kernel)) (pi_range1 (by rfl) T.f_range (pa_cons pe_int pa_nil)) (blkOk_by (own := [("_law_side", 7)]) (N := N_q_tree_block) (sc := defScope s_q_tree_block) (by decide +kernel)) (fun _ _ _ _ _ => pg_name (i := 7) sc_q_tree_block.nd rfl (.inl rfl)) (fun _ _ _ _ _ => pts_nil) (fun _ _ _ _ _ => (pe_cl c_q_tree_block hr (by first | decide | omega) pass0 (by rfl) (pa_cons (pv 0) (pa_cons pe_int (pa_cons (pe_op op_sub (pv 2) pe_int) (pa_cons (pv 3) pa_nil)))))))
    (pss_one (ps_expr (pe_bm PySem.F.plainAttrs_list PySem.F.slot_list_append PySem.F.type_list_append mt_append (pv 4) (pa_cons (pe_tup (pa_cons pe_str (pa_cons (pe_ix ix_list (pv 8) pe_int (fun _ _ => rfl)) (pa_cons (pv 9) (pa_cons (pe_ix ix_list (pv 8) pe_int (fun _ _ => rfl)) pa_nil))))) pa_nil))))))
    (pss_one (ps_expr (pe_bm PySem.F.plainAttrs_list PySem.F.slot_list_append PySem.F.type_list_append mt_append (pv 4) (pa_cons (pe_cl c_q_tree_part hr (by first | decide | omega) pass0 (by rfl) (pa_cons (pv 0) (pa_cons (pv 3) pa_nil))) pa_nil)))))))))
    (pss_one (ps_if (pt_cmpR op_eq (pe_cl c_q_take hr (by first | decide | omega) pass0 (by rfl) (pa_cons (pv 0) (pa_cons pe_int pa_nil))) pe_int (nomark _))
    (pss_one (ps_asg (pe_tup (pa_cons pe_str (pa_cons (pe_cl c_q_name hr (by first | decide | omega) pass0 (by rfl) (pa_cons (pv 0) pa_nil)) (pa_cons (pe_ix ix_list (pv 4) (pe_un un_neg pe_int) (fun _ _ => rfl)) pa_nil)))) (pg_sub (pv 4) (pe_un un_neg pe_int) set_list)))
    pss_nil)))))
    (pss_one (ps_ret (pe_callTy call_tuple_of (by rfl) T.f_tuple (by decide +kernel) (pa_cons (pv 4) pa_nil)))))), ?_⟩
      have cp := cI_pos dp i
      generalize ec : cI dp i = c at *
      -- found = []
      refine ⟨sz rfl, fun F nF => ?_⟩
      have Fb : F ≠ b := fun z => hb.there (by rw [← z]; exact nF)
      walk_at "rd"
      refine ⟨b, (mo : Int) + 1, m + mo * c, rfl, by omega, by omega, hb.new nF, fun r H1 r0 r1 B1 S1 => ?_⟩
      obtain ⟨n2, rfl⟩ : ∃ n2 : Nat, r = n2 := ⟨r.toNat, by omega⟩
      have rc : n2 * c ≤ mo * c := Nat.mul_le_mul_right _ (by omega)
      refine ⟨(n2 : Int), rfl, by omega, by omega, for_range (lo := 0) (n := ((n2 : Nat) : Int).toNat) (fun j σ H2 => ∃ (bl : List K4.St) (vs : List V) (q : Nat) (y5 y6 y7 y8 y9 : Option V), bl.length = j ∧ j + q = n2 ∧ (∀ e ∈ bl, K4.tS e i dp) ∧
        σ = [some (.ref b), some (.int mo), some (.int i), some (.int dp), some (.ref F), y5, y6, y7, y8, y9] ∧ H2 F = some (.lst vs) ∧ VaL H2 vs (bl.map K4.St.toD) ∧ Bx H2 b (m + q * c) ∧ Sm b H H2) ?_ ?_ ?_⟩
      · exact ⟨[], [], n2, _, _, _, _, _, rfl, by omega, (fun _ h => by cases h), rfl, S1 F _ upd_same Fb, .nil, B1.mono (by omega), (Sm.new nF).trans S1⟩
      · rintro j σ H2 hj ⟨bl, vs, q, y5, y6, y7, y8, y9, len, eq, hbl, rfl, at2, va2, B2, S2⟩
        rw [Int.toNat_natCast] at hj
        obtain ⟨q, rfl⟩ : ∃ q', q = q' + 1 := ⟨q - 1, by omega⟩
        rw [Nat.succ_mul] at B2
        have lv := va2.length
        rw [List.length_map] at lv
        -- the way
        refine ⟨fun σ' H3 => ∃ (way : Int), σ' = [some (.ref b), some (.int mo), some (.int i), some (.int dp), some (.ref F), some (.int (0 + (j : Int))), some (.int way), y7, y8, y9] ∧ (i = 0 → way = 5) ∧ 0 ≤ way ∧ way < 6 ∧ H3 F = some (.lst vs) ∧
          VaL H3 vs (bl.map K4.St.toD) ∧ Bx H3 b (m + q * c + (c - 1)) ∧ Sm b H H3, ?_, ?_⟩
        · walk_at "rd"
          refine ite2 (fun c0 => ?_) (fun c0 => ?_)
          · have i0 : i ≠ 0 := fun z => absurd (of_decide_eq_true c0) (by omega)
            walk_at "rd"
            refine ⟨b, 6, m + q * c + (c - 1), rfl, by decide, by decide, B2.mono (by omega), fun way H3 w0 w1 B3 S3 => ?_⟩
            exact ⟨way, rfl, fun z => absurd z i0, w0, w1, S3 F _ at2 Fb, va2.keep (S3.tp B2.notup), B3, S2.trans S3⟩
          · have i0 : i = 0 := by
              have : ¬ (0 : Int) < i := fun z => c0 (decide_eq_true z)
              omega
            exact ⟨5, rfl, fun _ => rfl, by decide, by decide, at2, va2, B2.mono (by omega), S2⟩
        rintro σ' H3 ⟨way, rfl, wi, w0, w1, at3, va3, B3, S3⟩
        have nt3 : ∀ xs, H3 b ≠ some (.tup xs) := B3.notup
        -- the statement
        refine ⟨fun σ' H4 => ∃ (e : K4.St) (v : V) (z7 z8 z9 : Option V), σ' = [some (.ref b), some (.int mo), some (.int i), some (.int dp), some (.ref F), some (.int (0 + (j : Int))), some (.int way), z7, z8, z9] ∧ K4.tS e i dp ∧ K4.isHere e = false ∧
          H4 F = some (.lst (vs ++ [v])) ∧ VaL H4 (vs ++ [v]) ((bl ++ [e]).map K4.St.toD) ∧ Bx H4 b (m + q * c + 2) ∧ Sm b H H4, ?_, ?_⟩
        · have fin : ∀ (Hn : Hp) (e : K4.St) (v : V) (z7 z8 z9 : Option V), K4.tS e i dp → K4.isHere e = false → Hn F = some (.lst vs) → VaL Hn vs (bl.map K4.St.toD) → Va Hn v e.toD → Bx Hn b (m + q * c + 2) → Sm b H Hn →
              ∃ (e' : K4.St) (v' : V) (z7' z8' z9' : Option V), [some (V.ref b), some (.int mo), some (.int i), some (.int dp), some (.ref F), some (.int (0 + (j : Int))), some (.int way), z7, z8, z9] = [some (.ref b), some (.int mo), some (.int i), some (.int dp), some (.ref F), some (.int (0 + (j : Int))), some (.int way), z7', z8', z9'] ∧ K4.tS e' i dp ∧ K4.isHere e' = false ∧
              upd Hn F (.lst (vs ++ [v])) F = some (.lst (vs ++ [v'])) ∧ VaL (upd Hn F (.lst (vs ++ [v]))) (vs ++ [v']) ((bl ++ [e']).map K4.St.toD) ∧ Bx (upd Hn F (.lst (vs ++ [v]))) b (m + q * c + 2) ∧ Sm b H (upd Hn F (.lst (vs ++ [v]))) := by
            intro Hn e v z7 z8 z9 h1 h2 h3 h4 h5 h6 h7
            refine ⟨e, v, z7, z8, z9, rfl, h1, h2, upd_same, ?_, h6.upd (Ne.symm Fb), h7.own nF⟩
            rw [List.map_append]
            exact (h4.app (.cons h5 .nil)).keep (Tp.upd (lst_notup h3))
          have lt : vs.length < sizeLine := Nat.lt_of_lt_of_le (show vs.length < 1001 by omega) (by decide)
          have callT : ∀ (H1 : Hp) (m : Nat) (Q : VK), Bx H1 b (m + cT dp) → (∀ (e : K4.Ex) (v : V) (H' : Hp), K4.tE e dp → Va H' v e.toD → Bx H' b m → Sm b H1 H' → Q v H') → spTree 3 [V.ref b, V.int (dp : Int)] H1 Q E0 := fun H1 m Q hB q =>
            ⟨b, dp, m, rfl, by omega, hB, q⟩
          walk_at "rd"
          refine ite2 (fun c0 => ?_) (fun c0 => ?_)
          · have i0 : i ≠ 0 := fun z => by
              have := wi z
              have : way < 2 := of_decide_eq_true c0
              omega
            obtain ⟨i', rfl⟩ : ∃ i', i = i' + 1 := ⟨i - 1, by omega⟩
            have ec' : 20 + 2 * cT dp + 2 * (1 + cI dp i') = c := ec
            have callB : ∀ (H1 : Hp) (m : Nat) (Q : VK), Bx H1 b (m + (1 + cI dp i')) → (∀ (x : List K4.St) (v : V) (H' : Hp), x.length ≤ 1 → K4.tSs x i' dp → Va H' v (.tuple (K4.stsD x)) → Bx H' b m → Sm b H1 H' → Q v H') →
                spBlock n [V.ref b, V.int 1, V.int (((i' + 1 : Nat) : Int) - 1), V.int dp] H1 Q E0 := fun H1 m Q hB q =>
              ⟨b, 1, i', dp, m, by rw [show (((i' + 1 : Nat) : Int) - 1) = (i' : Int) by omega] <;> rfl, by omega, by omega, dp1, dp2, hB.mono (by omega), q⟩
            · walk_at "rd"
              refine ⟨by decide, by decide, fun D nD => lc_range (lo := 0) (n := 2) (fun a Hx => Col (fun bl => PyData.tuple (K4.stsD bl)) (fun bl => bl.length ≤ 1 ∧ K4.tSs bl i' dp) H3 b D 2 (m + q * c + (cT dp + 2)) (1 + cI dp i') a Hx) (Col.start (Sm.refl _ _) (B3.mono (by omega)) nD) ?_ ?_⟩
              · intro a Hx ha t
                have hD : D ≠ b := fun z => B3.there (by rw [← z]; exact nD)
                obtain ⟨kk, ek, B⟩ := t.turn ha
                refine ⟨rfl, ?_⟩
                walk_at "rd"
                refine callB _ (m + q * c + (cT dp + 2) + kk * (1 + cI dp i')) _ B fun x v Hy l1 hx hv By Sy => ?_
                exact t.next ek nD hD ⟨l1, hx⟩ hv By Sy (by omega)
              intro Hx t
              obtain ⟨bs, ws, len2, hbs, atD, vaD, Bd, Sd⟩ := t.done
              obtain ⟨p1, p2, rfl⟩ : ∃ p1 p2, bs = [p1, p2] := by
                match bs, len2 with
                | [p1, p2], _ => exact ⟨p1, p2, rfl⟩
              obtain ⟨w1', ws', rfl, hw1, vaD'⟩ := vaD.cons_inv
              obtain ⟨w2', ws'', rfl, hw2, vaD''⟩ := vaD'.cons_inv
              obtain rfl := vaD''.nil_inv
              obtain ⟨l1, hp1⟩ := hbs p1 (by simp)
              obtain ⟨l2, hp2⟩ := hbs p2 (by simp)
              have atF := Sd F _ at3 Fb
              have vaF := va3.keep (Sd.tp B3.notup)
              walk_at "rd"
              refine ⟨.inl ⟨rfl, _, sq_of atF⟩, ?_⟩
              walk_at "rd"
              refine callT _ (m + q * c + 2) _ (Bd.mono (by omega)) fun e v Hy he hv By Sy => ?_
              have tp := Sy.tp Bd.notup
              have hD : D ≠ b := fun z => B3.there (by rw [← z]; exact nD)
              have atD' := Sy D _ atD hD
              walk_at "rd"
              refine ⟨D, _, 0, w1', rfl, rfl, sq_of atD', atI_nat (j := 0) rfl, ?_⟩
              walk_at "rd"
              refine ⟨D, _, 1, w2', rfl, rfl, sq_of atD', atI_nat (j := 1) rfl, sz rfl, fun t nt => ?_⟩
              have atF0 := Sy F _ atF Fb
              refine ⟨F, vs, _, rfl, rfl, at_new atF0 nt, lt, ?_⟩
              exact fin _ (.iff e p1 p2) _ _ _ _ ⟨Nat.succ_pos _, he, l1, l2, hp1, hp2⟩ rfl (at_new atF0 nt) ((vaF.keep tp).new nt) (va_new nt (.cons (.str _) (.cons hv (.cons (hw1.keep tp) (.cons (hw2.keep tp) .nil))))) (By.new nt) (((S3.trans Sd).trans Sy).upd_new nt)
          walk_at "rd"
          refine ite2 (fun c1 => ?_) (fun c1 => ?_)
          · have i0 : i ≠ 0 := fun z => by
              have e5 := wi z
              rw [e5] at c1
              exact absurd c1 (by decide)
            obtain ⟨i', rfl⟩ : ∃ i', i = i' + 1 := ⟨i - 1, by omega⟩
            have ec' : 20 + 2 * cT dp + 2 * (1 + cI dp i') = c := ec
            have callB : ∀ (H1 : Hp) (m : Nat) (Q : VK), Bx H1 b (m + (1 + cI dp i')) → (∀ (x : List K4.St) (v : V) (H' : Hp), x.length ≤ 1 → K4.tSs x i' dp → Va H' v (.tuple (K4.stsD x)) → Bx H' b m → Sm b H1 H' → Q v H') →
                spBlock n [V.ref b, V.int 1, V.int (((i' + 1 : Nat) : Int) - 1), V.int dp] H1 Q E0 := fun H1 m Q hB q =>
              ⟨b, 1, i', dp, m, by rw [show (((i' + 1 : Nat) : Int) - 1) = (i' : Int) by omega] <;> rfl, by omega, by omega, dp1, dp2, hB.mono (by omega), q⟩
            walk_at "rd"
            refine ⟨.inl ⟨rfl, _, sq_of at3⟩, ?_⟩
            walk_at "rd"
            refine callT _ (m + q * c + 2 + (1 + cI dp i')) _ (B3.mono (by omega)) fun e v Hy he hv By Sy => ?_
            walk_at "rd"
            refine callB _ (m + q * c + 2) _ By fun x u Hz l1 hx hu Bz Sz => ⟨sz rfl, fun t nt => ?_⟩
            have tp := Sz.tp By.notup
            have tp3 := (Sy.trans Sz).tp B3.notup
            have atF0 := (Sy.trans Sz) F _ at3 Fb
            refine ⟨F, vs, _, rfl, rfl, at_new atF0 nt, lt, ?_⟩
            exact fin _ (.wh e x) _ _ _ _ ⟨Nat.succ_pos _, he, l1, hx⟩ rfl (at_new atF0 nt) ((va3.keep tp3).new nt) (va_new nt (.cons (.str _) (.cons (hv.keep tp) (.cons hu .nil)))) (Bz.new nt) (((S3.trans Sy).trans Sz).upd_new nt)
          walk_at "rd"
          refine ite2 (fun c2 => ?_) (fun c2 => ?_)
          · have i0 : i ≠ 0 := fun z => by
              have e5 := wi z
              rw [e5] at c2
              exact absurd c2 (by decide)
            obtain ⟨i', rfl⟩ : ∃ i', i = i' + 1 := ⟨i - 1, by omega⟩
            have ec' : 20 + 2 * cT dp + 2 * (1 + cI dp i') = c := ec
            have callB : ∀ (H1 : Hp) (m : Nat) (Q : VK), Bx H1 b (m + (1 + cI dp i')) → (∀ (x : List K4.St) (v : V) (H' : Hp), x.length ≤ 1 → K4.tSs x i' dp → Va H' v (.tuple (K4.stsD x)) → Bx H' b m → Sm b H1 H' → Q v H') →
                spBlock n [V.ref b, V.int 1, V.int (((i' + 1 : Nat) : Int) - 1), V.int dp] H1 Q E0 := fun H1 m Q hB q =>
              ⟨b, 1, i', dp, m, by rw [show (((i' + 1 : Nat) : Int) - 1) = (i' : Int) by omega] <;> rfl, by omega, by omega, dp1, dp2, hB.mono (by omega), q⟩
            · walk_at "rd"
              refine ⟨b, m + q * c + 2 + 2 * (1 + cI dp i'), rfl, B3.mono (by omega), fun nm Hn hnm Bn Sn => ?_⟩
              walk_at "rd"
              refine ⟨by decide, by decide, fun D nD => lc_range (lo := 0) (n := 2) (fun a Hx => Col (fun bl => PyData.tuple (K4.stsD bl)) (fun bl => bl.length ≤ 1 ∧ K4.tSs bl i' dp) Hn b D 2 (m + q * c + 2) (1 + cI dp i') a Hx) (Col.start (Sm.refl _ _) (Bn.mono (by omega)) nD) ?_ ?_⟩
              · intro a Hx ha t
                have hD : D ≠ b := fun z => Bn.there (by rw [← z]; exact nD)
                obtain ⟨kk, ek, B⟩ := t.turn ha
                refine ⟨rfl, ?_⟩
                walk_at "rd"
                refine callB _ (m + q * c + 2 + kk * (1 + cI dp i')) _ B fun x v Hy l1 hx hv By Sy => ?_
                exact t.next ek nD hD ⟨l1, hx⟩ hv By Sy (by omega)
              intro Hx t
              obtain ⟨bs, ws, len2, hbs, atD, vaD, Bd, Sd⟩ := t.done
              obtain ⟨p1, p2, rfl⟩ : ∃ p1 p2, bs = [p1, p2] := by
                match bs, len2 with
                | [p1, p2], _ => exact ⟨p1, p2, rfl⟩
              obtain ⟨w1', ws', rfl, hw1, vaD'⟩ := vaD.cons_inv
              obtain ⟨w2', ws'', rfl, hw2, vaD''⟩ := vaD'.cons_inv
              obtain rfl := vaD''.nil_inv
              obtain ⟨l1, hp1⟩ := hbs p1 (by simp)
              obtain ⟨l2, hp2⟩ := hbs p2 (by simp)
              have atF := Sd F _ (Sn F _ at3 Fb) Fb
              have vaF := (va3.keep (Sn.tp B3.notup)).keep (Sd.tp Bn.notup)
              walk_at "rd"
              refine ⟨.inl ⟨rfl, _, sq_of atF⟩, ?_⟩
              walk_at "rd"
              refine ⟨D, _, 0, w1', rfl, rfl, sq_of atD, atI_nat (j := 0) rfl, ?_⟩
              walk_at "rd"
              refine ⟨D, _, 1, w2', rfl, rfl, sq_of atD, atI_nat (j := 1) rfl, sz rfl, fun t nt => ?_⟩
              have atF0 := atF
              refine ⟨F, vs, _, rfl, rfl, at_new atF0 nt, lt, ?_⟩
              exact fin _ (.tri p1 nm p2) _ _ _ _ ⟨Nat.succ_pos _, hnm, l1, l2, hp1, hp2⟩ rfl (at_new atF0 nt) (vaF.new nt) (va_new nt (.cons (.str _) (.cons hw1 (.cons (.str _) (.cons hw2 .nil))))) (Bd.new nt) (((S3.trans Sn).trans Sd).upd_new nt)
          walk_at "rd"
          refine ⟨.inl ⟨rfl, _, sq_of at3⟩, ?_⟩
          walk_at "rd"
          refine ⟨b, dp, m + q * c + 2, rfl, dp1, dp2, B3.mono (by omega), fun e v Hy he hh hv By Sy => ?_⟩
          have atF3 := Sy F _ at3 Fb
          refine ⟨F, vs, _, rfl, rfl, atF3, lt, ?_⟩
          exact fin _ e _ _ _ _ (he i) hh atF3 (va3.keep (Sy.tp B3.notup)) hv By (S3.trans Sy)
        rintro σ' H4 ⟨e, v, z7, z8, z9, rfl, he, hh, at4, va4, B4, S4⟩
        walk_at "rd"
        refine ⟨b, 4, m + q * c + 1, rfl, by decide, by decide, B4, fun d4 H5 d0 d1 B5 S5 => ?_⟩
        walk_at "rd"
        have at5 := S5 F _ at4 Fb
        have va5 := va4.keep (S5.tp B4.notup)
        have mem5 : ∀ x ∈ bl ++ [e], K4.tS x i dp := fun x hx => by
          rcases List.mem_append.mp hx with h | h
          · exact hbl x h
          · rw [List.mem_singleton.mp h]
            exact he
        refine ite2 (fun c4 => ?_) (fun c4 => ?_)
        · walk_at "rd"
          refine ⟨b, m + q * c, rfl, B5, fun nm H6 hnm B6 S6 => ?_⟩
          have at6 := S6 F _ at5 Fb
          have va6 := va5.keep (S6.tp B5.notup)
          walk_at "rd"
          refine ⟨F, _, -1, v, rfl, rfl, sq_of at6, atI_last _ _, sz rfl, fun t nt => ?_⟩
          walk_at "rd"
          refine ⟨F, _, -1, vs.length, rfl, rfl, at_new at6 nt, ?_, ?_⟩
          · have hl : (vs ++ [v]).length = vs.length + 1 := by simp
            unfold ixN
            rw [hl, if_neg (by decide), if_pos (by omega)]
            exact congrArg some (by omega)
          have e1 : (vs ++ [v]).set vs.length (V.ref t) = vs ++ [V.ref t] := by simp
          rw [e1]
          have vv : VaL H6 vs (bl.map K4.St.toD) ∧ Va H6 v e.toD := by
            rw [List.map_append] at va6
            have go : ∀ (xs : List V) (ds : List PyData), xs.length = ds.length → VaL H6 (xs ++ [v]) (ds ++ [e.toD]) → VaL H6 xs ds ∧ Va H6 v e.toD := by
              intro xs
              induction xs with
              | nil =>
                intro ds hl h
                cases ds with
                | nil =>
                  obtain ⟨_, _, e1, h1, _⟩ := h.cons_inv
                  cases e1
                  exact ⟨.nil, h1⟩
                | cons d r => cases hl
              | cons x r ih =>
                intro ds hl h
                cases ds with
                | nil => cases hl
                | cons d ds =>
                  obtain ⟨_, _, e1, h1, h2⟩ := VaL.cons_inv (d := d) (ds := ds ++ [e.toD]) h
                  cases e1
                  obtain ⟨a1, a2⟩ := ih ds (by simpa using hl) h2
                  exact ⟨.cons h1 a1, a2⟩
            exact go vs _ (by rw [List.length_map]; omega) va6
          refine ⟨bl ++ [.here nm e], vs ++ [.ref t], q, _, _, _, _, _, by simp [len], by omega, fun x hx => ?_, rfl, upd_same, ?_, (B6.new nt).upd (Ne.symm Fb), (((S4.trans S5).trans S6).upd_new nt).own nF⟩
          · rcases List.mem_append.mp hx with h | h
            · exact hbl x h
            · rw [List.mem_singleton.mp h]
              exact ⟨hnm, hh, he⟩
          · rw [List.map_append]
            exact ((vv.1.new nt).app (.cons (va_new nt (.cons (.str _) (.cons (.str _) (.cons vv.2 .nil)))) .nil)).keep (Tp.upd (lst_notup (at_new at6 nt)))
        · exact ⟨bl ++ [e], vs ++ [v], q, _, _, _, _, _, by simp [len], by omega, mem5, rfl, at5, va5, B5.mono (by omega), S4.trans S5⟩
      · rintro σ H2 ⟨bl, vs, q, y5, y6, y7, y8, y9, len, eq, hbl, rfl, at2, va2, B2, S2⟩
        rw [Int.toNat_natCast] at len
        walk_at "rd"
        rw [← stsD_map] at va2
        refine ⟨F, vs, rfl, .inl ⟨sq_of at2, fun l nl => ?_⟩⟩
        exact k bl _ _ (by omega) (tSs_all hbl) (va_new nl va2) ((B2.mono (by omega)).new nl) (S2.upd_new nl)
def cF : Nat := 6 + 2 * (cI 1 2 + cI 2 2)
theorem cI_mono (dp : Nat) : ∀ i, cI dp i ≤ cI dp (i + 1)
  | 0 => by show 20 + 2 * cT dp ≤ 20 + 2 * cT dp + 2 * (1 + (20 + 2 * cT dp)); omega
  | i + 1 => by
    have h := cI_mono dp i
    show 20 + 2 * cT dp + 2 * (1 + cI dp i) ≤ 20 + 2 * cT dp + 2 * (1 + cI dp (i + 1))
    omega
theorem pgD_map (p : K4.Pg) : K4.pgD p = .tuple (p.map K4.Fn.toD) := rfl
def spProg : Sp := fun vs H Q _ => ∃ (b : Addr) (m : Nat), vs = [.ref b] ∧ Bx H b (m + 2 * cF + 2) ∧ ∀ (p : K4.Pg) (v : V) (H' : Hp), K4.tG p → Va H' v (K4.pgD p) → Bx H' b m → Sm b H H' → Q v H'
theorem ok_prog (T : Txt K mg w) : Clb P w K mg base CX0 12 "_law_tree_program" spProg := by
  have c_q_take := ok_take (P := P) (base := base) T
  have c_q_name := ok_name (P := P) (base := base) T
  have c_q_names := ok_names (P := P) (base := base) T
  have c_q_tree_block := ok_block (P := P) (base := base) T 3
  refine T.clb (k := 11) (d := d_q_tree_program) m_q_tree_program rfl T.g_q_tree_program rfl rfl sc_q_tree_program bd_q_tree_program (fun vs H Q E h => ?_) (fun cdv A outer s H vs Q E hr h => ?_)
  · obtain ⟨b, m, rfl, _⟩ := h
    rfl
  · obtain ⟨b, m, rfl, hb, k⟩ := h
    refine ⟨_, (pss_cons (ps_par (i := 1) (j := 2) rfl sc_q_tree_program.nd rfl rfl (by decide) rfl rfl (pa_cons (pe_cl c_q_take hr (by first | decide | omega) pass0 (by rfl) (pa_cons (pv 0) (pa_cons pe_int pa_nil))) (pa_cons (pe_lst pa_nil) pa_nil)) (by rfl))
    (pss_cons (ps_for PassesOwn.never rfl (pi_range1 (by rfl) T.f_range (pa_cons (pe_cl c_q_take hr (by first | decide | omega) pass0 (by rfl) (pa_cons (pv 0) (pa_cons pe_int pa_nil))) pa_nil)) (pg_name (i := 3) sc_q_tree_program.nd rfl (.inl rfl))
    (pss_cons (ps_par (i := 4) (j := 5) rfl sc_q_tree_program.nd rfl rfl (by decide) rfl rfl (pa_cons (pe_cl c_q_name hr (by first | decide | omega) pass0 (by rfl) (pa_cons (pv 0) pa_nil)) (pa_cons (pe_cl c_q_names hr (by first | decide | omega) pass0 (by rfl) (pa_cons (pv 0) (pa_cons pe_int pa_nil))) pa_nil)) (by rfl))
    (pss_one (ps_expr (pe_bm PySem.F.plainAttrs_list PySem.F.slot_list_append PySem.F.type_list_append mt_append (pv 2) (pa_cons (pe_tup (pa_cons (pv 4) (pa_cons (pv 5) (pa_cons (pe_cl c_q_tree_block hr (by first | decide | omega) pass0 (by rfl) (pa_cons (pv 0) (pa_cons pe_int (pa_cons (pe_op op_add pe_int (pv 1)) (pa_cons (pe_op op_sub pe_int (pv 1)) pa_nil))))) pa_nil)))) pa_nil))))))
    (pss_one (ps_ret (pe_callTy call_tuple_of (by rfl) T.f_tuple (by decide +kernel) (pa_cons (pv 2) pa_nil)))))), ?_⟩
    walk_at "rd"
    refine ⟨b, 2, m + 2 * cF + 1, rfl, by decide, by decide, hb, fun r H1 r0 r1 B1 S1 => ?_⟩
    obtain ⟨ne, rfl⟩ : ∃ ne : Nat, r = ne := ⟨r.toNat, by omega⟩
    refine ⟨sz rfl, fun F nF => ?_⟩
    have Fb : F ≠ b := fun z => B1.there (by rw [← z]; exact nF)
    have nF0 : H F = none := S1.free nF hb.there B1.there
    refine ⟨_, _, rfl, ?_⟩
    walk_at "rd"
    refine ⟨b, 3, m + 2 * cF, rfl, by decide, by decide, B1.new nF, fun r H2 r0 r1 B2 S2 => ?_⟩
    obtain ⟨n2, rfl⟩ : ∃ n2 : Nat, r = n2 := ⟨r.toNat, by omega⟩
    have rc : n2 * cF ≤ 2 * cF := Nat.mul_le_mul_right _ (by omega)
    refine ⟨(n2 : Int), rfl, by omega, by omega, for_range (lo := 0) (n := ((n2 : Nat) : Int).toNat) (fun j σ H2 => ∃ (fs : List K4.Fn) (vs : List V) (q : Nat) (y3 y4 y5 : Option V), fs.length = j ∧ j + q = n2 ∧ (∀ f ∈ fs, K4.tF f (1 + ne) (2 - ne)) ∧
      σ = [some (.ref b), some (.int ne), some (.ref F), y3, y4, y5] ∧ H2 F = some (.lst vs) ∧ VaL H2 vs (fs.map K4.Fn.toD) ∧ Bx H2 b (m + q * cF) ∧ Sm b H H2) ?_ ?_ ?_⟩
    · exact ⟨[], [], n2, _, _, _, rfl, by omega, (fun _ h => by cases h), rfl, S2 F _ upd_same Fb, .nil, B2.mono (by omega), (S1.upd_new nF).trans S2⟩
    · rintro j σ H3 hj ⟨fs, vs, q, y3, y4, y5, len, eq, hfs, rfl, at3, va3, B3, S3⟩
      rw [Int.toNat_natCast] at hj
      obtain ⟨q, rfl⟩ : ∃ q', q = q' + 1 := ⟨q - 1, by omega⟩
      rw [Nat.succ_mul] at B3
      have lv := va3.length
      rw [List.length_map] at lv
      have lt : vs.length < sizeLine := Nat.lt_of_lt_of_le (show vs.length < 1001 by omega) (by decide)
      have cf : cF = 6 + 2 * (cI 1 2 + cI 2 2) := rfl
      have cc : cI (2 - ne) (1 + ne) ≤ cI 1 2 + cI 2 2 := by
        have h1 : ne = 0 ∨ ne = 1 := by omega
        have h2 : cI 2 1 ≤ cI 2 2 := cI_mono 2 1
        rcases h1 with rfl | rfl
        · show cI 2 1 ≤ _
          omega
        · show cI 1 2 ≤ _
          omega
      walk_at "rd"
      refine ⟨b, m + q * cF + (cF - 1), rfl, B3.mono (by omega), fun x H4 hx B4 S4 => ?_⟩
      walk_at "rd"
      refine ⟨b, m + q * cF + (cF - 4), rfl, B4.mono (by omega), fun ps pv H5 pl hp hpv B5 S5 => ?_⟩
      refine ⟨_, _, rfl, ?_⟩
      walk_at "rd"
      refine ⟨.inl ⟨rfl, _, sq_of ((S4.trans S5) F _ at3 Fb)⟩, ?_⟩
      walk_at "rd"
      refine ⟨b, 2, 1 + ne, 2 - ne, m + q * cF, ?_, by omega, by omega, by omega, by omega, B5.mono (by omega), fun bl bv H6 lb hbl hbv B6 S6 => ?_⟩
      · have e2 : (2 : Int) - (ne : Int) = ((2 - ne : Nat) : Int) := by omega
        have e3 : (1 : Int) + (ne : Int) = ((1 + ne : Nat) : Int) := by omega
        show [V.ref b, V.int 2, V.int (1 + (ne : Int)), V.int (2 - (ne : Int))] = _
        rw [e2, e3] <;> rfl
      refine ⟨sz rfl, fun t nt => ?_⟩
      have at6 := ((S4.trans S5).trans S6) F _ at3 Fb
      have tp36 := ((S4.trans S5).trans S6).tp B3.notup
      refine ⟨F, vs, _, rfl, rfl, at_new at6 nt, lt, ?_⟩
      refine ⟨fs ++ [⟨x, ps, bl⟩], vs ++ [.ref t], q, _, _, _, by simp [len], by omega, fun f hf => ?_, rfl, upd_same, ?_, (B6.new nt).upd (Ne.symm Fb), ((((S3.trans S4).trans S5).trans S6).upd_new nt).own nF0⟩
      · rcases List.mem_append.mp hf with h | h
        · exact hfs f h
        · rw [List.mem_singleton.mp h]
          exact ⟨hx, pl, hp, lb, hbl⟩
      · rw [List.map_append]
        exact (((va3.keep tp36).new nt).app (.cons (va_new nt (.cons (.str _) (.cons (hpv.keep (S6.tp B5.notup)) (.cons hbv .nil)))) .nil)).keep (Tp.upd (lst_notup (at_new at6 nt)))
    · rintro σ H3 ⟨fs, vs, q, y3, y4, y5, len, eq, hfs, rfl, at3, va3, B3, S3⟩
      rw [Int.toNat_natCast] at len
      walk_at "rd"
      refine ⟨F, vs, rfl, .inl ⟨sq_of at3, fun l nl => ?_⟩⟩
      exact k fs _ _ ⟨by omega, 1 + ne, 2 - ne, by omega, by omega, by omega, hfs⟩ (va_new nl va3) ((B3.mono (by omega)).new nl) (S3.upd_new nl)
end
end W4
set_option Elab.async false
set_option linter.all false
set_option maxRecDepth 100000
set_option maxHeartbeats 4000000
set_option pp.maxSteps 400
namespace W4
open PySem PySem.Spec PyProof.Rows L2
local macro_rules | `(tactic| walk_at "rd") => `(tactic| repeat (first | refine ⟨_, rfl, ?_⟩ | refine ⟨_, _, rfl, rfl, ?_⟩ | refine ⟨rfl, _, rfl, ?_⟩))
theorem for_enum {K : PySem.W.Frag} {a : Addr} {xs : List V} {g : TG} {tb : TS} {D : Ends} {σ : L2.St} {H : Hp} (Pv : Nat → L2.St → Hp → Prop) (h0 : Pv 0 σ H) (hl : ∀ i σ H, i ≤ xs.length → Pv i σ H → SqL K H a xs)
    (hs : ∀ i x σ H, xs[i]? = some x → Pv i σ H → ∀ T, H T = none → g (.ref T) σ (upd H T (.tup [.int (i : Nat), x])) fun σ2 H2 => tb { D with nx := Pv (i + 1), ct := Pv (i + 1), bk := D.nx } σ2 H2) (hd : ∀ σ H, Pv xs.length σ H → D.nx σ H) :
    ∃ W : Nat → Nat → L2.St → Hp → Prop, (∃ m, W 0 m σ H) ∧ ∀ i m σ H, W i m σ H →
      ((Ite K a).stop i H ∧ D.nx σ H) ∨ ((Ite K a).go i H ∧ ∃ N : L2.St → Hp → Prop, (∀ σ' H', N σ' H' → ∃ m', m' < m ∧ W (i + 1) m' σ' H') ∧ ∀ x H', (Ite K a).yld i H x H' → g x σ H' fun σ2 H2 => tb { D with nx := N, ct := N, bk := D.nx } σ2 H2) := by
  refine ⟨fun i m σ H => i + m = xs.length ∧ Pv i σ H, ⟨xs.length, by omega, h0⟩, fun i m σ H ⟨em, p⟩ => ?_⟩
  have sq := hl i σ H (by omega) p
  cases m with
  | zero =>
    have ei : i = xs.length := by omega
    subst ei
    exact .inl ⟨⟨xs, sq, Nat.le_refl _⟩, hd σ H p⟩
  | succ m =>
    have lt : i < xs.length := by omega
    refine .inr ⟨⟨xs, xs[i], sq, List.getElem?_eq_getElem lt⟩, Pv (i + 1), fun σ' H' p' => ⟨m, Nat.lt_succ_self _, by omega, p'⟩, fun v H' ⟨T, x, ev, nT, eH, f⟩ => ?_⟩
    subst ev eH
    exact hs i x σ H (f xs sq) p T nT
abbrev N_q_cells : List Str := ["_law_script", "_law_most", "_law_cells_here", "_law_k", "_law_cell"]
abbrev P_q_cells : List Str := ["_law_script", "_law_most"]
theorem sc_q_cells : FnScope N_q_cells P_q_cells (defScope s_q_cells) := ⟨rfl, rfl, rfl, by decide +kernel, rfl, by decide +kernel, by decide +kernel⟩
theorem bd_q_cells (kV doc pm : Value) (an : Option Addr) (cdv ct : Value) (us : List Value) (hl : us.length = P_q_cells.length) : bindArgs (PySem.W.fnOf d_q_cells.name d_q_cells.qual d_q_cells.params d_q_cells.body d_q_cells.scope .none kV doc pm an cdv ct) ⟨us, []⟩ = pure (P_q_cells.zip us) := match us, hl with | [_, _], _ => rfl
abbrev N_q_box : List Str := ["_law_cells_here", "_law_k", "_law_cell"]
abbrev P_q_box : List Str := ["_law_cells_here", "_law_k"]
theorem sc_q_box : FnScope N_q_box P_q_box (defScope s_q_box) := ⟨rfl, rfl, rfl, by decide +kernel, rfl, by decide +kernel, by decide +kernel⟩
theorem bd_q_box (kV doc pm : Value) (an : Option Addr) (cdv ct : Value) (us : List Value) (hl : us.length = P_q_box.length) : bindArgs (PySem.W.fnOf d_q_box.name d_q_box.qual d_q_box.params d_q_box.body d_q_box.scope .none kV doc pm an cdv ct) ⟨us, []⟩ = pure (P_q_box.zip us) := match us, hl with | [_, _], _ => rfl
section
variable {P : Program} {w : World} {K : PySem.W.Frag} {mg : Str → Option Value} {base : Heap}
def spCells (K : PySem.W.Frag) : Sp := fun vs H Q _ => ∃ (a : Addr) (ns : List Int), vs = [.ref a, .int 3] ∧ SqL K H a (ns.map V.int) ∧ ns.length ≤ 63 ∧ ∀ (l : Addr) (cs : List Int) (H' : Hp), 0 < cs.length → cs.length ≤ 3 → H l = none → H' l = some (.lst (cs.map V.int)) → Same H H' → Q (.ref l) H'
theorem ok_cells (T : Txt K mg w) : Clb P w K mg base CX0 1 "_law_cells" (spCells K) := by
  refine T.clb (d := d_q_cells) m_q_cells rfl T.g_q_cells rfl rfl sc_q_cells bd_q_cells (fun vs H Q E h => ?_) (fun cdv A outer s H vs Q E hr h => ?_)
  · obtain ⟨a, ns, rfl, _⟩ := h
    rfl
  · obtain ⟨a, ns, rfl, hS, hl, k⟩ := h
    refine ⟨_, (C8.pss_cut (ps_set (i := 2) sc_q_cells.nd rfl (.inl rfl) (pe_orT (pe_callTy call_list_of (by rfl) T.f_list (by decide +kernel) (pa_cons (pe_slice sl_list (pv 0) po_none (po_some (pv 1))) pa_nil)) (pe_one (pe_lst (pa_cons pe_int pa_nil)))))
    (pss_cons (ps_for PassesOwn.never rfl (pi_enum (by rfl) T.f_enumerate (pa_cons (pe_slice sl_list (pv 0) (po_some (pv 1)) (po_some pe_int)) pa_nil)) (pg_tup rfl (pgs_cons (pg_name (i := 3) sc_q_cells.nd rfl (.inl rfl)) (pgs_cons (pg_name (i := 4) sc_q_cells.nd rfl (.inl rfl)) pgs_nil)))
    (pss_one (ps_asg (pe_op op_add (pe_ix ix_list (pv 2) (pe_op op_mod (pv 3) (pv 1)) (fun _ _ => rfl)) (pe_op op_mul (pv 4) (pe_op op_add (pv 3) pe_int))) (pg_sub (pv 2) (pe_op op_mod (pv 3) (pv 1)) set_list))))
    (pss_one (ps_ret (pv 2))))), ?_⟩
    have c1 : ∃ cs : List Int, cutV (ns.map V.int) none (some 3) = cs.map V.int ∧ cs.length = min 3 ns.length := by
      refine ⟨ns.take (min 3 ns.length), ?_, by rw [List.length_take]; omega⟩
      unfold cutV
      rw [HT.sIx_none, show HT.sIx (ns.map V.int).length (ns.map V.int).length (some 3) = min 3 (ns.map V.int).length from HT.sIx_nat _ _ 3, List.length_map, List.drop_zero, Nat.sub_zero, List.map_take]
    have c2 : ∃ ds : List Int, cutV (ns.map V.int) (some 3) (some 63) = ds.map V.int ∧ ds.length = ns.length - min 3 ns.length := by
      refine ⟨(ns.drop (min 3 ns.length)).take (min 63 ns.length - min 3 ns.length), ?_, by rw [List.length_take, List.length_drop]; omega⟩
      unfold cutV
      rw [show HT.sIx (ns.map V.int).length (ns.map V.int).length (some 63) = min 63 (ns.map V.int).length from HT.sIx_nat _ _ 63, show HT.sIx (ns.map V.int).length 0 (some 3) = min 3 (ns.map V.int).length from HT.sIx_nat _ _ 3, List.length_map, List.map_take, List.map_drop]
    obtain ⟨cs, e1, l1⟩ := c1
    obtain ⟨ds, e2, l2⟩ := c2
    -- the first cells
    refine ⟨fun σ' H1 => ∃ (l : Addr) (xs : List Int), σ' = [some (.ref a), some (.int 3), some (.ref l), none, none] ∧ 0 < xs.length ∧ xs.length ≤ 3 ∧ (3 < ns.length → xs.length = 3) ∧ H l = none ∧ H1 l = some (.lst (xs.map V.int)) ∧ Same H H1, ?_, ?_⟩
    · walk_at "rd"
      refine ⟨a, _, rfl, hS, fun p np => ?_⟩
      rw [e1]
      have S1 : Same H (upd H p (.lst (cs.map V.int))) := same_new np
      refine ⟨p, _, rfl, .inl (sq_of upd_same), fun l nl => ?_⟩
      have S2 := S1.trans (same_new (o := .lst (cs.map V.int)) nl)
      refine ⟨_, .inl ⟨_, sq_of upd_same, rfl⟩, ?_⟩
      cases cs with
      | nil =>
        refine ⟨sz rfl, fun q nq => ?_⟩
        exact ⟨q, [0], rfl, by decide, by decide, fun h => absurd l1 (by simp; omega), S2.free nq, upd_same, S2.trans (same_new nq)⟩
      | cons c r => exact ⟨l, c :: r, rfl, by simp, by omega, fun h => by omega, S1.free nl, upd_same, S2⟩
    rintro σ' H1 ⟨l, xs, rfl, x0, x3, xe, nl0, atl, S1⟩
    walk_at "rd"
    refine ⟨a, _, rfl, S1.seq hS, fun p np => ?_⟩
    rw [e2]
    have pl : p ≠ l := fun z => by
      rw [z, atl] at np
      cases np
    refine ⟨p, _, rfl, sq_of upd_same, for_enum (K := K) (a := p) (xs := ds.map V.int) (fun i σ H2 => ∃ (ys : List Int) (y3 y4 : Option V), σ = [some (.ref a), some (.int 3), some (.ref l), y3, y4] ∧ ys.length = xs.length ∧ H2 l = some (.lst (ys.map V.int)) ∧ H2 p = some (.lst (ds.map V.int)) ∧ Same H H2) ?_ ?_ ?_ ?_⟩
    · exact ⟨xs, none, none, rfl, rfl, at_new atl np, upd_same, S1.trans (same_new np)⟩
    · rintro i σ H2 _ ⟨ys, y3, y4, rfl, ly, at2, atp, S2⟩
      exact sq_of atp
    · rintro i x σ H2 hi ⟨ys, y3, y4, rfl, ly, at2, atp, S2⟩ T nT
      obtain ⟨c, hc, rfl⟩ : ∃ c : Int, ds[i]? = some c ∧ x = .int c := by
        rw [List.getElem?_map] at hi
        cases q : ds[i]? with
        | none =>
          rw [q] at hi
          cases hi
        | some c =>
          rw [q] at hi
          exact ⟨c, rfl, (Option.some.inj hi).symm⟩
      have hid : i < ds.length := (List.getElem?_eq_some_iff.mp hc).1
      have y3' : ys.length = 3 := by rw [ly, xe (by omega)]
      have S3 := S2.trans (same_new (o := .tup [.int (i : Nat), .int c]) nT)
      have at3 := at_new (o := .tup [.int (i : Nat), .int c]) at2 nT
      refine ⟨T, [.int (i : Nat), .int c], rfl, st_of upd_same, rfl, _, _, rfl, _, _, rfl, rfl, ?_⟩
      have jm : ∃ j : Nat, ((i : Int) % 3) = j ∧ j < 3 := ⟨i % 3, by omega, by omega⟩
      obtain ⟨j, ej, hj⟩ := jm
      obtain ⟨y, hy⟩ : ∃ y, ys[j]? = some y := ⟨_, List.getElem?_eq_getElem (by omega)⟩
      walk_at "rd"
      refine ⟨(by show (0 : Int) < 3; decide), l, _, (i : Int) % 3, .int y, rfl, rfl, sq_of at3, ?_, ?_⟩
      · rw [ej]
        exact atI_nat (by rw [List.getElem?_map, hy] <;> rfl)
      walk_at "rd"
      refine ⟨.inr ⟨by omega, by omega⟩, ?_⟩
      walk_at "rd"
      refine ⟨(by show (0 : Int) < 3; decide), l, _, (i : Int) % 3, j, rfl, rfl, at3, ?_, ?_⟩
      · rw [ej]
        unfold ixN
        rw [if_pos (by omega), if_pos (by rw [List.length_map]; omega)]
        rfl
      · refine ⟨ys.set j (y + c * ((i : Int) + 2)), _, _, rfl, by rw [List.length_set]; exact ly, ?_, ?_, Same.own S3 nl0⟩
        · rw [upd_same, List.map_set]
        · rw [upd_ne pl]
          exact at_new atp nT
    · rintro σ H2 ⟨ys, y3, y4, rfl, ly, at2, atp, S2⟩
      walk_at "rd"
      exact k l ys H2 (by omega) (by omega) nl0 at2 S2
def spBox (K : PySem.W.Frag) : Sp := fun vs H Q _ => ∃ (l : Addr) (cs : List Int) (k : Nat), vs = [.ref l, .int k] ∧ SqL K H l (cs.map V.int) ∧ k < cs.length ∧ cs.length ≤ 3 ∧ ∀ (b : Addr) (H' : Hp), H b = none → Same H H' → Bx H' b (2 ^ 40) → Q (.ref b) H'
theorem b01 (b : Bool) : -(2 ^ 64) < (if b = true then 1 else 0 : Int) ∧ (if b = true then 1 else 0 : Int) < 2 ^ 64 := by cases b <;> decide
theorem ok_box (T : Txt K mg w) : Clb P w K mg base CX0 1 "_law_box" (spBox K) := by
  refine T.clb (d := d_q_box) m_q_box rfl T.g_q_box rfl rfl sc_q_box bd_q_box (fun vs H Q E h => ?_) (fun cdv A outer s H vs Q E hr h => ?_)
  · obtain ⟨l, cs, k, rfl, _⟩ := h
    rfl
  · obtain ⟨l, cs, n, rfl, hS, hn, hl, k⟩ := h
    refine ⟨_, (pss_cons (ps_set (i := 2) sc_q_box.nd rfl (.inl rfl) (pe_ix ix_list (pv 0) (pv 1) (fun _ _ => rfl)))
    (pss_one (ps_ret (pe_lst (pa_cons (pe_op op_mul (pe_callB call_abs (by rfl) T.f_abs (by decide +kernel) (pa_cons (pv 2) pa_nil)) (pe_callTy call_int1 (by rfl) T.f_int (by decide +kernel) (pa_cons (pe_cmpR op_ge (pe_callB call_abs (by rfl) T.f_abs (by decide +kernel) (pa_cons (pv 2) pa_nil)) (pe_op op_pow pe_int pe_int) (nomark _)) pa_nil))) (pa_cons (pe_op op_add (pe_op op_add (pe_op op_mod (pv 2) pe_int) (pe_op op_mul pe_int (pv 1))) pe_int) (pa_cons pe_int pa_nil))))))), ?_⟩
    walk_at "rd"
    refine ⟨l, _, (n : Int), .int cs[n], rfl, rfl, hS, atI_nat (by rw [List.getElem?_map, List.getElem?_eq_getElem hn] <;> rfl), ?_⟩
    generalize cs[n] = c
    walk_at "rd"
    refine ⟨⟨by decide, by decide, by decide⟩, ?_⟩
    walk_at "rd"
    refine .inr ⟨_, rfl, ?_⟩
    walk_at "rd"
    refine ⟨.inr (b01 _), ?_⟩
    walk_at "rd"
    refine ⟨(by show (0 : Int) < 2305843009213693951; decide), ?_⟩
    walk_at "rd"
    refine ⟨.inl ⟨by decide, by decide⟩, ?_⟩
    walk_at "rd"
    refine ⟨sz rfl, fun b nb => k b _ nb (same_new nb) ⟨_, _, 0, upd_same, Int.le_refl _, by decide⟩⟩
end
end W4
set_option Elab.async false
set_option linter.all false
set_option maxRecDepth 100000
set_option maxHeartbeats 4000000
set_option pp.maxSteps 400
namespace W4
open PySem PySem.Spec PyProof.Rows L2
local macro_rules | `(tactic| walk_at "tg") => `(tactic| repeat (first | refine iteBt (by decide +kernel) ?_ | refine iteBf (by decide +kernel) ?_ | refine ⟨_, rfl, ?_⟩ | refine ⟨_, _, rfl, rfl, ?_⟩ | refine ⟨rfl, _, rfl, ?_⟩))
local macro_rules | `(tactic| walk_at "rd") => `(tactic| repeat (first | refine ⟨_, rfl, ?_⟩ | refine ⟨_, _, rfl, rfl, ?_⟩ | refine ⟨rfl, _, rfl, ?_⟩))
theorem iteBt {c : Bool} {A B : Prop} (h : c = true) (a : A) : if c = true then A else B := by rw [if_pos h]; exact a
theorem iteBf {c : Bool} {A B : Prop} (h : c = false) (b : B) : if c = true then A else B := by rw [if_neg (by rw [h]; decide)]; exact b
/-- texts that a comprehension makes of a tuple's items -/
theorem lc_txt {K : PySem.W.Frag} {a : Addr} {xs : List V} {g : TG} {te : TE} {vs : List Nat} {σ : L2.St} {H1 : Hp} {D : Addr} {Qd : Hp → Prop} (ts : List Str) (len : xs.length = ts.length) (few : ts.length ≤ 100000) (nD : H1 D = none) (hT : H1 a = some (.tup xs))
    (hs : ∀ (i : Nat) (x : V) (t : Str) (H : Hp) (Qn : VK), xs[i]? = some x → ts[i]? = some t → Same H1 H → (∀ H4, Same H H4 → Qn (.str t) H4) → g x (wipe σ vs) H fun σ2 H2 => wipe σ2 vs = wipe σ vs ∧ te σ2 H2 Qn)
    (mg : ∀ x H Q Q', (∀ σ' H', Q σ' H' → Q' σ' H') → g x (wipe σ vs) H Q → g x (wipe σ vs) H Q')
    (hd : ∀ H, Same H1 H → H D = some (.lst (ts.map V.str)) → Qd H) :
    ∃ W : Nat → Nat → Hp → Prop, (∃ m, W 0 m (upd H1 D (.lst []))) ∧ ∀ i m H, W i m H →
      ((Itt K a).stop i H ∧ Qd H) ∨ ((Itt K a).go i H ∧ ∃ Nx : Hp → Prop, (∀ H', Nx H' → ∃ m', m' < m ∧ W (i + 1) m' H') ∧ ∀ x H', (Itt K a).yld i H x H' → g x (wipe σ vs) H' fun σ2 H2 => wipe σ2 vs = wipe σ vs ∧ tYes σ2 H2 fun b H3 =>
        if b = true then te σ2 H3 fun y H4 => ∃ acc, H4 D = some (.lst acc) ∧ acc.length < sizeLine ∧ Nx (upd H4 D (.lst (acc ++ [y]))) else Nx H3) := by
  refine lc_tup (K := K) (xs := xs) (fun i H => Same H1 H ∧ H D = some (.lst ((ts.take i).map V.str))) ⟨same_new nD, upd_same⟩ (fun i H _ p => st_of (p.1 a _ hT)) (fun i x H hx p => ?_) fun H p => hd H p.1 (by have := p.2; rw [len, List.take_length] at this; exact this)
  have hi : i < ts.length := by rw [← len]; exact (List.getElem?_eq_some_iff.mp hx).1
  refine mg _ _ _ _ (fun σ2 H2 q => ⟨q.1, ?_⟩) (hs i x ts[i] H (fun y H4 => ∃ acc, H4 D = some (.lst acc) ∧ acc.length < sizeLine ∧ (Same H1 (upd H4 D (.lst (acc ++ [y]))) ∧ upd H4 D (.lst (acc ++ [y])) D = some (.lst ((ts.take (i + 1)).map V.str)))) hx (List.getElem?_eq_getElem hi) p.1 fun H4 S4 => ?_)
  · simp only [tYes, if_true]
    exact q.2
  · refine ⟨_, S4 D _ p.2, ?_, Same.own (p.1.trans S4) nD, ?_⟩
    · rw [List.length_map, List.length_take]
      exact Nat.lt_of_lt_of_le (show min i ts.length < 100001 by omega) (by decide)
    · rw [upd_same, List.take_add_one, List.getElem?_eq_getElem hi, List.map_append]
      rfl
theorem sl_app (a b : Str) : (a ++ b).length = a.length + b.length := by rw [← K4.cd_len, K4.cd_app, List.length_append, K4.cd_len, K4.cd_len]
theorem join_eq (sep : Str) : ∀ l : List Str, Txt.join sep l = Str.join sep l
  | [] => rfl
  | x :: r => by
    have go : ∀ (r : List Str) (acc : Array Nat), r.foldl (fun acc p => acc ++ sep.cps ++ p.cps) acc = acc ++ (match r with
        | [] => #[]
        | _ :: _ => sep.cps ++ (Str.join sep r).cps) := by
      intro r
      induction r with
      | nil =>
        intro acc
        simp
      | cons y r ih =>
        intro acc
        rw [List.foldl_cons, ih]
        cases r with
        | nil =>
          show acc ++ sep.cps ++ y.cps ++ #[] = acc ++ (sep.cps ++ y.cps)
          simp
        | cons z r =>
          show acc ++ sep.cps ++ y.cps ++ (sep.cps ++ (Str.join sep (z :: r)).cps) = acc ++ (sep.cps ++ (y.cps ++ sep.cps ++ (Str.join sep (z :: r)).cps))
          simp [Array.append_assoc]
    show (⟨r.foldl (fun acc p => acc ++ sep.cps ++ p.cps) x.cps⟩ : Str) = _
    rw [go r x.cps]
    cases r with
    | nil =>
      show (⟨x.cps ++ #[]⟩ : Str) = x
      simp
    | cons y r =>
      show (⟨x.cps ++ (sep.cps ++ (Str.join sep (y :: r)).cps)⟩ : Str) = ⟨x.cps ++ sep.cps ++ (Str.join sep (y :: r)).cps⟩
      rw [Array.append_assoc]
theorem join_len (sep : Str) : ∀ l : List Str, (l.map (·.length)).sum + l.length * sep.length ≤ (Str.join sep l).length + sep.length
  | [] => by simp
  | [x] => by
    show x.length + 0 + (0 + 1) * sep.length ≤ x.length + sep.length
    omega
  | x :: y :: r => by
    have ih := join_len sep (y :: r)
    have e : Str.join sep (x :: y :: r) = x ++ sep ++ Str.join sep (y :: r) := rfl
    rw [e, sl_app, sl_app, List.map_cons, List.sum_cons, List.length_cons, Nat.succ_mul]
    omega
abbrev N_as_tuples : List Str := ["value", "part"]
abbrev P_as_tuples : List Str := ["value"]
theorem sc_as_tuples : FnScope N_as_tuples P_as_tuples (defScope s_as_tuples) := ⟨rfl, rfl, rfl, by decide +kernel, rfl, by decide +kernel, by decide +kernel⟩
theorem bd_as_tuples (kV doc pm : Value) (an : Option Addr) (cdv ct : Value) (us : List Value) (hl : us.length = P_as_tuples.length) : bindArgs (PySem.W.fnOf d_as_tuples.name d_as_tuples.qual d_as_tuples.params d_as_tuples.body d_as_tuples.scope .none kV doc pm an cdv ct) ⟨us, []⟩ = pure (P_as_tuples.zip us) := match us, hl with | [_], _ => rfl
abbrev N_tightness : List Str := ["expr"]
abbrev P_tightness : List Str := ["expr"]
theorem sc_tightness : FnScope N_tightness P_tightness (defScope s_tightness) := ⟨rfl, rfl, rfl, by decide +kernel, rfl, by decide +kernel, by decide +kernel⟩
theorem bd_tightness (kV doc pm : Value) (an : Option Addr) (cdv ct : Value) (us : List Value) (hl : us.length = P_tightness.length) : bindArgs (PySem.W.fnOf d_tightness.name d_tightness.qual d_tightness.params d_tightness.body d_tightness.scope .none kV doc pm an cdv ct) ⟨us, []⟩ = pure (P_tightness.zip us) := match us, hl with | [_], _ => rfl
abbrev N_operand_text : List Str := ["expr", "least", "text"]
abbrev P_operand_text : List Str := ["expr", "least"]
theorem sc_operand_text : FnScope N_operand_text P_operand_text (defScope s_operand_text) := ⟨rfl, rfl, rfl, by decide +kernel, rfl, by decide +kernel, by decide +kernel⟩
theorem bd_operand_text (kV doc pm : Value) (an : Option Addr) (cdv ct : Value) (us : List Value) (hl : us.length = P_operand_text.length) : bindArgs (PySem.W.fnOf d_operand_text.name d_operand_text.qual d_operand_text.params d_operand_text.body d_operand_text.scope .none kV doc pm an cdv ct) ⟨us, []⟩ = pure (P_operand_text.zip us) := match us, hl with | [_, _], _ => rfl
abbrev N_args_text : List Str := ["args", "expr"]
abbrev P_args_text : List Str := ["args"]
theorem sc_args_text : FnScope N_args_text P_args_text (defScope s_args_text) := ⟨rfl, rfl, rfl, by decide +kernel, rfl, by decide +kernel, by decide +kernel⟩
theorem bd_args_text (kV doc pm : Value) (an : Option Addr) (cdv ct : Value) (us : List Value) (hl : us.length = P_args_text.length) : bindArgs (PySem.W.fnOf d_args_text.name d_args_text.qual d_args_text.params d_args_text.body d_args_text.scope .none kV doc pm an cdv ct) ⟨us, []⟩ = pure (P_args_text.zip us) := match us, hl with | [_], _ => rfl
abbrev N_op_text : List Str := ["sign", "left", "right", "own"]
abbrev P_op_text : List Str := ["sign", "left", "right"]
theorem sc_op_text : FnScope N_op_text P_op_text (defScope s_op_text) := ⟨rfl, rfl, rfl, by decide +kernel, rfl, by decide +kernel, by decide +kernel⟩
theorem bd_op_text (kV doc pm : Value) (an : Option Addr) (cdv ct : Value) (us : List Value) (hl : us.length = P_op_text.length) : bindArgs (PySem.W.fnOf d_op_text.name d_op_text.qual d_op_text.params d_op_text.body d_op_text.scope .none kV doc pm an cdv ct) ⟨us, []⟩ = pure (P_op_text.zip us) := match us, hl with | [_, _, _], _ => rfl
abbrev N_expr_text : List Str := ["expr", "word", "parts", "field", "value"]
abbrev P_expr_text : List Str := ["expr"]
theorem sc_expr_text : FnScope N_expr_text P_expr_text (defScope s_expr_text) := ⟨rfl, rfl, rfl, by decide +kernel, rfl, by decide +kernel, by decide +kernel⟩
theorem bd_expr_text (kV doc pm : Value) (an : Option Addr) (cdv ct : Value) (us : List Value) (hl : us.length = P_expr_text.length) : bindArgs (PySem.W.fnOf d_expr_text.name d_expr_text.qual d_expr_text.params d_expr_text.body d_expr_text.scope .none kV doc pm an cdv ct) ⟨us, []⟩ = pure (P_expr_text.zip us) := match us, hl with | [_], _ => rfl
section
variable {P : Program} {w : World} {K : PySem.W.Frag} {mg : Str → Option Value} {base : Heap}
mutual
def thin : PyData → Prop
  | .tuple xs => xs.length ≤ 1000 ∧ thinAll xs
  | _ => True
def thinAll : List PyData → Prop
  | [] => True
  | x :: xs => thin x ∧ thinAll xs
end
theorem thin_mem {d : PyData} : ∀ {ds : List PyData}, thinAll ds → d ∈ ds → thin d
  | e :: r, t, h => by
    have t' : thin e ∧ thinAll r := by simpa only [thinAll] using t
    rcases List.mem_cons.mp h with rfl | h
    · exact t'.1
    · exact thin_mem t'.2 h
def spTup (n : Nat) : Sp := fun vs H Q _ => ∃ (v : V) (d : PyData), vs = [v] ∧ d.depth < n ∧ thin d ∧ Va H v d ∧ ∀ (v' : V) (H' : Hp), Va H' v' d → Same H H' → Q v' H'
theorem isi_s {K : PySem.W.Frag} : PySem.W.kitAny K (.type "str") [.type "list", .type "tuple"] = some false := kitAny_cons (kit_ty (r := false) (by decide +kernel)) (fun _ => kitAny_cons (kit_ty (r := false) (by decide +kernel)) (fun _ => kitAny_nil) (fun z => nomatch z)) (fun z => nomatch z)
theorem isi_i {K : PySem.W.Frag} : PySem.W.kitAny K (.type "int") [.type "list", .type "tuple"] = some false := kitAny_cons (kit_ty (r := false) (by decide +kernel)) (fun _ => kitAny_cons (kit_ty (r := false) (by decide +kernel)) (fun _ => kitAny_nil) (fun z => nomatch z)) (fun z => nomatch z)
theorem isi_t {K : PySem.W.Frag} : PySem.W.kitAny K (.type "tuple") [.type "list", .type "tuple"] = some true := kitAny_cons (kit_ty (r := false) (by decide +kernel)) (fun _ => kitAny_cons (kit_ty (r := true) (by decide +kernel)) (fun z => nomatch z) (fun _ => rfl)) (fun z => nomatch z)
theorem depth_mem {d : PyData} : ∀ {ds : List PyData}, d ∈ ds → d.depth ≤ PyData.depthAll ds
  | e :: r, h => by
    have e1 : PyData.depthAll (e :: r) = max e.depth (PyData.depthAll r) := by simp only [PyData.depthAll]
    rw [e1]
    rcases List.mem_cons.mp h with rfl | h
    · exact Nat.le_max_left _ _
    · exact Nat.le_trans (depth_mem h) (Nat.le_max_right _ _)
theorem depth_tup (ds : List PyData) : (PyData.tuple ds).depth = PyData.depthAll ds + 1 := by unfold PyData.depth <;> rfl
theorem VaL.take {H : Hp} : ∀ {vs : List V} {ds : List PyData} (i : Nat), VaL H vs ds → VaL H (vs.take i) (ds.take i)
  | _, _, 0, _ => .nil
  | _, _, _ + 1, .nil => .nil
  | _, _, i + 1, .cons h t => .cons h (VaL.take i t)
theorem ok_tup (T : Txt K mg w) : ∀ n, Clb P w K mg base CX0 (1 + n) "as_tuples" (spTup n)
  | 0 => T.none (d := d_as_tuples) m_as_tuples rfl T.g_as_tuples rfl rfl 0 sc_as_tuples bd_as_tuples fun vs H Q E ⟨v, d, _, h, _⟩ => Nat.not_lt_zero _ h
  | n + 1 => by
    have c_as_tuples := ok_tup T n
    refine T.clb (k := 1 + n) (d := d_as_tuples) m_as_tuples rfl T.g_as_tuples rfl rfl sc_as_tuples bd_as_tuples (fun vs H Q E h => ?_) (fun cdv A outer s H vs Q E hr h => ?_)
    · obtain ⟨v, d, rfl, _⟩ := h
      rfl
    · obtain ⟨v, d, rfl, dn, th, hv, k⟩ := h
      refine ⟨_, (pss_cons (ps_if (pt_val (pe_callB call_isiT (by rfl) T.f_isinstance (by decide +kernel) (pa_cons (pv 0) (pa_cons (pe_tup (pa_cons (pe_bltn (v := .ty "list") (by rfl) T.f_list (by decide +kernel) rfl) (pa_cons (pe_bltn (v := .ty "tuple") (by rfl) T.f_tuple (by decide +kernel) rfl) pa_nil))) pa_nil))))
    (pss_one (ps_ret (pe_callTy call_tuple_of (by rfl) T.f_tuple (by decide +kernel) (pa_cons (pe_lc (own := [("part", 1)]) (g := gName 1) rfl sc_as_tuples.nd (pi_tup (pv 0)) (blkOk_by (own := [("part", 1)]) (N := N_as_tuples) (sc := defScope s_as_tuples) (by decide +kernel)) (fun _ _ _ _ _ => pg_name (i := 1) sc_as_tuples.nd rfl (.inl rfl)) (fun _ _ _ _ _ => pts_nil) (fun _ _ _ _ _ => (pe_cl c_as_tuples hr (by first | decide | omega) pass0 (by rfl) (pa_cons (pv 1) pa_nil)))) pa_nil))))
    pss_nil)
    (pss_one (ps_ret (pv 0)))), ?_⟩
      walk_at "rd"
      refine ⟨sz rfl, fun tp ntp => ?_⟩
      have S1 : Same H (upd H tp (.tup [.ty "list", .ty "tuple"])) := same_new ntp
      have pc : Paired ClsV [V.ty "list", V.ty "tuple"] [Value.type "list", Value.type "tuple"] := .cons (.ty _) (.cons (.ty _) .nil)
      cases hv with
      | int i =>
        refine ⟨_, tp, _, _, _, false, rfl, upd_same, pc, .base (.int i), isi_i, ?_⟩
        walk_at "rd"
        exact k _ _ (.int i) S1
      | str x =>
        refine ⟨_, tp, _, _, _, false, rfl, upd_same, pc, .base (.str x), isi_s, ?_⟩
        walk_at "rd"
        exact k _ _ (.str x) S1
      | @tup a xs ds at_ va =>
        refine ⟨_, tp, _, _, _, true, rfl, upd_same, pc, .base (.tup (at_new at_ ntp)), isi_t, ?_⟩
        walk_at "rd"
        have th' : ds.length ≤ 1000 ∧ thinAll ds := by simpa only [thin] using th
        have lv := va.length
        refine ⟨⟨_, st_of (at_new at_ ntp)⟩, fun D nD => lc_tup (K := K) (xs := xs) (fun i H2 => Same H H2 ∧ ∃ ys : List V, H2 D = some (.lst ys) ∧ ys.length = i ∧ VaL H2 ys (ds.take i)) ?_ ?_ ?_ ?_⟩
        · exact ⟨S1.trans (same_new nD), [], upd_same, rfl, .nil⟩
        · rintro i H2 _ ⟨S2, _⟩
          exact st_of (S2 a _ at_)
        · rintro i x H2 hx ⟨S2, ys, atD, ly, vy⟩
          obtain ⟨d, hd, vx⟩ := (va.keep (Tp.of S2)).get hx
          refine ⟨rfl, ?_⟩
          walk_at "rd"
          have dm : d.depth ≤ PyData.depthAll ds := depth_mem (List.mem_of_getElem? hd)
          rw [depth_tup] at dn
          refine ⟨x, d, rfl, by omega, thin_mem th'.2 (List.mem_of_getElem? hd), vx, fun v' H3 hv' S3 => ?_⟩
          have atD3 := S3 D _ atD
          have lx : i < xs.length := (List.getElem?_eq_some_iff.mp hx).1
          refine ⟨ys, atD3, Nat.lt_of_lt_of_le (show ys.length < 100001 by omega) (by decide), Same.own (S2.trans S3) (S1.free nD), ys ++ [v'], upd_same, by simp [ly], ?_⟩
          rw [List.take_add_one, hd]
          exact ((vy.keep (Tp.of S3)).app (.cons hv' .nil)).keep (Tp.upd (lst_notup atD3))
        · rintro H2 ⟨S2, ys, atD, ly, vy⟩
          rw [show xs.length = ds.length from va.length, List.take_length] at vy
          exact ⟨D, ys, rfl, .inl ⟨sq_of atD, fun l nl => k _ _ (va_new nl vy) (S2.trans (same_new nl))⟩⟩
theorem tig_of (T : Txt K mg w) {s : Str} (h : s ∈ K4.signs) : KDct K w (He.ga K "TIGHTNESS") s (.int (K4.tightOf s)) := by
  obtain ⟨es, n, kd⟩ := T.tab
  have hv := T.mor.tig
  have go : ∀ (s : Str) (i : Nat), ((s, He.Dv.int i) : Str × He.Dv) ∈ ([("or", .int 0), ("and", .int 1), ("==", .int 2), ("!=", .int 2), ("<", .int 2), ("<=", .int 2), ("+", .int 3), ("-", .int 3), ("*", .int 4), ("/", .int 4), ("mod", .int 4)] : List (Str × He.Dv)) → KDct K w (He.ga K "TIGHTNESS") s (.int i) := by
    intro s i hm
    obtain ⟨u, e1, e2⟩ := He.valsB_ok hv hm
    exact ⟨es, n, u, kd.at_, kd.lit, e1, e2⟩
  simp only [K4.signs, List.mem_cons, List.not_mem_nil, or_false] at h
  rcases h with rfl | rfl | rfl | rfl | rfl | rfl | rfl | rfl | rfl | rfl | rfl
  · rw [show K4.tightOf "or" = 0 by decide]
    exact go _ 0 (by simp)
  · rw [show K4.tightOf "and" = 1 by decide]
    exact go _ 1 (by simp)
  · rw [show K4.tightOf "==" = 2 by decide]
    exact go _ 2 (by simp)
  · rw [show K4.tightOf "!=" = 2 by decide]
    exact go _ 2 (by simp)
  · rw [show K4.tightOf "<" = 2 by decide]
    exact go _ 2 (by simp)
  · rw [show K4.tightOf "<=" = 2 by decide]
    exact go _ 2 (by simp)
  · rw [show K4.tightOf "+" = 3 by decide]
    exact go _ 3 (by simp)
  · rw [show K4.tightOf "-" = 3 by decide]
    exact go _ 3 (by simp)
  · rw [show K4.tightOf "*" = 4 by decide]
    exact go _ 4 (by simp)
  · rw [show K4.tightOf "/" = 4 by decide]
    exact go _ 4 (by simp)
  · rw [show K4.tightOf "mod" = 4 by decide]
    exact go _ 4 (by simp)
/-- what an expression's tuple holds -/
def tgE : K4.Ex → Str
  | .int _ => "int"
  | .non => "none"
  | .var _ => "var"
  | .call _ _ => "call"
  | .recv _ => "receive"
  | .new _ => "new"
  | .get _ _ => "get"
  | .neg _ => "neg"
  | .not _ => "not"
  | .op _ _ _ => "op"
def spTight : Sp := fun vs H Q _ => ∃ (e : K4.Ex) (d : Nat) (v : V), vs = [v] ∧ K4.tE e d ∧ Va H v e.toD ∧ ∀ (H' : Hp), Same H H' → Q (.int (K4.tight e)) H'
theorem ok_tight (T : Txt K mg w) : Clb P w K mg base CX0 1 "tightness" spTight := by
  refine T.clb (d := d_tightness) m_tightness rfl T.g_tightness rfl rfl sc_tightness bd_tightness (fun vs H Q E h => ?_) (fun cdv A outer s H vs Q E hr h => ?_)
  · obtain ⟨e, d, v, rfl, _⟩ := h
    rfl
  · obtain ⟨e, d, v, rfl, te, hv, k⟩ := h
    refine ⟨_, (pss_cons (ps_if (pt_cmpR op_eq (pe_ix ix_tup (pv 0) pe_int (fun _ _ => rfl)) pe_str (nomark _))
    (pss_one (ps_ret (pe_ix ix_kdict (C8.pe_gc (by rfl) T.v_TIGHTNESS) (pe_ix ix_tup (pv 0) pe_int (fun _ _ => rfl)) (fun _ _ => rfl))))
    pss_nil)
    (pss_one (ps_ret (pe_ifExp (pt_cmpR op_in_seq (pe_ix ix_tup (pv 0) pe_int (fun _ _ => rfl)) (pe_tup (pa_cons pe_str (pa_cons pe_str pa_nil))) (by with_unfolding_all rfl)) (C8.pe_gc (by rfl) T.v_SIGNED) (C8.pe_gc (by rfl) T.v_ITEM))))), ?_⟩
    obtain ⟨a, xs, rfl, at_, va⟩ : ∃ a xs, v = .ref a ∧ H a = some (.tup xs) ∧ xs[0]? = some (.str (tgE e)) := by
      cases e <;> (obtain ⟨a, xs, rfl, at_, va⟩ := hv.tup_inv; obtain ⟨x, ys, rfl, hx, _⟩ := va.cons_inv; obtain rfl := hx.str_inv; exact ⟨a, _, rfl, at_, rfl⟩)
    walk_at "rd"
    refine ⟨a, xs, 0, _, rfl, rfl, st_of at_, atI_nat (j := 0) va, ?_⟩
    have rest : K4.tight e = (if tgE e = "neg" ∨ tgE e = "not" then 5 else 6) → tgE e ≠ "op" → True := fun _ _ => True.intro
    cases e with
    | op s l r =>
      walk_at "tg"
      obtain ⟨a', xs', e1, at', va'⟩ := hv.tup_inv
      cases e1
      rw [at_] at at'
      cases at'
      obtain ⟨x0, ys0, rfl, _, va1⟩ := va'.cons_inv
      obtain ⟨x1, ys1, rfl, hx1, _⟩ := va1.cons_inv
      obtain rfl := hx1.str_inv
      refine ⟨a, _, 1, .str s, rfl, rfl, st_of at_, atI_nat (j := 1) rfl, ?_⟩
      exact ⟨_, s, _, rfl, rfl, tig_of T te.2.1, k H (Same.refl _)⟩
    | neg e =>
      walk_at "tg"
      refine ⟨a, xs, 0, _, rfl, rfl, st_of at_, atI_nat (j := 0) va, ?_⟩
      refine ⟨sz rfl, fun t nt => ?_⟩
      refine ⟨t, _, rfl, .inr (st_of upd_same), rfl, rfl, ?_⟩
      walk_at "tg"
      exact k _ (same_new nt)
    | not e =>
      walk_at "tg"
      refine ⟨a, xs, 0, _, rfl, rfl, st_of at_, atI_nat (j := 0) va, ?_⟩
      refine ⟨sz rfl, fun t nt => ?_⟩
      refine ⟨t, _, rfl, .inr (st_of upd_same), rfl, rfl, ?_⟩
      walk_at "tg"
      exact k _ (same_new nt)
    | _ =>
      walk_at "tg"
      refine ⟨a, xs, 0, _, rfl, rfl, st_of at_, atI_nat (j := 0) va, ?_⟩
      refine ⟨sz rfl, fun t nt => ?_⟩
      refine ⟨t, _, rfl, .inr (st_of upd_same), rfl, rfl, ?_⟩
      walk_at "tg"
      exact k _ (same_new nt)
theorem sL : 2 ^ 20 + 1000 ≤ sizeLine := by decide
theorem opd_len (e : K4.Ex) (k : Nat) : (K4.exT e).length ≤ (K4.opdT e k).length := by
  unfold K4.opdT
  split
  · rw [sl_app, sl_app]
    omega
  · exact Nat.le_refl _
def spExpr (n : Nat) : Sp := fun vs H Q _ => ∃ (e : K4.Ex) (d : Nat) (v : V), vs = [v] ∧ d < n ∧ K4.tE e d ∧ Va H v e.toD ∧ (K4.exT e).length ≤ 2 ^ 20 ∧ ∀ (H' : Hp), Same H H' → Q (.str (K4.exT e)) H'
def spOpd (n : Nat) : Sp := fun vs H Q _ => ∃ (e : K4.Ex) (d k : Nat) (v : V), vs = [v, .int k] ∧ d < n ∧ K4.tE e d ∧ Va H v e.toD ∧ (K4.opdT e k).length ≤ 2 ^ 20 ∧ ∀ (H' : Hp), Same H H' → Q (.str (K4.opdT e k)) H'
def spArgs (n : Nat) : Sp := fun vs H Q _ => ∃ (as : List K4.Ex) (d : Nat) (v : V), vs = [v] ∧ d < n ∧ as.length ≤ 2 ∧ K4.tEs as d ∧ Va H v (.tuple (K4.exsD as)) ∧ (K4.argsT as).length ≤ 2 ^ 20 ∧ ∀ (H' : Hp), Same H H' → Q (.str (K4.argsT as)) H'
def spOp (n : Nat) : Sp := fun vs H Q _ => ∃ (s : Str) (l r : K4.Ex) (d : Nat) (v u : V), vs = [.str s, v, u] ∧ d < n ∧ s ∈ K4.signs ∧ K4.tE l d ∧ K4.tE r d ∧ Va H v l.toD ∧ Va H u r.toD ∧ (K4.exT (.op s l r)).length ≤ 2 ^ 20 ∧ ∀ (H' : Hp), Same H H' → Q (.str (K4.exT (.op s l r))) H'
theorem ok_opd (T : Txt K mg w) (n : Nat) (c_expr_text : Clb P w K mg base CX0 (1 + 3 * n) "expr_text" (spExpr n)) : Clb P w K mg base CX0 (2 + 3 * n) "operand_text" (spOpd n) := by
  have c_tightness := ok_tight (P := P) (base := base) T
  rw [show 2 + 3 * n = (1 + 3 * n) + 1 by omega]
  refine T.clb (k := 1 + 3 * n) (d := d_operand_text) m_operand_text rfl T.g_operand_text rfl rfl sc_operand_text bd_operand_text (fun vs H Q E h => ?_) (fun cdv A outer s H vs Q E hr h => ?_)
  · obtain ⟨e, d, k, v, rfl, _⟩ := h
    rfl
  · obtain ⟨e, d, kk, v, rfl, dn, te, hv, hl, k⟩ := h
    refine ⟨_, (pss_cons (ps_set (i := 2) sc_operand_text.nd rfl (.inl rfl) (pe_cl c_expr_text hr (by first | decide | omega) pass0 (by rfl) (pa_cons (pv 0) pa_nil)))
    (pss_one (ps_ret (pe_ifExp (pt_cmpR op_lt (pe_cl c_tightness hr (by first | decide | omega) pass0 (by rfl) (pa_cons (pv 0) pa_nil)) (pv 1) (nomark _)) (pe_op op_add_str (pe_op op_add_str pe_str (pv 2)) pe_str) (pv 2))))), ?_⟩
    have hl' := opd_len e kk
    have sL := sL
    walk_at "rd"
    refine ⟨e, d, v, rfl, dn, te, hv, by omega, fun H1 S1 => ?_⟩
    walk_at "rd"
    refine ⟨e, d, v, rfl, te, hv.keep (Tp.of S1), fun H2 S2 => ?_⟩
    walk_at "rd"
    have eq : decide ((K4.tight e : Int) < (kk : Int)) = decide (K4.tight e < kk) := by
      rw [Bool.eq_iff_iff]
      simp
    refine ite2 (fun c => ?_) (fun c => ?_)
    · have c' : K4.tight e < kk := by simpa using c
      have ee : K4.opdT e kk = "(" ++ K4.exT e ++ ")" := by
        unfold K4.opdT
        rw [if_pos c']
      rw [ee] at k hl
      rw [sl_app, sl_app] at hl
      walk_at "rd"
      refine ⟨by omega, ?_⟩
      walk_at "rd"
      refine ⟨by rw [sl_app]; omega, k H2 (S1.trans S2)⟩
    · have c' : ¬ K4.tight e < kk := by simpa using c
      have ee : K4.opdT e kk = K4.exT e := by
        unfold K4.opdT
        rw [if_neg c']
      rw [ee] at k
      walk_at "rd"
      exact k H2 (S1.trans S2)
theorem exsT_len : ∀ as : List K4.Ex, (K4.exsT as).length = as.length
  | [] => rfl
  | _ :: r => congrArg Nat.succ (exsT_len r)
theorem exsD_len : ∀ as : List K4.Ex, (K4.exsD as).length = as.length
  | [] => rfl
  | _ :: r => congrArg Nat.succ (exsD_len r)
theorem exs_get : ∀ (as : List K4.Ex) (d i : Nat) (t : Str), K4.tEs as d → (K4.exsT as)[i]? = some t → ∃ e, t = K4.exT e ∧ K4.tE e d ∧ (K4.exsD as)[i]? = some e.toD
  | [], _, _, _, _, h => by cases h
  | e :: r, d, 0, t, h, q => by
    cases q
    exact ⟨e, rfl, h.1, rfl⟩
  | e :: r, d, i + 1, t, h, q => exs_get r d i t h.2 q
theorem mem_join (sep : Str) : ∀ (l : List Str) (t : Str), t ∈ l → t.length ≤ (Str.join sep l).length
  | [x], t, h => by
    rw [List.mem_singleton.mp h]
    exact Nat.le_refl _
  | x :: y :: r, t, h => by
    have e : Str.join sep (x :: y :: r) = x ++ sep ++ Str.join sep (y :: r) := rfl
    rw [e, sl_app, sl_app]
    rcases List.mem_cons.mp h with rfl | h
    · omega
    · have := mem_join sep (y :: r) t h
      omega
theorem ok_args (T : Txt K mg w) (n : Nat) (c_expr_text : Clb P w K mg base CX0 (1 + 3 * n) "expr_text" (spExpr n)) : Clb P w K mg base CX0 (2 + 3 * n) "args_text" (spArgs n) := by
  rw [show 2 + 3 * n = (1 + 3 * n) + 1 by omega]
  refine T.clb (k := 1 + 3 * n) (d := d_args_text) m_args_text rfl T.g_args_text rfl rfl sc_args_text bd_args_text (fun vs H Q E h => ?_) (fun cdv A outer s H vs Q E hr h => ?_)
  · obtain ⟨as, d, v, rfl, _⟩ := h
    rfl
  · obtain ⟨as, d, v, rfl, dn, al, te, hv, hl, k⟩ := h
    refine ⟨_, (pss_one (ps_ret (pe_op op_add_str (pe_op op_add_str pe_str (pe_join pe_str (pe_lc (own := [("expr", 1)]) (g := gName 1) rfl sc_args_text.nd (pi_tup (pv 0)) (blkOk_by (own := [("expr", 1)]) (N := N_args_text) (sc := defScope s_args_text) (by decide +kernel)) (fun _ _ _ _ _ => pg_name (i := 1) sc_args_text.nd rfl (.inl rfl)) (fun _ _ _ _ _ => pts_nil) (fun _ _ _ _ _ => (pe_cl c_expr_text hr (by first | decide | omega) pass0 (by rfl) (pa_cons (pv 1) pa_nil)))))) pe_str))), ?_⟩
    have sL := sL
    have hl' : ("(" ++ Str.join ", " (K4.exsT as) ++ ")" : Str).length ≤ 2 ^ 20 := hl
    rw [sl_app, sl_app] at hl'
    obtain ⟨a, xs, rfl, at_, va⟩ := hv.tup_inv
    refine ⟨⟨_, rfl⟩, ?_⟩
    walk_at "rd"
    refine ⟨⟨_, st_of at_⟩, fun D nD => lc_txt (K := K) (K4.exsT as) (by rw [va.length, exsT_len, exsD_len]) (by rw [exsT_len]; omega) nD at_ ?_ ?_ ?_⟩
    · intro i x t H2 Qn hx ht S2 q
      obtain ⟨e, rfl, hte, hd⟩ := exs_get as d i t te ht
      obtain ⟨d', hd', vx⟩ := (va.keep (Tp.of S2)).get hx
      rw [hd] at hd'
      cases hd'
      refine ⟨rfl, ?_⟩
      walk_at "rd"
      refine ⟨e, d, x, rfl, dn, hte, vx, ?_, fun H4 S4 => q H4 S4⟩
      have := mem_join ", " _ _ (List.mem_of_getElem? ht)
      omega
    · intro x H2 Q1 Q2 f q
      exact f _ _ q
    · intro H2 S2 atD
      have jl := join_len ", " (K4.exsT as)
      have ln : (", " : Str).length = 2 := by decide
      have l1 : ("(" : Str).length = 1 := by decide
      refine ⟨_, D, K4.exsT as, rfl, rfl, .inl (sq_of atD), ?_, ?_⟩
      · omega
      rw [join_eq]
      walk_at "rd"
      refine ⟨by omega, ?_⟩
      walk_at "rd"
      refine ⟨by rw [sl_app]; omega, k H2 S2⟩
theorem ok_optext (T : Txt K mg w) (n : Nat) (c_operand_text : Clb P w K mg base CX0 (2 + 3 * n) "operand_text" (spOpd n)) : Clb P w K mg base CX0 (3 + 3 * n) "op_text" (spOp n) := by
  rw [show 3 + 3 * n = (2 + 3 * n) + 1 by omega]
  refine T.clb (k := 2 + 3 * n) (d := d_op_text) m_op_text rfl T.g_op_text rfl rfl sc_op_text bd_op_text (fun vs H Q E h => ?_) (fun cdv A outer s H vs Q E hr h => ?_)
  · obtain ⟨s, l, r, d, v, u, rfl, _⟩ := h
    rfl
  · obtain ⟨s, l, r, d, v, u, rfl, dn, hs, tl, tr, hv, hu, hl, k⟩ := h
    refine ⟨_, (pss_cons (ps_set (i := 3) sc_op_text.nd rfl (.inl rfl) (pe_ix ix_kdict (C8.pe_gc (by rfl) T.v_TIGHTNESS) (pv 0) (fun _ _ => rfl)))
    (pss_one (ps_ret (pe_op op_add_str (pe_op op_add_str (pe_op op_add_str (pe_op op_add_str (pe_cl c_operand_text hr (by first | decide | omega) pass0 (by rfl) (pa_cons (pv 1) (pa_cons (pe_op op_add (pv 3) (pe_callTy call_int1 (by rfl) T.f_int (by decide +kernel) (pa_cons (pe_cmpR op_eq (pv 3) (C8.pe_gc (by rfl) T.v_TESTS_writing) (nomark _)) pa_nil))) pa_nil))) pe_str) (pv 0)) pe_str) (pe_cl c_operand_text hr (by first | decide | omega) pass0 (by rfl) (pa_cons (pv 2) (pa_cons (pe_op op_add (pv 3) pe_int) pa_nil))))))), ?_⟩
    have sL := sL
    have hl' : (K4.opdT l (K4.lft (K4.tightOf s)) ++ " " ++ s ++ " " ++ K4.opdT r (K4.tightOf s + 1)).length ≤ 2 ^ 20 := hl
    rw [sl_app, sl_app, sl_app, sl_app] at hl'
    have b1 : (" " : Str).length = 1 := by decide
    walk_at "rd"
    refine ⟨_, s, _, rfl, rfl, tig_of T hs, ?_⟩
    walk_at "rd"
    refine ⟨rfl, .inr ⟨_, rfl, ?_⟩⟩
    have lf : (K4.tightOf s : Int) + (if decide (V.int (K4.tightOf s : Int) = V.int 2) = true then 1 else 0) = ((K4.lft (K4.tightOf s) : Nat) : Int) := by
      unfold K4.lft
      by_cases h : K4.tightOf s = 2
      · rw [h] <;> rfl
      · rw [if_neg h, if_neg]
        · simp
        · intro z
          have z' := V.int.inj (of_decide_eq_true z)
          omega
    walk_at "rd"
    refine ⟨l, d, _, v, congrArg (fun z => [v, V.int z]) lf, dn, tl, hv, by omega, fun H1 S1 => ?_⟩
    walk_at "rd"
    refine ⟨by omega, ?_⟩
    walk_at "rd"
    refine ⟨by rw [sl_app]; omega, ?_⟩
    walk_at "rd"
    refine ⟨by rw [sl_app, sl_app]; omega, ?_⟩
    walk_at "rd"
    refine ⟨r, d, K4.tightOf s + 1, u, rfl, dn, tr, hu.keep (Tp.of S1), by omega, fun H2 S2 => ?_⟩
    walk_at "rd"
    refine ⟨by rw [sl_app, sl_app, sl_app]; omega, k H2 (S1.trans S2)⟩
theorem fsT_len : ∀ as : List (Str × K4.Ex), (K4.fsT as).length = as.length
  | [] => rfl
  | (_, _) :: r => congrArg Nat.succ (fsT_len r)
theorem fsD_len : ∀ as : List (Str × K4.Ex), (K4.fsD as).length = as.length
  | [] => rfl
  | (_, _) :: r => congrArg Nat.succ (fsD_len r)
theorem fs_get : ∀ (as : List (Str × K4.Ex)) (d i : Nat) (t : Str), K4.tEf as d → (K4.fsT as)[i]? = some t → ∃ y e, t = y ++ ": " ++ K4.exT e ∧ K4.tE e d ∧ (K4.fsD as)[i]? = some (.tuple [.str y, e.toD])
  | [], _, _, _, _, h => by cases h
  | (y, e) :: r, d, 0, t, h, q => by
    cases q
    exact ⟨y, e, rfl, h.2.1, rfl⟩
  | (y, e) :: r, d, i + 1, t, h, q => fs_get r d i t h.2.2 q
theorem call_strV {X : Cx} : CallR X (.type "str") (fun xs H Q => (∃ i, xs = [V.int i] ∧ i.natAbs.log2 < 1920 ∧ Q (.str (toString i)) H) ∨ (∃ a, xs = [V.str a] ∧ Q (.str a) H)) := call_str_int.or SkE.call_str_str
theorem ok_exprtext (T : Txt K mg w) (n : Nat) (c_expr_text : Clb P w K mg base CX0 (1 + 3 * n) "expr_text" (spExpr n)) (c_operand_text : Clb P w K mg base CX0 (2 + 3 * n) "operand_text" (spOpd n)) (c_args_text : Clb P w K mg base CX0 (2 + 3 * n) "args_text" (spArgs n)) (c_op_text : Clb P w K mg base CX0 (3 + 3 * n) "op_text" (spOp n)) :
    Clb P w K mg base CX0 (1 + 3 * (n + 1)) "expr_text" (spExpr (n + 1)) := by
  rw [show 1 + 3 * (n + 1) = (3 + 3 * n) + 1 by omega]
  refine T.clb (k := 3 + 3 * n) (d := d_expr_text) m_expr_text rfl T.g_expr_text rfl rfl sc_expr_text bd_expr_text (fun vs H Q E h => ?_) (fun cdv A outer s H vs Q E hr h => ?_)
  · obtain ⟨e, d, v, rfl, _⟩ := h
    rfl
  · obtain ⟨e, d, v, rfl, dn, te, hv, hl, k⟩ := h
    refine ⟨_, (pss_cons (ps_asg (pv 0) (pg_star rfl (pgs_cons (pg_name (i := 1) sc_expr_text.nd rfl (.inl rfl)) (pgs_cons (pg_name (i := 2) sc_expr_text.nd rfl (.inl rfl)) pgs_nil))))
    (pss_cons (ps_if (pt_cmpR op_eq (pv 1) pe_str (nomark _))
    (pss_one (ps_ret (pe_cl c_op_text hr (by first | decide | omega) pass0 (by rfl) (pa_cons (pe_ix ix_list (pv 2) pe_int (fun _ _ => rfl)) (pa_cons (pe_ix ix_list (pv 2) pe_int (fun _ _ => rfl)) (pa_cons (pe_ix ix_list (pv 2) pe_int (fun _ _ => rfl)) pa_nil))))))
    pss_nil)
    (pss_cons (ps_if (pt_cmpR op_eq (pv 1) pe_str (nomark _))
    (pss_one (ps_ret (pe_op op_add_str pe_str (pe_cl c_operand_text hr (by first | decide | omega) pass0 (by rfl) (pa_cons (pe_ix ix_list (pv 2) pe_int (fun _ _ => rfl)) (pa_cons (C8.pe_gc (by rfl) T.v_SIGNED) pa_nil))))))
    pss_nil)
    (pss_cons (ps_if (pt_cmpR op_eq (pv 1) pe_str (nomark _))
    (pss_one (ps_ret (pe_op op_add_str pe_str (pe_cl c_operand_text hr (by first | decide | omega) pass0 (by rfl) (pa_cons (pe_ix ix_list (pv 2) pe_int (fun _ _ => rfl)) (pa_cons (C8.pe_gc (by rfl) T.v_SIGNED) pa_nil))))))
    pss_nil)
    (pss_cons (ps_if (pt_cmpR op_eq (pv 1) pe_str (nomark _))
    (pss_one (ps_ret (pe_op op_add_str (pe_op op_add_str (pe_cl c_operand_text hr (by first | decide | omega) pass0 (by rfl) (pa_cons (pe_ix ix_list (pv 2) pe_int (fun _ _ => rfl)) (pa_cons (C8.pe_gc (by rfl) T.v_ITEM) pa_nil))) pe_str) (pe_ix ix_list (pv 2) pe_int (fun _ _ => rfl)))))
    pss_nil)
    (pss_cons (ps_if (pt_cmpR op_eq (pv 1) pe_str (nomark _))
    (pss_one (ps_ret (pe_op op_add_str (pe_ix ix_list (pv 2) pe_int (fun _ _ => rfl)) (pe_cl c_args_text hr (by first | decide | omega) pass0 (by rfl) (pa_cons (pe_ix ix_list (pv 2) pe_int (fun _ _ => rfl)) pa_nil)))))
    pss_nil)
    (pss_cons (ps_if (pt_cmpR op_eq (pv 1) pe_str (nomark _))
    (pss_one (ps_ret (pe_op op_add_str (pe_op op_add_str pe_str (pe_join pe_str (pe_lc (own := [("field", 3), ("value", 4)]) (g := gTup K 2 (gCons (gName 3) (gCons (gName 4) gNil))) rfl sc_expr_text.nd (pi_tup (pe_ix ix_list (pv 2) pe_int (fun _ _ => rfl))) (blkOk_by (own := [("field", 3), ("value", 4)]) (N := N_expr_text) (sc := defScope s_expr_text) (by decide +kernel)) (fun _ _ _ _ _ => pg_tup rfl (pgs_cons (pg_name (i := 3) sc_expr_text.nd rfl (.inl rfl)) (pgs_cons (pg_name (i := 4) sc_expr_text.nd rfl (.inl rfl)) pgs_nil))) (fun _ _ _ _ _ => pts_nil) (fun _ _ _ _ _ => (pe_op op_add_str (pe_op op_add_str (pv 3) pe_str) (pe_cl c_expr_text hr (by first | decide | omega) pass0 (by rfl) (pa_cons (pv 4) pa_nil))))))) pe_str)))
    pss_nil)
    (pss_cons (ps_if (pt_cmpR op_eq (pv 1) pe_str (nomark _))
    (pss_one (ps_ret (pe_op op_add_str pe_str (pe_ix ix_list (pv 2) pe_int (fun _ _ => rfl)))))
    pss_nil)
    (pss_one (ps_ret (pe_ifExp (pt_cmpR op_eq (pv 1) pe_str (nomark _)) pe_str (pe_callTy call_strV (by rfl) T.f_str (by decide +kernel) (pa_cons (pe_ix ix_list (pv 2) pe_int (fun _ _ => rfl)) pa_nil))))))))))))), ?_⟩
    have sL := sL
    obtain ⟨a, x, xs, rfl, at_, hx, vx⟩ : ∃ a x xs, v = .ref a ∧ H a = some (.tup (x :: xs)) ∧ x = .str (tgE e) ∧ VaL H (x :: xs) (match e.toD with | .tuple ds => ds | _ => []) := by
      cases e <;> (obtain ⟨a, xs, rfl, at_, va⟩ := hv.tup_inv; obtain ⟨x, ys, rfl, hx, _⟩ := id va.cons_inv; exact ⟨a, x, ys, rfl, at_, hx.str_inv, va⟩)
    subst hx
    walk_at "rd"
    refine ⟨a, _, _, rfl, st_of at_, fun p np => ?_⟩
    have S1 : Same H (upd H p (.lst xs)) := same_new np
    have tp := Tp.of S1
    refine ⟨_, _, rfl, _, _, rfl, rfl, ?_⟩
    cases e with
    | op s l r =>
      obtain ⟨_, y0, e0, _, v0⟩ := vx.cons_inv
      cases e0
      obtain ⟨x1, y1, rfl, h1, v1⟩ := v0.cons_inv
      obtain ⟨x2, y2, rfl, h2, v2⟩ := v1.cons_inv
      obtain ⟨x3, y3, rfl, h3, v3⟩ := v2.cons_inv
      obtain rfl := h1.str_inv
      walk_at "tg"
      refine ⟨p, _, 0, _, rfl, rfl, sq_of upd_same, atI_nat (j := 0) rfl, ?_⟩
      walk_at "tg"
      refine ⟨p, _, 1, _, rfl, rfl, sq_of upd_same, atI_nat (j := 1) rfl, ?_⟩
      walk_at "tg"
      refine ⟨p, _, 2, _, rfl, rfl, sq_of upd_same, atI_nat (j := 2) rfl, ?_⟩
      exact ⟨s, l, r, d - 1, x2, x3, rfl, by have := te.1; omega, te.2.1, te.2.2.1, te.2.2.2, h2.keep tp, h3.keep tp, hl, fun H2 S2 => k H2 (S1.trans S2)⟩
    | neg e =>
      obtain ⟨_, y0, e0, _, v0⟩ := vx.cons_inv
      cases e0
      obtain ⟨x1, y1, rfl, h1, v1⟩ := v0.cons_inv
      have hl' : ("-" ++ K4.opdT e 5).length ≤ 2 ^ 20 := hl
      rw [sl_app] at hl'
      walk_at "tg"
      refine ⟨p, _, 0, _, rfl, rfl, sq_of upd_same, atI_nat (j := 0) rfl, ?_⟩
      refine ⟨e, d - 1, 5, x1, rfl, by have := te.1; omega, te.2, h1.keep tp, by omega, fun H2 S2 => ?_⟩
      walk_at "rd"
      refine ⟨by omega, k H2 (S1.trans S2)⟩
    | not e =>
      obtain ⟨_, y0, e0, _, v0⟩ := vx.cons_inv
      cases e0
      obtain ⟨x1, y1, rfl, h1, v1⟩ := v0.cons_inv
      have hl' : ("not " ++ K4.opdT e 5).length ≤ 2 ^ 20 := hl
      rw [sl_app] at hl'
      walk_at "tg"
      refine ⟨p, _, 0, _, rfl, rfl, sq_of upd_same, atI_nat (j := 0) rfl, ?_⟩
      refine ⟨e, d - 1, 5, x1, rfl, by have := te.1; omega, te.2, h1.keep tp, by omega, fun H2 S2 => ?_⟩
      walk_at "rd"
      refine ⟨by omega, k H2 (S1.trans S2)⟩
    | get e f =>
      obtain ⟨_, y0, e0, _, v0⟩ := vx.cons_inv
      cases e0
      obtain ⟨x1, y1, rfl, h1, v1⟩ := v0.cons_inv
      obtain ⟨x2, y2, rfl, h2, v2⟩ := v1.cons_inv
      obtain rfl := h2.str_inv
      have hl' : (K4.opdT e 6 ++ "." ++ f).length ≤ 2 ^ 20 := hl
      rw [sl_app, sl_app] at hl'
      walk_at "tg"
      refine ⟨p, _, 0, _, rfl, rfl, sq_of upd_same, atI_nat (j := 0) rfl, ?_⟩
      refine ⟨e, d - 1, 6, x1, rfl, by have := te.1; omega, te.2.1, h1.keep tp, by omega, fun H2 S2 => ?_⟩
      walk_at "rd"
      refine ⟨by omega, ?_⟩
      walk_at "rd"
      refine ⟨p, _, 1, .str f, rfl, rfl, sq_of (S2 p _ upd_same), atI_nat (j := 1) rfl, ?_⟩
      walk_at "rd"
      refine ⟨by rw [sl_app]; omega, k H2 (S1.trans S2)⟩
    | call f as =>
      obtain ⟨_, y0, e0, _, v0⟩ := vx.cons_inv
      cases e0
      obtain ⟨x1, y1, rfl, h1, v1⟩ := v0.cons_inv
      obtain ⟨x2, y2, rfl, h2, v2⟩ := v1.cons_inv
      obtain rfl := h1.str_inv
      have hl' : (f ++ K4.argsT as).length ≤ 2 ^ 20 := hl
      rw [sl_app] at hl'
      walk_at "tg"
      refine ⟨p, _, 0, _, rfl, rfl, sq_of upd_same, atI_nat (j := 0) rfl, ?_⟩
      walk_at "rd"
      refine ⟨p, _, 1, _, rfl, rfl, sq_of upd_same, atI_nat (j := 1) rfl, ?_⟩
      refine ⟨as, d - 1, x2, rfl, by have := te.2.1; omega, te.2.2.1, te.2.2.2, h2.keep tp, by omega, fun H2 S2 => ?_⟩
      walk_at "rd"
      refine ⟨by omega, k H2 (S1.trans S2)⟩
    | new fs =>
      obtain ⟨_, y0, e0, _, v0⟩ := vx.cons_inv
      cases e0
      obtain ⟨x1, y1, rfl, h1, v1⟩ := v0.cons_inv
      obtain ⟨b, zs, rfl, at1, vz⟩ := (h1.keep tp).tup_inv
      have hl' : ("new(" ++ Str.join ", " (K4.fsT fs) ++ ")" : Str).length ≤ 2 ^ 20 := hl
      rw [sl_app, sl_app] at hl'
      walk_at "tg"
      refine ⟨⟨_, rfl⟩, ?_⟩
      walk_at "rd"
      refine ⟨p, _, 0, _, rfl, rfl, sq_of upd_same, atI_nat (j := 0) rfl, ?_⟩
      refine ⟨b, rfl, ⟨_, st_of at1⟩, fun D nD => lc_txt (K := K) (K4.fsT fs) (by rw [vz.length, fsT_len, fsD_len]) (by rw [fsT_len]; have := te.2.1; omega) nD at1 ?_ ?_ ?_⟩
      · intro i x t H2 Qn hx ht S2 q
        obtain ⟨y, e, rfl, hte, hd⟩ := fs_get fs (d - 1) i t te.2.2 ht
        obtain ⟨d', hd', vx⟩ := (vz.keep (Tp.of S2)).get hx
        rw [hd] at hd'
        cases hd'
        obtain ⟨c, cs, rfl, atc, vc⟩ := vx.tup_inv
        obtain ⟨z1, c1, rfl, g1, vc1⟩ := vc.cons_inv
        obtain ⟨z2, c2, rfl, g2, vc2⟩ := vc1.cons_inv
        obtain rfl := vc2.nil_inv
        obtain rfl := g1.str_inv
        have len := mem_join ", " _ _ (List.mem_of_getElem? ht)
        rw [sl_app, sl_app] at len
        refine ⟨c, _, rfl, st_of atc, rfl, _, _, rfl, _, _, rfl, rfl, rfl, ?_⟩
        walk_at "rd"
        refine ⟨by omega, ?_⟩
        walk_at "rd"
        refine ⟨e, d - 1, z2, rfl, by have := te.1; omega, hte, g2, by omega, fun H4 S4 => ?_⟩
        walk_at "rd"
        refine ⟨by rw [sl_app]; omega, q H4 S4⟩
      · rintro x H2 Q1 Q2 f ⟨a1, b1, c1, d1, e1, f1, g1, h1, i1, j1, k1, l1, q⟩
        exact ⟨a1, b1, c1, d1, e1, f1, g1, h1, i1, j1, k1, l1, f _ _ q⟩
      · intro H2 S2 atD
        have jl := join_len ", " (K4.fsT fs)
        have ln : (", " : Str).length = 2 := by decide
        refine ⟨_, D, K4.fsT fs, rfl, rfl, .inl (sq_of atD), by omega, ?_⟩
        rw [join_eq]
        walk_at "rd"
        refine ⟨by omega, ?_⟩
        walk_at "rd"
        refine ⟨by rw [sl_app]; omega, k H2 (S1.trans S2)⟩
    | recv f =>
      obtain ⟨_, y0, e0, _, v0⟩ := vx.cons_inv
      cases e0
      obtain ⟨x1, y1, rfl, h1, v1⟩ := v0.cons_inv
      obtain rfl := h1.str_inv
      have hl' : ("receive " ++ f).length ≤ 2 ^ 20 := hl
      rw [sl_app] at hl'
      walk_at "tg"
      refine ⟨p, _, 0, _, rfl, rfl, sq_of upd_same, atI_nat (j := 0) rfl, ?_⟩
      walk_at "rd"
      refine ⟨by omega, k _ S1⟩
    | non =>
      walk_at "tg"
      exact k _ S1
    | int m =>
      obtain ⟨_, y0, e0, _, v0⟩ := vx.cons_inv
      cases e0
      obtain ⟨x1, y1, rfl, h1, v1⟩ := v0.cons_inv
      obtain rfl := h1.int_inv
      walk_at "tg"
      refine ⟨p, _, 0, _, rfl, rfl, sq_of upd_same, atI_nat (j := 0) rfl, ?_⟩
      exact .inl ⟨_, rfl, (show ∀ m ∈ K4.okI, ((m : Nat) : Int).natAbs.log2 < 1920 by decide) m te, k _ S1⟩
    | var x =>
      obtain ⟨_, y0, e0, _, v0⟩ := vx.cons_inv
      cases e0
      obtain ⟨x1, y1, rfl, h1, v1⟩ := v0.cons_inv
      obtain rfl := h1.str_inv
      walk_at "tg"
      refine ⟨p, _, 0, _, rfl, rfl, sq_of upd_same, atI_nat (j := 0) rfl, ?_⟩
      exact .inr ⟨_, rfl, k _ S1⟩
end
end W4
set_option Elab.async false
set_option linter.all false
set_option maxRecDepth 100000
set_option maxHeartbeats 4000000
set_option pp.maxSteps 400
namespace W4
open PySem PySem.Spec PyProof.Rows L2
local macro_rules | `(tactic| walk_at "tg") => `(tactic| repeat (first | refine iteBt (by decide +kernel) ?_ | refine iteBf (by decide +kernel) ?_ | refine ⟨_, rfl, ?_⟩ | refine ⟨_, _, rfl, rfl, ?_⟩ | refine ⟨rfl, _, rfl, ?_⟩))
local macro_rules | `(tactic| walk_at "rd") => `(tactic| repeat (first | refine ⟨_, rfl, ?_⟩ | refine ⟨_, _, rfl, rfl, ?_⟩ | refine ⟨rfl, _, rfl, ?_⟩))
abbrev N_head_text : List Str := ["statement", "word", "parts"]
abbrev P_head_text : List Str := ["statement"]
theorem sc_head_text : FnScope N_head_text P_head_text (defScope s_head_text) := ⟨rfl, rfl, rfl, by decide +kernel, rfl, by decide +kernel, by decide +kernel⟩
theorem bd_head_text (kV doc pm : Value) (an : Option Addr) (cdv ct : Value) (us : List Value) (hl : us.length = P_head_text.length) : bindArgs (PySem.W.fnOf d_head_text.name d_head_text.qual d_head_text.params d_head_text.body d_head_text.scope .none kV doc pm an cdv ct) ⟨us, []⟩ = pure (P_head_text.zip us) := match us, hl with | [_], _ => rfl
abbrev N_inner_lines : List Str := ["statement", "indent", "word", "parts", "other", "handler"]
abbrev P_inner_lines : List Str := ["statement", "indent"]
theorem sc_inner_lines : FnScope N_inner_lines P_inner_lines (defScope s_inner_lines) := ⟨rfl, rfl, rfl, by decide +kernel, rfl, by decide +kernel, by decide +kernel⟩
theorem bd_inner_lines (kV doc pm : Value) (an : Option Addr) (cdv ct : Value) (us : List Value) (hl : us.length = P_inner_lines.length) : bindArgs (PySem.W.fnOf d_inner_lines.name d_inner_lines.qual d_inner_lines.params d_inner_lines.body d_inner_lines.scope .none kV doc pm an cdv ct) ⟨us, []⟩ = pure (P_inner_lines.zip us) := match us, hl with | [_, _], _ => rfl
abbrev N_block_lines : List Str := ["block", "indent", "found", "statement", "label", "inner"]
abbrev P_block_lines : List Str := ["block", "indent"]
theorem sc_block_lines : FnScope N_block_lines P_block_lines (defScope s_block_lines) := ⟨rfl, rfl, rfl, by decide +kernel, rfl, by decide +kernel, by decide +kernel⟩
theorem bd_block_lines (kV doc pm : Value) (an : Option Addr) (cdv ct : Value) (us : List Value) (hl : us.length = P_block_lines.length) : bindArgs (PySem.W.fnOf d_block_lines.name d_block_lines.qual d_block_lines.params d_block_lines.body d_block_lines.scope .none kV doc pm an cdv ct) ⟨us, []⟩ = pure (P_block_lines.zip us) := match us, hl with | [_, _], _ => rfl
abbrev N_program_lines : List Str := ["program", "found", "name", "params", "body"]
abbrev P_program_lines : List Str := ["program"]
theorem sc_program_lines : FnScope N_program_lines P_program_lines (defScope s_program_lines) := ⟨rfl, rfl, rfl, by decide +kernel, rfl, by decide +kernel, by decide +kernel⟩
theorem bd_program_lines (kV doc pm : Value) (an : Option Addr) (cdv ct : Value) (us : List Value) (hl : us.length = P_program_lines.length) : bindArgs (PySem.W.fnOf d_program_lines.name d_program_lines.qual d_program_lines.params d_program_lines.body d_program_lines.scope .none kV doc pm an cdv ct) ⟨us, []⟩ = pure (P_program_lines.zip us) := match us, hl with | [_], _ => rfl
abbrev N_write : List Str := ["program"]
abbrev P_write : List Str := ["program"]
theorem sc_write : FnScope N_write P_write (defScope s_write) := ⟨rfl, rfl, rfl, by decide +kernel, rfl, by decide +kernel, by decide +kernel⟩
theorem bd_write (kV doc pm : Value) (an : Option Addr) (cdv ct : Value) (us : List Value) (hl : us.length = P_write.length) : bindArgs (PySem.W.fnOf d_write.name d_write.qual d_write.params d_write.body d_write.scope .none kV doc pm an cdv ct) ⟨us, []⟩ = pure (P_write.zip us) := match us, hl with | [_], _ => rfl
section
variable {P : Program} {w : World} {K : PySem.W.Frag} {mg : Str → Option Value} {base : Heap}
theorem ok_ex (T : Txt K mg w) : ∀ n, Clb P w K mg base CX0 (1 + 3 * n) "expr_text" (spExpr n)
  | 0 => T.none (d := d_expr_text) m_expr_text rfl T.g_expr_text rfl rfl 0 sc_expr_text bd_expr_text fun vs H Q E ⟨e, d, v, _, h, _⟩ => Nat.not_lt_zero _ h
  | n + 1 => by
    have c1 := ok_ex T n
    have c2 := ok_opd T n c1
    exact ok_exprtext T n c1 c2 (ok_args T n c1) (ok_optext T n c2)
theorem exA (T : Txt K mg w) : Clb P w K mg base CX0 19 "expr_text" (spExpr 6) := ok_ex T 6
theorem opA (T : Txt K mg w) : Clb P w K mg base CX0 20 "operand_text" (spOpd 6) := ok_opd T 6 (ok_ex T 6)
theorem arA (T : Txt K mg w) : Clb P w K mg base CX0 20 "args_text" (spArgs 6) := ok_args T 6 (ok_ex T 6)
def tgS : K4.St → Str
  | .lt _ _ => "let"
  | .st _ _ => "set"
  | .put _ _ _ => "put"
  | .act _ _ => "do"
  | .iff _ _ _ => "if"
  | .wh _ _ => "while"
  | .ret _ => "return"
  | .thr _ => "throw"
  | .send _ _ => "send"
  | .spawn _ _ => "spawn"
  | .tri _ _ _ => "try"
  | .here _ _ => "here"
theorem sva {H : Hp} {s : K4.St} {v : V} (hv : Va H v s.toD) : ∃ a x xs, v = .ref a ∧ H a = some (.tup (x :: xs)) ∧ x = .str (tgS s) ∧ VaL H (x :: xs) (match s.toD with | .tuple ds => ds | _ => []) := by
  cases s <;> (obtain ⟨a, xs, rfl, at_, va⟩ := hv.tup_inv; obtain ⟨x, ys, rfl, hx, _⟩ := id va.cons_inv; exact ⟨a, x, ys, rfl, at_, hx.str_inv, va⟩)
def spHead : Sp := fun vs H Q _ => ∃ (s : K4.St) (i dp : Nat) (v : V), vs = [v] ∧ K4.tS s i dp ∧ 1 ≤ dp ∧ dp ≤ 2 ∧ K4.isHere s = false ∧ Va H v s.toD ∧ (K4.hdT s).length ≤ 2 ^ 20 ∧ ∀ (H' : Hp), Same H H' → Q (.str (K4.hdT s)) H'
theorem ok_head (T : Txt K mg w) : Clb P w K mg base CX0 21 "head_text" spHead := by
  have c_expr_text := exA (P := P) (base := base) T
  have c_operand_text := opA (P := P) (base := base) T
  have c_args_text := arA (P := P) (base := base) T
  refine T.clb (k := 20) (d := d_head_text) m_head_text rfl T.g_head_text rfl rfl sc_head_text bd_head_text (fun vs H Q E h => ?_) (fun cdv A outer s H vs Q E hr h => ?_)
  · obtain ⟨s, i, dp, v, rfl, _⟩ := h
    rfl
  · obtain ⟨s, i, dp, v, rfl, ts, dp1, dp2, nh, hv, hl, k⟩ := h
    refine ⟨_, (pss_cons (ps_asg (pv 0) (pg_star rfl (pgs_cons (pg_name (i := 1) sc_head_text.nd rfl (.inl rfl)) (pgs_cons (pg_name (i := 2) sc_head_text.nd rfl (.inl rfl)) pgs_nil))))
    (pss_cons (ps_if (pt_cmpR op_eq (pv 1) pe_str (nomark _))
    (pss_one (ps_ret (pe_op op_add_str (pe_op op_add_str (pe_op op_add_str pe_str (pe_ix ix_list (pv 2) pe_int (fun _ _ => rfl))) pe_str) (pe_cl c_expr_text hr (by first | decide | omega) pass0 (by rfl) (pa_cons (pe_ix ix_list (pv 2) pe_int (fun _ _ => rfl)) pa_nil)))))
    pss_nil)
    (pss_cons (ps_if (pt_cmpR op_eq (pv 1) pe_str (nomark _))
    (pss_one (ps_ret (pe_op op_add_str (pe_op op_add_str (pe_ix ix_list (pv 2) pe_int (fun _ _ => rfl)) pe_str) (pe_cl c_expr_text hr (by first | decide | omega) pass0 (by rfl) (pa_cons (pe_ix ix_list (pv 2) pe_int (fun _ _ => rfl)) pa_nil)))))
    pss_nil)
    (pss_cons (ps_if (pt_cmpR op_eq (pv 1) pe_str (nomark _))
    (pss_one (ps_ret (pe_op op_add_str (pe_op op_add_str (pe_op op_add_str (pe_op op_add_str (pe_cl c_operand_text hr (by first | decide | omega) pass0 (by rfl) (pa_cons (pe_ix ix_list (pv 2) pe_int (fun _ _ => rfl)) (pa_cons (C8.pe_gc (by rfl) T.v_ITEM) pa_nil))) pe_str) (pe_ix ix_list (pv 2) pe_int (fun _ _ => rfl))) pe_str) (pe_cl c_expr_text hr (by first | decide | omega) pass0 (by rfl) (pa_cons (pe_ix ix_list (pv 2) pe_int (fun _ _ => rfl)) pa_nil)))))
    pss_nil)
    (pss_cons (ps_if (pt_cmpR op_eq (pv 1) pe_str (nomark _))
    (pss_one (ps_ret (pe_cl c_expr_text hr (by first | decide | omega) pass0 (by rfl) (pa_cons (pe_ix ix_list (pv 2) pe_int (fun _ _ => rfl)) pa_nil))))
    pss_nil)
    (pss_cons (ps_if (pt_cmpR op_eq (pv 1) pe_str (nomark _))
    (pss_one (ps_ret (pe_op op_add_str (pe_op op_add_str (pe_op op_add_str pe_str (pe_ix ix_list (pv 2) pe_int (fun _ _ => rfl))) pe_str) (pe_cl c_expr_text hr (by first | decide | omega) pass0 (by rfl) (pa_cons (pe_ix ix_list (pv 2) pe_int (fun _ _ => rfl)) pa_nil)))))
    pss_nil)
    (pss_cons (ps_if (pt_cmpR op_eq (pv 1) pe_str (nomark _))
    (pss_one (ps_ret (pe_op op_add_str (pe_op op_add_str pe_str (pe_ix ix_list (pv 2) pe_int (fun _ _ => rfl))) (pe_cl c_args_text hr (by first | decide | omega) pass0 (by rfl) (pa_cons (pe_ix ix_list (pv 2) pe_int (fun _ _ => rfl)) pa_nil)))))
    pss_nil)
    (pss_one (ps_ret (pe_ifExp (pt_cmpR op_eq (pv 1) pe_str (nomark _)) pe_str (pe_op op_add_str (pe_op op_add_str (pv 1) pe_str) (pe_cl c_expr_text hr (by first | decide | omega) pass0 (by rfl) (pa_cons (pe_ix ix_list (pv 2) pe_int (fun _ _ => rfl)) pa_nil))))))))))))), ?_⟩
    have sL := sL
    obtain ⟨a, x, xs, rfl, at_, hx, vx⟩ := sva hv
    subst hx
    walk_at "rd"
    refine ⟨a, _, _, rfl, st_of at_, fun p np => ?_⟩
    have S1 : Same H (upd H p (.lst xs)) := same_new np
    have tp := Tp.of S1
    refine ⟨_, _, rfl, _, _, rfl, rfl, ?_⟩
    cases s with
    | lt x e =>
      obtain ⟨_, y0, e0, _, v0⟩ := vx.cons_inv
      cases e0
      obtain ⟨x1, y1, rfl, h1, v1⟩ := v0.cons_inv
      obtain rfl := h1.str_inv
      obtain ⟨x2, y2, rfl, h2, v2⟩ := v1.cons_inv
      have hl' : ("let " ++ x ++ " = " ++ K4.exT e).length ≤ 2 ^ 20 := hl
      rw [sl_app, sl_app, sl_app] at hl'
      walk_at "tg"
      refine ⟨p, _, 0, _, rfl, rfl, sq_of upd_same, atI_nat (j := 0) rfl, ?_⟩
      walk_at "rd"
      refine ⟨by omega, ?_⟩
      walk_at "rd"
      refine ⟨by rw [sl_app]; omega, ?_⟩
      walk_at "rd"
      refine ⟨p, _, 1, _, rfl, rfl, sq_of upd_same, atI_nat (j := 1) rfl, ?_⟩
      refine ⟨e, dp, x2, rfl, by omega, ts.2, h2.keep tp, by omega, fun H2 S2 => ?_⟩
      walk_at "rd"
      refine ⟨by rw [sl_app, sl_app]; omega, k H2 (S1.trans S2)⟩
    | st x e =>
      obtain ⟨_, y0, e0, _, v0⟩ := vx.cons_inv
      cases e0
      obtain ⟨x1, y1, rfl, h1, v1⟩ := v0.cons_inv
      obtain rfl := h1.str_inv
      obtain ⟨x2, y2, rfl, h2, v2⟩ := v1.cons_inv
      have hl' : (x ++ " = " ++ K4.exT e).length ≤ 2 ^ 20 := hl
      rw [sl_app, sl_app] at hl'
      walk_at "tg"
      refine ⟨p, _, 0, _, rfl, rfl, sq_of upd_same, atI_nat (j := 0) rfl, ?_⟩
      walk_at "rd"
      refine ⟨by omega, ?_⟩
      walk_at "rd"
      refine ⟨p, _, 1, _, rfl, rfl, sq_of upd_same, atI_nat (j := 1) rfl, ?_⟩
      refine ⟨e, dp, x2, rfl, by omega, ts.2, h2.keep tp, by omega, fun H2 S2 => ?_⟩
      walk_at "rd"
      refine ⟨by rw [sl_app]; omega, k H2 (S1.trans S2)⟩
    | put r f e =>
      obtain ⟨_, y0, e0, _, v0⟩ := vx.cons_inv
      cases e0
      obtain ⟨x1, y1, rfl, h1, v1⟩ := v0.cons_inv
      obtain ⟨x2, y2, rfl, h2, v2⟩ := v1.cons_inv
      obtain rfl := h2.str_inv
      obtain ⟨x3, y3, rfl, h3, v3⟩ := v2.cons_inv
      have hl' : (K4.opdT r 6 ++ "." ++ f ++ " = " ++ K4.exT e).length ≤ 2 ^ 20 := hl
      rw [sl_app, sl_app, sl_app, sl_app] at hl'
      obtain ⟨⟨x0, path, hx0, pl, hp, er⟩, hf, he⟩ := ts
      have tr : K4.tE r 2 := by
        rw [er]
        exact K4.tE_up _ _ _ (by omega) (K4.chain_tE path (.var x0) 0 hx0 hp)
      walk_at "tg"
      refine ⟨p, _, 0, _, rfl, rfl, sq_of upd_same, atI_nat (j := 0) rfl, ?_⟩
      refine ⟨r, 2, 6, x1, rfl, by omega, tr, h1.keep tp, by omega, fun H2 S2 => ?_⟩
      walk_at "rd"
      refine ⟨by omega, ?_⟩
      walk_at "rd"
      refine ⟨p, _, 1, .str f, rfl, rfl, sq_of (S2 p _ upd_same), atI_nat (j := 1) rfl, ?_⟩
      walk_at "rd"
      refine ⟨by rw [sl_app]; omega, ?_⟩
      walk_at "rd"
      refine ⟨by rw [sl_app, sl_app]; omega, ?_⟩
      walk_at "rd"
      refine ⟨p, _, 2, x3, rfl, rfl, sq_of (S2 p _ upd_same), atI_nat (j := 2) rfl, ?_⟩
      refine ⟨e, dp, x3, rfl, by omega, he, (h3.keep tp).keep (Tp.of S2), by omega, fun H3 S3 => ?_⟩
      walk_at "rd"
      refine ⟨by rw [sl_app, sl_app, sl_app]; omega, k H3 ((S1.trans S2).trans S3)⟩
    | act f as =>
      obtain ⟨_, y0, e0, _, v0⟩ := vx.cons_inv
      cases e0
      obtain ⟨x1, y1, rfl, h1, v1⟩ := v0.cons_inv
      walk_at "tg"
      refine ⟨p, _, 0, _, rfl, rfl, sq_of upd_same, atI_nat (j := 0) rfl, ?_⟩
      exact ⟨.call f as, dp, x1, rfl, by omega, ⟨ts.1, by omega, ts.2.1, ts.2.2⟩, h1.keep tp, hl, fun H2 S2 => k H2 (S1.trans S2)⟩
    | send x e =>
      obtain ⟨_, y0, e0, _, v0⟩ := vx.cons_inv
      cases e0
      obtain ⟨x1, y1, rfl, h1, v1⟩ := v0.cons_inv
      obtain rfl := h1.str_inv
      obtain ⟨x2, y2, rfl, h2, v2⟩ := v1.cons_inv
      have hl' : ("send " ++ x ++ " " ++ K4.exT e).length ≤ 2 ^ 20 := hl
      rw [sl_app, sl_app, sl_app] at hl'
      walk_at "tg"
      refine ⟨p, _, 0, _, rfl, rfl, sq_of upd_same, atI_nat (j := 0) rfl, ?_⟩
      walk_at "rd"
      refine ⟨by omega, ?_⟩
      walk_at "rd"
      refine ⟨by rw [sl_app]; omega, ?_⟩
      walk_at "rd"
      refine ⟨p, _, 1, _, rfl, rfl, sq_of upd_same, atI_nat (j := 1) rfl, ?_⟩
      refine ⟨e, dp, x2, rfl, by omega, ts.2, h2.keep tp, by omega, fun H2 S2 => ?_⟩
      walk_at "rd"
      refine ⟨by rw [sl_app, sl_app]; omega, k H2 (S1.trans S2)⟩
    | spawn f as =>
      obtain ⟨_, y0, e0, _, v0⟩ := vx.cons_inv
      cases e0
      obtain ⟨x1, y1, rfl, h1, v1⟩ := v0.cons_inv
      obtain rfl := h1.str_inv
      obtain ⟨x2, y2, rfl, h2, v2⟩ := v1.cons_inv
      have hl' : ("spawn " ++ f ++ K4.argsT as).length ≤ 2 ^ 20 := hl
      rw [sl_app, sl_app] at hl'
      walk_at "tg"
      refine ⟨p, _, 0, _, rfl, rfl, sq_of upd_same, atI_nat (j := 0) rfl, ?_⟩
      walk_at "rd"
      refine ⟨by omega, ?_⟩
      walk_at "rd"
      refine ⟨p, _, 1, _, rfl, rfl, sq_of upd_same, atI_nat (j := 1) rfl, ?_⟩
      refine ⟨as, dp - 1, x2, rfl, by omega, ts.2.1, ts.2.2, h2.keep tp, by omega, fun H2 S2 => ?_⟩
      walk_at "rd"
      refine ⟨by rw [sl_app]; omega, k H2 (S1.trans S2)⟩
    | tri a1 n1 b1 =>
      walk_at "tg"
      exact k _ S1
    | iff c a1 b1 =>
      obtain ⟨_, y0, e0, _, v0⟩ := vx.cons_inv
      cases e0
      obtain ⟨x1, y1, rfl, h1, v1⟩ := v0.cons_inv
      have hl' : (("if" : Str) ++ " " ++ K4.exT c).length ≤ 2 ^ 20 := hl
      rw [sl_app, sl_app] at hl'
      walk_at "tg"
      refine ⟨(by show ("if" : Str).length + (" " : Str).length ≤ sizeLine; decide), ?_⟩
      walk_at "rd"
      refine ⟨p, _, 0, _, rfl, rfl, sq_of upd_same, atI_nat (j := 0) rfl, ?_⟩
      refine ⟨c, dp, x1, rfl, by omega, ts.2.1, h1.keep tp, by omega, fun H2 S2 => ?_⟩
      walk_at "rd"
      refine ⟨(by show (("if" : Str) ++ " ").length + (K4.exT c).length ≤ sizeLine; rw [sl_app]; omega), k H2 (S1.trans S2)⟩
    | wh c a1 =>
      obtain ⟨_, y0, e0, _, v0⟩ := vx.cons_inv
      cases e0
      obtain ⟨x1, y1, rfl, h1, v1⟩ := v0.cons_inv
      have hl' : (("while" : Str) ++ " " ++ K4.exT c).length ≤ 2 ^ 20 := hl
      rw [sl_app, sl_app] at hl'
      walk_at "tg"
      refine ⟨(by show ("while" : Str).length + (" " : Str).length ≤ sizeLine; decide), ?_⟩
      walk_at "rd"
      refine ⟨p, _, 0, _, rfl, rfl, sq_of upd_same, atI_nat (j := 0) rfl, ?_⟩
      refine ⟨c, dp, x1, rfl, by omega, ts.2.1, h1.keep tp, by omega, fun H2 S2 => ?_⟩
      walk_at "rd"
      refine ⟨(by show (("while" : Str) ++ " ").length + (K4.exT c).length ≤ sizeLine; rw [sl_app]; omega), k H2 (S1.trans S2)⟩
    | ret c =>
      obtain ⟨_, y0, e0, _, v0⟩ := vx.cons_inv
      cases e0
      obtain ⟨x1, y1, rfl, h1, v1⟩ := v0.cons_inv
      have hl' : (("return" : Str) ++ " " ++ K4.exT c).length ≤ 2 ^ 20 := hl
      rw [sl_app, sl_app] at hl'
      walk_at "tg"
      refine ⟨(by show ("return" : Str).length + (" " : Str).length ≤ sizeLine; decide), ?_⟩
      walk_at "rd"
      refine ⟨p, _, 0, _, rfl, rfl, sq_of upd_same, atI_nat (j := 0) rfl, ?_⟩
      refine ⟨c, dp, x1, rfl, by omega, ts, h1.keep tp, by omega, fun H2 S2 => ?_⟩
      walk_at "rd"
      refine ⟨(by show (("return" : Str) ++ " ").length + (K4.exT c).length ≤ sizeLine; rw [sl_app]; omega), k H2 (S1.trans S2)⟩
    | thr c =>
      obtain ⟨_, y0, e0, _, v0⟩ := vx.cons_inv
      cases e0
      obtain ⟨x1, y1, rfl, h1, v1⟩ := v0.cons_inv
      have hl' : (("throw" : Str) ++ " " ++ K4.exT c).length ≤ 2 ^ 20 := hl
      rw [sl_app, sl_app] at hl'
      walk_at "tg"
      refine ⟨(by show ("throw" : Str).length + (" " : Str).length ≤ sizeLine; decide), ?_⟩
      walk_at "rd"
      refine ⟨p, _, 0, _, rfl, rfl, sq_of upd_same, atI_nat (j := 0) rfl, ?_⟩
      refine ⟨c, dp, x1, rfl, by omega, ts, h1.keep tp, by omega, fun H2 S2 => ?_⟩
      walk_at "rd"
      refine ⟨(by show (("throw" : Str) ++ " ").length + (K4.exT c).length ≤ sizeLine; rw [sl_app]; omega), k H2 (S1.trans S2)⟩
    | here l s => cases nh
def tot (l : List Str) : Nat := (l.map (·.length)).sum + l.length
theorem tot_app (a b : List Str) : tot (a ++ b) = tot a + tot b := by
  unfold tot
  rw [List.map_append, List.sum_append, List.length_append]
  omega
theorem tot_cons (x : Str) (b : List Str) : tot (x :: b) = x.length + 1 + tot b := by
  unfold tot
  rw [List.map_cons, List.sum_cons, List.length_cons]
  omega
theorem tot_nil : tot [] = 0 := rfl
theorem tot_len (l : List Str) : l.length ≤ tot l := by unfold tot; omega
theorem tot_mem {l : List Str} {t : Str} (h : t ∈ l) : t.length ≤ tot l := by
  induction l with
  | nil => cases h
  | cons x r ih =>
    rw [tot_cons]
    rcases List.mem_cons.mp h with rfl | h
    · omega
    · have := ih h
      omega
theorem s_assoc (a b c : Str) : a ++ b ++ c = a ++ (b ++ c) := K4.cd_inj (by simp [K4.cd_app])
def spInner (n : Nat) : Sp := fun vs H Q _ => ∃ (s : K4.St) (i dp : Nat) (v : V) (ind : Str), vs = [v, .str ind] ∧ K4.tS s i dp ∧ 1 ≤ dp ∧ dp ≤ 2 ∧ K4.isHere s = false ∧ i < n ∧ Va H v s.toD ∧ ind.length + 2 * n ≤ 1000 ∧ tot (K4.inT s ind) ≤ 2 ^ 20 ∧
  ∀ (l : Addr) (H' : Hp), H l = none → H' l = some (.lst ((K4.inT s ind).map V.str)) → Same H H' → Q (.ref l) H'
def spBlkL (n : Nat) : Sp := fun vs H Q _ => ∃ (bl : List K4.St) (i dp : Nat) (v : V) (ind : Str), vs = [v, .str ind] ∧ K4.tSs bl i dp ∧ 1 ≤ dp ∧ dp ≤ 2 ∧ bl.length ≤ 2 ∧ i < n ∧ Va H v (.tuple (K4.stsD bl)) ∧ ind.length + 2 * n ≤ 1000 ∧ tot (K4.blT bl ind) ≤ 2 ^ 20 ∧
  ∀ (l : Addr) (H' : Hp), H l = none → H' l = some (.lst ((K4.blT bl ind).map V.str)) → Same H H' → Q (.ref l) H'
theorem stsD_len : ∀ b : List K4.St, (K4.stsD b).length = b.length
  | [] => rfl
  | _ :: r => congrArg Nat.succ (stsD_len r)
def othT (b : List K4.St) (i : Str) : List Str := match b with
  | [] => []
  | _ :: _ => (i ++ "else") :: K4.blT b (i ++ "  ")
theorem inT_iff (c : K4.Ex) (a b : List K4.St) (i : Str) : K4.inT (.iff c a b) i = K4.blT a (i ++ "  ") ++ othT b i ++ [i ++ "end"] := by
  unfold K4.inT
  cases b <;> rfl
theorem ok_inner (T : Txt K mg w) (n : Nat) (c_block_lines : Clb P w K mg base CX0 (21 + 2 * n) "block_lines" (spBlkL n)) : Clb P w K mg base CX0 (22 + 2 * n) "inner_lines" (spInner (n + 1)) := by
  rw [show 22 + 2 * n = (21 + 2 * n) + 1 by omega]
  refine T.clb (k := 21 + 2 * n) (d := d_inner_lines) m_inner_lines rfl T.g_inner_lines rfl rfl sc_inner_lines bd_inner_lines (fun vs H Q E h => ?_) (fun cdv A outer s H vs Q E hr h => ?_)
  · obtain ⟨s, i, dp, v, ind, rfl, _⟩ := h
    rfl
  · obtain ⟨s, i, dp, v, ind, rfl, ts, dp1, dp2, nh, inn, hv, hin, hl, k⟩ := h
    refine ⟨_, (pss_cons (ps_asg (pv 0) (pg_star rfl (pgs_cons (pg_name (i := 2) sc_inner_lines.nd rfl (.inl rfl)) (pgs_cons (pg_name (i := 3) sc_inner_lines.nd rfl (.inl rfl)) pgs_nil))))
    (pss_cons (ps_if (pt_cmpR op_eq (pv 2) pe_str (nomark _))
    (pss_one (ps_ret (pe_op op_cat (pe_cl c_block_lines hr (by first | decide | omega) pass0 (by rfl) (pa_cons (pe_ix ix_list (pv 3) pe_int (fun _ _ => rfl)) (pa_cons (pe_op op_add_str (pv 1) (C8.pe_gc (by rfl) T.v_INDENT)) pa_nil))) (pe_lst (pa_cons (pe_op op_add_str (pv 1) pe_str) pa_nil)))))
    pss_nil)
    (pss_cons (ps_if (pt_cmpR op_eq (pv 2) pe_str (nomark _))
    (C8.pss_cut (ps_set (i := 4) sc_inner_lines.nd rfl (.inl rfl) (pe_ifExp (pt_cmpR op_gt (pe_callB call_len (by rfl) T.f_len (by decide +kernel) (pa_cons (pe_ix ix_list (pv 3) pe_int (fun _ _ => rfl)) pa_nil)) pe_int (nomark _)) (pe_op op_cat (pe_lst (pa_cons (pe_op op_add_str (pv 1) pe_str) pa_nil)) (pe_cl c_block_lines hr (by first | decide | omega) pass0 (by rfl) (pa_cons (pe_ix ix_list (pv 3) pe_int (fun _ _ => rfl)) (pa_cons (pe_op op_add_str (pv 1) (C8.pe_gc (by rfl) T.v_INDENT)) pa_nil)))) (pe_lst pa_nil)))
    (pss_one (ps_ret (pe_op op_cat (pe_op op_cat (pe_cl c_block_lines hr (by first | decide | omega) pass0 (by rfl) (pa_cons (pe_ix ix_list (pv 3) pe_int (fun _ _ => rfl)) (pa_cons (pe_op op_add_str (pv 1) (C8.pe_gc (by rfl) T.v_INDENT)) pa_nil))) (pv 4)) (pe_lst (pa_cons (pe_op op_add_str (pv 1) pe_str) pa_nil))))))
    pss_nil)
    (pss_cons (ps_if (pt_cmpR op_eq (pv 2) pe_str (nomark _))
    (pss_cons (ps_set (i := 5) sc_inner_lines.nd rfl (.inl rfl) (pe_op op_cat (pe_lst (pa_cons (pe_op op_add_str (pe_op op_add_str (pv 1) pe_str) (pe_ix ix_list (pv 3) pe_int (fun _ _ => rfl))) pa_nil)) (pe_cl c_block_lines hr (by first | decide | omega) pass0 (by rfl) (pa_cons (pe_ix ix_list (pv 3) pe_int (fun _ _ => rfl)) (pa_cons (pe_op op_add_str (pv 1) (C8.pe_gc (by rfl) T.v_INDENT)) pa_nil)))))
    (pss_one (ps_ret (pe_op op_cat (pe_op op_cat (pe_cl c_block_lines hr (by first | decide | omega) pass0 (by rfl) (pa_cons (pe_ix ix_list (pv 3) pe_int (fun _ _ => rfl)) (pa_cons (pe_op op_add_str (pv 1) (C8.pe_gc (by rfl) T.v_INDENT)) pa_nil))) (pv 5)) (pe_lst (pa_cons (pe_op op_add_str (pv 1) pe_str) pa_nil))))))
    pss_nil)
    (pss_one (ps_ret (pe_lst pa_nil))))))), ?_⟩
    have sL := sL
    have l2 : ("  " : Str).length = 2 := by decide
    have l3 : ("end" : Str).length = 3 := by decide
    have l4 : ("else" : Str).length = 4 := by decide
    have l6 : ("catch " : Str).length = 6 := by decide
    obtain ⟨a, x, xs, rfl, at_, hx, vx⟩ := sva hv
    subst hx
    walk_at "rd"
    refine ⟨a, _, _, rfl, st_of at_, fun p np => ?_⟩
    have S1 : Same H (upd H p (.lst xs)) := same_new np
    have tp := Tp.of S1
    refine ⟨_, _, rfl, _, _, rfl, rfl, ?_⟩
    cases s with
    | wh c1 a1 =>
      obtain ⟨_, y0, e0, _, v0⟩ := vx.cons_inv
      cases e0
      obtain ⟨x1, y1, rfl, h1, v1⟩ := v0.cons_inv
      obtain ⟨x2, y2, rfl, h2, v2⟩ := v1.cons_inv
      have hl' : tot (K4.blT a1 (ind ++ "  ") ++ [ind ++ "end"]) ≤ 2 ^ 20 := hl
      rw [tot_app, tot_cons, tot_nil, sl_app] at hl'
      have tl := tot_len (K4.blT a1 (ind ++ "  "))
      walk_at "tg"
      refine ⟨p, _, 1, _, rfl, rfl, sq_of upd_same, atI_nat (j := 1) rfl, ?_⟩
      walk_at "rd"
      refine ⟨by omega, ?_⟩
      refine ⟨a1, i - 1, dp, x2, _, rfl, ts.2.2.2, dp1, dp2, by have := ts.2.2.1; omega, by have := ts.1; omega, h2.keep tp, by rw [sl_app]; omega, by omega, fun l H2 nl at2 S2 => ?_⟩
      walk_at "rd"
      refine ⟨by omega, sz rfl, fun q nq => ?_⟩
      refine ⟨l, q, _, _, rfl, rfl, at_new at2 nq, upd_same, ?_, fun r nr => ?_⟩
      · rw [List.length_map]
        show _ + 1 ≤ _
        omega
      · refine k r _ ?_ ?_ (((S1.trans S2).trans (same_new nq)).trans (same_new nr))
        · exact ((S1.trans S2).trans (same_new nq)).free nr
        · rw [upd_same]
          show _ = some (HO.lst ((K4.blT a1 (ind ++ "  ") ++ [ind ++ "end"]).map V.str))
          rw [List.map_append] <;> rfl
    | iff c1 a1 b1 =>
      obtain ⟨_, y0, e0, _, v0⟩ := vx.cons_inv
      cases e0
      obtain ⟨x1, y1, rfl, h1, v1⟩ := v0.cons_inv
      obtain ⟨x2, y2, rfl, h2, v2⟩ := v1.cons_inv
      obtain ⟨x3, y3, rfl, h3, v3⟩ := v2.cons_inv
      obtain rfl := v3.nil_inv
      have ei := inT_iff c1 a1 b1 ind
      generalize eot : othT b1 ind = ot at ei
      rw [ei] at hl k
      rw [tot_app, tot_app, tot_cons, tot_nil, sl_app] at hl
      have tl := tot_len (K4.blT a1 (ind ++ "  "))
      have tl2 := tot_len ot
      walk_at "tg"
      refine ⟨fun σ' H' => ∃ o : Addr, σ' = [some (.ref a), some (.str ind), some (.str "if"), some (.ref p), some (.ref o), none] ∧ H' o = some (.lst (ot.map V.str)) ∧ H' p = some (.lst [x1, x2, x3]) ∧ Same H H', ?_, ?_⟩
      · walk_at "rd"
        refine ⟨p, _, 2, _, rfl, rfl, sq_of upd_same, atI_nat (j := 2) rfl, ?_⟩
        obtain ⟨ab, zs, rfl, atb, vb⟩ := (h3.keep tp).tup_inv
        have lz := vb.length
        rw [stsD_len] at lz
        refine ⟨_, zs.length, rfl, .inr ⟨zs, st_of atb, rfl⟩, ?_⟩
        walk_at "rd"
        cases b1 with
        | nil =>
          have z0 : zs.length = 0 := lz
          rw [z0]
          subst eot
          refine iteBf (by decide) ⟨Nat.zero_le _, fun o no => ⟨o, rfl, upd_same, at_new upd_same no, S1.trans (same_new no)⟩⟩
        | cons s1 r1 =>
          have eo : ot = (ind ++ "else") :: K4.blT (s1 :: r1) (ind ++ "  ") := eot.symm
          have tl3 : tot ot = (ind ++ "else").length + 1 + tot (K4.blT (s1 :: r1) (ind ++ "  ")) := by rw [eo, tot_cons]
          rw [sl_app] at tl3
          have tl4 := tot_len (K4.blT (s1 :: r1) (ind ++ "  "))
          have zp : (0 : Int) < (zs.length : Int) := by rw [lz, List.length_cons]; omega
          refine iteBt (decide_eq_true zp) ?_
          walk_at "rd"
          refine ⟨by omega, sz rfl, fun q nq => ?_⟩
          walk_at "rd"
          refine ⟨p, _, 2, _, rfl, rfl, sq_of (at_new upd_same nq), atI_nat (j := 2) rfl, ?_⟩
          walk_at "rd"
          refine ⟨by omega, ?_⟩
          have S2 := S1.trans (same_new (o := .lst [.str (ind ++ "else")]) nq)
          refine ⟨s1 :: r1, i - 1, dp, .ref ab, _, rfl, ts.2.2.2.2.2, dp1, dp2, by have := ts.2.2.2.1; omega, by have := ts.1; omega, h3.keep (Tp.of S2), by rw [sl_app]; omega, by omega, fun l H2 nl at2 S3 => ?_⟩
          refine ⟨q, l, _, _, rfl, rfl, S3 _ _ upd_same, at2, by rw [List.length_map]; show 1 + _ ≤ _; omega, fun r nr => ?_⟩
          refine ⟨r, rfl, ?_, at_new (S3 _ _ (at_new upd_same nq)) nr, (S2.trans S3).trans (same_new nr)⟩
          rw [upd_same, eo]
          rfl
      · rintro σ' H1 ⟨o, rfl, at1, atp, S1'⟩
        walk_at "rd"
        refine ⟨p, _, 1, _, rfl, rfl, sq_of atp, atI_nat (j := 1) rfl, ?_⟩
        walk_at "rd"
        refine ⟨by omega, ?_⟩
        refine ⟨a1, i - 1, dp, x2, _, rfl, ts.2.2.2.2.1, dp1, dp2, by have := ts.2.2.1; omega, by have := ts.1; omega, h2.keep (Tp.of S1'), by rw [sl_app]; omega, by omega, fun l H2 nl at2 S2 => ?_⟩
        walk_at "rd"
        refine ⟨l, o, _, _, rfl, rfl, at2, S2 _ _ at1, by rw [List.length_map, List.length_map]; omega, fun q nq => ?_⟩
        walk_at "rd"
        refine ⟨by omega, sz rfl, fun r nr => ?_⟩
        refine ⟨q, r, _, _, rfl, rfl, at_new upd_same nr, upd_same, ?_, fun u nu => ?_⟩
        · rw [List.length_append, List.length_map, List.length_map]
          show _ + 1 ≤ _
          omega
        · refine k u _ ((((S1'.trans S2).trans (same_new nq)).trans (same_new nr)).free nu) ?_ ((((S1'.trans S2).trans (same_new nq)).trans (same_new nr)).trans (same_new nu))
          rw [upd_same, List.map_append, List.map_append]
          rfl
    | tri a1 n1 b1 =>
      obtain ⟨_, y0, e0, _, v0⟩ := vx.cons_inv
      cases e0
      obtain ⟨x1, y1, rfl, h1, v1⟩ := v0.cons_inv
      obtain ⟨x2, y2, rfl, h2, v2⟩ := v1.cons_inv
      obtain ⟨x3, y3, rfl, h3, v3⟩ := v2.cons_inv
      obtain rfl := h2.str_inv
      have hl' : tot (K4.blT a1 (ind ++ "  ") ++ ((ind ++ ("catch " ++ n1)) :: K4.blT b1 (ind ++ "  ")) ++ [ind ++ "end"]) ≤ 2 ^ 20 := by
        have e : K4.inT (.tri a1 n1 b1) ind = K4.blT a1 (ind ++ "  ") ++ ((ind ++ ("catch " ++ n1)) :: K4.blT b1 (ind ++ "  ")) ++ [ind ++ "end"] := by
          unfold K4.inT
          rfl
        rw [← e]
        exact hl
      rw [tot_app, tot_app, tot_cons, tot_cons, tot_nil, sl_app, sl_app, sl_app] at hl'
      have tl := tot_len (K4.blT a1 (ind ++ "  "))
      have tl2 := tot_len (K4.blT b1 (ind ++ "  "))
      walk_at "tg"
      refine ⟨by omega, ?_⟩
      walk_at "rd"
      refine ⟨p, _, 1, _, rfl, rfl, sq_of upd_same, atI_nat (j := 1) rfl, ?_⟩
      walk_at "rd"
      refine ⟨by rw [sl_app]; omega, sz rfl, fun q nq => ?_⟩
      walk_at "rd"
      refine ⟨p, _, 2, _, rfl, rfl, sq_of (at_new upd_same nq), atI_nat (j := 2) rfl, ?_⟩
      walk_at "rd"
      refine ⟨by omega, ?_⟩
      have S2 := S1.trans (same_new (o := .lst [.str (ind ++ "catch " ++ n1)]) nq)
      refine ⟨b1, i - 1, dp, x3, _, rfl, ts.2.2.2.2.2, dp1, dp2, by have := ts.2.2.2.1; omega, by have := ts.1; omega, h3.keep (Tp.of S2), by rw [sl_app]; omega, by omega, fun l H2 nl at2 S3 => ?_⟩
      refine ⟨q, l, _, _, rfl, rfl, S3 _ _ upd_same, at2, by rw [List.length_map]; show 1 + _ ≤ _; omega, fun r nr => ?_⟩
      have S4 := (S2.trans S3).trans (same_new (o := .lst ([V.str (ind ++ "catch " ++ n1)] ++ (K4.blT b1 (ind ++ "  ")).map V.str)) nr)
      walk_at "rd"
      refine ⟨p, _, 0, _, rfl, rfl, sq_of (at_new (S3 _ _ (at_new upd_same nq)) nr), atI_nat (j := 0) rfl, ?_⟩
      walk_at "rd"
      refine ⟨by omega, ?_⟩
      refine ⟨a1, i - 1, dp, x1, _, rfl, ts.2.2.2.2.1, dp1, dp2, by have := ts.2.2.1; omega, by have := ts.1; omega, h1.keep (Tp.of S4), by rw [sl_app]; omega, by omega, fun l2 H3 nl2 at3 S5 => ?_⟩
      walk_at "rd"
      refine ⟨l2, r, _, _, rfl, rfl, at3, S5 _ _ upd_same, ?_, fun u nu => ?_⟩
      · rw [List.length_append, List.length_map, List.length_map]
        show _ + (1 + _) ≤ _
        omega
      walk_at "rd"
      refine ⟨by omega, sz rfl, fun t nt => ?_⟩
      refine ⟨u, t, _, _, rfl, rfl, at_new upd_same nt, upd_same, ?_, fun z nz => ?_⟩
      · rw [List.length_append, List.length_append, List.length_map, List.length_map]
        show _ + (1 + _) + 1 ≤ _
        omega
      · refine k z _ ((((S4.trans S5).trans (same_new nu)).trans (same_new nt)).free nz) ?_ ((((S4.trans S5).trans (same_new nu)).trans (same_new nt)).trans (same_new nz))
        have e : K4.inT (.tri a1 n1 b1) ind = K4.blT a1 (ind ++ "  ") ++ ((ind ++ ("catch " ++ n1)) :: K4.blT b1 (ind ++ "  ")) ++ [ind ++ "end"] := by
          unfold K4.inT
          rfl
        rw [upd_same, e, List.map_append, List.map_append, ← s_assoc]
        rfl
    | here l s => cases nh
    | _ =>
      walk_at "tg"
      refine ⟨Nat.zero_le _, fun l nl => ?_⟩
      exact k l _ (S1.free nl) (by rw [upd_same]; unfold K4.inT; rfl) (S1.trans (same_new nl))
theorem blT_snoc : ∀ (a : List K4.St) (s : K4.St) (i : Str), K4.blT (a ++ [s]) i = K4.blT a i ++ ((i ++ K4.lab s ++ K4.hdT (K4.inn s)) :: K4.inT s i)
  | [], s, i => by
    show K4.blT [s] i = [] ++ _
    unfold K4.blT K4.blT
    rw [List.append_nil, List.nil_append]
  | x :: r, s, i => by
    show K4.blT (x :: (r ++ [s])) i = K4.blT (x :: r) i ++ _
    have e1 : ∀ (y : List K4.St), K4.blT (x :: y) i = (i ++ K4.lab x ++ K4.hdT (K4.inn x)) :: (K4.inT x i ++ K4.blT y i) := fun y => by conv => lhs; unfold K4.blT
    rw [e1, e1, blT_snoc r s i]
    simp
theorem tSs_get {i dp : Nat} : ∀ {es : List K4.St} {j : Nat} {e : K4.St}, K4.tSs es i dp → es[j]? = some e → K4.tS e i dp
  | x :: r, 0, e, h, q => by
    cases q
    exact h.1
  | x :: r, j + 1, e, h, q => tSs_get (es := r) h.2 q
theorem blT_pre (a b : List K4.St) (i : Str) : ∃ r, K4.blT (a ++ b) i = K4.blT a i ++ r := by
  induction a with
  | nil => exact ⟨K4.blT b i, by unfold K4.blT; rfl⟩
  | cons x r ih =>
    obtain ⟨t, e⟩ := ih
    have e1 : ∀ (y : List K4.St), K4.blT (x :: y) i = (i ++ K4.lab x ++ K4.hdT (K4.inn x)) :: (K4.inT x i ++ K4.blT y i) := fun y => by conv => lhs; unfold K4.blT
    refine ⟨t, ?_⟩
    show K4.blT (x :: (r ++ b)) i = _
    rw [e1, e1, e]
    simp
theorem inT_inn (s : K4.St) (i : Str) (h : K4.isHere (K4.inn s) = false) : K4.inT (K4.inn s) i = K4.inT s i := by
  cases s <;> first | rfl | (unfold K4.inn; conv => rhs; unfold K4.inT)
theorem ok_blk (T : Txt K mg w) (n : Nat) (c_inner_lines : Clb P w K mg base CX0 (22 + 2 * n) "inner_lines" (spInner (n + 1))) : Clb P w K mg base CX0 (21 + 2 * (n + 1)) "block_lines" (spBlkL (n + 1)) := by
  have c_head_text := ok_head (P := P) (base := base) T
  rw [show 21 + 2 * (n + 1) = (22 + 2 * n) + 1 by omega]
  refine T.clb (k := 22 + 2 * n) (d := d_block_lines) m_block_lines rfl T.g_block_lines rfl rfl sc_block_lines bd_block_lines (fun vs H Q E h => ?_) (fun cdv A outer s H vs Q E hr h => ?_)
  · obtain ⟨bl, i, dp, v, ind, rfl, _⟩ := h
    rfl
  · obtain ⟨bl, i, dp, v, ind, rfl, ts, dp1, dp2, bl2, inn, hv, hin, hl, k⟩ := h
    refine ⟨_, (pss_cons (ps_set (i := 2) sc_block_lines.nd rfl (.inl rfl) (pe_lst pa_nil))
    (pss_cons (ps_for PassesOwn.never rfl (pi_tup (pv 0)) (pg_name (i := 3) sc_block_lines.nd rfl (.inl rfl))
    (pss_cons (ps_par (i := 4) (j := 5) rfl sc_block_lines.nd rfl rfl (by decide) rfl rfl (pa_cons pe_str (pa_cons (pv 3) pa_nil)) (by rfl))
    (C8.pss_cut (ps_if (pt_cmpR op_eq (pe_ix ix_tup (pv 3) pe_int (fun _ _ => rfl)) pe_str (nomark _))
    (pss_one (ps_par (i := 4) (j := 5) rfl sc_block_lines.nd rfl rfl (by decide) rfl rfl (pa_cons (pe_op op_add_str (pe_op op_add_str pe_str (pe_ix ix_tup (pv 3) pe_int (fun _ _ => rfl))) pe_str) (pa_cons (pe_ix ix_tup (pv 3) pe_int (fun _ _ => rfl)) pa_nil)) (by rfl)))
    pss_nil)
    (pss_one (ps_set (i := 2) sc_block_lines.nd rfl (.inl rfl) (pe_op op_cat (pe_op op_cat (pv 2) (pe_lst (pa_cons (pe_op op_add_str (pe_op op_add_str (pv 1) (pv 4)) (pe_cl c_head_text hr (by first | decide | omega) pass0 (by rfl) (pa_cons (pv 5) pa_nil))) pa_nil))) (pe_cl c_inner_lines hr (by first | decide | omega) pass0 (by rfl) (pa_cons (pv 5) (pa_cons (pv 1) pa_nil)))))))))
    (pss_one (ps_ret (pv 2))))), ?_⟩
    have sL := sL
    obtain ⟨a, xs, rfl, at_, va⟩ := hv.tup_inv
    have lv := va.length
    rw [stsD_len] at lv
    refine ⟨Nat.zero_le _, fun F nF => ?_⟩
    walk_at "rd"
    refine ⟨⟨_, st_of (at_new at_ nF)⟩, for_tup (K := K) (a := a) (xs := xs) (fun j σ H1 => ∃ (F : Addr) (y3 y4 y5 : Option V), σ = [some (.ref a), some (.str ind), some (.ref F), y3, y4, y5] ∧ H1 F = some (.lst ((K4.blT (bl.take j) ind).map V.str)) ∧ H F = none ∧ Same H H1) ?_ ?_ ?_ ?_⟩
    · exact ⟨F, _, _, _, rfl, by rw [upd_same, List.take_zero] <;> rfl, nF, same_new nF⟩
    · rintro j σ H1 _ ⟨F, y3, y4, y5, rfl, atF, nF, S1⟩
      exact st_of (S1 a _ at_)
    · rintro j x σ H1 hx ⟨F, y3, y4, y5, rfl, atF, nF, S1⟩
      obtain ⟨d, hd, hv1⟩ := (va.keep (Tp.of S1)).get hx
      rw [stsD_map, List.getElem?_map] at hd
      obtain ⟨e, he, rfl⟩ : ∃ e, bl[j]? = some e ∧ d = e.toD := by
        cases q : bl[j]? with
        | none =>
          rw [q] at hd
          cases hd
        | some e =>
          rw [q] at hd
          exact ⟨e, rfl, (Option.some.inj hd).symm⟩
      have te := tSs_get ts he
      have tk : bl.take (j + 1) = bl.take j ++ [e] := by rw [List.take_add_one, he] <;> rfl
      have sn := blT_snoc (bl.take j) e ind
      have hl1 : tot (K4.blT (bl.take j) ind) + ((ind ++ K4.lab e ++ K4.hdT (K4.inn e)).length + 1 + tot (K4.inT e ind)) ≤ 2 ^ 20 := by
        obtain ⟨r, er⟩ := blT_pre (bl.take (j + 1)) (bl.drop (j + 1)) ind
        rw [List.take_append_drop] at er
        rw [er, tot_app, tk, sn, tot_app, tot_cons] at hl
        omega
      rw [sl_app, sl_app] at hl1
      have t1 := tot_len (K4.blT (bl.take j) ind)
      have t2 := tot_len (K4.inT e ind)
      walk_at "rd"
      refine ⟨_, _, rfl, ?_⟩
      refine ⟨fun σ' H2 => ∃ (v : V), σ' = [some (.ref a), some (.str ind), some (.ref F), some x, some (.str (K4.lab e)), some v] ∧ Va H2 v (K4.inn e).toD ∧ H2 = H1, ?_, ?_⟩
      · obtain ⟨b, t, ys, rfl, atb, ht, vb⟩ := sva hv1
        subst ht
        walk_at "rd"
        refine ⟨b, _, 0, _, rfl, rfl, st_of atb, atI_nat (j := 0) rfl, ?_⟩
        cases e with
        | here l s =>
          obtain ⟨_, y0, e0, _, v0⟩ := vb.cons_inv
          cases e0
          obtain ⟨x1, y1, rfl, h1, v1⟩ := v0.cons_inv
          obtain ⟨x2, y2, rfl, h2, v2⟩ := v1.cons_inv
          obtain rfl := h1.str_inv
          have lb : K4.lab (.here l s) = "here " ++ l ++ " " := rfl
          rw [lb, sl_app, sl_app] at hl1
          walk_at "tg"
          refine ⟨b, _, 1, _, rfl, rfl, st_of atb, atI_nat (j := 1) rfl, ?_⟩
          walk_at "rd"
          refine ⟨by omega, ?_⟩
          walk_at "rd"
          refine ⟨by rw [sl_app]; omega, ?_⟩
          walk_at "rd"
          refine ⟨b, _, 2, _, rfl, rfl, st_of atb, atI_nat (j := 2) rfl, ?_⟩
          exact ⟨_, _, rfl, x2, rfl, h2, rfl⟩
        | _ =>
          walk_at "tg"
          exact ⟨hv1, rfl⟩
      · rintro σ' H2 ⟨v, rfl, hvi, rfl⟩
        have nh : K4.isHere (K4.inn e) = false ∧ K4.tS (K4.inn e) i dp := by
          cases e with
          | here l s => exact ⟨te.2.1, te.2.2⟩
          | _ => exact ⟨rfl, te⟩
        walk_at "rd"
        refine ⟨by omega, ?_⟩
        walk_at "rd"
        refine ⟨K4.inn e, i, dp, v, rfl, nh.2, dp1, dp2, nh.1, hvi, by omega, fun H3 S3 => ?_⟩
        walk_at "rd"
        refine ⟨by rw [sl_app]; omega, sz rfl, fun q nq => ?_⟩
        refine ⟨F, q, _, _, rfl, rfl, at_new (S3 _ _ atF) nq, upd_same, by rw [List.length_map]; show _ + 1 ≤ _; omega, fun r nr => ?_⟩
        have S4 := (S3.trans (same_new (o := .lst [.str (ind ++ K4.lab e ++ K4.hdT (K4.inn e))]) nq)).trans (same_new (o := .lst ((K4.blT (bl.take j) ind).map V.str ++ [.str (ind ++ K4.lab e ++ K4.hdT (K4.inn e))])) nr)
        walk_at "rd"
        refine ⟨K4.inn e, i, dp, v, ind, rfl, nh.2, dp1, dp2, nh.1, by omega, hvi.keep (Tp.of S4), by omega, by rw [inT_inn _ _ nh.1]; omega, fun l H5 nl at5 S5 => ?_⟩
        refine ⟨r, l, _, _, rfl, rfl, S5 _ _ upd_same, at5, ?_, fun u nu => ?_⟩
        · rw [List.length_append, List.length_map, List.length_map, inT_inn _ _ nh.1]
          show _ + 1 + _ ≤ _
          omega
        · have S6 := S1.trans (S4.trans S5)
          refine ⟨u, _, _, _, rfl, ?_, S6.free nu, S6.trans (same_new nu)⟩
          rw [upd_same, tk, sn, inT_inn _ _ nh.1, List.map_append]
          simp
    · rintro σ H1 ⟨F, y3, y4, y5, rfl, atF, nF, S1⟩
      rw [lv, List.take_length] at atF
      walk_at "rd"
      exact k F H1 nF atF S1
end
end W4
set_option Elab.async false
set_option linter.all false
set_option maxRecDepth 100000
set_option maxHeartbeats 4000000
set_option pp.maxSteps 400
namespace W4
open PySem PySem.Spec PyProof.Rows L2
local macro_rules | `(tactic| walk_at "rd") => `(tactic| repeat (first | refine ⟨_, rfl, ?_⟩ | refine ⟨_, _, rfl, rfl, ?_⟩ | refine ⟨rfl, _, rfl, ?_⟩))

section
variable {P : Program} {w : World} {K : PySem.W.Frag} {mg : Str → Option Value} {base : Heap}
theorem ok_bl (T : Txt K mg w) : ∀ n, Clb P w K mg base CX0 (21 + 2 * n) "block_lines" (spBlkL n)
  | 0 => T.none (d := d_block_lines) m_block_lines rfl T.g_block_lines rfl rfl 20 sc_block_lines bd_block_lines fun vs H Q E ⟨_, i, _, _, _, _, _, _, _, _, h, _⟩ => Nat.not_lt_zero _ h
  | n + 1 => ok_blk T n (ok_inner T n (ok_bl T n))
def spPgL : Sp := fun vs H Q _ => ∃ (p : K4.Pg) (v : V), vs = [v] ∧ K4.tG p ∧ Va H v (K4.pgD p) ∧ tot (K4.pgT p) ≤ 2 ^ 20 ∧ ∀ (l : Addr) (H' : Hp), H l = none → H' l = some (.lst ((K4.pgT p).map V.str)) → Same H H' → Q (.ref l) H'
theorem pgT_app : ∀ a b : K4.Pg, K4.pgT (a ++ b) = K4.pgT a ++ K4.pgT b
  | [], _ => rfl
  | f :: r, b => by
    show K4.fnT f ++ K4.pgT (r ++ b) = (K4.fnT f ++ K4.pgT r) ++ K4.pgT b
    rw [pgT_app r b, List.append_assoc]
theorem VaL.strs {H : Hp} : ∀ {vs : List V} {ps : List Str}, VaL H vs (ps.map PyData.str) → vs = ps.map V.str
  | _, [], h => h.nil_inv
  | _, p :: r, h => by
    obtain ⟨v, ws, rfl, h1, h2⟩ := VaL.cons_inv (d := .str p) (ds := r.map PyData.str) h
    rw [h1.str_inv, VaL.strs h2] <;> rfl
theorem ok_pgl (T : Txt K mg w) : Clb P w K mg base CX0 28 "program_lines" spPgL := by
  have c_block_lines := ok_bl (P := P) (base := base) T 3
  refine T.clb (k := 27) (d := d_program_lines) m_program_lines rfl T.g_program_lines rfl rfl sc_program_lines bd_program_lines (fun vs H Q E h => ?_) (fun cdv A outer s H vs Q E hr h => ?_)
  · obtain ⟨p, v, rfl, _⟩ := h
    rfl
  · obtain ⟨p, v, rfl, tg, hv, hl, k⟩ := h
    refine ⟨_, (pss_cons (ps_set (i := 1) sc_program_lines.nd rfl (.inl rfl) (pe_lst pa_nil))
    (pss_cons (ps_for PassesOwn.never rfl (pi_tup (pv 0)) (pg_tup rfl (pgs_cons (pg_name (i := 2) sc_program_lines.nd rfl (.inl rfl)) (pgs_cons (pg_name (i := 3) sc_program_lines.nd rfl (.inl rfl)) (pgs_cons (pg_name (i := 4) sc_program_lines.nd rfl (.inl rfl)) pgs_nil))))
    (pss_one (ps_set (i := 1) sc_program_lines.nd rfl (.inl rfl) (pe_op op_cat (pe_op op_cat (pe_op op_cat (pv 1) (pe_lst (pa_cons (pe_op op_add_str (pe_op op_add_str (pe_op op_add_str (pe_op op_add_str pe_str (pv 2)) pe_str) (pe_join pe_str (pv 3))) pe_str) pa_nil))) (pe_cl c_block_lines hr (by first | decide | omega) pass0 (by rfl) (pa_cons (pv 4) (pa_cons (C8.pe_gc (by rfl) T.v_INDENT) pa_nil)))) (pe_lst (pa_cons pe_str pa_nil))))))
    (pss_one (ps_ret (pv 1))))), ?_⟩
    have sL := sL
    obtain ⟨a, xs, rfl, at_, va⟩ := hv.tup_inv
    have lv := va.length
    rw [List.length_map] at lv
    obtain ⟨p2, i, dp, i2, d1, d2, tf⟩ := tg
    refine ⟨Nat.zero_le _, fun F nF => ?_⟩
    walk_at "rd"
    refine ⟨⟨_, st_of (at_new at_ nF)⟩, for_tup (K := K) (a := a) (xs := xs) (fun j σ H1 => ∃ (F : Addr) (y2 y3 y4 : Option V), σ = [some (.ref a), some (.ref F), y2, y3, y4] ∧ H1 F = some (.lst ((K4.pgT (p.take j)).map V.str)) ∧ H F = none ∧ Same H H1) ?_ ?_ ?_ ?_⟩
    · exact ⟨F, _, _, _, rfl, by rw [upd_same, List.take_zero] <;> rfl, nF, same_new nF⟩
    · rintro j σ H1 _ ⟨F, y2, y3, y4, rfl, atF, nF, S1⟩
      exact st_of (S1 a _ at_)
    · rintro j x σ H1 hx ⟨F, y2, y3, y4, rfl, atF, nF, S1⟩
      obtain ⟨d, hd, hv1⟩ := (va.keep (Tp.of S1)).get hx
      rw [List.getElem?_map] at hd
      obtain ⟨f, hf, rfl⟩ : ∃ f, p[j]? = some f ∧ d = f.toD := by
        cases q : p[j]? with
        | none =>
          rw [q] at hd
          cases hd
        | some e =>
          rw [q] at hd
          exact ⟨e, rfl, (Option.some.inj hd).symm⟩
      have te := tf f (List.mem_of_getElem? hf)
      have tk : K4.pgT (p.take (j + 1)) = K4.pgT (p.take j) ++ K4.fnT f := by
        rw [List.take_add_one, hf, pgT_app]
        show _ ++ (K4.fnT f ++ []) = _
        rw [List.append_nil]
      have hl1 : tot (K4.pgT (p.take j)) + tot (K4.fnT f) ≤ 2 ^ 20 := by
        have e : K4.pgT p = K4.pgT (p.take j) ++ (K4.fnT f ++ K4.pgT (p.drop (j + 1))) := by
          conv => lhs; rw [← List.take_append_drop (j + 1) p]
          rw [pgT_app, tk, List.append_assoc]
        rw [e, tot_app, tot_app] at hl
        omega
      have ef : K4.fnT f = ("func " ++ f.x ++ "(" ++ Str.join ", " f.ps ++ ")") :: (K4.blT f.b "  " ++ [("end" : Str)]) := rfl
      rw [ef, tot_cons, tot_app, tot_cons, tot_nil, sl_app, sl_app, sl_app, sl_app] at hl1
      have t1 := tot_len (K4.pgT (p.take j))
      have t2 := tot_len (K4.blT f.b "  ")
      have jl := join_len ", " f.ps
      have ln : (", " : Str).length = 2 := by decide
      obtain ⟨b, zs, rfl, atb, vb⟩ := hv1.tup_inv
      obtain ⟨z1, zs1, rfl, g1, vb1⟩ := vb.cons_inv
      obtain ⟨z2, zs2, rfl, g2, vb2⟩ := vb1.cons_inv
      obtain ⟨z3, zs3, rfl, g3, vb3⟩ := vb2.cons_inv
      obtain rfl := vb3.nil_inv
      obtain rfl := g1.str_inv
      obtain ⟨c, cs, rfl, atc, vc⟩ := g2.tup_inv
      obtain rfl := vc.strs
      refine ⟨b, _, rfl, st_of atb, rfl, _, _, rfl, _, _, rfl, _, _, rfl, rfl, ?_⟩
      walk_at "rd"
      refine ⟨by omega, ?_⟩
      walk_at "rd"
      refine ⟨by rw [sl_app]; omega, ?_⟩
      refine ⟨⟨_, rfl⟩, ?_⟩
      walk_at "rd"
      refine ⟨_, c, f.ps, rfl, rfl, .inr (st_of atc), by omega, ?_⟩
      rw [join_eq]
      walk_at "rd"
      refine ⟨by rw [sl_app, sl_app]; omega, ?_⟩
      walk_at "rd"
      refine ⟨by rw [sl_app, sl_app, sl_app]; omega, sz rfl, fun q nq => ?_⟩
      refine ⟨F, q, _, _, rfl, rfl, at_new atF nq, upd_same, by rw [List.length_map]; show _ + 1 ≤ _; omega, fun r nr => ?_⟩
      walk_at "rd"
      refine ⟨f.b, i, dp, z3, "  ", rfl, te.2.2.2.2, d1, d2, te.2.2.2.1, by omega, (g3.new nq).new nr, by decide, by omega, fun l H3 nl at3 S3 => ?_⟩
      refine ⟨r, l, _, _, rfl, rfl, S3 _ _ upd_same, at3, ?_, fun u nu => ?_⟩
      · rw [List.length_append, List.length_map, List.length_map]
        show _ + 1 + _ ≤ _
        omega
      walk_at "rd"
      refine ⟨sz rfl, fun t nt => ?_⟩
      refine ⟨u, t, _, _, rfl, rfl, at_new upd_same nt, upd_same, ?_, fun y ny => ?_⟩
      · rw [List.length_append, List.length_append, List.length_map, List.length_map]
        show _ + 1 + _ + 1 ≤ _
        omega
      refine ⟨y, _, _, _, rfl, ?_, (((((S1.trans (same_new nq)).trans (same_new nr)).trans S3).trans (same_new nu)).trans (same_new nt)).free ny, (((((S1.trans (same_new nq)).trans (same_new nr)).trans S3).trans (same_new nu)).trans (same_new nt)).trans (same_new ny)⟩
      rw [upd_same, tk, ef, List.map_append]
      simp
    · rintro σ H1 ⟨F, y3, y4, y5, rfl, atF, nF, S1⟩
      rw [lv, List.take_length] at atF
      walk_at "rd"
      exact k F H1 nF atF S1
def spWrite : Sp := fun vs H Q _ => ∃ (p : K4.Pg) (v : V), vs = [v] ∧ K4.tG p ∧ Va H v (K4.pgD p) ∧ (K4.pgD p).depth < 61 ∧ thin (K4.pgD p) ∧ tot (K4.pgT p) ≤ 2 ^ 20 ∧ ∀ (H' : Hp), Same H H' → Q (.str (K4.pageT p)) H'
theorem ok_write (T : Txt K mg w) : Clb P w K mg base CX0 63 "write" spWrite := by
  have c_program_lines := ok_pgl (P := P) (base := base) T
  have c_as_tuples := ok_tup (P := P) (base := base) T 61
  refine T.clb (k := 62) (d := d_write) m_write rfl T.g_write rfl rfl sc_write bd_write (fun vs H Q E h => ?_) (fun cdv A outer s H vs Q E hr h => ?_)
  · obtain ⟨p, v, rfl, _⟩ := h
    rfl
  · obtain ⟨p, v, rfl, tg, hv, dp, th, hl, k⟩ := h
    refine ⟨_, (pss_one (ps_ret (pe_join pe_str (pe_cl c_program_lines hr (by first | decide | omega) pass0 (by rfl) (pa_cons (pe_cl c_as_tuples hr (by first | decide | omega) pass0 (by rfl) (pa_cons (pv 0) pa_nil)) pa_nil))))), ?_⟩
    refine ⟨⟨_, rfl⟩, ?_⟩
    walk_at "rd"
    refine ⟨v, _, rfl, dp, th, hv, fun v' H1 hv' S1 => ?_⟩
    refine ⟨p, v', rfl, tg, hv', hl, fun l H2 nl atl S2 => ?_⟩
    refine ⟨_, l, K4.pgT p, rfl, rfl, .inl (sq_of atl), ?_, ?_⟩
    · have l1 : ("\n" : Str).length = 1 := by decide
      rw [l1]
      unfold tot at hl
      omega
    rw [join_eq]
    exact k H2 (S1.trans S2)
end
end W4
set_option Elab.async false
set_option linter.all false
set_option maxRecDepth 100000
set_option maxHeartbeats 4000000
set_option pp.maxSteps 400
namespace W4
open PySem PySem.Spec PyProof.Rows L2
local macro_rules | `(tactic| walk_at "rd") => `(tactic| repeat (first | refine ⟨_, rfl, ?_⟩ | refine ⟨_, _, rfl, rfl, ?_⟩ | refine ⟨rfl, _, rfl, ?_⟩))
abbrev N_run_length : List Str := ["text", "at", "characters", "many"]
abbrev P_run_length : List Str := ["text", "at", "characters"]
theorem sc_run_length : FnScope N_run_length P_run_length (defScope s_run_length) := ⟨rfl, rfl, rfl, by decide +kernel, rfl, by decide +kernel, by decide +kernel⟩
theorem bd_run_length (kV doc pm : Value) (an : Option Addr) (cdv ct : Value) (us : List Value) (hl : us.length = P_run_length.length) : bindArgs (PySem.W.fnOf d_run_length.name d_run_length.qual d_run_length.params d_run_length.body d_run_length.scope .none kV doc pm an cdv ct) ⟨us, []⟩ = pure (P_run_length.zip us) := match us, hl with | [_, _, _], _ => rfl
abbrev N_letters_sort : List Str := ["word"]
abbrev P_letters_sort : List Str := ["word"]
theorem sc_letters_sort : FnScope N_letters_sort P_letters_sort (defScope s_letters_sort) := ⟨rfl, rfl, rfl, by decide +kernel, rfl, by decide +kernel, by decide +kernel⟩
theorem bd_letters_sort (kV doc pm : Value) (an : Option Addr) (cdv ct : Value) (us : List Value) (hl : us.length = P_letters_sort.length) : bindArgs (PySem.W.fnOf d_letters_sort.name d_letters_sort.qual d_letters_sort.params d_letters_sort.body d_letters_sort.scope .none kV doc pm an cdv ct) ⟨us, []⟩ = pure (P_letters_sort.zip us) := match us, hl with | [_], _ => rfl
abbrev N_figures_sort : List Str := ["word"]
abbrev P_figures_sort : List Str := ["word"]
theorem sc_figures_sort : FnScope N_figures_sort P_figures_sort (defScope s_figures_sort) := ⟨rfl, rfl, rfl, by decide +kernel, rfl, by decide +kernel, by decide +kernel⟩
theorem bd_figures_sort (kV doc pm : Value) (an : Option Addr) (cdv ct : Value) (us : List Value) (hl : us.length = P_figures_sort.length) : bindArgs (PySem.W.fnOf d_figures_sort.name d_figures_sort.qual d_figures_sort.params d_figures_sort.body d_figures_sort.scope .none kV doc pm an cdv ct) ⟨us, []⟩ = pure (P_figures_sort.zip us) := match us, hl with | [_], _ => rfl
abbrev N_sign_at : List Str := ["text", "at", "sign", "found"]
abbrev P_sign_at : List Str := ["text", "at"]
theorem sc_sign_at : FnScope N_sign_at P_sign_at (defScope s_sign_at) := ⟨rfl, rfl, rfl, by decide +kernel, rfl, by decide +kernel, by decide +kernel⟩
theorem bd_sign_at (kV doc pm : Value) (an : Option Addr) (cdv ct : Value) (us : List Value) (hl : us.length = P_sign_at.length) : bindArgs (PySem.W.fnOf d_sign_at.name d_sign_at.qual d_sign_at.params d_sign_at.body d_sign_at.scope .none kV doc pm an cdv ct) ⟨us, []⟩ = pure (P_sign_at.zip us) := match us, hl with | [_, _], _ => rfl
abbrev N_token_at : List Str := ["text", "at", "many", "sign"]
abbrev P_token_at : List Str := ["text", "at"]
theorem sc_token_at : FnScope N_token_at P_token_at (defScope s_token_at) := ⟨rfl, rfl, rfl, by decide +kernel, rfl, by decide +kernel, by decide +kernel⟩
theorem bd_token_at (kV doc pm : Value) (an : Option Addr) (cdv ct : Value) (us : List Value) (hl : us.length = P_token_at.length) : bindArgs (PySem.W.fnOf d_token_at.name d_token_at.qual d_token_at.params d_token_at.body d_token_at.scope .none kV doc pm an cdv ct) ⟨us, []⟩ = pure (P_token_at.zip us) := match us, hl with | [_, _], _ => rfl
abbrev N_tokens_of : List Str := ["text", "found", "at", "touches", "sort", "word", "is_word", "gap"]
abbrev P_tokens_of : List Str := ["text"]
theorem sc_tokens_of : FnScope N_tokens_of P_tokens_of (defScope s_tokens_of) := ⟨rfl, rfl, rfl, by decide +kernel, rfl, by decide +kernel, by decide +kernel⟩
theorem bd_tokens_of (kV doc pm : Value) (an : Option Addr) (cdv ct : Value) (us : List Value) (hl : us.length = P_tokens_of.length) : bindArgs (PySem.W.fnOf d_tokens_of.name d_tokens_of.qual d_tokens_of.params d_tokens_of.body d_tokens_of.scope .none kV doc pm an cdv ct) ⟨us, []⟩ = pure (P_tokens_of.zip us) := match us, hl with | [_], _ => rfl
theorem ite_or {c A B : Prop} [Decidable c] (h1 : c → A) (h2 : ¬ c → B) : if c then A else B := ite2 h1 h2
section
variable {P : Program} {w : World} {K : PySem.W.Frag} {mg : Str → Option Value} {base : Heap}
def spRun : Sp := fun vs H Q _ => ∃ (x C : Str) (i : Nat), vs = [.str x, .int i, .str C] ∧ i ≤ x.length ∧ x.length ≤ 2 ^ 20 ∧ Q (.int (K4.runL C ((K4.cd x).drop i) : Nat)) H
theorem ok_run (T : Txt K mg w) : Clb P w K mg base CX0 1 "run_length" spRun := by
  refine T.clb (d := d_run_length) m_run_length rfl T.g_run_length rfl rfl sc_run_length bd_run_length (fun vs H Q E h => ?_) (fun cdv A outer s H vs Q E hr h => ?_)
  · obtain ⟨x, C, i, rfl, _⟩ := h
    rfl
  · obtain ⟨x, C, i, rfl, hi, hl, k⟩ := h
    refine ⟨_, (pss_cons (ps_set (i := 3) sc_run_length.nd rfl (.inl rfl) pe_int)
    (pss_cons (ps_while PassesOwn.never (PW.pt (pw_and (pt_cmpR op_lt (pe_op op_add (pv 1) (pv 3)) (pe_callB call_len (by rfl) T.f_len (by decide +kernel) (pa_cons (pv 0) pa_nil)) (nomark _)) (pw_and1 (pt_cmpR op_in_sign (pe_ix ix_str (pv 0) (pe_op op_add (pv 1) (pv 3)) (fun _ _ => rfl)) (pv 2) (by with_unfolding_all rfl)))))
    (pss_one (ps_aug (i := 3) sc_run_length.nd rfl (.inl rfl) pe_int ip_add)))
    (pss_one (ps_ret (pv 3))))), ?_⟩
    have sL := sL
    refine ⟨fun n σ H1 => ∃ m : Nat, σ = [some (.str x), some (.int i), some (.str C), some (.int m)] ∧ H1 = H ∧ i + m + n = x.length ∧ K4.runL C ((K4.cd x).drop i) = m + K4.runL C ((K4.cd x).drop (i + m)), ⟨x.length - i, 0, rfl, rfl, by omega, by simp⟩, ?_⟩
    rintro n σ H1 ⟨m, rfl, rfl, en, er⟩
    walk_at "rd"
    refine ⟨_, x.length, rfl, ⟨by omega, rfl⟩, ?_⟩
    walk_at "rd"
    refine ite2 (fun c => ?_) (fun c => ?_)
    · have c' : i + m < x.length := by
        have := of_decide_eq_true c
        omega
      have hc : (K4.cd x)[i + m]? = some (K4.cd x)[i + m] := List.getElem?_eq_getElem (by rw [K4.cd_len]; exact c')
      have hdr : (K4.cd x).drop (i + m) = (K4.cd x)[i + m] :: (K4.cd x).drop (i + m + 1) := List.drop_eq_getElem_cons (by rw [K4.cd_len]; exact c')
      walk_at "rd"
      refine ⟨x, _, (K4.cd x)[i + m], rfl, rfl, by omega, ?_, ?_⟩
      · rw [show ((i : Int) + (m : Int)) = ((i + m : Nat) : Int) by omega]
        exact atI_nat hc
      walk_at "rd"
      refine ite2 (fun c2 => ?_) (fun c2 => ?_)
      · have c2' := of_decide_eq_true c2
        refine ⟨fun σ' H' => σ' = [some (.str x), some (.int i), some (.str C), some (.int ((m + 1 : Nat) : Int))] ∧ H' = H1, ?_, ?_⟩
        · rintro σ' H' ⟨rfl, rfl⟩
          refine ⟨n - 1, by omega, m + 1, rfl, rfl, by omega, ?_⟩
          rw [er, hdr, show i + (m + 1) = i + m + 1 by omega]
          have e1 : K4.runL C ((K4.cd x)[i + m] :: (K4.cd x).drop (i + m + 1)) = K4.runL C ((K4.cd x).drop (i + m + 1)) + 1 := by
            conv => lhs; unfold K4.runL
            rw [if_pos c2']
          rw [e1]
          omega
        · walk_at "rd"
          exact ⟨rfl, rfl⟩
      · have c2' : (K4.cd x)[i + m] ∉ K4.cd C := fun z => c2 (decide_eq_true z)
        rw [hdr, K4.runL_0 c2'] at er
        walk_at "rd"
        rw [show ((K4.runL C ((K4.cd x).drop i) : Nat) : Int) = (m : Int) by omega] at k
        exact k
    · have c' : i + m = x.length := by
        have : ¬ ((i : Int) + m < x.length) := fun z => c (decide_eq_true z)
        omega
      have e0 : (K4.cd x).drop (i + m) = [] := List.drop_of_length_le (by rw [K4.cd_len]; omega)
      rw [e0] at er
      have e1 : K4.runL C [] = 0 := rfl
      walk_at "rd"
      rw [show ((K4.runL C ((K4.cd x).drop i) : Nat) : Int) = (m : Int) by omega] at k
      exact k
theorem inV_str (x : Str) (l : List Str) : inV (.str x) (l.map V.str) = decide (x ∈ l) := by
  unfold inV
  induction l with
  | nil => rfl
  | cons y r ih =>
    rw [List.map_cons, List.any_cons, ih, Bool.eq_iff_iff]
    show (y == x || decide (x ∈ r)) = true ↔ decide (x ∈ y :: r) = true
    rw [Bool.or_eq_true, beq_iff_eq, decide_eq_true_iff, decide_eq_true_iff, List.mem_cons]
    exact ⟨fun h => h.imp Eq.symm id, fun h => h.imp Eq.symm id⟩
theorem flat_strs (l : List Str) : (l.map V.str).all flatV = true := by
  rw [List.all_map, List.all_eq_true]
  intro x _
  rfl
def spSort (f : Str → Str) (ok : Str → Prop) : Sp := fun vs H Q _ => ∃ x : Str, vs = [.str x] ∧ ok x ∧ Q (.str (f x)) H
theorem ok_letters (T : Txt K mg w) : Clb P w K mg base CX0 1 "letters_sort" (spSort K4.letSort fun x => x.length ≤ 2 ^ 20) := by
  refine T.clb (d := d_letters_sort) m_letters_sort rfl T.g_letters_sort rfl rfl sc_letters_sort bd_letters_sort (fun vs H Q E h => ?_) (fun cdv A outer s H vs Q E hr h => ?_)
  · obtain ⟨x, rfl, _⟩ := h
    rfl
  · obtain ⟨x, rfl, hl, k⟩ := h
    refine ⟨_, (pss_cons (ps_if (pt_cmpR op_in_seq (pv 0) (C8.pe_gc (by rfl) T.v_KEYWORDS) (by with_unfolding_all rfl))
    (pss_one (ps_ret (pv 0)))
    pss_nil)
    (pss_one (ps_ret (pe_ifExp (pt_cmpR op_le (pe_callB call_len (by rfl) T.f_len (by decide +kernel) (pa_cons (pv 0) pa_nil)) (C8.pe_gc (by rfl) T.v_MOST_LETTERS) (nomark _)) (C8.pe_gc (by rfl) T.v_NAME) (C8.pe_gc (by rfl) T.v_BAD))))), ?_⟩
    have sL := sL
    walk_at "rd"
    refine ⟨_, kwsL.map V.str, rfl, .inr (T.mor.kws H), rfl, flat_strs _, ?_⟩
    walk_at "rd"
    have ek : kwsL = K4.keywords := rfl
    refine ite2 (fun c => ?_) (fun c => ?_)
    · have c1 : inV (.str x) (kwsL.map V.str) = true := by simpa using c
      rw [inV_str, ek] at c1
      have e : K4.letSort x = x := by unfold K4.letSort; rw [if_pos (of_decide_eq_true c1)]
      rw [e] at k
      walk_at "rd"
      exact k
    · have c1 : ¬ inV (.str x) (kwsL.map V.str) = true := by simpa using c
      rw [inV_str, ek] at c1
      have c2 : x ∉ K4.keywords := fun z => c1 (decide_eq_true z)
      walk_at "rd"
      refine ⟨_, x.length, rfl, ⟨by omega, rfl⟩, ?_⟩
      walk_at "rd"
      refine ite2 (fun c3 => ?_) (fun c3 => ?_)
      · have c4 : x.length ≤ 12 := by have := of_decide_eq_true c3; omega
        have e : K4.letSort x = K4.nm := by unfold K4.letSort; rw [if_neg c2, if_pos c4]
        rw [e] at k
        exact k
      · have c4 : ¬ x.length ≤ 12 := fun z => c3 (decide_eq_true (by omega))
        have e : K4.letSort x = K4.bd := by unfold K4.letSort; rw [if_neg c2, if_neg c4]
        rw [e] at k
        exact k
theorem num_digits (w : Str) : K4.numOf w = NumText.digitsVal (K4.cd w) := rfl
theorem str_sing {c : Nat} (z : Nat) : (decide (V.str ⟨#[c]⟩ = V.str ⟨#[z]⟩)) = decide (c = z) := by
  rw [Bool.eq_iff_iff]
  simp
theorem ok_figures (T : Txt K mg w) : Clb P w K mg base CX0 1 "figures_sort" (spSort K4.figSort fun x => x.length ≤ 2 ^ 20 ∧ K4.cd x ≠ [] ∧ ∀ c ∈ K4.cd x, c ∈ K4.cd K4.figS) := by
  refine T.clb (d := d_figures_sort) m_figures_sort rfl T.g_figures_sort rfl rfl sc_figures_sort bd_figures_sort (fun vs H Q E h => ?_) (fun cdv A outer s H vs Q E hr h => ?_)
  · obtain ⟨x, rfl, _⟩ := h
    rfl
  · obtain ⟨x, rfl, ⟨hl, hne, hd⟩, k⟩ := h
    refine ⟨_, (pss_cons (ps_if (PW.pt (pw_or (PW.pt (pw_and (pt_cmpR op_eq (pe_ix ix_str (pv 0) pe_int (fun _ _ => rfl)) pe_str (nomark _)) (pw_and1 (pt_cmpR op_ne (pv 0) pe_str (nomark _))))) (pw_or (pt_cmpR op_gt (pe_callB call_len (by rfl) T.f_len (by decide +kernel) (pa_cons (pv 0) pa_nil)) (pe_callB call_len (by rfl) T.f_len (by decide +kernel) (pa_cons (pe_callTy call_strV (by rfl) T.f_str (by decide +kernel) (pa_cons (C8.pe_gc (by rfl) T.v_LIMIT) pa_nil)) pa_nil)) (nomark _)) (pw_or1 (pt_cmpR op_gt (pe_callTy call_int_str (by rfl) T.f_int (by decide +kernel) (pa_cons (pv 0) pa_nil)) (C8.pe_gc (by rfl) T.v_LIMIT) (nomark _))))))
    (pss_one (ps_ret (C8.pe_gc (by rfl) T.v_BAD)))
    pss_nil)
    (pss_one (ps_ret (C8.pe_gc (by rfl) T.v_INTEGER)))), ?_⟩
    have sL := sL
    obtain ⟨c, r, ec⟩ : ∃ c r, K4.cd x = c :: r := by
      cases e : K4.cd x with
      | nil => exact absurd e hne
      | cons c r => exact ⟨c, r, rfl⟩
    have c0 : (K4.cd x)[0]? = some c := by rw [ec] <;> rfl
    have len13 : (Str.ofString (toString (1000000000000 : Int))).length = 13 := by decide +kernel
    have ad : NumText.AllDigits (K4.cd x) := fun c hc => (show ∀ c ∈ K4.cd K4.figS, 48 ≤ c ∧ c ≤ 57 by decide) c (hd c hc)
    have bad : ∀ (h : ((K4.cd x)[0]? = some 48 ∧ x ≠ "0") ∨ 13 < x.length ∨ 1000000000000 < K4.numOf x), Q (.str K4.bd) H := fun h => by
      have e : K4.figSort x = K4.bd := by unfold K4.figSort; rw [if_pos h]
      rw [e] at k
      exact k
    have good : ∀ (h : ¬ (((K4.cd x)[0]? = some 48 ∧ x ≠ "0") ∨ 13 < x.length ∨ 1000000000000 < K4.numOf x)), Q (.str K4.tn) H := fun h => by
      have e : K4.figSort x = K4.tn := by unfold K4.figSort; rw [if_neg h]
      rw [e] at k
      exact k
    -- the length, the number
    have tail : ¬ ((K4.cd x)[0]? = some 48 ∧ x ≠ "0") → ∀ (n : Nat), n = 13 → (if decide ((n : Int) < (x.length : Int)) = true then Q (.str K4.bd) H else (x.length ≤ 13 → ∃ n : Int, PySem.intText? x = some n ∧ x.length ≤ 640 ∧ (if decide ((1000000000000 : Int) < n) = true then Q (.str K4.bd) H else Q (.str K4.tn) H))) := by
      intro h0 n hn
      subst hn
      refine ite2 (fun h => bad (.inr (.inl (by have := of_decide_eq_true h; omega)))) (fun h => fun l13 => ?_)
      refine ⟨(K4.numOf x : Nat), ?_, by omega, ite2 (fun h2 => bad (.inr (.inr (by have := of_decide_eq_true h2; omega)))) (fun h2 => good fun z => ?_)⟩
      · rw [num_digits]
        exact PySem.intText_digits ad hne (by omega)
      · rcases z with z | z | z
        · exact h0 z
        · omega
        · exact h2 (decide_eq_true (by omega))
    walk_at "rd"
    refine ⟨x, 0, c, rfl, rfl, by omega, atI_nat (j := 0) c0, ?_⟩
    walk_at "rd"
    have z0 : ("0" : Str) = ⟨#[48]⟩ := by decide
    refine ite2 (fun h1 => ?_) (fun h1 => ?_)
    · have e48 : c = 48 := by
        rw [z0, str_sing] at h1
        exact of_decide_eq_true h1
      walk_at "rd"
      refine ite2 (fun h2 => ?_) (fun h2 => ?_)
      · walk_at "rd"
        refine bad (.inl ⟨by rw [c0, e48], fun z => ?_⟩)
        rw [z] at h2
        exact absurd h2 (by decide)
      · have ex : x = "0" := by
          have h3 : decide (V.str x = V.str "0") = true := by simpa using h2
          exact V.str.inj (of_decide_eq_true h3)
        walk_at "rd"
        refine ⟨_, x.length, rfl, ⟨by omega, rfl⟩, ?_⟩
        walk_at "rd"
        refine .inl ⟨_, rfl, by decide, ?_⟩
        refine ⟨_, (Str.ofString (toString (1000000000000 : Int))).length, rfl, ⟨by rw [len13]; decide, rfl⟩, ?_⟩
        walk_at "rd"
        have tl := tail (fun z => z.2 ex) _ len13
        refine ite2 (fun h => ?_) (fun h => ?_)
        · rw [if_pos h] at tl
          walk_at "rd"
          exact tl
        · rw [if_neg h] at tl
          obtain ⟨n, n1, n2, n3⟩ := tl (by rw [len13] at h; have : ¬ ((13 : Nat) : Int) < x.length := fun z => h (decide_eq_true z); omega)
          walk_at "rd"
          refine ⟨x, n, rfl, n1, n2, ?_⟩
          walk_at "rd"
          refine ite2 (fun h2 => ?_) (fun h2 => ?_)
          · rw [if_pos h2] at n3
            walk_at "rd"
            exact n3
          · rw [if_neg h2] at n3
            walk_at "rd"
            exact n3
    · have n48 : c ≠ 48 := fun z => h1 (by rw [z0, str_sing, z]; rfl)
      walk_at "rd"
      refine ⟨_, x.length, rfl, ⟨by omega, rfl⟩, ?_⟩
      walk_at "rd"
      refine .inl ⟨_, rfl, by decide, ?_⟩
      refine ⟨_, (Str.ofString (toString (1000000000000 : Int))).length, rfl, ⟨by rw [len13]; decide, rfl⟩, ?_⟩
      walk_at "rd"
      have tl := tail (fun z => n48 (by have := z.1; rw [c0] at this; exact Option.some.inj this)) _ len13
      refine ite2 (fun h => ?_) (fun h => ?_)
      · rw [if_pos h] at tl
        walk_at "rd"
        exact tl
      · rw [if_neg h] at tl
        obtain ⟨n, n1, n2, n3⟩ := tl (by rw [len13] at h; have : ¬ ((13 : Nat) : Int) < x.length := fun z => h (decide_eq_true z); omega)
        walk_at "rd"
        refine ⟨x, n, rfl, n1, n2, ?_⟩
        walk_at "rd"
        refine ite2 (fun h2 => ?_) (fun h2 => ?_)
        · rw [if_pos h2] at n3
          walk_at "rd"
          exact n3
        · rw [if_neg h2] at n3
          walk_at "rd"
          exact n3
theorem sw3 (x y : Str) (i : Nat) (h : i ≤ x.length) : Txt.startswith3 x y (i : Int) = (K4.cd y).isPrefixOf ((K4.cd x).drop i) := by
  have e1 : fromIndex x.length (i : Int) = i := by
    unfold fromIndex
    rw [if_neg (by omega)]
    omega
  unfold Txt.startswith3
  rw [e1, Bool.eq_iff_iff, Bool.and_eq_true, decide_eq_true_iff, StrLaws.subAt_eq, beq_iff_eq, List.isPrefixOf_iff_prefix, List.prefix_iff_eq_take]
  have ly : (K4.cd y).length = y.length := K4.cd_len y
  have lx : (K4.cd x).length = x.length := K4.cd_len x
  constructor
  · rintro ⟨_, e⟩
    rw [ly]
    exact e.symm
  · intro e
    rw [ly] at e
    refine ⟨?_, e.symm⟩
    have e2 := congrArg List.length e
    rw [List.length_take, List.length_drop, ly, lx] at e2
    by_cases hy : y.length = 0
    · omega
    · omega
def pref (cs : List Nat) (s : Str) : Bool := (K4.cd s).isPrefixOf cs
def spSign : Sp := fun vs H Q _ => ∃ (x : Str) (i : Nat), vs = [.str x, .int i] ∧ i ≤ x.length ∧ x.length ≤ 2 ^ 20 ∧ ∀ H' : Hp, Same H H' → Q (.str (K4.sgnAt ((K4.cd x).drop i))) H'
theorem sgn_filter (cs : List Nat) : K4.sgnAt cs = ((K4.sgns.filter (pref cs))[0]?).getD Str.empty := by
  have e : (K4.sgns.filter (pref cs))[0]? = K4.sgns.find? (pref cs) := by
    rw [← List.head?_eq_getElem?, List.head?_filter]
  rw [e]
  unfold K4.sgnAt
  show (match K4.sgns.find? (pref cs) with | some s => s | none => Str.empty) = _
  cases K4.sgns.find? (pref cs) <;> rfl
theorem ok_sign (T : Txt K mg w) : Clb P w K mg base CX0 1 "sign_at" spSign := by
  refine T.clb (d := d_sign_at) m_sign_at rfl T.g_sign_at rfl rfl sc_sign_at bd_sign_at (fun vs H Q E h => ?_) (fun cdv A outer s H vs Q E hr h => ?_)
  · obtain ⟨x, i, rfl, _⟩ := h
    rfl
  · obtain ⟨x, i, rfl, hi, hl, k⟩ := h
    refine ⟨_, (pss_cons (ps_setLc (i := 3) (own := [("sign", 2)]) (g := gName 2) (tt := tB (tBM K "str" (fun x xs H Q => ∃ (a b : Str) (i : Int), x = .str a ∧ xs = [.str b, .int i] ∧ Q (.bl (Txt.startswith3 a b i)) H) (tVar 0) (tCons (tVar 2) (tCons (tVar 1) tNil)))) rfl sc_sign_at.nd rfl rfl (sw_true rfl rfl rfl (by decide +kernel)) (pi_tup (C8.pe_gc (by rfl) T.v_SIGNS)) (blkOk_by (own := [("sign", 2)]) (N := N_sign_at) (sc := defScope s_sign_at) (by decide +kernel)) (fun _ _ _ _ _ => pg_name (i := 2) sc_sign_at.nd rfl (.inl rfl)) (fun _ _ _ _ _ => pts_one (pt_val (pe_bm PySem.F.plainAttrs_str PySem.F.slot_str_startswith PySem.F.type_str_startswith mt_startswith3 (pv 0) (pa_cons (pv 2) (pa_cons (pv 1) pa_nil))))) (fun _ _ _ _ _ => (pv 2)))
    (pss_one (ps_ret (pe_ifExp (pt_cmpR op_gt (pe_callB call_len (by rfl) T.f_len (by decide +kernel) (pa_cons (pv 3) pa_nil)) pe_int (nomark _)) (pe_ix ix_list (pv 3) pe_int (fun _ _ => rfl)) pe_str)))), ?_⟩
    have sL := sL
    have es : signsL = K4.sgns := rfl
    refine ⟨_, rfl, ⟨_, T.mor.signs H⟩, fun D nD => lc_tup (K := K) (xs := signsL.map V.str) (fun j H1 => H1 D = some (.lst (((K4.sgns.take j).filter (pref ((K4.cd x).drop i))).map V.str)) ∧ Same H H1) ?_ ?_ ?_ ?_⟩
    · exact ⟨upd_same, same_new nD⟩
    · exact fun j H1 _ _ => T.mor.signs H1
    · rintro j y H1 hy ⟨atD, S1⟩
      obtain ⟨z, hz, rfl⟩ : ∃ z, K4.sgns[j]? = some z ∧ y = .str z := by
        rw [List.getElem?_map, es] at hy
        cases q : K4.sgns[j]? with
        | none =>
          rw [q] at hy
          cases hy
        | some z =>
          rw [q] at hy
          exact ⟨z, rfl, (Option.some.inj hy).symm⟩
      have tk : K4.sgns.take (j + 1) = K4.sgns.take j ++ [z] := by rw [List.take_add_one, hz] <;> rfl
      refine ⟨rfl, ?_⟩
      walk_at "rd"
      refine ⟨x, z, i, rfl, rfl, ?_⟩
      walk_at "rd"
      rw [sw3 x z i hi]
      cases q : (K4.cd z).isPrefixOf ((K4.cd x).drop i) with
      | true =>
        walk_at "rd"
        refine ⟨_, atD, ?_, ?_, Same.own S1 nD⟩
        · rw [List.length_map]
          refine Nat.lt_of_le_of_lt (List.length_filter_le _ _) ?_
          rw [List.length_take]
          exact Nat.lt_of_le_of_lt (Nat.min_le_right _ _) (by decide)
        · rw [upd_same, tk, List.filter_append, List.map_append]
          have : [z].filter (pref ((K4.cd x).drop i)) = [z] := by
            show (match pref ((K4.cd x).drop i) z with | true => [z] | false => []) = [z]
            rw [show pref ((K4.cd x).drop i) z = true from q]
          rw [this]
          rfl
      | false =>
        walk_at "rd"
        refine ⟨?_, S1⟩
        rw [atD, tk, List.filter_append]
        have : [z].filter (pref ((K4.cd x).drop i)) = [] := by
          show (match pref ((K4.cd x).drop i) z with | true => [z] | false => []) = []
          rw [show pref ((K4.cd x).drop i) z = false from q]
        rw [this, List.append_nil]
    · rintro H1 ⟨atD, S1⟩
      rw [show (signsL.map V.str).length = K4.sgns.length from rfl, List.take_length] at atD
      have sg := sgn_filter ((K4.cd x).drop i)
      generalize K4.sgns.filter (pref ((K4.cd x).drop i)) = fs at atD sg
      walk_at "rd"
      refine ⟨_, fs.length, rfl, .inl ⟨_, sq_of atD, by rw [List.length_map]⟩, ?_⟩
      walk_at "rd"
      cases fs with
      | nil =>
        have e0 : K4.sgnAt ((K4.cd x).drop i) = Str.empty := sg
        rw [e0] at k
        walk_at "rd"
        exact k H1 S1
      | cons z r =>
        have e0 : K4.sgnAt ((K4.cd x).drop i) = z := sg
        rw [e0] at k
        refine ite2 (fun h => ?_) (fun h => absurd (decide_eq_true (by rw [List.length_cons]; omega)) h)
        walk_at "rd"
        exact ⟨D, _, 0, .str z, rfl, rfl, sq_of atD, atI_nat (j := 0) rfl, k H1 S1⟩
theorem cutS_eq (x : Str) (i m : Nat) (h : i + m ≤ x.length) : cutS x (some (i : Int)) (some ((i : Int) + (m : Int))) = K4.S (((K4.cd x).drop i).take m) := by
  unfold cutS K4.S
  rw [show ((i : Int) + (m : Int)) = ((i + m : Nat) : Int) by omega, HT.sIx_nat, HT.sIx_nat, Nat.min_eq_left h, Nat.min_eq_left (show i ≤ x.length by omega), Nat.add_sub_cancel_left]
def spTok : Sp := fun vs H Q _ => ∃ (x : Str) (i : Nat), vs = [.str x, .int i] ∧ i < x.length ∧ x.length ≤ 2 ^ 20 ∧ ∀ (p : Addr) (H' : Hp), H' p = some (.tup [.str (K4.tokAt ((K4.cd x).drop i)).1, .str (K4.tokAt ((K4.cd x).drop i)).2]) → Same H H' → Q (.ref p) H'
theorem ok_tok (T : Txt K mg w) : Clb P w K mg base CX0 2 "token_at" spTok := by
  have c_run_length := ok_run (P := P) (base := base) T
  have c_letters_sort := ok_letters (P := P) (base := base) T
  have c_figures_sort := ok_figures (P := P) (base := base) T
  have c_sign_at := ok_sign (P := P) (base := base) T
  refine T.clb (k := 1) (d := d_token_at) m_token_at rfl T.g_token_at rfl rfl sc_token_at bd_token_at (fun vs H Q E h => ?_) (fun cdv A outer s H vs Q E hr h => ?_)
  · obtain ⟨x, i, rfl, _⟩ := h
    rfl
  · obtain ⟨x, i, rfl, hi, hl, k⟩ := h
    refine ⟨_, (pss_cons (ps_set (i := 2) sc_token_at.nd rfl (.inl rfl) (pe_cl c_run_length hr (by first | decide | omega) pass0 (by rfl) (pa_cons (pv 0) (pa_cons (pv 1) (pa_cons (C8.pe_gc (by rfl) T.v_LETTERS) pa_nil)))))
    (pss_cons (ps_if (pt_cmpR op_gt (pv 2) pe_int (nomark _))
    (pss_one (ps_ret (pe_tup (pa_cons (pe_cl c_letters_sort hr (by first | decide | omega) pass0 (by rfl) (pa_cons (pe_slice sl_str (pv 0) (po_some (pv 1)) (po_some (pe_op op_add (pv 1) (pv 2)))) pa_nil)) (pa_cons (pe_slice sl_str (pv 0) (po_some (pv 1)) (po_some (pe_op op_add (pv 1) (pv 2)))) pa_nil)))))
    pss_nil)
    (pss_cons (ps_set (i := 2) sc_token_at.nd rfl (.inl rfl) (pe_cl c_run_length hr (by first | decide | omega) pass0 (by rfl) (pa_cons (pv 0) (pa_cons (pv 1) (pa_cons (C8.pe_gc (by rfl) T.v_FIGURES) pa_nil)))))
    (pss_cons (ps_if (pt_cmpR op_gt (pv 2) pe_int (nomark _))
    (pss_one (ps_ret (pe_tup (pa_cons (pe_cl c_figures_sort hr (by first | decide | omega) pass0 (by rfl) (pa_cons (pe_slice sl_str (pv 0) (po_some (pv 1)) (po_some (pe_op op_add (pv 1) (pv 2)))) pa_nil)) (pa_cons (pe_slice sl_str (pv 0) (po_some (pv 1)) (po_some (pe_op op_add (pv 1) (pv 2)))) pa_nil)))))
    pss_nil)
    (pss_cons (ps_set (i := 3) sc_token_at.nd rfl (.inl rfl) (pe_cl c_sign_at hr (by first | decide | omega) pass0 (by rfl) (pa_cons (pv 0) (pa_cons (pv 1) pa_nil))))
    (pss_one (ps_ret (pe_ifExp (pt_cmpR op_ne (pv 3) pe_str (nomark _)) (pe_tup (pa_cons (pv 3) (pa_cons (pv 3) pa_nil))) (pe_tup (pa_cons (C8.pe_gc (by rfl) T.v_BAD) (pa_cons (pe_ix ix_str (pv 0) (pv 1) (fun _ _ => rfl)) pa_nil))))))))))), ?_⟩
    have sL := sL
    obtain ⟨cs, ecs⟩ : ∃ cs, (K4.cd x).drop i = cs := ⟨_, rfl⟩
    have lcs : cs.length = x.length - i := by rw [← ecs, List.length_drop, K4.cd_len]
    rw [ecs] at k
    have r1 := K4.runL_le K4.letS cs
    have r2 := K4.runL_le K4.figS cs
    obtain ⟨c, r, ec⟩ : ∃ c r, cs = c :: r := by
      cases cs with
      | nil =>
        simp at lcs
        omega
      | cons c r => exact ⟨c, r, rfl⟩
    walk_at "rd"
    refine ⟨x, K4.letS, i, rfl, by omega, hl, ?_⟩
    rw [ecs]
    walk_at "rd"
    refine ite2 (fun h1 => ?_) (fun h1 => ?_)
    · have h1' : 0 < K4.runL K4.letS cs := by have := of_decide_eq_true h1; omega
      have et : K4.tokAt cs = (K4.letSort (K4.S (cs.take (K4.runL K4.letS cs))), K4.S (cs.take (K4.runL K4.letS cs))) := by
        unfold K4.tokAt
        rw [if_pos h1']
      rw [et] at k
      have ct := cutS_eq x i (K4.runL K4.letS cs) (by omega)
      rw [ecs] at ct
      walk_at "rd"
      refine ⟨by omega, ?_⟩
      rw [ct]
      refine ⟨_, rfl, ?_, ?_⟩
      · show (K4.S (cs.take (K4.runL K4.letS cs))).length ≤ 2 ^ 20
        rw [← K4.cd_len, K4.cd_S, List.length_take]
        omega
      walk_at "rd"
      refine ⟨by omega, sz rfl, fun t nt => ?_⟩
      rw [ct]
      exact k t _ upd_same (same_new nt)
    have h1' : ¬ 0 < K4.runL K4.letS cs := fun z => h1 (decide_eq_true (by omega))
    walk_at "rd"
    refine ⟨x, K4.figS, i, rfl, by omega, hl, ?_⟩
    rw [ecs]
    walk_at "rd"
    refine ite2 (fun h2 => ?_) (fun h2 => ?_)
    · have h2' : 0 < K4.runL K4.figS cs := by have := of_decide_eq_true h2; omega
      have et : K4.tokAt cs = (K4.figSort (K4.S (cs.take (K4.runL K4.figS cs))), K4.S (cs.take (K4.runL K4.figS cs))) := by
        unfold K4.tokAt
        rw [if_neg h1', if_pos h2']
      rw [et] at k
      have ct := cutS_eq x i (K4.runL K4.figS cs) (by omega)
      rw [ecs] at ct
      have ln : (K4.S (cs.take (K4.runL K4.figS cs))).length = K4.runL K4.figS cs := by
        rw [← K4.cd_len, K4.cd_S, List.length_take]
        omega
      walk_at "rd"
      refine ⟨by omega, ?_⟩
      rw [ct]
      refine ⟨_, rfl, ⟨by omega, ?_, ?_⟩, ?_⟩
      · intro z
        have := congrArg List.length z
        rw [K4.cd_len, ln] at this
        simp at this
        omega
      · rw [K4.cd_S]
        exact K4.runL_take K4.figS cs
      walk_at "rd"
      refine ⟨by omega, sz rfl, fun t nt => ?_⟩
      rw [ct]
      exact k t _ upd_same (same_new nt)
    have h2' : ¬ 0 < K4.runL K4.figS cs := fun z => h2 (decide_eq_true (by omega))
    walk_at "rd"
    refine ⟨x, i, rfl, by omega, hl, fun H1 S1 => ?_⟩
    rw [ecs]
    walk_at "rd"
    refine ite2 (fun h3 => ?_) (fun h3 => ?_)
    · have h3' : K4.sgnAt cs ≠ Str.empty := fun z => by
        rw [z] at h3
        exact absurd h3 (by decide)
      have et : K4.tokAt cs = (K4.sgnAt cs, K4.sgnAt cs) := by
        unfold K4.tokAt
        rw [if_neg h1', if_neg h2', if_pos h3']
      rw [et] at k
      walk_at "rd"
      refine ⟨sz rfl, fun t nt => k t _ upd_same (S1.trans (same_new nt))⟩
    · have h3' : ¬ K4.sgnAt cs ≠ Str.empty := fun z => by
        have h4 : decide (V.str (K4.sgnAt cs) = V.str "") = true := by simpa using h3
        exact z (V.str.inj (of_decide_eq_true h4))
      have et : K4.tokAt cs = (K4.bd, ⟨#[c]⟩) := by
        unfold K4.tokAt
        rw [if_neg h1', if_neg h2', if_neg h3', ec]
        rfl
      rw [et] at k
      have at0 : (K4.cd x)[i]? = some c := by
        have := congrArg (fun l : List Nat => l[0]?) (ecs.trans ec)
        simpa [List.getElem?_drop] using this
      walk_at "rd"
      refine ⟨x, i, c, rfl, rfl, by omega, atI_nat at0, sz rfl, fun t nt => k t _ upd_same (S1.trans (same_new nt))⟩
def tkD (t : K4.Tk) : PyData := .tuple [.str t.s, .str t.w, .int t.i]
def spToks : Sp := fun vs H Q _ => ∃ (x : Str), vs = [.str x] ∧ x.length ≤ 2 ^ 20 ∧ ∀ (l : Addr) (vs : List V) (H' : Hp), H l = none → H' l = some (.lst vs) → VaL H' vs ((K4.toks (K4.cd x)).map tkD) → Same H H' → Q (.ref l) H'
theorem lex_nil (k i : Nat) (t : Bool) : K4.lexF (k + 1) [] i t = [⟨K4.ov, Str.empty, i⟩] := by
  conv => lhs; unfold K4.lexF
  rw [if_pos rfl]
theorem lex_step {k i : Nat} {t : Bool} {cs : List Nat} (h : cs ≠ []) : K4.lexF (k + 1) cs i t =
    ⟨if (K4.isWord (K4.tokAt cs).2 && t) = true then K4.bd else (K4.tokAt cs).1, (K4.tokAt cs).2, i⟩ :: K4.lexF k (cs.drop ((K4.tokAt cs).2.length + K4.runL K4.gapS (cs.drop (K4.tokAt cs).2.length))) (i + ((K4.tokAt cs).2.length + K4.runL K4.gapS (cs.drop (K4.tokAt cs).2.length)))
      (K4.isWord (K4.tokAt cs).2 && K4.runL K4.gapS (cs.drop (K4.tokAt cs).2.length) == 0) := by
  conv => lhs; unfold K4.lexF
  rw [if_neg h]
theorem isWord_hd {w : Str} {c : Nat} {r : List Nat} (h : K4.cd w = c :: r) : K4.isWord w = decide (c ∈ (K4.letS ++ K4.figS).cps.toList) := by
  unfold K4.isWord
  rw [h]
  have e : (K4.letS ++ K4.figS).cps.toList = K4.cd K4.letS ++ K4.cd K4.figS := K4.cd_app _ _
  show decide (c ∈ K4.cd K4.letS ∨ c ∈ K4.cd K4.figS) = _
  rw [e, Bool.eq_iff_iff, decide_eq_true_iff, decide_eq_true_iff, List.mem_append]
theorem ok_tokens (T : Txt K mg w) : Clb P w K mg base CX0 3 "tokens_of" spToks := by
  have c_run_length := ok_run (P := P) (base := base) T
  have c_token_at := ok_tok (P := P) (base := base) T
  refine T.clb (k := 2) (d := d_tokens_of) m_tokens_of rfl T.g_tokens_of rfl rfl sc_tokens_of bd_tokens_of (fun vs H Q E h => ?_) (fun cdv A outer s H vs Q E hr h => ?_)
  · obtain ⟨x, rfl, _⟩ := h
    rfl
  · obtain ⟨x, rfl, hl, k⟩ := h
    refine ⟨_, (pss_cons (ps_par (i := 1) (j := 2) rfl sc_tokens_of.nd rfl rfl (by decide) rfl rfl (pa_cons (pe_lst pa_nil) (pa_cons (pe_cl c_run_length hr (by first | decide | omega) pass0 (by rfl) (pa_cons (pv 0) (pa_cons pe_int (pa_cons (C8.pe_gc (by rfl) T.v_GAPS) pa_nil)))) pa_nil)) (by rfl))
    (pss_cons (ps_set (i := 3) sc_tokens_of.nd rfl (.inl rfl) pe_bl)
    (pss_cons (ps_while PassesOwn.never (pt_cmpR op_lt (pv 2) (pe_callB call_len (by rfl) T.f_len (by decide +kernel) (pa_cons (pv 0) pa_nil)) (nomark _))
    (pss_cons (ps_asg (pe_cl c_token_at hr (by first | decide | omega) pass0 (by rfl) (pa_cons (pv 0) (pa_cons (pv 2) pa_nil))) (pg_tup rfl (pgs_cons (pg_name (i := 4) sc_tokens_of.nd rfl (.inl rfl)) (pgs_cons (pg_name (i := 5) sc_tokens_of.nd rfl (.inl rfl)) pgs_nil))))
    (pss_cons (ps_set (i := 6) sc_tokens_of.nd rfl (.inl rfl) (pe_cmpR op_in_sign (pe_ix ix_str (pv 5) pe_int (fun _ _ => rfl)) (pe_op op_add_str (C8.pe_gc (by rfl) T.v_LETTERS) (C8.pe_gc (by rfl) T.v_FIGURES)) (by with_unfolding_all rfl)))
    (pss_cons (ps_expr (pe_bm PySem.F.plainAttrs_list PySem.F.slot_list_append PySem.F.type_list_append mt_append (pv 1) (pa_cons (pe_tup (pa_cons (pe_ifExp (PW.pt (pw_and (pt_val (pv 6)) (pw_and1 (pt_val (pv 3))))) (C8.pe_gc (by rfl) T.v_BAD) (pv 4)) (pa_cons (pv 5) (pa_cons (pv 2) pa_nil)))) pa_nil)))
    (pss_cons (ps_set (i := 7) sc_tokens_of.nd rfl (.inl rfl) (pe_cl c_run_length hr (by first | decide | omega) pass0 (by rfl) (pa_cons (pv 0) (pa_cons (pe_op op_add (pv 2) (pe_callB call_len (by rfl) T.f_len (by decide +kernel) (pa_cons (pv 5) pa_nil))) (pa_cons (C8.pe_gc (by rfl) T.v_GAPS) pa_nil)))))
    (pss_cons (ps_set (i := 3) sc_tokens_of.nd rfl (.inl rfl) (pe_and (pv 6) (pe_one (pe_cmpR op_eq (pv 7) pe_int (nomark _)))))
    (pss_one (ps_aug (i := 2) sc_tokens_of.nd rfl (.inl rfl) (pe_op op_add (pe_callB call_len (by rfl) T.f_len (by decide +kernel) (pa_cons (pv 5) pa_nil)) (pv 7)) ip_add))))))))
    (pss_one (ps_ret (pe_op op_cat (pv 1) (pe_lst (pa_cons (pe_tup (pa_cons (C8.pe_gc (by rfl) T.v_OVER) (pa_cons pe_str (pa_cons (pe_callB call_len (by rfl) T.f_len (by decide +kernel) (pa_cons (pv 0) pa_nil)) pa_nil)))) pa_nil)))))))), ?_⟩
    have sL := sL
    obtain ⟨cs, ecs⟩ : ∃ cs, K4.cd x = cs := ⟨_, rfl⟩
    have lcs : cs.length = x.length := by rw [← ecs, K4.cd_len]
    rw [ecs] at k
    have r0 := K4.runL_le K4.gapS cs
    refine ⟨Nat.zero_le _, fun F nF => ?_⟩
    walk_at "rd"
    refine ⟨x, K4.gapS, 0, rfl, Nat.zero_le _, hl, ?_⟩
    rw [ecs, List.drop_zero]
    refine ⟨_, _, rfl, ?_⟩
    refine ⟨fun n σ H1 => ∃ (j : Nat) (t : Bool) (acc : List K4.Tk) (vs : List V) (y4 y5 y6 y7 : Option V), σ = [some (.str x), some (.ref F), some (.int j), some (.bl t), y4, y5, y6, y7] ∧ j ≤ x.length ∧ x.length - j + 1 ≤ n ∧ acc.length ≤ j ∧
      K4.toks cs = acc ++ K4.lexF n (cs.drop j) j t ∧ H1 F = some (.lst vs) ∧ VaL H1 vs (acc.map tkD) ∧ Same H H1, ?_, ?_⟩
    · exact ⟨cs.length + 1, K4.runL K4.gapS cs, false, [], [], _, _, _, _, rfl, by omega, by omega, Nat.zero_le _, rfl, upd_same, .nil, same_new nF⟩
    rintro n σ H1 ⟨j, t, acc, vs, y4, y5, y6, y7, rfl, jl, jn, al, et, atF, va, S1⟩
    obtain ⟨n, rfl⟩ : ∃ n', n = n' + 1 := ⟨n - 1, by omega⟩
    have lv := va.length
    rw [List.length_map] at lv
    walk_at "rd"
    refine ⟨_, x.length, rfl, ⟨by omega, rfl⟩, ?_⟩
    walk_at "rd"
    refine ite2 (fun c => ?_) (fun c => ?_)
    · have c' : j < x.length := by have := of_decide_eq_true c; omega
      have ne : cs.drop j ≠ [] := fun z => by
        have := congrArg List.length z
        rw [List.length_drop] at this
        simp at this
        omega
      obtain ⟨rest, pre, wpos⟩ := K4.tokAt_pre ne
      rw [lex_step ne] at et
      generalize ew : (K4.tokAt (cs.drop j)).2 = wd at et pre wpos
      generalize es : (K4.tokAt (cs.drop j)).1 = sr at et
      have wl : wd.length ≤ x.length - j := by
        have := congrArg List.length pre
        rw [List.length_drop, List.length_append, K4.cd_len] at this
        omega
      obtain ⟨c0, r0, ec0⟩ : ∃ c0 r0, K4.cd wd = c0 :: r0 := by
        cases e : K4.cd wd with
        | nil =>
          have := congrArg List.length e
          rw [K4.cd_len] at this
          simp at this
          omega
        | cons c0 r0 => exact ⟨c0, r0, rfl⟩
      have iw := isWord_hd ec0
      have gl := K4.runL_le K4.gapS ((cs.drop j).drop wd.length)
      simp only [List.drop_drop] at et gl
      generalize eg : K4.runL K4.gapS (cs.drop (j + wd.length)) = gp at et gl
      rw [List.length_drop] at gl
      refine ⟨fun σ' H' => ∃ (j : Nat) (t : Bool) (acc : List K4.Tk) (vs : List V) (y4 y5 y6 y7 : Option V), σ' = [some (.str x), some (.ref F), some (.int j), some (.bl t), y4, y5, y6, y7] ∧ j ≤ x.length ∧ x.length - j + 1 ≤ n ∧ acc.length ≤ j ∧
        K4.toks cs = acc ++ K4.lexF n (cs.drop j) j t ∧ H' F = some (.lst vs) ∧ VaL H' vs (acc.map tkD) ∧ Same H H', fun σ' H' h => ⟨n, Nat.lt_succ_self _, h⟩, ?_⟩
      walk_at "rd"
      refine ⟨x, j, rfl, c', hl, fun p H2 atp S2 => ?_⟩
      rw [ecs, es, ew] at atp
      refine ⟨p, _, rfl, st_of atp, rfl, _, _, rfl, _, _, rfl, rfl, ?_⟩
      walk_at "rd"
      refine ⟨wd, 0, c0, rfl, rfl, by omega, atI_nat (j := 0) (by have e := congrArg (fun l : List Nat => l[0]?) ec0; exact e), ?_⟩
      walk_at "rd"
      refine ⟨by decide, ?_⟩
      generalize hb : decide (c0 ∈ (K4.letS ++ K4.figS).cps.toList) = bw at iw
      rw [iw] at et
      have hb2 : decide (c0 ∈ (("abcdefghijklmnopqrstuvwxyz" : Str) ++ "0123456789" : Str).cps.toList) = bw := hb
      walk_at "rd"
      rw [hb2]
      refine ⟨.inl ⟨rfl, _, sq_of (S2 F _ atF)⟩, ?_⟩
      have atF2 := S2 F _ atF
      have lt : vs.length < sizeLine := by omega
      have eb : decide (V.int (gp : Int) = V.int 0) = (gp == 0) := by
        rw [Bool.eq_iff_iff, decide_eq_true_iff, beq_iff_eq]
        exact ⟨fun h => by have := V.int.inj h; omega, fun h => by rw [h]; rfl⟩
      have et2 := et.trans (List.append_assoc acc [_] _).symm
      cases bw <;> cases t <;> (
        walk_at "rd"
        refine ⟨sz rfl, fun q nq => ?_⟩
        refine ⟨F, vs, _, rfl, rfl, at_new atF2 nq, lt, ?_⟩
        walk_at "rd"
        refine ⟨_, wd.length, rfl, ⟨by omega, rfl⟩, ?_⟩
        walk_at "rd"
        refine ⟨x, K4.gapS, j + wd.length, rfl, by omega, hl, ?_⟩
        rw [ecs, eg]
        walk_at "rd"
        refine ⟨_, wd.length, rfl, ⟨by omega, rfl⟩, ?_⟩
        walk_at "rd"
        refine ⟨j + (wd.length + gp), _, _, vs ++ [.ref q], _, _, _, _, rfl, by omega, by omega, ?_, (by first | exact et2 | (rw [eb]; exact et2)), upd_same, ?_, Same.own ((S1.trans S2).trans (same_new nq)) nF⟩
        · rw [List.length_append]
          show acc.length + 1 ≤ _
          omega
        · rw [List.map_append]
          exact (((va.keep (Tp.of S2)).new nq).app (.cons (va_new nq (.cons (.str _) (.cons (.str _) (.cons (.int _) .nil)))) .nil)).keep (Tp.upd (lst_notup (at_new atF2 nq))))
    · have c' : j = x.length := by
        have : ¬ ((j : Int) < x.length) := fun z => c (decide_eq_true z)
        omega
      have e0 : cs.drop j = [] := List.drop_of_length_le (by omega)
      rw [e0, lex_nil] at et
      walk_at "rd"
      refine ⟨_, x.length, rfl, ⟨by omega, rfl⟩, sz rfl, fun q nq => ⟨sz rfl, fun r nr => ?_⟩⟩
      refine ⟨F, r, _, _, rfl, rfl, at_new (at_new atF nq) nr, upd_same, ?_, fun l nl => ?_⟩
      · show vs.length + 1 ≤ _
        omega
      · refine k l _ _ (((S1.trans (same_new nq)).trans (same_new nr)).free nl) upd_same ?_ (((S1.trans (same_new nq)).trans (same_new nr)).trans (same_new nl))
        rw [et, List.map_append]
        refine VaL.new (VaL.new ((va.new nq).app (.cons (va_new nq ?_) .nil)) nr) nl
        rw [c']
        exact .cons (.str _) (.cons (.str _) (.cons (.int _) .nil))
end
end W4
set_option Elab.async false
set_option linter.all false
set_option maxRecDepth 100000
set_option maxHeartbeats 4000000
set_option pp.maxSteps 400
namespace W4
open PySem PySem.Spec PyProof.Rows L2
local macro_rules | `(tactic| walk_at "rd") => `(tactic| repeat (first | refine ⟨_, rfl, ?_⟩ | refine ⟨_, _, rfl, rfl, ?_⟩ | refine ⟨rfl, _, rfl, ?_⟩))
abbrev N_BadText_init : List Str := ["self", "at"]
abbrev P_BadText_init : List Str := ["self", "at"]
theorem sc_BadText_init : FnScope N_BadText_init P_BadText_init (defScope s_BadText_init) := ⟨rfl, rfl, rfl, by decide +kernel, rfl, by decide +kernel, by decide +kernel⟩
theorem bd_BadText_init (kV doc pm : Value) (an : Option Addr) (cdv ct : Value) (us : List Value) (hl : us.length = P_BadText_init.length) : bindArgs (PySem.W.fnOf d_BadText_init.name d_BadText_init.qual d_BadText_init.params d_BadText_init.body d_BadText_init.scope .none kV doc pm an cdv ct) ⟨us, []⟩ = pure (P_BadText_init.zip us) := match us, hl with | [_, _], _ => rfl
abbrev N_Reader_next_sort : List Str := ["self"]
abbrev P_Reader_next_sort : List Str := ["self"]
theorem sc_Reader_next_sort : FnScope N_Reader_next_sort P_Reader_next_sort (defScope s_Reader_next_sort) := ⟨rfl, rfl, rfl, by decide +kernel, rfl, by decide +kernel, by decide +kernel⟩
theorem bd_Reader_next_sort (kV doc pm : Value) (an : Option Addr) (cdv ct : Value) (us : List Value) (hl : us.length = P_Reader_next_sort.length) : bindArgs (PySem.W.fnOf d_Reader_next_sort.name d_Reader_next_sort.qual d_Reader_next_sort.params d_Reader_next_sort.body d_Reader_next_sort.scope .none kV doc pm an cdv ct) ⟨us, []⟩ = pure (P_Reader_next_sort.zip us) := match us, hl with | [_], _ => rfl
abbrev N_Reader_fail : List Str := ["self"]
abbrev P_Reader_fail : List Str := ["self"]
theorem sc_Reader_fail : FnScope N_Reader_fail P_Reader_fail (defScope s_Reader_fail) := ⟨rfl, rfl, rfl, by decide +kernel, rfl, by decide +kernel, by decide +kernel⟩
theorem bd_Reader_fail (kV doc pm : Value) (an : Option Addr) (cdv ct : Value) (us : List Value) (hl : us.length = P_Reader_fail.length) : bindArgs (PySem.W.fnOf d_Reader_fail.name d_Reader_fail.qual d_Reader_fail.params d_Reader_fail.body d_Reader_fail.scope .none kV doc pm an cdv ct) ⟨us, []⟩ = pure (P_Reader_fail.zip us) := match us, hl with | [_], _ => rfl
abbrev N_Reader_take : List Str := ["self", "sort"]
abbrev P_Reader_take : List Str := ["self", "sort"]
theorem sc_Reader_take : FnScope N_Reader_take P_Reader_take (defScope s_Reader_take) := ⟨rfl, rfl, rfl, by decide +kernel, rfl, by decide +kernel, by decide +kernel⟩
theorem bd_Reader_take (kV doc pm : Value) (an : Option Addr) (cdv ct : Value) (us : List Value) (hl : us.length = P_Reader_take.length) : bindArgs (PySem.W.fnOf d_Reader_take.name d_Reader_take.qual d_Reader_take.params d_Reader_take.body d_Reader_take.scope .none kV doc pm an cdv ct) ⟨us, []⟩ = pure (P_Reader_take.zip us) := match us, hl with | [_, _], _ => rfl
abbrev N_Reader_passed : List Str := ["self", "sort", "is_so"]
abbrev P_Reader_passed : List Str := ["self", "sort"]
theorem sc_Reader_passed : FnScope N_Reader_passed P_Reader_passed (defScope s_Reader_passed) := ⟨rfl, rfl, rfl, by decide +kernel, rfl, by decide +kernel, by decide +kernel⟩
theorem bd_Reader_passed (kV doc pm : Value) (an : Option Addr) (cdv ct : Value) (us : List Value) (hl : us.length = P_Reader_passed.length) : bindArgs (PySem.W.fnOf d_Reader_passed.name d_Reader_passed.qual d_Reader_passed.params d_Reader_passed.body d_Reader_passed.scope .none kV doc pm an cdv ct) ⟨us, []⟩ = pure (P_Reader_passed.zip us) := match us, hl with | [_, _], _ => rfl
/-! ### a Reader in the heap -/
theorem kp_ne : ¬ (("own_tokens" : Str) = "own_place") := by decide +kernel
def rf (tl : Addr) (i : Int) : List (Str × V) := putF "own_place" (.int i) (putF "own_tokens" (.ref tl) [])
theorem rf_eq (tl : Addr) (i : Int) : rf tl i = ([("own_tokens", V.ref tl), ("own_place", V.int i)] : List (Str × V)) := by
  show (if ("own_tokens" : Str) = "own_place" then [(("own_tokens" : Str), V.int i)] else (("own_tokens" : Str), V.ref tl) :: putF "own_place" (V.int i) []) = ([("own_tokens", V.ref tl), ("own_place", V.int i)] : List (Str × V))
  rw [if_neg kp_ne]
  all_goals rfl
theorem rf_tok (tl : Addr) (i : Int) : (rf tl i).lookup ("own_tokens" : Str) = some (.ref tl) := by
  unfold rf
  rw [lookup_putF, if_neg kp_ne, lookup_putF, if_pos rfl]
theorem rf_pl (tl : Addr) (i : Int) : (rf tl i).lookup ("own_place" : Str) = some (.int i) := by
  unfold rf
  rw [lookup_putF, if_pos rfl]
theorem rf_no (tl : Addr) (i : Int) {m : Str} (h1 : ¬ m = "own_place") (h2 : ¬ m = "own_tokens") : (rf tl i).lookup m = none := by
  unfold rf
  rw [lookup_putF, if_neg h1, lookup_putF, if_neg h2]
  all_goals rfl
theorem rf_put (tl : Addr) (i j : Int) : putF "own_place" (.int j) (rf tl i) = rf tl j := by
  rw [rf_eq, rf_eq]
  show (if ("own_tokens" : Str) = "own_place" then _ else (("own_tokens" : Str), V.ref tl) :: (if ("own_place" : Str) = "own_place" then [(("own_place" : Str), V.int j)] else _)) = ([("own_tokens", V.ref tl), ("own_place", V.int j)] : List (Str × V))
  rw [if_neg kp_ne, if_pos rfl]
/-- what a token of the lexer is known to be -/
def TkOk (t : K4.Tk) : Prop := t.i ≤ 2 ^ 30 ∧ (t.s = K4.tn → PySem.intText? t.w = some ((K4.numOf t.w : Nat) : Int) ∧ t.w.length ≤ 640) ∧ ∀ d, t.s ∈ K4.levels d → t.w = t.s
/-- the tokens ts are to be read -/
def RdX (K : PySem.W.Frag) (H : Hp) (p tl dx : Addr) (pre ts : List K4.Tk) (vs : List V) : Prop := H p = some (.ins (He.ga K "Reader") dx (rf tl (pre.length : Int))) ∧ H tl = some (.lst vs) ∧ VaL H vs ((pre ++ ts).map tkD) ∧ ts ≠ [] ∧ ts.length ≤ 2 ^ 20 + 10 ∧ ∀ t ∈ ts, TkOk t
def Rd (K : PySem.W.Frag) (H : Hp) (p tl : Addr) (ts : List K4.Tk) : Prop := ∃ (dx : Addr) (pre : List K4.Tk) (vs : List V), RdX K H p tl dx pre ts vs
/-- what a method promises of the mirror's answer r -/
def Res (K : PySem.W.Frag) {α : Type} (r : K4.R α) (f : α → PyData) (p tl : Addr) (H : Hp) (Q : VK) (E : XK) : Prop := match r with
  | .out => False
  | .err i => ∀ (d : Addr) (H' : Hp), H' d = some (.xd [("at", .int (i : Nat))]) → Sm p H H' → E (.ref (He.ga K "BadText")) (some d) H'
  | .ok a ts => ∀ (v : V) (H' : Hp), Va H' v (f a) → Rd K H' p tl ts → Sm p H H' → Q v H'
def spR (K : PySem.W.Frag) {α : Type} (args : List V) (m : K4.PM α) (f : α → PyData) : Sp := fun vs H Q E => ∃ (p tl : Addr) (ts : List K4.Tk), vs = .ref p :: args ∧ Rd K H p tl ts ∧ Res K (m ts) f p tl H Q E
theorem res_call {K : PySem.W.Frag} {α β : Type} {r : K4.R α} {g : α → List K4.Tk → K4.R β} {f : α → PyData} {f' : β → PyData} {p tl : Addr} {H0 H1 : Hp} {Q Qc : VK} {E : XK} (S : Sm p H0 H1) (R : Res K (r.bind g) f' p tl H0 Q E)
    (c : ∀ a ts, r = .ok a ts → Res K (g a ts) f' p tl H0 Q E → ∀ (v : V) (H' : Hp), Va H' v (f a) → Rd K H' p tl ts → Sm p H1 H' → Qc v H') : Res K r f p tl H1 Qc E := by
  cases r with
  | out => exact R.elim
  | err i => exact fun d H' h1 h2 => R d H' h1 (S.trans h2)
  | ok a ts => exact c a ts rfl R
theorem Rd.nt {K : PySem.W.Frag} {H : Hp} {p tl : Addr} {ts : List K4.Tk} (h : Rd K H p tl ts) (xs : List V) : H p ≠ some (.tup xs) := by
  obtain ⟨dx, pre, vs, h1, _⟩ := h
  rw [h1]
  exact fun z => nomatch z
theorem Rd.new {K : PySem.W.Frag} {H : Hp} {p tl q : Addr} {o : HO} {ts : List K4.Tk} (h : Rd K H p tl ts) (n : H q = none) : Rd K (upd H q o) p tl ts := by
  obtain ⟨dx, pre, vs, h1, h2, h3, h4⟩ := h
  exact ⟨dx, pre, vs, at_new h1 n, at_new h2 n, h3.new n, h4⟩
theorem Rd.there {K : PySem.W.Frag} {H : Hp} {p tl : Addr} {ts : List K4.Tk} (h : Rd K H p tl ts) : H p ≠ none := by
  obtain ⟨dx, pre, vs, h1, _⟩ := h
  rw [h1]
  exact fun z => nomatch z
section
variable {P : Program} {w : World} {K : PySem.W.Frag} {mg : Str → Option Value} {base : Heap}
structure spNext (K : PySem.W.Frag) (vs : List V) (H : Hp) (Q : VK) (E : XK) : Prop where
  ex : ∃ (p tl : Addr) (ts : List K4.Tk), vs = [.ref p] ∧ Rd K H p tl ts ∧ Q (.str (K4.hd ts)) H
/-- the token that is read next -/
theorem rd_tok {H : Hp} {p tl dx : Addr} {pre ts : List K4.Tk} {vs : List V} (h : RdX K H p tl dx pre ts vs) : ∃ (t : K4.Tk) (r : List K4.Tk) (q : Addr), ts = t :: r ∧ atI vs (pre.length : Int) = some (.ref q) ∧ H q = some (.tup [.str t.s, .str t.w, .int t.i]) := by
  obtain ⟨h1, h2, h3, h4, h5⟩ := h
  cases ts with
  | nil => exact absurd rfl h4
  | cons t r =>
    have lv := h3.length
    rw [List.length_map, List.length_append, List.length_cons] at lv
    have hi : pre.length < vs.length := by omega
    obtain ⟨d, hd, hv⟩ := h3.get (List.getElem?_eq_getElem hi)
    have e : ((pre ++ t :: r).map tkD)[pre.length]? = some (tkD t) := by
      rw [List.getElem?_map, List.getElem?_append_right (Nat.le_refl _), Nat.sub_self]
      rfl
    rw [e] at hd
    cases hd
    obtain ⟨q, xs, eq, at_, va⟩ := hv.tup_inv
    obtain ⟨x1, y1, rfl, g1, v1⟩ := va.cons_inv
    obtain ⟨x2, y2, rfl, g2, v2⟩ := v1.cons_inv
    obtain ⟨x3, y3, rfl, g3, v3⟩ := v2.cons_inv
    obtain rfl := v3.nil_inv
    obtain rfl := g1.str_inv
    obtain rfl := g2.str_inv
    obtain rfl := g3.int_inv
    exact ⟨t, r, q, rfl, atI_nat (by rw [List.getElem?_eq_getElem hi, eq]), at_⟩
theorem ok_next (T : Txt K mg w) : Mth P w K mg base CX0 1 "next_sort" (spNext K) := by
  refine T.mth (d := d_Reader_next_sort) m_Reader_next_sort rfl T.me_next_sort rfl rfl sc_Reader_next_sort bd_Reader_next_sort T.cR (fun vs H Q E h => ?_) (fun cdv A outer s H vs Q E hr h => ?_)
  · obtain ⟨p, tl, ts, rfl, _⟩ := h
    rfl
  · obtain ⟨p, tl, ts, rfl, ⟨dx, pre, vs, rd⟩, k⟩ := h
    refine ⟨_, (pss_one (ps_ret (pe_ix ix_tup (pe_ix ix_list (pe_fld (pv 0) rfl) (pe_fld (pv 0) rfl) (fun _ _ => rfl)) pe_int (fun _ _ => rfl)))), ?_⟩
    obtain ⟨t, r, q, rfl, ha, hq⟩ := rd_tok rd
    walk_at "rd"
    refine ⟨p, _, _, _, _, rfl, rd.1, T.cR, T.na_own_tokens, rf_tok _ _, ?_⟩
    walk_at "rd"
    refine ⟨p, _, _, _, _, rfl, rd.1, T.cR, T.na_own_place, rf_pl _ _, ?_⟩
    refine ⟨tl, vs, _, _, rfl, rfl, sq_of rd.2.1, ha, ?_⟩
    walk_at "rd"
    exact ⟨q, _, 0, _, rfl, rfl, st_of hq, atI_nat (j := 0) rfl, k⟩
/-! ### BadText -/
def spBt (K : PySem.W.Frag) : Sp := fun vs H Q _ => ∃ (a : Addr) (i : Nat), vs = [.ref a, .int i] ∧ H a = some (exo a (He.ga K "BadText") none) ∧ i ≤ 2 ^ 30 ∧
  ∀ dx, H dx = none → dx ≠ a → Q .non (upd (upd H dx (exd dx [("at", .int i)])) a (exo a (He.ga K "BadText") (some dx)))
structure MkB (P : Program) (w : World) (K : PySem.W.Frag) (mg : Str → Option Value) (base : Heap) : Prop where
  ex : ∃ (fI : Addr) (fd : FuncData) (ps : List Str), OexC K (He.ga K "BadText") ∧ PySem.W.findIn K (.ref (He.ga K "BadText")) "__init__" = some (some (.ref fI)) ∧ PySem.W.typeIn K (.ref fI) = some (.type "function") ∧
    FnOk P w K mg base CX0 1 fI fd ps (spBt K) ∧ Binds K fd ps [] ∧ mg "BadText" = some (.ref (He.ga K "BadText"))
theorem log_small {i : Nat} (h : i ≤ 2 ^ 30) : ((i : Int)).natAbs.log2 < 1920 := by
  rw [Int.natAbs_natCast]
  by_cases h0 : i = 0
  · rw [h0]
    decide
  · rw [Nat.log2_lt h0]
    refine Nat.lt_of_le_of_lt h ?_
    exact Nat.pow_lt_pow_right (by decide) (by decide)
theorem str_num_len {i : Nat} (h : i ≤ 2 ^ 30) : (Str.ofString (toString (i : Int))).length ≤ 1000 :=
  Nat.le_trans (toString_length_le (Int.natCast_nonneg i) (k := 10) (by decide) (by omega)) (by decide)
theorem ok_bt (T : Txt K mg w) : MkB P w K mg base := by
  obtain ⟨fd, F⟩ := T.funD (d := d_BadText_init) m_BadText_init rfl rfl
  refine ⟨He.ma K (He.ga K "BadText") "__init__", fd, P_BadText_init, T.mor.ox, T.mor.ini, T.mor.inf, ?_, F.bindsN bd_BadText_init, T.g_BadText⟩
  refine F.ok (k := 0) sc_BadText_init (fun vs H Q E h => ?_) (fun cdv A outer s H vs Q E hr h => ?_)
  · obtain ⟨a, i, rfl, _⟩ := h
    rfl
  · obtain ⟨a, i, rfl, ha, hi, k⟩ := h
    suffices h : ∃ t, PSs (cxOf CX0 P w K mg base N_BadText_init d_BadText_init.qual d_BadText_init.scope (He.fAd K d_BadText_init.at_) cdv A outer s H E).nox d_BadText_init.body t ∧ t { nx := fun _ H' => Q .non H', rt := Q } (start N_BadText_init [V.ref a, V.int i]) H by
      obtain ⟨t, h1, h2⟩ := h
      exact ⟨t, h1.nox, h2⟩
    refine ⟨_, (pss_cons (ps_expr (pe_veinit (by rfl) T.f_ValueError T.vinit (pa_cons (pv 0) (pa_cons (pe_joined (.cons pe_str (.cons (pe_fmt (pv 1)) (.cons pe_str .nil)))) pa_nil))))
    (pss_one (ps_ost (pv 0) (pv 1)))), ?_⟩
    have sl := str_num_len hi
    have sL := sL
    walk_at "rd"
    refine ⟨sz rfl, ?_⟩
    walk_at "rd"
    have la : ("the text is no program from character " : Str).length ≤ 100 := by decide
    have lb : (" on" : Str).length ≤ 100 := by decide
    have le : (Str.empty).length = 0 := rfl
    refine .inr ⟨_, rfl, log_small hi, _, rfl, ?_, ?_⟩
    · rw [sl_app, sl_app]
      omega
    walk_at "rd"
    refine ⟨?_, ?_⟩
    · rw [sl_app, sl_app, sl_app]
      omega
    refine ⟨a, He.ga K "BadText", _, rfl, (by show 1 ≤ 1000; decide), T.mor.ox, ha, ?_⟩
    walk_at "rd"
    exact ⟨a, He.ga K "BadText", rfl, T.mor.ox, T.noAt, .inl ⟨ha, fun dx nd da => k dx nd da⟩⟩
theorem pmk_bt {X : Cx} {j : Nat} {p pos : Pos} {e : Expr} {es : List Expr} {ta : TA} (c : MkB X.prog X.w X.K X.mg X.base) (hr : Room j X.A) (hj : 2 ≤ j) (hg : Gl X "BadText") (ha : PA X (e :: es) ta)
    (he : starEach (e :: es) X.env = (false, eval e X.env) :: starEach es X.env := by rfl) (hpl : (backTo pos (starEach es X.env)).any (·.1) = false := by rfl) :
    PMk X (.Call (.Name "BadText" p) (e :: es) [] pos) (tMkO (He.ga X.K "BadText") (spBt X.K) [] ta) := by
  obtain ⟨fI, fd, ps, ox, ini, inf, F, b, hm⟩ := c.ex
  exact pmk_oex ox ini inf F (hr.mono hj) b .nil (fun _ _ _ _ _ _ _ z => z.elim) hg hm ha (by decide) he hpl
/-- fail: the next token's place -/
def spFail (K : PySem.W.Frag) : Sp := fun vs H _ E => ∃ (p tl : Addr) (ts : List K4.Tk), vs = [.ref p] ∧ Rd K H p tl ts ∧ ∀ (d : Addr) (H' : Hp), H' d = some (.xd [("at", .int (K4.ix ts : Nat))]) → Sm p H H' → E (.ref (He.ga K "BadText")) (some d) H'
theorem ok_fail (T : Txt K mg w) : Mth P w K mg base (L2.CX P w) 3 "fail" (spFail K) := by
  have c_bt := ok_bt (P := P) (base := base) T
  refine T.mthX (k := 2) (d := d_Reader_fail) m_Reader_fail rfl T.me_fail rfl rfl sc_Reader_fail bd_Reader_fail T.cR (fun vs H Q E h => ?_) (fun cdv A outer s H vs Q E hr h => ?_)
  · obtain ⟨p, tl, ts, rfl, _⟩ := h
    rfl
  · obtain ⟨p, tl, ts, rfl, ⟨dx, pre, vs, rd⟩, k⟩ := h
    refine ⟨_, (pss_one (ps_raise rfl (takes_of rfl rfl rfl rfl) (pmk_bt c_bt hr (by first | decide | omega) (by rfl) (pa_cons (pe_ix ix_tup (pe_ix ix_list (pe_fld (pv 0) rfl) (pe_fld (pv 0) rfl) (fun _ _ => rfl)) pe_int (fun _ _ => rfl)) pa_nil)))), ?_⟩
    obtain ⟨t, r, q, rfl, ha, hq⟩ := rd_tok rd
    walk_at "rd"
    refine ⟨p, _, _, _, _, rfl, rd.1, T.cR, T.na_own_tokens, rf_tok _ _, ?_⟩
    walk_at "rd"
    refine ⟨p, _, _, _, _, rfl, rd.1, T.cR, T.na_own_place, rf_pl _ _, ?_⟩
    refine ⟨tl, vs, _, _, rfl, rfl, sq_of rd.2.1, ha, ?_⟩
    walk_at "rd"
    refine ⟨q, _, 2, _, rfl, rfl, st_of hq, atI_nat (j := 2) rfl, ?_⟩
    refine ⟨(by show 1 ≤ 1000; decide), fun a na => ⟨a, t.i, rfl, upd_same, (rd.2.2.2.2.2 t (List.mem_cons_self ..)).1, fun d nd da => ⟨rfl, d, [("at", V.int (t.i : Nat))], upd_same, ?_, ?_, ?_⟩⟩⟩
    · rw [upd_ne da, upd_same]
    · rw [upd_ne da] at nd
      exact nd
    · rw [upd_ne da] at nd
      refine k d _ upd_same fun b o e hb => ?_
      have bd : b ≠ d := ne_of_none e nd
      have ba : b ≠ a := ne_of_none e na
      rw [upd_ne bd, del_ne ba, upd_ne ba, upd_ne bd, upd_ne ba]
      exact e
end
end W4
set_option Elab.async false
set_option linter.all false
set_option maxRecDepth 100000
set_option maxHeartbeats 4000000
set_option pp.maxSteps 400
namespace W4
open PySem PySem.Spec PyProof.Rows L2
local macro_rules | `(tactic| walk_at "rd") => `(tactic| repeat (first | refine ⟨_, rfl, ?_⟩ | refine ⟨_, _, rfl, rfl, ?_⟩ | refine ⟨rfl, _, rfl, ?_⟩))
abbrev N_Reader_part : List Str := ["self", "kind"]
abbrev P_Reader_part : List Str := ["self", "kind"]
theorem sc_Reader_part : FnScope N_Reader_part P_Reader_part (defScope s_Reader_part) := ⟨rfl, rfl, rfl, by decide +kernel, rfl, by decide +kernel, by decide +kernel⟩
theorem bd_Reader_part (kV doc pm : Value) (an : Option Addr) (cdv ct : Value) (us : List Value) (hl : us.length = P_Reader_part.length) : bindArgs (PySem.W.fnOf d_Reader_part.name d_Reader_part.qual d_Reader_part.params d_Reader_part.body d_Reader_part.scope .none kV doc pm an cdv ct) ⟨us, []⟩ = pure (P_Reader_part.zip us) := match us, hl with | [_, _], _ => rfl
abbrev N_Reader_several : List Str := ["self", "kind", "found"]
abbrev P_Reader_several : List Str := ["self", "kind"]
theorem sc_Reader_several : FnScope N_Reader_several P_Reader_several (defScope s_Reader_several) := ⟨rfl, rfl, rfl, by decide +kernel, rfl, by decide +kernel, by decide +kernel⟩
theorem bd_Reader_several (kV doc pm : Value) (an : Option Addr) (cdv ct : Value) (us : List Value) (hl : us.length = P_Reader_several.length) : bindArgs (PySem.W.fnOf d_Reader_several.name d_Reader_several.qual d_Reader_several.params d_Reader_several.body d_Reader_several.scope .none kV doc pm an cdv ct) ⟨us, []⟩ = pure (P_Reader_several.zip us) := match us, hl with | [_, _], _ => rfl
abbrev N_Reader_init : List Str := ["self", "text"]
abbrev P_Reader_init : List Str := ["self", "text"]
theorem sc_Reader_init : FnScope N_Reader_init P_Reader_init (defScope s_Reader_init) := ⟨rfl, rfl, rfl, by decide +kernel, rfl, by decide +kernel, by decide +kernel⟩
theorem bd_Reader_init (kV doc pm : Value) (an : Option Addr) (cdv ct : Value) (us : List Value) (hl : us.length = P_Reader_init.length) : bindArgs (PySem.W.fnOf d_Reader_init.name d_Reader_init.qual d_Reader_init.params d_Reader_init.body d_Reader_init.scope .none kV doc pm an cdv ct) ⟨us, []⟩ = pure (P_Reader_init.zip us) := match us, hl with | [_, _], _ => rfl
section
variable {P : Program} {w : World} {K : PySem.W.Frag} {mg : Str → Option Value} {base : Heap}
theorem Rd.on {K : PySem.W.Frag} {H : Hp} {p tl dx : Addr} {pre : List K4.Tk} {t t' : K4.Tk} {r : List K4.Tk} {vs : List V} (h : RdX K H p tl dx pre (t :: t' :: r) vs) : RdX K (upd H p (.ins (He.ga K "Reader") dx (rf tl ((pre.length : Int) + 1)))) p tl dx (pre ++ [t]) (t' :: r) vs := by
  obtain ⟨h1, h2, h3, h4, h5⟩ := h
  have n : tl ≠ p := fun e => by rw [e, h1] at h2; exact nomatch h2
  refine ⟨?_, by rw [upd_ne n]; exact h2, ?_, List.cons_ne_nil _ _, Nat.le_trans (Nat.le_succ _) h5.1, fun x m => h5.2 x (List.mem_cons_of_mem _ m)⟩
  · rw [upd_same, List.length_append]
    rfl
  · rw [List.append_assoc]
    exact h3.keep fun b xs e => by
      have n : b ≠ p := fun e' => by rw [e', h1] at e; exact nomatch e
      rw [upd_ne n]
      exact e
theorem Rd.stay {K : PySem.W.Frag} {H : Hp} {p tl dx : Addr} {pre : List K4.Tk} {ts : List K4.Tk} {vs : List V} (h : RdX K H p tl dx pre ts vs) : RdX K (upd H p (.ins (He.ga K "Reader") dx (rf tl ((pre.length : Int) + 0)))) p tl dx pre ts vs := by
  obtain ⟨h1, h2, h3, h4, h5⟩ := h
  have n : tl ≠ p := fun e => by rw [e, h1] at h2; exact nomatch h2
  refine ⟨by rw [upd_same, Int.add_zero], by rw [upd_ne n]; exact h2, ?_, h4, h5⟩
  exact h3.keep fun b xs e => by
    have n : b ≠ p := fun e' => by rw [e', h1] at e; exact nomatch e
    rw [upd_ne n]
    exact e
theorem adv_of {K : PySem.W.Frag} {α : Type} {ts : List K4.Tk} {g : Str → List K4.Tk → K4.R α} {f : α → PyData} {p tl : Addr} {H : Hp} {Q : VK} {E : XK} (R : Res K (K4.adv ts g) f p tl H Q E) : ∃ t t' r, ts = t :: t' :: r ∧ Res K (g t.w (t' :: r)) f p tl H Q E := by
  match ts, R with
  | [], R => exact R.elim
  | [_], R => exact R.elim
  | t :: t' :: r, R => exact ⟨t, t', r, rfl, R⟩
theorem Rd.lt {K : PySem.W.Frag} {H : Hp} {p tl : Addr} {ts : List K4.Tk} (h : Rd K H p tl ts) : ts.length ≤ 2 ^ 20 + 10 := by
  obtain ⟨dx, pre, vs, h1, h2, h3, h4, h5, _⟩ := h
  exact h5
/-- take -/
structure spTk (K : PySem.W.Frag) (vs : List V) (H : Hp) (Q : VK) (E : XK) : Prop where
  ex : ∃ s : Str, spR K [.str s] (K4.take s) PyData.str vs H Q E
theorem hx_of {N : List Str} {q : Str} {sc : PySem.Scope} {ca : Addr} {cdv : Value} {A : Around} {outer : List Env} {s : Shared} {H : Hp} {E : XK} : Passes (L2.CX P w) (cxOf (L2.CX P w) P w K mg base N q sc ca cdv A outer s H E) E := passes_call (takes_of rfl rfl rfl rfl) fun _ _ _ _ h => h
theorem eq_t {a b : Str} (e : a = b) : V.bl (decide (V.str a = V.str b)) = V.bl true := by rw [decide_eq_true (by rw [e])]
theorem eq_f {a b : Str} (e : ¬ a = b) : V.bl (decide (V.str a = V.str b)) = V.bl false := by rw [decide_eq_false (fun h => e (V.str.inj h))]
theorem ne_f {a b : Str} (e : a = b) : V.bl (!decide (V.str a = V.str b)) = V.bl false := by rw [decide_eq_true (by rw [e])] <;> rfl
theorem ne_t {a b : Str} (e : ¬ a = b) : V.bl (!decide (V.str a = V.str b)) = V.bl true := by rw [decide_eq_false (fun h => e (V.str.inj h))] <;> rfl
theorem rf_len (tl : Addr) (i : Int) : (rf tl i).length < 1000 := by
  rw [rf_eq]
  show 2 < 1000
  decide
theorem ok_rtake (T : Txt K mg w) : Mth P w K mg base (L2.CX P w) 4 "take" (spTk K) := by
  have c_Reader_next_sort := ok_next (P := P) (base := base) T
  have c_Reader_fail := ok_fail (P := P) (base := base) T
  refine T.mthX (k := 3) (d := d_Reader_take) m_Reader_take rfl T.me_take rfl rfl sc_Reader_take bd_Reader_take T.cR (fun vs H Q E h => ?_) (fun cdv A outer s H vs Q E hr h => ?_)
  · obtain ⟨s, p, tl, ts, rfl, _⟩ := h
    rfl
  · obtain ⟨so, p, tl, ts, rfl, rdd, k⟩ := h
    refine ⟨_, (pss_cons (ps_if (pt_cmpR op_ne (pe_ml0 c_Reader_next_sort hr (by first | decide | omega) pass0 (pv 0)) (pv 1) (nomark _))
    (pss_one (ps_expr (pe_ml0 c_Reader_fail hr (by first | decide | omega) hx_of (pv 0))))
    pss_nil)
    (pss_cons (ps_fldaug (pv 0) pe_int in_add)
    (pss_one (ps_ret (pe_ix ix_tup (pe_ix ix_list (pe_fld (pv 0) rfl) (pe_op op_sub (pe_fld (pv 0) rfl) pe_int) (fun _ _ => rfl)) pe_int (fun _ _ => rfl)))))), ?_⟩
    obtain ⟨dx, pre, vs, rd⟩ := id rdd
    obtain ⟨t, r, q, rfl, ha, hq⟩ := rd_tok rd
    walk_at "rd"
    refine ⟨p, _, _, rfl, rd.1, rf_no _ _ (by decide +kernel) (by decide +kernel), p, _, _, rfl, rdd, ?_⟩
    refine ⟨_, rfl, ?_⟩
    unfold K4.take at k
    by_cases e : t.s = so
    · rw [if_pos (show K4.hd (t :: r) = so from e)] at k
      refine ⟨rfl, false, ne_f e, ?_⟩
      cases r with
      | nil => exact k.elim
      | cons t' r =>
        walk_at "rd"
        refine ⟨p, _, _, _, _, rfl, rd.1, T.cR, T.na_own_place, rf_pl _ _, ?_⟩
        walk_at "rd"
        refine ⟨dx, rf tl _, rd.1, rf_len _ _, ?_⟩
        rw [rf_put]
        have rd2 := Rd.on rd
        walk_at "rd"
        refine ⟨p, _, _, _, _, rfl, upd_same, T.cR, T.na_own_tokens, rf_tok _ _, ?_⟩
        walk_at "rd"
        refine ⟨p, _, _, _, _, rfl, upd_same, T.cR, T.na_own_place, rf_pl _ _, ?_⟩
        walk_at "rd"
        refine ⟨tl, vs, (pre.length : Int), _, rfl, congrArg V.int (by omega), sq_of rd2.2.1, ha, ?_⟩
        walk_at "rd"
        have qp : q ≠ p := fun e => by rw [e, rd.1] at hq; exact nomatch hq
        refine ⟨q, _, 1, _, rfl, rfl, st_of (by rw [upd_ne qp]; exact hq), atI_nat (j := 1) rfl, ?_⟩
        refine k _ _ (.str _) ⟨dx, pre ++ [t], vs, ?_⟩ Sm.at
        exact rd2
    · rw [if_neg (show ¬ K4.hd (t :: r) = so from e)] at k
      refine ⟨rfl, true, ne_t e, ?_⟩
      walk_at "rd"
      refine ⟨p, _, _, rfl, rd.1, rf_no _ _ (by decide +kernel) (by decide +kernel), p, _, _, rfl, rdd, k⟩
/-- passed -/
structure spPs (K : PySem.W.Frag) (vs : List V) (H : Hp) (Q : VK) (E : XK) : Prop where
  ex : ∃ (p tl : Addr) (so : Str) (ts : List K4.Tk), vs = [.ref p, .str so] ∧ Rd K H p tl ts ∧ (if K4.hd ts = so then (∃ t t' r, ts = t :: t' :: r ∧ ∀ H', Rd K H' p tl (t' :: r) → Sm p H H' → Q (.bl true) H') else ∀ H', Rd K H' p tl ts → Sm p H H' → Q (.bl false) H')
theorem ok_passed (T : Txt K mg w) : Mth P w K mg base CX0 2 "passed" (spPs K) := by
  have c_Reader_next_sort := ok_next (P := P) (base := base) T
  refine T.mth (k := 1) (d := d_Reader_passed) m_Reader_passed rfl T.me_passed rfl rfl sc_Reader_passed bd_Reader_passed T.cR (fun vs H Q E h => ?_) (fun cdv A outer s H vs Q E hr h => ?_)
  · obtain ⟨p, tl, so, ts, rfl, _⟩ := h
    rfl
  · obtain ⟨p, tl, so, ts, rfl, rdd, k⟩ := h
    refine ⟨_, (pss_cons (ps_set (i := 2) sc_Reader_passed.nd rfl (.inl rfl) (pe_cmpR op_eq (pe_ml0 c_Reader_next_sort hr (by first | decide | omega) pass0 (pv 0)) (pv 1) (nomark _)))
    (pss_cons (ps_fldaug (pv 0) (pe_callTy call_int1 (by rfl) T.f_int (by decide +kernel) (pa_cons (pv 2) pa_nil)) in_add)
    (pss_one (ps_ret (pv 2))))), ?_⟩
    obtain ⟨dx, pre, vs, rd⟩ := id rdd
    walk_at "rd"
    refine ⟨p, _, _, rfl, rd.1, rf_no _ _ (by decide +kernel) (by decide +kernel), p, _, _, rfl, rdd, ?_⟩
    refine ⟨_, rfl, ?_⟩
    by_cases e : K4.hd ts = so
    · rw [if_pos e] at k
      obtain ⟨t, t', r, rfl, k⟩ := k
      refine ⟨rfl, ?_⟩
      rw [eq_t e]
      walk_at "rd"
      refine ⟨p, _, _, _, _, rfl, rd.1, T.cR, T.na_own_place, rf_pl _ _, ?_⟩
      walk_at "rd"
      refine .inr ⟨true, rfl, ?_⟩
      walk_at "rd"
      refine ⟨dx, rf tl _, rd.1, rf_len _ _, ?_⟩
      rw [rf_put]
      walk_at "rd"
      exact k _ ⟨dx, pre ++ [t], vs, Rd.on rd⟩ Sm.at
    · rw [if_neg e] at k
      refine ⟨rfl, ?_⟩
      rw [eq_f e]
      walk_at "rd"
      refine ⟨p, _, _, _, _, rfl, rd.1, T.cR, T.na_own_place, rf_pl _ _, ?_⟩
      walk_at "rd"
      refine .inr ⟨false, rfl, ?_⟩
      walk_at "rd"
      refine ⟨dx, rf tl _, rd.1, rf_len _ _, ?_⟩
      rw [rf_put]
      walk_at "rd"
      exact k _ ⟨dx, pre, vs, Rd.stay rd⟩ Sm.at
end
end W4
set_option Elab.async false
set_option linter.all false
set_option maxRecDepth 100000
set_option maxHeartbeats 4000000
set_option pp.maxSteps 400
namespace W4
open PySem PySem.Spec PyProof.Rows L2
local macro_rules | `(tactic| walk_at "rd") => `(tactic| repeat (first | refine ⟨_, rfl, ?_⟩ | refine ⟨_, _, rfl, rfl, ?_⟩ | refine ⟨rfl, _, rfl, ?_⟩))
section
variable {P : Program} {w : World} {K : PySem.W.Frag} {mg : Str → Option Value} {base : Heap}
theorem Rd.go {H : Hp} {p tl : Addr} {ts : List K4.Tk} {m : Str} {B : Prop} (h : Rd K H p tl ts) (h1 : ¬ m = "own_place") (h2 : ¬ m = "own_tokens") (q : B) : ∃ (a dx : Addr) (fs : List (Str × V)), V.ref p = .ref a ∧ H a = some (.ins (He.ga K "Reader") dx fs) ∧ fs.lookup m = none ∧ B := by
  obtain ⟨dx, pre, vs, h, _⟩ := h
  exact ⟨p, dx, _, rfl, h, rf_no _ _ h1 h2, q⟩
theorem Rd.ne {H : Hp} {p tl F : Addr} {ts : List K4.Tk} (h : Rd K H p tl ts) (n : H F = none) : F ≠ p := fun e => h.there (by rw [← e]; exact n)
theorem Rd.nel {H : Hp} {p tl F : Addr} {ts : List K4.Tk} (h : Rd K H p tl ts) (n : H F = none) : F ≠ tl := fun e => by
  obtain ⟨dx, pre, vs, _, h, _⟩ := h
  rw [← e, n] at h
  exact nomatch h
/-- another list is changed -/
theorem Rd.lst {H : Hp} {p tl F : Addr} {ts : List K4.Tk} {xs ys : List V} (h : Rd K H p tl ts) (hF : H F = some (.lst xs)) (np : F ≠ p) (nt : F ≠ tl) : Rd K (upd H F (.lst ys)) p tl ts := by
  obtain ⟨dx, pre, vs, h1, h2, h3, h4⟩ := h
  refine ⟨dx, pre, vs, by rw [upd_ne (Ne.symm np)]; exact h1, by rw [upd_ne (Ne.symm nt)]; exact h2, h3.keep fun b xs e => ?_, h4⟩
  have n : b ≠ F := fun z => by rw [z, hF] at e; exact nomatch e
  rw [upd_ne n]
  exact e
theorem VaL.lst {H : Hp} {F : Addr} {vs : List V} {ds : List PyData} {xs ys : List V} (h : VaL H vs ds) (hF : H F = some (.lst xs)) : VaL (upd H F (.lst ys)) vs ds := h.keep fun b xs e => by
  have n : b ≠ F := fun z => by rw [z, hF] at e; exact nomatch e
  rw [upd_ne n]
  exact e
theorem VaL.sm {H H' : Hp} {p tl : Addr} {ts : List K4.Tk} {vs : List V} {ds : List PyData} (h : VaL H vs ds) (S : Sm p H H') (rd : Rd K H p tl ts) : VaL H' vs ds := h.keep (S.tp fun xs => rd.nt xs)
theorem adv_bind {α β : Type} (ts : List K4.Tk) (g : Str → List K4.Tk → K4.R α) (h : α → List K4.Tk → K4.R β) : (K4.adv ts g).bind h = K4.adv ts fun w r => (g w r).bind h := by
  match ts with
  | [] => rfl
  | [_] => rfl
  | _ :: _ :: _ => rfl
theorem bind_bind {α β γ : Type} (r : K4.R α) (g : α → List K4.Tk → K4.R β) (h : β → List K4.Tk → K4.R γ) : (r.bind g).bind h = r.bind fun a ts => (g a ts).bind h := by
  cases r <;> rfl
/-- several of what `part kind` reads -/
structure spSevG (spp : Sp) (K : PySem.W.Frag) (vs : List V) (H : Hp) (Q : VK) (E : XK) : Prop where
  ex : ∃ (kind : Str) (α : Type) (m : K4.PM α) (f : α → PyData), (∀ vs H Q E, spR K [.str kind] m f vs H Q E → spp vs H Q E) ∧ spR K [.str kind] (K4.several m) (fun as => .tuple (as.map f)) vs H Q E
theorem ok_several (T : Txt K mg w) {k : Nat} (hk : 4 ≤ k) {spp : Sp} (c_Reader_part : Mth P w K mg base (L2.CX P w) k "part" spp) : Mth P w K mg base (L2.CX P w) (k + 1) "several" (spSevG spp K) := by
  have c_Reader_take := ok_rtake (P := P) (base := base) T
  have c_Reader_passed := ok_passed (P := P) (base := base) T
  refine T.mthX (k := k) (d := d_Reader_several) m_Reader_several rfl T.me_several rfl rfl sc_Reader_several bd_Reader_several T.cR (fun vs H Q E h => ?_) (fun cdv A outer s H vs Q E hr h => ?_)
  · obtain ⟨kind, α, m, f, hm, p, tl, ts, rfl, _⟩ := h
    rfl
  · obtain ⟨kind, α, m, f, hm, p, tl, ts, rfl, rd, k⟩ := h
    refine ⟨_, (pss_cons (ps_expr (pe_ml c_Reader_take hr (by first | decide | omega) hx_of (pv 0) (pa_cons pe_str pa_nil)))
    (pss_cons (ps_set (i := 2) sc_Reader_several.nd rfl (.inl rfl) (pe_lst pa_nil))
    (pss_cons (ps_if (pt_not (pt_val (pe_ml c_Reader_passed hr (by first | decide | omega) pass0 (pv 0) (pa_cons pe_str pa_nil))))
    (pss_cons (ps_expr (pe_bm PySem.F.plainAttrs_list PySem.F.slot_list_append PySem.F.type_list_append mt_append (pv 2) (pa_cons (pe_ml c_Reader_part hr (by first | decide | omega) hx_of (pv 0) (pa_cons (pv 1) pa_nil)) pa_nil)))
    (pss_cons (ps_while (passes_of rfl) (pt_val (pe_ml c_Reader_passed hr (by first | decide | omega) pass0 (pv 0) (pa_cons pe_str pa_nil)))
    (pss_one (ps_expr (pe_bm PySem.F.plainAttrs_list PySem.F.slot_list_append PySem.F.type_list_append mt_append (pv 2) (pa_cons (pe_ml c_Reader_part hr (by first | decide | omega) hx_of (pv 0) (pa_cons (pv 1) pa_nil)) pa_nil)))))
    (pss_one (ps_expr (pe_ml c_Reader_take hr (by first | decide | omega) hx_of (pv 0) (pa_cons pe_str pa_nil))))))
    pss_nil)
    (pss_one (ps_ret (pe_callTy call_tuple_of (by rfl) T.f_tuple (by decide +kernel) (pa_cons (pv 2) pa_nil))))))), ?_⟩
    walk_at "rd"
    refine rd.go (by decide +kernel) (by decide +kernel) ?_
    walk_at "rd"
    refine ⟨_, p, tl, ts, rfl, rd, ?_⟩
    refine res_call (Sm.refl _ _) k fun _ ts1 _ k _ H1 _ rd1 S1 => ?_
    refine ⟨Nat.zero_le _, fun F nF => ?_⟩
    have Fp := rd1.ne nF
    have Ft := rd1.nel nF
    have nF0 := S1.free nF rd.there rd1.there
    replace rd1 := rd1.new (o := .lst []) nF
    replace S1 := S1.upd_new (o := .lst []) nF
    walk_at "rd"
    refine rd1.go (by decide +kernel) (by decide +kernel) ?_
    walk_at "rd"
    refine ⟨p, tl, _, ts1, rfl, rd1, ?_⟩
    by_cases e : K4.hd ts1 = ")"
    · rw [if_pos e] at k ⊢
      obtain ⟨t, t', r, rfl, k⟩ := adv_of k
      refine ⟨t, t', r, rfl, fun H2 rd2 S2 => ?_⟩
      walk_at "rd"
      refine ⟨F, [], rfl, .inl ⟨sq_of (S2 F _ upd_same Fp), fun l nl => ?_⟩⟩
      refine k _ _ (.tup upd_same .nil) (rd2.new nl) ((S1.trans S2).upd_new nl)
    · rw [if_neg e] at k ⊢
      refine fun H2 rd2 S2 => ?_
      have F2 := S2 F _ upd_same Fp
      walk_at "rd"
      refine ⟨.inl ⟨rfl, _, sq_of F2⟩, ?_⟩
      walk_at "rd"
      refine rd2.go (by decide +kernel) (by decide +kernel) ?_
      walk_at "rd"
      refine hm _ _ _ _ ⟨p, tl, ts1, rfl, rd2, ?_⟩
      refine res_call (S1.trans S2) k fun a ts2 _ k v H3 hv rd3 S3 => ?_
      have F3 := S3 F _ F2 Fp
      refine ⟨F, [], v, rfl, rfl, F3, (by decide), ?_⟩
      refine ⟨fun j σ H4 => ∃ acc ts3 vs, σ = [some (.ref p), some (.str kind), some (.ref F)] ∧ H4 F = some (.lst vs) ∧ VaL H4 vs (acc.map f) ∧ acc.length + j ≤ 2 ^ 20 + 12 ∧ Rd K H4 p tl ts3 ∧ Sm p H H4 ∧ Res K ((K4.sepLoop m j acc ts3).bind fun as ts3 => (K4.take ")" ts3).bind fun _ ts4 => .ok as ts4) (fun as => .tuple (as.map f)) p tl H Q E, ?_, ?_⟩
      · have l3 := rd3.lt
        exact ⟨ts2.length + 1, [a], ts2, [v], rfl, upd_same, (VaL.cons hv .nil).lst F3, (by show 1 + (ts2.length + 1) ≤ _; omega), rd3.lst F3 Fp Ft, ((S1.trans S2).trans S3).own nF0, k⟩
      · rintro j σ H4 ⟨acc, ts3, vs, rfl, F4, va, lj, rd4, S4, k⟩
        cases j with
        | zero => exact k.elim
        | succ j =>
          walk_at "rd"
          refine rd4.go (by decide +kernel) (by decide +kernel) ?_
          walk_at "rd"
          refine ⟨p, tl, _, ts3, rfl, rd4, ?_⟩
          unfold K4.sepLoop at k
          by_cases e : K4.hd ts3 = ","
          · rw [if_pos e, adv_bind] at k
            rw [if_pos e]
            obtain ⟨t, t', r, et, k2⟩ := adv_of k
            clear k
            subst et
            rw [bind_bind] at k2
            refine ⟨t, t', r, rfl, fun H5 rd5 S5 => ?_⟩
            have F5 := S5 F _ F4 Fp
            have va5 := va.sm S5 rd4
            walk_at "rd"
            refine ⟨fun σ' H' => ∃ acc ts3 vs, σ' = [some (.ref p), some (.str kind), some (.ref F)] ∧ H' F = some (.lst vs) ∧ VaL H' vs (acc.map f) ∧ acc.length + j ≤ 2 ^ 20 + 12 ∧ Rd K H' p tl ts3 ∧ Sm p H H' ∧ Res K ((K4.sepLoop m j acc ts3).bind fun as ts3 => (K4.take ")" ts3).bind fun _ ts4 => .ok as ts4) (fun as => .tuple (as.map f)) p tl H Q E, fun σ' H' h => ⟨j, Nat.lt_succ_self _, h⟩, ?_⟩
            walk_at "rd"
            refine ⟨.inl ⟨rfl, _, sq_of F5⟩, ?_⟩
            walk_at "rd"
            refine rd5.go (by decide +kernel) (by decide +kernel) ?_
            walk_at "rd"
            refine hm _ _ _ _ ⟨p, tl, _, rfl, rd5, ?_⟩
            refine res_call (S4.trans S5) k2 fun a2 ts6 _ k v2 H6 hv2 rd6 S6 => ?_
            have F6 := S6 F _ F5 Fp
            have lv := va.length
            rw [List.length_map] at lv
            refine ⟨F, vs, v2, rfl, rfl, F6, (by rw [lv]; have := sL; omega), ?_⟩
            refine ⟨acc ++ [a2], ts6, vs ++ [v2], rfl, upd_same, ?_, ?_, rd6.lst F6 Fp Ft, ((S4.trans S5).trans S6).own nF0, k⟩
            · rw [List.map_append]
              exact ((va5.sm S6 rd5).app (.cons hv2 .nil)).lst F6
            · rw [List.length_append]
              show acc.length + 1 + j ≤ _
              omega
          · rw [if_neg e] at k ⊢
            refine fun H5 rd5 S5 => ?_
            have F5 := S5 F _ F4 Fp
            have va5 := va.sm S5 rd4
            walk_at "rd"
            refine rd5.go (by decide +kernel) (by decide +kernel) ?_
            walk_at "rd"
            refine ⟨_, p, tl, _, rfl, rd5, ?_⟩
            refine res_call (S4.trans S5) k fun a2 ts6 _ k v2 H6 hv2 rd6 S6 => ?_
            have F6 := S6 F _ F5 Fp
            walk_at "rd"
            refine ⟨F, vs, rfl, .inl ⟨sq_of F6, fun l nl => ?_⟩⟩
            exact k _ _ (.tup upd_same ((va5.sm S6 rd5).new nl)) (rd6.new nl) (((S4.trans S5).trans S6).upd_new nl)
end
end W4
set_option Elab.async false
set_option linter.all false
set_option maxRecDepth 100000
set_option maxHeartbeats 4000000
set_option pp.maxSteps 400
namespace W4
open PySem PySem.Spec PyProof.Rows L2
local macro_rules | `(tactic| walk_at "rd") => `(tactic| repeat (first | refine ⟨_, rfl, ?_⟩ | refine ⟨_, _, rfl, rfl, ?_⟩ | refine ⟨rfl, _, rfl, ?_⟩))
local macro_rules | `(tactic| walk_at "mt") => `(tactic| (refine Rd.go (by assumption) (by decide +kernel) (by decide +kernel) ?_; repeat (first | refine ⟨_, rfl, ?_⟩ | refine ⟨_, _, rfl, rfl, ?_⟩ | refine ⟨rfl, _, rfl, ?_⟩)))
abbrev N_Reader_level : List Str := ["self", "depth", "found", "is_open", "sign"]
abbrev P_Reader_level : List Str := ["self", "depth"]
theorem sc_Reader_level : FnScope N_Reader_level P_Reader_level (defScope s_Reader_level) := ⟨rfl, rfl, rfl, by decide +kernel, rfl, by decide +kernel, by decide +kernel⟩
theorem bd_Reader_level (kV doc pm : Value) (an : Option Addr) (cdv ct : Value) (us : List Value) (hl : us.length = P_Reader_level.length) : bindArgs (PySem.W.fnOf d_Reader_level.name d_Reader_level.qual d_Reader_level.params d_Reader_level.body d_Reader_level.scope .none kV doc pm an cdv ct) ⟨us, []⟩ = pure (P_Reader_level.zip us) := match us, hl with | [_, _], _ => rfl
abbrev N_Reader_signed : List Str := ["self", "found"]
abbrev P_Reader_signed : List Str := ["self"]
theorem sc_Reader_signed : FnScope N_Reader_signed P_Reader_signed (defScope s_Reader_signed) := ⟨rfl, rfl, rfl, by decide +kernel, rfl, by decide +kernel, by decide +kernel⟩
theorem bd_Reader_signed (kV doc pm : Value) (an : Option Addr) (cdv ct : Value) (us : List Value) (hl : us.length = P_Reader_signed.length) : bindArgs (PySem.W.fnOf d_Reader_signed.name d_Reader_signed.qual d_Reader_signed.params d_Reader_signed.body d_Reader_signed.scope .none kV doc pm an cdv ct) ⟨us, []⟩ = pure (P_Reader_signed.zip us) := match us, hl with | [_], _ => rfl
abbrev N_Reader_item : List Str := ["self", "name", "found"]
abbrev P_Reader_item : List Str := ["self"]
theorem sc_Reader_item : FnScope N_Reader_item P_Reader_item (defScope s_Reader_item) := ⟨rfl, rfl, rfl, by decide +kernel, rfl, by decide +kernel, by decide +kernel⟩
theorem bd_Reader_item (kV doc pm : Value) (an : Option Addr) (cdv ct : Value) (us : List Value) (hl : us.length = P_Reader_item.length) : bindArgs (PySem.W.fnOf d_Reader_item.name d_Reader_item.qual d_Reader_item.params d_Reader_item.body d_Reader_item.scope .none kV doc pm an cdv ct) ⟨us, []⟩ = pure (P_Reader_item.zip us) := match us, hl with | [_], _ => rfl
abbrev N_Reader_expr : List Str := ["self"]
abbrev P_Reader_expr : List Str := ["self"]
theorem sc_Reader_expr : FnScope N_Reader_expr P_Reader_expr (defScope s_Reader_expr) := ⟨rfl, rfl, rfl, by decide +kernel, rfl, by decide +kernel, by decide +kernel⟩
theorem bd_Reader_expr (kV doc pm : Value) (an : Option Addr) (cdv ct : Value) (us : List Value) (hl : us.length = P_Reader_expr.length) : bindArgs (PySem.W.fnOf d_Reader_expr.name d_Reader_expr.qual d_Reader_expr.params d_Reader_expr.body d_Reader_expr.scope .none kV doc pm an cdv ct) ⟨us, []⟩ = pure (P_Reader_expr.zip us) := match us, hl with | [_], _ => rfl
abbrev N_Reader_field : List Str := ["self", "name"]
abbrev P_Reader_field : List Str := ["self"]
theorem sc_Reader_field : FnScope N_Reader_field P_Reader_field (defScope s_Reader_field) := ⟨rfl, rfl, rfl, by decide +kernel, rfl, by decide +kernel, by decide +kernel⟩
theorem bd_Reader_field (kV doc pm : Value) (an : Option Addr) (cdv ct : Value) (us : List Value) (hl : us.length = P_Reader_field.length) : bindArgs (PySem.W.fnOf d_Reader_field.name d_Reader_field.qual d_Reader_field.params d_Reader_field.body d_Reader_field.scope .none kV doc pm an cdv ct) ⟨us, []⟩ = pure (P_Reader_field.zip us) := match us, hl with | [_], _ => rfl
section
variable {P : Program} {w : World} {K : PySem.W.Frag} {mg : Str → Option Value} {base : Heap}
theorem Txt.mno (T : Txt K mg w) {d : He.DefD} (md : d ∈ fn) {m : Str} (hx : d.at_ = (("Reader" : Str), some m)) (me : Meth K (He.ga K "Reader") m (He.ma K (He.ga K "Reader") m)) (h1 : d.dfl = []) (h2 : d.kwd = []) {N ps : List Str} (k : Nat) (S : FnScope N ps d.scope) (bd : BdOk d ps) {sp : Sp}
    (no : ∀ vs H Q E, ¬ sp vs H Q E) : Mth P w K mg base (L2.CX P w) (k + 1) m sp :=
  T.mthX (k := k) md hx me h1 h2 S bd T.cR (fun vs H Q E h => (no vs H Q E h).elim) fun cdv A outer s H vs Q E hr h => (no vs H Q E h).elim
def srSigned (n : Nat) (K : PySem.W.Frag) : Sp := spR K [] (K4.pSigned n) K4.Ex.toD
def srItem (n : Nat) (K : PySem.W.Frag) : Sp := spR K [] (K4.pItem n) K4.Ex.toD
def srExpr (n : Nat) (K : PySem.W.Frag) : Sp := spR K [] (K4.pExpr n) K4.Ex.toD
def srField (n : Nat) (K : PySem.W.Frag) : Sp := spR K [] (K4.pField n) fD
def srLevel (n : Nat) (K : PySem.W.Frag) : Sp := fun vs H Q E => ∃ d : Nat, d ≤ 5 ∧ spR K [.int d] (K4.pLevel n d) K4.Ex.toD vs H Q E
def srPart (n : Nat) (K : PySem.W.Frag) : Sp := fun vs H Q E => spR K [.str "name"] (K4.take K4.nm) PyData.str vs H Q E ∨ spR K [.str "expr"] (K4.pPartE n) K4.Ex.toD vs H Q E ∨ spR K [.str "field"] (K4.pPartF n) fD vs H Q E
/-- the answer of a call is the answer -/
theorem Res.sm {α : Type} {r : K4.R α} {f : α → PyData} {p tl : Addr} {H H1 : Hp} {Q : VK} {E : XK} (S : Sm p H H1) (R : Res K r f p tl H Q E) : Res K r f p tl H1 Q E := by
  cases r with
  | out => exact R
  | err i => exact fun d H' h1 h2 => R d H' h1 (S.trans h2)
  | ok a ts => exact fun v H' h1 h2 h3 => R v H' h1 h2 (S.trans h3)
theorem ok_rpart (T : Txt K mg w) {k : Nat} (hk : 4 ≤ k) (n : Nat) {spe spf : Sp} (c_Reader_expr : Mth P w K mg base (L2.CX P w) k "expr" spe) (c_Reader_field : Mth P w K mg base (L2.CX P w) k "field" spf)
    (he : ∀ vs H Q E, spR K [] (K4.pPartE n) K4.Ex.toD vs H Q E → spe vs H Q E) (hf : ∀ vs H Q E, spR K [] (K4.pPartF n) fD vs H Q E → spf vs H Q E) : Mth P w K mg base (L2.CX P w) (k + 1) "part" (srPart n K) := by
  have c_Reader_take := ok_rtake (P := P) (base := base) T
  refine T.mthX (k := k) (d := d_Reader_part) m_Reader_part rfl T.me_part rfl rfl sc_Reader_part bd_Reader_part T.cR (fun vs H Q E h => ?_) (fun cdv A outer s H vs Q E hr h => ?_)
  · rcases h with ⟨p, tl, ts, rfl, _⟩ | ⟨p, tl, ts, rfl, _⟩ | ⟨p, tl, ts, rfl, _⟩ <;> rfl
  · rcases h with ⟨p, tl, ts, rfl, rd, k⟩ | ⟨p, tl, ts, rfl, rd, k⟩ | ⟨p, tl, ts, rfl, rd, k⟩
    · refine ⟨_, (pss_cons (ps_if (pt_cmpR op_eq (pv 1) (C8.pe_gc (by rfl) T.v_NAME) (nomark _))
    (pss_one (ps_ret (pe_ml c_Reader_take hr (by first | decide | omega) hx_of (pv 0) (pa_cons (C8.pe_gc (by rfl) T.v_NAME) pa_nil))))
    pss_nil)
    (pss_one (ps_ret (pe_ifExp (pt_cmpR op_eq (pv 1) (C8.pe_gc (by rfl) T.v_EXPR) (nomark _)) (pe_ml0 c_Reader_expr hr (by first | decide | omega) hx_of (pv 0)) (pe_ml0 c_Reader_field hr (by first | decide | omega) hx_of (pv 0)))))), ?_⟩
      walk_at "rd"
      walk_at "mt"
      exact ⟨_, p, tl, ts, rfl, rd, k⟩
    · refine ⟨_, (pss_cons (ps_if (pt_cmpR op_eq (pv 1) (C8.pe_gc (by rfl) T.v_NAME) (nomark _))
    (pss_one (ps_ret (pe_ml c_Reader_take hr (by first | decide | omega) hx_of (pv 0) (pa_cons (C8.pe_gc (by rfl) T.v_NAME) pa_nil))))
    pss_nil)
    (pss_one (ps_ret (pe_ifExp (pt_cmpR op_eq (pv 1) (C8.pe_gc (by rfl) T.v_EXPR) (nomark _)) (pe_ml0 c_Reader_expr hr (by first | decide | omega) hx_of (pv 0)) (pe_ml0 c_Reader_field hr (by first | decide | omega) hx_of (pv 0)))))), ?_⟩
      walk_at "rd"
      walk_at "mt"
      exact he _ _ _ _ ⟨p, tl, ts, rfl, rd, k⟩
    · refine ⟨_, (pss_cons (ps_if (pt_cmpR op_eq (pv 1) (C8.pe_gc (by rfl) T.v_NAME) (nomark _))
    (pss_one (ps_ret (pe_ml c_Reader_take hr (by first | decide | omega) hx_of (pv 0) (pa_cons (C8.pe_gc (by rfl) T.v_NAME) pa_nil))))
    pss_nil)
    (pss_one (ps_ret (pe_ifExp (pt_cmpR op_eq (pv 1) (C8.pe_gc (by rfl) T.v_EXPR) (nomark _)) (pe_ml0 c_Reader_expr hr (by first | decide | omega) hx_of (pv 0)) (pe_ml0 c_Reader_field hr (by first | decide | omega) hx_of (pv 0)))))), ?_⟩
      walk_at "rd"
      walk_at "mt"
      exact hf _ _ _ _ ⟨p, tl, ts, rfl, rd, k⟩
theorem ps_go {α : Type} {f : α → PyData} {p tl : Addr} {H H0 : Hp} {ts : List K4.Tk} {so : Str} {g : Str → List K4.Tk → K4.R α} {r2 : K4.R α} {Q Q' : VK} {E E' : XK} (rd : Rd K H p tl ts) (k : Res K (if K4.hd ts = so then K4.adv ts g else r2) f p tl H0 Q E)
    (h1 : ∀ t t' r, ts = t :: t' :: r → Res K (g t.w (t' :: r)) f p tl H0 Q E → ∀ H', Rd K H' p tl (t' :: r) → Sm p H H' → Q' (.bl true) H') (h2 : ¬ K4.hd ts = so → Res K r2 f p tl H0 Q E → ∀ H', Rd K H' p tl ts → Sm p H H' → Q' (.bl false) H') : spPs K [.ref p, .str so] H Q' E' := by
  refine ⟨p, tl, so, ts, rfl, rd, ?_⟩
  by_cases e : K4.hd ts = so
  · rw [if_pos e] at k ⊢
    obtain ⟨t, t', r, et, k2⟩ := adv_of k
    exact ⟨t, t', r, et, h1 t t' r et k2⟩
  · rw [if_neg e] at k ⊢
    exact h2 e k
theorem tk_go {α : Type} {f : α → PyData} {p tl : Addr} {H H0 : Hp} {ts : List K4.Tk} {so : Str} {g : Str → List K4.Tk → K4.R α} {Q Q' : VK} {E : XK} (rd : Rd K H p tl ts) (S : Sm p H0 H) (k : Res K ((K4.take so ts).bind g) f p tl H0 Q E)
    (c : ∀ x ts', K4.take so ts = .ok x ts' → Res K (g x ts') f p tl H0 Q E → ∀ H', Rd K H' p tl ts' → Sm p H H' → Q' (.str x) H') : spTk K [.ref p, .str so] H Q' E := by
  refine ⟨so, p, tl, ts, rfl, rd, res_call S k fun x ts' e k v H' hv rd' S' => ?_⟩
  obtain rfl := hv.str_inv
  exact c x ts' e k H' rd' S'
theorem Va.sm {H H' : Hp} {p tl : Addr} {ts : List K4.Tk} {v : V} {d : PyData} (h : Va H v d) (S : Sm p H H') (rd : Rd K H p tl ts) : Va H' v d := h.keep (S.tp fun xs => rd.nt xs)
structure ExM (P : Program) (w : World) (K : PySem.W.Frag) (mg : Str → Option Value) (base : Heap) (n : Nat) : Prop where
  level : Mth P w K mg base (L2.CX P w) (5 + n) "level" (srLevel n K)
  signed : Mth P w K mg base (L2.CX P w) (5 + n) "signed" (srSigned n K)
  item : Mth P w K mg base (L2.CX P w) (5 + n) "item" (srItem n K)
  expr : Mth P w K mg base (L2.CX P w) (5 + n) "expr" (srExpr n K)
  field : Mth P w K mg base (L2.CX P w) (5 + n) "field" (srField n K)
  part : Mth P w K mg base (L2.CX P w) (5 + n) "part" (srPart n K)
theorem ok_rexpr (T : Txt K mg w) {n : Nat} (I : ExM P w K mg base n) : Mth P w K mg base (L2.CX P w) (5 + n + 1) "expr" (srExpr (n + 1) K) := by
  have c_Reader_level := I.level
  refine T.mthX (k := 5 + n) (d := d_Reader_expr) m_Reader_expr rfl T.me_expr rfl rfl sc_Reader_expr bd_Reader_expr T.cR (fun vs H Q E h => ?_) (fun cdv A outer s H vs Q E hr h => ?_)
  · obtain ⟨p, tl, ts, rfl, _⟩ := h
    rfl
  · obtain ⟨p, tl, ts, rfl, rd, k⟩ := h
    refine ⟨_, (pss_one (ps_ret (pe_ml c_Reader_level hr (by first | decide | omega) hx_of (pv 0) (pa_cons pe_int pa_nil)))), ?_⟩
    walk_at "rd"
    walk_at "mt"
    exact ⟨0, Nat.zero_le _, p, tl, ts, rfl, rd, k⟩
theorem ok_rfield (T : Txt K mg w) {n : Nat} (I : ExM P w K mg base n) : Mth P w K mg base (L2.CX P w) (5 + n + 1) "field" (srField (n + 1) K) := by
  have c_Reader_expr := I.expr
  have c_Reader_take := ok_rtake (P := P) (base := base) T
  refine T.mthX (k := 5 + n) (d := d_Reader_field) m_Reader_field rfl T.me_field rfl rfl sc_Reader_field bd_Reader_field T.cR (fun vs H Q E h => ?_) (fun cdv A outer s H vs Q E hr h => ?_)
  · obtain ⟨p, tl, ts, rfl, _⟩ := h
    rfl
  · obtain ⟨p, tl, ts, rfl, rd, k⟩ := h
    refine ⟨_, (pss_cons (ps_set (i := 1) sc_Reader_field.nd rfl (.inl rfl) (pe_ml c_Reader_take hr (by first | decide | omega) hx_of (pv 0) (pa_cons (C8.pe_gc (by rfl) T.v_NAME) pa_nil)))
    (pss_cons (ps_expr (pe_ml c_Reader_take hr (by first | decide | omega) hx_of (pv 0) (pa_cons pe_str pa_nil)))
    (pss_one (ps_ret (pe_tup (pa_cons (pv 1) (pa_cons (pe_ml0 c_Reader_expr hr (by first | decide | omega) hx_of (pv 0)) pa_nil))))))), ?_⟩
    walk_at "rd"
    walk_at "mt"
    refine tk_go rd (Sm.refl _ _) k fun x ts1 _ k H1 rd1 S1 => ?_
    walk_at "rd"
    walk_at "mt"
    refine tk_go rd1 S1 k fun _ ts2 _ k H2 rd2 S2 => ?_
    walk_at "rd"
    walk_at "mt"
    refine ⟨p, tl, ts2, rfl, rd2, ?_⟩
    refine res_call (S1.trans S2) k fun e ts3 _ k v H3 he rd3 S3 => ?_
    walk_at "rd"
    refine ⟨sz rfl, fun q nq => ?_⟩
    exact k _ _ (.tup upd_same (.cons (.str _) (.cons (he.new nq) .nil))) (rd3.new nq) (((S1.trans S2).trans S3).upd_new nq)
theorem ok_rsigned (T : Txt K mg w) {n : Nat} (I : ExM P w K mg base n) : Mth P w K mg base (L2.CX P w) (5 + n + 1) "signed" (srSigned (n + 1) K) := by
  have c_Reader_signed := I.signed
  have c_Reader_item := I.item
  have c_Reader_take := ok_rtake (P := P) (base := base) T
  have c_Reader_passed := ok_passed (P := P) (base := base) T
  refine T.mthX (k := 5 + n) (d := d_Reader_signed) m_Reader_signed rfl T.me_signed rfl rfl sc_Reader_signed bd_Reader_signed T.cR (fun vs H Q E h => ?_) (fun cdv A outer s H vs Q E hr h => ?_)
  · obtain ⟨p, tl, ts, rfl, _⟩ := h
    rfl
  · obtain ⟨p, tl, ts, rfl, rd, k⟩ := h
    refine ⟨_, (pss_cons (ps_if (pt_val (pe_ml c_Reader_passed hr (by first | decide | omega) pass0 (pv 0) (pa_cons pe_str pa_nil)))
    (pss_one (ps_ret (pe_tup (pa_cons pe_str (pa_cons (pe_ml0 c_Reader_signed hr (by first | decide | omega) hx_of (pv 0)) pa_nil)))))
    pss_nil)
    (pss_cons (ps_if (pt_val (pe_ml c_Reader_passed hr (by first | decide | omega) pass0 (pv 0) (pa_cons pe_str pa_nil)))
    (pss_one (ps_ret (pe_tup (pa_cons pe_str (pa_cons (pe_ml0 c_Reader_signed hr (by first | decide | omega) hx_of (pv 0)) pa_nil)))))
    pss_nil)
    (pss_cons (ps_set (i := 1) sc_Reader_signed.nd rfl (.inl rfl) (pe_ml0 c_Reader_item hr (by first | decide | omega) hx_of (pv 0)))
    (pss_cons (ps_while (passes_of rfl) (pt_val (pe_ml c_Reader_passed hr (by first | decide | omega) pass0 (pv 0) (pa_cons pe_str pa_nil)))
    (pss_one (ps_set (i := 1) sc_Reader_signed.nd rfl (.inl rfl) (pe_tup (pa_cons pe_str (pa_cons (pv 1) (pa_cons (pe_ml c_Reader_take hr (by first | decide | omega) hx_of (pv 0) (pa_cons (C8.pe_gc (by rfl) T.v_NAME) pa_nil)) pa_nil)))))))
    (pss_one (ps_ret (pv 1))))))), ?_⟩
    rw [K4.pSigned] at k
    walk_at "rd"
    walk_at "mt"
    refine ps_go rd k (fun t t' r et k H1 rd1 S1 => ?_) (fun e k H1 rd1 S1 => ?_)
    · walk_at "rd"
      walk_at "mt"
      refine ⟨p, tl, _, rfl, rd1, ?_⟩
      refine res_call S1 k fun a ts2 _ k v H2 hv rd2 S2 => ?_
      walk_at "rd"
      exact ⟨sz rfl, fun q nq => k _ _ (.tup upd_same (.cons (.str _) (.cons (hv.new nq) .nil))) (rd2.new nq) ((S1.trans S2).upd_new nq)⟩
    walk_at "rd"
    walk_at "mt"
    refine ps_go rd1 k (fun t t' r et k H2 rd2 S2 => ?_) (fun e k H2 rd2 S2 => ?_)
    · walk_at "rd"
      walk_at "mt"
      refine ⟨p, tl, _, rfl, rd2, ?_⟩
      refine res_call (S1.trans S2) k fun a ts2 _ k v H3 hv rd3 S3 => ?_
      walk_at "rd"
      exact ⟨sz rfl, fun q nq => k _ _ (.tup upd_same (.cons (.str _) (.cons (hv.new nq) .nil))) (rd3.new nq) (((S1.trans S2).trans S3).upd_new nq)⟩
    walk_at "rd"
    walk_at "mt"
    refine ⟨p, tl, _, rfl, rd2, ?_⟩
    refine res_call (S1.trans S2) k fun x ts3 _ k v H3 hv rd3 S3 => ?_
    refine ⟨fun j σ H4 => ∃ x ts v, σ = [some (.ref p), some v] ∧ Va H4 v (K4.Ex.toD x) ∧ Rd K H4 p tl ts ∧ Sm p H H4 ∧ Res K (K4.dotLoop j x ts) K4.Ex.toD p tl H Q E, ⟨_, x, ts3, v, rfl, hv, rd3, (S1.trans S2).trans S3, k⟩, ?_⟩
    rintro j σ H4 ⟨x, ts4, v, rfl, hv, rd4, S4, k⟩
    cases j with
    | zero => exact k.elim
    | succ j =>
      rw [K4.dotLoop] at k
      walk_at "rd"
      walk_at "mt"
      refine ps_go rd4 k (fun t t' r et k H5 rd5 S5 => ?_) (fun e k H5 rd5 S5 => ?_)
      · walk_at "rd"
        refine ⟨fun σ' H' => ∃ x ts v, σ' = [some (.ref p), some v] ∧ Va H' v (K4.Ex.toD x) ∧ Rd K H' p tl ts ∧ Sm p H H' ∧ Res K (K4.dotLoop j x ts) K4.Ex.toD p tl H Q E, fun σ' H' h => ⟨j, Nat.lt_succ_self _, h⟩, ?_⟩
        walk_at "rd"
        walk_at "mt"
        refine tk_go rd5 (S4.trans S5) k fun y ts6 _ k H6 rd6 S6 => ?_
        walk_at "rd"
        refine ⟨sz rfl, fun q nq => ?_⟩
        exact ⟨.get x y, ts6, .ref q, rfl, .tup upd_same (.cons (.str _) (.cons (((hv.sm S5 rd4).sm S6 rd5).new nq) (.cons (.str _) .nil))), rd6.new nq, ((S4.trans S5).trans S6).upd_new nq, k⟩
      · walk_at "rd"
        exact k _ _ (hv.sm S5 rd4) rd5 (S4.trans S5)
theorem exs_map : ∀ as : List K4.Ex, as.map K4.Ex.toD = K4.exsD as
  | [] => rfl
  | e :: r => by
    show e.toD :: r.map K4.Ex.toD = e.toD :: K4.exsD r
    rw [exs_map r]
theorem fs_map : ∀ as : List (Str × K4.Ex), as.map fD = K4.fsD as
  | [] => rfl
  | (x, e) :: r => by
    show fD (x, e) :: r.map fD = _ :: K4.fsD r
    rw [fs_map r]
    rfl
theorem sev_go {spp : Sp} {α β : Type} {f : α → PyData} {f' : β → PyData} {p tl : Addr} {H H0 : Hp} {ts : List K4.Tk} {kind : Str} {m : K4.PM α} {g : List α → List K4.Tk → K4.R β} {Q Q' : VK} {E : XK} (rd : Rd K H p tl ts) (S : Sm p H0 H) (hm : ∀ vs H Q E, spR K [.str kind] m f vs H Q E → spp vs H Q E)
    (k : Res K ((K4.several m ts).bind g) f' p tl H0 Q E)
    (c : ∀ as ts', Res K (g as ts') f' p tl H0 Q E → ∀ v H', Va H' v (.tuple (as.map f)) → Rd K H' p tl ts' → Sm p H H' → Q' v H') : spSevG spp K [.ref p, .str kind] H Q' E :=
  ⟨kind, α, m, f, hm, p, tl, ts, rfl, rd, res_call S k fun as ts' _ k v H' hv rd' S' => c as ts' k v H' hv rd' S'⟩
theorem take_hd {ts : List K4.Tk} {t t' : K4.Tk} {r : List K4.Tk} : K4.take t.s (t :: t' :: r) = .ok t.w (t' :: r) := by
  show (if t.s = t.s then _ else _) = _
  rw [if_pos rfl]
  rfl
theorem adv_take {β : Type} {ts : List K4.Tk} {so : Str} {g : Str → List K4.Tk → K4.R β} (e : K4.hd ts = so) : K4.adv ts g = (K4.take so ts).bind g ∨ K4.adv ts g = .out := by
  match ts, e with
  | [], e => exact .inr rfl
  | [_], e => exact .inr rfl
  | t :: t' :: r, e =>
    refine .inl ?_
    rw [show so = t.s from e.symm, take_hd (ts := [])]
    rfl
/-- the token ahead is of the sort -/
theorem adv_go {β : Type} {f : β → PyData} {p tl : Addr} {H : Hp} {ts : List K4.Tk} {so : Str} {g : Str → List K4.Tk → K4.R β} {Q : VK} {E : XK} (e : K4.hd ts = so) (k : Res K (K4.adv ts g) f p tl H Q E) : Res K ((K4.take so ts).bind g) f p tl H Q E := by
  rcases adv_take (g := g) e with h | h
  · rw [← h]
    exact k
  · rw [h] at k
    exact k.elim
theorem Rd.tok {H : Hp} {p tl : Addr} {t : K4.Tk} {r : List K4.Tk} (h : Rd K H p tl (t :: r)) : TkOk t := by
  obtain ⟨dx, pre, vs, h1, h2, h3, h4, h5, h6⟩ := h
  exact h6 t (List.mem_cons_self ..)
theorem nx_go {p tl : Addr} {H : Hp} {ts : List K4.Tk} {Q' : VK} {E' : XK} (rd : Rd K H p tl ts) (q : Q' (.str (K4.hd ts)) H) : spNext K [.ref p] H Q' E' := ⟨p, tl, ts, rfl, rd, q⟩
theorem tk_inv {ts ts1 : List K4.Tk} {so x : Str} (h : K4.take so ts = .ok x ts1) : ∃ t t' r, ts = t :: t' :: r ∧ t.s = so ∧ x = t.w ∧ ts1 = t' :: r := by
  unfold K4.take at h
  by_cases e : K4.hd ts = so
  · rw [if_pos e] at h
    match ts, e, h with
    | t :: t' :: r, e, h =>
      cases h
      exact ⟨t, t', r, rfl, e, rfl, rfl⟩
  · rw [if_neg e] at h
    cases h
theorem ok_ritem (T : Txt K mg w) {n : Nat} (I : ExM P w K mg base n) {sps : Sp} (c_Reader_several : Mth P w K mg base (L2.CX P w) (5 + n) "several" sps) (hs : ∀ m, n = m + 1 → ∀ vs H Q E, spSevG (srPart m K) K vs H Q E → sps vs H Q E) : Mth P w K mg base (L2.CX P w) (5 + n + 1) "item" (srItem (n + 1) K) := by
  have c_Reader_expr := I.expr
  have c_Reader_next_sort := ok_next (P := P) (base := base) T
  have c_Reader_take := ok_rtake (P := P) (base := base) T
  have c_Reader_passed := ok_passed (P := P) (base := base) T
  refine T.mthX (k := 5 + n) (d := d_Reader_item) m_Reader_item rfl T.me_item rfl rfl sc_Reader_item bd_Reader_item T.cR (fun vs H Q E h => ?_) (fun cdv A outer s H vs Q E hr h => ?_)
  · obtain ⟨p, tl, ts, rfl, _⟩ := h
    rfl
  · obtain ⟨p, tl, ts, rfl, rd, k⟩ := h
    refine ⟨_, (pss_cons (ps_if (pt_cmpR op_eq (pe_ml0 c_Reader_next_sort hr (by first | decide | omega) pass0 (pv 0)) (C8.pe_gc (by rfl) T.v_INTEGER) (nomark _))
    (pss_one (ps_ret (pe_tup (pa_cons pe_str (pa_cons (pe_callTy call_int_str (by rfl) T.f_int (by decide +kernel) (pa_cons (pe_ml c_Reader_take hr (by first | decide | omega) hx_of (pv 0) (pa_cons (C8.pe_gc (by rfl) T.v_INTEGER) pa_nil)) pa_nil)) pa_nil)))))
    pss_nil)
    (pss_cons (ps_if (pt_cmpR op_eq (pe_ml0 c_Reader_next_sort hr (by first | decide | omega) pass0 (pv 0)) (C8.pe_gc (by rfl) T.v_NAME) (nomark _))
    (pss_cons (ps_set (i := 1) sc_Reader_item.nd rfl (.inl rfl) (pe_ml c_Reader_take hr (by first | decide | omega) hx_of (pv 0) (pa_cons (C8.pe_gc (by rfl) T.v_NAME) pa_nil)))
    (pss_one (ps_ret (pe_ifExp (pt_cmpR op_eq (pe_ml0 c_Reader_next_sort hr (by first | decide | omega) pass0 (pv 0)) pe_str (nomark _)) (pe_tup (pa_cons pe_str (pa_cons (pv 1) (pa_cons (pe_ml c_Reader_several hr (by first | decide | omega) hx_of (pv 0) (pa_cons (C8.pe_gc (by rfl) T.v_EXPR) pa_nil)) pa_nil)))) (pe_tup (pa_cons pe_str (pa_cons (pv 1) pa_nil)))))))
    pss_nil)
    (pss_cons (ps_if (pt_val (pe_ml c_Reader_passed hr (by first | decide | omega) pass0 (pv 0) (pa_cons pe_str pa_nil)))
    (pss_one (ps_ret (pe_tup (pa_cons pe_str pa_nil))))
    pss_nil)
    (pss_cons (ps_if (pt_val (pe_ml c_Reader_passed hr (by first | decide | omega) pass0 (pv 0) (pa_cons pe_str pa_nil)))
    (pss_one (ps_ret (pe_tup (pa_cons pe_str (pa_cons (pe_ml c_Reader_take hr (by first | decide | omega) hx_of (pv 0) (pa_cons (C8.pe_gc (by rfl) T.v_NAME) pa_nil)) pa_nil)))))
    pss_nil)
    (pss_cons (ps_if (pt_val (pe_ml c_Reader_passed hr (by first | decide | omega) pass0 (pv 0) (pa_cons pe_str pa_nil)))
    (pss_one (ps_ret (pe_tup (pa_cons pe_str (pa_cons (pe_ml c_Reader_several hr (by first | decide | omega) hx_of (pv 0) (pa_cons (C8.pe_gc (by rfl) T.v_FIELD) pa_nil)) pa_nil)))))
    pss_nil)
    (pss_cons (ps_expr (pe_ml c_Reader_take hr (by first | decide | omega) hx_of (pv 0) (pa_cons pe_str pa_nil)))
    (pss_cons (ps_set (i := 2) sc_Reader_item.nd rfl (.inl rfl) (pe_ml0 c_Reader_expr hr (by first | decide | omega) hx_of (pv 0)))
    (pss_cons (ps_expr (pe_ml c_Reader_take hr (by first | decide | omega) hx_of (pv 0) (pa_cons pe_str pa_nil)))
    (pss_one (ps_ret (pv 2))))))))))), ?_⟩
    rw [K4.pItem] at k
    walk_at "rd"
    walk_at "mt"
    refine nx_go rd ?_
    by_cases e : K4.hd ts = K4.tn
    · rw [if_pos e] at k
      refine ⟨rfl, true, eq_t e, ?_⟩
      walk_at "rd"
      walk_at "mt"
      refine tk_go rd (Sm.refl _ _) (adv_go e k) fun x ts1 et k H1 rd1 S1 => ?_
      obtain ⟨t, t', r, rfl, ht, rfl, rfl⟩ := tk_inv et
      obtain ⟨i1, i2⟩ := rd.tok.2.1 ht
      walk_at "rd"
      refine ⟨t.w, _, rfl, i1, i2, ?_⟩
      walk_at "rd"
      exact ⟨sz rfl, fun q nq => k _ _ (.tup upd_same (.cons (.str _) (.cons (.int _) .nil))) (rd1.new nq) (S1.upd_new nq)⟩
    rw [if_neg e] at k
    refine ⟨rfl, false, eq_f e, ?_⟩
    clear e
    walk_at "rd"
    walk_at "mt"
    refine nx_go rd ?_
    by_cases e : K4.hd ts = K4.nm
    · rw [if_pos e] at k
      refine ⟨rfl, true, eq_t e, ?_⟩
      walk_at "rd"
      walk_at "mt"
      refine tk_go rd (Sm.refl _ _) (adv_go e k) fun x ts1 et k H1 rd1 S1 => ?_
      walk_at "rd"
      walk_at "mt"
      refine nx_go rd1 ?_
      by_cases e2 : K4.hd ts1 = "("
      · rw [if_pos e2] at k
        refine ⟨rfl, true, eq_t e2, ?_⟩
        cases n with
        | zero => exact k.elim
        | succ n =>
          rw [K4.pSevE] at k
          walk_at "rd"
          walk_at "mt"
          refine hs n rfl _ _ _ _ (sev_go (f := K4.Ex.toD) rd1 S1 (fun vs H Q E h => .inr (.inl h)) k fun as ts2 k v H2 hv rd2 S2 => ?_)
          walk_at "rd"
          rw [exs_map] at hv
          exact ⟨sz rfl, fun q nq => k _ _ (.tup upd_same (.cons (.str _) (.cons (.str _) (.cons (hv.new nq) .nil)))) (rd2.new nq) ((S1.trans S2).upd_new nq)⟩
      · rw [if_neg e2] at k
        refine ⟨rfl, false, eq_f e2, ?_⟩
        walk_at "rd"
        exact ⟨sz rfl, fun q nq => k _ _ (.tup upd_same (.cons (.str _) (.cons (.str _) .nil))) (rd1.new nq) (S1.upd_new nq)⟩
    rw [if_neg e] at k
    refine ⟨rfl, false, eq_f e, ?_⟩
    clear e
    walk_at "rd"
    walk_at "mt"
    refine ps_go rd k (fun t t' r et k H1 rd1 S1 => ?_) (fun e k H1 rd1 S1 => ?_)
    · walk_at "rd"
      exact ⟨sz rfl, fun q nq => k _ _ (.tup upd_same (.cons (.str _) .nil)) (rd1.new nq) (S1.upd_new nq)⟩
    walk_at "rd"
    walk_at "mt"
    refine ps_go rd1 k (fun t t' r et k H2 rd2 S2 => ?_) (fun e k H2 rd2 S2 => ?_)
    · walk_at "rd"
      walk_at "mt"
      refine tk_go rd2 (S1.trans S2) k fun x ts3 _ k H3 rd3 S3 => ?_
      walk_at "rd"
      exact ⟨sz rfl, fun q nq => k _ _ (.tup upd_same (.cons (.str _) (.cons (.str _) .nil))) (rd3.new nq) (((S1.trans S2).trans S3).upd_new nq)⟩
    replace S2 := S1.trans S2
    walk_at "rd"
    walk_at "mt"
    refine ps_go rd2 k (fun t t' r et k H3 rd3 S3 => ?_) (fun e k H3 rd3 S3 => ?_)
    · replace S3 := S2.trans S3
      cases n with
      | zero => exact k.elim
      | succ n =>
        rw [K4.pSevF] at k
        walk_at "rd"
        walk_at "mt"
        refine hs n rfl _ _ _ _ (sev_go (f := fD) rd3 S3 (fun vs H Q E h => .inr (.inr h)) k fun as ts4 k v H4 hv rd4 S4 => ?_)
        walk_at "rd"
        rw [fs_map] at hv
        exact ⟨sz rfl, fun q nq => k _ _ (.tup upd_same (.cons (.str _) (.cons (hv.new nq) .nil))) (rd4.new nq) ((S3.trans S4).upd_new nq)⟩
    replace S3 := S2.trans S3
    walk_at "rd"
    walk_at "mt"
    refine tk_go rd3 S3 k fun _ ts4 _ k H4 rd4 S4 => ?_
    replace S4 := S3.trans S4
    walk_at "rd"
    walk_at "mt"
    refine ⟨p, tl, _, rfl, rd4, ?_⟩
    refine res_call S4 k fun x ts5 _ k v H5 hv rd5 S5 => ?_
    have S5' := S4.trans S5
    walk_at "rd"
    walk_at "mt"
    refine tk_go rd5 S5' k fun _ ts6 _ k H6 rd6 S6 => ?_
    walk_at "rd"
    exact k _ _ (hv.sm S6 rd5) rd6 (S5'.trans S6)
end
end W4
set_option Elab.async false
set_option linter.all false
set_option maxRecDepth 100000
set_option maxHeartbeats 4000000
set_option pp.maxSteps 400
namespace W4
open PySem PySem.Spec PyProof.Rows L2
local macro_rules | `(tactic| walk_at "rd") => `(tactic| repeat (first | refine ⟨_, rfl, ?_⟩ | refine ⟨_, _, rfl, rfl, ?_⟩ | refine ⟨rfl, _, rfl, ?_⟩))
local macro_rules | `(tactic| walk_at "mt") => `(tactic| (refine Rd.go (by assumption) (by decide +kernel) (by decide +kernel) ?_; repeat (first | refine ⟨_, rfl, ?_⟩ | refine ⟨_, _, rfl, rfl, ?_⟩ | refine ⟨rfl, _, rfl, ?_⟩)))
section
variable {P : Program} {w : World} {K : PySem.W.Frag} {mg : Str → Option Value} {base : Heap}
theorem int_t {a b : Int} (e : a = b) : V.bl (decide (V.int a = V.int b)) = V.bl true := by rw [decide_eq_true (by rw [e])]
theorem int_f {a b : Int} (e : ¬ a = b) : V.bl (decide (V.int a = V.int b)) = V.bl false := by rw [decide_eq_false (fun h => e (V.int.inj h))]
theorem int_nt {a b : Int} (e : a = b) : V.bl (!decide (V.int a = V.int b)) = V.bl false := by rw [decide_eq_true (by rw [e])] <;> rfl
theorem int_nf {a b : Int} (e : ¬ a = b) : V.bl (!decide (V.int a = V.int b)) = V.bl true := by rw [decide_eq_false (fun h => e (V.int.inj h))] <;> rfl
theorem ok_rlevel (T : Txt K mg w) {n : Nat} (I : ExM P w K mg base n) : Mth P w K mg base (L2.CX P w) (5 + n + 1) "level" (srLevel (n + 1) K) := by
  have c_Reader_level := I.level
  have c_Reader_signed := I.signed
  have c_Reader_next_sort := ok_next (P := P) (base := base) T
  have c_Reader_take := ok_rtake (P := P) (base := base) T
  refine T.mthX (k := 5 + n) (d := d_Reader_level) m_Reader_level rfl T.me_level rfl rfl sc_Reader_level bd_Reader_level T.cR (fun vs H Q E h => ?_) (fun cdv A outer s H vs Q E hr h => ?_)
  · obtain ⟨d, hd, p, tl, ts, rfl, _⟩ := h
    rfl
  · obtain ⟨d, hd, p, tl, ts, rfl, rd, k⟩ := h
    refine ⟨_, (pss_cons (ps_if (pt_cmpR op_eq (pv 1) (pe_callB call_len (by rfl) T.f_len (by decide +kernel) (pa_cons (C8.pe_gc (by rfl) T.v_LEVELS) pa_nil)) (nomark _))
    (pss_one (ps_ret (pe_ml0 c_Reader_signed hr (by first | decide | omega) hx_of (pv 0))))
    pss_nil)
    (pss_cons (ps_par (i := 2) (j := 3) rfl sc_Reader_level.nd rfl rfl (by decide) rfl rfl (pa_cons (pe_ml c_Reader_level hr (by first | decide | omega) hx_of (pv 0) (pa_cons (pe_op op_add (pv 1) pe_int) pa_nil)) (pa_cons pe_bl pa_nil)) (by rfl))
    (pss_cons (ps_while (passes_of rfl) (PW.pt (pw_and (pt_val (pv 3)) (pw_and1 (pt_cmpR op_in_seq (pe_ml0 c_Reader_next_sort hr (by first | decide | omega) pass0 (pv 0)) (pe_ix ix_tup (C8.pe_gc (by rfl) T.v_LEVELS) (pv 1) (fun _ _ => rfl)) (by with_unfolding_all rfl)))))
    (pss_cons (ps_set (i := 4) sc_Reader_level.nd rfl (.inl rfl) (pe_ml c_Reader_take hr (by first | decide | omega) hx_of (pv 0) (pa_cons (pe_ml0 c_Reader_next_sort hr (by first | decide | omega) pass0 (pv 0)) pa_nil)))
    (pss_one (ps_par (i := 2) (j := 3) rfl sc_Reader_level.nd rfl rfl (by decide) rfl rfl (pa_cons (pe_tup (pa_cons pe_str (pa_cons (pv 4) (pa_cons (pv 2) (pa_cons (pe_ml c_Reader_level hr (by first | decide | omega) hx_of (pv 0) (pa_cons (pe_op op_add (pv 1) pe_int) pa_nil)) pa_nil))))) (pa_cons (pe_cmpR op_ne (pv 1) (C8.pe_gc (by rfl) T.v_TESTS_text) (nomark _)) pa_nil)) (by rfl)))))
    (pss_one (ps_ret (pv 2)))))), ?_⟩
    rw [K4.pLevel] at k
    obtain ⟨as, la, l5, ls⟩ := T.mor.lev
    refine ⟨_, rfl, _, as.length, rfl, ?_⟩
    refine ⟨.inr ⟨_, la H, by rw [List.length_map]⟩, ?_⟩
    by_cases e : d = 5
    · rw [if_pos e] at k
      refine ⟨rfl, true, int_t (by omega), ?_⟩
      walk_at "rd"
      walk_at "mt"
      exact ⟨p, tl, _, rfl, rd, k⟩
    rw [if_neg e] at k
    refine ⟨rfl, false, int_f (by omega), ?_⟩
    walk_at "rd"
    walk_at "mt"
    refine ⟨d + 1, by omega, p, tl, _, rfl, rd, ?_⟩
    refine res_call (Sm.refl _ _) k fun x ts1 _ k v H1 hv rd1 S1 => ?_
    walk_at "rd"
    refine ⟨_, _, rfl, ?_⟩
    have d5 : d < 5 := by omega
    obtain ⟨a, ea⟩ : ∃ a, as[d]? = some a := ⟨as[d]'(by omega), List.getElem?_eq_getElem _⟩
    have el : lvls[d]? = some (K4.levels d) := by
      match d, d5 with
      | 0, _ => rfl
      | 1, _ => rfl
      | 2, _ => rfl
      | 3, _ => rfl
      | 4, _ => rfl
    have la2 := ls d a _ ea el
    refine ⟨fun j σ H4 => ∃ x ts v b y, σ = [some (.ref p), some (.int d), some v, some (.bl b), y] ∧ Va H4 v (K4.Ex.toD x) ∧ Rd K H4 p tl ts ∧ Sm p H H4 ∧ Res K (if b = true then K4.opLoop (K4.pLevel n (d + 1)) d j x ts else .ok x ts) K4.Ex.toD p tl H Q E, ⟨_, x, ts1, v, true, _, rfl, hv, rd1, S1, by rw [if_pos rfl]; exact k⟩, ?_⟩
    rintro j σ H4 ⟨x, ts4, v, b, y, rfl, hv, rd4, S4, k⟩
    cases b with
    | false =>
      walk_at "rd"
      exact k _ _ hv rd4 S4
    | true =>
      cases j with
      | zero => exact k.elim
      | succ j =>
        walk_at "rd"
        walk_at "mt"
        refine nx_go rd4 ?_
        rw [if_pos rfl, K4.opLoop] at k
        walk_at "rd"
        refine ⟨_, _, (d : Int), .ref a, rfl, rfl, la _, atI_nat (by rw [List.getElem?_map, ea] <;> rfl), ?_⟩
        refine ⟨a, _, rfl, .inr (la2 _), rfl, flat_strs _, ?_⟩
        by_cases e2 : K4.hd ts4 ∈ K4.levels d
        · rw [if_pos e2] at k
          refine ⟨true, congrArg V.bl (show inV _ _ = true by rw [inV_str]; exact decide_eq_true e2), ?_⟩
          refine ⟨fun σ' H' => ∃ x ts v b y, σ' = [some (.ref p), some (.int d), some v, some (.bl b), y] ∧ Va H' v (K4.Ex.toD x) ∧ Rd K H' p tl ts ∧ Sm p H H' ∧ Res K (if b = true then K4.opLoop (K4.pLevel n (d + 1)) d j x ts else .ok x ts) K4.Ex.toD p tl H Q E, fun σ' H' h => ⟨j, Nat.lt_succ_self _, h⟩, ?_⟩
          walk_at "rd"
          walk_at "mt"
          walk_at "mt"
          refine nx_go rd4 ?_
          walk_at "rd"
          refine tk_go rd4 S4 (adv_go rfl k) fun sg ts5 et k H5 rd5 S5 => ?_
          have hv5 := hv.sm S5 rd4
          have S5' := S4.trans S5
          walk_at "rd"
          walk_at "mt"
          refine ⟨d + 1, by omega, p, tl, _, rfl, rd5, ?_⟩
          refine res_call S5' k fun x2 ts6 _ k v2 H6 hv2 rd6 S6 => ?_
          have hv6 := hv5.sm S6 rd5
          walk_at "rd"
          refine ⟨sz rfl, fun q nq => ?_⟩
          have esg : sg = K4.hd ts4 := by
            obtain ⟨t, t', r, rfl, ht, rfl, rfl⟩ := tk_inv et
            exact rd4.tok.2.2 d e2
          rw [esg]
          have va : Va (upd H6 q (.tup [.str "op", .str (K4.hd ts4), v, v2])) (.ref q) (K4.Ex.toD (.op (K4.hd ts4) x x2)) := .tup upd_same (.cons (.str _) (.cons (.str _) (.cons (hv6.new nq) (.cons (hv2.new nq) .nil))))
          by_cases d2 : d = 2
          · rw [if_pos d2] at k
            refine ⟨_, rfl, rfl, ?_⟩
            rw [int_nt (by omega)]
            refine ⟨_, _, rfl, ?_⟩
            exact ⟨_, ts6, .ref q, false, _, rfl, va, rd6.new nq, (S5'.trans S6).upd_new nq, k⟩
          · rw [if_neg d2] at k
            refine ⟨_, rfl, rfl, ?_⟩
            rw [int_nf (by omega)]
            refine ⟨_, _, rfl, ?_⟩
            exact ⟨_, ts6, .ref q, true, _, rfl, va, rd6.new nq, (S5'.trans S6).upd_new nq, by rw [if_pos rfl]; exact k⟩
        · rw [if_neg e2] at k
          refine ⟨false, congrArg V.bl (show inV _ _ = false by rw [inV_str]; exact decide_eq_false e2), ?_⟩
          walk_at "rd"
          exact k _ _ hv rd4 S4
theorem ok_ex0 (T : Txt K mg w) : ExM P w K mg base 0 := by
  have no : ∀ {α : Type} {args : List V} {f : α → PyData} {vs : List V} {H : Hp} {Q : VK} {E : XK}, ¬ spR K args (fun _ => (.out : K4.R α)) f vs H Q E := fun ⟨p, tl, ts, _, _, k⟩ => k
  refine ⟨T.mno (d := d_Reader_level) m_Reader_level rfl T.me_level rfl rfl 4 sc_Reader_level bd_Reader_level ?_, T.mno (d := d_Reader_signed) m_Reader_signed rfl T.me_signed rfl rfl 4 sc_Reader_signed bd_Reader_signed ?_, T.mno (d := d_Reader_item) m_Reader_item rfl T.me_item rfl rfl 4 sc_Reader_item bd_Reader_item ?_,
    T.mno (d := d_Reader_expr) m_Reader_expr rfl T.me_expr rfl rfl 4 sc_Reader_expr bd_Reader_expr ?_, T.mno (d := d_Reader_field) m_Reader_field rfl T.me_field rfl rfl 4 sc_Reader_field bd_Reader_field ?_,
    ok_rpart T (k := 4) (Nat.le_refl _) 0 (spe := fun _ _ _ _ => False) (spf := fun _ _ _ _ => False) (T.mno (d := d_Reader_expr) m_Reader_expr rfl T.me_expr rfl rfl 3 sc_Reader_expr bd_Reader_expr fun _ _ _ _ h => h) (T.mno (d := d_Reader_field) m_Reader_field rfl T.me_field rfl rfl 3 sc_Reader_field bd_Reader_field fun _ _ _ _ h => h) ?_ ?_⟩
  · rintro vs H Q E ⟨d, _, p, tl, ts, _, _, k⟩
    exact k
  all_goals
    rintro vs H Q E ⟨p, tl, ts, _, _, k⟩
    exact k.elim
theorem ok_exM (T : Txt K mg w) : ∀ n, ExM P w K mg base n
  | 0 => ok_ex0 T
  | n + 1 => by
    have I := ok_exM T n
    refine ⟨ok_rlevel T I, ok_rsigned T I, ?_, ok_rexpr T I, ok_rfield T I, ?_⟩
    · cases n with
      | zero => exact ok_ritem T I (sps := fun _ _ _ _ => False) (T.mno (d := d_Reader_several) m_Reader_several rfl T.me_several rfl rfl 4 sc_Reader_several bd_Reader_several fun _ _ _ _ h => h) fun m h => nomatch h
      | succ m => exact ok_ritem T I (ok_several T (k := 5 + m) (by omega) (ok_exM T m).part) fun m' h vs H Q E z => by cases h; exact z
    · refine ok_rpart T (k := 5 + n) (by omega) (n + 1) I.expr I.field (fun vs H Q E h => ?_) (fun vs H Q E h => ?_)
      · exact h
      · exact h
end
end W4
set_option Elab.async false
set_option linter.all false
set_option maxRecDepth 100000
set_option maxHeartbeats 4000000
set_option pp.maxSteps 400
namespace W4
open PySem PySem.Spec PyProof.Rows L2
local macro_rules | `(tactic| walk_at "rd") => `(tactic| repeat (first | refine ⟨_, rfl, ?_⟩ | refine ⟨_, _, rfl, rfl, ?_⟩ | refine ⟨rfl, _, rfl, ?_⟩))
local macro_rules | `(tactic| walk_at "mt") => `(tactic| (refine Rd.go (by assumption) (by decide +kernel) (by decide +kernel) ?_; repeat (first | refine ⟨_, rfl, ?_⟩ | refine ⟨_, _, rfl, rfl, ?_⟩ | refine ⟨rfl, _, rfl, ?_⟩)))
abbrev N_Reader_statements : List Str := ["self", "found"]
abbrev P_Reader_statements : List Str := ["self"]
theorem sc_Reader_statements : FnScope N_Reader_statements P_Reader_statements (defScope s_Reader_statements) := ⟨rfl, rfl, rfl, by decide +kernel, rfl, by decide +kernel, by decide +kernel⟩
theorem bd_Reader_statements (kV doc pm : Value) (an : Option Addr) (cdv ct : Value) (us : List Value) (hl : us.length = P_Reader_statements.length) : bindArgs (PySem.W.fnOf d_Reader_statements.name d_Reader_statements.qual d_Reader_statements.params d_Reader_statements.body d_Reader_statements.scope .none kV doc pm an cdv ct) ⟨us, []⟩ = pure (P_Reader_statements.zip us) := match us, hl with | [_], _ => rfl
abbrev N_Reader_labelled : List Str := ["self", "label"]
abbrev P_Reader_labelled : List Str := ["self"]
theorem sc_Reader_labelled : FnScope N_Reader_labelled P_Reader_labelled (defScope s_Reader_labelled) := ⟨rfl, rfl, rfl, by decide +kernel, rfl, by decide +kernel, by decide +kernel⟩
theorem bd_Reader_labelled (kV doc pm : Value) (an : Option Addr) (cdv ct : Value) (us : List Value) (hl : us.length = P_Reader_labelled.length) : bindArgs (PySem.W.fnOf d_Reader_labelled.name d_Reader_labelled.qual d_Reader_labelled.params d_Reader_labelled.body d_Reader_labelled.scope .none kV doc pm an cdv ct) ⟨us, []⟩ = pure (P_Reader_labelled.zip us) := match us, hl with | [_], _ => rfl
abbrev N_Reader_statement : List Str := ["self", "word", "name"]
abbrev P_Reader_statement : List Str := ["self"]
theorem sc_Reader_statement : FnScope N_Reader_statement P_Reader_statement (defScope s_Reader_statement) := ⟨rfl, rfl, rfl, by decide +kernel, rfl, by decide +kernel, by decide +kernel⟩
theorem bd_Reader_statement (kV doc pm : Value) (an : Option Addr) (cdv ct : Value) (us : List Value) (hl : us.length = P_Reader_statement.length) : bindArgs (PySem.W.fnOf d_Reader_statement.name d_Reader_statement.qual d_Reader_statement.params d_Reader_statement.body d_Reader_statement.scope .none kV doc pm an cdv ct) ⟨us, []⟩ = pure (P_Reader_statement.zip us) := match us, hl with | [_], _ => rfl
abbrev N_Reader_compound : List Str := ["self", "word", "body", "found"]
abbrev P_Reader_compound : List Str := ["self", "word"]
theorem sc_Reader_compound : FnScope N_Reader_compound P_Reader_compound (defScope s_Reader_compound) := ⟨rfl, rfl, rfl, by decide +kernel, rfl, by decide +kernel, by decide +kernel⟩
theorem bd_Reader_compound (kV doc pm : Value) (an : Option Addr) (cdv ct : Value) (us : List Value) (hl : us.length = P_Reader_compound.length) : bindArgs (PySem.W.fnOf d_Reader_compound.name d_Reader_compound.qual d_Reader_compound.params d_Reader_compound.body d_Reader_compound.scope .none kV doc pm an cdv ct) ⟨us, []⟩ = pure (P_Reader_compound.zip us) := match us, hl with | [_, _], _ => rfl
abbrev N_Reader_named : List Str := ["self", "name", "path", "value", "record", "field"]
abbrev P_Reader_named : List Str := ["self"]
theorem sc_Reader_named : FnScope N_Reader_named P_Reader_named (defScope s_Reader_named) := ⟨rfl, rfl, rfl, by decide +kernel, rfl, by decide +kernel, by decide +kernel⟩
theorem bd_Reader_named (kV doc pm : Value) (an : Option Addr) (cdv ct : Value) (us : List Value) (hl : us.length = P_Reader_named.length) : bindArgs (PySem.W.fnOf d_Reader_named.name d_Reader_named.qual d_Reader_named.params d_Reader_named.body d_Reader_named.scope .none kV doc pm an cdv ct) ⟨us, []⟩ = pure (P_Reader_named.zip us) := match us, hl with | [_], _ => rfl
section
variable {P : Program} {w : World} {K : PySem.W.Frag} {mg : Str → Option Value} {base : Heap}
def srSts (n : Nat) (K : PySem.W.Frag) : Sp := spR K [] (K4.pStmts n) (fun b => .tuple (K4.stsD b))
def srLab (n : Nat) (K : PySem.W.Frag) : Sp := spR K [] (K4.pLab n) K4.St.toD
def srSt (n : Nat) (K : PySem.W.Frag) : Sp := spR K [] (K4.pStmt n) K4.St.toD
def srNamed (n : Nat) (K : PySem.W.Frag) : Sp := spR K [] (K4.pNamed n) K4.St.toD
def srComp (n : Nat) (K : PySem.W.Frag) : Sp := fun vs H Q E => ∃ word : Str, (word = "if" ∨ word = "while" ∨ word = "try") ∧ spR K [.str word] (K4.pComp n word) K4.St.toD vs H Q E
structure StM (P : Program) (w : World) (K : PySem.W.Frag) (mg : Str → Option Value) (base : Heap) (n : Nat) : Prop where
  sts : Mth P w K mg base (L2.CX P w) (5 + n) "statements" (srSts n K)
  lab : Mth P w K mg base (L2.CX P w) (5 + n) "labelled" (srLab n K)
  st : Mth P w K mg base (L2.CX P w) (5 + n) "statement" (srSt n K)
  comp : Mth P w K mg base (L2.CX P w) (5 + n) "compound" (srComp n K)
  named : Mth P w K mg base (L2.CX P w) (5 + n) "named" (srNamed n K)
theorem sts_map : ∀ as : List K4.St, as.map K4.St.toD = K4.stsD as
  | [] => rfl
  | e :: r => by
    show e.toD :: r.map K4.St.toD = e.toD :: K4.stsD r
    rw [sts_map r]
theorem ok_rlab (T : Txt K mg w) {n : Nat} (I : StM P w K mg base n) : Mth P w K mg base (L2.CX P w) (5 + n + 1) "labelled" (srLab (n + 1) K) := by
  have c_Reader_statement := I.st
  have c_Reader_take := ok_rtake (P := P) (base := base) T
  refine T.mthX (k := 5 + n) (d := d_Reader_labelled) m_Reader_labelled rfl T.me_labelled rfl rfl sc_Reader_labelled bd_Reader_labelled T.cR (fun vs H Q E h => ?_) (fun cdv A outer s H vs Q E hr h => ?_)
  · obtain ⟨p, tl, ts, rfl, _⟩ := h
    rfl
  · obtain ⟨p, tl, ts, rfl, rd, k⟩ := h
    refine ⟨_, (pss_cons (ps_expr (pe_ml c_Reader_take hr (by first | decide | omega) hx_of (pv 0) (pa_cons pe_str pa_nil)))
    (pss_cons (ps_set (i := 1) sc_Reader_labelled.nd rfl (.inl rfl) (pe_ml c_Reader_take hr (by first | decide | omega) hx_of (pv 0) (pa_cons (C8.pe_gc (by rfl) T.v_NAME) pa_nil)))
    (pss_one (ps_ret (pe_tup (pa_cons pe_str (pa_cons (pv 1) (pa_cons (pe_ml0 c_Reader_statement hr (by first | decide | omega) hx_of (pv 0)) pa_nil)))))))), ?_⟩
    rw [K4.pLab] at k
    walk_at "rd"
    walk_at "mt"
    refine tk_go rd (Sm.refl _ _) k fun _ ts1 _ k H1 rd1 S1 => ?_
    walk_at "rd"
    walk_at "mt"
    refine tk_go rd1 S1 k fun l ts2 _ k H2 rd2 S2 => ?_
    have S2' := S1.trans S2
    walk_at "rd"
    walk_at "mt"
    refine ⟨p, tl, _, rfl, rd2, ?_⟩
    refine res_call S2' k fun x ts3 _ k v H3 hv rd3 S3 => ?_
    walk_at "rd"
    exact ⟨sz rfl, fun q nq => k _ _ (.tup upd_same (.cons (.str _) (.cons (.str _) (.cons (hv.new nq) .nil)))) (rd3.new nq) ((S2'.trans S3).upd_new nq)⟩
theorem ok_rsts (T : Txt K mg w) {n : Nat} (I : StM P w K mg base n) : Mth P w K mg base (L2.CX P w) (5 + n + 1) "statements" (srSts (n + 1) K) := by
  have c_Reader_statement := I.st
  have c_Reader_labelled := I.lab
  have c_Reader_next_sort := ok_next (P := P) (base := base) T
  refine T.mthX (k := 5 + n) (d := d_Reader_statements) m_Reader_statements rfl T.me_statements rfl rfl sc_Reader_statements bd_Reader_statements T.cR (fun vs H Q E h => ?_) (fun cdv A outer s H vs Q E hr h => ?_)
  · obtain ⟨p, tl, ts, rfl, _⟩ := h
    rfl
  · obtain ⟨p, tl, ts, rfl, rd, k⟩ := h
    refine ⟨_, (pss_cons (ps_set (i := 1) sc_Reader_statements.nd rfl (.inl rfl) (pe_lst pa_nil))
    (pss_cons (ps_while (passes_of rfl) (pt_cmpR op_in_seq (pe_ml0 c_Reader_next_sort hr (by first | decide | omega) pass0 (pv 0)) (C8.pe_gc (by rfl) T.v_BEGINNINGS) (by with_unfolding_all rfl))
    (pss_one (ps_expr (pe_bm PySem.F.plainAttrs_list PySem.F.slot_list_append PySem.F.type_list_append mt_append (pv 1) (pa_cons (pe_ifExp (pt_cmpR op_eq (pe_ml0 c_Reader_next_sort hr (by first | decide | omega) pass0 (pv 0)) pe_str (nomark _)) (pe_ml0 c_Reader_labelled hr (by first | decide | omega) hx_of (pv 0)) (pe_ml0 c_Reader_statement hr (by first | decide | omega) hx_of (pv 0))) pa_nil)))))
    (pss_one (ps_ret (pe_callTy call_tuple_of (by rfl) T.f_tuple (by decide +kernel) (pa_cons (pv 1) pa_nil)))))), ?_⟩
    rw [K4.pStmts] at k
    refine ⟨Nat.zero_le _, fun F nF => ?_⟩
    have Fp := rd.ne nF
    have Ft := rd.nel nF
    have rd0 := rd.new (o := .lst []) nF
    have S0 := (Sm.refl p H).upd_new (o := .lst []) nF
    have sL := sL
    have lt := rd.lt
    walk_at "rd"
    refine ⟨fun j σ H4 => ∃ acc ts3 vs, σ = [some (.ref p), some (.ref F)] ∧ H4 F = some (.lst vs) ∧ VaL H4 vs (acc.map K4.St.toD) ∧ acc.length + j ≤ 2 ^ 20 + 12 ∧ Rd K H4 p tl ts3 ∧ Sm p H H4 ∧ Res K (K4.stLoop (K4.pLab n) (K4.pStmt n) j acc ts3) (fun b => .tuple (K4.stsD b)) p tl H Q E, ⟨_, [], ts, [], rfl, upd_same, .nil, (by show 0 + (ts.length + 1) ≤ _; omega), rd0, S0, k⟩, ?_⟩
    rintro j σ H4 ⟨acc, ts3, vs, rfl, F4, va, lj, rd4, S4, k⟩
    cases j with
    | zero => exact k.elim
    | succ j =>
      rw [K4.stLoop] at k
      walk_at "rd"
      walk_at "mt"
      refine nx_go rd4 ?_
      refine ⟨_, begsL.map V.str, rfl, .inr (T.mor.begs _), rfl, flat_strs _, ?_⟩
      by_cases e : K4.hd ts3 ∈ K4.beginnings
      · rw [if_pos e] at k
        refine ⟨true, congrArg V.bl (show inV _ _ = true by rw [inV_str]; exact decide_eq_true e), ?_⟩
        refine ⟨fun σ' H' => ∃ acc ts3 vs, σ' = [some (.ref p), some (.ref F)] ∧ H' F = some (.lst vs) ∧ VaL H' vs (acc.map K4.St.toD) ∧ acc.length + j ≤ 2 ^ 20 + 12 ∧ Rd K H' p tl ts3 ∧ Sm p H H' ∧ Res K (K4.stLoop (K4.pLab n) (K4.pStmt n) j acc ts3) (fun b => .tuple (K4.stsD b)) p tl H Q E, fun σ' H' h => ⟨j, Nat.lt_succ_self _, h⟩, ?_⟩
        have fin : ∀ (v : V) (H6 : Hp) (a : K4.St) (ts6 : List K4.Tk), Va H6 v a.toD → Rd K H6 p tl ts6 → Sm p H4 H6 → Res K (K4.stLoop (K4.pLab n) (K4.pStmt n) j (acc ++ [a]) ts6) (fun b => .tuple (K4.stsD b)) p tl H Q E → ∃ (l : Addr) (xs : List V) (y : V), V.ref F = .ref l ∧ [v] = [y] ∧ H6 l = some (.lst xs) ∧ xs.length < sizeLine ∧
            (∃ acc ts3 vs, [some (V.ref p), some (V.ref F)] = [some (.ref p), some (.ref F)] ∧ (upd H6 l (.lst (xs ++ [y]))) F = some (.lst vs) ∧ VaL (upd H6 l (.lst (xs ++ [y]))) vs (acc.map K4.St.toD) ∧ acc.length + j ≤ 2 ^ 20 + 12 ∧ Rd K (upd H6 l (.lst (xs ++ [y]))) p tl ts3 ∧ Sm p H (upd H6 l (.lst (xs ++ [y]))) ∧ Res K (K4.stLoop (K4.pLab n) (K4.pStmt n) j acc ts3) (fun b => .tuple (K4.stsD b)) p tl H Q E) := by
          intro v H6 a ts6 hv rd6 S6 k
          have F6 := S6 F _ F4 Fp
          have lv := va.length
          rw [List.length_map] at lv
          refine ⟨F, vs, v, rfl, rfl, F6, by omega, acc ++ [a], ts6, vs ++ [v], rfl, upd_same, ?_, ?_, rd6.lst F6 Fp Ft, (S4.trans S6).own nF, k⟩
          · rw [List.map_append]
            exact ((va.sm S6 rd4).app (.cons hv .nil)).lst F6
          · rw [List.length_append]
            show acc.length + 1 + j ≤ _
            omega
        walk_at "rd"
        refine ⟨.inl ⟨rfl, _, sq_of F4⟩, ?_⟩
        walk_at "rd"
        walk_at "mt"
        refine nx_go rd4 ?_
        by_cases e2 : K4.hd ts3 = "here"
        · rw [if_pos e2] at k
          refine ⟨rfl, true, eq_t e2, ?_⟩
          walk_at "rd"
          walk_at "mt"
          refine ⟨p, tl, _, rfl, rd4, ?_⟩
          refine res_call S4 k fun x ts5 _ k v H5 hv rd5 S5 => ?_
          exact fin v H5 x ts5 hv rd5 S5 k
        · rw [if_neg e2] at k
          refine ⟨rfl, false, eq_f e2, ?_⟩
          walk_at "rd"
          walk_at "mt"
          refine ⟨p, tl, _, rfl, rd4, ?_⟩
          refine res_call S4 k fun x ts5 _ k v H5 hv rd5 S5 => ?_
          exact fin v H5 x ts5 hv rd5 S5 k
      · rw [if_neg e] at k
        refine ⟨false, congrArg V.bl (show inV _ _ = false by rw [inV_str]; exact decide_eq_false e), ?_⟩
        walk_at "rd"
        refine ⟨F, vs, rfl, .inl ⟨sq_of F4, fun l nl => ?_⟩⟩
        rw [sts_map] at va
        exact k _ _ (.tup upd_same (va.new nl)) (rd4.new nl) (S4.upd_new nl)
end
end W4
set_option Elab.async false
set_option linter.all false
set_option maxRecDepth 100000
set_option maxHeartbeats 4000000
set_option pp.maxSteps 400
namespace W4
open PySem PySem.Spec PyProof.Rows L2
local macro_rules | `(tactic| walk_at "rd") => `(tactic| repeat (first | refine ⟨_, rfl, ?_⟩ | refine ⟨_, _, rfl, rfl, ?_⟩ | refine ⟨rfl, _, rfl, ?_⟩))
local macro_rules | `(tactic| walk_at "mt") => `(tactic| (refine Rd.go (by assumption) (by decide +kernel) (by decide +kernel) ?_; repeat (first | refine ⟨_, rfl, ?_⟩ | refine ⟨_, _, rfl, rfl, ?_⟩ | refine ⟨rfl, _, rfl, ?_⟩)))
section
variable {P : Program} {w : World} {K : PySem.W.Frag} {mg : Str → Option Value} {base : Heap}
theorem ok_rst (T : Txt K mg w) {n : Nat} (I : StM P w K mg base n) {sps : Sp} (c_Reader_several : Mth P w K mg base (L2.CX P w) (5 + n) "several" sps) (hs : ∀ m, n = m + 1 → ∀ vs H Q E, spSevG (srPart m K) K vs H Q E → sps vs H Q E) : Mth P w K mg base (L2.CX P w) (5 + n + 1) "statement" (srSt (n + 1) K) := by
  have c_Reader_named := I.named
  have c_Reader_compound := I.comp
  have c_Reader_expr := (ok_exM (P := P) (base := base) T n).expr
  have c_Reader_next_sort := ok_next (P := P) (base := base) T
  have c_Reader_fail := ok_fail (P := P) (base := base) T
  have c_Reader_take := ok_rtake (P := P) (base := base) T
  refine T.mthX (k := 5 + n) (d := d_Reader_statement) m_Reader_statement rfl T.me_statement rfl rfl sc_Reader_statement bd_Reader_statement T.cR (fun vs H Q E h => ?_) (fun cdv A outer s H vs Q E hr h => ?_)
  · obtain ⟨p, tl, ts, rfl, _⟩ := h
    rfl
  · obtain ⟨p, tl, ts, rfl, rd, k⟩ := h
    refine ⟨_, (pss_cons (ps_set (i := 1) sc_Reader_statement.nd rfl (.inl rfl) (pe_ml0 c_Reader_next_sort hr (by first | decide | omega) pass0 (pv 0)))
    (pss_cons (ps_if (pt_cmpR op_eq (pv 1) (C8.pe_gc (by rfl) T.v_NAME) (nomark _))
    (pss_one (ps_ret (pe_ml0 c_Reader_named hr (by first | decide | omega) hx_of (pv 0))))
    pss_nil)
    (pss_cons (ps_if (PW.pt (pw_or (pt_cmpR op_notIn_seq (pv 1) (C8.pe_gc (by rfl) T.v_BEGINNINGS) (by with_unfolding_all rfl)) (pw_or1 (pt_cmpR op_eq (pv 1) pe_str (nomark _)))))
    (pss_one (ps_expr (pe_ml0 c_Reader_fail hr (by first | decide | omega) hx_of (pv 0))))
    pss_nil)
    (pss_cons (ps_expr (pe_ml c_Reader_take hr (by first | decide | omega) hx_of (pv 0) (pa_cons (pv 1) pa_nil)))
    (pss_cons (ps_if (pt_cmpR op_in_seq (pv 1) (pe_tup (pa_cons pe_str (pa_cons pe_str (pa_cons pe_str pa_nil)))) (by with_unfolding_all rfl))
    (pss_one (ps_ret (pe_ml c_Reader_compound hr (by first | decide | omega) hx_of (pv 0) (pa_cons (pv 1) pa_nil))))
    pss_nil)
    (pss_cons (ps_if (pt_cmpR op_eq (pv 1) pe_str (nomark _))
    (pss_one (ps_ret (pe_tup (pa_cons (pv 1) (pa_cons (pe_ml c_Reader_take hr (by first | decide | omega) hx_of (pv 0) (pa_cons (C8.pe_gc (by rfl) T.v_NAME) pa_nil)) (pa_cons (pe_ml c_Reader_several hr (by first | decide | omega) hx_of (pv 0) (pa_cons (C8.pe_gc (by rfl) T.v_EXPR) pa_nil)) pa_nil))))))
    pss_nil)
    (pss_cons (ps_if (pt_cmpR op_eq (pv 1) pe_str (nomark _))
    (pss_cons (ps_set (i := 2) sc_Reader_statement.nd rfl (.inl rfl) (pe_ml c_Reader_take hr (by first | decide | omega) hx_of (pv 0) (pa_cons (C8.pe_gc (by rfl) T.v_NAME) pa_nil)))
    (pss_cons (ps_expr (pe_ml c_Reader_take hr (by first | decide | omega) hx_of (pv 0) (pa_cons pe_str pa_nil)))
    (pss_one (ps_ret (pe_tup (pa_cons (pv 1) (pa_cons (pv 2) (pa_cons (pe_ml0 c_Reader_expr hr (by first | decide | omega) hx_of (pv 0)) pa_nil))))))))
    pss_nil)
    (pss_one (ps_ret (pe_ifExp (pt_cmpR op_eq (pv 1) pe_str (nomark _)) (pe_tup (pa_cons (pv 1) (pa_cons (pe_ml c_Reader_take hr (by first | decide | omega) hx_of (pv 0) (pa_cons (C8.pe_gc (by rfl) T.v_NAME) pa_nil)) (pa_cons (pe_ml0 c_Reader_expr hr (by first | decide | omega) hx_of (pv 0)) pa_nil)))) (pe_tup (pa_cons (pv 1) (pa_cons (pe_ml0 c_Reader_expr hr (by first | decide | omega) hx_of (pv 0)) pa_nil))))))))))))), ?_⟩
    rw [K4.pStmt] at k
    walk_at "rd"
    walk_at "mt"
    refine nx_go rd ?_
    generalize eh : K4.hd ts = hw at k ⊢
    refine ⟨_, rfl, ?_⟩
    by_cases e : hw = K4.nm
    · rw [if_pos e] at k
      refine ⟨rfl, true, eq_t e, ?_⟩
      walk_at "rd"
      walk_at "mt"
      exact ⟨p, tl, _, rfl, rd, k⟩
    rw [if_neg e] at k
    refine ⟨rfl, false, eq_f e, ?_⟩
    refine ⟨_, rfl, ?_⟩
    refine ⟨_, begsL.map V.str, rfl, .inr (T.mor.begs _), rfl, flat_strs _, ?_⟩
    by_cases e2 : hw ∈ K4.beginnings
    · refine ⟨false, congrArg V.bl (show (!inV _ _) = false by rw [inV_str, show decide (hw ∈ begsL) = true from decide_eq_true e2] <;> rfl), ?_⟩
      refine ⟨_, rfl, ?_⟩
      by_cases e3 : hw = "here"
      · rw [if_pos (.inr e3)] at k
        refine ⟨rfl, true, eq_t e3, ?_⟩
        walk_at "rd"
        walk_at "mt"
        exact ⟨p, tl, ts, rfl, rd, k⟩
      rw [if_neg (fun z => z.elim (fun z => z e2) e3)] at k
      refine ⟨rfl, false, eq_f e3, ?_⟩
      walk_at "rd"
      walk_at "mt"
      refine tk_go rd (Sm.refl _ _) (adv_go eh k) fun _ ts1 _ k H1 rd1 S1 => ?_
      refine ⟨_, rfl, sz rfl, fun q nq => ?_⟩
      have rd2 := rd1.new (o := .tup [.str "if", .str "while", .str "try"]) nq
      have S2 := S1.upd_new (o := .tup [.str "if", .str "while", .str "try"]) nq
      refine ⟨q, (["if", "while", "try"] : List Str).map V.str, rfl, .inr (st_of upd_same), rfl, flat_strs _, ?_⟩
      by_cases e4 : hw = "if" ∨ hw = "while" ∨ hw = "try"
      · rw [if_pos e4] at k
        refine ⟨true, congrArg V.bl (show inV _ _ = true by rw [inV_str]; exact decide_eq_true (by simpa using e4)), ?_⟩
        walk_at "rd"
        walk_at "mt"
        exact ⟨hw, e4, p, tl, ts1, rfl, rd2, k.sm S2⟩
      rw [if_neg e4] at k
      refine ⟨false, congrArg V.bl (show inV _ _ = false by rw [inV_str]; exact decide_eq_false (by simpa using e4)), ?_⟩
      refine ⟨_, rfl, ?_⟩
      by_cases e5 : hw = "spawn"
      · rw [if_pos e5] at k
        refine ⟨rfl, true, eq_t e5, ?_⟩
        walk_at "rd"
        walk_at "mt"
        refine tk_go rd2 S2 k fun x ts3 _ k H3 rd3 S3 => ?_
        have S3' := S2.trans S3
        cases n with
        | zero => exact k.elim
        | succ n =>
          rw [K4.pSevE] at k
          walk_at "rd"
          walk_at "mt"
          refine hs n rfl _ _ _ _ (sev_go (f := K4.Ex.toD) rd3 S3' (fun vs H Q E h => .inr (.inl h)) k fun as ts4 k v H4 hv rd4 S4 => ?_)
          walk_at "rd"
          rw [exs_map] at hv
          rw [e5]
          exact ⟨sz rfl, fun q nq => k _ _ (.tup upd_same (.cons (.str _) (.cons (.str _) (.cons (hv.new nq) .nil)))) (rd4.new nq) ((S3'.trans S4).upd_new nq)⟩
      rw [if_neg e5] at k
      refine ⟨rfl, false, eq_f e5, ?_⟩
      refine ⟨_, rfl, ?_⟩
      by_cases e6 : hw = "let"
      · rw [if_pos e6] at k
        refine ⟨rfl, true, eq_t e6, ?_⟩
        walk_at "rd"
        walk_at "mt"
        refine tk_go rd2 S2 k fun x ts3 _ k H3 rd3 S3 => ?_
        have S3' := S2.trans S3
        walk_at "rd"
        walk_at "mt"
        refine tk_go rd3 S3' k fun _ ts4 _ k H4 rd4 S4 => ?_
        have S4' := S3'.trans S4
        walk_at "rd"
        walk_at "mt"
        refine ⟨p, tl, _, rfl, rd4, ?_⟩
        refine res_call S4' k fun x ts5 _ k v H5 hv rd5 S5 => ?_
        walk_at "rd"
        rw [e6]
        exact ⟨sz rfl, fun q nq => k _ _ (.tup upd_same (.cons (.str _) (.cons (.str _) (.cons (hv.new nq) .nil)))) (rd5.new nq) ((S4'.trans S5).upd_new nq)⟩
      rw [if_neg e6] at k
      refine ⟨rfl, false, eq_f e6, ?_⟩
      refine ⟨_, rfl, ?_⟩
      by_cases e7 : hw = "send"
      · rw [if_pos e7] at k
        refine ⟨rfl, true, eq_t e7, ?_⟩
        walk_at "rd"
        walk_at "mt"
        refine tk_go rd2 S2 k fun x ts3 _ k H3 rd3 S3 => ?_
        have S3' := S2.trans S3
        walk_at "rd"
        walk_at "mt"
        refine ⟨p, tl, _, rfl, rd3, ?_⟩
        refine res_call S3' k fun x ts5 _ k v H5 hv rd5 S5 => ?_
        walk_at "rd"
        rw [e7]
        exact ⟨sz rfl, fun q nq => k _ _ (.tup upd_same (.cons (.str _) (.cons (.str _) (.cons (hv.new nq) .nil)))) (rd5.new nq) ((S3'.trans S5).upd_new nq)⟩
      rw [if_neg e7] at k
      refine ⟨rfl, false, eq_f e7, ?_⟩
      walk_at "rd"
      walk_at "mt"
      refine ⟨p, tl, _, rfl, rd2, ?_⟩
      refine res_call S2 k fun x ts5 _ k v H5 hv rd5 S5 => ?_
      walk_at "rd"
      refine ⟨sz rfl, fun q nq => k _ _ ?_ (rd5.new nq) ((S2.trans S5).upd_new nq)⟩
      by_cases e8 : hw = "return"
      · rw [if_pos e8, e8]
        exact .tup upd_same (.cons (.str _) (.cons (hv.new nq) .nil))
      · rw [if_neg e8]
        have e9 : hw = "throw" := by
          have m : hw ∈ (["name", "let", "if", "while", "return", "throw", "send", "spawn", "try", "here"] : List Str) := e2
          simp only [List.mem_cons, List.not_mem_nil, or_false] at m
          rcases m with m | m | m | m | m | m | m | m | m | m
          · exact absurd m e
          · exact absurd m e6
          · exact absurd (.inl m) e4
          · exact absurd (.inr (.inl m)) e4
          · exact absurd m e8
          · exact m
          · exact absurd m e7
          · exact absurd m e5
          · exact absurd (.inr (.inr m)) e4
          · exact absurd m e3
        rw [e9]
        exact .tup upd_same (.cons (.str _) (.cons (hv.new nq) .nil))
    · rw [if_pos (.inl e2)] at k
      refine ⟨true, congrArg V.bl (show (!inV _ _) = true by rw [inV_str, show decide (hw ∈ begsL) = false from decide_eq_false e2] <;> rfl), ?_⟩
      walk_at "rd"
      walk_at "mt"
      exact ⟨p, tl, ts, rfl, rd, k⟩
end
end W4
set_option Elab.async false
set_option linter.all false
set_option maxRecDepth 100000
set_option maxHeartbeats 4000000
set_option pp.maxSteps 400
namespace W4
open PySem PySem.Spec PyProof.Rows L2
local macro_rules | `(tactic| walk_at "rd") => `(tactic| repeat (first | refine ⟨_, rfl, ?_⟩ | refine ⟨_, _, rfl, rfl, ?_⟩ | refine ⟨rfl, _, rfl, ?_⟩))
local macro_rules | `(tactic| walk_at "mt") => `(tactic| (refine Rd.go (by assumption) (by decide +kernel) (by decide +kernel) ?_; repeat (first | refine ⟨_, rfl, ?_⟩ | refine ⟨_, _, rfl, rfl, ?_⟩ | refine ⟨rfl, _, rfl, ?_⟩)))
section
variable {P : Program} {w : World} {K : PySem.W.Frag} {mg : Str → Option Value} {base : Heap}
theorem if_and1 {α : Type} {a b : Prop} [Decidable a] [Decidable b] (h : a) (x y : α) : (if a ∧ b then x else y) = if b then x else y := by
  by_cases z : b
  · rw [if_pos ⟨h, z⟩, if_pos z]
  · rw [if_neg (fun w => z w.2), if_neg z]
theorem ok_rcomp (T : Txt K mg w) {n : Nat} (I : StM P w K mg base n) : Mth P w K mg base (L2.CX P w) (5 + n + 1) "compound" (srComp (n + 1) K) := by
  have c_Reader_statements := I.sts
  have c_Reader_expr := (ok_exM (P := P) (base := base) T n).expr
  have c_Reader_take := ok_rtake (P := P) (base := base) T
  have c_Reader_passed := ok_passed (P := P) (base := base) T
  refine T.mthX (k := 5 + n) (d := d_Reader_compound) m_Reader_compound rfl T.me_compound rfl rfl sc_Reader_compound bd_Reader_compound T.cR (fun vs H Q E h => ?_) (fun cdv A outer s H vs Q E hr h => ?_)
  · obtain ⟨word, hw, p, tl, ts, rfl, _⟩ := h
    rfl
  · obtain ⟨word, hw, p, tl, ts, rfl, rd, k⟩ := h
    refine ⟨_, (pss_cons (ps_if (pt_cmpR op_eq (pv 1) pe_str (nomark _))
    (pss_cons (ps_set (i := 2) sc_Reader_compound.nd rfl (.inl rfl) (pe_ml0 c_Reader_statements hr (by first | decide | omega) hx_of (pv 0)))
    (pss_cons (ps_expr (pe_ml c_Reader_take hr (by first | decide | omega) hx_of (pv 0) (pa_cons pe_str pa_nil)))
    (pss_one (ps_set (i := 3) sc_Reader_compound.nd rfl (.inl rfl) (pe_tup (pa_cons (pv 1) (pa_cons (pv 2) (pa_cons (pe_ml c_Reader_take hr (by first | decide | omega) hx_of (pv 0) (pa_cons (C8.pe_gc (by rfl) T.v_NAME) pa_nil)) (pa_cons (pe_ml0 c_Reader_statements hr (by first | decide | omega) hx_of (pv 0)) pa_nil)))))))))
    (pss_cons (ps_set (i := 3) sc_Reader_compound.nd rfl (.inl rfl) (pe_tup (pa_cons (pv 1) (pa_cons (pe_ml0 c_Reader_expr hr (by first | decide | omega) hx_of (pv 0)) (pa_cons (pe_ml0 c_Reader_statements hr (by first | decide | omega) hx_of (pv 0)) pa_nil)))))
    (pss_one (ps_if (pt_cmpR op_eq (pv 1) pe_str (nomark _))
    (pss_one (ps_set (i := 3) sc_Reader_compound.nd rfl (.inl rfl) (pe_op op_catT (pv 3) (pe_tup (pa_cons (pe_ifExp (pt_val (pe_ml c_Reader_passed hr (by first | decide | omega) pass0 (pv 0) (pa_cons pe_str pa_nil))) (pe_ml0 c_Reader_statements hr (by first | decide | omega) hx_of (pv 0)) (pe_tup pa_nil)) pa_nil)))))
    pss_nil))))
    (pss_cons (ps_expr (pe_ml c_Reader_take hr (by first | decide | omega) hx_of (pv 0) (pa_cons pe_str pa_nil)))
    (pss_one (ps_ret (pv 3))))), ?_⟩
    rw [K4.pComp] at k
    refine ⟨_, rfl, ?_⟩
    by_cases e : word = "try"
    · rw [if_pos e] at k
      refine ⟨rfl, true, eq_t e, ?_⟩
      walk_at "rd"
      walk_at "mt"
      refine ⟨p, tl, _, rfl, rd, ?_⟩
      refine res_call (Sm.refl _ _) k fun a ts1 _ k v H1 hv rd1 S1 => ?_
      walk_at "rd"
      walk_at "mt"
      refine tk_go rd1 S1 k fun _ ts2 _ k H2 rd2 S2 => ?_
      have hv2 := hv.sm S2 rd1
      have S2' := S1.trans S2
      walk_at "rd"
      walk_at "mt"
      refine tk_go rd2 S2' k fun x ts3 _ k H3 rd3 S3 => ?_
      have hv3 := hv2.sm S3 rd2
      have S3' := S2'.trans S3
      walk_at "rd"
      walk_at "mt"
      refine ⟨p, tl, _, rfl, rd3, ?_⟩
      refine res_call S3' k fun b ts4 _ k w H4 hw rd4 S4 => ?_
      have hv4 := hv3.sm S4 rd3
      have S4' := S3'.trans S4
      walk_at "rd"
      refine ⟨sz rfl, fun q nq => ?_⟩
      have rd5 := rd4.new (o := .tup [.str word, v, .str x, w]) nq
      have S5 := S4'.upd_new (o := .tup [.str word, v, .str x, w]) nq
      have hq : Va (upd H4 q (.tup [.str word, v, .str x, w])) (.ref q) (K4.St.toD (.tri a x b)) := .tup upd_same (by rw [e]; exact .cons (.str _) (.cons (hv4.new nq) (.cons (.str _) (.cons (hw.new nq) .nil))))
      walk_at "rd"
      walk_at "mt"
      refine tk_go rd5 S5 k fun _ ts6 _ k H6 rd6 S6 => ?_
      walk_at "rd"
      exact k _ _ (hq.sm S6 rd5) rd6 (S5.trans S6)
    rw [if_neg e] at k
    refine ⟨rfl, false, eq_f e, ?_⟩
    walk_at "rd"
    walk_at "mt"
    refine ⟨p, tl, _, rfl, rd, ?_⟩
    refine res_call (Sm.refl _ _) k fun c ts1 _ k v H1 hv rd1 S1 => ?_
    walk_at "rd"
    walk_at "mt"
    refine ⟨p, tl, _, rfl, rd1, ?_⟩
    refine res_call S1 k fun a ts2 _ k v2 H2 hv2 rd2 S2 => ?_
    have hvb := hv.sm S2 rd1
    have S2' := S1.trans S2
    walk_at "rd"
    refine ⟨sz rfl, fun q nq => ?_⟩
    have rd3 := rd2.new (o := .tup [.str word, v, v2]) nq
    have S3 := S2'.upd_new (o := .tup [.str word, v, v2]) nq
    have hc3 := hvb.new (o := .tup [.str word, v, v2]) nq
    have ha3 := hv2.new (o := .tup [.str word, v, v2]) nq
    have atq : (upd H2 q (.tup [.str word, v, v2])) q = some (.tup [.str word, v, v2]) := upd_same
    refine ⟨_, rfl, ?_⟩
    by_cases e2 : word = "if"
    · refine ⟨rfl, true, eq_t e2, ?_⟩
      have qp := rd2.ne nq
      walk_at "rd"
      walk_at "mt"
      rw [if_and1 e2] at k
      refine ps_go rd3 k (fun t t' r et k H4 rd4 S4 => ?_) (fun e k H4 rd4 S4 => ?_)
      · have hc4 := hc3.sm S4 rd3
        have ha4 := ha3.sm S4 rd3
        have at4 := S4 _ _ atq qp
        have S4' := S3.trans S4
        walk_at "rd"
        walk_at "mt"
        refine ⟨p, tl, _, rfl, rd4, ?_⟩
        refine res_call S4' k fun b ts5 _ k v3 H5 hb rd5 S5 => ?_
        have hc5 := hc4.sm S5 rd4
        have ha5 := ha4.sm S5 rd4
        have at5 := S5 _ _ at4 qp
        have S5' := S4'.trans S5
        walk_at "rd"
        refine ⟨sz rfl, fun r nr => ?_⟩
        refine ⟨q, r, _, _, rfl, rfl, st_of (at_new at5 nr), st_of upd_same, List.cons_ne_nil _ _, sz rfl, (fun z => nomatch z), fun _ u nu => ?_⟩
        have rd6 := (rd5.new (o := .tup [v3]) nr).new (o := .tup ([.str word, v, v2] ++ [v3])) nu
        have S6 := (S5'.upd_new (o := .tup [v3]) nr).upd_new (o := .tup ([.str word, v, v2] ++ [v3])) nu
        have hq : Va (upd (upd H5 r (.tup [v3])) u (.tup ([.str word, v, v2] ++ [v3]))) (.ref u) (K4.St.toD (K4.mkComp word c a b)) := by
          unfold K4.mkComp
          rw [if_pos e2, e2]
          exact .tup upd_same (.cons (.str _) (.cons ((hc5.new nr).new nu) (.cons ((ha5.new nr).new nu) (.cons ((hb.new nr).new nu) .nil))))
        walk_at "rd"
        walk_at "mt"
        refine tk_go rd6 S6 k fun _ ts7 _ k H7 rd7 S7 => ?_
        walk_at "rd"
        exact k _ _ (hq.sm S7 rd6) rd7 (S6.trans S7)
      · have hc4 := hc3.sm S4 rd3
        have ha4 := ha3.sm S4 rd3
        have at4 := S4 _ _ atq qp
        have S4' := S3.trans S4
        walk_at "rd"
        refine ⟨sz rfl, fun o no => ?_⟩
        have hc5 := hc4.new (o := .tup []) no
        have ha5 := ha4.new (o := .tup []) no
        have at5 := at_new (o := .tup []) at4 no
        have rd5 := rd4.new (o := .tup []) no
        have S5' := S4'.upd_new (o := .tup []) no
        have hb : Va (upd H4 o (.tup [])) (.ref o) (.tuple (K4.stsD [])) := .tup upd_same .nil
        walk_at "rd"
        refine ⟨sz rfl, fun r nr => ?_⟩
        refine ⟨q, r, _, _, rfl, rfl, st_of (at_new at5 nr), st_of upd_same, List.cons_ne_nil _ _, sz rfl, (fun z => nomatch z), fun _ u nu => ?_⟩
        have rd6 := (rd5.new (o := .tup [.ref o]) nr).new (o := .tup ([.str word, v, v2] ++ [.ref o])) nu
        have S6 := (S5'.upd_new (o := .tup [.ref o]) nr).upd_new (o := .tup ([.str word, v, v2] ++ [.ref o])) nu
        have hq : Va (upd (upd (upd H4 o (.tup [])) r (.tup [.ref o])) u (.tup ([.str word, v, v2] ++ [.ref o]))) (.ref u) (K4.St.toD (K4.mkComp word c a [])) := by
          unfold K4.mkComp
          rw [if_pos e2, e2]
          exact .tup upd_same (.cons (.str _) (.cons ((hc5.new nr).new nu) (.cons ((ha5.new nr).new nu) (.cons ((hb.new nr).new nu) .nil))))
        walk_at "rd"
        walk_at "mt"
        refine tk_go rd6 S6 k fun _ ts7 _ k H7 rd7 S7 => ?_
        walk_at "rd"
        exact k _ _ (hq.sm S7 rd6) rd7 (S6.trans S7)
    · refine ⟨rfl, false, eq_f e2, ?_⟩
      rw [if_neg (fun z => e2 z.1)] at k
      have e3 : word = "while" := by rcases hw with h | h | h <;> first | exact h | exact absurd h e2 | exact absurd h e
      walk_at "rd"
      walk_at "mt"
      refine tk_go rd3 S3 k fun _ ts6 _ k H6 rd6 S6 => ?_
      walk_at "rd"
      refine k _ _ ?_ rd6 (S3.trans S6)
      refine Va.sm (H := upd H2 q (.tup [.str word, v, v2])) ?_ S6 rd3
      unfold K4.mkComp
      rw [if_neg e2, e3]
      rw [e3] at atq hc3 ha3
      exact .tup atq (.cons (.str _) (.cons hc3 (.cons ha3 .nil)))
end
end W4
set_option Elab.async false
set_option linter.all false
set_option maxRecDepth 100000
set_option maxHeartbeats 4000000
set_option pp.maxSteps 400
namespace W4
open PySem PySem.Spec PyProof.Rows L2
local macro_rules | `(tactic| walk_at "rd") => `(tactic| repeat (first | refine ⟨_, rfl, ?_⟩ | refine ⟨_, _, rfl, rfl, ?_⟩ | refine ⟨rfl, _, rfl, ?_⟩))
local macro_rules | `(tactic| walk_at "mt") => `(tactic| (refine Rd.go (by assumption) (by decide +kernel) (by decide +kernel) ?_; repeat (first | refine ⟨_, rfl, ?_⟩ | refine ⟨_, _, rfl, rfl, ?_⟩ | refine ⟨rfl, _, rfl, ?_⟩)))
section
variable {P : Program} {w : World} {K : PySem.W.Frag} {mg : Str → Option Value} {base : Heap}
theorem cut_last (path : List Str) : cutV (path.map V.str) none (some (-1)) = path.dropLast.map V.str := by
  have e : ∀ n : Nat, HT.sIx n n (some (-1)) = n - 1 := fun n => by
    show (if (-1 : Int) < 0 then ((-1 : Int) + (n : Int)).toNat else min (-1 : Int).toNat n) = n - 1
    rw [if_pos (by decide)]
    omega
  unfold cutV
  rw [HT.sIx_none, e, List.drop_zero, List.dropLast_eq_take, List.map_take, List.length_map, Nat.sub_zero]
theorem at_last (r : List Str) (f : Str) : atI ((r ++ [f]).map V.str) (-1) = some (.str f) := by
  unfold atI ixN
  rw [if_neg (by decide), List.map_append, List.length_append, List.length_map]
  show ((if -(((r.length + 1 : Nat)) : Int) ≤ -1 then some ((-1 : Int) + ((r.length + 1 : Nat) : Int)).toNat else none).bind fun j => (r.map V.str ++ [V.str f])[j]?) = _
  rw [if_pos (by omega)]
  show (r.map V.str ++ [V.str f])[((-1 : Int) + ((r.length + 1 : Nat) : Int)).toNat]? = _
  rw [show ((-1 : Int) + ((r.length + 1 : Nat) : Int)).toNat = (r.map V.str).length by rw [List.length_map]; omega, List.getElem?_append_right (Nat.le_refl _), Nat.sub_self]
  rfl
theorem ite_bind {α β : Type} {c : Prop} [Decidable c] (a b : K4.R α) (f : α → List K4.Tk → K4.R β) : (if c then a else b).bind f = if c then a.bind f else b.bind f := by
  by_cases h : c
  · rw [if_pos h, if_pos h]
  · rw [if_neg h, if_neg h]
theorem ok_rnamed (T : Txt K mg w) {n : Nat} {sps : Sp} (c_Reader_several : Mth P w K mg base (L2.CX P w) (5 + n) "several" sps) (hs : ∀ m, n = m + 1 → ∀ vs H Q E, spSevG (srPart m K) K vs H Q E → sps vs H Q E) : Mth P w K mg base (L2.CX P w) (5 + n + 1) "named" (srNamed (n + 1) K) := by
  have c_Reader_expr := (ok_exM (P := P) (base := base) T n).expr
  have c_Reader_next_sort := ok_next (P := P) (base := base) T
  have c_Reader_take := ok_rtake (P := P) (base := base) T
  have c_Reader_passed := ok_passed (P := P) (base := base) T
  refine T.mthX (k := 5 + n) (d := d_Reader_named) m_Reader_named rfl T.me_named rfl rfl sc_Reader_named bd_Reader_named T.cR (fun vs H Q E h => ?_) (fun cdv A outer s H vs Q E hr h => ?_)
  · obtain ⟨p, tl, ts, rfl, _⟩ := h
    rfl
  · obtain ⟨p, tl, ts, rfl, rd, k⟩ := h
    refine ⟨_, (pss_cons (ps_par (i := 1) (j := 2) rfl sc_Reader_named.nd rfl rfl (by decide) rfl rfl (pa_cons (pe_ml c_Reader_take hr (by first | decide | omega) hx_of (pv 0) (pa_cons (C8.pe_gc (by rfl) T.v_NAME) pa_nil)) (pa_cons (pe_lst pa_nil) pa_nil)) (by rfl))
    (pss_cons (ps_if (pt_cmpR op_eq (pe_ml0 c_Reader_next_sort hr (by first | decide | omega) pass0 (pv 0)) pe_str (nomark _))
    (pss_one (ps_ret (pe_tup (pa_cons pe_str (pa_cons (pe_tup (pa_cons pe_str (pa_cons (pv 1) (pa_cons (pe_ml c_Reader_several hr (by first | decide | omega) hx_of (pv 0) (pa_cons (C8.pe_gc (by rfl) T.v_EXPR) pa_nil)) pa_nil)))) pa_nil)))))
    pss_nil)
    (pss_cons (ps_while (passes_of rfl) (pt_val (pe_ml c_Reader_passed hr (by first | decide | omega) pass0 (pv 0) (pa_cons pe_str pa_nil)))
    (pss_one (ps_expr (pe_bm PySem.F.plainAttrs_list PySem.F.slot_list_append PySem.F.type_list_append mt_append (pv 2) (pa_cons (pe_ml c_Reader_take hr (by first | decide | omega) hx_of (pv 0) (pa_cons (C8.pe_gc (by rfl) T.v_NAME) pa_nil)) pa_nil)))))
    (pss_cons (ps_expr (pe_ml c_Reader_take hr (by first | decide | omega) hx_of (pv 0) (pa_cons pe_str pa_nil)))
    (pss_cons (ps_par (i := 3) (j := 4) rfl sc_Reader_named.nd rfl rfl (by decide) rfl rfl (pa_cons (pe_ml0 c_Reader_expr hr (by first | decide | omega) hx_of (pv 0)) (pa_cons (pe_tup (pa_cons pe_str (pa_cons (pv 1) pa_nil))) pa_nil)) (by rfl))
    (pss_cons (ps_for (passes_of rfl) rfl (pi_list (pe_slice sl_list (pv 2) po_none (po_some (pe_un un_neg pe_int)))) (pg_name (i := 5) sc_Reader_named.nd rfl (.inl rfl))
    (pss_one (ps_set (i := 4) sc_Reader_named.nd rfl (.inl rfl) (pe_tup (pa_cons pe_str (pa_cons (pv 4) (pa_cons (pv 5) pa_nil)))))))
    (pss_one (ps_ret (pe_ifExp (pt_cmpR op_gt (pe_callB call_len (by rfl) T.f_len (by decide +kernel) (pa_cons (pv 2) pa_nil)) pe_int (nomark _)) (pe_tup (pa_cons pe_str (pa_cons (pv 4) (pa_cons (pe_ix ix_list (pv 2) (pe_un un_neg pe_int) (fun _ _ => rfl)) (pa_cons (pv 3) pa_nil))))) (pe_tup (pa_cons pe_str (pa_cons (pv 1) (pa_cons (pv 3) pa_nil))))))))))))), ?_⟩
    rw [K4.pNamed] at k
    have sL := sL
    walk_at "rd"
    walk_at "mt"
    refine tk_go rd (Sm.refl _ _) k fun x ts1 _ k H1 rd1 S1 => ?_
    refine ⟨Nat.zero_le _, fun F nF => ?_⟩
    have Fp := rd1.ne nF
    have Ft := rd1.nel nF
    have nF0 := S1.free nF rd.there rd1.there
    replace rd1 := rd1.new (o := .lst []) nF
    replace S1 := S1.upd_new (o := .lst []) nF
    have lt := rd1.lt
    refine ⟨_, _, rfl, ?_⟩
    walk_at "rd"
    walk_at "mt"
    refine nx_go rd1 ?_
    by_cases e : K4.hd ts1 = "("
    · rw [if_pos e] at k
      refine ⟨rfl, true, eq_t e, ?_⟩
      cases n with
      | zero => exact k.elim
      | succ n =>
        rw [K4.pSevE] at k
        walk_at "rd"
        walk_at "mt"
        refine hs n rfl _ _ _ _ (sev_go (f := K4.Ex.toD) rd1 S1 (fun vs H Q E h => .inr (.inl h)) k fun as ts4 k v H4 hv rd4 S4 => ?_)
        walk_at "rd"
        rw [exs_map] at hv
        refine ⟨sz rfl, fun q nq => ?_⟩
        walk_at "rd"
        refine ⟨sz rfl, fun q2 nq2 => ?_⟩
        exact k _ _ (.tup upd_same (.cons (.str _) (.cons (.tup (at_new upd_same nq2) (.cons (.str _) (.cons (.str _) (.cons ((hv.new nq).new nq2) .nil)))) .nil))) ((rd4.new nq).new nq2) (((S1.trans S4).upd_new nq).upd_new nq2)
    rw [if_neg e] at k
    refine ⟨rfl, false, eq_f e, ?_⟩
    walk_at "rd"
    refine ⟨fun j σ H4 => ∃ path ts3 y3 y4 y5, σ = [some (.ref p), some (.str x), some (.ref F), y3, y4, y5] ∧ H4 F = some (.lst ((path : List Str).map V.str)) ∧ path.length + j ≤ 2 ^ 20 + 12 ∧ Rd K H4 p tl ts3 ∧ Sm p H H4 ∧ Res K ((K4.pathLoop j path ts3).bind fun path ts2 => (K4.take "=" ts2).bind fun _ ts3 => (K4.pExpr n ts3).bind fun v ts4 => .ok (K4.mkSet x path v) ts4) K4.St.toD p tl H Q E, ⟨_, [], ts1, _, _, _, rfl, upd_same, (by show 0 + (ts1.length + 1) ≤ _; omega), rd1, S1, k⟩, ?_⟩
    rintro j σ H4 ⟨path, ts4, y3, y4, y5, rfl, F4, lj, rd4, S4, k⟩
    cases j with
    | zero => exact k.elim
    | succ j =>
      rw [K4.pathLoop] at k
      walk_at "rd"
      walk_at "mt"
      rw [ite_bind, adv_bind] at k
      refine ps_go rd4 k (fun t t' r et k H5 rd5 S5 => ?_) (fun e k H5 rd5 S5 => ?_)
      · rw [bind_bind] at k
        have F5 := S5 F _ F4 Fp
        have S5' := S4.trans S5
        walk_at "rd"
        refine ⟨fun σ' H4 => ∃ path ts3 y3 y4 y5, σ' = [some (.ref p), some (.str x), some (.ref F), y3, y4, y5] ∧ H4 F = some (.lst ((path : List Str).map V.str)) ∧ path.length + j ≤ 2 ^ 20 + 12 ∧ Rd K H4 p tl ts3 ∧ Sm p H H4 ∧ Res K ((K4.pathLoop j path ts3).bind fun path ts2 => (K4.take "=" ts2).bind fun _ ts3 => (K4.pExpr n ts3).bind fun v ts4 => .ok (K4.mkSet x path v) ts4) K4.St.toD p tl H Q E, fun σ' H' h => ⟨j, Nat.lt_succ_self _, h⟩, ?_⟩
        walk_at "rd"
        refine ⟨.inl ⟨rfl, _, sq_of F5⟩, ?_⟩
        walk_at "rd"
        walk_at "mt"
        refine tk_go rd5 S5' k fun f ts6 _ k H6 rd6 S6 => ?_
        have F6 := S6 F _ F5 Fp
        refine ⟨F, _, .str f, rfl, rfl, F6, (by rw [List.length_map]; omega), ?_⟩
        refine ⟨path ++ [f], ts6, _, _, _, rfl, ?_, ?_, rd6.lst F6 Fp Ft, (S5'.trans S6).own nF0, k⟩
        · rw [upd_same, List.map_append]
          rfl
        · rw [List.length_append]
          show path.length + 1 + j ≤ _
          omega
      · have F5 := S5 F _ F4 Fp
        have S5' := S4.trans S5
        walk_at "rd"
        walk_at "mt"
        refine tk_go rd5 S5' k fun _ ts6 _ k H6 rd6 S6 => ?_
        have F6 := S6 F _ F5 Fp
        have S6' := S5'.trans S6
        walk_at "rd"
        walk_at "mt"
        refine ⟨p, tl, _, rfl, rd6, ?_⟩
        refine res_call S6' k fun v ts7 _ k vv H7 hv rd7 S7 => ?_
        have F7 := S7 F _ F6 Fp
        have S7' := S6'.trans S7
        walk_at "rd"
        refine ⟨sz rfl, fun q nq => ?_⟩
        refine ⟨_, _, rfl, ?_⟩
        walk_at "rd"
        refine ⟨F, _, rfl, sq_of (at_new F7 nq), fun D nD => ?_⟩
        have hc := cut_last path
        have hcv : cutV (path.map V.str) none (some (-1 : Int)) = path.dropLast.map V.str := hc
        have FD : F ≠ D := fun z => by rw [← z, at_new F7 nq] at nD; exact nomatch nD
        have rd8 := (rd7.new (o := .tup [.str "var", .str x]) nq).new (o := .lst (cutV (path.map V.str) none (some (-1 : Int)))) nD
        have S8 := (S7'.upd_new (o := .tup [.str "var", .str x]) nq).upd_new (o := .lst (cutV (path.map V.str) none (some (-1 : Int)))) nD
        have F8 := at_new (o := .lst (cutV (path.map V.str) none (some (-1 : Int)))) (at_new (o := .tup [.str "var", .str x]) F7 nq) nD
        have hv8 := (hv.new (o := .tup [.str "var", .str x]) nq).new (o := .lst (cutV (path.map V.str) none (some (-1 : Int)))) nD
        have hq8 : Va (upd (upd H7 q (.tup [.str "var", .str x])) D (.lst (cutV (path.map V.str) none (some (-1 : Int))))) (.ref q) (K4.Ex.toD (.var x)) := .tup (at_new upd_same nD) (.cons (.str _) (.cons (.str _) .nil))
        refine ⟨D, rfl, ⟨_, sq_of upd_same⟩, ?_⟩
        refine for_list (xs := path.dropLast.map V.str) (fun i σ H9 => ∃ v4 y5, σ = [some (.ref p), some (.str x), some (.ref F), some vv, some v4, y5] ∧ Va H9 v4 (K4.Ex.toD ((path.dropLast.take i).foldl K4.Ex.get (.var x))) ∧ Va H9 vv (K4.Ex.toD v) ∧ H9 D = some (.lst (path.dropLast.map V.str)) ∧ H9 F = some (.lst (path.map V.str)) ∧ Rd K H9 p tl ts7 ∧ Sm p H H9)
          ⟨_, _, rfl, hq8, hv8, by rw [← hcv]; exact upd_same, F8, rd8, S8⟩ ?_ ?_ ?_
        · rintro i σ H9 _ ⟨v4, y5, rfl, h4, h5, h6, h7, h8, h9⟩
          exact sq_of h6
        · rintro i y σ H9 hy ⟨v4, y5, rfl, h4, h5, h6, h7, h8, h9⟩
          rw [List.getElem?_map] at hy
          obtain ⟨f, hf, rfl⟩ := Option.map_eq_some_iff.mp hy
          walk_at "rd"
          refine ⟨sz rfl, fun r nr => ?_⟩
          refine ⟨.ref r, _, rfl, ?_, h5.new nr, at_new h6 nr, at_new h7 nr, h8.new nr, h9.upd_new nr⟩
          rw [List.take_add_one, hf, List.foldl_append]
          exact .tup upd_same (.cons (.str _) (.cons (h4.new nr) (.cons (.str _) .nil)))
        · rintro σ H9 ⟨v4, y5, rfl, h4, h5, h6, h7, h8, h9⟩
          rw [List.length_map, List.take_length] at h4
          refine ⟨_, rfl, _, path.length, rfl, .inl ⟨_, sq_of h7, by rw [List.length_map]⟩, ?_⟩
          rcases List.eq_nil_or_concat path with rfl | ⟨r, f, ep⟩
          · walk_at "rd"
            exact ⟨sz rfl, fun u nu => k _ _ (.tup upd_same (.cons (.str _) (.cons (.str _) (.cons (h5.new nu) .nil)))) (h8.new nu) (h9.upd_new nu)⟩
          · rw [List.concat_eq_append] at ep
            subst ep
            refine ⟨_, _, rfl, rfl, true, congrArg V.bl (decide_eq_true (by rw [List.length_append]; show (0 : Int) < ((r.length + 1 : Nat) : Int); omega)), ?_⟩
            walk_at "rd"
            refine ⟨F, _, (-1 : Int), .str f, rfl, rfl, sq_of h7, ?_, ?_⟩
            · exact at_last r f
            · walk_at "rd"
              refine ⟨sz rfl, fun u nu => k _ _ ?_ (h8.new nu) (h9.upd_new nu)⟩
              rw [List.dropLast_concat] at h4
              have em : K4.mkSet x (r ++ [f]) v = .put (r.foldl K4.Ex.get (.var x)) f v := by
                unfold K4.mkSet
                rw [List.getLast?_concat, List.dropLast_concat]
              rw [em]
              exact .tup upd_same (.cons (.str _) (.cons (h4.new nu) (.cons (.str _) (.cons (h5.new nu) .nil))))
theorem ok_st0 (T : Txt K mg w) : StM P w K mg base 0 := by
  refine ⟨T.mno (d := d_Reader_statements) m_Reader_statements rfl T.me_statements rfl rfl 4 sc_Reader_statements bd_Reader_statements ?_, T.mno (d := d_Reader_labelled) m_Reader_labelled rfl T.me_labelled rfl rfl 4 sc_Reader_labelled bd_Reader_labelled ?_, T.mno (d := d_Reader_statement) m_Reader_statement rfl T.me_statement rfl rfl 4 sc_Reader_statement bd_Reader_statement ?_,
    T.mno (d := d_Reader_compound) m_Reader_compound rfl T.me_compound rfl rfl 4 sc_Reader_compound bd_Reader_compound ?_, T.mno (d := d_Reader_named) m_Reader_named rfl T.me_named rfl rfl 4 sc_Reader_named bd_Reader_named ?_⟩
  · rintro vs H Q E ⟨p, tl, ts, _, _, k⟩
    exact k.elim
  · rintro vs H Q E ⟨p, tl, ts, _, _, k⟩
    exact k.elim
  · rintro vs H Q E ⟨p, tl, ts, _, _, k⟩
    exact k.elim
  · rintro vs H Q E ⟨w, _, p, tl, ts, _, _, k⟩
    exact k.elim
  · rintro vs H Q E ⟨p, tl, ts, _, _, k⟩
    exact k.elim
theorem ok_sev (T : Txt K mg w) : ∀ n, ∃ sps : Sp, Mth P w K mg base (L2.CX P w) (5 + n) "several" sps ∧ ∀ m, n = m + 1 → ∀ vs H Q E, spSevG (srPart m K) K vs H Q E → sps vs H Q E
  | 0 => ⟨fun _ _ _ _ => False, T.mno (d := d_Reader_several) m_Reader_several rfl T.me_several rfl rfl 4 sc_Reader_several bd_Reader_several fun _ _ _ _ h => h, fun m h => nomatch h⟩
  | m + 1 => ⟨_, ok_several T (k := 5 + m) (by omega) (ok_exM T m).part, fun m' h vs H Q E z => by cases h; exact z⟩
theorem ok_stM (T : Txt K mg w) : ∀ n, StM P w K mg base n
  | 0 => ok_st0 T
  | n + 1 => by
    have I := ok_stM T n
    obtain ⟨sps, c, hs⟩ := ok_sev (P := P) (base := base) T n
    exact ⟨ok_rsts T I, ok_rlab T I, ok_rst T I c hs, ok_rcomp T I, ok_rnamed T c hs⟩
end
end W4
set_option Elab.async false
set_option linter.all false
set_option maxRecDepth 100000
set_option maxHeartbeats 4000000
set_option pp.maxSteps 400
namespace W4
open PySem PySem.Spec PyProof.Rows L2
local macro_rules | `(tactic| walk_at "rd") => `(tactic| repeat (first | refine ⟨_, rfl, ?_⟩ | refine ⟨_, _, rfl, rfl, ?_⟩ | refine ⟨rfl, _, rfl, ?_⟩))
local macro_rules | `(tactic| walk_at "mt") => `(tactic| (refine Rd.go (by assumption) (by decide +kernel) (by decide +kernel) ?_; repeat (first | refine ⟨_, rfl, ?_⟩ | refine ⟨_, _, rfl, rfl, ?_⟩ | refine ⟨rfl, _, rfl, ?_⟩)))
abbrev N_Reader_functions : List Str := ["self", "found", "name", "params"]
abbrev P_Reader_functions : List Str := ["self"]
theorem sc_Reader_functions : FnScope N_Reader_functions P_Reader_functions (defScope s_Reader_functions) := ⟨rfl, rfl, rfl, by decide +kernel, rfl, by decide +kernel, by decide +kernel⟩
theorem bd_Reader_functions (kV doc pm : Value) (an : Option Addr) (cdv ct : Value) (us : List Value) (hl : us.length = P_Reader_functions.length) : bindArgs (PySem.W.fnOf d_Reader_functions.name d_Reader_functions.qual d_Reader_functions.params d_Reader_functions.body d_Reader_functions.scope .none kV doc pm an cdv ct) ⟨us, []⟩ = pure (P_Reader_functions.zip us) := match us, hl with | [_], _ => rfl
abbrev N_read : List Str := ["text"]
abbrev P_read : List Str := ["text"]
theorem sc_read : FnScope N_read P_read (defScope s_read) := ⟨rfl, rfl, rfl, by decide +kernel, rfl, by decide +kernel, by decide +kernel⟩
theorem bd_read (kV doc pm : Value) (an : Option Addr) (cdv ct : Value) (us : List Value) (hl : us.length = P_read.length) : bindArgs (PySem.W.fnOf d_read.name d_read.qual d_read.params d_read.body d_read.scope .none kV doc pm an cdv ct) ⟨us, []⟩ = pure (P_read.zip us) := match us, hl with | [_], _ => rfl
section
variable {P : Program} {w : World} {K : PySem.W.Frag} {mg : Str → Option Value} {base : Heap}
theorem fns_map (p : K4.Pg) : K4.pgD p = .tuple (p.map K4.Fn.toD) := rfl
/-- functions -/
def srFns (n : Nat) (K : PySem.W.Frag) : Sp := spR K [] (K4.pRead n) K4.pgD
theorem ok_rfns (T : Txt K mg w) (n : Nat) : Mth P w K mg base (L2.CX P w) (6 + n + 1) "functions" (srFns n K) := by
  have c_Reader_statements := (ok_stM (P := P) (base := base) T n).sts
  have c_Reader_several := ok_several (P := P) (base := base) T (k := 5) (by omega) (ok_exM T 0).part
  have c_Reader_next_sort := ok_next (P := P) (base := base) T
  have c_Reader_take := ok_rtake (P := P) (base := base) T
  refine T.mthX (k := 6 + n) (d := d_Reader_functions) m_Reader_functions rfl T.me_functions rfl rfl sc_Reader_functions bd_Reader_functions T.cR (fun vs H Q E h => ?_) (fun cdv A outer s H vs Q E hr h => ?_)
  · obtain ⟨p, tl, ts, rfl, _⟩ := h
    rfl
  · obtain ⟨p, tl, ts, rfl, rd, k⟩ := h
    refine ⟨_, (pss_cons (ps_set (i := 1) sc_Reader_functions.nd rfl (.inl rfl) (pe_lst pa_nil))
    (pss_cons (ps_while (passes_of rfl) (pt_cmpR op_ne (pe_ml0 c_Reader_next_sort hr (by first | decide | omega) pass0 (pv 0)) (C8.pe_gc (by rfl) T.v_OVER) (nomark _))
    (pss_cons (ps_expr (pe_ml c_Reader_take hr (by first | decide | omega) hx_of (pv 0) (pa_cons pe_str pa_nil)))
    (pss_cons (ps_par (i := 2) (j := 3) rfl sc_Reader_functions.nd rfl rfl (by decide) rfl rfl (pa_cons (pe_ml c_Reader_take hr (by first | decide | omega) hx_of (pv 0) (pa_cons (C8.pe_gc (by rfl) T.v_NAME) pa_nil)) (pa_cons (pe_ml c_Reader_several hr (by first | decide | omega) hx_of (pv 0) (pa_cons (C8.pe_gc (by rfl) T.v_NAME) pa_nil)) pa_nil)) (by rfl))
    (pss_cons (ps_expr (pe_bm PySem.F.plainAttrs_list PySem.F.slot_list_append PySem.F.type_list_append mt_append (pv 1) (pa_cons (pe_tup (pa_cons (pv 2) (pa_cons (pv 3) (pa_cons (pe_ml0 c_Reader_statements hr (by first | decide | omega) hx_of (pv 0)) pa_nil)))) pa_nil)))
    (pss_one (ps_expr (pe_ml c_Reader_take hr (by first | decide | omega) hx_of (pv 0) (pa_cons pe_str pa_nil))))))))
    (pss_one (ps_ret (pe_callTy call_tuple_of (by rfl) T.f_tuple (by decide +kernel) (pa_cons (pv 1) pa_nil)))))), ?_⟩
    unfold K4.pRead at k
    refine ⟨Nat.zero_le _, fun F nF => ?_⟩
    have Fp := rd.ne nF
    have Ft := rd.nel nF
    have rd0 := rd.new (o := .lst []) nF
    have S0 := (Sm.refl p H).upd_new (o := .lst []) nF
    have sL := sL
    have lt := rd.lt
    walk_at "rd"
    refine ⟨fun j σ H4 => ∃ acc ts3 vs y2 y3, σ = [some (.ref p), some (.ref F), y2, y3] ∧ H4 F = some (.lst vs) ∧ VaL H4 vs (acc.map K4.Fn.toD) ∧ acc.length + j ≤ 2 ^ 20 + 12 ∧ Rd K H4 p tl ts3 ∧ Sm p H H4 ∧ Res K (K4.fnLoop (K4.pStmts n) j acc ts3) K4.pgD p tl H Q E, ⟨_, [], ts, [], _, _, rfl, upd_same, .nil, (by show 0 + (ts.length + 1) ≤ _; omega), rd0, S0, k⟩, ?_⟩
    rintro j σ H4 ⟨acc, ts3, vs, y2, y3, rfl, F4, va, lj, rd4, S4, k⟩
    cases j with
    | zero => exact k.elim
    | succ j =>
      rw [K4.fnLoop] at k
      walk_at "rd"
      walk_at "mt"
      refine nx_go rd4 ?_
      by_cases e : K4.hd ts3 = K4.ov
      · rw [if_pos e] at k
        refine ⟨rfl, false, ne_f e, ?_⟩
        walk_at "rd"
        refine ⟨F, vs, rfl, .inl ⟨sq_of F4, fun l nl => ?_⟩⟩
        exact k _ _ (.tup upd_same (va.new nl)) (rd4.new nl) (S4.upd_new nl)
      · rw [if_neg e] at k
        refine ⟨rfl, true, ne_t e, ?_⟩
        refine ⟨fun σ' H4 => ∃ acc ts3 vs y2 y3, σ' = [some (.ref p), some (.ref F), y2, y3] ∧ H4 F = some (.lst vs) ∧ VaL H4 vs (acc.map K4.Fn.toD) ∧ acc.length + j ≤ 2 ^ 20 + 12 ∧ Rd K H4 p tl ts3 ∧ Sm p H H4 ∧ Res K (K4.fnLoop (K4.pStmts n) j acc ts3) K4.pgD p tl H Q E, fun σ' H' h => ⟨j, Nat.lt_succ_self _, h⟩, ?_⟩
        walk_at "rd"
        walk_at "mt"
        refine tk_go rd4 S4 k fun _ ts5 _ k H5 rd5 S5 => ?_
        have F5 := S5 F _ F4 Fp
        have va5 := va.sm S5 rd4
        have S5' := S4.trans S5
        walk_at "rd"
        walk_at "mt"
        refine tk_go rd5 S5' k fun x ts6 _ k H6 rd6 S6 => ?_
        have F6 := S6 F _ F5 Fp
        have va6 := va5.sm S6 rd5
        have S6' := S5'.trans S6
        walk_at "rd"
        walk_at "mt"
        refine sev_go (f := PyData.str) rd6 S6' (fun vs H Q E h => .inl h) k fun ps ts7 k v7 H7 hv7 rd7 S7 => ?_
        have F7 := S7 F _ F6 Fp
        have va7 := va6.sm S7 rd6
        have S7' := S6'.trans S7
        refine ⟨_, _, rfl, ?_⟩
        walk_at "rd"
        refine ⟨.inl ⟨rfl, _, sq_of F7⟩, ?_⟩
        walk_at "rd"
        walk_at "mt"
        refine ⟨p, tl, _, rfl, rd7, ?_⟩
        refine res_call S7' k fun b ts8 _ k v8 H8 hv8 rd8 S8 => ?_
        have F8 := S8 F _ F7 Fp
        have va8 := va7.sm S8 rd7
        have hv7' := hv7.sm S8 rd7
        have S8' := S7'.trans S8
        walk_at "rd"
        refine ⟨sz rfl, fun q nq => ?_⟩
        have lv := va.length
        rw [List.length_map] at lv
        refine ⟨F, vs, _, rfl, rfl, at_new F8 nq, by omega, ?_⟩
        have hq : Va (upd H8 q (.tup [.str x, v7, v8])) (.ref q) (K4.Fn.toD ⟨x, ps, b⟩) := .tup upd_same (.cons (.str _) (.cons (hv7'.new nq) (.cons (hv8.new nq) .nil)))
        have rd9 := (rd8.new (o := .tup [.str x, v7, v8]) nq).lst (ys := vs ++ [.ref q]) (at_new F8 nq) Fp Ft
        have S9 := (S8'.upd_new (o := .tup [.str x, v7, v8]) nq).own (o := .lst (vs ++ [.ref q])) nF
        have va9 := ((va8.new (o := .tup [.str x, v7, v8]) nq).app (.cons hq .nil)).lst (ys := vs ++ [.ref q]) (at_new F8 nq)
        have F9 : (upd (upd H8 q (.tup [.str x, v7, v8])) F (.lst (vs ++ [.ref q]))) F = some (.lst (vs ++ [.ref q])) := upd_same
        walk_at "rd"
        walk_at "mt"
        refine tk_go rd9 S9 k fun _ ts10 _ k H10 rd10 S10 => ?_
        refine ⟨acc ++ [⟨x, ps, b⟩], ts10, _, _, _, rfl, S10 F _ F9 Fp, ?_, ?_, rd10, S9.trans S10, k⟩
        · rw [List.map_append]
          exact va9.sm S10 rd9
        · rw [List.length_append]
          show acc.length + 1 + j ≤ _
          omega
end
end W4
set_option Elab.async false
set_option linter.all false
set_option maxRecDepth 100000
set_option maxHeartbeats 4000000
set_option pp.maxSteps 400
namespace W4
open PySem PySem.Spec PyProof.Rows L2
theorem lv_no : ∀ {d : Nat} {x : Str}, x ∈ K4.levels d → x ≠ K4.nm ∧ x ≠ K4.tn ∧ x ≠ K4.bd ∧ x ≠ K4.ov
  | 0, x, h => (by decide +kernel : ∀ x ∈ K4.levels 0, x ≠ K4.nm ∧ x ≠ K4.tn ∧ x ≠ K4.bd ∧ x ≠ K4.ov) x h
  | 1, x, h => (by decide +kernel : ∀ x ∈ K4.levels 1, x ≠ K4.nm ∧ x ≠ K4.tn ∧ x ≠ K4.bd ∧ x ≠ K4.ov) x h
  | 2, x, h => (by decide +kernel : ∀ x ∈ K4.levels 2, x ≠ K4.nm ∧ x ≠ K4.tn ∧ x ≠ K4.bd ∧ x ≠ K4.ov) x h
  | 3, x, h => (by decide +kernel : ∀ x ∈ K4.levels 3, x ≠ K4.nm ∧ x ≠ K4.tn ∧ x ≠ K4.bd ∧ x ≠ K4.ov) x h
  | 4, x, h => (by decide +kernel : ∀ x ∈ K4.levels 4, x ≠ K4.nm ∧ x ≠ K4.tn ∧ x ≠ K4.bd ∧ x ≠ K4.ov) x h
  | d + 5, x, h => absurd h List.not_mem_nil
theorem let_lv {d : Nat} {x : Str} (h : K4.letSort x ∈ K4.levels d) : x = K4.letSort x := by
  unfold K4.letSort at h ⊢
  by_cases k : x ∈ K4.keywords
  · rw [if_pos k]
  · rw [if_neg k] at h
    by_cases l : x.length ≤ 12
    · rw [if_pos l] at h
      exact absurd rfl (lv_no h).1
    · rw [if_neg l] at h
      exact absurd rfl (lv_no h).2.2.1
theorem fig_lv {d : Nat} {x : Str} (h : K4.figSort x ∈ K4.levels d) : False := by
  unfold K4.figSort at h
  split at h
  · exact absurd rfl (lv_no h).2.2.1
  · exact absurd rfl (lv_no h).2.1
theorem tok_lv {d : Nat} {cs : List Nat} (h : (K4.tokAt cs).1 ∈ K4.levels d) : (K4.tokAt cs).2 = (K4.tokAt cs).1 := by
  unfold K4.tokAt at h ⊢
  by_cases a : 0 < K4.runL K4.letS cs
  · rw [if_pos a] at h ⊢
    exact let_lv h
  rw [if_neg a] at h ⊢
  by_cases b : 0 < K4.runL K4.figS cs
  · rw [if_pos b] at h ⊢
    exact (fig_lv h).elim
  rw [if_neg b] at h ⊢
  by_cases c : K4.sgnAt cs ≠ Str.empty
  · rw [if_pos c] at h ⊢
  · rw [if_neg c] at h ⊢
    exact absurd rfl (lv_no h).2.2.1
theorem run_all {C : Str} : ∀ cs : List Nat, ∀ c ∈ cs.take (K4.runL C cs), c ∈ K4.cd C
  | [], c, h => by simp at h
  | x :: r, c, h => by
    unfold K4.runL at h
    by_cases m : x ∈ K4.cd C
    · rw [if_pos m, List.take_succ_cons] at h
      rcases List.mem_cons.mp h with rfl | h
      · exact m
      · exact run_all r c h
    · rw [if_neg m] at h
      simp at h
theorem tn_let (x : Str) : K4.letSort x ≠ K4.tn := by
  unfold K4.letSort
  split
  · rename_i k
    exact (by decide +kernel : ∀ x ∈ K4.keywords, x ≠ K4.tn) x k
  · split <;> decide +kernel
theorem tok_tn {cs : List Nat} (h : (K4.tokAt cs).1 = K4.tn) : PySem.intText? (K4.tokAt cs).2 = some ((K4.numOf (K4.tokAt cs).2 : Nat) : Int) ∧ (K4.tokAt cs).2.length ≤ 640 := by
  unfold K4.tokAt at h ⊢
  by_cases a : 0 < K4.runL K4.letS cs
  · rw [if_pos a] at h
    exact absurd h (tn_let _)
  rw [if_neg a] at h ⊢
  by_cases b : 0 < K4.runL K4.figS cs
  · rw [if_pos b] at h ⊢
    dsimp only at h ⊢
    generalize ew : K4.S (cs.take (K4.runL K4.figS cs)) = w at h ⊢
    have ecw : K4.cd w = cs.take (K4.runL K4.figS cs) := by rw [← ew, K4.cd_S]
    unfold K4.figSort at h
    split at h
    · exact absurd h (by decide +kernel)
    · rename_i z
      have l13 : ¬ 13 < w.length := fun q => z (.inr (.inl q))
      refine ⟨?_, by omega⟩
      rw [num_digits]
      refine PySem.intText_digits (fun c hc => ?_) ?_ (by have := K4.cd_len w; omega)
      · replace hc : c ∈ K4.cd w := hc
        rw [ecw] at hc
        exact (show ∀ c ∈ K4.cd K4.figS, 48 ≤ c ∧ c ≤ 57 by decide) c (run_all cs c hc)
      · show K4.cd w ≠ []
        rw [ecw]
        intro q
        have := congrArg List.length q
        have r := K4.runL_le K4.figS cs
        rw [List.length_take] at this
        replace this : min (K4.runL K4.figS cs) cs.length = 0 := this
        omega
  rw [if_neg b] at h ⊢
  by_cases c : K4.sgnAt cs ≠ Str.empty
  · rw [if_pos c] at h
    exact absurd h ((by decide +kernel : ∀ x ∈ K4.sgns, x ≠ K4.tn) _ (K4.sgn_mem c).1)
  · rw [if_neg c] at h
    exact absurd (show K4.bd = K4.tn from h) (by decide +kernel)
theorem lexF_ok : ∀ (k : Nat) (cs : List Nat) (i N : Nat) (t : Bool), i + cs.length ≤ N → N ≤ 2 ^ 30 → ∀ x ∈ K4.lexF k cs i t, TkOk x
  | 0, cs, i, N, t, h, hN, x, m => by cases m
  | k + 1, cs, i, N, t, h, hN, x, m => by
    rw [K4.lexF] at m
    by_cases e : cs = []
    · rw [if_pos e] at m
      rcases List.mem_cons.mp m with rfl | m
      · refine ⟨by show i ≤ _; omega, fun z => absurd (show K4.ov = K4.tn from z) (by decide +kernel), fun d z => absurd rfl (lv_no (show K4.ov ∈ K4.levels d from z)).2.2.2⟩
      · cases m
    · rw [if_neg e] at m
      rcases List.mem_cons.mp m with rfl | m
      · refine ⟨by show i ≤ _; omega, fun z => ?_, fun d z => ?_⟩
        · dsimp only at z ⊢
          split at z
          · exact absurd z (by decide +kernel)
          · exact tok_tn z
        · dsimp only at z ⊢
          split at z
          · exact absurd rfl (lv_no z).2.2.1
          · rename_i q
            rw [if_neg q]
            exact tok_lv z
      · obtain ⟨rest, pre, wpos⟩ := K4.tokAt_pre e
        have l1 := congrArg List.length pre
        rw [List.length_append, K4.cd_len] at l1
        have l2 := K4.runL_le K4.gapS (cs.drop (K4.tokAt cs).2.length)
        rw [List.length_drop] at l2
        refine lexF_ok k _ _ N _ ?_ hN x m
        rw [List.length_drop]
        omega
end W4
set_option Elab.async false
set_option linter.all false
set_option maxRecDepth 100000
set_option maxHeartbeats 4000000
set_option pp.maxSteps 400
namespace W4
open PySem PySem.Spec PyProof.Rows L2
local macro_rules | `(tactic| walk_at "rd") => `(tactic| repeat (first | refine ⟨_, rfl, ?_⟩ | refine ⟨_, _, rfl, rfl, ?_⟩ | refine ⟨rfl, _, rfl, ?_⟩))
section
variable {P : Program} {w : World} {K : PySem.W.Frag} {mg : Str → Option Value} {base : Heap}
theorem lexF_len : ∀ (k : Nat) (cs : List Nat) (i : Nat) (t : Bool), (K4.lexF k cs i t).length ≤ k
  | 0, _, _, _ => Nat.le_refl _
  | k + 1, cs, i, t => by
    rw [K4.lexF]
    by_cases e : cs = []
    · rw [if_pos e]
      exact Nat.succ_le_succ (Nat.zero_le _)
    · rw [if_neg e]
      exact Nat.succ_le_succ (lexF_len k _ _ _)
theorem toks_ne (cs : List Nat) : K4.toks cs ≠ [] := by
  unfold K4.toks
  rw [K4.lexF]
  split
  · exact List.cons_ne_nil _ _
  · exact List.cons_ne_nil _ _
theorem toks_ok {cs : List Nat} (h : cs.length ≤ 2 ^ 20) : ∀ x ∈ K4.toks cs, TkOk x := by
  have r := K4.runL_le K4.gapS cs
  refine lexF_ok _ _ _ cs.length _ ?_ (by omega)
  rw [List.length_drop]
  omega
def spRInit (K : PySem.W.Frag) : Sp := fun vs H Q _ => ∃ (p dx : Addr) (x : Str), vs = [.ref p, .str x] ∧ H p = some (.ins (He.ga K "Reader") dx []) ∧ x.length ≤ 2 ^ 20 ∧ ∀ (tl : Addr) (H' : Hp), Rd K H' p tl (K4.toks (K4.cd x)) → Sm p H H' → Q .non H'
theorem ok_rinit (T : Txt K mg w) : C8.Mak P w K mg base 4 "Reader" (He.ga K "Reader") (spRInit K) [] := by
  obtain ⟨fd, F⟩ := T.funD (d := d_Reader_init) m_Reader_init rfl rfl
  have c_tokens_of := ok_tokens (P := P) (base := base) T
  refine ⟨He.ma K (He.ga K "Reader") "__init__", fd, P_Reader_init, [], T.mkR, ?_, T.g_Reader, F.bindsN bd_Reader_init, .nil⟩
  refine F.ok (k := 3) sc_Reader_init (fun vs H Q E h => ?_) (fun cdv A outer s H vs Q E hr h => ?_)
  · obtain ⟨p, dx, x, rfl, _⟩ := h
    rfl
  · obtain ⟨p, dx, x, rfl, hp, hl, k⟩ := h
    suffices h : ∃ t, PSs (cxOf CX0 P w K mg base N_Reader_init d_Reader_init.qual d_Reader_init.scope (He.fAd K d_Reader_init.at_) cdv A outer s H E).nox d_Reader_init.body t ∧ t { nx := fun _ H' => Q .non H', rt := Q } (start N_Reader_init [V.ref p, V.str x]) H by
      obtain ⟨t, h1, h2⟩ := h
      exact ⟨t, h1.nox, h2⟩
    refine ⟨_, (pss_cons (ps_fld (pv 0) (pe_cl c_tokens_of hr (by first | decide | omega) pass0 (by rfl) (pa_cons (pv 1) pa_nil)) rfl)
    (pss_one (ps_fld (pv 0) pe_int rfl))), ?_⟩
    walk_at "rd"
    refine ⟨hl, fun tl vs H1 nl atl va S => ?_⟩
    have tp : tl ≠ p := fun z => by rw [z, hp] at nl; exact nomatch nl
    refine ⟨_, rfl, p, _, dx, _, rfl, S _ _ hp, T.cR, T.na_own_tokens, (by show 0 < 1000; decide), ?_⟩
    walk_at "rd"
    refine ⟨p, _, dx, _, rfl, upd_same, T.cR, T.na_own_place, (by show 1 < 1000; decide), ?_⟩
    have nb : ∀ b xs, H1 b = some (.tup xs) → b ≠ p := fun b xs e z => by rw [z, S _ _ hp] at e; exact nomatch e
    have cl := K4.cd_len x
    have ll := lexF_len ((K4.cd x).length + 1) ((K4.cd x).drop (K4.runL K4.gapS (K4.cd x))) (K4.runL K4.gapS (K4.cd x)) false
    refine k tl _ ⟨dx, [], vs, upd_same, by rw [upd_ne tp, upd_ne tp]; exact atl, va.keep fun b xs e => ?_, toks_ne _, ?_, toks_ok (by omega)⟩ ?_
    · rw [upd_ne (nb b xs e), upd_ne (nb b xs e)]
      exact e
    · show (K4.lexF _ _ _ _).length ≤ _
      omega
    · exact fun b o e n => by
        rw [upd_ne n, upd_ne n]
        exact S b o e
end
end W4
set_option Elab.async false
set_option linter.all false
set_option maxRecDepth 100000
set_option maxHeartbeats 4000000
set_option pp.maxSteps 400
namespace W4
open PySem PySem.Spec PyProof.Rows L2
local macro_rules | `(tactic| walk_at "rd") => `(tactic| repeat (first | refine ⟨_, rfl, ?_⟩ | refine ⟨_, _, rfl, rfl, ?_⟩ | refine ⟨rfl, _, rfl, ?_⟩))
local macro_rules | `(tactic| walk_at "mt") => `(tactic| (refine Rd.go (by assumption) (by decide +kernel) (by decide +kernel) ?_; repeat (first | refine ⟨_, rfl, ?_⟩ | refine ⟨_, _, rfl, rfl, ?_⟩ | refine ⟨rfl, _, rfl, ?_⟩)))
section
variable {P : Program} {w : World} {K : PySem.W.Frag} {mg : Str → Option Value} {base : Heap}
/-- read, with fuel n -/
def spRead (n : Nat) (K : PySem.W.Frag) : Sp := fun vs H Q E => ∃ x : Str, vs = [.str x] ∧ x.length ≤ 2 ^ 20 ∧ match K4.pRead n (K4.toks (K4.cd x)) with
  | .out => False
  | .err i => ∀ (d : Addr) (H' : Hp), H' d = some (.xd [("at", .int (i : Nat))]) → Same H H' → E (.ref (He.ga K "BadText")) (some d) H'
  | .ok p _ => ∀ (v : V) (H' : Hp), Va H' v (K4.pgD p) → Same H H' → Q v H'
theorem ok_read (T : Txt K mg w) (n : Nat) : Clb P w K mg base (L2.CX P w) (7 + n + 1) "read" (spRead n K) := by
  have c_Reader_functions := ok_rfns (P := P) (base := base) T n
  have mk_Reader := ok_rinit (P := P) (base := base) T
  refine T.clbX (k := 7 + n) (d := d_read) m_read rfl T.g_read rfl rfl sc_read bd_read (fun vs H Q E h => ?_) (fun cdv A outer s H vs Q E hr h => ?_)
  · obtain ⟨x, rfl, _⟩ := h
    rfl
  · obtain ⟨x, rfl, hl, k⟩ := h
    refine ⟨_, (pss_one (ps_ret (pe_ml0 c_Reader_functions hr (by first | decide | omega) hx_of (C8.pe_mk mk_Reader hr (by first | decide | omega) (by rfl) (pa_cons (pv 0) pa_nil))))), ?_⟩
    walk_at "rd"
    refine fun p dx np nd npd => ⟨p, dx, x, rfl, upd_same, hl, fun tl H1 rd S => ⟨rfl, ?_⟩⟩
    refine Rd.go rd (by decide +kernel) (by decide +kernel) ?_
    walk_at "rd"
    refine ⟨p, tl, _, rfl, rd, ?_⟩
    have sm : ∀ H', Sm p H1 H' → Same H H' := fun H' S' b o e => by
      have b1 : b ≠ p := ne_of_none e np
      have b2 : b ≠ dx := ne_of_none e nd
      refine S' b o (S b o ?_ b1) b1
      rw [upd_ne b1, upd_ne b2]
      exact e
    revert k
    cases K4.pRead n (K4.toks (K4.cd x)) with
    | out => exact fun k => k.elim
    | err i => exact fun k d H' h1 h2 => k d H' h1 (sm H' h2)
    | ok a ts => exact fun k v H' h1 _ h3 => k v H' h1 (sm H' h3)
end
end W4
set_option Elab.async false
set_option linter.all false
set_option maxRecDepth 100000
set_option maxHeartbeats 4000000
set_option pp.maxSteps 400
namespace W4
open PySem PySem.Spec PyProof.Rows L2
local macro_rules | `(tactic| walk_at "tg") => `(tactic| repeat (first | refine iteBt (by decide +kernel) ?_ | refine iteBf (by decide +kernel) ?_ | refine ⟨_, rfl, ?_⟩ | refine ⟨_, _, rfl, rfl, ?_⟩ | refine ⟨rfl, _, rfl, ?_⟩))
local macro_rules | `(tactic| walk_at "rd") => `(tactic| repeat (first | refine ⟨_, rfl, ?_⟩ | refine ⟨_, _, rfl, rfl, ?_⟩ | refine ⟨rfl, _, rfl, ?_⟩))
abbrev N_q_tight : List Str := ["_law_expr"]
abbrev P_q_tight : List Str := ["_law_expr"]
theorem sc_q_tight : FnScope N_q_tight P_q_tight (defScope s_q_tight) := ⟨rfl, rfl, rfl, by decide +kernel, rfl, by decide +kernel, by decide +kernel⟩
theorem bd_q_tight (kV doc pm : Value) (an : Option Addr) (cdv ct : Value) (us : List Value) (hl : us.length = P_q_tight.length) : bindArgs (PySem.W.fnOf d_q_tight.name d_q_tight.qual d_q_tight.params d_q_tight.body d_q_tight.scope .none kV doc pm an cdv ct) ⟨us, []⟩ = pure (P_q_tight.zip us) := match us, hl with | [_], _ => rfl
abbrev N_q_row_words : List Str := ["_law_parts", "_law_found", "_law_k", "_law_part"]
abbrev P_q_row_words : List Str := ["_law_parts"]
theorem sc_q_row_words : FnScope N_q_row_words P_q_row_words (defScope s_q_row_words) := ⟨rfl, rfl, rfl, by decide +kernel, rfl, by decide +kernel, by decide +kernel⟩
theorem bd_q_row_words (kV doc pm : Value) (an : Option Addr) (cdv ct : Value) (us : List Value) (hl : us.length = P_q_row_words.length) : bindArgs (PySem.W.fnOf d_q_row_words.name d_q_row_words.qual d_q_row_words.params d_q_row_words.body d_q_row_words.scope .none kV doc pm an cdv ct) ⟨us, []⟩ = pure (P_q_row_words.zip us) := match us, hl with | [_], _ => rfl
section
variable {P : Program} {w : World} {K : PySem.W.Frag} {mg : Str → Option Value} {base : Heap}
theorem ok_ltight (T : Txt K mg w) : Clb P w K mg base CX0 1 "_law_tight" spTight := by
  refine T.clb (d := d_q_tight) m_q_tight rfl T.g_q_tight rfl rfl sc_q_tight bd_q_tight (fun vs H Q E h => ?_) (fun cdv A outer s H vs Q E hr h => ?_)
  · obtain ⟨e, d, v, rfl, _⟩ := h
    rfl
  · obtain ⟨e, d, v, rfl, te, hv, k⟩ := h
    refine ⟨_, (pss_cons (ps_if (pt_cmpR op_ne (pe_ix ix_tup (pv 0) pe_int (fun _ _ => rfl)) pe_str (nomark _))
    (pss_one (ps_ret (pe_ifExp (pt_cmpR op_in_seq (pe_ix ix_tup (pv 0) pe_int (fun _ _ => rfl)) (pe_tup (pa_cons pe_str (pa_cons pe_str pa_nil))) (by with_unfolding_all rfl)) pe_int pe_int)))
    pss_nil)
    (pss_cons (ps_if (pt_cmpR op_in_seq (pe_ix ix_tup (pv 0) pe_int (fun _ _ => rfl)) (pe_tup (pa_cons pe_str (pa_cons pe_str pa_nil))) (by with_unfolding_all rfl))
    (pss_one (ps_ret (pe_bm PySem.F.plainAttrs_list PySem.F.slot_list_index PySem.F.type_list_index mt_index (pe_lst (pa_cons pe_str (pa_cons pe_str pa_nil))) (pa_cons (pe_ix ix_tup (pv 0) pe_int (fun _ _ => rfl)) pa_nil))))
    pss_nil)
    (pss_one (ps_ret (pe_ifExp (pt_cmpR op_in_seq (pe_ix ix_tup (pv 0) pe_int (fun _ _ => rfl)) (pe_tup (pa_cons pe_str (pa_cons pe_str (pa_cons pe_str (pa_cons pe_str pa_nil))))) (by with_unfolding_all rfl)) pe_int (pe_ifExp (pt_cmpR op_in_seq (pe_ix ix_tup (pv 0) pe_int (fun _ _ => rfl)) (pe_tup (pa_cons pe_str (pa_cons pe_str pa_nil))) (by with_unfolding_all rfl)) pe_int pe_int)))))), ?_⟩
    obtain ⟨a, xs, rfl, at_, va⟩ : ∃ a xs, v = .ref a ∧ H a = some (.tup xs) ∧ xs[0]? = some (.str (tgE e)) := by
      cases e <;> (obtain ⟨a, xs, rfl, at_, va⟩ := hv.tup_inv; obtain ⟨x, ys, rfl, hx, _⟩ := va.cons_inv; obtain rfl := hx.str_inv; exact ⟨a, _, rfl, at_, rfl⟩)
    walk_at "rd"
    refine ⟨a, xs, 0, _, rfl, rfl, st_of at_, atI_nat (j := 0) va, ?_⟩
    cases e with
    | op s l r =>
      walk_at "tg"
      obtain ⟨a', xs', e1, at', va'⟩ := hv.tup_inv
      cases e1
      rw [at_] at at'
      cases at'
      obtain ⟨x0, ys0, rfl, _, va1⟩ := va'.cons_inv
      obtain ⟨x1, ys1, rfl, hx1, _⟩ := va1.cons_inv
      obtain rfl := hx1.str_inv
      refine ⟨a, _, 1, .str s, rfl, rfl, st_of at_, atI_nat (j := 1) rfl, ?_⟩
      refine ⟨sz rfl, fun t nt => ?_⟩
      have at2 := at_new (o := .tup [.str "or", .str "and"]) at_ nt
      have S2 : Same H (upd H t (.tup [.str "or", .str "and"])) := same_new nt
      have hs := te.2.1
      simp only [K4.signs, List.mem_cons, List.not_mem_nil, or_false] at hs
      rcases hs with rfl | rfl | rfl | rfl | rfl | rfl | rfl | rfl | rfl | rfl | rfl
      · refine ⟨t, _, rfl, .inr (st_of upd_same), rfl, rfl, ?_⟩
        walk_at "tg"
        refine ⟨sz rfl, fun F nF => ?_⟩
        refine ⟨.inl ⟨rfl, _, sq_of upd_same⟩, ?_⟩
        walk_at "rd"
        refine ⟨a, _, 1, _, rfl, rfl, st_of (at_new at2 nF), atI_nat (j := 1) rfl, ?_⟩
        refine ⟨F, _, _, 0, _, rfl, rfl, sq_of upd_same, rfl, rfl, rfl, by decide +kernel, fun m z' h => by omega, ?_⟩
        exact k _ (S2.trans (same_new nF))
      · refine ⟨t, _, rfl, .inr (st_of upd_same), rfl, rfl, ?_⟩
        walk_at "tg"
        refine ⟨sz rfl, fun F nF => ?_⟩
        refine ⟨.inl ⟨rfl, _, sq_of upd_same⟩, ?_⟩
        walk_at "rd"
        refine ⟨a, _, 1, _, rfl, rfl, st_of (at_new at2 nF), atI_nat (j := 1) rfl, ?_⟩
        refine ⟨F, _, _, 1, _, rfl, rfl, sq_of upd_same, rfl, rfl, rfl, by decide +kernel, fun m z' h hz => ?_, ?_⟩
        · obtain rfl : m = 0 := by omega
          cases hz
          decide +kernel
        exact k _ (S2.trans (same_new nF))
      · refine ⟨t, _, rfl, .inr (st_of upd_same), rfl, rfl, ?_⟩
        walk_at "tg"
        refine ⟨a, _, 1, _, rfl, rfl, st_of at2, atI_nat (j := 1) rfl, ?_⟩
        refine ⟨sz rfl, fun t2 nt2 => ?_⟩
        refine ⟨t2, _, rfl, .inr (st_of upd_same), rfl, rfl, ?_⟩
        walk_at "tg"
        exact k _ (S2.trans (same_new nt2))
      · refine ⟨t, _, rfl, .inr (st_of upd_same), rfl, rfl, ?_⟩
        walk_at "tg"
        refine ⟨a, _, 1, _, rfl, rfl, st_of at2, atI_nat (j := 1) rfl, ?_⟩
        refine ⟨sz rfl, fun t2 nt2 => ?_⟩
        refine ⟨t2, _, rfl, .inr (st_of upd_same), rfl, rfl, ?_⟩
        walk_at "tg"
        exact k _ (S2.trans (same_new nt2))
      · refine ⟨t, _, rfl, .inr (st_of upd_same), rfl, rfl, ?_⟩
        walk_at "tg"
        refine ⟨a, _, 1, _, rfl, rfl, st_of at2, atI_nat (j := 1) rfl, ?_⟩
        refine ⟨sz rfl, fun t2 nt2 => ?_⟩
        refine ⟨t2, _, rfl, .inr (st_of upd_same), rfl, rfl, ?_⟩
        walk_at "tg"
        exact k _ (S2.trans (same_new nt2))
      · refine ⟨t, _, rfl, .inr (st_of upd_same), rfl, rfl, ?_⟩
        walk_at "tg"
        refine ⟨a, _, 1, _, rfl, rfl, st_of at2, atI_nat (j := 1) rfl, ?_⟩
        refine ⟨sz rfl, fun t2 nt2 => ?_⟩
        refine ⟨t2, _, rfl, .inr (st_of upd_same), rfl, rfl, ?_⟩
        walk_at "tg"
        exact k _ (S2.trans (same_new nt2))
      · refine ⟨t, _, rfl, .inr (st_of upd_same), rfl, rfl, ?_⟩
        walk_at "tg"
        refine ⟨a, _, 1, _, rfl, rfl, st_of at2, atI_nat (j := 1) rfl, ?_⟩
        refine ⟨sz rfl, fun t2 nt2 => ?_⟩
        refine ⟨t2, _, rfl, .inr (st_of upd_same), rfl, rfl, ?_⟩
        walk_at "tg"
        refine ⟨a, _, 1, _, rfl, rfl, st_of (at_new at2 nt2), atI_nat (j := 1) rfl, ?_⟩
        refine ⟨sz rfl, fun t3 nt3 => ?_⟩
        refine ⟨t3, _, rfl, .inr (st_of upd_same), rfl, rfl, ?_⟩
        walk_at "tg"
        exact k _ ((S2.trans (same_new nt2)).trans (same_new nt3))
      · refine ⟨t, _, rfl, .inr (st_of upd_same), rfl, rfl, ?_⟩
        walk_at "tg"
        refine ⟨a, _, 1, _, rfl, rfl, st_of at2, atI_nat (j := 1) rfl, ?_⟩
        refine ⟨sz rfl, fun t2 nt2 => ?_⟩
        refine ⟨t2, _, rfl, .inr (st_of upd_same), rfl, rfl, ?_⟩
        walk_at "tg"
        refine ⟨a, _, 1, _, rfl, rfl, st_of (at_new at2 nt2), atI_nat (j := 1) rfl, ?_⟩
        refine ⟨sz rfl, fun t3 nt3 => ?_⟩
        refine ⟨t3, _, rfl, .inr (st_of upd_same), rfl, rfl, ?_⟩
        walk_at "tg"
        exact k _ ((S2.trans (same_new nt2)).trans (same_new nt3))
      · refine ⟨t, _, rfl, .inr (st_of upd_same), rfl, rfl, ?_⟩
        walk_at "tg"
        refine ⟨a, _, 1, _, rfl, rfl, st_of at2, atI_nat (j := 1) rfl, ?_⟩
        refine ⟨sz rfl, fun t2 nt2 => ?_⟩
        refine ⟨t2, _, rfl, .inr (st_of upd_same), rfl, rfl, ?_⟩
        walk_at "tg"
        refine ⟨a, _, 1, _, rfl, rfl, st_of (at_new at2 nt2), atI_nat (j := 1) rfl, ?_⟩
        refine ⟨sz rfl, fun t3 nt3 => ?_⟩
        refine ⟨t3, _, rfl, .inr (st_of upd_same), rfl, rfl, ?_⟩
        walk_at "tg"
        exact k _ ((S2.trans (same_new nt2)).trans (same_new nt3))
      · refine ⟨t, _, rfl, .inr (st_of upd_same), rfl, rfl, ?_⟩
        walk_at "tg"
        refine ⟨a, _, 1, _, rfl, rfl, st_of at2, atI_nat (j := 1) rfl, ?_⟩
        refine ⟨sz rfl, fun t2 nt2 => ?_⟩
        refine ⟨t2, _, rfl, .inr (st_of upd_same), rfl, rfl, ?_⟩
        walk_at "tg"
        refine ⟨a, _, 1, _, rfl, rfl, st_of (at_new at2 nt2), atI_nat (j := 1) rfl, ?_⟩
        refine ⟨sz rfl, fun t3 nt3 => ?_⟩
        refine ⟨t3, _, rfl, .inr (st_of upd_same), rfl, rfl, ?_⟩
        walk_at "tg"
        exact k _ ((S2.trans (same_new nt2)).trans (same_new nt3))
      · refine ⟨t, _, rfl, .inr (st_of upd_same), rfl, rfl, ?_⟩
        walk_at "tg"
        refine ⟨a, _, 1, _, rfl, rfl, st_of at2, atI_nat (j := 1) rfl, ?_⟩
        refine ⟨sz rfl, fun t2 nt2 => ?_⟩
        refine ⟨t2, _, rfl, .inr (st_of upd_same), rfl, rfl, ?_⟩
        walk_at "tg"
        refine ⟨a, _, 1, _, rfl, rfl, st_of (at_new at2 nt2), atI_nat (j := 1) rfl, ?_⟩
        refine ⟨sz rfl, fun t3 nt3 => ?_⟩
        refine ⟨t3, _, rfl, .inr (st_of upd_same), rfl, rfl, ?_⟩
        walk_at "tg"
        exact k _ ((S2.trans (same_new nt2)).trans (same_new nt3))
    | neg e =>
      walk_at "tg"
      refine ⟨a, xs, 0, _, rfl, rfl, st_of at_, atI_nat (j := 0) va, ?_⟩
      refine ⟨sz rfl, fun t nt => ?_⟩
      refine ⟨t, _, rfl, .inr (st_of upd_same), rfl, rfl, ?_⟩
      walk_at "tg"
      exact k _ (same_new nt)
    | not e =>
      walk_at "tg"
      refine ⟨a, xs, 0, _, rfl, rfl, st_of at_, atI_nat (j := 0) va, ?_⟩
      refine ⟨sz rfl, fun t nt => ?_⟩
      refine ⟨t, _, rfl, .inr (st_of upd_same), rfl, rfl, ?_⟩
      walk_at "tg"
      exact k _ (same_new nt)
    | _ =>
      walk_at "tg"
      refine ⟨a, xs, 0, _, rfl, rfl, st_of at_, atI_nat (j := 0) va, ?_⟩
      refine ⟨sz rfl, fun t nt => ?_⟩
      refine ⟨t, _, rfl, .inr (st_of upd_same), rfl, rfl, ?_⟩
      walk_at "tg"
      exact k _ (same_new nt)
/-- lists of texts at addresses that are not among av -/
inductive LsL (av : List Addr) (H : Hp) : List V → List (List Str) → Prop
  | nil : LsL av H [] []
  | cons {p : Addr} {rs : List Str} {vs : List V} {rss : List (List Str)} : p ∉ av → H p = some (.lst (rs.map V.str)) → LsL av H vs rss → LsL av H (.ref p :: vs) (rs :: rss)
theorem LsL.keep {av : List Addr} {H H' : Hp} (k : ∀ p xs, p ∉ av → H p = some (.lst xs) → H' p = some (.lst xs)) : ∀ {vs : List V} {rss : List (List Str)}, LsL av H vs rss → LsL av H' vs rss
  | _, _, .nil => .nil
  | _, _, .cons a b t => .cons a (k _ _ a b) (LsL.keep k t)
theorem LsL.same {av : List Addr} {H H' : Hp} (S : Same H H') {vs : List V} {rss : List (List Str)} (h : LsL av H vs rss) : LsL av H' vs rss := h.keep fun p xs _ e => S p _ e
theorem LsL.sm {av : List Addr} {b : Addr} {H H' : Hp} (hb : b ∈ av) (S : Sm b H H') {vs : List V} {rss : List (List Str)} (h : LsL av H vs rss) : LsL av H' vs rss := h.keep fun p xs n e => S p _ e fun z => n (by rw [z]; exact hb)
theorem LsL.less {av aw : List Addr} {H : Hp} (k : ∀ p, p ∈ aw → p ∈ av) : ∀ {vs : List V} {rss : List (List Str)}, LsL av H vs rss → LsL aw H vs rss
  | _, _, .nil => .nil
  | _, _, .cons a b t => .cons (fun z => a (k _ z)) b (LsL.less k t)
theorem LsL.app {av : List Addr} {H : Hp} : ∀ {vs ws : List V} {rss sss : List (List Str)}, LsL av H vs rss → LsL av H ws sss → LsL av H (vs ++ ws) (rss ++ sss)
  | _, _, _, _, .nil, h => h
  | _, _, _, _, .cons a b t, k => .cons a b (LsL.app t k)
theorem LsL.length {av : List Addr} {H : Hp} : ∀ {vs : List V} {rss : List (List Str)}, LsL av H vs rss → vs.length = rss.length
  | _, _, .nil => rfl
  | _, _, .cons _ _ t => by rw [List.length_cons, List.length_cons, t.length]
theorem LsL.get {av : List Addr} {H : Hp} : ∀ {vs : List V} {rss : List (List Str)} {i : Nat} {v : V}, LsL av H vs rss → vs[i]? = some v → ∃ p rs, v = .ref p ∧ rss[i]? = some rs ∧ p ∉ av ∧ H p = some (.lst (rs.map V.str))
  | _, _, _, _, .nil, e => by simp at e
  | _, _, 0, _, .cons a b _, e => by cases e; exact ⟨_, _, rfl, rfl, a, b⟩
  | _, _, i + 1, _, .cons _ _ t, e => by
    obtain ⟨p, rs, h1, h2, h3, h4⟩ := LsL.get (i := i) t (by simpa using e)
    exact ⟨p, rs, h1, by simpa using h2, h3, h4⟩
def spRowW : Sp := fun vs H Q _ => ∃ (pl : Addr) (av : List Addr) (us : List V) (rss : List (List Str)), vs = [.ref pl] ∧ H pl = some (.lst us) ∧ LsL av H us rss ∧ rss.length ≤ 2 ∧ (∀ rs ∈ rss, rs.length ≤ 100000) ∧
  ∀ (l : Addr) (H' : Hp), H l = none → H' l = some (.lst ((K4.rowR rss).map V.str)) → Same H H' → Q (.ref l) H'
theorem sepR_len (n : Nat) : ∀ rss : List (List Str), (∀ rs ∈ rss, rs.length ≤ n) → (K4.sepR rss).length ≤ rss.length * (n + 1)
  | [], _ => by simp [K4.sepR]
  | [x], h => by
    have := h x (by simp)
    show x.length ≤ 1 * (n + 1)
    omega
  | x :: y :: r, h => by
    have ih := sepR_len n (y :: r) fun z hz => h z (List.mem_cons_of_mem _ hz)
    have := h x (by simp)
    show (x ++ (",":Str) :: K4.sepR (y :: r)).length ≤ ((y :: r).length + 1) * (n + 1)
    rw [List.length_append, List.length_cons (as := K4.sepR (y :: r)), Nat.succ_mul]
    omega
theorem ok_roww (T : Txt K mg w) : Clb P w K mg base CX0 1 "_law_row_words" spRowW := by
  refine T.clb (d := d_q_row_words) m_q_row_words rfl T.g_q_row_words rfl rfl sc_q_row_words bd_q_row_words (fun vs H Q E h => ?_) (fun cdv A outer s H vs Q E hr h => ?_)
  · obtain ⟨pl, av, us, rss, rfl, _⟩ := h
    rfl
  · obtain ⟨pl, av, us, rss, rfl, atp, hu, l2, lr, k⟩ := h
    refine ⟨_, (pss_cons (ps_set (i := 1) sc_q_row_words.nd rfl (.inl rfl) (pe_lst (pa_cons pe_str pa_nil)))
    (pss_cons (ps_for PassesOwn.never rfl (pi_enum (by rfl) T.f_enumerate (pa_cons (pv 0) pa_nil)) (pg_tup rfl (pgs_cons (pg_name (i := 2) sc_q_row_words.nd rfl (.inl rfl)) (pgs_cons (pg_name (i := 3) sc_q_row_words.nd rfl (.inl rfl)) pgs_nil)))
    (pss_one (ps_set (i := 1) sc_q_row_words.nd rfl (.inl rfl) (pe_op op_cat (pe_op op_cat (pv 1) (pe_op op_rep (pe_lst (pa_cons pe_str pa_nil)) (pe_callTy call_int1 (by rfl) T.f_int (by decide +kernel) (pa_cons (pe_cmpR op_gt (pv 2) pe_int (nomark _)) pa_nil)))) (pv 3)))))
    (pss_one (ps_ret (pe_op op_cat (pv 1) (pe_lst (pa_cons pe_str pa_nil))))))), ?_⟩
    have sL := sL
    have lu := hu.length
    refine ⟨sz rfl, fun F nF => ?_⟩
    walk_at "rd"
    refine ⟨pl, _, rfl, sq_of (at_new atp nF), for_enum (K := K) (a := pl) (xs := us) (fun i σ H2 => ∃ (G : Addr) (y2 y3 : Option V), σ = [some (.ref pl), some (.ref G), y2, y3] ∧ H G = none ∧ H2 G = some (.lst ((("(!":Str) :: K4.sepR (rss.take i)).map V.str)) ∧ Same H H2) ?_ ?_ ?_ ?_⟩
    · exact ⟨F, none, none, rfl, nF, upd_same, same_new nF⟩
    · rintro i σ H2 _ ⟨G, y2, y3, rfl, nG, atG, S2⟩
      exact sq_of (S2 pl _ atp)
    · rintro i x σ H2 hi ⟨G, y2, y3, rfl, nG, atG, S2⟩ T0 nT
      obtain ⟨p, rs, rfl, hr', _, atr⟩ := (hu.same S2).get hi
      have hm := List.mem_of_getElem? hr'
      have hil : i < rss.length := (List.getElem?_eq_some_iff.mp hr').1
      have len1 := sepR_len 100000 (rss.take i) fun z hz => lr z (List.mem_of_mem_take hz)
      rw [List.length_take] at len1
      have len2 := lr rs hm
      have S3 := S2.trans (same_new (o := .tup [.int (i : Nat), .ref p]) nT)
      refine ⟨T0, _, rfl, st_of upd_same, rfl, _, _, rfl, _, _, rfl, rfl, ?_⟩
      walk_at "rd"
      refine ⟨sz rfl, fun L nL => ?_⟩
      walk_at "rd"
      refine .inr ⟨_, rfl, ?_⟩
      have k0 : (0 : Int) ≤ (if decide ((0 : Int) < (i : Int)) = true then 1 else 0) ∧ (if decide ((0 : Int) < (i : Int)) = true then (1 : Int) else 0) ≤ 1 := by split <;> omega
      have rep : (List.replicate (if decide ((0 : Int) < (i : Int)) = true then (1 : Int) else 0).toNat [V.str ","]).flatten = ((if rss.take i = [] then [] else [(",":Str)]) : List Str).map V.str := by
        cases i with
        | zero => rfl
        | succ i =>
          have e0 : rss.take (i + 1) ≠ [] := by
            cases rss with
            | nil => simp at hil
            | cons _ _ => exact fun z => nomatch z
          rw [if_neg e0, if_pos (by simp)]
          rfl
      have lrep : ((if rss.take i = [] then [] else [(",":Str)]) : List Str).length ≤ 1 := by split <;> simp
      refine ⟨L, _, _, rfl, rfl, upd_same, by omega, by omega, ?_, fun R nR => ?_⟩
      · have : (if decide ((0 : Int) < (i : Int)) = true then (1 : Int) else 0).toNat ≤ 1 := by omega
        show 1 * _ ≤ _
        omega
      rw [rep]
      have atG3 := at_new (o := .lst [.str ","]) (at_new (o := .tup [.int (i : Nat), .ref p]) atG nT) nL
      have atr3 := at_new (o := .lst [.str ","]) (at_new (o := .tup [.int (i : Nat), .ref p]) atr nT) nL
      have S4 := S3.trans (same_new (o := .lst [.str ","]) nL)
      refine ⟨G, R, _, _, rfl, rfl, at_new atG3 nR, upd_same, ?_, fun G2 nG2 => ?_⟩
      · simp only [List.length_map, List.length_cons]
        omega
      walk_at "rd"
      refine ⟨G2, p, _, _, rfl, rfl, upd_same, at_new (at_new atr3 nR) nG2, ?_, fun G3 nG3 => ?_⟩
      · simp only [List.length_map, List.length_cons, List.length_append]
        omega
      have S5 := (S4.trans (same_new (o := .lst (((if rss.take i = [] then [] else [(",":Str)]) : List Str).map V.str)) nR)).trans (same_new (o := .lst ((((("(!":Str) :: K4.sepR (rss.take i)).map V.str) ++ ((if rss.take i = [] then [] else [(",":Str)]) : List Str).map V.str))) nG2)
      refine ⟨G3, _, _, rfl, S5.free nG3, ?_, S5.trans (same_new nG3)⟩
      rw [upd_same, List.take_add_one, hr', show (some rs).toList = [rs] from rfl, K4.sepR_snoc]
      simp
    · rintro σ H2 ⟨G, y2, y3, rfl, nG, atG, S2⟩
      rw [lu, List.take_length] at atG
      have len1 := sepR_len 100000 rss lr
      walk_at "rd"
      refine ⟨sz rfl, fun L nL => ?_⟩
      refine ⟨G, L, _, _, rfl, rfl, at_new atG nL, upd_same, ?_, fun R nR => ?_⟩
      · simp only [List.length_map, List.length_cons, List.length_nil]
        have : rss.length * (100000 + 1) ≤ 2 * 100001 := Nat.mul_le_mul_right _ l2
        omega
      · have S3 := S2.trans (same_new (o := .lst [.str ")"]) nL)
        refine k R _ (S3.free nR) ?_ (S3.trans (same_new nR))
        rw [upd_same]
        unfold K4.rowR
        simp
end
end W4
set_option Elab.async false
set_option linter.all false
set_option maxRecDepth 100000
set_option maxHeartbeats 4000000
set_option pp.maxSteps 400
namespace W4
open PySem PySem.Spec PyProof.Rows L2
local macro_rules | `(tactic| walk_at "tg") => `(tactic| repeat (first | refine iteBt (by decide +kernel) ?_ | refine iteBf (by decide +kernel) ?_ | refine ⟨_, rfl, ?_⟩ | refine ⟨_, _, rfl, rfl, ?_⟩ | refine ⟨rfl, _, rfl, ?_⟩))
local macro_rules | `(tactic| walk_at "rd") => `(tactic| repeat (first | refine ⟨_, rfl, ?_⟩ | refine ⟨_, _, rfl, rfl, ?_⟩ | refine ⟨rfl, _, rfl, ?_⟩))
abbrev N_q_words : List Str := ["_law_box_here", "_law_expr", "_law_least", "_law_found", "_law_more"]
abbrev P_q_words : List Str := ["_law_box_here", "_law_expr", "_law_least"]
theorem sc_q_words : FnScope N_q_words P_q_words (defScope s_q_words) := ⟨rfl, rfl, rfl, by decide +kernel, rfl, by decide +kernel, by decide +kernel⟩
theorem bd_q_words (kV doc pm : Value) (an : Option Addr) (cdv ct : Value) (us : List Value) (hl : us.length = P_q_words.length) : bindArgs (PySem.W.fnOf d_q_words.name d_q_words.qual d_q_words.params d_q_words.body d_q_words.scope .none kV doc pm an cdv ct) ⟨us, []⟩ = pure (P_q_words.zip us) := match us, hl with | [_, _, _], _ => rfl
abbrev N_q_bare_words : List Str := ["_law_box_here", "_law_expr", "_law_word", "_law_own", "_law_part", "_law_name_here"]
abbrev P_q_bare_words : List Str := ["_law_box_here", "_law_expr"]
theorem sc_q_bare_words : FnScope N_q_bare_words P_q_bare_words (defScope s_q_bare_words) := ⟨rfl, rfl, rfl, by decide +kernel, rfl, by decide +kernel, by decide +kernel⟩
theorem bd_q_bare_words (kV doc pm : Value) (an : Option Addr) (cdv ct : Value) (us : List Value) (hl : us.length = P_q_bare_words.length) : bindArgs (PySem.W.fnOf d_q_bare_words.name d_q_bare_words.qual d_q_bare_words.params d_q_bare_words.body d_q_bare_words.scope .none kV doc pm an cdv ct) ⟨us, []⟩ = pure (P_q_bare_words.zip us) := match us, hl with | [_, _], _ => rfl
section
variable {P : Program} {w : World} {K : PySem.W.Frag} {mg : Str → Option Value} {base : Heap}
/-- a box of draws, or an empty list: no draws -/
def Bo (fl : Bool) (H : Hp) (b : Addr) (m : Nat) : Prop := (fl = true ∧ Bx H b m) ∨ (fl = false ∧ H b = some (.lst []))
theorem Bo.mono {fl : Bool} {H : Hp} {b : Addr} {m n : Nat} (h : Bo fl H b m) (l : n ≤ m) : Bo fl H b n := h.imp (fun x => ⟨x.1, x.2.mono l⟩) id
theorem Bo.new {fl : Bool} {H : Hp} {b q : Addr} {o : HO} {m : Nat} (h : Bo fl H b m) (n : H q = none) : Bo fl (upd H q o) b m := h.imp (fun x => ⟨x.1, x.2.new n⟩) fun x => ⟨x.1, at_new x.2 n⟩
theorem Bo.lst {fl : Bool} {H : Hp} {b : Addr} {m : Nat} (h : Bo fl H b m) : ∃ xs, H b = some (.lst xs) := by
  rcases h with ⟨_, g, s, f, e, _⟩ | ⟨_, h⟩
  · exact ⟨_, e⟩
  · exact ⟨_, h⟩
theorem Bo.notup {fl : Bool} {H : Hp} {b : Addr} {m : Nat} (h : Bo fl H b m) (xs : List V) : H b ≠ some (.tup xs) := by
  obtain ⟨ys, e⟩ := h.lst
  exact lst_notup e xs
theorem Bo.there {fl : Bool} {H : Hp} {b : Addr} {m : Nat} (h : Bo fl H b m) : H b ≠ none := by
  obtain ⟨ys, e⟩ := h.lst
  rw [e]
  exact fun z => nomatch z
theorem Bo.same {fl : Bool} {H H' : Hp} {b : Addr} {m : Nat} (h : Bo fl H b m) (S : Same H H') : Bo fl H' b m := by
  rcases h with ⟨ef, g, s, f, e, r⟩ | ⟨ef, h⟩
  · exact .inl ⟨ef, g, s, f, S b _ e, r⟩
  · exact .inr ⟨ef, S b _ h⟩
theorem Bo.upd {fl : Bool} {H : Hp} {b q : Addr} {o : HO} {m : Nat} (h : Bo fl H b m) (n : b ≠ q) : Bo fl (upd H q o) b m := h.imp (fun x => ⟨x.1, x.2.upd n⟩) fun x => ⟨x.1, by rw [upd_ne n]; exact x.2⟩
theorem Bo.bx {H : Hp} {b : Addr} {m : Nat} (h : Bo true H b m) : Bx H b m := h.elim (fun x => x.2) fun x => nomatch x.1
theorem Bx.bo {H : Hp} {b : Addr} {m : Nat} (h : Bx H b m) : Bo true H b m := .inl ⟨rfl, h⟩
/-- what a text of words gives back -/
structure WQ (fl : Bool) (H : Hp) (Q : VK) (b : Addr) (m len : Nat) (R : List K4.Wd → Prop) : Prop where
  go : ∀ (l : Addr) (rs : List Str) (ws : List K4.Wd) (H' : Hp), H l = none → H' l = some (.lst (rs.map V.str)) → K4.Raw rs ws → R ws → rs.length ≤ len → Bo fl H' b m → Sm b H H' → Q (.ref l) H'
def spWords (n : Nat) : Sp := fun vs H Q _ => ∃ (fl : Bool) (b : Addr) (v : V) (e : K4.Ex) (d k m : Nat), vs = [.ref b, v, .int (k : Nat)] ∧ d < n ∧ d ≤ 3 ∧ K4.tE e d ∧ Va H v e.toD ∧ Bo fl H b (m + K4.cW d) ∧ WQ fl H Q b m (K4.lW d) (fun ws => K4.Rw (K4.RB e) (K4.tight e) k ws ∧ (fl = false → k ≤ K4.tight e → K4.CH e ws))
def spBare (n : Nat) : Sp := fun vs H Q _ => ∃ (fl : Bool) (b : Addr) (v : V) (e : K4.Ex) (d m : Nat), vs = [.ref b, v] ∧ d < n ∧ d ≤ 3 ∧ K4.tE e d ∧ Va H v e.toD ∧ Bo fl H b (m + K4.cB d) ∧ WQ fl H Q b m (K4.lW d - 2) (fun ws => K4.RB e ws ∧ (fl = false → K4.CH e ws))
theorem ok_words (T : Txt K mg w) (n : Nat) (c_q_bare_words : Clb P w K mg base CX0 (2 + 2 * n) "_law_bare_words" (spBare n)) : Clb P w K mg base CX0 (3 + 2 * n) "_law_words" (spWords n) := by
  have c_q_take := ok_take (P := P) (base := base) T
  have c_q_tight := ok_ltight (P := P) (base := base) T
  rw [show 3 + 2 * n = (2 + 2 * n) + 1 by omega]
  refine T.clb (k := 2 + 2 * n) (d := d_q_words) m_q_words rfl T.g_q_words rfl rfl sc_q_words bd_q_words (fun vs H Q E h => ?_) (fun cdv A outer s H vs Q E hr h => ?_)
  · obtain ⟨fl, b, v, e, d, k, m, rfl, _⟩ := h
    rfl
  · obtain ⟨fl, b, v, e, d, kk, m, rfl, dn, d3, te, hv, hb, ⟨k⟩⟩ := h
    have hu := hr.units
    refine ⟨_, (pss_cons (ps_set (i := 3) sc_q_words.nd rfl (.inl rfl) (pe_cl c_q_bare_words hr (by first | decide | omega) pass0 (by rfl) (pa_cons (pv 0) (pa_cons (pv 1) pa_nil))))
    (C8.pss_cut (ps_set (i := 4) sc_q_words.nd rfl (.inl rfl) (pe_and (pe_cmpR (op_neD hu) (pv 0) (pe_lst pa_nil) (nomark _)) (pe_one (pe_cmpR op_eq (pe_cl c_q_take hr (by first | decide | omega) pass0 (by rfl) (pa_cons (pv 0) (pa_cons pe_int pa_nil))) pe_int (nomark _)))))
    (pss_one (ps_ret (pe_ifExp (PW.pt (pw_or (pt_val (pv 4)) (pw_or1 (pt_cmpR op_lt (pe_cl c_q_tight hr (by first | decide | omega) pass0 (by rfl) (pa_cons (pv 1) pa_nil)) (pv 2) (nomark _))))) (pe_op op_cat (pe_op op_cat (pe_lst (pa_cons pe_str pa_nil)) (pv 3)) (pe_lst (pa_cons pe_str pa_nil))) (pv 3)))))), ?_⟩
    have l4 := K4.lW_pos d
    have l9 : K4.lW d ≤ 200 := (show ∀ d, d ≤ 3 → K4.lW d ≤ 200 by decide) d d3
    have s9 := sL
    walk_at "rd"
    refine ⟨fl, b, v, e, d, m + 1, rfl, dn, d3, te, hv, hb.mono (by have := K4.cW_B d; omega), ⟨fun l rs ws H1 nl atl raw ⟨hrb, hch⟩ len B1 S1 => ?_⟩⟩
    walk_at "rd"
    refine ⟨fun σ' H5 => ∃ c : Bool, σ' = [some (.ref b), some v, some (.int (kk : Nat)), some (.ref l), some (.bl c)] ∧ (fl = false → c = false) ∧ H5 l = some (.lst (rs.map V.str)) ∧ Bo fl H5 b m ∧ Sm b H H5, ?_, ?_⟩
    · walk_at "rd"
      refine ⟨Nat.zero_le _, fun L nL => ?_⟩
      have lb : l ≠ b := fun z => hb.there (by rw [← z]; exact nl)
      have S2 := S1.trans (Sm.new (o := .lst []) nL)
      rcases B1 with ⟨ef, B1⟩ | ⟨ef, B1⟩
      · obtain ⟨g, se, f, eb, r0, r1⟩ := B1
        refine ⟨.list [.int g, .int se, .int f], .list [], .lst (sq_of (at_new eb nL)) (.cons (.int _) (.cons (.int _) (.cons (.int _) .nil))), .lst (sq_of upd_same) .nil, rfl, rfl, _, rfl, ?_⟩
        refine iteBt (by rfl) ?_
        walk_at "rd"
        refine ⟨b, 9, m, rfl, by decide, by decide, (show Bx H1 b (m + 1) from ⟨g, se, f, eb, r0, r1⟩).new nL, fun r H3 w0 w1 B3 S3 => ?_⟩
        walk_at "rd"
        exact ⟨fun z => (by rw [ef] at z; cases z), S3 l _ (at_new atl nL) lb, .inl ⟨ef, B3⟩, S2.trans S3⟩
      · refine ⟨.list [], .list [], .lst (sq_of (at_new B1 nL)) .nil, .lst (sq_of upd_same) .nil, rfl, rfl, _, rfl, ?_⟩
        refine iteBf (by rfl) ?_
        walk_at "rd"
        exact ⟨fun _ => rfl, at_new atl nL, .inr ⟨ef, at_new B1 nL⟩, S2⟩
    rintro σ' H5 ⟨c, rfl, hc, at5, B5, S5⟩
    have put : ∀ H6, (fl = false → ¬ kk ≤ K4.tight e) → Same H5 H6 → (tOp rCat (tOp rCat (tLst (tCons (tC (V.str "(")) tNil)) (tVar 3)) (tLst (tCons (tC (V.str ")")) tNil))) [some (V.ref b), some v, some (V.int (kk : Nat)), some (V.ref l), some (V.bl c)] H6 Q := fun H6 hp S6 => by
      refine ⟨sz rfl, fun L1 n1 => ?_⟩
      walk_at "rd"
      refine ⟨L1, l, _, _, rfl, rfl, upd_same, at_new (S6 l _ at5) n1, ?_, fun L2 n2 => ?_⟩
      · simp only [List.length_map, List.length_cons, List.length_nil]
        omega
      refine ⟨sz rfl, fun L3 n3 => ?_⟩
      refine ⟨L2, L3, _, _, rfl, rfl, at_new upd_same n3, upd_same, ?_, fun L4 n4 => ?_⟩
      · simp only [List.length_map, List.length_cons, List.length_nil, List.length_append]
        omega
      have S7 := ((S5.trans (Sm.of S6)).upd_new (o := .lst [.str "("]) n1).upd_new (o := .lst ([V.str "("] ++ rs.map V.str)) n2
      have B7 := ((((B5.same S6).new (o := .lst [.str "("]) n1).new (o := .lst ([V.str "("] ++ rs.map V.str)) n2).new (o := .lst [.str ")"]) n3)
      have S8 := S7.upd_new (o := .lst [.str ")"]) n3
      refine k L4 (("(" : Str) :: (rs ++ [(")" : Str)])) (K4.kw "(" :: (ws ++ [K4.kw ")"])) _ (S8.free n4 hb.there B7.there) ?_ (K4.Raw.cons (by decide) (raw.app (K4.Raw.cons (by decide) K4.Raw.nil))) ⟨⟨ws, hrb, .inl rfl⟩, fun z q => absurd q (hp z)⟩ ?_ (B7.new n4) (S8.upd_new n4)
      · rw [upd_same]
        simp
      · simp only [List.length_map, List.length_cons, List.length_nil, List.length_append]
        omega
    cases c with
    | true =>
      walk_at "tg"
      exact put H5 (fun z => nomatch hc z) (Same.refl _)
    | false =>
      walk_at "tg"
      refine ⟨e, d, v, rfl, te, hv.keep (S5.tp hb.notup), fun H6 S6 => ?_⟩
      walk_at "rd"
      refine ite2 (fun c => ?_) (fun c => ?_)
      · exact put H6 (fun _ => (by have : K4.tight e < kk := (by simpa using c); omega)) S6
      · have c' : ¬ K4.tight e < kk := by simpa using c
        walk_at "rd"
        exact k l rs ws H6 nl (S6 l _ at5) raw ⟨⟨ws, hrb, .inr ⟨by omega, rfl⟩⟩, fun z _ => hch z⟩ (by omega) (B5.same S6) (S5.trans (Sm.of S6))
end
end W4
set_option Elab.async false
set_option linter.all false
set_option maxRecDepth 100000
set_option maxHeartbeats 4000000
set_option pp.maxSteps 400
namespace W4
open PySem PySem.Spec PyProof.Rows L2
local macro_rules | `(tactic| walk_at "tg") => `(tactic| repeat (first | refine iteBt (by decide +kernel) ?_ | refine iteBf (by decide +kernel) ?_ | refine ⟨_, rfl, ?_⟩ | refine ⟨_, _, rfl, rfl, ?_⟩ | refine ⟨rfl, _, rfl, ?_⟩))
local macro_rules | `(tactic| walk_at "rd") => `(tactic| repeat (first | refine ⟨_, rfl, ?_⟩ | refine ⟨_, _, rfl, rfl, ?_⟩ | refine ⟨rfl, _, rfl, ?_⟩))
section
variable {P : Program} {w : World} {K : PySem.W.Frag} {mg : Str → Option Value} {base : Heap}
/-- lists of texts that a comprehension makes of a tuple's items, with draws -/
theorem lc_words {K : PySem.W.Frag} {fl : Bool} {a b : Addr} {xs : List V} {g : TG} {te : TE} {vs : List Nat} {σ : L2.St} {H1 : Hp} {D : Addr} {Qd : Hp → Prop} (R : Nat → List Str → Prop) (c m : Nat) (few : xs.length ≤ 2) (nD : H1 D = none) (hT : H1 a = some (.tup xs)) (hb : Bo fl H1 b (m + xs.length * c))
    (hs : ∀ (i : Nat) (x : V) (H : Hp) (m' : Nat) (Qn : VK), xs[i]? = some x → Sm b H1 H → Bo fl H b (m' + c) → (∀ (p : Addr) (rs : List Str) (H4 : Hp), H p = none → H4 p = some (.lst (rs.map V.str)) → R i rs → Bo fl H4 b m' → Sm b H H4 → Qn (.ref p) H4) → g x (wipe σ vs) H fun σ2 H2 => wipe σ2 vs = wipe σ vs ∧ te σ2 H2 Qn)
    (mg : ∀ x H Q Q', (∀ σ' H', Q σ' H' → Q' σ' H') → g x (wipe σ vs) H Q → g x (wipe σ vs) H Q')
    (hd : ∀ (H : Hp) (ys : List V) (rss : List (List Str)), rss.length = xs.length → (∀ (i : Nat) (rs : List Str), rss[i]? = some rs → R i rs) → Sm b H1 H → H D = some (.lst ys) → LsL [b] H ys rss → Bo fl H b m → Qd H) :
    ∃ W : Nat → Nat → Hp → Prop, (∃ m, W 0 m (upd H1 D (.lst []))) ∧ ∀ i m H, W i m H →
      ((Itt K a).stop i H ∧ Qd H) ∨ ((Itt K a).go i H ∧ ∃ Nx : Hp → Prop, (∀ H', Nx H' → ∃ m', m' < m ∧ W (i + 1) m' H') ∧ ∀ x H', (Itt K a).yld i H x H' → g x (wipe σ vs) H' fun σ2 H2 => wipe σ2 vs = wipe σ vs ∧ tYes σ2 H2 fun b H3 =>
        if b = true then te σ2 H3 fun y H4 => ∃ acc, H4 D = some (.lst acc) ∧ acc.length < sizeLine ∧ Nx (upd H4 D (.lst (acc ++ [y]))) else Nx H3) := by
  have Db : D ≠ b := fun z => hb.there (by rw [← z]; exact nD)
  refine lc_tup (K := K) (xs := xs) (fun i H => ∃ (ys : List V) (rss : List (List Str)) (k : Nat), i + k = xs.length ∧ rss.length = i ∧ (∀ (j : Nat) (rs : List Str), rss[j]? = some rs → R j rs) ∧ H D = some (.lst ys) ∧ LsL [b, D] H ys rss ∧ Bo fl H b (m + k * c) ∧ Sm b H1 H) ?_ ?_ ?_ ?_
  · exact ⟨[], [], xs.length, by omega, rfl, (fun j rs h => by simp at h), upd_same, .nil, hb.new nD, Sm.new nD⟩
  · rintro i H _ ⟨ys, rss, k, _, _, _, _, _, _, S⟩
    exact st_of (S a _ hT fun z => hb.notup xs (by rw [← z]; exact hT))
  · rintro i x H hx ⟨ys, rss, k, ek, lr, hr, atD, hl, B, S⟩
    have hi : i < xs.length := (List.getElem?_eq_some_iff.mp hx).1
    obtain ⟨k, rfl⟩ : ∃ k', k = k' + 1 := ⟨k - 1, by omega⟩
    rw [Nat.succ_mul, ← Nat.add_assoc] at B
    refine mg _ _ _ _ (fun σ2 H2 q => ⟨q.1, ?_⟩) (hs i x H (m + k * c) (fun y H4 => ∃ acc, H4 D = some (.lst acc) ∧ acc.length < sizeLine ∧ ∃ (ys : List V) (rss : List (List Str)) (k : Nat), i + 1 + k = xs.length ∧ rss.length = i + 1 ∧ (∀ (j : Nat) (rs : List Str), rss[j]? = some rs → R j rs) ∧ upd H4 D (.lst (acc ++ [y])) D = some (.lst ys) ∧ LsL [b, D] (upd H4 D (.lst (acc ++ [y]))) ys rss ∧ Bo fl (upd H4 D (.lst (acc ++ [y]))) b (m + k * c) ∧ Sm b H1 (upd H4 D (.lst (acc ++ [y])))) hx S B fun p rs H4 np atp hR B4 S4 => ?_)
    · simp only [tYes, if_true]
      exact q.2
    · have lv := hl.length
      have pb : p ≠ b := fun z => B.there (by rw [← z]; exact np)
      have pD : p ≠ D := fun z => by rw [z, atD] at np; cases np
      refine ⟨ys, S4 D _ atD Db, Nat.lt_of_lt_of_le (show ys.length < 100 by omega) (by decide), ys ++ [.ref p], rss ++ [rs], k, by omega, by simp [lr], fun j zs hj => ?_, upd_same, ?_, B4.upd (Ne.symm Db), (S.trans S4).own nD⟩
      · rcases Nat.lt_trichotomy j rss.length with h | h | h
        · rw [List.getElem?_append_left h] at hj
          exact hr j zs hj
        · rw [h, List.getElem?_append_right (Nat.le_refl _), Nat.sub_self] at hj
          cases hj
          rw [h, lr]
          exact hR
        · rw [List.getElem?_eq_none (by simp; omega)] at hj
          cases hj
      · refine ((hl.sm (by simp) S4).app (.cons ?_ atp .nil)).keep fun q zs nq e => ?_
        · simp [pb, pD]
        · rw [upd_ne (fun z => nq (by simp [z]))]
          exact e
  · rintro H ⟨ys, rss, k, ek, lr, hr, atD, hl, B, S⟩
    exact hd H ys rss lr hr S atD (hl.less fun p hp => by simp at hp; simp [hp]) (B.mono (by omega))
end
end W4
set_option Elab.async false
set_option linter.all false
set_option maxRecDepth 100000
set_option maxHeartbeats 4000000
set_option pp.maxSteps 400
namespace W4
open PySem PySem.Spec PyProof.Rows L2
local macro_rules | `(tactic| walk_at "tg") => `(tactic| repeat (first | refine iteBt (by decide +kernel) ?_ | refine iteBf (by decide +kernel) ?_ | refine ⟨_, rfl, ?_⟩ | refine ⟨_, _, rfl, rfl, ?_⟩ | refine ⟨rfl, _, rfl, ?_⟩))
local macro_rules | `(tactic| walk_at "rd") => `(tactic| repeat (first | refine ⟨_, rfl, ?_⟩ | refine ⟨_, _, rfl, rfl, ?_⟩ | refine ⟨rfl, _, rfl, ?_⟩))
section
variable {P : Program} {w : World} {K : PySem.W.Frag} {mg : Str → Option Value} {base : Heap}
theorem lW_le {d : Nat} (h : d ≤ 3) : K4.lW d ≤ 200 := (show ∀ d, d ≤ 3 → K4.lW d ≤ 200 by decide) d h
theorem exs_at : ∀ (as : List K4.Ex) (d i : Nat) (y : PyData), K4.tEs as d → (K4.exsD as)[i]? = some y → ∃ e, as[i]? = some e ∧ K4.tE e d ∧ y = e.toD
  | [], _, _, _, _, h => by cases h
  | e :: r, d, 0, y, h, q => by
    cases q
    exact ⟨e, rfl, h.1, rfl⟩
  | e :: r, d, i + 1, y, h, q => exs_at r d i y h.2 q
theorem fs_at : ∀ (as : List (Str × K4.Ex)) (d i : Nat) (y : PyData), K4.tEf as d → (K4.fsD as)[i]? = some y → ∃ p, as[i]? = some p ∧ p.1 ∈ K4.okN ∧ K4.tE p.2 d ∧ y = .tuple [.str p.1, p.2.toD]
  | [], _, _, _, _, h => by cases h
  | (x, e) :: r, d, 0, y, h, q => by
    cases q
    exact ⟨(x, e), rfl, h.1, h.2.1, rfl⟩
  | (x, e) :: r, d, i + 1, y, h, q => fs_at r d i y h.2.2 q
theorem ok_bare (T : Txt K mg w) (n : Nat) (c_q_words : Clb P w K mg base CX0 (3 + 2 * n) "_law_words" (spWords n)) : Clb P w K mg base CX0 (2 + 2 * (n + 1)) "_law_bare_words" (spBare (n + 1)) := by
  have c_q_tight := ok_ltight (P := P) (base := base) T
  have c_q_row_words := ok_roww (P := P) (base := base) T
  rw [show 2 + 2 * (n + 1) = (3 + 2 * n) + 1 by omega]
  refine T.clb (k := 3 + 2 * n) (d := d_q_bare_words) m_q_bare_words rfl T.g_q_bare_words rfl rfl sc_q_bare_words bd_q_bare_words (fun vs H Q E h => ?_) (fun cdv A outer s H vs Q E hr h => ?_)
  · obtain ⟨fl, b, v, e, d, m, rfl, _⟩ := h
    rfl
  · obtain ⟨fl, b, v, e, d, m, rfl, dn, d3, te, hv, hb, ⟨k⟩⟩ := h
    refine ⟨_, (pss_cons (ps_set (i := 2) sc_q_bare_words.nd rfl (.inl rfl) (pe_ix ix_tup (pv 1) pe_int (fun _ _ => rfl)))
    (pss_cons (ps_if (pt_cmpR op_eq (pv 2) pe_str (nomark _))
    (pss_cons (ps_set (i := 3) sc_q_bare_words.nd rfl (.inl rfl) (pe_cl c_q_tight hr (by first | decide | omega) pass0 (by rfl) (pa_cons (pv 1) pa_nil)))
    (pss_one (ps_ret (pe_op op_cat (pe_op op_cat (pe_cl c_q_words hr (by first | decide | omega) pass0 (by rfl) (pa_cons (pv 0) (pa_cons (pe_ix ix_tup (pv 1) pe_int (fun _ _ => rfl)) (pa_cons (pe_op op_add (pv 3) (pe_callTy call_int1 (by rfl) T.f_int (by decide +kernel) (pa_cons (pe_cmpR op_eq (pv 3) pe_int (nomark _)) pa_nil))) pa_nil)))) (pe_lst (pa_cons (pe_ix ix_tup (pv 1) pe_int (fun _ _ => rfl)) pa_nil))) (pe_cl c_q_words hr (by first | decide | omega) pass0 (by rfl) (pa_cons (pv 0) (pa_cons (pe_ix ix_tup (pv 1) pe_int (fun _ _ => rfl)) (pa_cons (pe_op op_add (pv 3) pe_int) pa_nil))))))))
    pss_nil)
    (pss_cons (ps_if (pt_cmpR op_in_seq (pv 2) (pe_tup (pa_cons pe_str (pa_cons pe_str pa_nil))) (by with_unfolding_all rfl))
    (pss_one (ps_ret (pe_op op_cat (pe_lst (pa_cons (pe_ifExp (pt_cmpR op_eq (pv 2) pe_str (nomark _)) pe_str pe_str) pa_nil)) (pe_cl c_q_words hr (by first | decide | omega) pass0 (by rfl) (pa_cons (pv 0) (pa_cons (pe_ix ix_tup (pv 1) pe_int (fun _ _ => rfl)) (pa_cons pe_int pa_nil)))))))
    pss_nil)
    (pss_cons (ps_if (pt_cmpR op_eq (pv 2) pe_str (nomark _))
    (pss_one (ps_ret (pe_op op_cat (pe_cl c_q_words hr (by first | decide | omega) pass0 (by rfl) (pa_cons (pv 0) (pa_cons (pe_ix ix_tup (pv 1) pe_int (fun _ _ => rfl)) (pa_cons pe_int pa_nil)))) (pe_lst (pa_cons pe_str (pa_cons (pe_ix ix_tup (pv 1) pe_int (fun _ _ => rfl)) pa_nil))))))
    pss_nil)
    (pss_cons (ps_if (pt_cmpR op_eq (pv 2) pe_str (nomark _))
    (pss_one (ps_ret (pe_op op_cat (pe_lst (pa_cons (pe_ix ix_tup (pv 1) pe_int (fun _ _ => rfl)) pa_nil)) (pe_cl c_q_row_words hr (by first | decide | omega) pass0 (by rfl) (pa_cons (pe_lc (own := [("_law_part", 4)]) (g := gName 4) rfl sc_q_bare_words.nd (pi_tup (pe_ix ix_tup (pv 1) pe_int (fun _ _ => rfl))) (blkOk_by (own := [("_law_part", 4)]) (N := N_q_bare_words) (sc := defScope s_q_bare_words) (by decide +kernel)) (fun _ _ _ _ _ => pg_name (i := 4) sc_q_bare_words.nd rfl (.inl rfl)) (fun _ _ _ _ _ => pts_nil) (fun _ _ _ _ _ => (pe_cl c_q_words hr (by first | decide | omega) pass0 (by rfl) (pa_cons (pv 0) (pa_cons (pv 4) (pa_cons pe_int pa_nil)))))) pa_nil)))))
    pss_nil)
    (pss_cons (ps_if (pt_cmpR op_eq (pv 2) pe_str (nomark _))
    (pss_one (ps_ret (pe_op op_cat (pe_lst (pa_cons pe_str pa_nil)) (pe_cl c_q_row_words hr (by first | decide | omega) pass0 (by rfl) (pa_cons (pe_lc (own := [("_law_name_here", 5), ("_law_part", 4)]) (g := gTup K 2 (gCons (gName 5) (gCons (gName 4) gNil))) rfl sc_q_bare_words.nd (pi_tup (pe_ix ix_tup (pv 1) pe_int (fun _ _ => rfl))) (blkOk_by (own := [("_law_name_here", 5), ("_law_part", 4)]) (N := N_q_bare_words) (sc := defScope s_q_bare_words) (by decide +kernel)) (fun _ _ _ _ _ => pg_tup rfl (pgs_cons (pg_name (i := 5) sc_q_bare_words.nd rfl (.inl rfl)) (pgs_cons (pg_name (i := 4) sc_q_bare_words.nd rfl (.inl rfl)) pgs_nil))) (fun _ _ _ _ _ => pts_nil) (fun _ _ _ _ _ => (pe_op op_cat (pe_lst (pa_cons (pv 5) (pa_cons pe_str pa_nil))) (pe_cl c_q_words hr (by first | decide | omega) pass0 (by rfl) (pa_cons (pv 0) (pa_cons (pv 4) (pa_cons pe_int pa_nil))))))) pa_nil)))))
    pss_nil)
    (pss_cons (ps_if (pt_cmpR op_eq (pv 2) pe_str (nomark _))
    (pss_one (ps_ret (pe_lst (pa_cons pe_str (pa_cons (pe_ix ix_tup (pv 1) pe_int (fun _ _ => rfl)) pa_nil)))))
    pss_nil)
    (pss_one (ps_ret (pe_ifExp (pt_cmpR op_in_seq (pv 2) (pe_tup (pa_cons pe_str (pa_cons pe_str pa_nil))) (by with_unfolding_all rfl)) (pe_lst (pa_cons (pe_callTy call_strV (by rfl) T.f_str (by decide +kernel) (pa_cons (pe_ix ix_tup (pv 1) pe_int (fun _ _ => rfl)) pa_nil)) pa_nil)) (pe_lst (pa_cons pe_str pa_nil)))))))))))), ?_⟩
    have l4 := K4.lW_pos d
    have l9 := lW_le d3
    have s9 := sL
    obtain ⟨a, x, xs, rfl, at_, hx, vx⟩ : ∃ a x xs, v = .ref a ∧ H a = some (.tup (x :: xs)) ∧ x = .str (tgE e) ∧ VaL H (x :: xs) (match e.toD with | .tuple ds => ds | _ => []) := by
      cases e <;> (obtain ⟨a, xs, rfl, at_, va⟩ := hv.tup_inv; obtain ⟨x, ys, rfl, hx, _⟩ := id va.cons_inv; exact ⟨a, x, ys, rfl, at_, hx.str_inv, va⟩)
    subst hx
    have ab : a ≠ b := fun z => hb.notup (.str (tgE e) :: xs) (by rw [← z]; exact at_)
    walk_at "rd"
    refine ⟨a, _, 0, _, rfl, rfl, st_of at_, atI_nat (j := 0) rfl, ?_⟩
    cases e with
    | op sg l r =>
      obtain ⟨d, rfl⟩ : ∃ d', d = d' + 1 := ⟨d - 1, by have := te.1; omega⟩
      have lWs : K4.lW (d + 1) = 2 * K4.lW d + 12 := rfl
      have cBs : K4.cB (d + 1) = 2 * K4.cW d := rfl
      obtain ⟨_, y0, e0, _, v0⟩ := vx.cons_inv
      cases e0
      obtain ⟨x1, y1, rfl, h1, v1⟩ := v0.cons_inv
      obtain ⟨x2, y2, rfl, h2, v2⟩ := v1.cons_inv
      obtain ⟨x3, y3, rfl, h3, v3⟩ := v2.cons_inv
      obtain rfl := h1.str_inv
      have tsg := te.2.1
      have tl : K4.tE l d := te.2.2.1
      have tr : K4.tE r d := te.2.2.2
      walk_at "tg"
      refine ⟨.op sg l r, d + 1, .ref a, rfl, te, hv, fun H1 S1 => ?_⟩
      walk_at "tg"
      refine ⟨a, _, 2, _, rfl, rfl, st_of (S1 a _ at_), atI_nat (j := 2) rfl, ?_⟩
      walk_at "rd"
      refine ⟨rfl, .inr ⟨_, rfl, ?_⟩⟩
      have lf : (K4.tightOf sg : Int) + (if decide (V.int (K4.tightOf sg : Int) = V.int 2) = true then 1 else 0) = ((K4.lft (K4.tightOf sg) : Nat) : Int) := by
        unfold K4.lft
        by_cases h : K4.tightOf sg = 2
        · rw [h] <;> rfl
        · rw [if_neg h, if_neg]
          · simp
          · intro z
            have z' := V.int.inj (of_decide_eq_true z)
            omega
      walk_at "rd"
      refine ⟨fl, b, x2, l, d, _, m + K4.cW d, congrArg (fun z => [V.ref b, x2, V.int z]) lf, by omega, by omega, tl, h2.keep (Tp.of S1), (hb.same S1).mono (by omega), ⟨fun l1 r1 w1 H2 nl1 at1 raw1 ⟨rw1, ch1⟩ len1 B2 S2 => ?_⟩⟩
      have S2' := (Sm.of S1).trans S2
      have at2 := S2' a _ at_ ab
      walk_at "rd"
      refine ⟨a, _, 1, _, rfl, rfl, st_of at2, atI_nat (j := 1) rfl, ?_⟩
      refine ⟨sz rfl, fun L nL => ?_⟩
      refine ⟨l1, L, _, _, rfl, rfl, at_new at1 nL, upd_same, ?_, fun C nC => ?_⟩
      · simp only [List.length_map, List.length_cons, List.length_nil]
        omega
      have Cb : C ≠ b := fun z => (B2.new (o := .lst [V.str sg]) nL).there (by rw [← z]; exact nC)
      have B3 := (B2.new (o := .lst [V.str sg]) nL).new (o := .lst (r1.map V.str ++ [V.str sg])) nC
      have S3 := (S2'.upd_new (o := .lst [V.str sg]) nL).upd_new (o := .lst (r1.map V.str ++ [V.str sg])) nC
      walk_at "rd"
      refine ⟨a, _, 3, _, rfl, rfl, st_of (S3 a _ at_ ab), atI_nat (j := 3) rfl, ?_⟩
      walk_at "rd"
      refine ⟨fl, b, x3, r, d, K4.tightOf sg + 1, m, rfl, by omega, by omega, tr, h3.keep (S3.tp hb.notup), B3, ⟨fun l2 r2 w2 H3 nl2 at3 raw2 ⟨rw2, ch2⟩ len2 B4 S4 => ?_⟩⟩
      have atC := S4 C _ upd_same Cb
      have S4' := S3.trans S4
      refine ⟨C, l2, _, _, rfl, rfl, atC, at3, ?_, fun R nR => ?_⟩
      · simp only [List.length_map, List.length_cons, List.length_nil, List.length_append]
        omega
      refine k R (r1 ++ sg :: r2) (w1 ++ K4.kw sg :: w2) _ (S4'.free nR hb.there B4.there) ?_ (raw1.app (K4.Raw.cons (K4.sb_sg tsg) raw2)) ?_ ?_ (B4.new nR) (S4'.upd_new nR)
      · rw [upd_same]
        simp
      · refine ⟨?_, fun _ => by unfold K4.CH; trivial⟩
        unfold K4.RB
        exact ⟨K4.sg_ok tsg, w1, w2, rw1, rw2, rfl⟩
      · simp only [List.length_cons, List.length_append]
        omega
    | neg e =>
      obtain ⟨d, rfl⟩ : ∃ d', d = d' + 1 := ⟨d - 1, by have := te.1; omega⟩
      have lWs : K4.lW (d + 1) = 2 * K4.lW d + 12 := rfl
      have cBs : K4.cB (d + 1) = 2 * K4.cW d := rfl
      obtain ⟨_, y0, e0, _, v0⟩ := vx.cons_inv
      cases e0
      obtain ⟨x1, y1, rfl, h1, v1⟩ := v0.cons_inv
      walk_at "tg"
      refine ⟨sz rfl, fun t1 n1 => ?_⟩
      refine ⟨t1, _, rfl, .inr (st_of upd_same), rfl, rfl, ?_⟩
      have atA := at_new (o := .tup [.str "neg", .str "not"]) at_ n1
      have SA : Same H (upd H t1 (.tup [.str "neg", .str "not"])) := same_new n1
      walk_at "tg"
      refine ⟨sz rfl, fun L nL => ?_⟩
      have atL : (upd (upd H t1 (.tup [.str "neg", .str "not"])) L (.lst [.str "-!"])) L = some (.lst [.str "-!"]) := upd_same
      have Lb : L ≠ b := fun z => ((hb.same SA).there) (by rw [← z]; exact nL)
      have SB := SA.trans (same_new (o := .lst [.str "-!"]) nL)
      walk_at "rd"
      refine ⟨a, _, 1, _, rfl, rfl, st_of (SB a _ at_), atI_nat (j := 1) rfl, ?_⟩
      refine ⟨fl, b, x1, e, d, 5, m, rfl, by omega, by omega, te.2, h1.keep (Tp.of SB), (hb.same SB).mono (by omega), ⟨fun l1 r1 w1 H2 nl1 at1 raw1 ⟨rw1, ch1⟩ len1 B2 S2 => ?_⟩⟩
      have S2' := (Sm.of SB).trans S2
      refine ⟨L, l1, _, _, rfl, rfl, S2 L _ atL Lb, at1, ?_, fun R nR => ?_⟩
      · simp only [List.length_map, List.length_cons, List.length_nil, List.length_append]
        omega
      refine k R ("-!" :: r1) (K4.kw "-" :: w1) _ (S2'.free nR hb.there B2.there) ?_ (K4.Raw.cons (by decide) raw1) ?_ ?_ (B2.new nR |>.mono (by omega)) (S2'.upd_new nR)
      · rw [upd_same]
        simp
      · refine ⟨?_, fun _ => by unfold K4.CH; trivial⟩
        unfold K4.RB
        exact ⟨w1, rw1, rfl⟩
      · simp only [List.length_cons, List.length_append]
        omega
    | not e =>
      obtain ⟨d, rfl⟩ : ∃ d', d = d' + 1 := ⟨d - 1, by have := te.1; omega⟩
      have lWs : K4.lW (d + 1) = 2 * K4.lW d + 12 := rfl
      have cBs : K4.cB (d + 1) = 2 * K4.cW d := rfl
      obtain ⟨_, y0, e0, _, v0⟩ := vx.cons_inv
      cases e0
      obtain ⟨x1, y1, rfl, h1, v1⟩ := v0.cons_inv
      walk_at "tg"
      refine ⟨sz rfl, fun t1 n1 => ?_⟩
      refine ⟨t1, _, rfl, .inr (st_of upd_same), rfl, rfl, ?_⟩
      have atA := at_new (o := .tup [.str "neg", .str "not"]) at_ n1
      have SA : Same H (upd H t1 (.tup [.str "neg", .str "not"])) := same_new n1
      walk_at "tg"
      refine ⟨sz rfl, fun L nL => ?_⟩
      have atL : (upd (upd H t1 (.tup [.str "neg", .str "not"])) L (.lst [.str "not"])) L = some (.lst [.str "not"]) := upd_same
      have Lb : L ≠ b := fun z => ((hb.same SA).there) (by rw [← z]; exact nL)
      have SB := SA.trans (same_new (o := .lst [.str "not"]) nL)
      walk_at "rd"
      refine ⟨a, _, 1, _, rfl, rfl, st_of (SB a _ at_), atI_nat (j := 1) rfl, ?_⟩
      refine ⟨fl, b, x1, e, d, 5, m, rfl, by omega, by omega, te.2, h1.keep (Tp.of SB), (hb.same SB).mono (by omega), ⟨fun l1 r1 w1 H2 nl1 at1 raw1 ⟨rw1, ch1⟩ len1 B2 S2 => ?_⟩⟩
      have S2' := (Sm.of SB).trans S2
      refine ⟨L, l1, _, _, rfl, rfl, S2 L _ atL Lb, at1, ?_, fun R nR => ?_⟩
      · simp only [List.length_map, List.length_cons, List.length_nil, List.length_append]
        omega
      refine k R ("not" :: r1) (K4.kw "not" :: w1) _ (S2'.free nR hb.there B2.there) ?_ (K4.Raw.cons (by decide) raw1) ?_ ?_ (B2.new nR |>.mono (by omega)) (S2'.upd_new nR)
      · rw [upd_same]
        simp
      · refine ⟨?_, fun _ => by unfold K4.CH; trivial⟩
        unfold K4.RB
        exact ⟨w1, rw1, rfl⟩
      · simp only [List.length_cons, List.length_append]
        omega
    | get e f =>
      obtain ⟨d, rfl⟩ : ∃ d', d = d' + 1 := ⟨d - 1, by have := te.1; omega⟩
      have lWs : K4.lW (d + 1) = 2 * K4.lW d + 12 := rfl
      have cBs : K4.cB (d + 1) = 2 * K4.cW d := rfl
      obtain ⟨_, y0, e0, _, v0⟩ := vx.cons_inv
      cases e0
      obtain ⟨x1, y1, rfl, h1, v1⟩ := v0.cons_inv
      obtain ⟨x2, y2, rfl, h2, v2⟩ := v1.cons_inv
      obtain rfl := h2.str_inv
      walk_at "tg"
      refine ⟨sz rfl, fun t1 n1 => ?_⟩
      refine ⟨t1, _, rfl, .inr (st_of upd_same), rfl, rfl, ?_⟩
      have atA := at_new (o := .tup [.str "neg", .str "not"]) at_ n1
      have SA : Same H (upd H t1 (.tup [.str "neg", .str "not"])) := same_new n1
      walk_at "tg"
      refine ⟨a, _, 1, _, rfl, rfl, st_of atA, atI_nat (j := 1) rfl, ?_⟩
      refine ⟨fl, b, x1, e, d, 6, m, rfl, by omega, by omega, te.2.1, h1.keep (Tp.of SA), (hb.same SA).mono (by omega), ⟨fun l1 r1 w1 H2 nl1 at1 raw1 ⟨rw1, ch1⟩ len1 B2 S2 => ?_⟩⟩
      have S2' := (Sm.of SA).trans S2
      walk_at "rd"
      refine ⟨a, _, 2, _, rfl, rfl, st_of (S2' a _ at_ ab), atI_nat (j := 2) rfl, ?_⟩
      refine ⟨sz rfl, fun L nL => ?_⟩
      refine ⟨l1, L, _, _, rfl, rfl, at_new at1 nL, upd_same, ?_, fun R nR => ?_⟩
      · simp only [List.length_map, List.length_cons, List.length_nil, List.length_append]
        omega
      have B3 := B2.new (o := .lst [V.str ".", V.str f]) nL
      have S3 := S2'.upd_new (o := .lst [V.str ".", V.str f]) nL
      refine k R (r1 ++ ([".", f] : List Str)) (w1 ++ [K4.kw ".", K4.nmw f]) _ (S3.free nR hb.there B3.there) ?_ (raw1.app (K4.Raw.cons (by decide) (K4.Raw.cons (K4.sb_nm te.2.2) K4.Raw.nil))) ?_ ?_ (B3.new nR |>.mono (by omega)) (S3.upd_new nR)
      · rw [upd_same]
        simp
      · refine ⟨?_, fun z => by unfold K4.CH; exact fun q => ⟨w1, ch1 z q, rfl⟩⟩
        unfold K4.RB
        exact ⟨w1, rw1, rfl⟩
      · simp only [List.length_cons, List.length_append, List.length_nil]
        omega
    | call f as =>
      obtain ⟨d, rfl⟩ : ∃ d', d = d' + 1 := ⟨d - 1, by have := te.2.1; omega⟩
      have lWs : K4.lW (d + 1) = 2 * K4.lW d + 12 := rfl
      have cBs : K4.cB (d + 1) = 2 * K4.cW d := rfl
      obtain ⟨_, y0, e0, _, v0⟩ := vx.cons_inv
      cases e0
      obtain ⟨x1, y1, rfl, h1, v1⟩ := v0.cons_inv
      obtain ⟨x2, y2, rfl, h2, v2⟩ := v1.cons_inv
      obtain rfl := h1.str_inv
      obtain ⟨a2, zs, rfl, atz, vz⟩ := h2.tup_inv
      have a2b : a2 ≠ b := fun z => hb.notup zs (by rw [← z]; exact atz)
      have lz := vz.length
      rw [exsD_len] at lz
      have al : as.length ≤ 2 := te.2.2.1
      have tas : K4.tEs as d := te.2.2.2
      walk_at "tg"
      refine ⟨sz rfl, fun t1 n1 => ?_⟩
      refine ⟨t1, _, rfl, .inr (st_of upd_same), rfl, rfl, ?_⟩
      have atA := at_new (o := .tup [.str "neg", .str "not"]) at_ n1
      have SA : Same H (upd H t1 (.tup [.str "neg", .str "not"])) := same_new n1
      walk_at "tg"
      refine ⟨a, _, 1, _, rfl, rfl, st_of atA, atI_nat (j := 1) rfl, ?_⟩
      refine ⟨sz rfl, fun L nL => ?_⟩
      have atL : (upd (upd H t1 (.tup [.str "neg", .str "not"])) L (.lst [.str f])) L = some (.lst [.str f]) := upd_same
      have Lb : L ≠ b := fun z => ((hb.same SA).there) (by rw [← z]; exact nL)
      have SB := SA.trans (same_new (o := .lst [.str f]) nL)
      walk_at "rd"
      refine ⟨a, _, 2, _, rfl, rfl, st_of (SB a _ at_), atI_nat (j := 2) rfl, ?_⟩
      refine ⟨a2, rfl, ⟨_, st_of (SB a2 _ atz)⟩, fun D nD => lc_words (K := K) (b := b) (fun i rs => ∀ e, as[i]? = some e → (∃ ws, K4.Raw rs ws ∧ K4.Rw (K4.RB e) (K4.tight e) 0 ws) ∧ rs.length ≤ K4.lW d) (K4.cW d) m (by omega) nD (SB a2 _ atz) ((hb.same SB).mono (by rw [lz, cBs]; have := Nat.mul_le_mul_right (K4.cW d) al; omega)) ?_ ?_ ?_⟩
      · intro i x H2 m' Qn hx S2 B2 q
        obtain ⟨y, hy, vy⟩ := (vz.keep (((Sm.of SB).trans S2).tp hb.notup)).get hx
        obtain ⟨e, he, te', rfl⟩ := exs_at as d i y tas hy
        refine ⟨rfl, ?_⟩
        walk_at "rd"
        refine ⟨fl, b, x, e, d, 0, m', rfl, by omega, by omega, te', vy, B2, ⟨fun l1 r1 w1 H3 nl1 at1 raw1 ⟨rw1, ch1⟩ len1 B3 S3 => q l1 r1 H3 nl1 at1 (fun e' he' => ?_) B3 S3⟩⟩
        rw [he] at he'
        cases he'
        exact ⟨⟨w1, raw1, rw1⟩, len1⟩
      · intro x H2 Q1 Q2 f q
        exact f _ _ q
      · intro H2 ys rss lr hR S2 atD hl B2
        obtain ⟨wss, hw, hraw⟩ := K4.rows_es as rss (by omega) fun i e rs he hr => (hR i rs hr e he).1
        have lens : ∀ rs ∈ rss, rs.length ≤ K4.lW d := fun rs hrs => by
          obtain ⟨i, hi⟩ := List.mem_iff_getElem?.mp hrs
          have : i < as.length := by have := (List.getElem?_eq_some_iff.mp hi).1; omega
          exact (hR i rs hi as[i] (List.getElem?_eq_getElem this)).2
        walk_at "rd"
        refine ⟨D, [b], ys, rss, rfl, atD, hl, by omega, fun rs hrs => by have := lens rs hrs; omega, fun l2 H3 nl2 at2 S3 => ?_⟩
        have rl := K4.rowR_len lens (by omega)
        have S3' := ((Sm.of SB).trans S2).trans (Sm.of S3)
        refine ⟨L, l2, _, _, rfl, rfl, S3 L _ (S2 L _ atL Lb), at2, ?_, fun R nR => ?_⟩
        · simp only [List.length_map, List.length_cons, List.length_nil, List.length_append]
          omega
        refine k R (f :: K4.rowR rss) (K4.nmw f :: K4.rowW wss) _ (S3'.free nR hb.there (B2.same S3).there) ?_ (K4.Raw.cons (K4.sb_nm te.1) (K4.row_raw hraw)) ?_ ?_ ((B2.same S3).new nR) (S3'.upd_new nR)
        · rw [upd_same]
          simp
        · refine ⟨?_, fun _ => by unfold K4.CH; trivial⟩
          unfold K4.RB
          exact ⟨wss, hw, rfl⟩
        · simp only [List.length_cons, List.length_append, List.length_nil]
          omega
    | new fs =>
      obtain ⟨d, rfl⟩ : ∃ d', d = d' + 1 := ⟨d - 1, by have := te.1; omega⟩
      have lWs : K4.lW (d + 1) = 2 * K4.lW d + 12 := rfl
      have cBs : K4.cB (d + 1) = 2 * K4.cW d := rfl
      obtain ⟨_, y0, e0, _, v0⟩ := vx.cons_inv
      cases e0
      obtain ⟨x1, y1, rfl, h1, v1⟩ := v0.cons_inv
      obtain ⟨a2, zs, rfl, atz, vz⟩ := h1.tup_inv
      have a2b : a2 ≠ b := fun z => hb.notup zs (by rw [← z]; exact atz)
      have lz := vz.length
      rw [fsD_len] at lz
      have al : fs.length ≤ 2 := te.2.1
      have tas : K4.tEf fs d := te.2.2
      walk_at "tg"
      refine ⟨sz rfl, fun t1 n1 => ?_⟩
      refine ⟨t1, _, rfl, .inr (st_of upd_same), rfl, rfl, ?_⟩
      have atA := at_new (o := .tup [.str "neg", .str "not"]) at_ n1
      have SA : Same H (upd H t1 (.tup [.str "neg", .str "not"])) := same_new n1
      walk_at "tg"
      refine ⟨sz rfl, fun L nL => ?_⟩
      have atL : (upd (upd H t1 (.tup [.str "neg", .str "not"])) L (.lst [.str "new"])) L = some (.lst [.str "new"]) := upd_same
      have Lb : L ≠ b := fun z => ((hb.same SA).there) (by rw [← z]; exact nL)
      have SB := SA.trans (same_new (o := .lst [.str "new"]) nL)
      walk_at "rd"
      refine ⟨a, _, 1, _, rfl, rfl, st_of (SB a _ at_), atI_nat (j := 1) rfl, ?_⟩
      refine ⟨a2, rfl, ⟨_, st_of (SB a2 _ atz)⟩, fun D nD => lc_words (K := K) (b := b) (fun i rs => ∀ p, fs[i]? = some p → (∃ ws, K4.Raw rs (K4.nmw p.1 :: K4.kw ":" :: ws) ∧ K4.Rw (K4.RB p.2) (K4.tight p.2) 0 ws) ∧ rs.length ≤ K4.lW d + 2) (K4.cW d) m (by omega) nD (SB a2 _ atz) ((hb.same SB).mono (by rw [lz, cBs]; have := Nat.mul_le_mul_right (K4.cW d) al; omega)) ?_ ?_ ?_⟩
      · intro i x H2 m' Qn hx S2 B2 q
        have S2' := (Sm.of SB).trans S2
        obtain ⟨y, hy, vy⟩ := (vz.keep (S2'.tp hb.notup)).get hx
        obtain ⟨⟨nx, e⟩, he, tn, te', rfl⟩ := fs_at fs d i y tas hy
        obtain ⟨c, cs, rfl, atc, vc⟩ := vy.tup_inv
        obtain ⟨z1, c1, rfl, g1, vc1⟩ := vc.cons_inv
        obtain ⟨z2, c2, rfl, g2, vc2⟩ := vc1.cons_inv
        obtain rfl := vc2.nil_inv
        obtain rfl := g1.str_inv
        refine ⟨c, _, rfl, st_of atc, rfl, _, _, rfl, _, _, rfl, rfl, rfl, ?_⟩
        walk_at "rd"
        refine ⟨sz rfl, fun L2 nL2 => ?_⟩
        have L2b : L2 ≠ b := fun z => B2.there (by rw [← z]; exact nL2)
        have S3 : Sm b H2 (upd H2 L2 (.lst [.str nx, .str ":"])) := Sm.new nL2
        walk_at "rd"
        refine ⟨fl, b, z2, e, d, 0, m', rfl, by omega, by omega, te', g2.new nL2, B2.new nL2, ⟨fun l1 r1 w1 H3 nl1 at1 raw1 ⟨rw1, ch1⟩ len1 B3 S4 => ?_⟩⟩
        refine ⟨L2, l1, _, _, rfl, rfl, S4 L2 _ upd_same L2b, at1, ?_, fun R nR => ?_⟩
        · simp only [List.length_map, List.length_cons, List.length_nil, List.length_append]
          omega
        refine q R (nx :: ":" :: r1) _ ((S3.trans S4).free nR B2.there B3.there) ?_ (fun p' he' => ?_) (B3.new nR) ((S3.trans S4).upd_new nR)
        · rw [upd_same]
          simp
        · rw [he] at he'
          cases he'
          refine ⟨⟨w1, K4.Raw.cons (K4.sb_nm tn) (K4.Raw.cons (by decide) raw1), rw1⟩, ?_⟩
          simp only [List.length_cons]
          omega
      · rintro x H2 Q1 Q2 f ⟨a1, b1, c1, d1, e1, f1, g1, h1, i1, j1, k1, l1, q⟩
        exact ⟨a1, b1, c1, d1, e1, f1, g1, h1, i1, j1, k1, l1, f _ _ q⟩
      · intro H2 ys rss lr hR S2 atD hl B2
        obtain ⟨wss, hw, hraw⟩ := K4.rows_fs fs rss (by omega) fun i e rs he hr => (hR i rs hr e he).1
        have lens : ∀ rs ∈ rss, rs.length ≤ K4.lW d + 2 := fun rs hrs => by
          obtain ⟨i, hi⟩ := List.mem_iff_getElem?.mp hrs
          have : i < fs.length := by have := (List.getElem?_eq_some_iff.mp hi).1; omega
          exact (hR i rs hi fs[i] (List.getElem?_eq_getElem this)).2
        walk_at "rd"
        refine ⟨D, [b], ys, rss, rfl, atD, hl, by omega, fun rs hrs => by have := lens rs hrs; omega, fun l2 H3 nl2 at2 S3 => ?_⟩
        have rl := K4.rowR_len lens (by omega)
        have S3' := ((Sm.of SB).trans S2).trans (Sm.of S3)
        refine ⟨L, l2, _, _, rfl, rfl, S3 L _ (S2 L _ atL Lb), at2, ?_, fun R nR => ?_⟩
        · simp only [List.length_map, List.length_cons, List.length_nil, List.length_append]
          omega
        refine k R ("new" :: K4.rowR rss) (K4.kw "new" :: K4.rowW wss) _ (S3'.free nR hb.there (B2.same S3).there) ?_ (K4.Raw.cons (by decide) (K4.row_raw hraw)) ?_ ?_ ((B2.same S3).new nR) (S3'.upd_new nR)
        · rw [upd_same]
          simp
        · refine ⟨?_, fun _ => by unfold K4.CH; trivial⟩
          unfold K4.RB
          exact ⟨wss, hw, rfl⟩
        · simp only [List.length_cons, List.length_append, List.length_nil]
          omega
    | recv f =>
      obtain ⟨_, y0, e0, _, v0⟩ := vx.cons_inv
      cases e0
      obtain ⟨x1, y1, rfl, h1, v1⟩ := v0.cons_inv
      obtain rfl := h1.str_inv
      walk_at "tg"
      refine ⟨sz rfl, fun t1 n1 => ?_⟩
      refine ⟨t1, _, rfl, .inr (st_of upd_same), rfl, rfl, ?_⟩
      have atA := at_new (o := .tup [.str "neg", .str "not"]) at_ n1
      have SA : Same H (upd H t1 (.tup [.str "neg", .str "not"])) := same_new n1
      walk_at "tg"
      refine ⟨a, _, 1, _, rfl, rfl, st_of atA, atI_nat (j := 1) rfl, ?_⟩
      refine ⟨sz rfl, fun L nL => ?_⟩
      have SB := SA.trans (same_new (o := .lst [.str "receive", .str f]) nL)
      refine k L ["receive", f] [K4.kw "receive", K4.nmw f] _ (SA.free nL) upd_same (K4.Raw.cons (by decide) (K4.Raw.cons (K4.sb_nm te) K4.Raw.nil)) ⟨by unfold K4.RB; rfl, fun _ => by unfold K4.CH; trivial⟩ (by simp; omega) ((hb.same SB).mono (by omega)) (Sm.of SB)
    | non =>
      walk_at "tg"
      refine ⟨sz rfl, fun t1 n1 => ?_⟩
      refine ⟨t1, _, rfl, .inr (st_of upd_same), rfl, rfl, ?_⟩
      have SA : Same H (upd H t1 (.tup [.str "neg", .str "not"])) := same_new n1
      walk_at "tg"
      refine ⟨sz rfl, fun t2 n2 => ?_⟩
      refine ⟨t2, _, rfl, .inr (st_of upd_same), rfl, rfl, ?_⟩
      have SB := SA.trans (same_new (o := .tup [.str "int", .str "var"]) n2)
      walk_at "tg"
      refine ⟨sz rfl, fun L nL => ?_⟩
      have SC := SB.trans (same_new (o := .lst [.str "none"]) nL)
      refine k L ["none"] [K4.kw "none"] _ (SB.free nL) upd_same (K4.Raw.cons (by decide) K4.Raw.nil) ⟨by unfold K4.RB; rfl, fun _ => by unfold K4.CH; trivial⟩ (by simp; omega) ((hb.same SC).mono (by omega)) (Sm.of SC)
    | int m0 =>
      obtain ⟨_, y0, e0, _, v0⟩ := vx.cons_inv
      cases e0
      obtain ⟨x1, y1, rfl, h1, v1⟩ := v0.cons_inv
      obtain rfl := h1.int_inv
      walk_at "tg"
      refine ⟨sz rfl, fun t1 n1 => ?_⟩
      refine ⟨t1, _, rfl, .inr (st_of upd_same), rfl, rfl, ?_⟩
      have atA := at_new (o := .tup [.str "neg", .str "not"]) at_ n1
      have SA : Same H (upd H t1 (.tup [.str "neg", .str "not"])) := same_new n1
      walk_at "tg"
      refine ⟨sz rfl, fun t2 n2 => ?_⟩
      refine ⟨t2, _, rfl, .inr (st_of upd_same), rfl, rfl, ?_⟩
      have SB := SA.trans (same_new (o := .tup [.str "int", .str "var"]) n2)
      walk_at "tg"
      refine ⟨a, _, 1, _, rfl, rfl, st_of (SB a _ at_), atI_nat (j := 1) rfl, ?_⟩
      refine .inl ⟨_, rfl, (show ∀ m ∈ K4.okI, ((m : Nat) : Int).natAbs.log2 < 1920 by decide) m0 te, ?_⟩
      walk_at "rd"
      refine ⟨Nat.le_trans (show 1 ≤ 5 by decide) (sz rfl), fun L nL => ?_⟩
      have SC := SB.trans (same_new (o := .lst [.str (K4.numS m0)]) nL)
      refine k L [K4.numS m0] [K4.inw m0] _ (SB.free nL) upd_same (K4.Raw.cons (K4.sb_num te) K4.Raw.nil) ⟨by unfold K4.RB; exact ⟨K4.num_ok te, rfl⟩, fun _ => by unfold K4.CH; trivial⟩ (by simp; omega) ((hb.same SC).mono (by omega)) (Sm.of SC)
    | var f =>
      obtain ⟨_, y0, e0, _, v0⟩ := vx.cons_inv
      cases e0
      obtain ⟨x1, y1, rfl, h1, v1⟩ := v0.cons_inv
      obtain rfl := h1.str_inv
      walk_at "tg"
      refine ⟨sz rfl, fun t1 n1 => ?_⟩
      refine ⟨t1, _, rfl, .inr (st_of upd_same), rfl, rfl, ?_⟩
      have atA := at_new (o := .tup [.str "neg", .str "not"]) at_ n1
      have SA : Same H (upd H t1 (.tup [.str "neg", .str "not"])) := same_new n1
      walk_at "tg"
      refine ⟨sz rfl, fun t2 n2 => ?_⟩
      refine ⟨t2, _, rfl, .inr (st_of upd_same), rfl, rfl, ?_⟩
      have SB := SA.trans (same_new (o := .tup [.str "int", .str "var"]) n2)
      walk_at "tg"
      refine ⟨a, _, 1, _, rfl, rfl, st_of (SB a _ at_), atI_nat (j := 1) rfl, ?_⟩
      refine .inr ⟨_, rfl, ?_⟩
      walk_at "rd"
      refine ⟨sz rfl, fun L nL => ?_⟩
      have SC := SB.trans (same_new (o := .lst [.str f]) nL)
      refine k L [f] [K4.nmw f] _ (SB.free nL) upd_same (K4.Raw.cons (K4.sb_nm te) K4.Raw.nil) ⟨by unfold K4.RB; rfl, fun _ => by unfold K4.CH; rfl⟩ (by simp; omega) ((hb.same SC).mono (by omega)) (Sm.of SC)
theorem ok_w (T : Txt K mg w) : ∀ n, Clb P w K mg base CX0 (3 + 2 * n) "_law_words" (spWords n) ∧ Clb P w K mg base CX0 (2 + 2 * n) "_law_bare_words" (spBare n)
  | 0 => by
    have b : Clb P w K mg base CX0 (2 + 2 * 0) "_law_bare_words" (spBare 0) := T.none (d := d_q_bare_words) m_q_bare_words rfl T.g_q_bare_words rfl rfl 1 sc_q_bare_words bd_q_bare_words fun vs H Q E ⟨fl, b, v, e, d, m, _, h, _⟩ => Nat.not_lt_zero _ h
    exact ⟨ok_words T 0 b, b⟩
  | n + 1 => by
    have b := ok_bare (base := base) T n (ok_w T n).1
    exact ⟨ok_words T (n + 1) b, b⟩
end
end W4
set_option Elab.async false
set_option linter.all false
set_option maxRecDepth 100000
set_option maxHeartbeats 4000000
set_option pp.maxSteps 400
namespace W4
open PySem PySem.Spec PyProof.Rows L2
local macro_rules | `(tactic| walk_at "tg") => `(tactic| repeat (first | refine iteBt (by decide +kernel) ?_ | refine iteBf (by decide +kernel) ?_ | refine ⟨_, rfl, ?_⟩ | refine ⟨_, _, rfl, rfl, ?_⟩ | refine ⟨rfl, _, rfl, ?_⟩))
local macro_rules | `(tactic| walk_at "rd") => `(tactic| repeat (first | refine ⟨_, rfl, ?_⟩ | refine ⟨_, _, rfl, rfl, ?_⟩ | refine ⟨rfl, _, rfl, ?_⟩))
abbrev N_q_head_words : List Str := ["_law_box_here", "_law_statement", "_law_word"]
abbrev P_q_head_words : List Str := ["_law_box_here", "_law_statement"]
theorem sc_q_head_words : FnScope N_q_head_words P_q_head_words (defScope s_q_head_words) := ⟨rfl, rfl, rfl, by decide +kernel, rfl, by decide +kernel, by decide +kernel⟩
theorem bd_q_head_words (kV doc pm : Value) (an : Option Addr) (cdv ct : Value) (us : List Value) (hl : us.length = P_q_head_words.length) : bindArgs (PySem.W.fnOf d_q_head_words.name d_q_head_words.qual d_q_head_words.params d_q_head_words.body d_q_head_words.scope .none kV doc pm an cdv ct) ⟨us, []⟩ = pure (P_q_head_words.zip us) := match us, hl with | [_, _], _ => rfl
section
variable {P : Program} {w : World} {K : PySem.W.Frag} {mg : Str → Option Value} {base : Heap}
theorem at_n {H : Hp} {q : Addr} {o : HO} (_ : H q = none) : upd H q o q = some o := upd_same
theorem lW2 {d : Nat} (h : d ≤ 2) : K4.lW d ≤ 52 := (show ∀ d, d ≤ 2 → K4.lW d ≤ 52 by decide) d h
theorem cW2 {d : Nat} (h : d ≤ 2) : K4.cW d ≤ 7 := (show ∀ d, d ≤ 2 → K4.cW d ≤ 7 by decide) d h
theorem cB2 {d : Nat} (h : d ≤ 2) : K4.cB d ≤ 6 := (show ∀ d, d ≤ 2 → K4.cB d ≤ 6 by decide) d h
theorem Same.of_sm {p : Addr} {H H' : Hp} (n : H p = none) (S : Sm p H H') : Same H H' := fun c o e => S c o e fun z => by
  rw [z, n] at e
  cases e
def hN (s : K4.St) : Nat := if K4.isHere s = true then 1 else 0
def spHW (n : Nat) : Sp := fun vs H Q _ => ∃ (b : Addr) (v : V) (s : K4.St) (i dp m : Nat), vs = [.ref b, v] ∧ hN s < n ∧ K4.tS s i dp ∧ 1 ≤ dp ∧ dp ≤ 2 ∧ Va H v s.toD ∧ Bx H b (m + 7) ∧ WQ true H Q b m (118 + 2 * hN s) (K4.HW s)
theorem ok_hw (T : Txt K mg w) (n : Nat) (c_q_head_words : Clb P w K mg base CX0 (12 + n) "_law_head_words" (spHW n)) : Clb P w K mg base CX0 (12 + (n + 1)) "_law_head_words" (spHW (n + 1)) := by
  have c_q_words : Clb P w K mg base CX0 11 "_law_words" (spWords 4) := (ok_w T 4).1
  have c_q_bare_words : Clb P w K mg base CX0 10 "_law_bare_words" (spBare 4) := (ok_w T 4).2
  refine T.clb (k := 12 + n) (d := d_q_head_words) m_q_head_words rfl T.g_q_head_words rfl rfl sc_q_head_words bd_q_head_words (fun vs H Q E h => ?_) (fun cdv A outer s H vs Q E hr h => ?_)
  · obtain ⟨b, v, s, i, dp, m, rfl, _⟩ := h
    rfl
  · obtain ⟨b, v, s, i, dp, m, rfl, hn, ts, dp1, dp2, hv, hx, ⟨k⟩⟩ := h
    refine ⟨_, (pss_cons (ps_set (i := 2) sc_q_head_words.nd rfl (.inl rfl) (pe_ix ix_tup (pv 1) pe_int (fun _ _ => rfl)))
    (pss_cons (ps_if (pt_cmpR op_eq (pv 2) pe_str (nomark _))
    (pss_one (ps_ret (pe_op op_cat (pe_lst (pa_cons pe_str (pa_cons (pe_ix ix_tup (pv 1) pe_int (fun _ _ => rfl)) pa_nil))) (pe_cl c_q_head_words hr (by first | decide | omega) pass0 (by rfl) (pa_cons (pv 0) (pa_cons (pe_ix ix_tup (pv 1) pe_int (fun _ _ => rfl)) pa_nil))))))
    pss_nil)
    (pss_cons (ps_if (pt_cmpR op_in_seq (pv 2) (pe_tup (pa_cons pe_str (pa_cons pe_str pa_nil))) (by with_unfolding_all rfl))
    (pss_one (ps_ret (pe_op op_cat (pe_op op_cat (pe_op op_rep (pe_lst (pa_cons pe_str pa_nil)) (pe_callTy call_int1 (by rfl) T.f_int (by decide +kernel) (pa_cons (pe_cmpR op_eq (pv 2) pe_str (nomark _)) pa_nil))) (pe_lst (pa_cons (pe_ix ix_tup (pv 1) pe_int (fun _ _ => rfl)) (pa_cons pe_str pa_nil)))) (pe_cl c_q_words hr (by first | decide | omega) pass0 (by rfl) (pa_cons (pv 0) (pa_cons (pe_ix ix_tup (pv 1) pe_int (fun _ _ => rfl)) (pa_cons pe_int pa_nil)))))))
    pss_nil)
    (pss_cons (ps_if (pt_cmpR op_eq (pv 2) pe_str (nomark _))
    (pss_one (ps_ret (pe_op op_cat (pe_op op_cat (pe_cl c_q_words hr (by first | decide | omega) pass0 (by rfl) (pa_cons (pe_lst pa_nil) (pa_cons (pe_ix ix_tup (pv 1) pe_int (fun _ _ => rfl)) (pa_cons pe_int pa_nil)))) (pe_lst (pa_cons pe_str (pa_cons (pe_ix ix_tup (pv 1) pe_int (fun _ _ => rfl)) (pa_cons pe_str pa_nil))))) (pe_cl c_q_words hr (by first | decide | omega) pass0 (by rfl) (pa_cons (pv 0) (pa_cons (pe_ix ix_tup (pv 1) pe_int (fun _ _ => rfl)) (pa_cons pe_int pa_nil)))))))
    pss_nil)
    (pss_cons (ps_if (pt_cmpR op_eq (pv 2) pe_str (nomark _))
    (pss_one (ps_ret (pe_cl c_q_bare_words hr (by first | decide | omega) pass0 (by rfl) (pa_cons (pv 0) (pa_cons (pe_ix ix_tup (pv 1) pe_int (fun _ _ => rfl)) pa_nil)))))
    pss_nil)
    (pss_cons (ps_if (pt_cmpR op_eq (pv 2) pe_str (nomark _))
    (pss_one (ps_ret (pe_op op_cat (pe_lst (pa_cons pe_str pa_nil)) (pe_cl c_q_bare_words hr (by first | decide | omega) pass0 (by rfl) (pa_cons (pv 0) (pa_cons (pe_tup (pa_cons pe_str (pa_cons (pe_ix ix_tup (pv 1) pe_int (fun _ _ => rfl)) (pa_cons (pe_ix ix_tup (pv 1) pe_int (fun _ _ => rfl)) pa_nil)))) pa_nil))))))
    pss_nil)
    (pss_cons (ps_if (pt_cmpR op_eq (pv 2) pe_str (nomark _))
    (pss_one (ps_ret (pe_op op_cat (pe_lst (pa_cons pe_str (pa_cons (pe_ix ix_tup (pv 1) pe_int (fun _ _ => rfl)) pa_nil))) (pe_cl c_q_words hr (by first | decide | omega) pass0 (by rfl) (pa_cons (pv 0) (pa_cons (pe_ix ix_tup (pv 1) pe_int (fun _ _ => rfl)) (pa_cons pe_int pa_nil)))))))
    pss_nil)
    (pss_one (ps_ret (pe_ifExp (pt_cmpR op_eq (pv 2) pe_str (nomark _)) (pe_lst (pa_cons pe_str pa_nil)) (pe_op op_cat (pe_lst (pa_cons (pv 2) pa_nil)) (pe_cl c_q_words hr (by first | decide | omega) pass0 (by rfl) (pa_cons (pv 0) (pa_cons (pe_ix ix_tup (pv 1) pe_int (fun _ _ => rfl)) (pa_cons pe_int pa_nil))))))))))))))), ?_⟩
    have hb := hx.bo
    have l5 := lW2 dp2
    have c7 := cW2 dp2
    have c6 := cB2 dp2
    have s9 := sL
    obtain ⟨a, x, xs, rfl, at_, hx, vx⟩ := sva hv
    subst hx
    have ab : a ≠ b := fun z => hb.notup (.str (tgS s) :: xs) (by rw [← z]; exact at_)
    walk_at "rd"
    refine ⟨a, _, 0, _, rfl, rfl, st_of at_, atI_nat (j := 0) rfl, ?_⟩
    cases s with
    | lt x e =>
      obtain ⟨_, y0, e0, _, v0⟩ := vx.cons_inv
      cases e0
      obtain ⟨x1, y1, rfl, h1, v1⟩ := v0.cons_inv
      obtain ⟨x2, y2, rfl, h2, v2⟩ := v1.cons_inv
      obtain rfl := h1.str_inv
      walk_at "tg"
      refine ⟨sz rfl, fun t1 n1 => ?_⟩
      refine ⟨t1, _, rfl, .inr (st_of upd_same), rfl, rfl, ?_⟩
      have SA : Same H (upd H t1 (.tup [.str "let", .str "set"])) := same_new n1
      walk_at "tg"
      refine ⟨sz rfl, fun L0 nL0 => ?_⟩
      have atL0 := at_n (o := .lst [V.str "let"]) nL0
      have bL0 : L0 ≠ b := fun z => (hb.same SA).there (by rw [← z]; exact nL0)
      have SB := SA.trans (same_new (o := .lst [V.str "let"]) nL0)
      walk_at "rd"
      refine ⟨rfl, .inr ⟨_, rfl, ?_⟩⟩
      refine ⟨L0, 1, _, rfl, rfl, atL0, by decide, by decide, sz rfl, fun L1 nL1 => ?_⟩
      have SC := SB.trans (same_new (o := .lst [.str "let"]) nL1)
      have atL1 := at_n (o := .lst ([V.str "let"])) nL1
      walk_at "rd"
      refine ⟨a, _, 1, _, rfl, rfl, st_of (SC a _ at_), atI_nat (j := 1) rfl, ?_⟩
      refine ⟨sz rfl, fun L2 nL2 => ?_⟩
      have atL2 := at_n (o := .lst [V.str x, V.str "="]) nL2
      have bL2 : L2 ≠ b := fun z => (hb.same SC).there (by rw [← z]; exact nL2)
      have SD := SC.trans (same_new (o := .lst [V.str x, V.str "="]) nL2)
      refine ⟨L1, L2, _, _, rfl, rfl, at_new atL1 nL2, atL2, sz rfl, fun L3 nL3 => ?_⟩
      have SE := SD.trans (same_new (o := .lst [.str "let", .str x, .str "="]) nL3)
      have atL3 := at_n (o := .lst ([V.str "let", V.str x, V.str "="])) nL3
      have bL3 : L3 ≠ b := fun z => (hb.same SD).there (by rw [← z]; exact nL3)
      walk_at "rd"
      refine ⟨a, _, 2, _, rfl, rfl, st_of (SE a _ at_), atI_nat (j := 2) rfl, ?_⟩
      walk_at "rd"
      refine ⟨true, b, x2, e, dp, 0, m, rfl, by omega, by omega, ts.2, h2.keep (Tp.of SE), (hb.same SE).mono (by omega), ⟨fun l1 r1 w1 H2 nl1 at1 raw1 ⟨rw1, _⟩ len1 B2 S2 => ?_⟩⟩
      have S2' := (Sm.of SE).trans S2
      refine ⟨L3, l1, _, _, rfl, rfl, S2 L3 _ atL3 bL3, at1, ?_, fun R nR => ?_⟩
      · simp only [List.length_map, List.length_cons, List.length_nil, List.length_append]
        omega
      refine k R ("let" :: x :: "=" :: r1) (K4.kw "let" :: K4.nmw x :: K4.kw "=" :: w1) _ (S2'.free nR hb.there B2.there) (by rw [upd_same]; simp) (K4.Raw.cons (by decide) (K4.Raw.cons (K4.sb_nm ts.1) (K4.Raw.cons (by decide) raw1))) ?_ ?_ (B2.new nR |>.mono (by omega)) (S2'.upd_new nR)
      · show K4.RS (.lt x e) _
        unfold K4.RS
        exact ⟨w1, rw1, rfl⟩
      · simp only [hN, List.length_cons, List.length_append, List.length_nil]
        omega
    | st x e =>
      obtain ⟨_, y0, e0, _, v0⟩ := vx.cons_inv
      cases e0
      obtain ⟨x1, y1, rfl, h1, v1⟩ := v0.cons_inv
      obtain ⟨x2, y2, rfl, h2, v2⟩ := v1.cons_inv
      obtain rfl := h1.str_inv
      walk_at "tg"
      refine ⟨sz rfl, fun t1 n1 => ?_⟩
      refine ⟨t1, _, rfl, .inr (st_of upd_same), rfl, rfl, ?_⟩
      have SA : Same H (upd H t1 (.tup [.str "let", .str "set"])) := same_new n1
      walk_at "tg"
      refine ⟨sz rfl, fun L0 nL0 => ?_⟩
      have atL0 := at_n (o := .lst [V.str "let"]) nL0
      have bL0 : L0 ≠ b := fun z => (hb.same SA).there (by rw [← z]; exact nL0)
      have SB := SA.trans (same_new (o := .lst [V.str "let"]) nL0)
      walk_at "rd"
      refine ⟨rfl, .inr ⟨_, rfl, ?_⟩⟩
      refine ⟨L0, 0, _, rfl, rfl, atL0, by decide, by decide, Nat.zero_le _, fun L1 nL1 => ?_⟩
      have SC := SB.trans (same_new (o := .lst []) nL1)
      have atL1 := at_n (o := .lst ([])) nL1
      walk_at "rd"
      refine ⟨a, _, 1, _, rfl, rfl, st_of (SC a _ at_), atI_nat (j := 1) rfl, ?_⟩
      refine ⟨sz rfl, fun L2 nL2 => ?_⟩
      have atL2 := at_n (o := .lst [V.str x, V.str "="]) nL2
      have bL2 : L2 ≠ b := fun z => (hb.same SC).there (by rw [← z]; exact nL2)
      have SD := SC.trans (same_new (o := .lst [V.str x, V.str "="]) nL2)
      refine ⟨L1, L2, _, _, rfl, rfl, at_new atL1 nL2, atL2, sz rfl, fun L3 nL3 => ?_⟩
      have SE := SD.trans (same_new (o := .lst [.str x, .str "="]) nL3)
      have atL3 := at_n (o := .lst ([V.str x, V.str "="])) nL3
      have bL3 : L3 ≠ b := fun z => (hb.same SD).there (by rw [← z]; exact nL3)
      walk_at "rd"
      refine ⟨a, _, 2, _, rfl, rfl, st_of (SE a _ at_), atI_nat (j := 2) rfl, ?_⟩
      walk_at "rd"
      refine ⟨true, b, x2, e, dp, 0, m, rfl, by omega, by omega, ts.2, h2.keep (Tp.of SE), (hb.same SE).mono (by omega), ⟨fun l1 r1 w1 H2 nl1 at1 raw1 ⟨rw1, _⟩ len1 B2 S2 => ?_⟩⟩
      have S2' := (Sm.of SE).trans S2
      refine ⟨L3, l1, _, _, rfl, rfl, S2 L3 _ atL3 bL3, at1, ?_, fun R nR => ?_⟩
      · simp only [List.length_map, List.length_cons, List.length_nil, List.length_append]
        omega
      refine k R (x :: "=" :: r1) (K4.nmw x :: K4.kw "=" :: w1) _ (S2'.free nR hb.there B2.there) (by rw [upd_same]; simp) (K4.Raw.cons (K4.sb_nm ts.1) (K4.Raw.cons (by decide) raw1)) ?_ ?_ (B2.new nR |>.mono (by omega)) (S2'.upd_new nR)
      · show K4.RS (.st x e) _
        unfold K4.RS
        exact ⟨w1, rw1, rfl⟩
      · simp only [hN, List.length_cons, List.length_append, List.length_nil]
        omega
    | put r f e =>
      obtain ⟨_, y0, e0, _, v0⟩ := vx.cons_inv
      cases e0
      obtain ⟨x1, y1, rfl, h1, v1⟩ := v0.cons_inv
      obtain ⟨x2, y2, rfl, h2, v2⟩ := v1.cons_inv
      obtain ⟨x3, y3, rfl, h3, v3⟩ := v2.cons_inv
      obtain rfl := h2.str_inv
      obtain ⟨⟨x0, path, hx0, pl, hp, er⟩, hf, he⟩ := ts
      have tr : K4.tE r 2 := by
        rw [er]
        exact K4.tE_up _ _ _ (by omega) (K4.chain_tE path (.var x0) 0 hx0 hp)
      have tg6 : K4.tight r = 6 := by
        rw [er]
        exact K4.chain_t path (.var x0) rfl
      walk_at "tg"
      refine ⟨sz rfl, fun t1 n1 => ?_⟩
      refine ⟨t1, _, rfl, .inr (st_of upd_same), rfl, rfl, ?_⟩
      have SA : Same H (upd H t1 (.tup [.str "let", .str "set"])) := same_new n1
      walk_at "tg"
      refine ⟨Nat.zero_le _, fun BL nBL => ?_⟩
      have SB := SA.trans (same_new (o := .lst []) nBL)
      walk_at "rd"
      refine ⟨a, _, 1, _, rfl, rfl, st_of (SB a _ at_), atI_nat (j := 1) rfl, ?_⟩
      refine ⟨false, BL, x1, r, 2, 6, 0, rfl, by omega, by omega, tr, h1.keep (Tp.of SB), .inr ⟨rfl, upd_same⟩, ⟨fun l0 r0 w0 H1 nl0 at0 raw0 ⟨rw0, ch0⟩ len0 B1 S1 => ?_⟩⟩
      have SB1 : Same H H1 := SA.trans (Same.of_sm nBL ((Sm.new (o := .lst []) nBL).trans S1))
      have e0 : w0 = K4.nmw x0 :: K4.pathW path := K4.chain_ch path.length path w0 rfl (by rw [← er]; exact ch0 rfl (by omega))
      have len0' : r0.length ≤ 52 := len0
      walk_at "rd"
      refine ⟨a, _, 2, _, rfl, rfl, st_of (SB1 a _ at_), atI_nat (j := 2) rfl, ?_⟩
      refine ⟨sz rfl, fun L2 nL2 => ?_⟩
      have atL2 := at_n (o := .lst [V.str ".", V.str f, V.str "="]) nL2
      have bL2 : L2 ≠ b := fun z => (hb.same SB1).there (by rw [← z]; exact nL2)
      have SC := SB1.trans (same_new (o := .lst [V.str ".", V.str f, V.str "="]) nL2)
      refine ⟨l0, L2, _, _, rfl, rfl, at_new at0 nL2, atL2, ?_, fun L3 nL3 => ?_⟩
      · simp only [List.length_map, List.length_cons, List.length_nil, List.length_append]
        omega
      have SE := SC.trans (same_new (o := .lst (r0.map V.str ++ [V.str ".", V.str f, V.str "="])) nL3)
      have atL3 := at_n (o := .lst ((r0.map V.str ++ [V.str ".", V.str f, V.str "="]))) nL3
      have bL3 : L3 ≠ b := fun z => (hb.same SC).there (by rw [← z]; exact nL3)
      walk_at "rd"
      refine ⟨a, _, 3, _, rfl, rfl, st_of (SE a _ at_), atI_nat (j := 3) rfl, ?_⟩
      walk_at "rd"
      refine ⟨true, b, x3, e, dp, 0, m, rfl, by omega, by omega, he, h3.keep (Tp.of SE), (hb.same SE).mono (by omega), ⟨fun l1 r1 w1 H2 nl1 at1 raw1 ⟨rw1, _⟩ len1 B2 S2 => ?_⟩⟩
      have S2' := (Sm.of SE).trans S2
      refine ⟨L3, l1, _, _, rfl, rfl, S2 L3 _ atL3 bL3, at1, ?_, fun R nR => ?_⟩
      · simp only [List.length_map, List.length_cons, List.length_nil, List.length_append]
        omega
      refine k R (r0 ++ (("." :: f :: "=" :: r1 : List Str))) (w0 ++ (K4.kw "." :: K4.nmw f :: K4.kw "=" :: w1)) _ (S2'.free nR hb.there B2.there) (by rw [upd_same]; simp) (raw0.app (K4.Raw.cons (by decide) (K4.Raw.cons (K4.sb_nm hf) (K4.Raw.cons (by decide) raw1)))) ?_ ?_ (B2.new nR |>.mono (by omega)) (S2'.upd_new nR)
      · show K4.RS (.put r f e) _
        unfold K4.RS
        refine ⟨x0, path, er, w1, rw1, ?_⟩
        rw [e0]
        unfold K4.pathW
        simp
      · simp only [hN, List.length_cons, List.length_append, List.length_nil]
        omega
    | act f as =>
      obtain ⟨_, y0, e0, _, v0⟩ := vx.cons_inv
      cases e0
      obtain ⟨x1, y1, rfl, h1, v1⟩ := v0.cons_inv
      walk_at "tg"
      refine ⟨sz rfl, fun t1 n1 => ?_⟩
      refine ⟨t1, _, rfl, .inr (st_of upd_same), rfl, rfl, ?_⟩
      have SA : Same H (upd H t1 (.tup [.str "let", .str "set"])) := same_new n1
      walk_at "tg"
      refine ⟨a, _, 1, _, rfl, rfl, st_of (SA a _ at_), atI_nat (j := 1) rfl, ?_⟩
      have te : K4.tE (.call f as) dp := ⟨ts.1, by omega, ts.2.1, ts.2.2⟩
      refine ⟨true, b, x1, .call f as, dp, m, rfl, by omega, by omega, te, h1.keep (Tp.of SA), (hb.same SA).mono (by omega), ⟨fun l1 r1 w1 H2 nl1 at1 raw1 ⟨rw1, _⟩ len1 B2 S2 => ?_⟩⟩
      have S2' := (Sm.of SA).trans S2
      refine k l1 r1 w1 H2 (SA.free nl1) at1 raw1 ?_ (by simp only [hN]; omega) B2 S2'
      show K4.RS (.act f as) w1
      unfold K4.RB at rw1
      unfold K4.RS
      exact rw1
    | spawn f as =>
      obtain ⟨_, y0, e0, _, v0⟩ := vx.cons_inv
      cases e0
      obtain ⟨x1, y1, rfl, h1, v1⟩ := v0.cons_inv
      obtain ⟨x2, y2, rfl, h2, v2⟩ := v1.cons_inv
      obtain rfl := h1.str_inv
      walk_at "tg"
      refine ⟨sz rfl, fun t1 n1 => ?_⟩
      refine ⟨t1, _, rfl, .inr (st_of upd_same), rfl, rfl, ?_⟩
      have SA : Same H (upd H t1 (.tup [.str "let", .str "set"])) := same_new n1
      walk_at "tg"
      refine ⟨sz rfl, fun L2 nL2 => ?_⟩
      have atL2 := at_n (o := .lst [V.str "spawn"]) nL2
      have bL2 : L2 ≠ b := fun z => (hb.same SA).there (by rw [← z]; exact nL2)
      have SB := SA.trans (same_new (o := .lst [V.str "spawn"]) nL2)
      walk_at "rd"
      refine ⟨a, _, 1, _, rfl, rfl, st_of (SB a _ at_), atI_nat (j := 1) rfl, ?_⟩
      walk_at "rd"
      refine ⟨a, _, 2, _, rfl, rfl, st_of (SB a _ at_), atI_nat (j := 2) rfl, ?_⟩
      have te : K4.tE (.call f as) dp := ⟨ts.1, by omega, ts.2.1, ts.2.2⟩
      refine ⟨sz rfl, fun t2 n2 => ?_⟩
      have SC := SB.trans (same_new (o := .tup [.str "call", .str f, x2]) n2)
      have hd2 : Va (upd _ t2 (.tup [.str "call", .str f, x2])) (.ref t2) (K4.Ex.call f as).toD := va_new n2 (.cons (.str _) (.cons (.str _) (.cons (h2.keep (Tp.of SB)) .nil)))
      walk_at "rd"
      refine ⟨true, b, .ref t2, .call f as, dp, m, rfl, by omega, by omega, te, hd2, (hb.same SC).mono (by omega), ⟨fun l1 r1 w1 H2 nl1 at1 raw1 ⟨rw1, _⟩ len1 B2 S2 => ?_⟩⟩
      have S2' := (Sm.of SC).trans S2
      have atL2 := at_new (o := .tup [.str "call", .str f, x2]) atL2 n2
      refine ⟨L2, l1, _, _, rfl, rfl, S2 L2 _ atL2 bL2, at1, ?_, fun R nR => ?_⟩
      · simp only [List.length_map, List.length_cons, List.length_nil, List.length_append]
        omega
      refine k R ("spawn" :: r1) (K4.kw "spawn" :: w1) _ (S2'.free nR hb.there B2.there) (by rw [upd_same]; simp) (K4.Raw.cons (by decide) raw1) ?_ ?_ (B2.new nR |>.mono (by omega)) (S2'.upd_new nR)
      · show K4.RS (.spawn f as) _
        unfold K4.RB at rw1
        obtain ⟨l, hl, rfl⟩ := rw1
        unfold K4.RS
        exact ⟨l, hl, rfl⟩
      · simp only [hN, List.length_cons, List.length_append, List.length_nil]
        omega
    | send p e =>
      obtain ⟨_, y0, e0, _, v0⟩ := vx.cons_inv
      cases e0
      obtain ⟨x1, y1, rfl, h1, v1⟩ := v0.cons_inv
      obtain ⟨x2, y2, rfl, h2, v2⟩ := v1.cons_inv
      obtain rfl := h1.str_inv
      walk_at "tg"
      refine ⟨sz rfl, fun t1 n1 => ?_⟩
      refine ⟨t1, _, rfl, .inr (st_of upd_same), rfl, rfl, ?_⟩
      have SA : Same H (upd H t1 (.tup [.str "let", .str "set"])) := same_new n1
      walk_at "tg"
      refine ⟨a, _, 1, _, rfl, rfl, st_of (SA a _ at_), atI_nat (j := 1) rfl, ?_⟩
      refine ⟨sz rfl, fun L2 nL2 => ?_⟩
      have atL2 := at_n (o := .lst [V.str "send", V.str p]) nL2
      have bL2 : L2 ≠ b := fun z => (hb.same SA).there (by rw [← z]; exact nL2)
      have SB := SA.trans (same_new (o := .lst [V.str "send", V.str p]) nL2)
      walk_at "rd"
      refine ⟨a, _, 2, _, rfl, rfl, st_of (SB a _ at_), atI_nat (j := 2) rfl, ?_⟩
      walk_at "rd"
      refine ⟨true, b, x2, e, dp, 0, m, rfl, by omega, by omega, ts.2, h2.keep (Tp.of SB), (hb.same SB).mono (by omega), ⟨fun l1 r1 w1 H2 nl1 at1 raw1 ⟨rw1, _⟩ len1 B2 S2 => ?_⟩⟩
      have S2' := (Sm.of SB).trans S2
      refine ⟨L2, l1, _, _, rfl, rfl, S2 L2 _ atL2 bL2, at1, ?_, fun R nR => ?_⟩
      · simp only [List.length_map, List.length_cons, List.length_nil, List.length_append]
        omega
      refine k R ("send" :: p :: r1) (K4.kw "send" :: K4.nmw p :: w1) _ (S2'.free nR hb.there B2.there) (by rw [upd_same]; simp) (K4.Raw.cons (by decide) (K4.Raw.cons (K4.sb_nm ts.1) raw1)) ?_ ?_ (B2.new nR |>.mono (by omega)) (S2'.upd_new nR)
      · show K4.RS (.send p e) _
        unfold K4.RS
        exact ⟨w1, rw1, rfl⟩
      · simp only [hN, List.length_cons, List.length_append, List.length_nil]
        omega
    | tri p q r =>
      walk_at "tg"
      refine ⟨sz rfl, fun t1 n1 => ?_⟩
      refine ⟨t1, _, rfl, .inr (st_of upd_same), rfl, rfl, ?_⟩
      have SA : Same H (upd H t1 (.tup [.str "let", .str "set"])) := same_new n1
      walk_at "tg"
      refine ⟨sz rfl, fun L2 nL2 => ?_⟩
      have atL2 := at_n (o := .lst [V.str "try"]) nL2
      have bL2 : L2 ≠ b := fun z => (hb.same SA).there (by rw [← z]; exact nL2)
      have SB := SA.trans (same_new (o := .lst [V.str "try"]) nL2)
      exact k L2 ["try"] [K4.kw "try"] _ (SA.free nL2) atL2 (K4.Raw.cons (by decide) K4.Raw.nil) rfl (by simp [hN]; omega) ((hb.same SB).mono (by omega)) (Sm.of SB)
    | ret e =>
      obtain ⟨_, y0, e0, _, v0⟩ := vx.cons_inv
      cases e0
      obtain ⟨x1, y1, rfl, h1, v1⟩ := v0.cons_inv
      walk_at "tg"
      refine ⟨sz rfl, fun t1 n1 => ?_⟩
      refine ⟨t1, _, rfl, .inr (st_of upd_same), rfl, rfl, ?_⟩
      have SA : Same H (upd H t1 (.tup [.str "let", .str "set"])) := same_new n1
      walk_at "tg"
      refine ⟨sz rfl, fun L2 nL2 => ?_⟩
      have atL2 := at_n (o := .lst [V.str "return"]) nL2
      have bL2 : L2 ≠ b := fun z => (hb.same SA).there (by rw [← z]; exact nL2)
      have SB := SA.trans (same_new (o := .lst [V.str "return"]) nL2)
      walk_at "rd"
      refine ⟨a, _, 1, _, rfl, rfl, st_of (SB a _ at_), atI_nat (j := 1) rfl, ?_⟩
      walk_at "rd"
      refine ⟨true, b, x1, e, dp, 0, m, rfl, by omega, by omega, ts, h1.keep (Tp.of SB), (hb.same SB).mono (by omega), ⟨fun l1 r1 w1 H2 nl1 at1 raw1 ⟨rw1, _⟩ len1 B2 S2 => ?_⟩⟩
      have S2' := (Sm.of SB).trans S2
      refine ⟨L2, l1, _, _, rfl, rfl, S2 L2 _ atL2 bL2, at1, ?_, fun R nR => ?_⟩
      · simp only [List.length_map, List.length_cons, List.length_nil, List.length_append]
        omega
      refine k R ("return" :: r1) (K4.kw "return" :: w1) _ (S2'.free nR hb.there B2.there) (by rw [upd_same]; simp) (K4.Raw.cons (by decide) raw1) ?_ ?_ (B2.new nR |>.mono (by omega)) (S2'.upd_new nR)
      · show K4.RS (.ret e) _
        unfold K4.RS
        exact ⟨w1, rw1, rfl⟩
      · simp only [hN, List.length_cons, List.length_append, List.length_nil]
        omega
    | thr e =>
      obtain ⟨_, y0, e0, _, v0⟩ := vx.cons_inv
      cases e0
      obtain ⟨x1, y1, rfl, h1, v1⟩ := v0.cons_inv
      walk_at "tg"
      refine ⟨sz rfl, fun t1 n1 => ?_⟩
      refine ⟨t1, _, rfl, .inr (st_of upd_same), rfl, rfl, ?_⟩
      have SA : Same H (upd H t1 (.tup [.str "let", .str "set"])) := same_new n1
      walk_at "tg"
      refine ⟨sz rfl, fun L2 nL2 => ?_⟩
      have atL2 := at_n (o := .lst [V.str "throw"]) nL2
      have bL2 : L2 ≠ b := fun z => (hb.same SA).there (by rw [← z]; exact nL2)
      have SB := SA.trans (same_new (o := .lst [V.str "throw"]) nL2)
      walk_at "rd"
      refine ⟨a, _, 1, _, rfl, rfl, st_of (SB a _ at_), atI_nat (j := 1) rfl, ?_⟩
      walk_at "rd"
      refine ⟨true, b, x1, e, dp, 0, m, rfl, by omega, by omega, ts, h1.keep (Tp.of SB), (hb.same SB).mono (by omega), ⟨fun l1 r1 w1 H2 nl1 at1 raw1 ⟨rw1, _⟩ len1 B2 S2 => ?_⟩⟩
      have S2' := (Sm.of SB).trans S2
      refine ⟨L2, l1, _, _, rfl, rfl, S2 L2 _ atL2 bL2, at1, ?_, fun R nR => ?_⟩
      · simp only [List.length_map, List.length_cons, List.length_nil, List.length_append]
        omega
      refine k R ("throw" :: r1) (K4.kw "throw" :: w1) _ (S2'.free nR hb.there B2.there) (by rw [upd_same]; simp) (K4.Raw.cons (by decide) raw1) ?_ ?_ (B2.new nR |>.mono (by omega)) (S2'.upd_new nR)
      · show K4.RS (.thr e) _
        unfold K4.RS
        exact ⟨w1, rw1, rfl⟩
      · simp only [hN, List.length_cons, List.length_append, List.length_nil]
        omega
    | iff c p q =>
      obtain ⟨_, y0, e0, _, v0⟩ := vx.cons_inv
      cases e0
      obtain ⟨x1, y1, rfl, h1, v1⟩ := v0.cons_inv
      walk_at "tg"
      refine ⟨sz rfl, fun t1 n1 => ?_⟩
      refine ⟨t1, _, rfl, .inr (st_of upd_same), rfl, rfl, ?_⟩
      have SA : Same H (upd H t1 (.tup [.str "let", .str "set"])) := same_new n1
      walk_at "tg"
      refine ⟨sz rfl, fun L2 nL2 => ?_⟩
      have atL2 := at_n (o := .lst [V.str "if"]) nL2
      have bL2 : L2 ≠ b := fun z => (hb.same SA).there (by rw [← z]; exact nL2)
      have SB := SA.trans (same_new (o := .lst [V.str "if"]) nL2)
      walk_at "rd"
      refine ⟨a, _, 1, _, rfl, rfl, st_of (SB a _ at_), atI_nat (j := 1) rfl, ?_⟩
      walk_at "rd"
      refine ⟨true, b, x1, c, dp, 0, m, rfl, by omega, by omega, ts.2.1, h1.keep (Tp.of SB), (hb.same SB).mono (by omega), ⟨fun l1 r1 w1 H2 nl1 at1 raw1 ⟨rw1, _⟩ len1 B2 S2 => ?_⟩⟩
      have S2' := (Sm.of SB).trans S2
      refine ⟨L2, l1, _, _, rfl, rfl, S2 L2 _ atL2 bL2, at1, ?_, fun R nR => ?_⟩
      · simp only [List.length_map, List.length_cons, List.length_nil, List.length_append]
        omega
      refine k R ("if" :: r1) (K4.kw "if" :: w1) _ (S2'.free nR hb.there B2.there) (by rw [upd_same]; simp) (K4.Raw.cons (by decide) raw1) ?_ ?_ (B2.new nR |>.mono (by omega)) (S2'.upd_new nR)
      · exact ⟨w1, rw1, rfl⟩
      · simp only [hN, List.length_cons, List.length_append, List.length_nil]
        omega
    | wh c p =>
      obtain ⟨_, y0, e0, _, v0⟩ := vx.cons_inv
      cases e0
      obtain ⟨x1, y1, rfl, h1, v1⟩ := v0.cons_inv
      walk_at "tg"
      refine ⟨sz rfl, fun t1 n1 => ?_⟩
      refine ⟨t1, _, rfl, .inr (st_of upd_same), rfl, rfl, ?_⟩
      have SA : Same H (upd H t1 (.tup [.str "let", .str "set"])) := same_new n1
      walk_at "tg"
      refine ⟨sz rfl, fun L2 nL2 => ?_⟩
      have atL2 := at_n (o := .lst [V.str "while"]) nL2
      have bL2 : L2 ≠ b := fun z => (hb.same SA).there (by rw [← z]; exact nL2)
      have SB := SA.trans (same_new (o := .lst [V.str "while"]) nL2)
      walk_at "rd"
      refine ⟨a, _, 1, _, rfl, rfl, st_of (SB a _ at_), atI_nat (j := 1) rfl, ?_⟩
      walk_at "rd"
      refine ⟨true, b, x1, c, dp, 0, m, rfl, by omega, by omega, ts.2.1, h1.keep (Tp.of SB), (hb.same SB).mono (by omega), ⟨fun l1 r1 w1 H2 nl1 at1 raw1 ⟨rw1, _⟩ len1 B2 S2 => ?_⟩⟩
      have S2' := (Sm.of SB).trans S2
      refine ⟨L2, l1, _, _, rfl, rfl, S2 L2 _ atL2 bL2, at1, ?_, fun R nR => ?_⟩
      · simp only [List.length_map, List.length_cons, List.length_nil, List.length_append]
        omega
      refine k R ("while" :: r1) (K4.kw "while" :: w1) _ (S2'.free nR hb.there B2.there) (by rw [upd_same]; simp) (K4.Raw.cons (by decide) raw1) ?_ ?_ (B2.new nR |>.mono (by omega)) (S2'.upd_new nR)
      · exact ⟨w1, rw1, rfl⟩
      · simp only [hN, List.length_cons, List.length_append, List.length_nil]
        omega
    | here l st =>
      obtain ⟨_, y0, e0, _, v0⟩ := vx.cons_inv
      cases e0
      obtain ⟨x1, y1, rfl, h1, v1⟩ := v0.cons_inv
      obtain ⟨x2, y2, rfl, h2, v2⟩ := v1.cons_inv
      obtain rfl := h1.str_inv
      obtain ⟨tl, nh, ts⟩ := ts
      have h0 : hN st = 0 := by
        unfold hN
        rw [nh]
        rfl
      have h01 : hN (.here l st) = 1 := rfl
      walk_at "tg"
      refine ⟨a, _, 1, _, rfl, rfl, st_of ((Same.refl H) a _ at_), atI_nat (j := 1) rfl, ?_⟩
      refine ⟨sz rfl, fun L2 nL2 => ?_⟩
      have atL2 := at_n (o := .lst [V.str "here", V.str l]) nL2
      have bL2 : L2 ≠ b := fun z => (hb.same (Same.refl H)).there (by rw [← z]; exact nL2)
      have SB := (Same.refl H).trans (same_new (o := .lst [V.str "here", V.str l]) nL2)
      walk_at "rd"
      refine ⟨a, _, 2, _, rfl, rfl, st_of (SB a _ at_), atI_nat (j := 2) rfl, ?_⟩
      refine ⟨b, x2, st, i, dp, m, rfl, by omega, ts, dp1, dp2, h2.keep (Tp.of SB), (hb.same SB).bx, ⟨fun l1 r1 w1 H2 nl1 at1 raw1 rw1 len1 B2 S2 => ?_⟩⟩
      have S2' := (Sm.of SB).trans S2
      rw [h0] at len1
      have rw1' : K4.HW0 st w1 := by
        cases st with
        | here _ _ => exact nomatch nh
        | _ => exact rw1
      refine ⟨L2, l1, _, _, rfl, rfl, S2 L2 _ atL2 bL2, at1, ?_, fun R nR => ?_⟩
      · simp only [List.length_map, List.length_cons, List.length_nil, List.length_append]
        omega
      refine k R ("here" :: l :: r1) (K4.kw "here" :: K4.nmw l :: w1) _ (S2'.free nR hb.there B2.there) (by rw [upd_same]; simp) (K4.Raw.cons (by decide) (K4.Raw.cons (K4.sb_nm tl) raw1)) ?_ ?_ (B2.new nR |>.mono (by omega)) (S2'.upd_new nR)
      · exact ⟨w1, rw1', rfl⟩
      · simp only [h01, List.length_cons, List.length_append, List.length_nil]
        omega
theorem ok_hwA (T : Txt K mg w) : Clb P w K mg base CX0 14 "_law_head_words" (spHW 2) :=
  ok_hw T 1 (ok_hw T 0 (T.none (d := d_q_head_words) m_q_head_words rfl T.g_q_head_words rfl rfl 11 sc_q_head_words bd_q_head_words fun vs H Q E ⟨b, v, e, d, m, _, _, h, _⟩ => Nat.not_lt_zero _ h))
end
end W4
set_option Elab.async false
set_option linter.all false
set_option maxRecDepth 100000
set_option maxHeartbeats 4000000
namespace W4
open PySem PySem.Spec PyProof.Rows L2
/-- small data: not deep, not wide, texts of code points -/
structure Nice (n : Nat) (d : PyData) : Prop where
  dp : d.depth ≤ n
  th : thin d
  cl : d.canLay0 = true
theorem Nice.str {n : Nat} {x : Str} (h : PyData.strOk x = true) : Nice n (.str x) := ⟨by simp [PyData.depth], by simp [thin], by simp [PyData.canLay0, h]⟩
theorem Nice.int {n : Nat} {i : Int} : Nice n (.int i) := ⟨by simp [PyData.depth], by simp [thin], by simp [PyData.canLay0]⟩
theorem nice_all {n : Nat} : ∀ {ds : List PyData}, (∀ d ∈ ds, Nice n d) → PyData.depthAll ds ≤ n ∧ thinAll ds ∧ PyData.canLayAll0 ds = true
  | [], _ => ⟨by simp [PyData.depthAll], by simp [thinAll], by simp [PyData.canLayAll0]⟩
  | d :: r, h => by
    obtain ⟨h1, h2, h3⟩ := nice_all fun x hx => h x (List.mem_cons_of_mem _ hx)
    have k := h d (List.mem_cons_self ..)
    refine ⟨?_, ?_, ?_⟩
    · simp only [PyData.depthAll]
      exact Nat.max_le.mpr ⟨k.dp, h1⟩
    · simp only [thinAll]
      exact ⟨k.th, h2⟩
    · simp only [PyData.canLayAll0, k.cl, h3, Bool.and_self]
theorem Nice.tup {n m : Nat} {ds : List PyData} (h : ∀ d ∈ ds, Nice n d) (w : ds.length ≤ 1000) (e : n + 1 ≤ m) : Nice m (.tuple ds) := by
  obtain ⟨h1, h2, h3⟩ := nice_all h
  refine ⟨?_, ?_, ?_⟩
  · rw [depth_tup]
    omega
  · simp only [thin]
    exact ⟨w, h2⟩
  · simp only [PyData.canLay0]
    exact h3
theorem Nice.mono {n m : Nat} {d : PyData} (h : Nice n d) (l : n ≤ m) : Nice m d := ⟨Nat.le_trans h.dp l, h.th, h.cl⟩
theorem okn_str {x : Str} (h : x ∈ K4.okN) : PyData.strOk x = true := (show ∀ x ∈ K4.okN, PyData.strOk x = true by decide +kernel) x h
theorem sg_str {x : Str} (h : x ∈ K4.signs) : PyData.strOk x = true := (show ∀ x ∈ K4.signs, PyData.strOk x = true by decide +kernel) x h
theorem lit_str : ∀ x ∈ (["int", "none", "var", "call", "receive", "new", "get", "neg", "not", "op", "let", "set", "put", "do", "if", "while", "return", "throw", "send", "spawn", "try", "here"] : List Str), PyData.strOk x = true := by decide +kernel
theorem Nice.lit {n : Nat} {x : Str} (h : x ∈ (["int", "none", "var", "call", "receive", "new", "get", "neg", "not", "op", "let", "set", "put", "do", "if", "while", "return", "throw", "send", "spawn", "try", "here"] : List Str)) : Nice n (.str x) := Nice.str (lit_str x h)
theorem n1 {n : Nat} {a : PyData} (h : Nice n a) : ∀ d ∈ [a], Nice n d := fun d hd => by
  rw [List.mem_singleton.mp hd]
  exact h
theorem nc {n : Nat} {a : PyData} {r : List PyData} (h : Nice n a) (k : ∀ d ∈ r, Nice n d) : ∀ d ∈ a :: r, Nice n d := fun d hd => by
  rcases List.mem_cons.mp hd with rfl | hd
  · exact h
  · exact k d hd
theorem n0 {n : Nat} : ∀ d ∈ ([] : List PyData), Nice n d := fun d hd => nomatch hd
mutual
theorem nice_e : ∀ (e : K4.Ex) (d : Nat), K4.tE e d → Nice (1 + 3 * d) e.toD
  | .int n, d, h => .tup (n := 0) (nc (.lit (by decide)) (n1 .int)) (by simp) (by omega)
  | .non, d, h => .tup (n := 0) (n1 (.lit (by decide))) (by simp) (by omega)
  | .var x, d, h => .tup (n := 0) (nc (.lit (by decide)) (n1 (.str (okn_str h)))) (by simp) (by omega)
  | .recv x, d, h => .tup (n := 0) (nc (.lit (by decide)) (n1 (.str (okn_str h)))) (by simp) (by omega)
  | .call f as, d, h => by
    obtain ⟨h1, h2, h3, h4⟩ := (show _ ∧ _ ∧ _ ∧ _ from h)
    obtain ⟨d, rfl⟩ : ∃ d', d = d' + 1 := ⟨d - 1, by omega⟩
    exact .tup (n := 3 + 3 * d) (nc (.lit (by decide)) (nc (.str (okn_str h1)) (n1 (.tup (n := 1 + 3 * d) (nice_es as d h4) (by rw [exsD_len]; omega) (by omega))))) (by simp) (by omega)
  | .new fs, d, h => by
    obtain ⟨h2, h3, h4⟩ := (show _ ∧ _ ∧ _ from h)
    obtain ⟨d, rfl⟩ : ∃ d', d = d' + 1 := ⟨d - 1, by omega⟩
    exact .tup (n := 3 + 3 * d) (nc (.lit (by decide)) (n1 (.tup (n := 2 + 3 * d) (nice_fs fs d h4) (by rw [fsD_len]; omega) (by omega)))) (by simp) (by omega)
  | .get e f, d, h => by
    obtain ⟨h2, h3, h4⟩ := (show _ ∧ _ ∧ _ from h)
    obtain ⟨d, rfl⟩ : ∃ d', d = d' + 1 := ⟨d - 1, by omega⟩
    exact .tup (n := 1 + 3 * d) (nc (.lit (by decide)) (nc (nice_e e d h3) (n1 (.str (okn_str h4))))) (by simp) (by omega)
  | .neg e, d, h => by
    obtain ⟨h2, h3⟩ := (show _ ∧ _ from h)
    obtain ⟨d, rfl⟩ : ∃ d', d = d' + 1 := ⟨d - 1, by omega⟩
    exact .tup (n := 1 + 3 * d) (nc (.lit (by decide)) (n1 (nice_e e d h3))) (by simp) (by omega)
  | .not e, d, h => by
    obtain ⟨h2, h3⟩ := (show _ ∧ _ from h)
    obtain ⟨d, rfl⟩ : ∃ d', d = d' + 1 := ⟨d - 1, by omega⟩
    exact .tup (n := 1 + 3 * d) (nc (.lit (by decide)) (n1 (nice_e e d h3))) (by simp) (by omega)
  | .op s l r, d, h => by
    obtain ⟨h1, h2, h3, h4⟩ := (show _ ∧ _ ∧ _ ∧ _ from h)
    obtain ⟨d, rfl⟩ : ∃ d', d = d' + 1 := ⟨d - 1, by omega⟩
    exact .tup (n := 1 + 3 * d) (nc (.lit (by decide)) (nc (.str (sg_str h2)) (nc (nice_e l d h3) (n1 (nice_e r d h4))))) (by simp) (by omega)
theorem nice_es : ∀ (as : List K4.Ex) (d : Nat), K4.tEs as d → ∀ x ∈ K4.exsD as, Nice (1 + 3 * d) x
  | [], _, _ => n0
  | e :: r, d, h => nc (nice_e e d h.1) (nice_es r d h.2)
theorem nice_fs : ∀ (as : List (Str × K4.Ex)) (d : Nat), K4.tEf as d → ∀ x ∈ K4.fsD as, Nice (2 + 3 * d) x
  | [], _, _ => n0
  | (y, e) :: r, d, h => nc (.tup (n := 1 + 3 * d) (nc (.str (okn_str h.1)) (n1 (nice_e e d h.2.1))) (by simp) (by omega)) (nice_fs r d h.2.2)
end
theorem nice_p {dp : Nat} (h2 : dp ≤ 2) : ∀ s : K4.St, K4.tP dp s → Nice 9 s.toD
  | .lt x e, h => .tup (n := 8) (nc (.lit (by decide)) (nc (.str (okn_str h.1)) (n1 ((nice_e e dp h.2).mono (by omega))))) (by simp) (by omega)
  | .st x e, h => .tup (n := 8) (nc (.lit (by decide)) (nc (.str (okn_str h.1)) (n1 ((nice_e e dp h.2).mono (by omega))))) (by simp) (by omega)
  | .put r f e, h => by
    obtain ⟨⟨x0, path, hx0, pl, hp, er⟩, hf, he⟩ := h
    have tr : K4.tE r 2 := by
      rw [er]
      exact K4.tE_up _ _ _ (by omega) (K4.chain_tE path (.var x0) 0 hx0 hp)
    exact .tup (n := 8) (nc (.lit (by decide)) (nc ((nice_e r 2 tr).mono (by omega)) (nc (.str (okn_str hf)) (n1 ((nice_e e dp he).mono (by omega)))))) (by simp) (by omega)
  | .act f as, h => .tup (n := 8) (nc (.lit (by decide)) (n1 (.tup (n := 7) (nc (.lit (by decide)) (nc (.str (okn_str h.1)) (n1 (.tup (n := 1 + 3 * (dp - 1)) (nice_es as (dp - 1) h.2.2) (by rw [exsD_len]; have := h.2.1; omega) (by omega))))) (by simp) (by omega)))) (by simp) (by omega)
  | .ret e, h => .tup (n := 8) (nc (.lit (by decide)) (n1 ((nice_e e dp h).mono (by omega)))) (by simp) (by omega)
  | .thr e, h => .tup (n := 8) (nc (.lit (by decide)) (n1 ((nice_e e dp h).mono (by omega)))) (by simp) (by omega)
  | .send p e, h => .tup (n := 8) (nc (.lit (by decide)) (nc (.str (okn_str h.1)) (n1 ((nice_e e dp h.2).mono (by omega))))) (by simp) (by omega)
  | .spawn f as, h => .tup (n := 8) (nc (.lit (by decide)) (nc (.str (okn_str h.1)) (n1 (.tup (n := 1 + 3 * (dp - 1)) (nice_es as (dp - 1) h.2.2) (by rw [exsD_len]; have := h.2.1; omega) (by omega))))) (by simp) (by omega)
  | .iff _ _ _, h => h.elim
  | .wh _ _, h => h.elim
  | .tri _ _ _, h => h.elim
  | .here _ _, h => h.elim
mutual
theorem nice_s {dp : Nat} (h2 : dp ≤ 2) : ∀ (s : K4.St) (i : Nat), K4.tS s i dp → Nice (9 + 3 * i + (if K4.isHere s = true then 1 else 0)) s.toD
  | .iff c a b, i, h => by
    obtain ⟨k1, k2, k3, k4, k5, k6⟩ := (show _ ∧ _ ∧ _ ∧ _ ∧ _ ∧ _ from h)
    obtain ⟨i, rfl⟩ : ∃ d', i = d' + 1 := ⟨i - 1, by omega⟩
    refine .tup (n := 11 + 3 * i) (nc (.lit (by decide)) (nc ((nice_e c dp k2).mono (by omega)) (nc (.tup (n := 10 + 3 * i) (nice_ss h2 a i k5) (by rw [stsD_len]; omega) (by omega)) (n1 (.tup (n := 10 + 3 * i) (nice_ss h2 b i k6) (by rw [stsD_len]; omega) (by omega)))))) (by simp) (by simp [K4.isHere]; omega)
  | .wh c a, i, h => by
    obtain ⟨k1, k2, k3, k5⟩ := (show _ ∧ _ ∧ _ ∧ _ from h)
    obtain ⟨i, rfl⟩ : ∃ d', i = d' + 1 := ⟨i - 1, by omega⟩
    refine .tup (n := 11 + 3 * i) (nc (.lit (by decide)) (nc ((nice_e c dp k2).mono (by omega)) (n1 (.tup (n := 10 + 3 * i) (nice_ss h2 a i k5) (by rw [stsD_len]; omega) (by omega))))) (by simp) (by simp [K4.isHere]; omega)
  | .tri a n b, i, h => by
    obtain ⟨k1, k2, k3, k4, k5, k6⟩ := (show _ ∧ _ ∧ _ ∧ _ ∧ _ ∧ _ from h)
    obtain ⟨i, rfl⟩ : ∃ d', i = d' + 1 := ⟨i - 1, by omega⟩
    refine .tup (n := 11 + 3 * i) (nc (.lit (by decide)) (nc (.tup (n := 10 + 3 * i) (nice_ss h2 a i k5) (by rw [stsD_len]; omega) (by omega)) (nc (.str (okn_str k2)) (n1 (.tup (n := 10 + 3 * i) (nice_ss h2 b i k6) (by rw [stsD_len]; omega) (by omega)))))) (by simp) (by simp [K4.isHere]; omega)
  | .here l s, i, h => by
    obtain ⟨k1, k2, k3⟩ := (show _ ∧ _ ∧ _ from h)
    have k := nice_s h2 s i k3
    rw [k2] at k
    refine .tup (n := 9 + 3 * i) (nc (.lit (by decide)) (nc (.str (okn_str k1)) (n1 (k.mono (by simp))))) (by simp) (by simp [K4.isHere])
  | .lt x e, i, h => (nice_p h2 _ (show K4.tP dp _ from h)).mono (by omega)
  | .st x e, i, h => (nice_p h2 _ (show K4.tP dp _ from h)).mono (by omega)
  | .put x f e, i, h => (nice_p h2 _ (show K4.tP dp _ from h)).mono (by omega)
  | .act x e, i, h => (nice_p h2 _ (show K4.tP dp _ from h)).mono (by omega)
  | .ret e, i, h => (nice_p h2 _ (show K4.tP dp _ from h)).mono (by omega)
  | .thr e, i, h => (nice_p h2 _ (show K4.tP dp _ from h)).mono (by omega)
  | .send x e, i, h => (nice_p h2 _ (show K4.tP dp _ from h)).mono (by omega)
  | .spawn x e, i, h => (nice_p h2 _ (show K4.tP dp _ from h)).mono (by omega)
theorem nice_ss {dp : Nat} (h2 : dp ≤ 2) : ∀ (b : List K4.St) (i : Nat), K4.tSs b i dp → ∀ x ∈ K4.stsD b, Nice (10 + 3 * i) x
  | [], _, _ => n0
  | s :: r, i, h => nc ((nice_s h2 s i h.1).mono (by split <;> omega)) (nice_ss h2 r i h.2)
end
theorem nice_b {dp i : Nat} (h2 : dp ≤ 2) {b : List K4.St} (h : K4.tSs b i dp) (l : b.length ≤ 1000) : Nice (11 + 3 * i) (.tuple (K4.stsD b)) := .tup (nice_ss h2 b i h) (by rw [stsD_len]; exact l) (by omega)
theorem nice_f {dp i : Nat} (h2 : dp ≤ 2) {f : K4.Fn} (h : K4.tF f i dp) : Nice (12 + 3 * i) f.toD := by
  obtain ⟨k1, k2, k3, k4, k5⟩ := h
  refine .tup (n := 11 + 3 * i) (nc (.str (okn_str k1)) (nc (.tup (n := 0) (fun d hd => ?_) (by simp; omega) (by omega)) (n1 (nice_b h2 k5 (by omega))))) (by simp) (by omega)
  obtain ⟨x, hx, rfl⟩ := List.mem_map.mp hd
  exact .str (okn_str (k3 x hx))
theorem nice_g {p : K4.Pg} (h : K4.tG p) : Nice 20 (K4.pgD p) := by
  obtain ⟨k1, i, dp, k2, k3, k4, k5⟩ := h
  refine .tup (n := 12 + 3 * i) (fun d hd => ?_) (by simp; omega) (by omega)
  obtain ⟨f, hf, rfl⟩ := List.mem_map.mp hd
  exact nice_f k4 (k5 f hf)
end W4
set_option Elab.async false
set_option linter.all false
set_option maxRecDepth 100000
set_option maxHeartbeats 4000000
set_option pp.maxSteps 400
namespace W4
open PySem PySem.Spec PyProof.Rows L2
local macro_rules | `(tactic| walk_at "tg") => `(tactic| repeat (first | refine iteBt (by decide +kernel) ?_ | refine iteBf (by decide +kernel) ?_ | refine ⟨_, rfl, ?_⟩ | refine ⟨_, _, rfl, rfl, ?_⟩ | refine ⟨rfl, _, rfl, ?_⟩))
local macro_rules | `(tactic| walk_at "rd") => `(tactic| repeat (first | refine ⟨_, rfl, ?_⟩ | refine ⟨_, _, rfl, rfl, ?_⟩ | refine ⟨rfl, _, rfl, ?_⟩))
abbrev N_q_lines : List Str := ["_law_box_here", "_law_block", "_law_depth", "_law_found", "_law_statement", "_law_inner"]
abbrev P_q_lines : List Str := ["_law_box_here", "_law_block", "_law_depth"]
theorem sc_q_lines : FnScope N_q_lines P_q_lines (defScope s_q_lines) := ⟨rfl, rfl, rfl, by decide +kernel, rfl, by decide +kernel, by decide +kernel⟩
theorem bd_q_lines (kV doc pm : Value) (an : Option Addr) (cdv ct : Value) (us : List Value) (hl : us.length = P_q_lines.length) : bindArgs (PySem.W.fnOf d_q_lines.name d_q_lines.qual d_q_lines.params d_q_lines.body d_q_lines.scope .none kV doc pm an cdv ct) ⟨us, []⟩ = pure (P_q_lines.zip us) := match us, hl with | [_, _, _], _ => rfl
section
variable {P : Program} {w : World} {K : PySem.W.Frag} {mg : Str → Option Value} {base : Heap}
def kS : Nat → Nat
  | 0 => 7
  | i + 1 => 7 + 2 * kS i
def wS : Nat → Nat
  | 0 => 123
  | i + 1 => 130 + 2 * wS i
/-- lines: pairs of a depth and a list of texts -/
inductive LnL (av : List Addr) (H : Hp) : List V → List (List Str) → Prop
  | nil : LnL av H [] []
  | cons {t p : Addr} {dep : Int} {rs : List Str} {vs : List V} {rss : List (List Str)} : t ∉ av → p ∉ av → H t = some (.tup [.int dep, .ref p]) → H p = some (.lst (rs.map V.str)) → LnL av H vs rss → LnL av H (.ref t :: vs) (rs :: rss)
theorem LnL.keep {av : List Addr} {H H' : Hp} (k : ∀ p o, p ∉ av → H p = some o → H' p = some o) : ∀ {vs : List V} {rss : List (List Str)}, LnL av H vs rss → LnL av H' vs rss
  | _, _, .nil => .nil
  | _, _, .cons a b c d t => .cons a b (k _ _ a c) (k _ _ b d) (LnL.keep k t)
theorem LnL.same {av : List Addr} {H H' : Hp} (S : Same H H') {vs : List V} {rss : List (List Str)} (h : LnL av H vs rss) : LnL av H' vs rss := h.keep fun p xs _ e => S p _ e
theorem LnL.sm {av : List Addr} {b : Addr} {H H' : Hp} (hb : b ∈ av) (S : Sm b H H') {vs : List V} {rss : List (List Str)} (h : LnL av H vs rss) : LnL av H' vs rss := h.keep fun p xs n e => S p _ e fun z => n (by rw [z]; exact hb)
theorem LnL.less {av aw : List Addr} {H : Hp} (k : ∀ p, p ∈ aw → p ∈ av) : ∀ {vs : List V} {rss : List (List Str)}, LnL av H vs rss → LnL aw H vs rss
  | _, _, .nil => .nil
  | _, _, .cons a b c d t => .cons (fun z => a (k _ z)) (fun z => b (k _ z)) c d (LnL.less k t)
/-- an address that is free is not among them -/
theorem LnL.more {b F : Addr} {H : Hp} (n : H F = none) : ∀ {vs : List V} {rss : List (List Str)}, LnL [b] H vs rss → LnL [b, F] H vs rss
  | _, _, .nil => .nil
  | _, _, .cons (t := t) (p := p) a b' c d r => by
    have e1 : t ≠ F := fun z => by rw [z, n] at c; cases c
    have e2 : p ≠ F := fun z => by rw [z, n] at d; cases d
    simp only [List.mem_singleton] at a b'
    exact .cons (by simp [a, e1]) (by simp [b', e2]) c d (LnL.more n r)
theorem LnL.app {av : List Addr} {H : Hp} : ∀ {vs ws : List V} {rss sss : List (List Str)}, LnL av H vs rss → LnL av H ws sss → LnL av H (vs ++ ws) (rss ++ sss)
  | _, _, _, _, .nil, h => h
  | _, _, _, _, .cons a b c d t, k => .cons a b c d (LnL.app t k)
theorem LnL.length {av : List Addr} {H : Hp} : ∀ {vs : List V} {rss : List (List Str)}, LnL av H vs rss → vs.length = rss.length
  | _, _, .nil => rfl
  | _, _, .cons _ _ _ _ t => by rw [List.length_cons, List.length_cons, t.length]
/-- the list of lines that is under way -/
structure Lm (H0 : Hp) (b F : Addr) (m cnt : Nat) (ws : List K4.Wd) (H : Hp) : Prop where
  fb : F ≠ b
  b0 : H0 b ≠ none
  f0 : H0 F = none
  ex : ∃ (vs : List V) (lss : List (List Str)), H F = some (.lst vs) ∧ LnL [b, F] H vs lss ∧ K4.Raw lss.flatten ws ∧ lss.length + lss.flatten.length ≤ cnt
  bx : Bx H b m
  sm : Sm b H0 H
theorem Lm.start {H0 H : Hp} {b F : Addr} {m : Nat} (B0 : H0 b ≠ none) (S : Sm b H0 H) (B : Bx H b m) (n : H F = none) : Lm H0 b F m 0 [] (upd H F (.lst [])) :=
  ⟨fun z => B.there (by rw [← z]; exact n), B0, S.free n B0 B.there, ⟨[], [], upd_same, .nil, rfl, Nat.le_refl _⟩, B.new n, S.upd_new n⟩
theorem Lm.new {H0 H : Hp} {b F q : Addr} {m cnt : Nat} {ws : List K4.Wd} {o : HO} (h : Lm H0 b F m cnt ws H) (n : H q = none) : Lm H0 b F m cnt ws (upd H q o) := by
  obtain ⟨vs, lss, a, l, r, c⟩ := h.ex
  exact ⟨h.fb, h.b0, h.f0, ⟨vs, lss, at_new a n, l.same (same_new n), r, c⟩, h.bx.new n, h.sm.upd_new n⟩
theorem Lm.mono {H0 H : Hp} {b F : Addr} {m cnt m' cnt' : Nat} {ws : List K4.Wd} (h : Lm H0 b F m cnt ws H) (l : m' ≤ m) (k : cnt ≤ cnt') : Lm H0 b F m' cnt' ws H := by
  obtain ⟨vs, lss, a, l', r, c⟩ := h.ex
  exact ⟨h.fb, h.b0, h.f0, ⟨vs, lss, a, l', r, Nat.le_trans c k⟩, h.bx.mono l, h.sm⟩
/-- one line more is appended -/
theorem Lm.line {H0 H H1 : Hp} {b F t p : Addr} {m cnt m1 : Nat} {ws ws1 : List K4.Wd} {dep : Int} {rs : List Str} (h : Lm H0 b F m cnt ws H) (S : Sm b H H1) (B : Bx H1 b m1) (nt : H t = none) (np : H p = none) (ht : H1 t = some (.tup [.int dep, .ref p])) (hp : H1 p = some (.lst (rs.map V.str))) (raw : K4.Raw rs ws1) :
    ∃ vs, H1 F = some (.lst vs) ∧ vs.length ≤ cnt ∧ Lm H0 b F m1 (cnt + 1 + rs.length) (ws ++ ws1) (upd H1 F (.lst (vs ++ [.ref t]))) := by
  obtain ⟨vs, lss, a, l, r, c⟩ := h.ex
  have a1 := S F _ a h.fb
  have ll := l.length
  have tF : t ≠ F := fun z => by rw [z, a] at nt; cases nt
  have pF : p ≠ F := fun z => by rw [z, a] at np; cases np
  have tb : t ≠ b := fun z => h.bx.there (by rw [← z]; exact nt)
  have pb : p ≠ b := fun z => h.bx.there (by rw [← z]; exact np)
  refine ⟨vs, a1, by omega, h.fb, h.b0, h.f0, ⟨vs ++ [.ref t], lss ++ [rs], upd_same, ?_, ?_, ?_⟩, B.upd (Ne.symm h.fb), (h.sm.trans S).own h.f0⟩
  · refine ((l.sm (by simp) S).app (.cons (by simp [tF, tb]) (by simp [pF, pb]) ht hp .nil)).keep fun q o nq e => ?_
    rw [upd_ne (fun z => nq (by simp [z]))]
    exact e
  · rw [List.flatten_append]
    refine r.app ?_
    simpa using raw
  · rw [List.length_append, List.flatten_append, List.length_append, List.flatten_cons, List.flatten_nil, List.append_nil, List.length_singleton]
    omega
/-- more lines, in a new list -/
theorem Lm.cat {H0 H H1 : Hp} {b F : Addr} {m cnt m1 : Nat} {ws ws1 : List K4.Wd} {us : List V} {lss1 : List (List Str)} (h : Lm H0 b F m cnt ws H) (S : Sm b H H1) (B : Bx H1 b m1) (hl : LnL [b] H1 us lss1) (raw : K4.Raw lss1.flatten ws1) :
    ∃ vs, H1 F = some (.lst vs) ∧ vs.length ≤ cnt ∧ ∀ G, H1 G = none → Lm H0 b G m1 (cnt + (lss1.length + lss1.flatten.length)) (ws ++ ws1) (upd H1 G (.lst (vs ++ us))) := by
  obtain ⟨vs, lss, a, l, r, c⟩ := h.ex
  have a1 := S F _ a h.fb
  have ll := l.length
  refine ⟨vs, a1, by omega, fun G nG => ⟨fun z => B.there (by rw [← z]; exact nG), h.b0, (h.sm.trans S).free nG h.b0 B.there, ⟨vs ++ us, lss ++ lss1, upd_same, ?_, ?_, ?_⟩, B.new nG, (h.sm.trans S).upd_new nG⟩⟩
  · have l1 : LnL [b] H1 vs lss := (l.sm (by simp) S).less fun q hq => by simp at hq; simp [hq]
    exact ((l1.app hl).more nG).same (same_new nG)
  · rw [List.flatten_append]
    exact r.app raw
  · rw [List.length_append, List.flatten_append, List.length_append]
    omega
/-- what the lines of a block give back -/
structure LQ (H : Hp) (Q : VK) (b : Addr) (m cnt : Nat) (R : List K4.Wd → Prop) : Prop where
  go : ∀ (l : Addr) (us : List V) (lss : List (List Str)) (ws : List K4.Wd) (H' : Hp), H l = none → H' l = some (.lst us) → LnL [b] H' us lss → K4.Raw lss.flatten ws → R ws → lss.length + lss.flatten.length ≤ cnt → Bx H' b m → Sm b H H' → Q (.ref l) H'
def spLines (n : Nat) : Sp := fun vs H Q _ => ∃ (b : Addr) (v : V) (bl : List K4.St) (i dp m : Nat) (dep : Int), vs = [.ref b, v, .int dep] ∧ i < n ∧ i ≤ 3 ∧ bl.length ≤ 2 ∧ K4.tSs bl i dp ∧ 1 ≤ dp ∧ dp ≤ 2 ∧ Va H v (.tuple (K4.stsD bl)) ∧ Bx H b (m + bl.length * kS i) ∧ LQ H Q b m (bl.length * wS i) (K4.RSs bl)
theorem rss_snoc : ∀ (a : List K4.St) (s : K4.St) (x y : List K4.Wd), K4.RSs a x → K4.RS s y → K4.RSs (a ++ [s]) (x ++ y)
  | [], s, x, y, h, k => by
    unfold K4.RSs at h
    subst h
    show K4.RSs [s] y
    unfold K4.RSs
    exact ⟨y, [], k, by unfold K4.RSs; rfl, by simp⟩
  | t :: a, s, x, y, h, k => by
    unfold K4.RSs at h
    obtain ⟨u, v, h1, h2, rfl⟩ := h
    show K4.RSs (t :: (a ++ [s])) _
    unfold K4.RSs
    exact ⟨u, v ++ y, h1, rss_snoc a s v y h2 k, by simp⟩
theorem hw_split {s : K4.St} {ws : List K4.Wd} (h : K4.HW s ws) (n : K4.isHere (K4.inn s) = false) : ∃ pre w0, ws = pre ++ w0 ∧ K4.HW0 (K4.inn s) w0 ∧ ∀ w, K4.RS (K4.inn s) w → K4.RS s (pre ++ w) := by
  cases s with
  | here l s =>
    obtain ⟨w0, h1, rfl⟩ := h
    refine ⟨[K4.kw "here", K4.nmw l], w0, rfl, h1, fun w hw => ?_⟩
    unfold K4.RS
    exact ⟨n, w, hw, rfl⟩
  | _ => exact ⟨[], ws, rfl, h, fun w hw => hw⟩
theorem hN_le (s : K4.St) : hN s ≤ 1 := by
  unfold hN
  split <;> omega
theorem kS_le {i : Nat} (h : i ≤ 3) : kS i ≤ 200 := (show ∀ i, i ≤ 3 → kS i ≤ 200 by decide) i h
theorem wS_le {i : Nat} (h : i ≤ 3) : wS i ≤ 3000 := (show ∀ i, i ≤ 3 → wS i ≤ 3000 by decide) i h
end
end W4
set_option Elab.async false
set_option linter.all false
set_option maxRecDepth 100000
set_option maxHeartbeats 4000000
set_option pp.maxSteps 400
namespace W4
open PySem PySem.Spec PyProof.Rows L2
local macro_rules | `(tactic| walk_at "tg") => `(tactic| repeat (first | refine iteBt (by decide +kernel) ?_ | refine iteBf (by decide +kernel) ?_ | refine ⟨_, rfl, ?_⟩ | refine ⟨_, _, rfl, rfl, ?_⟩ | refine ⟨rfl, _, rfl, ?_⟩))
local macro_rules | `(tactic| walk_at "rd") => `(tactic| repeat (first | refine ⟨_, rfl, ?_⟩ | refine ⟨_, _, rfl, rfl, ?_⟩ | refine ⟨rfl, _, rfl, ?_⟩))
section
variable {P : Program} {w : World} {K : PySem.W.Frag} {mg : Str → Option Value} {base : Heap}
/-- the words behind the first line, up to a try -/
def P12 : K4.St → List K4.Wd → Prop
  | .iff _ a b, w => ∃ wa wb, K4.RSs a wa ∧ K4.RSs b wb ∧ w = wa ++ (if b.isEmpty then [] else K4.kw "else" :: wb)
  | .wh _ a, w => K4.RSs a w
  | _, w => w = []
def P1 : K4.St → List K4.Wd → Prop
  | .iff _ a b, w => K4.RSs a w
  | .wh _ a, w => K4.RSs a w
  | _, w => w = []
def rem1 (i : Nat) : K4.St → Nat
  | .iff _ _ _ => kS (i - 1)
  | .tri _ _ _ => 2 * kS (i - 1)
  | _ => 0
def cnt1 (i : Nat) : K4.St → Nat
  | .iff _ _ _ => wS (i - 1)
  | .wh _ _ => wS (i - 1)
  | _ => 0
def rem (i : Nat) : K4.St → Nat
  | .tri _ _ _ => 2 * kS (i - 1)
  | _ => 0
def cnt3 (i : Nat) : K4.St → Nat
  | .iff _ _ _ => 2 * wS (i - 1) + 2
  | .wh _ _ => wS (i - 1)
  | _ => 0
def P123 : K4.St → List K4.Wd → Prop
  | .iff _ a b, w => ∃ wa wb, K4.RSs a wa ∧ K4.RSs b wb ∧ w = wa ++ (if b.isEmpty then [] else K4.kw "else" :: wb)
  | .wh _ a, w => K4.RSs a w
  | .tri a n b, w => ∃ wa wb, K4.RSs a wa ∧ K4.RSs b wb ∧ w = wa ++ K4.kw "catch" :: K4.nmw n :: wb
  | _, w => w = []
def cnt4 (i : Nat) : K4.St → Nat
  | .iff _ _ _ => 2 * wS (i - 1) + 2
  | .wh _ _ => wS (i - 1)
  | .tri _ _ _ => 2 * wS (i - 1) + 3
  | _ => 0
/-- a list of one line -/
theorem Lm.one {H0 H : Hp} {b F L t LL : Addr} {m cnt : Nat} {ws : List K4.Wd} {rs : List Str} {dep : Int} (h : Lm H0 b F m cnt ws H) (nL : H L = none) (nt : upd H L (.lst (rs.map V.str)) t = none) (nLL : upd (upd H L (.lst (rs.map V.str))) t (.tup [.int dep, .ref L]) LL = none) :
    Lm H0 b F m cnt ws (upd (upd (upd H L (.lst (rs.map V.str))) t (.tup [.int dep, .ref L])) LL (.lst [.ref t])) ∧ LnL [b] (upd (upd (upd H L (.lst (rs.map V.str))) t (.tup [.int dep, .ref L])) LL (.lst [.ref t])) [.ref t] [rs] := by
  have Lb : L ≠ b := fun z => h.bx.there (by rw [← z]; exact nL)
  have tb : t ≠ b := fun z => (h.new nL).bx.there (by rw [← z]; exact nt)
  exact ⟨((h.new nL).new nt).new nLL, .cons (by simp [tb]) (by simp [Lb]) (at_new upd_same nLL) (at_new (at_new upd_same nt) nLL) .nil⟩
theorem isEmp {H : Hp} {v : V} {b : List K4.St} {dp i : Nat} (h2 : dp ≤ 2) (hi : i ≤ 3) (h : K4.tSs b i dp) (l : b.length ≤ 2) (hv : Va H v (.tuple (K4.stsD b))) : ∃ d, Va H v d ∧ SeqAt.shaped d = true ∧ PyData.eqv d (.tuple []) = b.isEmpty := by
  have k := nice_b h2 h (by omega)
  refine ⟨_, hv, ?_, ?_⟩
  · unfold SeqAt.shaped
    rw [k.cl]
    have := k.dp
    simp
    omega
  · cases b with
    | nil => rfl
    | cons s r => rfl
theorem ok_lines (T : Txt K mg w) (n : Nat) (c_q_lines : Clb P w K mg base CX0 (14 + n) "_law_lines" (spLines n)) : Clb P w K mg base CX0 (14 + (n + 1)) "_law_lines" (spLines (n + 1)) := by
  have c_q_head_words := ok_hwA (P := P) (base := base) T
  refine T.clb (k := 14 + n) (d := d_q_lines) m_q_lines rfl T.g_q_lines rfl rfl sc_q_lines bd_q_lines (fun vs H Q E h => ?_) (fun cdv A outer s H vs Q E hr h => ?_)
  · obtain ⟨b, v, bl, i, dp, m, dep, rfl, _⟩ := h
    rfl
  · obtain ⟨b, v, bl, i, dp, m, dep, rfl, hn, i3, bl2, ts, dp1, dp2, hv, hb, ⟨k⟩⟩ := h
    have hu := hr.units
    refine ⟨_, (pss_cons (ps_set (i := 3) sc_q_lines.nd rfl (.inl rfl) (pe_lst pa_nil))
    (pss_cons (ps_for PassesOwn.never rfl (pi_tup (pv 1)) (pg_name (i := 4) sc_q_lines.nd rfl (.inl rfl))
    (C8.pss_cut (ps_set (i := 5) sc_q_lines.nd rfl (.inl rfl) (pe_ifExp (pt_cmpR op_eq (pe_ix ix_tup (pv 4) pe_int (fun _ _ => rfl)) pe_str (nomark _)) (pe_ix ix_tup (pv 4) pe_int (fun _ _ => rfl)) (pv 4)))
    (C8.pss_cut (ps_expr (pe_bm PySem.F.plainAttrs_list PySem.F.slot_list_append PySem.F.type_list_append mt_append (pv 3) (pa_cons (pe_tup (pa_cons (pv 2) (pa_cons (pe_cl c_q_head_words hr (by first | decide | omega) pass0 (by rfl) (pa_cons (pv 0) (pa_cons (pv 4) pa_nil))) pa_nil))) pa_nil)))
    (C8.pss_cut (ps_if (pt_cmpR op_in_seq (pe_ix ix_tup (pv 5) pe_int (fun _ _ => rfl)) (pe_tup (pa_cons pe_str (pa_cons pe_str pa_nil))) (by with_unfolding_all rfl))
    (pss_one (ps_set (i := 3) sc_q_lines.nd rfl (.inl rfl) (pe_op op_cat (pv 3) (pe_cl c_q_lines hr (by first | decide | omega) pass0 (by rfl) (pa_cons (pv 0) (pa_cons (pe_ix ix_tup (pv 5) pe_int (fun _ _ => rfl)) (pa_cons (pe_op op_add (pv 2) pe_int) pa_nil)))))))
    pss_nil)
    (C8.pss_cut (ps_if (PW.pt (pw_and (pt_cmpR op_eq (pe_ix ix_tup (pv 5) pe_int (fun _ _ => rfl)) pe_str (nomark _)) (pw_and1 (pt_cmpR (op_neD hu) (pe_ix ix_tup (pv 5) pe_int (fun _ _ => rfl)) (pe_tup pa_nil) (nomark _)))))
    (pss_one (ps_set (i := 3) sc_q_lines.nd rfl (.inl rfl) (pe_op op_cat (pe_op op_cat (pv 3) (pe_lst (pa_cons (pe_tup (pa_cons (pv 2) (pa_cons (pe_lst (pa_cons pe_str pa_nil)) pa_nil))) pa_nil))) (pe_cl c_q_lines hr (by first | decide | omega) pass0 (by rfl) (pa_cons (pv 0) (pa_cons (pe_ix ix_tup (pv 5) pe_int (fun _ _ => rfl)) (pa_cons (pe_op op_add (pv 2) pe_int) pa_nil)))))))
    pss_nil)
    (C8.pss_cut (ps_if (pt_cmpR op_eq (pe_ix ix_tup (pv 5) pe_int (fun _ _ => rfl)) pe_str (nomark _))
    (pss_cons (ps_set (i := 3) sc_q_lines.nd rfl (.inl rfl) (pe_op op_cat (pe_op op_cat (pv 3) (pe_cl c_q_lines hr (by first | decide | omega) pass0 (by rfl) (pa_cons (pv 0) (pa_cons (pe_ix ix_tup (pv 5) pe_int (fun _ _ => rfl)) (pa_cons (pe_op op_add (pv 2) pe_int) pa_nil))))) (pe_lst (pa_cons (pe_tup (pa_cons (pv 2) (pa_cons (pe_lst (pa_cons pe_str (pa_cons (pe_ix ix_tup (pv 5) pe_int (fun _ _ => rfl)) pa_nil))) pa_nil))) pa_nil))))
    (pss_one (ps_set (i := 3) sc_q_lines.nd rfl (.inl rfl) (pe_op op_cat (pv 3) (pe_cl c_q_lines hr (by first | decide | omega) pass0 (by rfl) (pa_cons (pv 0) (pa_cons (pe_ix ix_tup (pv 5) pe_int (fun _ _ => rfl)) (pa_cons (pe_op op_add (pv 2) pe_int) pa_nil))))))))
    pss_nil)
    (pss_one (ps_if (pt_cmpR op_in_seq (pe_ix ix_tup (pv 5) pe_int (fun _ _ => rfl)) (pe_tup (pa_cons pe_str (pa_cons pe_str (pa_cons pe_str pa_nil)))) (by with_unfolding_all rfl))
    (pss_one (ps_expr (pe_bm PySem.F.plainAttrs_list PySem.F.slot_list_append PySem.F.type_list_append mt_append (pv 3) (pa_cons (pe_tup (pa_cons (pv 2) (pa_cons (pe_lst (pa_cons pe_str pa_nil)) pa_nil))) pa_nil))))
    pss_nil))))))))
    (pss_one (ps_ret (pv 3))))), ?_⟩
    have s9 := sL
    have wl := wS_le i3
    obtain ⟨a, xs, rfl, at_, va⟩ := hv.tup_inv
    have lv := va.length
    rw [stsD_len] at lv
    have ab : a ≠ b := fun z => hb.notup xs (by rw [← z]; exact at_)
    have nest : ∀ (H1 : Hp) (x : V) (c : List K4.St) (m' : Nat) (dp' : Int) (Q' : VK), 0 < i → c.length ≤ 1 → K4.tSs c (i - 1) dp → Va H1 x (.tuple (K4.stsD c)) → Bx H1 b (m' + kS (i - 1)) → LQ H1 Q' b m' (wS (i - 1)) (K4.RSs c) → spLines n [.ref b, x, .int dp'] H1 Q' E0 := by
      intro H1 x c m' dp' Q' i0 cl tc hx hb1 ⟨q⟩
      have kk : c.length * kS (i - 1) ≤ 1 * kS (i - 1) := Nat.mul_le_mul_right _ cl
      have ww : c.length * wS (i - 1) ≤ 1 * wS (i - 1) := Nat.mul_le_mul_right _ cl
      exact ⟨b, x, c, i - 1, dp, m', dp', rfl, by omega, by omega, by omega, tc, dp1, dp2, hx, hb1.mono (by omega), ⟨fun l us lss ws H' nl at1 hl raw rw len B S => q l us lss ws H' nl at1 hl raw rw (by omega) B S⟩⟩
    refine ⟨Nat.zero_le _, fun F nF => ?_⟩
    walk_at "rd"
    refine ⟨⟨_, st_of (at_new at_ nF)⟩, for_tup (K := K) (a := a) (xs := xs) (fun j σ H1 => ∃ (F : Addr) (y4 y5 : Option V) (ws : List K4.Wd) (kk : Nat), σ = [some (.ref b), some (.ref a), some (.int dep), some (.ref F), y4, y5] ∧ j + kk = bl.length ∧ K4.RSs (bl.take j) ws ∧ Lm H b F (m + kk * kS i) (j * wS i) ws H1) ?_ ?_ ?_ ?_⟩
    · exact ⟨F, _, _, [], bl.length, rfl, by omega, by rw [List.take_zero]; unfold K4.RSs; rfl, (Lm.start hb.there (Sm.refl _ _) hb nF).mono (Nat.le_refl _) (by omega)⟩
    · rintro j σ H1 _ ⟨F, y4, y5, ws, kk, rfl, ek, hw, L⟩
      exact st_of (L.sm a _ at_ ab)
    · rintro j x σ H1 hx ⟨F, y4, y5, ws, kk, rfl, ek, hw, L⟩
      obtain ⟨d, hd, hv1⟩ := (va.keep (L.sm.tp hb.notup)).get hx
      rw [stsD_map, List.getElem?_map] at hd
      obtain ⟨e, he, rfl⟩ : ∃ e, bl[j]? = some e ∧ d = e.toD := by
        cases q : bl[j]? with
        | none =>
          rw [q] at hd
          cases hd
        | some e =>
          rw [q] at hd
          exact ⟨e, rfl, (Option.some.inj hd).symm⟩
      have te := tSs_get ts he
      have tk : bl.take (j + 1) = bl.take j ++ [e] := by rw [List.take_add_one, he] <;> rfl
      have jl : j < bl.length := (List.getElem?_eq_some_iff.mp he).1
      obtain ⟨kk, rfl⟩ : ∃ k', kk = k' + 1 := ⟨kk - 1, by omega⟩
      have jw : j * wS i ≤ 2 * wS i := Nat.mul_le_mul_right _ (by omega)
      have jw1 : (j + 1) * wS i = j * wS i + wS i := Nat.succ_mul _ _
      have L' : Lm H b F (m + kk * kS i + kS i) (j * wS i) ws H1 := by
        rw [Nat.succ_mul, ← Nat.add_assoc] at L
        exact L
      have nh : K4.isHere (K4.inn e) = false ∧ K4.tS (K4.inn e) i dp := by
        cases e with
        | here l s => exact ⟨te.2.1, te.2.2⟩
        | _ => exact ⟨rfl, te⟩
      walk_at "rd"
      refine ⟨fun σ' H2 => ∃ (v : V), σ' = [some (.ref b), some (.ref a), some (.int dep), some (.ref F), some x, some v] ∧ Va H2 v (K4.inn e).toD ∧ H2 = H1, ?_, ?_⟩
      · obtain ⟨c, t, ys, rfl, atc, ht, vb⟩ := sva hv1
        subst ht
        walk_at "rd"
        refine ⟨c, _, 0, _, rfl, rfl, st_of atc, atI_nat (j := 0) rfl, ?_⟩
        cases e with
        | here l s =>
          obtain ⟨_, y0, e0, _, v0⟩ := vb.cons_inv
          cases e0
          obtain ⟨x1, y1, rfl, h1, v1⟩ := v0.cons_inv
          obtain ⟨x2, y2, rfl, h2, v2⟩ := v1.cons_inv
          walk_at "tg"
          refine ⟨c, _, 2, _, rfl, rfl, st_of atc, atI_nat (j := 2) rfl, ?_⟩
          exact ⟨_, rfl, h2, rfl⟩
        | _ =>
          walk_at "tg"
          exact ⟨hv1, rfl⟩
      rintro σ' H2 ⟨u, rfl, hvi, rfl⟩
      have wpos : 123 ≤ wS i := by
        cases i with
        | zero => exact Nat.le_refl _
        | succ i =>
          show 123 ≤ 130 + 2 * wS i
          omega
      have kpos : 7 ≤ kS i := by
        cases i with
        | zero => exact Nat.le_refl _
        | succ i =>
          show 7 ≤ 7 + 2 * kS i
          omega
      refine ⟨fun σ' H4 => ∃ wh, σ' = [some (.ref b), some (.ref a), some (.int dep), some (.ref F), some x, some u] ∧ K4.HW e wh ∧ Lm H b F (m + kk * kS i + (kS i - 7)) (j * wS i + 121) (ws ++ wh) H4 ∧ Va H4 u (K4.inn e).toD, ?_, ?_⟩
      · obtain ⟨vs0, _, atF0, _⟩ := L'.ex
        walk_at "rd"
        refine ⟨.inl ⟨rfl, _, sq_of atF0⟩, ?_⟩
        walk_at "rd"
        have hN1 := hN_le e
        refine ⟨b, x, e, i, dp, m + kk * kS i + (kS i - 7), rfl, by omega, te, dp1, dp2, hv1, L'.bx.mono (by omega), ⟨fun l rs wh H5 nl at5 raw hwh len B5 S5 => ?_⟩⟩
        refine ⟨sz rfl, fun t nt => ?_⟩
        have S6 := S5.upd_new (o := .tup [.int dep, .ref l]) nt
        obtain ⟨vs, atF, lvs, L6⟩ := L'.line S6 (B5.bx.new nt) (S5.free nt L'.bx.there B5.there) nl upd_same (at_new at5 nt) raw
        refine ⟨F, vs, _, rfl, rfl, atF, by omega, wh, rfl, hwh, L6.mono (Nat.le_refl _) (by omega), ?_⟩
        exact (hvi.keep (S6.tp L'.bx.notup)).keep (Tp.upd (lst_notup atF))
      rintro σ' H4 ⟨wh, rfl, hwh, L4, hv4⟩
      obtain ⟨pre, w0, rfl, hw0, hpre⟩ := hw_split hwh nh.1
      have nh1 := nh.1
      have ti := nh.2
      have tk' : ∀ w, K4.RS (K4.inn e) w → K4.RSs (bl.take (j + 1)) (ws ++ (pre ++ w)) := fun w hw1 => by
        rw [tk]
        exact rss_snoc _ _ _ _ hw (hpre w hw1)
      generalize K4.inn e = sn at hv4 hw0 nh1 ti tk'
      clear hvi hwh hpre
      obtain ⟨c, t0, ys, rfl, atc, ht, vb⟩ := sva hv4
      subst ht
      have cb : c ≠ b := fun z => L4.bx.notup _ (by rw [← z]; exact atc)
      -- the first block
      have ip : ∀ i', i = i' + 1 → kS i = 7 + 2 * kS i' ∧ wS i = 130 + 2 * wS i' := fun i' e => by
        subst e
        exact ⟨rfl, rfl⟩
      refine ⟨fun σ' H5 => ∃ (F' : Addr) (w1 : List K4.Wd), σ' = [some (.ref b), some (.ref a), some (.int dep), some (.ref F'), some x, some (.ref c)] ∧ P1 sn w1 ∧ Lm H b F' (m + kk * kS i + rem1 i sn) (j * wS i + 121 + cnt1 i sn) (ws ++ (pre ++ w0) ++ w1) H5 ∧ Va H5 (.ref c) sn.toD, ?_, ?_⟩
      · walk_at "rd"
        refine ⟨c, _, 0, _, rfl, rfl, st_of atc, atI_nat (j := 0) rfl, ?_⟩
        refine ⟨sz rfl, fun t1 n1 => ?_⟩
        refine ⟨t1, _, rfl, .inr (st_of upd_same), rfl, rfl, ?_⟩
        have L5 := L4.new (o := .tup [.str "if", .str "while"]) n1
        have atc5 := at_new (o := .tup [.str "if", .str "while"]) atc n1
        have hv5 := hv4.new (o := .tup [.str "if", .str "while"]) n1
        cases sn with
        | iff c0 a0 b0 =>
          obtain ⟨i0, tc, al, bl', ta, tb⟩ := ti
          obtain ⟨eK, eW⟩ := ip (i - 1) (by omega)
          obtain ⟨_, y0, e0, _, v0⟩ := vb.cons_inv
          cases e0
          obtain ⟨x1, y1, rfl, h1, v1⟩ := v0.cons_inv
          obtain ⟨x2, y2, rfl, h2, v2⟩ := v1.cons_inv
          obtain ⟨x3, y3, rfl, h3, v3⟩ := v2.cons_inv
          walk_at "tg"
          refine ⟨c, _, 2, _, rfl, rfl, st_of atc5, atI_nat (j := 2) rfl, ?_⟩
          walk_at "rd"
          refine nest _ x2 a0 (m + kk * kS i + kS (i - 1)) (dep + 1) _ i0 al ta (h2.new n1) (L5.bx.mono (by omega)) ⟨fun l us lss w1 H6 nl at6 hl raw rw1 len B6 S6 => ?_⟩
          obtain ⟨vs, atF, lvs, L6⟩ := L5.cat S6 B6 hl raw
          have := hl.length
          refine ⟨F, l, _, _, rfl, rfl, atF, at6, by omega, fun G nG => ?_⟩
          exact ⟨G, w1, rfl, rw1, (L6 G nG).mono (Nat.le_refl _) (by show _ ≤ _ + wS (i - 1); omega), (hv5.keep (S6.tp L5.bx.notup)).new nG⟩
        | wh c0 a0 =>
          obtain ⟨i0, tc, al, ta⟩ := ti
          obtain ⟨eK, eW⟩ := ip (i - 1) (by omega)
          obtain ⟨_, y0, e0, _, v0⟩ := vb.cons_inv
          cases e0
          obtain ⟨x1, y1, rfl, h1, v1⟩ := v0.cons_inv
          obtain ⟨x2, y2, rfl, h2, v2⟩ := v1.cons_inv
          walk_at "tg"
          refine ⟨c, _, 2, _, rfl, rfl, st_of atc5, atI_nat (j := 2) rfl, ?_⟩
          walk_at "rd"
          refine nest _ x2 a0 (m + kk * kS i) (dep + 1) _ i0 al ta (h2.new n1) (L5.bx.mono (by omega)) ⟨fun l us lss w1 H6 nl at6 hl raw rw1 len B6 S6 => ?_⟩
          obtain ⟨vs, atF, lvs, L6⟩ := L5.cat S6 B6 hl raw
          have := hl.length
          refine ⟨F, l, _, _, rfl, rfl, atF, at6, by omega, fun G nG => ?_⟩
          exact ⟨G, w1, rfl, rw1, (L6 G nG).mono (Nat.le_refl _) (by show _ ≤ _ + wS (i - 1); omega), (hv5.keep (S6.tp L5.bx.notup)).new nG⟩
        | tri a0 n0 b0 =>
          obtain ⟨i0, _⟩ := ti
          obtain ⟨eK, eW⟩ := ip (i - 1) (by omega)
          walk_at "tg"
          exact ⟨by rw [List.append_nil]; exact L5.mono (by show m + kk * kS i + 2 * kS (i - 1) ≤ _; omega) (Nat.le_add_right _ _), hv5⟩
        | here _ _ => exact nomatch nh1
        | _ =>
          walk_at "tg"
          exact ⟨by rw [List.append_nil]; exact L5.mono (by show m + kk * kS i + 0 ≤ _; omega) (Nat.le_add_right _ _), hv5⟩
      clear hv4 L4 atc vb L L'
      rintro σ' H4 ⟨F, w1, rfl, hw1, L4, hv4⟩
      -- the second block of an if
      refine ⟨fun σ' H5 => ∃ (F' : Addr) (w2 : List K4.Wd), σ' = [some (.ref b), some (.ref a), some (.int dep), some (.ref F'), some x, some (.ref c)] ∧ P12 sn w2 ∧ Lm H b F' (m + kk * kS i + rem i sn) (j * wS i + 121 + cnt3 i sn) (ws ++ (pre ++ w0) ++ w2) H5 ∧ Va H5 (.ref c) sn.toD, ?_, ?_⟩
      · obtain ⟨c', t0, ys, ec, atc, ht, vb⟩ := sva hv4
        cases ec
        subst ht
        walk_at "rd"
        refine ⟨c, _, 0, _, rfl, rfl, st_of atc, atI_nat (j := 0) rfl, ?_⟩
        cases sn with
        | iff c0 a0 b0 =>
          obtain ⟨i0, tc, al, bl', ta, tb⟩ := ti
          obtain ⟨eK, eW⟩ := ip (i - 1) (by omega)
          obtain ⟨_, y0, e0, _, v0⟩ := vb.cons_inv
          cases e0
          obtain ⟨x1, y1, rfl, h1, v1⟩ := v0.cons_inv
          obtain ⟨x2, y2, rfl, h2, v2⟩ := v1.cons_inv
          obtain ⟨x3, y3, rfl, h3, v3⟩ := v2.cons_inv
          walk_at "tg"
          refine ⟨c, _, 3, _, rfl, rfl, st_of atc, atI_nat (j := 3) rfl, ?_⟩
          refine ⟨Nat.zero_le _, fun t1 n1 => ?_⟩
          have L5 := L4.new (o := .tup []) n1
          have atc5 := at_new (o := .tup []) atc n1
          have hv5 := hv4.new (o := .tup []) n1
          have h35 := h3.new (o := .tup []) n1
          obtain ⟨d, hd, sd, ed⟩ := isEmp dp2 (by omega) tb (by omega) h35
          refine ⟨d, .tuple [], hd.dp, .tup (st_of upd_same) .nil, sd, rfl, _, rfl, ?_⟩
          rw [ed]
          cases b0 with
          | nil =>
            refine iteBf rfl ?_
            exact ⟨F, w1, rfl, ⟨w1, [], hw1, by unfold K4.RSs; rfl, by simp⟩, L5.mono (by show _ + 0 ≤ _ + kS (i - 1); omega) (by show _ + wS (i - 1) ≤ _ + (2 * wS (i - 1) + 2); omega), hv5⟩
          | cons s0 r0 =>
            refine iteBt rfl ?_
            obtain ⟨vs0, _, atF0, _⟩ := L5.ex
            walk_at "rd"
            refine ⟨sz rfl, fun L nL => ?_⟩
            refine ⟨sz rfl, fun t nt => ?_⟩
            refine ⟨sz rfl, fun LL nLL => ?_⟩
            obtain ⟨L8, ln8⟩ := L5.one (rs := ["else"]) (dep := dep) nL nt nLL
            obtain ⟨vs, atF, lvs, L9⟩ := L8.cat (Sm.refl _ _) L8.bx ln8 (ws1 := [K4.kw "else"]) rfl
            refine ⟨F, LL, _, _, rfl, rfl, atF, upd_same, by show vs.length + 1 ≤ _; have : cnt1 i (.iff c0 a0 (s0 :: r0)) = wS (i - 1) := rfl; omega, fun G nG => ?_⟩
            have L10 := L9 G nG
            have hv10 := (((hv5.new nL).new nt).new nLL).new (o := .lst (vs ++ [.ref t])) nG
            have atc10 := at_new (o := .lst (vs ++ [.ref t])) (at_new (o := .lst [.ref t]) (at_new (o := .tup [.int dep, .ref L]) (at_new (o := .lst [.str "else"]) atc5 nL) nt) nLL) nG
            have h310 := (((h35.new nL).new nt).new nLL).new (o := .lst (vs ++ [.ref t])) nG
            walk_at "rd"
            refine ⟨c, _, 3, _, rfl, rfl, st_of atc10, atI_nat (j := 3) rfl, ?_⟩
            walk_at "rd"
            refine nest _ x3 (s0 :: r0) (m + kk * kS i) (dep + 1) _ i0 bl' tb h310 (L10.bx.mono (by show _ ≤ m + kk * kS i + kS (i - 1); omega)) ⟨fun l us lss w2 H6 nl at6 hl raw rw2 len B6 S6 => ?_⟩
            obtain ⟨vs2, atG, lvs2, L11⟩ := L10.cat S6 B6 hl raw
            have := hl.length
            have lvs2' : vs2.length ≤ j * wS i + 121 + wS (i - 1) + 2 := lvs2
            refine ⟨G, l, _, _, rfl, rfl, atG, at6, by omega, fun G2 nG2 => ?_⟩
            refine ⟨G2, w1 ++ K4.kw "else" :: w2, rfl, ⟨w1, w2, hw1, rw2, by simp⟩, ?_, (hv10.keep (S6.tp L10.bx.notup)).new nG2⟩
            have := (L11 G2 nG2).mono (m' := m + kk * kS i) (cnt' := j * wS i + 121 + (2 * wS (i - 1) + 2)) (Nat.le_refl _) (by show j * wS i + 121 + wS (i - 1) + (1 + 1) + _ ≤ _; omega)
            show Lm H b G2 (m + kk * kS i) (j * wS i + 121 + (2 * wS (i - 1) + 2)) _ _
            simpa using this
        | wh c0 a0 =>
          walk_at "tg"
          exact ⟨F, w1, rfl, hw1, L4, hv4⟩
        | here _ _ => exact nomatch nh1
        | _ =>
          obtain rfl := (show w1 = [] from hw1)
          walk_at "tg"
          exact ⟨L4, hv4⟩
      clear hv4 L4 hw1 F w1
      rintro σ' H4 ⟨F, w2, rfl, hw2, L4, hv4⟩
      -- a try
      refine ⟨fun σ' H5 => ∃ (F' : Addr) (w3 : List K4.Wd), σ' = [some (.ref b), some (.ref a), some (.int dep), some (.ref F'), some x, some (.ref c)] ∧ P123 sn w3 ∧ Lm H b F' (m + kk * kS i) (j * wS i + 121 + cnt4 i sn) (ws ++ (pre ++ w0) ++ w3) H5 ∧ Va H5 (.ref c) sn.toD, ?_, ?_⟩
      · obtain ⟨c', t0, ys, ec, atc, ht, vb⟩ := sva hv4
        cases ec
        subst ht
        walk_at "rd"
        refine ⟨c, _, 0, _, rfl, rfl, st_of atc, atI_nat (j := 0) rfl, ?_⟩
        cases sn with
        | tri a0 n0 b0 =>
          obtain ⟨i0, tn, al, bl', ta, tb⟩ := ti
          obtain ⟨eK, eW⟩ := ip (i - 1) (by omega)
          obtain ⟨_, y0, e0, _, v0⟩ := vb.cons_inv
          cases e0
          obtain ⟨x1, y1, rfl, h1, v1⟩ := v0.cons_inv
          obtain ⟨x2, y2, rfl, h2, v2⟩ := v1.cons_inv
          obtain ⟨x3, y3, rfl, h3, v3⟩ := v2.cons_inv
          obtain rfl := h2.str_inv
          obtain rfl := (show w2 = [] from hw2)
          have L4' : Lm H b F (m + kk * kS i + 2 * kS (i - 1)) (j * wS i + 121) (ws ++ (pre ++ w0) ++ []) H4 := L4
          rw [List.append_nil] at L4'
          walk_at "tg"
          refine ⟨c, _, 1, _, rfl, rfl, st_of atc, atI_nat (j := 1) rfl, ?_⟩
          walk_at "rd"
          refine nest _ x1 a0 (m + kk * kS i + kS (i - 1)) (dep + 1) _ i0 al ta h1 (L4'.bx.mono (by omega)) ⟨fun l us lss wa H6 nl at6 hl raw rwa len B6 S6 => ?_⟩
          obtain ⟨vs, atF, lvs, L6⟩ := L4'.cat S6 B6 hl raw
          have := hl.length
          refine ⟨F, l, _, _, rfl, rfl, atF, at6, by omega, fun G nG => ?_⟩
          have L7 := L6 G nG
          have hv7 := (hv4.keep (S6.tp L4'.bx.notup)).new (o := .lst (vs ++ us)) nG
          have h37 := (h3.keep (S6.tp L4'.bx.notup)).new (o := .lst (vs ++ us)) nG
          have atc7 := at_new (o := .lst (vs ++ us)) (S6 c _ atc cb) nG
          walk_at "rd"
          refine ⟨c, _, 2, _, rfl, rfl, st_of atc7, atI_nat (j := 2) rfl, ?_⟩
          refine ⟨sz rfl, fun L nL => ?_⟩
          refine ⟨sz rfl, fun t nt => ?_⟩
          refine ⟨sz rfl, fun LL nLL => ?_⟩
          obtain ⟨L8, ln8⟩ := L7.one (rs := ["catch", n0]) (dep := dep) nL nt nLL
          obtain ⟨vs2, atG, lvs2, L9⟩ := L8.cat (Sm.refl _ _) L8.bx ln8 (ws1 := [K4.kw "catch", K4.nmw n0]) (K4.Raw.cons (by decide) (K4.Raw.cons (K4.sb_nm tn) K4.Raw.nil))
          refine ⟨G, LL, _, _, rfl, rfl, atG, upd_same, by show vs2.length + 1 ≤ _; omega, fun G2 nG2 => ?_⟩
          have L10 := L9 G2 nG2
          have hv10 := (((hv7.new nL).new nt).new nLL).new (o := .lst (vs2 ++ [.ref t])) nG2
          have atc10 := at_new (o := .lst (vs2 ++ [.ref t])) (at_new (o := .lst [.ref t]) (at_new (o := .tup [.int dep, .ref L]) (at_new (o := .lst [.str "catch", .str n0]) atc7 nL) nt) nLL) nG2
          have h310 := (((h37.new nL).new nt).new nLL).new (o := .lst (vs2 ++ [.ref t])) nG2
          walk_at "rd"
          refine ⟨c, _, 3, _, rfl, rfl, st_of atc10, atI_nat (j := 3) rfl, ?_⟩
          walk_at "rd"
          refine nest _ x3 b0 (m + kk * kS i) (dep + 1) _ i0 bl' tb h310 (L10.bx.mono (by omega)) ⟨fun l us lss' wb H6 nl at6 hl raw' rwb len' B6 S6 => ?_⟩
          obtain ⟨vs3, atG2, lvs3, L11⟩ := L10.cat S6 B6 hl raw'
          have := hl.length
          have lvs3' : vs3.length ≤ j * wS i + 121 + (lss.length + lss.flatten.length) + 3 := lvs3
          refine ⟨G2, l, _, _, rfl, rfl, atG2, at6, by omega, fun G3 nG3 => ?_⟩
          refine ⟨G3, wa ++ K4.kw "catch" :: K4.nmw n0 :: wb, rfl, ⟨wa, wb, rwa, rwb, rfl⟩, ?_, (hv10.keep (S6.tp L10.bx.notup)).new nG3⟩
          have := (L11 G3 nG3).mono (m' := m + kk * kS i) (cnt' := j * wS i + 121 + (2 * wS (i - 1) + 3)) (Nat.le_refl _) (by show j * wS i + 121 + (lss.length + lss.flatten.length) + (1 + 2) + _ ≤ _; omega)
          show Lm H b G3 (m + kk * kS i) (j * wS i + 121 + (2 * wS (i - 1) + 3)) _ _
          simpa using this
        | here _ _ => exact nomatch nh1
        | iff c0 a0 b0 =>
          walk_at "tg"
          exact ⟨F, w2, rfl, hw2, L4, hv4⟩
        | wh c0 a0 =>
          walk_at "tg"
          exact ⟨F, w2, rfl, hw2, L4, hv4⟩
        | _ =>
          obtain rfl := (show w2 = [] from hw2)
          walk_at "tg"
          exact ⟨L4, hv4⟩
      clear hv4 L4 hw2 F w2
      rintro σ' H4 ⟨F, w3, rfl, hw3, L4, hv4⟩
      -- the end
      obtain ⟨c', t0, ys, ec, atc, ht, vb⟩ := sva hv4
      cases ec
      subst ht
      walk_at "rd"
      refine ⟨c, _, 0, _, rfl, rfl, st_of atc, atI_nat (j := 0) rfl, ?_⟩
      refine ⟨sz rfl, fun t1 n1 => ?_⟩
      refine ⟨t1, _, rfl, .inr (st_of upd_same), rfl, rfl, ?_⟩
      have L5 := L4.new (o := .tup [.str "if", .str "while", .str "try"]) n1
      obtain ⟨vs0, _, atF0, _⟩ := L5.ex
      have fin : ∀ w, K4.RS sn w → ∀ F H6, Lm H b F (m + kk * kS i) ((j + 1) * wS i) (ws ++ (pre ++ w)) H6 → ∃ (F' : Addr) (y4 y5 : Option V) (ws' : List K4.Wd) (kk' : Nat), [some (.ref b), some (.ref a), some (.int dep), some (.ref F), some x, some (.ref c)] = [some (V.ref b), some (.ref a), some (.int dep), some (.ref F'), y4, y5] ∧ j + 1 + kk' = bl.length ∧ K4.RSs (bl.take (j + 1)) ws' ∧ Lm H b F' (m + kk' * kS i) ((j + 1) * wS i) ws' H6 := fun w hw F H6 hL =>
        ⟨F, _, _, _, kk, rfl, by omega, tk' w hw, hL⟩
      have app : (∀ w, P123 sn w → K4.HW0 sn w0 → K4.RS sn (w0 ++ w ++ [K4.kw "end"])) → 0 < i → cnt4 i sn ≤ 2 * wS (i - 1) + 3 → ∀ (L t : Addr), upd H4 t1 (.tup [.str "if", .str "while", .str "try"]) L = none → upd (upd H4 t1 (.tup [.str "if", .str "while", .str "try"])) L (.lst [.str "end"]) t = none →
          ∃ vs, (upd (upd (upd H4 t1 (.tup [.str "if", .str "while", .str "try"])) L (.lst [.str "end"])) t (.tup [.int dep, .ref L])) F = some (.lst vs) ∧ vs.length < sizeLine ∧ Lm H b F (m + kk * kS i) ((j + 1) * wS i) (ws ++ (pre ++ (w0 ++ w3 ++ [K4.kw "end"]))) (upd (upd (upd (upd H4 t1 (.tup [.str "if", .str "while", .str "try"])) L (.lst [.str "end"])) t (.tup [.int dep, .ref L])) F (.lst (vs ++ [.ref t]))) := by
        intro _ i0 hc L t nL nt
        obtain ⟨eK, eW⟩ := ip (i - 1) (by omega)
        have S6 : Sm b (upd H4 t1 (.tup [.str "if", .str "while", .str "try"])) (upd (upd (upd H4 t1 (.tup [.str "if", .str "while", .str "try"])) L (.lst [.str "end"])) t (.tup [.int dep, .ref L])) := (Sm.new nL).upd_new nt
        have nt' : upd H4 t1 (.tup [.str "if", .str "while", .str "try"]) t = none := (Sm.new (p := b) (o := .lst [.str "end"]) nL).free nt L5.bx.there (L5.bx.new nL).there
        obtain ⟨vs, atF, lvs, L6⟩ := L5.line (rs := ["end"]) (ws1 := [K4.kw "end"]) S6 ((L5.bx.new nL).new nt) nt' nL upd_same (at_new upd_same nt) rfl
        refine ⟨vs, atF, by omega, ?_⟩
        have := L6.mono (m' := m + kk * kS i) (cnt' := (j + 1) * wS i) (Nat.le_refl _) (by show _ + 1 + 1 ≤ _; omega)
        simpa using this
      cases sn with
      | iff c0 a0 b0 =>
        obtain ⟨i0, _⟩ := ti
        have hR : ∀ w, P123 (.iff c0 a0 b0) w → K4.HW0 (.iff c0 a0 b0) w0 → K4.RS (.iff c0 a0 b0) (w0 ++ w ++ [K4.kw "end"]) := by
          rintro w ⟨wa, wb, ha, hb', rfl⟩ ⟨wc, hc, rfl⟩
          unfold K4.RS
          exact ⟨wc, wa, wb, hc, ha, hb', by simp⟩
        walk_at "tg"
        refine ⟨.inl ⟨rfl, _, sq_of atF0⟩, ?_⟩
        walk_at "rd"
        refine ⟨sz rfl, fun L nL => ?_⟩
        refine ⟨sz rfl, fun t nt => ?_⟩
        obtain ⟨vs, atF, lvs, L6⟩ := app hR i0 (by show 2 * wS (i - 1) + 2 ≤ _; omega) L t nL nt
        exact ⟨F, vs, _, rfl, rfl, atF, lvs, fin _ (hR w3 hw3 hw0) F _ L6⟩
      | wh c0 a0 =>
        obtain ⟨i0, _⟩ := ti
        have hR : ∀ w, P123 (.wh c0 a0) w → K4.HW0 (.wh c0 a0) w0 → K4.RS (.wh c0 a0) (w0 ++ w ++ [K4.kw "end"]) := by
          rintro w ha ⟨wc, hc, rfl⟩
          unfold K4.RS
          exact ⟨wc, w, hc, ha, by simp⟩
        walk_at "tg"
        refine ⟨.inl ⟨rfl, _, sq_of atF0⟩, ?_⟩
        walk_at "rd"
        refine ⟨sz rfl, fun L nL => ?_⟩
        refine ⟨sz rfl, fun t nt => ?_⟩
        obtain ⟨vs, atF, lvs, L6⟩ := app hR i0 (by show wS (i - 1) ≤ _; omega) L t nL nt
        exact ⟨F, vs, _, rfl, rfl, atF, lvs, fin _ (hR w3 hw3 hw0) F _ L6⟩
      | tri a0 n0 b0 =>
        obtain ⟨i0, _⟩ := ti
        have hR : ∀ w, P123 (.tri a0 n0 b0) w → K4.HW0 (.tri a0 n0 b0) w0 → K4.RS (.tri a0 n0 b0) (w0 ++ w ++ [K4.kw "end"]) := by
          rintro w ⟨wa, wb, ha, hb', rfl⟩ hc
          obtain rfl := (show w0 = [K4.kw "try"] from hc)
          unfold K4.RS
          exact ⟨wa, wb, ha, hb', by simp⟩
        walk_at "tg"
        refine ⟨.inl ⟨rfl, _, sq_of atF0⟩, ?_⟩
        walk_at "rd"
        refine ⟨sz rfl, fun L nL => ?_⟩
        refine ⟨sz rfl, fun t nt => ?_⟩
        obtain ⟨vs, atF, lvs, L6⟩ := app hR i0 (Nat.le_refl _) L t nL nt
        exact ⟨F, vs, _, rfl, rfl, atF, lvs, fin _ (hR w3 hw3 hw0) F _ L6⟩
      | here _ _ => exact nomatch nh1
      | _ =>
        walk_at "tg"
        obtain rfl := (show w3 = [] from hw3)
        refine fin w0 hw0 F _ ?_
        have L5' := L5.mono (m' := m + kk * kS i) (cnt' := (j + 1) * wS i) (Nat.le_refl _) (by show _ + 0 ≤ _; omega)
        simpa using L5'
    · rintro σ H1 ⟨F, y4, y5, ws, kk, rfl, ek, hw, L⟩
      rw [show xs.length = bl.length from lv, List.take_length] at hw
      obtain ⟨vs, lss, a1, l1, r1, c1⟩ := L.ex
      walk_at "rd"
      exact k F vs lss ws H1 L.f0 a1 (l1.less fun q hq => by simp at hq; simp [hq]) r1 hw (by rw [← show xs.length = bl.length from lv]; exact c1) (L.bx.mono (by omega)) L.sm
end
end W4
set_option Elab.async false
set_option linter.all false
set_option maxRecDepth 100000
set_option maxHeartbeats 4000000
set_option pp.maxSteps 400
namespace W4
open PySem PySem.Spec PyProof.Rows L2
local macro_rules | `(tactic| walk_at "rd") => `(tactic| repeat (first | refine ⟨_, rfl, ?_⟩ | refine ⟨_, _, rfl, rfl, ?_⟩ | refine ⟨rfl, _, rfl, ?_⟩))
abbrev N_q_all_lines : List Str := ["_law_box_here", "_law_whole", "_law_found", "_law_name_here", "_law_params", "_law_body", "_law_param"]
abbrev P_q_all_lines : List Str := ["_law_box_here", "_law_whole"]
theorem sc_q_all_lines : FnScope N_q_all_lines P_q_all_lines (defScope s_q_all_lines) := ⟨rfl, rfl, rfl, by decide +kernel, rfl, by decide +kernel, by decide +kernel⟩
theorem bd_q_all_lines (kV doc pm : Value) (an : Option Addr) (cdv ct : Value) (us : List Value) (hl : us.length = P_q_all_lines.length) : bindArgs (PySem.W.fnOf d_q_all_lines.name d_q_all_lines.qual d_q_all_lines.params d_q_all_lines.body d_q_all_lines.scope .none kV doc pm an cdv ct) ⟨us, []⟩ = pure (P_q_all_lines.zip us) := match us, hl with | [_, _], _ => rfl
section
variable {P : Program} {w : World} {K : PySem.W.Frag} {mg : Str → Option Value} {base : Heap}
theorem ok_linesA (T : Txt K mg w) : ∀ n, Clb P w K mg base CX0 (14 + n) "_law_lines" (spLines n)
  | 0 => T.none (d := d_q_lines) m_q_lines rfl T.g_q_lines rfl rfl 13 sc_q_lines bd_q_lines fun vs H Q E ⟨b, v, bl, i, dp, m, dep, _, h, _⟩ => Nat.not_lt_zero _ h
  | n + 1 => ok_lines T n (ok_linesA T n)
def spAllL : Sp := fun vs H Q _ => ∃ (b : Addr) (v : V) (p : K4.Pg) (m : Nat), vs = [.ref b, v] ∧ K4.tG p ∧ Va H v (K4.pgD p) ∧ Bx H b (m + 200) ∧ LQ H Q b m 3600 (K4.RP p)
theorem rp_snoc : ∀ (a : K4.Pg) (s : K4.Fn) (x y : List K4.Wd), K4.RP a x → K4.RF s y → K4.RP (a ++ [s]) (x ++ y)
  | [], s, x, y, h, k => by
    unfold K4.RP at h
    subst h
    show K4.RP [s] y
    unfold K4.RP
    exact ⟨y, [], k, by unfold K4.RP; rfl, by simp⟩
  | t :: a, s, x, y, h, k => by
    unfold K4.RP at h
    obtain ⟨u, v, h1, h2, rfl⟩ := h
    show K4.RP (t :: (a ++ [s])) _
    unfold K4.RP
    exact ⟨u, v ++ y, h1, rp_snoc a s v y h2 k, by simp⟩
theorem ones_eq : ∀ (ps : List Str) (rss : List (List Str)), rss.length = ps.length → (∀ (i : Nat) (rs : List Str), rss[i]? = some rs → ∃ p, ps[i]? = some p ∧ rs = [p]) → rss = ps.map fun p => [p]
  | [], [], _, _ => rfl
  | [], _ :: _, h, _ => by simp at h
  | _ :: _, [], h, _ => by simp at h
  | p :: ps, rs :: rss, hl, h => by
    obtain ⟨q, h1, h2⟩ := h 0 rs rfl
    cases h1
    rw [h2, ones_eq ps rss (by simpa using hl) fun i rs hr => by simpa using h (i + 1) rs (by simpa using hr)]
    rfl
theorem ok_alll (T : Txt K mg w) : Clb P w K mg base CX0 18 "_law_all_lines" spAllL := by
  have c_q_lines := ok_linesA (P := P) (base := base) T 3
  have c_q_row_words := ok_roww (P := P) (base := base) T
  refine T.clb (k := 17) (d := d_q_all_lines) m_q_all_lines rfl T.g_q_all_lines rfl rfl sc_q_all_lines bd_q_all_lines (fun vs H Q E h => ?_) (fun cdv A outer s H vs Q E hr h => ?_)
  · obtain ⟨b, v, p, m, rfl, _⟩ := h
    rfl
  · obtain ⟨b, v, p, m, rfl, tg, hv, hb, ⟨k⟩⟩ := h
    refine ⟨_, (pss_cons (ps_set (i := 2) sc_q_all_lines.nd rfl (.inl rfl) (pe_lst pa_nil))
    (pss_cons (ps_for PassesOwn.never rfl (pi_tup (pv 1)) (pg_tup rfl (pgs_cons (pg_name (i := 3) sc_q_all_lines.nd rfl (.inl rfl)) (pgs_cons (pg_name (i := 4) sc_q_all_lines.nd rfl (.inl rfl)) (pgs_cons (pg_name (i := 5) sc_q_all_lines.nd rfl (.inl rfl)) pgs_nil))))
    (pss_cons (ps_expr (pe_bm PySem.F.plainAttrs_list PySem.F.slot_list_append PySem.F.type_list_append mt_append (pv 2) (pa_cons (pe_tup (pa_cons pe_int (pa_cons (pe_op op_cat (pe_lst (pa_cons pe_str (pa_cons (pv 3) pa_nil))) (pe_cl c_q_row_words hr (by first | decide | omega) pass0 (by rfl) (pa_cons (pe_lc (own := [("_law_param", 6)]) (g := gName 6) rfl sc_q_all_lines.nd (pi_tup (pv 4)) (blkOk_by (own := [("_law_param", 6)]) (N := N_q_all_lines) (sc := defScope s_q_all_lines) (by decide +kernel)) (fun _ _ _ _ _ => pg_name (i := 6) sc_q_all_lines.nd rfl (.inl rfl)) (fun _ _ _ _ _ => pts_nil) (fun _ _ _ _ _ => (pe_lst (pa_cons (pv 6) pa_nil)))) pa_nil))) pa_nil))) pa_nil)))
    (pss_one (ps_set (i := 2) sc_q_all_lines.nd rfl (.inl rfl) (pe_op op_cat (pe_op op_cat (pv 2) (pe_cl c_q_lines hr (by first | decide | omega) pass0 (by rfl) (pa_cons (pv 0) (pa_cons (pv 5) (pa_cons pe_int pa_nil))))) (pe_lst (pa_cons (pe_tup (pa_cons pe_int (pa_cons (pe_lst (pa_cons pe_str pa_nil)) pa_nil))) pa_nil)))))))
    (pss_one (ps_ret (pv 2))))), ?_⟩
    have s9 := sL
    obtain ⟨a, xs, rfl, at_, va⟩ := hv.tup_inv
    have lv := va.length
    rw [List.length_map] at lv
    have ab : a ≠ b := fun z => hb.notup xs (by rw [← z]; exact at_)
    obtain ⟨p2, i, dp, i2, d1, d2, tf⟩ := tg
    have ki : kS i ≤ 49 := (show ∀ i, i ≤ 2 → kS i ≤ 49 by decide) i i2
    have wi : wS i ≤ 882 := (show ∀ i, i ≤ 2 → wS i ≤ 882 by decide) i i2
    refine ⟨Nat.zero_le _, fun F nF => ?_⟩
    walk_at "rd"
    refine ⟨⟨_, st_of (at_new at_ nF)⟩, for_tup (K := K) (a := a) (xs := xs) (fun j σ H1 => ∃ (F : Addr) (y3 y4 y5 y6 : Option V) (ws : List K4.Wd) (kk : Nat), σ = [some (.ref b), some (.ref a), some (.ref F), y3, y4, y5, y6] ∧ j + kk = p.length ∧ K4.RP (p.take j) ws ∧ Lm H b F (m + kk * 100) (j * 1800) ws H1) ?_ ?_ ?_ ?_⟩
    · exact ⟨F, _, _, _, _, [], p.length, rfl, by omega, by rw [List.take_zero]; unfold K4.RP; rfl, (Lm.start hb.there (Sm.refl _ _) hb nF).mono (by omega) (by omega)⟩
    · rintro j σ H1 _ ⟨F, y3, y4, y5, y6, ws, kk, rfl, ek, hw, L⟩
      exact st_of (L.sm a _ at_ ab)
    · rintro j x σ H1 hx ⟨F, y3, y4, y5, y6, ws, kk, rfl, ek, hw, L⟩
      obtain ⟨d, hd, hv1⟩ := (va.keep (L.sm.tp hb.notup)).get hx
      rw [List.getElem?_map] at hd
      obtain ⟨f, hf, rfl⟩ : ∃ f, p[j]? = some f ∧ d = f.toD := by
        cases q : p[j]? with
        | none =>
          rw [q] at hd
          cases hd
        | some e =>
          rw [q] at hd
          exact ⟨e, rfl, (Option.some.inj hd).symm⟩
      obtain ⟨tx, pl, tp, bl2, ts⟩ := tf f (List.mem_of_getElem? hf)
      have tk : p.take (j + 1) = p.take j ++ [f] := by rw [List.take_add_one, hf] <;> rfl
      have jl : j < p.length := (List.getElem?_eq_some_iff.mp hf).1
      obtain ⟨kk, rfl⟩ : ∃ k', kk = k' + 1 := ⟨kk - 1, by omega⟩
      obtain ⟨c, zs, rfl, atc, vb⟩ := hv1.tup_inv
      obtain ⟨z1, zs1, rfl, g1, vb1⟩ := vb.cons_inv
      obtain ⟨z2, zs2, rfl, g2, vb2⟩ := vb1.cons_inv
      obtain ⟨z3, zs3, rfl, g3, vb3⟩ := vb2.cons_inv
      obtain rfl := vb3.nil_inv
      obtain rfl := g1.str_inv
      obtain ⟨pa, cs, rfl, atp, vc⟩ := g2.tup_inv
      obtain rfl := vc.strs
      obtain ⟨vs0, _, atF0, _⟩ := L.ex
      refine ⟨c, _, rfl, st_of atc, rfl, _, _, rfl, _, _, rfl, _, _, rfl, rfl, ?_⟩
      walk_at "rd"
      refine ⟨.inl ⟨rfl, _, sq_of atF0⟩, ?_⟩
      walk_at "rd"
      refine ⟨sz rfl, fun L1 nL1 => ?_⟩
      have B1 := L.bx.new (o := .lst [.str "func", .str f.x]) nL1
      have S1 : Sm b H1 (upd H1 L1 (.lst [.str "func", .str f.x])) := Sm.new nL1
      have L1b : L1 ≠ b := fun z => L.bx.there (by rw [← z]; exact nL1)
      walk_at "rd"
      refine ⟨⟨_, st_of (at_new atp nL1)⟩, fun D nD => lc_words (K := K) (fl := true) (b := b) (fun i rs => ∃ p, f.ps[i]? = some p ∧ rs = [p]) 0 (m + (kk + 1) * 100) (by rw [List.length_map]; omega) nD (at_new atp nL1) (B1.bo.mono (by omega)) ?_ ?_ ?_⟩
      · intro i x H2 m' Qn hx S2 B2 q
        rw [List.getElem?_map] at hx
        obtain ⟨y, hy, rfl⟩ : ∃ y, f.ps[i]? = some y ∧ x = .str y := by
          cases e : f.ps[i]? with
          | none =>
            rw [e] at hx
            cases hx
          | some y =>
            rw [e] at hx
            exact ⟨y, rfl, (Option.some.inj hx).symm⟩
        refine ⟨rfl, ?_⟩
        walk_at "rd"
        refine ⟨sz rfl, fun L2 nL2 => ?_⟩
        exact q L2 [y] _ nL2 upd_same ⟨y, hy, rfl⟩ (B2.new nL2) (Sm.new nL2)
      · intro x H2 Q1 Q2 f q
        exact f _ _ q
      · intro H2 ys rss lr hR S2 atD hl B2
        rw [List.length_map] at lr
        have er := ones_eq f.ps rss lr hR
        have lens : ∀ rs ∈ rss, rs.length ≤ 1 := fun rs hrs => by
          rw [er] at hrs
          obtain ⟨y, _, rfl⟩ := List.mem_map.mp hrs
          exact Nat.le_refl _
        walk_at "rd"
        refine ⟨D, [b], ys, rss, rfl, atD, hl, by omega, fun rs hrs => by have := lens rs hrs; omega, fun l2 H3 nl2 at2 S3 => ?_⟩
        have rl := K4.rowR_len lens (by omega)
        have S3' := (S1.trans S2).trans (Sm.of S3)
        have B3 := (B2.same S3).bx
        refine ⟨L1, l2, _, _, rfl, rfl, S3 L1 _ (S2 L1 _ upd_same L1b), at2, ?_, fun R nR => ?_⟩
        · simp only [List.length_map, List.length_cons, List.length_nil, List.length_append]
          omega
        walk_at "rd"
        refine ⟨sz rfl, fun t nt => ?_⟩
        have S4 := (S3'.upd_new (o := .lst ([V.str "func", V.str f.x] ++ (K4.rowR rss).map V.str)) nR)
        have S5 := S4.upd_new (o := .tup [.int 0, .ref R]) nt
        have nR1 : H1 R = none := S3'.free nR L.bx.there B3.there
        have nt1 : H1 t = none := S4.free nt L.bx.there (B3.new nR).there
        obtain ⟨vs, atF, lvs, L5⟩ := L.line (rs := "func" :: f.x :: K4.rowR rss) (ws1 := K4.kw "func" :: K4.nmw f.x :: K4.rowW (f.ps.map fun p => [K4.nmw p])) S5 ((B3.new nR).new nt) nt1 nR1 upd_same (at_new (by rw [upd_same]; simp) nt) (K4.Raw.cons (by decide) (K4.Raw.cons (K4.sb_nm tx) (K4.row_raw (by
          rw [er, List.map_map, List.map_map]
          refine List.map_congr_left fun y hy => ?_
          show [K4.sb y] = [y]
          rw [K4.sb_nm (tp y hy)]))))
        walk_at "rd"
        have j2 : j ≤ 1 := by omega
        refine ⟨F, vs, _, rfl, rfl, atF, by omega, ?_⟩
        have hv5 := (g3.keep (S5.tp L.bx.notup)).keep (Tp.upd (o := .lst (vs ++ [.ref t])) (lst_notup atF))
        have kb : f.b.length * kS i ≤ 2 * kS i := Nat.mul_le_mul_right _ bl2
        have wb : f.b.length * wS i ≤ 2 * wS i := Nat.mul_le_mul_right _ bl2
        walk_at "rd"
        refine ⟨b, z3, f.b, i, dp, m + kk * 100, 1, rfl, by omega, by omega, bl2, ts, d1, d2, hv5, L5.bx.mono (by omega), ⟨fun l us lss wb H6 nl at6 hl raw rwb len B6 S6 => ?_⟩⟩
        obtain ⟨vs2, atF2, lvs2, L7⟩ := L5.cat S6 B6 hl raw
        have := hl.length
        simp only [List.length_cons] at lvs2
        refine ⟨F, l, _, _, rfl, rfl, atF2, at6, by omega, fun G nG => ?_⟩
        have L8 := L7 G nG
        walk_at "rd"
        refine ⟨sz rfl, fun L nL => ?_⟩
        refine ⟨sz rfl, fun t nt => ?_⟩
        refine ⟨sz rfl, fun LL nLL => ?_⟩
        obtain ⟨L9, ln9⟩ := L8.one (rs := ["end"]) (dep := 0) nL nt nLL
        obtain ⟨vs3, atG, lvs3, L10⟩ := L9.cat (Sm.refl _ _) L9.bx ln9 (ws1 := [K4.kw "end"]) rfl
        simp only [List.length_cons] at lvs3
        refine ⟨G, LL, _, _, rfl, rfl, atG, upd_same, by show vs3.length + 1 ≤ _; omega, fun G2 nG2 => ?_⟩
        refine ⟨G2, _, _, _, _, _, kk, rfl, by omega, by rw [tk]; exact rp_snoc _ _ _ _ hw ⟨wb, rwb, rfl⟩, ?_⟩
        have L11 := (L10 G2 nG2).mono (m' := m + kk * 100) (cnt' := (j + 1) * 1800) (Nat.le_refl _) (by
          simp only [List.length_cons, List.flatten_cons, List.flatten_nil, List.append_nil, List.length_nil]
          omega)
        simpa using L11
    · rintro σ H1 ⟨F, y3, y4, y5, y6, ws, kk, rfl, ek, hw, L⟩
      rw [show xs.length = p.length from lv, List.take_length] at hw
      obtain ⟨vs, lss, a1, l1, r1, c1⟩ := L.ex
      walk_at "rd"
      exact k F vs lss ws H1 L.f0 a1 (l1.less fun q hq => by simp at hq; simp [hq]) r1 hw (by have : xs.length = p.length := lv; omega) (L.bx.mono (by omega)) L.sm
end
end W4
set_option Elab.async false
set_option linter.all false
set_option maxRecDepth 100000
set_option maxHeartbeats 4000000
set_option pp.maxSteps 400
namespace W4
open PySem PySem.Spec PyProof.Rows L2
local macro_rules | `(tactic| walk_at "rd") => `(tactic| repeat (first | refine ⟨_, rfl, ?_⟩ | refine ⟨_, _, rfl, rfl, ?_⟩ | refine ⟨rfl, _, rfl, ?_⟩))
local macro_rules | `(tactic| walk_at "tg") => `(tactic| repeat (first | refine iteBt (by decide +kernel) ?_ | refine iteBf (by decide +kernel) ?_ | refine ⟨_, rfl, ?_⟩ | refine ⟨_, _, rfl, rfl, ?_⟩ | refine ⟨rfl, _, rfl, ?_⟩))
abbrev N_q_plain_words : List Str := ["_law_box_here", "_law_whole", "_law_found", "_law_depth", "_law_words_here", "_law_word"]
abbrev P_q_plain_words : List Str := ["_law_box_here", "_law_whole"]
theorem sc_q_plain_words : FnScope N_q_plain_words P_q_plain_words (defScope s_q_plain_words) := ⟨rfl, rfl, rfl, by decide +kernel, rfl, by decide +kernel, by decide +kernel⟩
theorem bd_q_plain_words (kV doc pm : Value) (an : Option Addr) (cdv ct : Value) (us : List Value) (hl : us.length = P_q_plain_words.length) : bindArgs (PySem.W.fnOf d_q_plain_words.name d_q_plain_words.qual d_q_plain_words.params d_q_plain_words.body d_q_plain_words.scope .none kV doc pm an cdv ct) ⟨us, []⟩ = pure (P_q_plain_words.zip us) := match us, hl with | [_, _], _ => rfl
section
variable {P : Program} {w : World} {K : PySem.W.Frag} {mg : Str → Option Value} {base : Heap}
/-- texts that a comprehension makes of a list's items -/
theorem lc_txtL {K : PySem.W.Frag} {a : Addr} {xs : List V} {g : TG} {te : TE} {vs : List Nat} {σ : L2.St} {H1 : Hp} {D : Addr} {Qd : Hp → Prop} (ts : List Str) (len : xs.length = ts.length) (few : ts.length ≤ 100000) (nD : H1 D = none) (hT : H1 a = some (.lst xs))
    (hs : ∀ (i : Nat) (x : V) (t : Str) (H : Hp) (Qn : VK), xs[i]? = some x → ts[i]? = some t → Same H1 H → (∀ H4, Same H H4 → Qn (.str t) H4) → g x (wipe σ vs) H fun σ2 H2 => wipe σ2 vs = wipe σ vs ∧ te σ2 H2 Qn)
    (mg : ∀ x H Q Q', (∀ σ' H', Q σ' H' → Q' σ' H') → g x (wipe σ vs) H Q → g x (wipe σ vs) H Q')
    (hd : ∀ H, Same H1 H → H D = some (.lst (ts.map V.str)) → Qd H) :
    ∃ W : Nat → Nat → Hp → Prop, (∃ m, W 0 m (upd H1 D (.lst []))) ∧ ∀ i m H, W i m H →
      ((Itl K a).stop i H ∧ Qd H) ∨ ((Itl K a).go i H ∧ ∃ Nx : Hp → Prop, (∀ H', Nx H' → ∃ m', m' < m ∧ W (i + 1) m' H') ∧ ∀ x H', (Itl K a).yld i H x H' → g x (wipe σ vs) H' fun σ2 H2 => wipe σ2 vs = wipe σ vs ∧ tYes σ2 H2 fun b H3 =>
        if b = true then te σ2 H3 fun y H4 => ∃ acc, H4 D = some (.lst acc) ∧ acc.length < sizeLine ∧ Nx (upd H4 D (.lst (acc ++ [y]))) else Nx H3) := by
  refine lc_list (K := K) (xs := xs) (fun i H => Same H1 H ∧ H D = some (.lst ((ts.take i).map V.str))) ⟨same_new nD, upd_same⟩ (fun i H _ p => sq_of (p.1 a _ hT)) (fun i x H hx p => ?_) fun H p => hd H p.1 (by have := p.2; rw [len, List.take_length] at this; exact this)
  have hi : i < ts.length := by rw [← len]; exact (List.getElem?_eq_some_iff.mp hx).1
  refine mg _ _ _ _ (fun σ2 H2 q => ⟨q.1, ?_⟩) (hs i x ts[i] H (fun y H4 => ∃ acc, H4 D = some (.lst acc) ∧ acc.length < sizeLine ∧ (Same H1 (upd H4 D (.lst (acc ++ [y]))) ∧ upd H4 D (.lst (acc ++ [y])) D = some (.lst ((ts.take (i + 1)).map V.str)))) hx (List.getElem?_eq_getElem hi) p.1 fun H4 S4 => ?_)
  · simp only [tYes, if_true]
    exact q.2
  · refine ⟨_, S4 D _ p.2, ?_, Same.own (p.1.trans S4) nD, ?_⟩
    · rw [List.length_map, List.length_take]
      exact Nat.lt_of_lt_of_le (show min i ts.length < 100001 by omega) (by decide)
    · rw [upd_same, List.take_add_one, List.getElem?_eq_getElem hi, List.map_append]
      rfl
def spPlain : Sp := fun vs H Q _ => ∃ (b : Addr) (v : V) (p : K4.Pg) (m : Nat), vs = [.ref b, v] ∧ K4.tG p ∧ Va H v (K4.pgD p) ∧ Bx H b (m + 200) ∧
  ∀ (l : Addr) (ws : List K4.Wd) (H' : Hp), H l = none → H' l = some (.lst ((ws.map Prod.snd).map V.str)) → K4.RP p ws → ws.length ≤ 3600 → Bx H' b m → Sm b H H' → Q (.ref l) H'
theorem LnL.get {av : List Addr} {H : Hp} : ∀ {vs : List V} {rss : List (List Str)} {i : Nat} {v : V}, LnL av H vs rss → vs[i]? = some v → ∃ t p dep rs, v = .ref t ∧ rss[i]? = some rs ∧ t ∉ av ∧ p ∉ av ∧ H t = some (.tup [.int dep, .ref p]) ∧ H p = some (.lst (rs.map V.str))
  | _, _, _, _, .nil, e => by simp at e
  | _, _, 0, _, .cons a b c d _, e => by cases e; exact ⟨_, _, _, _, rfl, rfl, a, b, c, d⟩
  | _, _, i + 1, _, .cons _ _ _ _ t, e => by
    obtain ⟨t, p, dep, rs, h1, h2, h3⟩ := LnL.get (i := i) t (by simpa using e)
    exact ⟨t, p, dep, rs, h1, by simpa using h2, h3⟩
theorem sum_take {α : Type} (l : List (List α)) (i : Nat) : (l.take i).flatten.length ≤ l.flatten.length := by
  conv => rhs; rw [← List.take_append_drop i l]
  rw [List.flatten_append, List.length_append]
  omega
theorem ok_plain (T : Txt K mg w) : Clb P w K mg base CX0 19 "_law_plain_words" spPlain := by
  have c_q_all_lines := ok_alll (P := P) (base := base) T
  refine T.clb (k := 18) (d := d_q_plain_words) m_q_plain_words rfl T.g_q_plain_words rfl rfl sc_q_plain_words bd_q_plain_words (fun vs H Q E h => ?_) (fun cdv A outer s H vs Q E hr h => ?_)
  · obtain ⟨b, v, p, m, rfl, _⟩ := h
    rfl
  · obtain ⟨b, v, p, m, rfl, tg, hv, hb, k⟩ := h
    refine ⟨_, (pss_cons (ps_set (i := 2) sc_q_plain_words.nd rfl (.inl rfl) (pe_lst pa_nil))
    (pss_cons (ps_for PassesOwn.never rfl (pi_list (pe_cl c_q_all_lines hr (by first | decide | omega) pass0 (by rfl) (pa_cons (pv 0) (pa_cons (pv 1) pa_nil)))) (pg_tup rfl (pgs_cons (pg_name (i := 3) sc_q_plain_words.nd rfl (.inl rfl)) (pgs_cons (pg_name (i := 4) sc_q_plain_words.nd rfl (.inl rfl)) pgs_nil)))
    (pss_one (ps_set (i := 2) sc_q_plain_words.nd rfl (.inl rfl) (pe_op op_cat (pv 2) (pe_lc (own := [("_law_word", 5)]) (g := gName 5) (te := tIf (tTest (tOp (rIn K false) (tVar 5) (tTup (tCons (tC (.str "(!")) (tCons (tC (.str "-!")) tNil))))) (tBM K "str" (fun x xs H Q => ∃ a b, x = .str a ∧ xs = [.str b] ∧ a.length ≤ sizeLine ∧ Q (.str (Txt.stripChars a b)) H) (tVar 5) (tCons (tC (.str "!")) tNil)) (tVar 5)) rfl sc_q_plain_words.nd (pi_list (pv 4)) (blkOk_by (own := [("_law_word", 5)]) (N := N_q_plain_words) (sc := defScope s_q_plain_words) (by decide +kernel)) (fun _ _ _ _ _ => pg_name (i := 5) sc_q_plain_words.nd rfl (.inl rfl)) (fun _ _ _ _ _ => pts_nil) (fun _ _ _ _ _ => (pe_ifExp (pt_cmpR op_in_seq (pv 5) (pe_tup (pa_cons pe_str (pa_cons pe_str pa_nil))) (by with_unfolding_all rfl)) (pe_bm PySem.F.plainAttrs_str PySem.F.slot_str_strip PySem.F.type_str_strip mt_stripChars (pv 5) (pa_cons pe_str pa_nil)) (pv 5))))))))
    (pss_one (ps_ret (pv 2))))), ?_⟩
    have s9 := sL
    refine ⟨Nat.zero_le _, fun F nF => ?_⟩
    walk_at "rd"
    refine ⟨b, v, p, m, rfl, tg, hv.new nF, hb.new nF, ⟨fun l us lss ws H1 nl at1 hl raw rp len B1 S1 => ?_⟩⟩
    have S1' : Sm b H H1 := (Sm.new nF).trans S1
    have Fb : F ≠ b := fun z => hb.there (by rw [← z]; exact nF)
    have lu := hl.length
    refine ⟨l, rfl, ⟨_, sq_of at1⟩, for_list (K := K) (a := l) (xs := us) (fun j σ H2 => ∃ (G : Addr) (y3 y4 y5 : Option V), σ = [some (.ref b), some v, some (.ref G), y3, y4, y5] ∧ H G = none ∧ H2 G = some (.lst (((lss.take j).flatten.map K4.sb).map V.str)) ∧ Same H1 H2) ?_ ?_ ?_ ?_⟩
    · exact ⟨F, none, none, none, rfl, nF, S1 F _ upd_same Fb, Same.refl _⟩
    · rintro j σ H2 _ ⟨G, y3, y4, y5, rfl, nG, atG, S2⟩
      exact sq_of (S2 l _ at1)
    · rintro j x σ H2 hx ⟨G, y3, y4, y5, rfl, nG, atG, S2⟩
      obtain ⟨t, pp, dep, rs, rfl, hr', _, _, att, atp⟩ := (hl.same S2).get hx
      have st := sum_take lss j
      have st1 : rs.length ≤ lss.flatten.length := by
        have h1 := sum_take lss (j + 1)
        rw [List.take_add_one, hr', List.flatten_append, List.length_append] at h1
        simp at h1
        simp
        omega
      refine ⟨t, _, rfl, st_of att, rfl, _, _, rfl, _, _, rfl, rfl, ?_⟩
      walk_at "rd"
      refine ⟨⟨_, sq_of atp⟩, fun D nD => lc_txtL (K := K) (rs.map K4.sb) (by simp) (by rw [List.length_map]; omega) nD atp ?_ ?_ ?_⟩
      · intro i x y H3 Qn hx hy S3 q
        rw [List.getElem?_map] at hx hy
        obtain ⟨z, hz, rfl⟩ : ∃ z, rs[i]? = some z ∧ x = .str z := by
          cases e : rs[i]? with
          | none =>
            rw [e] at hx
            cases hx
          | some z =>
            rw [e] at hx
            exact ⟨z, rfl, (Option.some.inj hx).symm⟩
        rw [hz] at hy
        cases hy
        refine ⟨rfl, ?_⟩
        walk_at "rd"
        refine ⟨sz rfl, fun t1 n1 => ?_⟩
        refine ⟨t1, _, rfl, .inr (st_of upd_same), rfl, rfl, ?_⟩
        have St : Same H3 (upd H3 t1 (.tup [.str "(!", .str "-!"])) := same_new n1
        by_cases z1 : z = "(!"
        · subst z1
          walk_at "tg"
          refine ⟨rfl, ?_⟩
          walk_at "rd"
          rw [show Txt.stripChars "(!" "!" = K4.sb "(!" by decide +kernel]
          exact ⟨Nat.le_trans (show ("(!" : Str).length ≤ 2 by decide) (by omega), q _ St⟩
        by_cases z2 : z = "-!"
        · subst z2
          walk_at "tg"
          refine ⟨rfl, ?_⟩
          walk_at "rd"
          rw [show Txt.stripChars "-!" "!" = K4.sb "-!" by decide +kernel]
          exact ⟨Nat.le_trans (show ("-!" : Str).length ≤ 2 by decide) (by omega), q _ St⟩
        refine ⟨false, congrArg V.bl (show inV _ _ = false by rw [show [V.str "(!", V.str "-!"] = ([("(!" : Str), ("-!" : Str)] : List Str).map V.str from rfl, inV_str]; simp [z1, z2]), ?_⟩
        refine iteBf rfl ?_
        walk_at "rd"
        have : K4.sb z = z := by
          unfold K4.sb
          rw [if_neg z1, if_neg z2]
        rw [← this]
        exact q _ St
      · intro x H3 Q1 Q2 f q
        exact f _ _ q
      · intro H3 S3 atD
        have S4 := S1'.trans (Sm.of (S2.trans S3))
        refine ⟨G, D, _, _, rfl, rfl, S3 G _ atG, atD, ?_, fun R nR => ?_⟩
        · simp only [List.length_map]
          omega
        refine ⟨R, _, _, _, rfl, S4.free nR hb.there ((B1.bo.same S2).same S3).there, ?_, (S2.trans S3).trans (same_new nR)⟩
        rw [upd_same, List.take_add_one, hr', List.flatten_append]
        simp
    · rintro σ H2 ⟨G, y3, y4, y5, rfl, nG, atG, S2⟩
      rw [lu, List.take_length] at atG
      walk_at "rd"
      refine k G ws H2 nG ?_ rp ?_ (B1.bo.same S2).bx (S1'.trans (Sm.of S2))
      · rw [atG, show lss.flatten.map K4.sb = ws.map Prod.snd from raw]
      · have := congrArg List.length (show lss.flatten.map K4.sb = ws.map Prod.snd from raw)
        rw [List.length_map, List.length_map] at this
        omega
end
end W4
set_option Elab.async false
set_option linter.all false
set_option maxRecDepth 100000
set_option maxHeartbeats 4000000
set_option pp.maxSteps 400
namespace W4
open PySem PySem.Spec PyProof.Rows L2
local macro_rules | `(tactic| walk_at "rd") => `(tactic| repeat (first | refine ⟨_, rfl, ?_⟩ | refine ⟨_, _, rfl, rfl, ?_⟩ | refine ⟨rfl, _, rfl, ?_⟩))
local macro_rules | `(tactic| walk_at "tg") => `(tactic| repeat (first | refine iteBt (by decide +kernel) ?_ | refine iteBf (by decide +kernel) ?_ | refine ⟨_, rfl, ?_⟩ | refine ⟨_, _, rfl, rfl, ?_⟩ | refine ⟨rfl, _, rfl, ?_⟩))
abbrev N_q_spread : List Str := ["_law_box_here", "_law_words_here", "_law_found", "_law_last", "_law_word", "_law_wordy", "_law_gap"]
abbrev P_q_spread : List Str := ["_law_box_here", "_law_words_here"]
theorem sc_q_spread : FnScope N_q_spread P_q_spread (defScope s_q_spread) := ⟨rfl, rfl, rfl, by decide +kernel, rfl, by decide +kernel, by decide +kernel⟩
theorem bd_q_spread (kV doc pm : Value) (an : Option Addr) (cdv ct : Value) (us : List Value) (hl : us.length = P_q_spread.length) : bindArgs (PySem.W.fnOf d_q_spread.name d_q_spread.qual d_q_spread.params d_q_spread.body d_q_spread.scope .none kV doc pm an cdv ct) ⟨us, []⟩ = pure (P_q_spread.zip us) := match us, hl with | [_, _], _ => rfl
/-- the last piece's word is wordy -/
def lastW : Bool → List K4.Piece → Bool
  | pw, [] => pw
  | _, (_, w) :: r => lastW (K4.isWord w.2) r
theorem gp_snoc : ∀ (pc : List K4.Piece) (pw : Bool) (g : List Nat) (w : K4.Wd), K4.Gp pw pc → K4.gapC g → (g = [] → lastW pw pc = true → K4.isWord w.2 = false) → K4.Gp pw (pc ++ [(g, w)])
  | [], pw, g, w, _, hg, h => ⟨hg, h, True.intro⟩
  | (g', w') :: r, pw, g, w, ⟨h1, h2, h3⟩, hg, h => ⟨h1, h2, gp_snoc r _ g w h3 hg h⟩
theorem lastW_snoc : ∀ (pc : List K4.Piece) (pw : Bool) (g : List Nat) (w : K4.Wd), lastW pw (pc ++ [(g, w)]) = K4.isWord w.2
  | [], _, _, _ => rfl
  | (_, w') :: r, _, g, w => lastW_snoc r (K4.isWord w'.2) g w
structure WdOk (w : K4.Wd) : Prop where
  ne : w.2 ≠ ""
  l13 : w.2.length ≤ 13
  z : (atI w.2.cps.toList (-1)).map (fun c => Txt.isalnum ⟨#[c]⟩) = some (K4.isWord w.2)
  a : (atI w.2.cps.toList 0).map (fun c => Txt.isalnum ⟨#[c]⟩) = some (K4.isWord w.2)
theorem wd_ok {w : K4.Wd} (h : K4.inV w) : WdOk w := by
  have go : ∀ l : List K4.Wd, (∀ w ∈ l, ((w.2 ≠ "" ∧ w.2.length ≤ 13) ∧ (atI w.2.cps.toList (-1)).map (fun c => Txt.isalnum ⟨#[c]⟩) = some (K4.isWord w.2)) ∧ (atI w.2.cps.toList 0).map (fun c => Txt.isalnum ⟨#[c]⟩) = some (K4.isWord w.2)) → w ∈ l → WdOk w := fun l k m => ⟨(k w m).1.1.1, (k w m).1.1.2, (k w m).1.2, (k w m).2⟩
  rcases h with h | h | h
  · exact go _ (by decide +kernel) h
  · exact go _ (by decide +kernel) h
  · exact go _ (by decide +kernel) h
theorem opt_map {α β : Type} {o : Option α} {f : α → β} {b : β} (h : o.map f = some b) : ∃ a, o = some a ∧ f a = b := by
  cases o with
  | none => cases h
  | some a => exact ⟨a, rfl, Option.some.inj h⟩
def gaps7 : List Str := ["", "", " ", "\n", " ", "  ", " \n"]
theorem gaps7_ok : ∀ x ∈ gaps7, (K4.cd x).all (fun c => c == 32 || c == 10) = true ∧ x.length ≤ 2 ∧ (K4.cd x = [] → x = "") := by decide +kernel
def gaps3 : List Str := ["", " ", "\n"]
theorem gaps3_ok : ∀ x ∈ gaps3, (K4.cd x).all (fun c => c == 32 || c == 10) = true ∧ x.length ≤ 2 := by decide +kernel
theorem gapC_of {x : List Nat} (h : x.all (fun c => c == 32 || c == 10) = true) : K4.gapC x := fun c hc => by
  have := List.all_eq_true.mp h c hc
  simpa using this
theorem flat_snoc (pc : List K4.Piece) (g : List Nat) (w : K4.Wd) : K4.flat (pc ++ [(g, w)]) = K4.flat pc ++ (g ++ K4.cd w.2) := by
  rw [K4.flat_app]
  show _ ++ (g ++ (K4.cd w.2 ++ [])) = _
  rw [List.append_nil]
section
variable {P : Program} {w : World} {K : PySem.W.Frag} {mg : Str → Option Value} {base : Heap}
def spSpread : Sp := fun vs H Q _ => ∃ (b l : Addr) (ws : List K4.Wd) (m : Nat), vs = [.ref b, .ref l] ∧ H l = some (.lst ((ws.map Prod.snd).map V.str)) ∧ l ≠ b ∧ (∀ w ∈ ws, K4.inV w) ∧ ws.length ≤ 4000 ∧ Bx H b (m + ws.length + 1) ∧
  ∀ (pc : List K4.Piece) (t : List Nat) (x : Str) (H' : Hp), pc.map Prod.snd = ws → K4.Gp false pc → K4.gapC t → K4.cd x = K4.flat pc ++ t → x.length ≤ 20 * ws.length + 2 → Bx H' b m → Sm b H H' → Q (.str x) H'
theorem ok_spread (T : Txt K mg w) : Clb P w K mg base CX0 3 "_law_spread" spSpread := by
  have c_q_of := ok_of (P := P) (base := base) T
  refine T.clb (k := 2) (d := d_q_spread) m_q_spread rfl T.g_q_spread rfl rfl sc_q_spread bd_q_spread (fun vs H Q E h => ?_) (fun cdv A outer s H vs Q E hr h => ?_)
  · obtain ⟨b, l, ws, m, rfl, _⟩ := h
    rfl
  · obtain ⟨b, l, ws, m, rfl, atl, lb, hV, l4, hb, k⟩ := h
    refine ⟨_, (pss_cons (ps_asg (pe_tup (pa_cons pe_str (pa_cons pe_str pa_nil))) (pg_tup rfl (pgs_cons (pg_name (i := 2) sc_q_spread.nd rfl (.inl rfl)) (pgs_cons (pg_name (i := 3) sc_q_spread.nd rfl (.inl rfl)) pgs_nil))))
    (pss_cons (ps_for PassesOwn.never rfl (pi_list (pv 1)) (pg_name (i := 4) sc_q_spread.nd rfl (.inl rfl))
    (C8.pss_cut (ps_set (i := 5) sc_q_spread.nd rfl (.inl rfl) (pe_and (pe_cmpR op_ne (pv 3) pe_str (nomark _)) (pe_and (pe_bm0 PySem.F.plainAttrs_str PySem.F.slot_str_isalnum PySem.F.type_str_isalnum mt_isalnum (pe_ix ix_str (pv 3) (pe_un un_neg pe_int) (fun _ _ => rfl))) (pe_one (pe_bm0 PySem.F.plainAttrs_str PySem.F.slot_str_isalnum PySem.F.type_str_isalnum mt_isalnum (pe_ix ix_str (pv 4) pe_int (fun _ _ => rfl)))))))
    (pss_cons (ps_set (i := 6) sc_q_spread.nd rfl (.inl rfl) (pe_cl c_q_of hr (by first | decide | omega) pass0 (by rfl) (pa_cons (pv 0) (pa_cons (pe_lst (pa_cons pe_str (pa_cons pe_str (pa_cons pe_str (pa_cons pe_str (pa_cons pe_str (pa_cons pe_str (pa_cons pe_str pa_nil)))))))) pa_nil))))
    (pss_cons (ps_set (i := 2) sc_q_spread.nd rfl (.inl rfl) (pe_op op_add_str (pe_op op_add_str (pv 2) (pe_ifExp (PW.pt (pw_and (pt_val (pv 5)) (pw_and1 (pt_cmpR op_eq (pv 6) pe_str (nomark _))))) pe_str (pv 6))) (pv 4)))
    (pss_one (ps_set (i := 3) sc_q_spread.nd rfl (.inl rfl) (pv 4)))))))
    (pss_one (ps_ret (pe_op op_add_str (pv 2) (pe_cl c_q_of hr (by first | decide | omega) pass0 (by rfl) (pa_cons (pv 0) (pa_cons (pe_lst (pa_cons pe_str (pa_cons pe_str (pa_cons pe_str pa_nil)))) pa_nil)))))))), ?_⟩
    have s9 := sL
    walk_at "rd"
    refine ⟨sz rfl, fun t0 nt0 => ?_⟩
    refine ⟨t0, _, rfl, st_of upd_same, rfl, _, _, rfl, _, _, rfl, rfl, ?_⟩
    walk_at "rd"
    refine ⟨⟨_, sq_of (at_new atl nt0)⟩, for_list (K := K) (a := l) (xs := (ws.map Prod.snd).map V.str) (fun i σ H1 => ∃ (f last : Str) (y4 y5 y6 : Option V) (pc : List K4.Piece) (kk : Nat), σ = [some (.ref b), some (.ref l), some (.str f), some (.str last), y4, y5, y6] ∧ i + kk = ws.length ∧ pc.map Prod.snd = ws.take i ∧ K4.Gp false pc ∧ K4.cd f = K4.flat pc ∧ f.length ≤ 20 * i ∧ ((last = "" ∧ lastW false pc = false) ∨ ∃ lw, K4.inV lw ∧ last = lw.2 ∧ lastW false pc = K4.isWord lw.2) ∧ Bx H1 b (m + kk + 1) ∧ Sm b H H1) ?_ ?_ ?_ ?_⟩
    · exact ⟨"", "", none, none, none, [], ws.length, rfl, by omega, by simp, True.intro, by decide, by decide, .inl ⟨rfl, rfl⟩, hb.new nt0, Sm.new nt0⟩
    · rintro i σ H1 _ ⟨f, last, y4, y5, y6, pc, kk, rfl, ek, hp, hg, hf, fl, hl, B, S⟩
      exact sq_of (S l _ atl lb)
    · rintro i x σ H1 hx ⟨f, last, y4, y5, y6, pc, kk, rfl, ek, hp, hg, hf, fl, hl, B, S⟩
      rw [List.getElem?_map, List.getElem?_map] at hx
      obtain ⟨w0, hw0, rfl⟩ : ∃ w0, ws[i]? = some w0 ∧ x = .str w0.2 := by
        cases e : ws[i]? with
        | none =>
          rw [e] at hx
          cases hx
        | some y =>
          rw [e] at hx
          exact ⟨y, rfl, (Option.some.inj hx).symm⟩
      have iV := hV w0 (List.mem_of_getElem? hw0)
      have hil : i < ws.length := (List.getElem?_eq_some_iff.mp hw0).1
      have k0 := wd_ok iV
      have l13 := k0.l13
      obtain ⟨kk, rfl⟩ : ∃ k', kk = k' + 1 := ⟨kk - 1, by omega⟩
      walk_at "rd"
      refine ⟨fun σ' H2 => ∃ c : Bool, σ' = [some (.ref b), some (.ref l), some (.str f), some (.str last), some (.str w0.2), some (.bl c), y6] ∧ (lastW false pc = true → K4.isWord w0.2 = true → c = true) ∧ H2 = H1, ?_, ?_⟩
      · walk_at "rd"
        rcases hl with ⟨rfl, e1⟩ | ⟨lw, iL, rfl, e1⟩
        · refine iteBf (by decide) ?_
          walk_at "rd"
          exact ⟨fun z => (by rw [e1] at z; cases z), rfl⟩
        · have kl := wd_ok iL
          have ll := kl.l13
          refine iteBt (by simpa using kl.ne) ?_
          obtain ⟨c1, hc1, hc2⟩ := opt_map kl.z
          obtain ⟨c3, hc3, hc4⟩ := opt_map k0.a
          walk_at "rd"
          refine ⟨lw.2, -1, c1, rfl, rfl, by omega, hc1, ?_⟩
          refine ⟨rfl, ?_⟩
          walk_at "rd"
          refine ⟨rfl, True.intro, ?_⟩
          walk_at "rd"
          rw [hc2]
          cases e2 : K4.isWord lw.2 with
          | false =>
            refine iteBf rfl ?_
            walk_at "rd"
            exact ⟨fun z => (by rw [e1, e2] at z; cases z), rfl⟩
          | true =>
            refine iteBt rfl ?_
            walk_at "rd"
            refine ⟨w0.2, 0, c3, rfl, rfl, by omega, hc3, ?_⟩
            refine ⟨rfl, ?_⟩
            walk_at "rd"
            refine ⟨rfl, True.intro, ?_⟩
            rw [hc4]
            walk_at "rd"
            exact ⟨fun _ z => z, rfl⟩
      rintro σ' H2 ⟨c, rfl, hc, rfl⟩
      walk_at "rd"
      refine ⟨sz rfl, fun L nL => ?_⟩
      have Lb : L ≠ b := fun z => B.there (by rw [← z]; exact nL)
      refine ⟨b, L, gaps7.map V.str, m + kk + 1, rfl, upd_same, Lb, by decide, by decide, (B.mono (by omega)).new nL, fun gi v H3 hgi B3 S3 => ?_⟩
      obtain ⟨g, hg7, rfl⟩ := mem_map_str hgi
      obtain ⟨g1, g2, g3⟩ := gaps7_ok g hg7
      have S3' := S.trans ((Sm.new nL).trans S3)
      have fin : ∀ g' : Str, (K4.cd g').all (fun c => c == 32 || c == 10) = true → g'.length ≤ 2 → (K4.cd g' = [] → c = false) →
          ∃ (f' last' : Str) (z4 z5 z6 : Option V) (pc' : List K4.Piece) (kk' : Nat), [some (V.ref b), some (.ref l), some (.str (f ++ g' ++ w0.2)), some (.str w0.2), some (.str w0.2), some (.bl c), some (.str g)] = [some (.ref b), some (.ref l), some (.str f'), some (.str last'), z4, z5, z6] ∧ i + 1 + kk' = ws.length ∧ pc'.map Prod.snd = ws.take (i + 1) ∧ K4.Gp false pc' ∧ K4.cd f' = K4.flat pc' ∧ f'.length ≤ 20 * (i + 1) ∧ ((last' = "" ∧ lastW false pc' = false) ∨ ∃ lw, K4.inV lw ∧ last' = lw.2 ∧ lastW false pc' = K4.isWord lw.2) ∧ Bx H3 b (m + kk' + 1) ∧ Sm b H H3 := by
        intro g' h1 h2 h3
        refine ⟨_, _, _, _, _, pc ++ [(K4.cd g', w0)], kk, rfl, by omega, ?_, ?_, ?_, ?_, .inr ⟨w0, iV, rfl, lastW_snoc _ _ _ _⟩, B3, S3'⟩
        · rw [List.map_append, hp, List.take_add_one, hw0]
          rfl
        · refine gp_snoc pc false _ w0 hg (gapC_of h1) fun z1 z2 => ?_
          cases e : K4.isWord w0.2 with
          | false => rfl
          | true =>
            have := hc z2 e
            rw [h3 z1] at this
            cases this
        · rw [flat_snoc, K4.cd_app, K4.cd_app, hf, List.append_assoc]
        · rw [sl_app, sl_app]
          omega
      walk_at "rd"
      have pick : ∀ g' : Str, (K4.cd g').all (fun c => c == 32 || c == 10) = true → g'.length ≤ 2 → f.length + g'.length ≤ sizeLine ∧ (f ++ g').length + w0.2.length ≤ sizeLine := fun g' h1 h2 => by
        rw [sl_app]
        omega
      cases c with
      | false =>
        walk_at "tg"
        refine ⟨(pick g g1 g2).1, ?_⟩
        walk_at "rd"
        refine ⟨(pick g g1 g2).2, ?_⟩
        walk_at "rd"
        exact fin g g1 g2 fun _ => rfl
      | true =>
        walk_at "tg"
        by_cases e : g = ""
        · subst e
          walk_at "tg"
          refine ⟨(pick " " (by decide) (by decide)).1, ?_⟩
          walk_at "rd"
          refine ⟨(pick " " (by decide) (by decide)).2, ?_⟩
          walk_at "rd"
          exact fin " " (by decide) (by decide) fun z => absurd z (by decide)
        · refine iteBf (by simp [e]) ?_
          walk_at "rd"
          refine ⟨(pick g g1 g2).1, ?_⟩
          walk_at "rd"
          refine ⟨(pick g g1 g2).2, ?_⟩
          walk_at "rd"
          exact fin g g1 g2 fun z => absurd (g3 z) e
    · rintro σ H1 ⟨f, last, y4, y5, y6, pc, kk, rfl, ek, hp, hg, hf, fl, hl, B, S⟩
      rw [List.length_map, List.length_map] at hp fl ek
      rw [List.take_length] at hp
      walk_at "rd"
      refine ⟨sz rfl, fun L nL => ?_⟩
      have Lb : L ≠ b := fun z => B.there (by rw [← z]; exact nL)
      refine ⟨b, L, gaps3.map V.str, m, rfl, upd_same, Lb, by decide, by decide, (B.mono (by omega)).new nL, fun gi v H3 hgi B3 S3 => ?_⟩
      obtain ⟨g, hg7, rfl⟩ := mem_map_str hgi
      obtain ⟨g1, g2⟩ := gaps3_ok g hg7
      walk_at "rd"
      refine ⟨by omega, ?_⟩
      exact k pc (K4.cd g) _ H3 hp hg (gapC_of g1) (by rw [K4.cd_app, hf]) (by rw [sl_app]; omega) B3 (S.trans ((Sm.new nL).trans S3))
end
end W4
set_option Elab.async false
set_option linter.all false
set_option maxRecDepth 100000
set_option maxHeartbeats 4000000
set_option pp.maxSteps 400
namespace W4
open PySem PySem.Spec PyProof.Rows L2
local macro_rules | `(tactic| walk_at "rd") => `(tactic| repeat (first | refine ⟨_, rfl, ?_⟩ | refine ⟨_, _, rfl, rfl, ?_⟩ | refine ⟨rfl, _, rfl, ?_⟩))
local macro_rules | `(tactic| walk_at "tg") => `(tactic| repeat (first | refine iteBt (by decide +kernel) ?_ | refine iteBf (by decide +kernel) ?_ | refine ⟨_, rfl, ?_⟩ | refine ⟨_, _, rfl, rfl, ?_⟩ | refine ⟨rfl, _, rfl, ?_⟩))
abbrev N_q_partner : List Str := ["_law_page", "_law_at", "_law_depth", "_law_k"]
abbrev P_q_partner : List Str := ["_law_page", "_law_at"]
theorem sc_q_partner : FnScope N_q_partner P_q_partner (defScope s_q_partner) := ⟨rfl, rfl, rfl, by decide +kernel, rfl, by decide +kernel, by decide +kernel⟩
theorem bd_q_partner (kV doc pm : Value) (an : Option Addr) (cdv ct : Value) (us : List Value) (hl : us.length = P_q_partner.length) : bindArgs (PySem.W.fnOf d_q_partner.name d_q_partner.qual d_q_partner.params d_q_partner.body d_q_partner.scope .none kV doc pm an cdv ct) ⟨us, []⟩ = pure (P_q_partner.zip us) := match us, hl with | [_, _], _ => rfl
abbrev N_q_same : List Str := ["_law_found", "_law_due"]
abbrev P_q_same : List Str := ["_law_found", "_law_due"]
theorem sc_q_same : FnScope N_q_same P_q_same (defScope s_q_same) := ⟨rfl, rfl, rfl, by decide +kernel, rfl, by decide +kernel, by decide +kernel⟩
theorem bd_q_same (kV doc pm : Value) (an : Option Addr) (cdv ct : Value) (us : List Value) (hl : us.length = P_q_same.length) : bindArgs (PySem.W.fnOf d_q_same.name d_q_same.qual d_q_same.params d_q_same.body d_q_same.scope .none kV doc pm an cdv ct) ⟨us, []⟩ = pure (P_q_same.zip us) := match us, hl with | [_, _], _ => rfl
abbrev N_q_heard : List Str := ["_law_page", "_law_caught", "error", "_law_fine"]
abbrev P_q_heard : List Str := ["_law_page"]
theorem sc_q_heard : FnScope N_q_heard P_q_heard (defScope s_q_heard) := ⟨rfl, rfl, rfl, by decide +kernel, rfl, by decide +kernel, by decide +kernel⟩
theorem bd_q_heard (kV doc pm : Value) (an : Option Addr) (cdv ct : Value) (us : List Value) (hl : us.length = P_q_heard.length) : bindArgs (PySem.W.fnOf d_q_heard.name d_q_heard.qual d_q_heard.params d_q_heard.body d_q_heard.scope .none kV doc pm an cdv ct) ⟨us, []⟩ = pure (P_q_heard.zip us) := match us, hl with | [_], _ => rfl
section
variable {P : Program} {w : World} {K : PySem.W.Frag} {mg : Str → Option Value} {base : Heap}
def spPartner : Sp := fun vs H Q _ => ∃ (x : Str) (at_ : Nat), vs = [.str x, .int (at_ : Nat)] ∧ (K4.cd x)[at_]? = some 40 ∧ x.length ≤ 2 ^ 20 ∧ ∀ r : Nat, (r = at_ ∨ (at_ < r ∧ (K4.cd x)[r]? = some 41)) → Q (.int (r : Nat)) H
theorem str_is (c : Nat) (s : Str) (d : Nat) (h : s = ⟨#[d]⟩) : decide (V.str ⟨#[c]⟩ = V.str s) = decide (c = d) := by
  subst h
  rw [Bool.eq_iff_iff]
  simp
theorem ok_partner (T : Txt K mg w) : Clb P w K mg base CX0 1 "_law_partner" spPartner := by
  refine T.clb (d := d_q_partner) m_q_partner rfl T.g_q_partner rfl rfl sc_q_partner bd_q_partner (fun vs H Q E h => ?_) (fun cdv A outer s H vs Q E hr h => ?_)
  · obtain ⟨x, at_, rfl, _⟩ := h
    rfl
  · obtain ⟨x, at_, rfl, h40, xl, k⟩ := h
    refine ⟨_, (pss_cons (ps_set (i := 2) sc_q_partner.nd rfl (.inl rfl) pe_int)
    (pss_cons (ps_for PassesOwn.never rfl (pi_range2 (by rfl) T.f_range (pa_cons (pv 1) (pa_cons (pe_callB call_len (by rfl) T.f_len (by decide +kernel) (pa_cons (pv 0) pa_nil)) pa_nil))) (pg_name (i := 3) sc_q_partner.nd rfl (.inl rfl))
    (pss_cons (ps_set (i := 2) sc_q_partner.nd rfl (.inl rfl) (pe_op op_sub (pe_op op_add (pv 2) (pe_callTy call_int1 (by rfl) T.f_int (by decide +kernel) (pa_cons (pe_cmpR op_eq (pe_ix ix_str (pv 0) (pv 3) (fun _ _ => rfl)) pe_str (nomark _)) pa_nil))) (pe_callTy call_int1 (by rfl) T.f_int (by decide +kernel) (pa_cons (pe_cmpR op_eq (pe_ix ix_str (pv 0) (pv 3) (fun _ _ => rfl)) pe_str (nomark _)) pa_nil))))
    (pss_one (ps_if (pt_cmpR op_eq (pv 2) pe_int (nomark _))
    (pss_one (ps_ret (pv 3)))
    pss_nil))))
    (pss_one (ps_ret (pv 1))))), ?_⟩
    have s9 := sL
    have cl : (K4.cd x).length = x.length := K4.cd_len x
    have al : at_ < x.length := by rw [← cl]; exact (List.getElem?_eq_some_iff.mp h40).1
    walk_at "rd"
    refine ⟨_, x.length, rfl, ⟨by omega, rfl⟩, ?_⟩
    walk_at "rd"
    refine ⟨_, _, rfl, ⟨by omega, by omega, by omega, by omega⟩, for_range (lo := (at_ : Int)) (n := ((x.length : Int) - at_).toNat) (fun i σ H1 => ∃ (D : Int) (y3 : Option V), σ = [some (.str x), some (.int at_), some (.int D), y3] ∧ H1 = H ∧ ((i = 0 ∧ D = 0) ∨ (0 < i ∧ 1 ≤ D))) ?_ ?_ ?_⟩
    · exact ⟨0, none, rfl, rfl, .inl ⟨rfl, rfl⟩⟩
    · rintro i σ H1 hi ⟨D, y3, rfl, rfl, hD⟩
      have ki : at_ + i < x.length := by omega
      obtain ⟨c, hc⟩ : ∃ c, (K4.cd x)[at_ + i]? = some c := ⟨_, List.getElem?_eq_getElem (by omega)⟩
      have hc' : atI x.cps.toList ((at_ : Int) + i) = some c := by
        rw [show (at_ : Int) + (i : Int) = ((at_ + i : Nat) : Int) by omega]
        exact atI_nat hc
      have d1 := str_is c "(" 40 rfl
      have d2 := str_is c ")" 41 rfl
      walk_at "rd"
      refine ⟨x, _, c, rfl, rfl, by omega, hc', ?_⟩
      refine ⟨rfl, ?_⟩
      rw [d1]
      refine .inr ⟨_, rfl, ?_⟩
      walk_at "rd"
      refine ⟨x, _, c, rfl, rfl, by omega, hc', ?_⟩
      refine ⟨rfl, ?_⟩
      rw [d2]
      refine .inr ⟨_, rfl, ?_⟩
      walk_at "rd"
      have h40' : i = 0 → c = 40 := fun z => by
        subst z
        rw [Nat.add_zero, h40] at hc
        exact (Option.some.inj hc).symm
      refine ite2 (fun z => ?_) (fun z => ?_)
      · walk_at "rd"
        rw [show (at_ : Int) + (i : Int) = ((at_ + i : Nat) : Int) by omega]
        refine k (at_ + i) ?_
        have z' := V.int.inj (of_decide_eq_true z)
        rcases hD with ⟨rfl, rfl⟩ | ⟨i0, hD⟩
        · exact .inl rfl
        · refine .inr ⟨by omega, ?_⟩
          by_cases c1 : c = 41
          · rw [hc, c1]
          · exfalso
            rw [show decide (c = 41) = false by simp [c1]] at z'
            have : (0 : Int) ≤ (if decide (c = 40) = true then 1 else 0) := by split <;> omega
            simp only [Bool.false_eq_true, if_false] at z'
            omega
      · refine ⟨_, _, rfl, rfl, .inr ⟨by omega, ?_⟩⟩
        have z' : ¬ (D + (if decide (c = 40) = true then 1 else 0) - (if decide (c = 41) = true then 1 else 0) = 0) := fun q => z (decide_eq_true (congrArg V.int q))
        rcases hD with ⟨rfl, rfl⟩ | ⟨i0, hD⟩
        · rw [h40' rfl]
          decide
        · by_cases c1 : c = 41
          · subst c1
            simp only [show decide ((41 : Nat) = 40) = false by decide, show decide ((41 : Nat) = 41) = true by decide, Bool.false_eq_true, if_false, if_true] at z' ⊢
            omega
          · rw [show decide (c = 41) = false by simp [c1]]
            have : (0 : Int) ≤ (if decide (c = 40) = true then 1 else 0) := by split <;> omega
            simp only [Bool.false_eq_true, if_false]
            omega
    · rintro σ H1 ⟨D, y3, rfl, rfl, hD⟩
      walk_at "rd"
      exact k at_ (.inl rfl)
/-- both show alike: equal data -/
def spSame (K : PySem.W.Frag) : Sp := fun vs H Q _ => ∃ (a b : Addr) (d : PyData), vs = [.ref a, .ref b] ∧ Dp K H (.ref a) d ∧ Dp K H (.ref b) d ∧ d.showable = true ∧ d.hasDict = false ∧ d.depth + 1 ≤ 400 ∧ d.shown.length ≤ sizeLine ∧ Q (.bl true) H
theorem ok_same (T : Txt K mg w) : ClbG P w K mg base CX0 15 "_law_same" (spSame K) := by
  refine T.clbG (k := 14) (d := d_q_same) m_q_same rfl T.g_q_same rfl rfl sc_q_same bd_q_same (fun vs H Q E h => ?_) (fun cdv A outer s H vs Q E gd hr h => ?_)
  · obtain ⟨a, b, d, rfl, _⟩ := h
    rfl
  · obtain ⟨a, b, d, rfl, ha, hb, h1, h2, h3, h4, k⟩ := h
    have hu : (A.deeper (envOfC d_q_same.qual d_q_same.scope s.heap.objs.size (He.fAd K d_q_same.at_) cdv)).units + 410 < cLine := by
      have := hr.un
      omega
    refine ⟨_, (pss_one (ps_ret (pe_cmpR op_eq (pe_callB (call_reprG gd hu) (by rfl) T.f_repr (by decide +kernel) (pa_cons (pv 0) pa_nil)) (pe_callB (call_reprG gd hu) (by rfl) T.f_repr (by decide +kernel) (pa_cons (pv 1) pa_nil)) (nomark _)))), ?_⟩
    walk_at "rd"
    refine ⟨a, d, rfl, ha, h1, h2, h3, h4, ?_⟩
    walk_at "rd"
    refine ⟨b, d, rfl, hb, h1, h2, h3, h4, ?_⟩
    refine ⟨rfl, ?_⟩
    rw [show decide (V.str d.shown = V.str d.shown) = true by simp]
    exact k
/-- a read of a text that is read -/
theorem ok_readN (T : Txt K mg w) (n : Nat) : Clb P w K mg base CX0 (7 + n + 1) "read" (fun vs H Q _ => spRead n K vs H Q E0) := by
  obtain ⟨f, fd, ps, F, r⟩ := (ok_read (P := P) (base := base) T n).ex
  refine ⟨f, fd, ps, ⟨fun vs H Q E h => F.len vs H Q E0 h, fun A outer s H args us vs Q E hr he hb hv hs => ?_⟩, r⟩
  refine codeAny_mono (F.run A outer s H args us vs Q E0 hr he hb hv hs) fun r s2 hq => ?_
  match r, hq with
  | .error er, hq =>
    obtain ⟨a, B, H', cls, d, h1, h2, h3, h4, h5, h6, h7, h8⟩ := hq
    exact h8.elim
  | .ok (.ret u), hq => exact hq
def spHeard (n : Nat) : Sp := fun vs H Q _ => ∃ x : Str, vs = [.str x] ∧ x.length ≤ 2 ^ 20 ∧ match K4.pRead n (K4.toks (K4.cd x)) with
  | .out => False
  | .err i => ∀ H', Same H H' → Q (.int (i : Nat)) H'
  | .ok _ _ => ∀ H', Same H H' → Q .non H'
theorem ok_heard (T : Txt K mg w) (n : Nat) : Clb P w K mg base CX0 (7 + n + 1 + 1) "_law_heard" (spHeard n) := by
  have c_read := ok_read (P := P) (base := base) T n
  refine T.clb (k := 7 + n + 1) (d := d_q_heard) m_q_heard rfl T.g_q_heard rfl rfl sc_q_heard bd_q_heard (fun vs H Q E h => ?_) (fun cdv A outer s H vs Q E hr h => ?_)
  · obtain ⟨x, rfl, _⟩ := h
    rfl
  · obtain ⟨x, rfl, xl, k⟩ := h
    refine ⟨_, (pss_cons (ps_set (i := 1) sc_q_heard.nd rfl (.inl rfl) pe_non)
    (pss_cons (ps_try_keep (i := 2) rfl rfl rfl sc_q_heard.nd rfl rfl ⟨by rfl, by decide, T.g_BadLine⟩ ⟨by rfl, by decide, T.g_BadText⟩ ⟨by rfl, by decide, T.g_Unsound⟩ T.hit (fun W pn xe tk _ => (pss_one (ps_expr (pe_clS c_read hr (by first | decide | omega) (passAt tk) (by rfl) (pa_cons (pv 0) pa_nil))))) (fun a oe cls d pn _ _ => (pss_one (ps_set (i := 1) sc_q_heard.nd rfl (.inl rfl) (pv 2)))))
    (pss_cons (ps_if (pt_cmpR op_isN (pv 1) pe_non (nomark _))
    (pss_one (ps_ret pe_non))
    pss_nil)
    (pss_cons (ps_set (i := 3) sc_q_heard.nd rfl (.inl rfl) (pe_and (pe_callB call_kep (by rfl) T.f_isinstance (by decide +kernel) (pa_cons (pv 1) (pa_cons (C8.pe_gc (by rfl) T.v_BadText) pa_nil))) (pe_one (pe_callB call_kep (by rfl) T.f_isinstance (by decide +kernel) (pa_cons (pv 1) (pa_cons (pe_bltn (v := .ty "ValueError") (by rfl) T.f_ValueError (by decide +kernel) rfl) pa_nil))))))
    (pss_one (ps_ret (pe_ifExp (PW.pt (pw_or (pt_not (pt_val (pv 3))) (pw_or1 (pt_val (pe_callB call_kepT (by rfl) T.f_isinstance (by decide +kernel) (pa_cons (pv 1) (pa_cons (pe_tup (pa_cons (C8.pe_gc (by rfl) T.v_BadLine) (pa_cons (C8.pe_gc (by rfl) T.v_Unsound) pa_nil))) pa_nil))))))) pe_str (pe_kepF (pv 1))))))))), ?_⟩
    walk_at "rd"
    refine ⟨xl, ?_⟩
    revert k
    cases K4.pRead n (K4.toks (K4.cd x)) with
    | out => exact fun k => k.elim
    | ok p ts =>
      intro k v H' hv S
      walk_at "tg"
      exact k H' S
    | err i =>
      intro k dd H' hd S
      refine ⟨rfl, fun a na => ?_⟩
      walk_at "rd"
      have kp : ∀ H6, Same (upd H' a (kep a (.ref (He.ga K "BadText")) (some dd))) H6 → Kept K H6 a (He.ga K "BadText") dd [("at", .int (i : Nat))] := fun H6 S6 =>
        ⟨S6 a _ upd_same, S6 dd _ (at_new hd na), T.mor.kep⟩
      have S' := S.trans (same_new (o := kep a (.ref (He.ga K "BadText")) (some dd)) na)
      walk_at "rd"
      refine ⟨a, _, dd, _, _, _, true, rfl, kp _ (Same.refl _), .own _, T.mor.is1, ?_⟩
      refine ⟨_, rfl, ?_⟩
      refine iteBt rfl ?_
      walk_at "rd"
      refine ⟨a, _, dd, _, _, _, true, rfl, kp _ (Same.refl _), .ty _, T.mor.is2, ?_⟩
      walk_at "rd"
      refine ⟨sz rfl, fun tp ntp => ?_⟩
      have St := same_new (o := .tup [.ref (He.ga K "BadLine"), .ref (He.ga K "Unsound")]) ntp
      refine ⟨a, _, dd, tp, _, _, _, false, rfl, kp _ St, upd_same, .cons (.own _) (.cons (.own _) .nil), T.mor.is3, ?_⟩
      refine ⟨_, rfl, ?_⟩
      refine iteBf rfl ?_
      walk_at "rd"
      exact ⟨a, _, dd, _, _, rfl, kp _ St, T.noAt, rfl, k _ (S'.trans St)⟩
end
end W4
set_option Elab.async false
set_option linter.all false
set_option maxRecDepth 100000
set_option maxHeartbeats 4000000
namespace W4
open PySem PySem.Spec PyProof.Rows L2
/-- behind a store into a namespace a token is out -/
theorem set_tok {M : Model} {Γ : PySem.Ctx} {a : Addr} {x : Str} {u : Value} {Q : Unit → Pos → Shared → Prop} {E : Value → Pos → Shared → Prop} {p : Pos} {s : Shared} (h : Sem.wp M Γ (nsSet a x u) Q E p s) :
    Sem.wp M Γ (nsSet a x u) (fun z p' s' => 1 ≤ s'.toks ∧ Q z p' s') (fun z p' s' => 1 ≤ s'.toks ∧ E z p' s') p s := by
  simp only [nsSet, strHash, Sem.wp_bind', Sem.wp_cmd_ask, Sem.wp_pure', Sem.wp_cmd_mkText] at h ⊢
  have := Sem.wp_toks M Γ 1 _ _ _ _ _ (Nat.le_add_left 1 s.toks) h
  exact Sem.wp_mono M Γ _ (fun x pos' sh' q => Sem.wp_toks M Γ 1 _ Q E pos' sh' q.1 q.2) (fun _ _ _ q => q) _ _ this
section
variable {X : Cx} {rest : List Stmt} {t u : TS}
/-- a value is stored under a local name: behind it a token is out -/
theorem pss_setT {i : Nat} {x : Str} {e : Expr} {te : TE} {p1 pos : Pos} (nd : X.N.Nodup) (hi : X.N[i]? = some x) (hx : X.env.kindOf x = some .local) (he : PE X e te) (h2 : PSsT X rest u) (hs : swapsWith e (some (.Name x p1)) pos.line X.env = pure false := by rfl)
    (hf : X.fn x = true ∨ X.env.scope.names.lookup x = some .local := by first | exact .inl rfl | exact .inr rfl) : PSs X (.Assign [.Name x p1] e pos :: rest) (tSeq (tAsg te (gName i)) u) := by
  refine ⟨fun pins s σ H D I h => ?_⟩
  refine wpAny_execs_cons (wpAny_Assign_Name (thn (he.run pins s σ H _ I h) fun v s1 hh => ?_) hs)
  obtain ⟨y, H1, I1, r1, q⟩ := hh
  have hcls : (X.env.scope.kind == .class || (X.env.scope.kind == .module && X.env.locals != X.env.globals)) = false := by rw [I1.ok.kind]; rfl
  have st : wpAny (model X.prog X.w) X.A (storeName X.env x v) (fun _ s2 => Inv X pins (σ.set i (some y)) H1 s2) X.xe s1 := store_ok I1 nd hi (.inl hx) r1 (fun _ I2 => I2) hf
  rw [PySem.storeName_local hx hcls] at st ⊢
  have st2 : wpAny (model X.prog X.w) X.A (nsSet X.env.locals x v) (fun _ s2 => 1 ≤ s2.toks ∧ Inv X pins (σ.set i (some y)) H1 s2) (fun e s2 => 1 ≤ s2.toks ∧ X.xe e s2) s1 := fun Γ p hΓ => set_tok (st Γ p hΓ)
  exact wpAny_mono st2 (fun _ s2 z => h2 pins s2 _ H1 D z.1 z.2 q) fun _ _ z => z.2
end
end W4
set_option Elab.async false
set_option linter.all false
set_option maxRecDepth 100000
set_option maxHeartbeats 4000000
namespace W4
open PySem PySem.Spec PyProof.Rows L2
/-! ### how much is written of a drawn program -/
theorem okn_len {x : Str} (h : x ∈ K4.okN) : x.length ≤ 3 := (show ∀ x ∈ K4.okN, x.length ≤ 3 by decide) x h
theorem sg_len {x : Str} (h : x ∈ K4.signs) : x.length ≤ 3 := (show ∀ x ∈ K4.signs, x.length ≤ 3 by decide) x h
theorem num_len {n : Nat} (h : n ∈ K4.okI) : (K4.numS n).length ≤ 13 := (show ∀ n ∈ K4.okI, (K4.numS n).length ≤ 13 by decide +kernel) n h
/-- a join of at most two -/
theorem join2 {l : List Str} {n : Nat} (h : ∀ t ∈ l, t.length ≤ n) (k : l.length ≤ 2) : (Str.join ", " l).length ≤ 2 * n + 2 := by
  have ln : (", " : Str).length = 2 := by decide
  match l, h, k with
  | [], _, _ => exact Nat.zero_le _
  | [a], h, _ =>
    have := h a (by simp)
    show a.length ≤ _
    omega
  | [a, b], h, _ =>
    have h1 := h a (by simp)
    have h2 := h b (by simp)
    show (a ++ ", " ++ b).length ≤ _
    rw [sl_app, sl_app]
    omega
  | _ :: _ :: _ :: _, _, k => simp at k
def lE : Nat → Nat
  | 0 => 15
  | d + 1 => 2 * lE d + 20
theorem lE_pos (d : Nat) : 15 ≤ lE d := by
  cases d with
  | zero => exact Nat.le_refl _
  | succ d =>
    show 15 ≤ 2 * lE d + 20
    omega
theorem opd_le (e : K4.Ex) (k : Nat) {n : Nat} (h : (K4.exT e).length ≤ n) : (K4.opdT e k).length ≤ n + 2 := by
  unfold K4.opdT
  split
  · rw [sl_app, sl_app]
    have l1 : ("(" : Str).length = 1 := by decide
    have l2 : (")" : Str).length = 1 := by decide
    omega
  · omega
mutual
theorem len_e : ∀ (e : K4.Ex) (d : Nat), K4.tE e d → (K4.exT e).length ≤ lE d
  | .int n, d, h => Nat.le_trans (num_len h) (Nat.le_trans (by decide) (lE_pos d))
  | .non, d, h => Nat.le_trans (show ("none" : Str).length ≤ 13 by decide) (Nat.le_trans (by decide) (lE_pos d))
  | .var x, d, h => Nat.le_trans (okn_len h) (Nat.le_trans (by decide) (lE_pos d))
  | .recv x, d, h => by
    have h1 := okn_len (show x ∈ K4.okN from h)
    have l8 : ("receive " : Str).length = 8 := by decide
    show ("receive " ++ x).length ≤ _
    rw [sl_app]
    have := lE_pos d
    omega
  | .call f as, d, h => by
    obtain ⟨h1, h2, h3, h4⟩ := (show _ ∧ _ ∧ _ ∧ _ from h)
    obtain ⟨d, rfl⟩ : ∃ d', d = d' + 1 := ⟨d - 1, by omega⟩
    have j := join2 (len_es as d h4) (by rw [exsT_len]; omega)
    have l1 : ("(" : Str).length = 1 := by decide
    have l2 : (")" : Str).length = 1 := by decide
    have k1 := okn_len h1
    show (f ++ ("(" ++ Str.join ", " (K4.exsT as) ++ ")")).length ≤ 2 * lE d + 20
    rw [sl_app, sl_app, sl_app]
    omega
  | .new fs, d, h => by
    obtain ⟨h2, h3, h4⟩ := (show _ ∧ _ ∧ _ from h)
    obtain ⟨d, rfl⟩ : ∃ d', d = d' + 1 := ⟨d - 1, by omega⟩
    have j := join2 (len_fs fs d h4) (by rw [fsT_len]; omega)
    have l1 : ("new(" : Str).length = 4 := by decide
    have l2 : (")" : Str).length = 1 := by decide
    show ("new(" ++ Str.join ", " (K4.fsT fs) ++ ")" : Str).length ≤ 2 * lE d + 20
    rw [sl_app, sl_app]
    omega
  | .get e f, d, h => by
    obtain ⟨h2, h3, h4⟩ := (show _ ∧ _ ∧ _ from h)
    obtain ⟨d, rfl⟩ : ∃ d', d = d' + 1 := ⟨d - 1, by omega⟩
    have k := opd_le e 6 (len_e e d h3)
    have l1 : ("." : Str).length = 1 := by decide
    have k1 := okn_len h4
    show (K4.opdT e 6 ++ "." ++ f).length ≤ 2 * lE d + 20
    rw [sl_app, sl_app]
    omega
  | .neg e, d, h => by
    obtain ⟨h2, h3⟩ := (show _ ∧ _ from h)
    obtain ⟨d, rfl⟩ : ∃ d', d = d' + 1 := ⟨d - 1, by omega⟩
    have k := opd_le e 5 (len_e e d h3)
    have l1 : ("-" : Str).length = 1 := by decide
    show ("-" ++ K4.opdT e 5).length ≤ 2 * lE d + 20
    rw [sl_app]
    omega
  | .not e, d, h => by
    obtain ⟨h2, h3⟩ := (show _ ∧ _ from h)
    obtain ⟨d, rfl⟩ : ∃ d', d = d' + 1 := ⟨d - 1, by omega⟩
    have k := opd_le e 5 (len_e e d h3)
    have l1 : ("not " : Str).length = 4 := by decide
    show ("not " ++ K4.opdT e 5).length ≤ 2 * lE d + 20
    rw [sl_app]
    omega
  | .op s l r, d, h => by
    obtain ⟨h1, h2, h3, h4⟩ := (show _ ∧ _ ∧ _ ∧ _ from h)
    obtain ⟨d, rfl⟩ : ∃ d', d = d' + 1 := ⟨d - 1, by omega⟩
    have k := opd_le l (K4.lft (K4.tightOf s)) (len_e l d h3)
    have k2 := opd_le r (K4.tightOf s + 1) (len_e r d h4)
    have l1 : (" " : Str).length = 1 := by decide
    have k1 := sg_len h2
    show (K4.opdT l (K4.lft (K4.tightOf s)) ++ " " ++ s ++ " " ++ K4.opdT r (K4.tightOf s + 1)).length ≤ 2 * lE d + 20
    rw [sl_app, sl_app, sl_app, sl_app]
    omega
theorem len_es : ∀ (as : List K4.Ex) (d : Nat), K4.tEs as d → ∀ t ∈ K4.exsT as, t.length ≤ lE d
  | [], _, _ => fun t ht => nomatch ht
  | e :: r, d, h => fun t ht => by
    rcases List.mem_cons.mp ht with rfl | ht
    · exact len_e e d h.1
    · exact len_es r d h.2 t ht
theorem len_fs : ∀ (as : List (Str × K4.Ex)) (d : Nat), K4.tEf as d → ∀ t ∈ K4.fsT as, t.length ≤ lE d + 5
  | [], _, _ => fun t ht => nomatch ht
  | (y, e) :: r, d, h => fun t ht => by
    rcases List.mem_cons.mp ht with rfl | ht
    · have k := len_e e d h.2.1
      have k1 := okn_len h.1
      have l1 : (": " : Str).length = 2 := by decide
      rw [sl_app, sl_app]
      omega
    · exact len_fs r d h.2.2 t ht
end
theorem lE2 {d : Nat} (h : d ≤ 2) : lE d ≤ 120 := (show ∀ d, d ≤ 2 → lE d ≤ 120 by decide) d h
theorem len_p {dp : Nat} (h2 : dp ≤ 2) (h1 : 1 ≤ dp) : ∀ (s : K4.St) (i : Nat), K4.tS s i dp → (K4.hdT s).length ≤ 260
  | .lt x e, i, h => by
    have h := (show K4.tP dp _ from h)
    have k := len_e e dp h.2
    have := lE2 h2
    have k1 := okn_len h.1
    have l1 : ("let " : Str).length = 4 := by decide
    have l2 : (" = " : Str).length = 3 := by decide
    show ("let " ++ x ++ " = " ++ K4.exT e).length ≤ _
    rw [sl_app, sl_app, sl_app]
    omega
  | .st x e, i, h => by
    have h := (show K4.tP dp _ from h)
    have k := len_e e dp h.2
    have := lE2 h2
    have k1 := okn_len h.1
    have l2 : (" = " : Str).length = 3 := by decide
    show (x ++ " = " ++ K4.exT e).length ≤ _
    rw [sl_app, sl_app]
    omega
  | .put r f e, i, h => by
    obtain ⟨⟨x0, path, hx0, pl, hp, er⟩, hf, he⟩ := (show K4.tP dp _ from h)
    have tr : K4.tE r 2 := by
      rw [er]
      exact K4.tE_up _ _ _ (by omega) (K4.chain_tE path (.var x0) 0 hx0 hp)
    have k := len_e e dp he
    have k2 := opd_le r 6 (len_e r 2 tr)
    have := lE2 h2
    have := lE2 (Nat.le_refl 2)
    have k1 := okn_len hf
    have l1 : ("." : Str).length = 1 := by decide
    have l2 : (" = " : Str).length = 3 := by decide
    show (K4.opdT r 6 ++ "." ++ f ++ " = " ++ K4.exT e).length ≤ _
    rw [sl_app, sl_app, sl_app, sl_app]
    omega
  | .act f as, i, h => by
    have h := (show K4.tP dp _ from h)
    have k := len_e (.call f as) dp ⟨h.1, by omega, h.2.1, h.2.2⟩
    have := lE2 h2
    show (K4.exT (.call f as)).length ≤ _
    omega
  | .iff c a b, i, h => by
    obtain ⟨k1, k2, _⟩ := (show _ ∧ _ ∧ _ from h)
    have k := len_e c dp k2
    have := lE2 h2
    have l1 : ("if" : Str).length = 2 := by decide
    have l2 : (" " : Str).length = 1 := by decide
    show (("if" : Str) ++ " " ++ K4.exT c).length ≤ _
    rw [sl_app, sl_app]
    omega
  | .wh c a, i, h => by
    obtain ⟨k1, k2, _⟩ := (show _ ∧ _ ∧ _ from h)
    have k := len_e c dp k2
    have := lE2 h2
    have l1 : ("while" : Str).length = 5 := by decide
    have l2 : (" " : Str).length = 1 := by decide
    show (("while" : Str) ++ " " ++ K4.exT c).length ≤ _
    rw [sl_app, sl_app]
    omega
  | .ret e, i, h => by
    have k := len_e e dp (show K4.tP dp _ from h)
    have := lE2 h2
    have l1 : ("return" : Str).length = 6 := by decide
    have l2 : (" " : Str).length = 1 := by decide
    show (("return" : Str) ++ " " ++ K4.exT e).length ≤ _
    rw [sl_app, sl_app]
    omega
  | .thr e, i, h => by
    have k := len_e e dp (show K4.tP dp _ from h)
    have := lE2 h2
    have l1 : ("throw" : Str).length = 5 := by decide
    have l2 : (" " : Str).length = 1 := by decide
    show (("throw" : Str) ++ " " ++ K4.exT e).length ≤ _
    rw [sl_app, sl_app]
    omega
  | .send p e, i, h => by
    have h := (show K4.tP dp _ from h)
    have k := len_e e dp h.2
    have := lE2 h2
    have k1 := okn_len h.1
    have l1 : ("send " : Str).length = 5 := by decide
    have l2 : (" " : Str).length = 1 := by decide
    show ("send " ++ p ++ " " ++ K4.exT e).length ≤ _
    rw [sl_app, sl_app, sl_app]
    omega
  | .spawn f as, i, h => by
    have h := (show K4.tP dp _ from h)
    have k := len_e (.call f as) dp ⟨h.1, by omega, h.2.1, h.2.2⟩
    have := lE2 h2
    have l1 : ("spawn " : Str).length = 6 := by decide
    have k' : (f ++ K4.argsT as).length ≤ lE dp := k
    rw [sl_app] at k'
    show ("spawn " ++ f ++ K4.argsT as).length ≤ _
    rw [sl_app, sl_app]
    omega
  | .tri _ _ _, _, _ => by
    show ("try" : Str).length ≤ 260
    exact Nat.le_trans (show ("try" : Str).length ≤ 3 by decide) (by omega)
  | .here _ _, _, _ => by
    show Str.empty.length ≤ 260
    exact Nat.zero_le _
/-- lines of a statement, behind its first -/
def tI : Nat → Nat
  | 0 => 0
  | i + 1 => 2 * (tI i + 300) + 60
theorem lab_le {dp i : Nat} : ∀ (s : K4.St), K4.tS s i dp → (K4.lab s).length ≤ 9
  | .here l s, h => by
    obtain ⟨k1, _⟩ := (show _ ∧ _ from h)
    have := okn_len k1
    have l1 : ("here " : Str).length = 5 := by decide
    have l2 : (" " : Str).length = 1 := by decide
    show ("here " ++ l ++ " ").length ≤ _
    rw [sl_app, sl_app]
    omega
  | .lt _ _, _ | .st _ _, _ | .put _ _ _, _ | .act _ _, _ | .iff _ _ _, _ | .wh _ _, _ | .ret _, _ | .thr _, _ | .send _ _, _ | .spawn _ _, _ | .tri _ _ _, _ => Nat.zero_le _
theorem inn_tS {dp i : Nat} : ∀ (s : K4.St), K4.tS s i dp → K4.tS (K4.inn s) i dp
  | .here l s, h => (show _ ∧ _ ∧ _ from h).2.2
  | .lt _ _, h | .st _ _, h | .put _ _ _, h | .act _ _, h | .iff _ _ _, h | .wh _ _, h | .ret _, h | .thr _, h | .send _ _, h | .spawn _ _, h | .tri _ _ _, h => h
mutual
theorem len_s {dp : Nat} (h2 : dp ≤ 2) (h1 : 1 ≤ dp) : ∀ (s : K4.St) (i : Nat) (ind : Str), K4.tS s i dp → ind.length + 2 * i ≤ 20 → tot (K4.inT s ind) ≤ tI i
  | .iff c a b, i, ind, h, hi => by
    obtain ⟨k1, k2, k3, k4, k5, k6⟩ := (show _ ∧ _ ∧ _ ∧ _ ∧ _ ∧ _ from h)
    obtain ⟨i, rfl⟩ : ∃ d', i = d' + 1 := ⟨i - 1, by omega⟩
    have l2 : ("  " : Str).length = 2 := by decide
    have l3 : ("end" : Str).length = 3 := by decide
    have l4 : ("else" : Str).length = 4 := by decide
    have e : (ind ++ "  ").length + 2 * i ≤ 20 := by rw [sl_app]; omega
    have a1 := len_ss h2 h1 a i (ind ++ "  ") k5 e
    have b1 := len_ss h2 h1 b i (ind ++ "  ") k6 e
    have a2 : a.length * (tI i + 300) ≤ 1 * (tI i + 300) := Nat.mul_le_mul_right _ k3
    have b2 : b.length * (tI i + 300) ≤ 1 * (tI i + 300) := Nat.mul_le_mul_right _ k4
    rw [inT_iff, tot_app, tot_app, tot_cons, tot_nil, sl_app]
    have hot : tot (othT b ind) ≤ tI i + 300 + 30 := by
      unfold othT
      cases b with
      | nil => exact Nat.zero_le _
      | cons s r =>
        show tot ((ind ++ "else") :: K4.blT (s :: r) (ind ++ "  ")) ≤ _
        rw [tot_cons, sl_app]
        omega
    show _ ≤ 2 * (tI i + 300) + 60
    omega
  | .wh c a, i, ind, h, hi => by
    obtain ⟨k1, k2, k3, k5⟩ := (show _ ∧ _ ∧ _ ∧ _ from h)
    obtain ⟨i, rfl⟩ : ∃ d', i = d' + 1 := ⟨i - 1, by omega⟩
    have l2 : ("  " : Str).length = 2 := by decide
    have l3 : ("end" : Str).length = 3 := by decide
    have a1 := len_ss h2 h1 a i (ind ++ "  ") k5 (by rw [sl_app]; omega)
    have a2 : a.length * (tI i + 300) ≤ 1 * (tI i + 300) := Nat.mul_le_mul_right _ k3
    show tot (K4.blT a (ind ++ "  ") ++ [ind ++ "end"]) ≤ 2 * (tI i + 300) + 60
    rw [tot_app, tot_cons, tot_nil, sl_app]
    omega
  | .tri a n b, i, ind, h, hi => by
    obtain ⟨k1, k2, k3, k4, k5, k6⟩ := (show _ ∧ _ ∧ _ ∧ _ ∧ _ ∧ _ from h)
    obtain ⟨i, rfl⟩ : ∃ d', i = d' + 1 := ⟨i - 1, by omega⟩
    have l2 : ("  " : Str).length = 2 := by decide
    have l3 : ("end" : Str).length = 3 := by decide
    have l6 : ("catch " : Str).length = 6 := by decide
    have e : (ind ++ "  ").length + 2 * i ≤ 20 := by rw [sl_app]; omega
    have a1 := len_ss h2 h1 a i (ind ++ "  ") k5 e
    have b1 := len_ss h2 h1 b i (ind ++ "  ") k6 e
    have a2 : a.length * (tI i + 300) ≤ 1 * (tI i + 300) := Nat.mul_le_mul_right _ k3
    have b2 : b.length * (tI i + 300) ≤ 1 * (tI i + 300) := Nat.mul_le_mul_right _ k4
    have n3 := okn_len k2
    show tot (K4.blT a (ind ++ "  ") ++ ((ind ++ ("catch " ++ n)) :: K4.blT b (ind ++ "  ")) ++ [ind ++ "end"]) ≤ 2 * (tI i + 300) + 60
    rw [tot_app, tot_app, tot_cons, tot_cons, tot_nil, sl_app, sl_app, sl_app]
    omega
  | .here l s, i, ind, h, hi => len_s h2 h1 s i ind (show _ ∧ _ ∧ _ from h).2.2 hi
  | .lt _ _, _, _, _, _ | .st _ _, _, _, _, _ | .put _ _ _, _, _, _, _ | .act _ _, _, _, _, _ | .ret _, _, _, _, _ | .thr _, _, _, _, _ | .send _ _, _, _, _, _ | .spawn _ _, _, _, _, _ => Nat.zero_le _
theorem len_ss {dp : Nat} (h2 : dp ≤ 2) (h1 : 1 ≤ dp) : ∀ (b : List K4.St) (i : Nat) (ind : Str), K4.tSs b i dp → ind.length + 2 * i ≤ 20 → tot (K4.blT b ind) ≤ b.length * (tI i + 300)
  | [], _, _, _, _ => Nat.zero_le _
  | s :: r, i, ind, h, hi => by
    have a1 := len_s h2 h1 s i ind h.1 hi
    have a2 := len_ss h2 h1 r i ind h.2 hi
    have a3 := len_p h2 h1 (K4.inn s) i (inn_tS s h.1)
    have a4 := lab_le s h.1
    show tot ((ind ++ K4.lab s ++ K4.hdT (K4.inn s)) :: (K4.inT s ind ++ K4.blT r ind)) ≤ (r.length + 1) * (tI i + 300)
    rw [tot_cons, tot_app, sl_app, sl_app, Nat.succ_mul]
    omega
end
theorem len_f {dp i : Nat} (h2 : dp ≤ 2) (h1 : 1 ≤ dp) (i2 : i ≤ 2) {f : K4.Fn} (h : K4.tF f i dp) : tot (K4.fnT f) ≤ 5000 := by
  obtain ⟨k1, k2, k3, k4, k5⟩ := h
  have a1 := len_ss h2 h1 f.b i "  " k5 (by have l2 : ("  " : Str).length = 2 := (by decide); omega)
  have a2 : f.b.length * (tI i + 300) ≤ 2 * (tI i + 300) := Nat.mul_le_mul_right _ k4
  have t2 : tI i ≤ 1980 := (show ∀ i, i ≤ 2 → tI i ≤ 1980 by decide) i i2
  have j := join2 (fun t ht => okn_len (k3 t ht)) k2
  have n3 := okn_len k1
  have l5 : ("func " : Str).length = 5 := by decide
  have l1 : ("(" : Str).length = 1 := by decide
  have l3 : (")" : Str).length = 1 := by decide
  have l4 : ("end" : Str).length = 3 := by decide
  show tot (("func " ++ f.x ++ "(" ++ Str.join ", " f.ps ++ ")") :: (K4.blT f.b "  " ++ [("end" : Str)])) ≤ _
  rw [tot_cons, tot_app, tot_cons, tot_nil, sl_app, sl_app, sl_app, sl_app]
  omega
theorem len_g {p : K4.Pg} (h : K4.tG p) : tot (K4.pgT p) ≤ 10000 := by
  obtain ⟨k1, i, dp, k2, k3, k4, k5⟩ := h
  have go : ∀ l : K4.Pg, (∀ f ∈ l, K4.tF f i dp) → tot (K4.pgT l) ≤ l.length * 5000 := by
    intro l
    induction l with
    | nil => exact fun _ => Nat.zero_le _
    | cons f r ih =>
      intro hl
      have a1 := len_f k4 k3 k2 (hl f (by simp))
      have a2 := ih fun g hg => hl g (List.mem_cons_of_mem _ hg)
      show tot (K4.fnT f ++ K4.pgT r) ≤ (r.length + 1) * 5000
      rw [tot_app]
      omega
  have := go p k5
  omega
theorem join_tot (l : List Str) : (Str.join "\n" l).length ≤ tot l := by
  have go : ∀ l : List Str, (Str.join "\n" l).length ≤ tot l := by
    intro l
    induction l with
    | nil => exact Nat.zero_le _
    | cons x r ih =>
      cases r with
      | nil =>
        show x.length ≤ _
        rw [tot_cons]
        omega
      | cons y r =>
        have l1 : ("\n" : Str).length = 1 := by decide
        show (x ++ "\n" ++ Str.join "\n" (y :: r)).length ≤ _
        rw [sl_app, sl_app, tot_cons]
        omega
  exact go l
theorem page_len {p : K4.Pg} (h : K4.tG p) : (K4.pageT p).length ≤ 10000 := Nat.le_trans (join_tot _) (len_g h)
end W4
set_option Elab.async false
set_option linter.all false
set_option maxRecDepth 100000
set_option maxHeartbeats 4000000
namespace W4
open PySem PySem.Spec PyProof.Rows L2
/-! ### how much repr shows of a drawn program -/
structure Sho (n : Nat) (d : PyData) : Prop where
  wt : d.weight ≤ n
  sh : d.intsShort 13 = true
  sb : d.showable = true
structure ShoL (n : Nat) (ds : List PyData) : Prop where
  wt : PyData.weightAll ds ≤ n
  sh : PyData.intsShortAll 13 ds = true
  sb : PyData.showableAll ds = true
theorem Sho.str {n : Nat} {x : Str} (h : x.length ≤ n) : Sho n (.str x) := ⟨by simp only [PyData.weight]; exact h, by simp only [PyData.intsShort], by simp only [PyData.showable]⟩
theorem Sho.num {i : Nat} (h : i ∈ K4.okI) : Sho 41 (.int i) := by
  have k := (show ∀ i ∈ K4.okI, ((PyData.int (i : Nat)).weight ≤ 41 ∧ (PyData.int (i : Nat)).intsShort 13 = true) ∧ (PyData.int (i : Nat)).showable = true by decide +kernel) i h
  exact ⟨k.1.1, k.1.2, k.2⟩
theorem ShoL.nilN {n : Nat} : ShoL n [] := ⟨by simp only [PyData.weightAll]; exact Nat.zero_le _, by simp only [PyData.intsShortAll], by simp only [PyData.showableAll]⟩
theorem ShoL.nil : ShoL 0 [] := .nilN
theorem ShoL.cons {n m k : Nat} {d : PyData} {ds : List PyData} (h : Sho n d) (t : ShoL m ds) (l : n + 1 + m ≤ k) : ShoL k (d :: ds) := by
  refine ⟨?_, ?_, ?_⟩
  · simp only [PyData.weightAll]
    have := h.wt
    have := t.wt
    omega
  · simp only [PyData.intsShortAll, h.sh, t.sh, Bool.and_self]
  · simp only [PyData.showableAll, h.sb, t.sb, Bool.and_self]
theorem ShoL.tup {n : Nat} {ds : List PyData} (h : ShoL n ds) : Sho n (.tuple ds) := ⟨by simp only [PyData.weight]; exact h.wt, by simp only [PyData.intsShort]; exact h.sh, by simp only [PyData.showable]; exact h.sb⟩
theorem ShoL.lst {n : Nat} {ds : List PyData} (h : ShoL n ds) : Sho n (.list ds) := ⟨by simp only [PyData.weight]; exact h.wt, by simp only [PyData.intsShort]; exact h.sh, by simp only [PyData.showable]; exact h.sb⟩
theorem Sho.mono {n m : Nat} {d : PyData} (h : Sho n d) (l : n ≤ m) : Sho m d := ⟨Nat.le_trans h.wt l, h.sh, h.sb⟩
theorem ShoL.mono {n m : Nat} {d : List PyData} (h : ShoL n d) (l : n ≤ m) : ShoL m d := ⟨Nat.le_trans h.wt l, h.sh, h.sb⟩
theorem sh_lit {x : Str} (h : x.length ≤ 7 := by decide) : Sho 7 (.str x) := .str h
theorem sh_nm {x : Str} (h : x ∈ K4.okN) : Sho 3 (.str x) := .str (okn_len h)
def wE : Nat → Nat
  | 0 => 50
  | d + 1 => 2 * wE d + 25
theorem wE_pos (d : Nat) : 50 ≤ wE d := by
  cases d with
  | zero => exact Nat.le_refl _
  | succ d =>
    show 50 ≤ 2 * wE d + 25
    have : 13 ≤ wE d := by
      cases d with
      | zero => decide
      | succ d => show 13 ≤ 2 * wE d + 25; omega
    omega
mutual
theorem sho_e : ∀ (e : K4.Ex) (d : Nat), K4.tE e d → Sho (wE d) e.toD
  | .int n, d, h => (ShoL.cons sh_lit (.cons (Sho.num h) .nil (Nat.le_refl _)) (Nat.le_refl (7 + 1 + (41 + 1 + 0)))).tup.mono (by have := wE_pos d; omega)
  | .non, d, h => (ShoL.cons sh_lit .nil (Nat.le_refl (7 + 1 + 0))).tup.mono (by have := wE_pos d; omega)
  | .var x, d, h => (ShoL.cons sh_lit (.cons (sh_nm h) .nil (Nat.le_refl _)) (Nat.le_refl (7 + 1 + (3 + 1 + 0)))).tup.mono (by have := wE_pos d; omega)
  | .recv x, d, h => (ShoL.cons sh_lit (.cons (sh_nm h) .nil (Nat.le_refl _)) (Nat.le_refl (7 + 1 + (3 + 1 + 0)))).tup.mono (by have := wE_pos d; omega)
  | .call f as, d, h => by
    obtain ⟨h1, h2, h3, h4⟩ := (show _ ∧ _ ∧ _ ∧ _ from h)
    obtain ⟨d, rfl⟩ : ∃ d', d = d' + 1 := ⟨d - 1, by omega⟩
    have k : as.length * (wE d + 1) ≤ 2 * (wE d + 1) := Nat.mul_le_mul_right _ h3
    exact (ShoL.cons (sh_lit (x := "call")) (.cons (sh_nm h1) (.cons (sho_es as d h4).tup .nil (Nat.le_refl _)) (Nat.le_refl _)) (Nat.le_refl _)).tup.mono (by show _ ≤ 2 * wE d + 25; omega)
  | .new fs, d, h => by
    obtain ⟨h2, h3, h4⟩ := (show _ ∧ _ ∧ _ from h)
    obtain ⟨d, rfl⟩ : ∃ d', d = d' + 1 := ⟨d - 1, by omega⟩
    have k : fs.length * (wE d + 6) ≤ 2 * (wE d + 6) := Nat.mul_le_mul_right _ h3
    exact (ShoL.cons (sh_lit (x := "new")) (.cons (sho_fs fs d h4).tup .nil (Nat.le_refl _)) (Nat.le_refl _)).tup.mono (by show _ ≤ 2 * wE d + 25; omega)
  | .get e f, d, h => by
    obtain ⟨h2, h3, h4⟩ := (show _ ∧ _ ∧ _ from h)
    obtain ⟨d, rfl⟩ : ∃ d', d = d' + 1 := ⟨d - 1, by omega⟩
    exact (ShoL.cons (sh_lit (x := "get")) (.cons (sho_e e d h3) (.cons (sh_nm h4) .nil (Nat.le_refl _)) (Nat.le_refl _)) (Nat.le_refl _)).tup.mono (by show _ ≤ 2 * wE d + 25; omega)
  | .neg e, d, h => by
    obtain ⟨h2, h3⟩ := (show _ ∧ _ from h)
    obtain ⟨d, rfl⟩ : ∃ d', d = d' + 1 := ⟨d - 1, by omega⟩
    exact (ShoL.cons (sh_lit (x := "neg")) (.cons (sho_e e d h3) .nil (Nat.le_refl _)) (Nat.le_refl _)).tup.mono (by show _ ≤ 2 * wE d + 25; omega)
  | .not e, d, h => by
    obtain ⟨h2, h3⟩ := (show _ ∧ _ from h)
    obtain ⟨d, rfl⟩ : ∃ d', d = d' + 1 := ⟨d - 1, by omega⟩
    exact (ShoL.cons (sh_lit (x := "not")) (.cons (sho_e e d h3) .nil (Nat.le_refl _)) (Nat.le_refl _)).tup.mono (by show _ ≤ 2 * wE d + 25; omega)
  | .op s l r, d, h => by
    obtain ⟨h1, h2, h3, h4⟩ := (show _ ∧ _ ∧ _ ∧ _ from h)
    obtain ⟨d, rfl⟩ : ∃ d', d = d' + 1 := ⟨d - 1, by omega⟩
    exact (ShoL.cons (sh_lit (x := "op")) (.cons (Sho.str (sg_len h2)) (.cons (sho_e l d h3) (.cons (sho_e r d h4) .nil (Nat.le_refl _)) (Nat.le_refl _)) (Nat.le_refl _)) (Nat.le_refl _)).tup.mono (by show _ ≤ 2 * wE d + 25; omega)
theorem sho_es : ∀ (as : List K4.Ex) (d : Nat), K4.tEs as d → ShoL (as.length * (wE d + 1)) (K4.exsD as)
  | [], _, _ => .nilN
  | e :: r, d, h => .cons (sho_e e d h.1) (sho_es r d h.2) (by rw [List.length_cons, Nat.succ_mul]; omega)
theorem sho_fs : ∀ (as : List (Str × K4.Ex)) (d : Nat), K4.tEf as d → ShoL (as.length * (wE d + 6)) (K4.fsD as)
  | [], _, _ => .nilN
  | (y, e) :: r, d, h => .cons (ShoL.cons (sh_nm h.1) (.cons (sho_e e d h.2.1) .nil (Nat.le_refl _)) (Nat.le_refl _)).tup (sho_fs r d h.2.2) (by rw [List.length_cons, Nat.succ_mul]; omega)
end
theorem wE2 {d : Nat} (h : d ≤ 2) : wE d ≤ 275 := (show ∀ d, d ≤ 2 → wE d ≤ 275 by decide) d h
theorem sho_p {dp : Nat} (h2 : dp ≤ 2) : ∀ s : K4.St, K4.tP dp s → Sho 600 s.toD
  | .lt x e, h => (ShoL.cons (sh_lit (x := "let")) (.cons (sh_nm h.1) (.cons (sho_e e dp h.2) .nil (Nat.le_refl _)) (Nat.le_refl _)) (Nat.le_refl _)).tup.mono (by have := wE2 h2; omega)
  | .st x e, h => (ShoL.cons (sh_lit (x := "set")) (.cons (sh_nm h.1) (.cons (sho_e e dp h.2) .nil (Nat.le_refl _)) (Nat.le_refl _)) (Nat.le_refl _)).tup.mono (by have := wE2 h2; omega)
  | .put r f e, h => by
    obtain ⟨⟨x0, path, hx0, pl, hp, er⟩, hf, he⟩ := h
    have tr : K4.tE r 2 := by
      rw [er]
      exact K4.tE_up _ _ _ (by omega) (K4.chain_tE path (.var x0) 0 hx0 hp)
    exact (ShoL.cons (sh_lit (x := "put")) (.cons (sho_e r 2 tr) (.cons (sh_nm hf) (.cons (sho_e e dp he) .nil (Nat.le_refl _)) (Nat.le_refl _)) (Nat.le_refl _)) (Nat.le_refl _)).tup.mono (by have := wE2 h2; have := wE2 (Nat.le_refl 2); omega)
  | .act f as, h => by
    have k : as.length * (wE (dp - 1) + 1) ≤ 2 * (wE (dp - 1) + 1) := Nat.mul_le_mul_right _ h.2.1
    exact (ShoL.cons (sh_lit (x := "do")) (.cons (ShoL.cons (sh_lit (x := "call")) (.cons (sh_nm h.1) (.cons (sho_es as (dp - 1) h.2.2).tup .nil (Nat.le_refl _)) (Nat.le_refl _)) (Nat.le_refl _)).tup .nil (Nat.le_refl _)) (Nat.le_refl _)).tup.mono (by have := wE2 (show dp - 1 ≤ 2 by omega); omega)
  | .ret e, h => (ShoL.cons (sh_lit (x := "return")) (.cons (sho_e e dp h) .nil (Nat.le_refl _)) (Nat.le_refl _)).tup.mono (by have := wE2 h2; omega)
  | .thr e, h => (ShoL.cons (sh_lit (x := "throw")) (.cons (sho_e e dp h) .nil (Nat.le_refl _)) (Nat.le_refl _)).tup.mono (by have := wE2 h2; omega)
  | .send p e, h => (ShoL.cons (sh_lit (x := "send")) (.cons (sh_nm h.1) (.cons (sho_e e dp h.2) .nil (Nat.le_refl _)) (Nat.le_refl _)) (Nat.le_refl _)).tup.mono (by have := wE2 h2; omega)
  | .spawn f as, h => by
    have k : as.length * (wE (dp - 1) + 1) ≤ 2 * (wE (dp - 1) + 1) := Nat.mul_le_mul_right _ h.2.1
    exact (ShoL.cons (sh_lit (x := "spawn")) (.cons (sh_nm h.1) (.cons (sho_es as (dp - 1) h.2.2).tup .nil (Nat.le_refl _)) (Nat.le_refl _)) (Nat.le_refl _)).tup.mono (by have := wE2 (show dp - 1 ≤ 2 by omega); omega)
  | .iff _ _ _, h => h.elim
  | .wh _ _, h => h.elim
  | .tri _ _ _, h => h.elim
  | .here _ _, h => h.elim
def wT : Nat → Nat
  | 0 => 620
  | i + 1 => 2 * wT i + 320
theorem wT_pos (i : Nat) : 620 ≤ wT i := by
  cases i with
  | zero => exact Nat.le_refl _
  | succ i =>
    show 620 ≤ 2 * wT i + 320
    have : 150 ≤ wT i := by
      cases i with
      | zero => decide
      | succ i => show 150 ≤ 2 * wT i + 320; omega
    omega
mutual
theorem sho_s {dp : Nat} (h2 : dp ≤ 2) : ∀ (s : K4.St) (i : Nat), K4.tS s i dp → Sho (wT i - (if K4.isHere s = true then 0 else 20)) s.toD
  | .iff c a b, i, h => by
    obtain ⟨k1, k2, k3, k4, k5, k6⟩ := (show _ ∧ _ ∧ _ ∧ _ ∧ _ ∧ _ from h)
    obtain ⟨i, rfl⟩ : ∃ d', i = d' + 1 := ⟨i - 1, by omega⟩
    have a2 : a.length * (wT i + 1) ≤ 1 * (wT i + 1) := Nat.mul_le_mul_right _ k3
    have b2 : b.length * (wT i + 1) ≤ 1 * (wT i + 1) := Nat.mul_le_mul_right _ k4
    exact (ShoL.cons (sh_lit (x := "if")) (.cons (sho_e c dp k2) (.cons (sho_ss h2 a i k5).tup (.cons (sho_ss h2 b i k6).tup .nil (Nat.le_refl _)) (Nat.le_refl _)) (Nat.le_refl _)) (Nat.le_refl _)).tup.mono (by have := wE2 h2; show _ ≤ 2 * wT i + 320 - 20; omega)
  | .wh c a, i, h => by
    obtain ⟨k1, k2, k3, k5⟩ := (show _ ∧ _ ∧ _ ∧ _ from h)
    obtain ⟨i, rfl⟩ : ∃ d', i = d' + 1 := ⟨i - 1, by omega⟩
    have a2 : a.length * (wT i + 1) ≤ 1 * (wT i + 1) := Nat.mul_le_mul_right _ k3
    exact (ShoL.cons (sh_lit (x := "while")) (.cons (sho_e c dp k2) (.cons (sho_ss h2 a i k5).tup .nil (Nat.le_refl _)) (Nat.le_refl _)) (Nat.le_refl _)).tup.mono (by have := wE2 h2; show _ ≤ 2 * wT i + 320 - 20; omega)
  | .tri a n b, i, h => by
    obtain ⟨k1, k2, k3, k4, k5, k6⟩ := (show _ ∧ _ ∧ _ ∧ _ ∧ _ ∧ _ from h)
    obtain ⟨i, rfl⟩ : ∃ d', i = d' + 1 := ⟨i - 1, by omega⟩
    have a2 : a.length * (wT i + 1) ≤ 1 * (wT i + 1) := Nat.mul_le_mul_right _ k3
    have b2 : b.length * (wT i + 1) ≤ 1 * (wT i + 1) := Nat.mul_le_mul_right _ k4
    exact (ShoL.cons (sh_lit (x := "try")) (.cons (sho_ss h2 a i k5).tup (.cons (sh_nm k2) (.cons (sho_ss h2 b i k6).tup .nil (Nat.le_refl _)) (Nat.le_refl _)) (Nat.le_refl _)) (Nat.le_refl _)).tup.mono (by show _ ≤ 2 * wT i + 320 - 20; omega)
  | .here l s, i, h => by
    obtain ⟨k1, k2, k3⟩ := (show _ ∧ _ ∧ _ from h)
    have k := sho_s h2 s i k3
    rw [k2] at k
    have p := wT_pos i
    exact (ShoL.cons (sh_lit (x := "here")) (.cons (sh_nm k1) (.cons k .nil (Nat.le_refl _)) (Nat.le_refl _)) (Nat.le_refl _)).tup.mono (by simp [K4.isHere]; omega)
  | .lt x e, i, h => (sho_p h2 _ (show K4.tP dp _ from h)).mono (by have := wT_pos i; show 600 ≤ wT i - 20; omega)
  | .st x e, i, h => (sho_p h2 _ (show K4.tP dp _ from h)).mono (by have := wT_pos i; show 600 ≤ wT i - 20; omega)
  | .put x f e, i, h => (sho_p h2 _ (show K4.tP dp _ from h)).mono (by have := wT_pos i; show 600 ≤ wT i - 20; omega)
  | .act x e, i, h => (sho_p h2 _ (show K4.tP dp _ from h)).mono (by have := wT_pos i; show 600 ≤ wT i - 20; omega)
  | .ret e, i, h => (sho_p h2 _ (show K4.tP dp _ from h)).mono (by have := wT_pos i; show 600 ≤ wT i - 20; omega)
  | .thr e, i, h => (sho_p h2 _ (show K4.tP dp _ from h)).mono (by have := wT_pos i; show 600 ≤ wT i - 20; omega)
  | .send x e, i, h => (sho_p h2 _ (show K4.tP dp _ from h)).mono (by have := wT_pos i; show 600 ≤ wT i - 20; omega)
  | .spawn x e, i, h => (sho_p h2 _ (show K4.tP dp _ from h)).mono (by have := wT_pos i; show 600 ≤ wT i - 20; omega)
theorem sho_ss {dp : Nat} (h2 : dp ≤ 2) : ∀ (b : List K4.St) (i : Nat), K4.tSs b i dp → ShoL (b.length * (wT i + 1)) (K4.stsD b)
  | [], _, _ => .nilN
  | s :: r, i, h => .cons ((sho_s h2 s i h.1).mono (Nat.sub_le _ _)) (sho_ss h2 r i h.2) (by rw [List.length_cons, Nat.succ_mul]; omega)
end
theorem sho_f {dp i : Nat} (h2 : dp ≤ 2) (i2 : i ≤ 2) {f : K4.Fn} (h : K4.tF f i dp) : Sho 8000 f.toD := by
  obtain ⟨k1, k2, k3, k4, k5⟩ := h
  have a2 : f.b.length * (wT i + 1) ≤ 2 * (wT i + 1) := Nat.mul_le_mul_right _ k4
  have t2 : wT i ≤ 3440 := (show ∀ i, i ≤ 2 → wT i ≤ 3440 by decide) i i2
  have hp : ∀ l : List Str, (∀ p ∈ l, p ∈ K4.okN) → ShoL (l.length * 4) (l.map .str) := by
    intro l
    induction l with
    | nil => exact fun _ => .nilN
    | cons x r ih => exact fun hl => .cons (sh_nm (hl x (by simp))) (ih fun y hy => hl y (List.mem_cons_of_mem _ hy)) (by rw [List.length_cons, Nat.succ_mul]; omega)
  exact (ShoL.cons (sh_nm k1) (.cons (hp f.ps k3).tup (.cons (sho_ss h2 f.b i k5).tup .nil (Nat.le_refl _)) (Nat.le_refl _)) (Nat.le_refl _)).tup.mono (by omega)
theorem sho_g {p : K4.Pg} (h : K4.tG p) : Sho 20000 (K4.pgD p) := by
  obtain ⟨k1, i, dp, k2, k3, k4, k5⟩ := h
  have go : ∀ l : K4.Pg, (∀ f ∈ l, K4.tF f i dp) → ShoL (l.length * 8001) (l.map K4.Fn.toD) := by
    intro l
    induction l with
    | nil => exact fun _ => .nilN
    | cons f r ih => exact fun hl => .cons (sho_f k4 k2 (hl f (by simp))) (ih fun g hg => hl g (List.mem_cons_of_mem _ hg)) (by rw [List.length_cons, Nat.succ_mul]; omega)
  exact (go p k5).tup.mono (by omega)
end W4
set_option Elab.async false
set_option linter.all false
set_option maxRecDepth 100000
set_option maxHeartbeats 4000000
set_option pp.maxSteps 400
namespace W4
open PySem PySem.Spec PyProof.Rows L2
local macro_rules | `(tactic| walk_at "rd") => `(tactic| repeat (first | refine ⟨_, rfl, ?_⟩ | refine ⟨_, _, rfl, rfl, ?_⟩ | refine ⟨rfl, _, rfl, ?_⟩))
local macro_rules | `(tactic| walk_at "tg") => `(tactic| repeat (first | refine iteBt (by decide +kernel) ?_ | refine iteBf (by decide +kernel) ?_ | refine ⟨_, rfl, ?_⟩ | refine ⟨_, _, rfl, rfl, ?_⟩ | refine ⟨rfl, _, rfl, ?_⟩))
abbrev N_q_right : List Str := ["_law_box_here", "_law_whole", "_law_page", "_law_other", "_law_wide", "_law_at", "_law_spots", "_law_turn", "_law_end", "_law_less"]
abbrev P_q_right : List Str := ["_law_box_here"]
theorem sc_q_right : FnScope N_q_right P_q_right (defScope s_q_right) := ⟨rfl, rfl, rfl, by decide +kernel, rfl, by decide +kernel, by decide +kernel⟩
theorem bd_q_right (kV doc pm : Value) (an : Option Addr) (cdv ct : Value) (us : List Value) (hl : us.length = P_q_right.length) : bindArgs (PySem.W.fnOf d_q_right.name d_q_right.qual d_q_right.params d_q_right.body d_q_right.scope .none kV doc pm an cdv ct) ⟨us, []⟩ = pure (P_q_right.zip us) := match us, hl with | [_], _ => rfl
/-- the page with wider gaps -/
theorem repl_one (c : Nat) (z : List Nat) : ∀ L : List Nat, PySem.StrLaws.replL [c] z L = L.flatMap fun d => if d = c then z else [d]
  | [] => PySem.StrLaws.replL_nil
  | d :: r => by
    by_cases h : d = c
    · rw [PySem.StrLaws.replL_hit (by simp) (by simp [h])]
      show z ++ PySem.StrLaws.replL [c] z r = (if d = c then z else [d]) ++ _
      rw [repl_one c z r, if_pos h]
      rfl
    · rw [PySem.StrLaws.replL_miss (by simp [h])]
      show _ = (if d = c then z else [d]) ++ _
      rw [repl_one c z r, if_neg h]
      rfl
theorem wide_eq (x : Str) : K4.cd (Txt.replace (Txt.replace x "\n" " ") " " " \n ") = K4.widen (K4.cd x) := by
  have e1 : K4.cd (Txt.replace (Txt.replace x "\n" " ") " " " \n ") = PySem.StrLaws.replL [32] [32, 10, 32] (K4.cd (Txt.replace x "\n" " ")) := PySem.StrLaws.replace_list (by decide)
  have e2 : K4.cd (Txt.replace x "\n" " ") = PySem.StrLaws.replL [10] [32] (K4.cd x) := PySem.StrLaws.replace_list (by decide)
  rw [e1, e2, repl_one, repl_one]
  generalize K4.cd x = L
  unfold K4.widen
  induction L with
  | nil => rfl
  | cons d r ih =>
    rw [List.flatMap_cons, List.flatMap_append, ih, List.flatMap_cons]
    congr 1
    by_cases h : d = 10
    · subst h
      decide
    · by_cases h2 : d = 32
      · subst h2
        decide
      · simp [h, h2]
theorem r1_len (x : Str) : (Txt.replace x "\n" " ").length = x.length := by
  have e2 : K4.cd (Txt.replace x "\n" " ") = PySem.StrLaws.replL [10] [32] (K4.cd x) := PySem.StrLaws.replace_list (by decide)
  rw [← K4.cd_len, e2, repl_one, ← K4.cd_len]
  generalize K4.cd x = L
  induction L with
  | nil => rfl
  | cons d r ih =>
    rw [List.flatMap_cons, List.length_append, ih, List.length_cons]
    have : (if d = 10 then [32] else [d]).length = 1 := by split <;> rfl
    omega
theorem widen_len (L : List Nat) : (K4.widen L).length ≤ 3 * L.length := by
  unfold K4.widen
  induction L with
  | nil => exact Nat.zero_le _
  | cons d r ih =>
    rw [List.flatMap_cons, List.length_append, List.length_cons]
    have : (if d = 32 ∨ d = 10 then [32, 10, 32] else [d]).length ≤ 3 := by split <;> simp
    omega
theorem ch_inV : ∀ (ws : List K4.Wd) (b : Bool), K4.Ch b ws → ∀ w ∈ ws, K4.inV w
  | [], _, _, _, h => nomatch h
  | w :: r, b, ⟨_, h2, h3⟩, x, hx => by
    rcases List.mem_cons.mp hx with rfl | hx
    · exact h2
    · exact ch_inV r _ h3 x hx
/-- the page without a pair -/
def lessL (L : List Nat) (a e : Nat) : List Nat := L.take a ++ 32 :: ((L.drop (a + 1)).take (e - (a + 1)) ++ 32 :: L.drop (e + 1))
theorem split_ix {L : List Nat} {a c : Nat} (h : L[a]? = some c) : L = L.take a ++ c :: L.drop (a + 1) := by
  obtain ⟨h1, h2⟩ := List.getElem?_eq_some_iff.mp h
  conv => lhs; rw [← List.take_append_drop a L]
  rw [List.drop_eq_getElem_cons h1, h2]
theorem less_fact {p : K4.Pg} (tg : K4.tG p) {a e : Nat} (h40 : (K4.cd (K4.pageT p))[a]? = some 40) (h : e = a ∨ (a < e ∧ (K4.cd (K4.pageT p))[e]? = some 41)) :
    K4.pRead K4.dep (K4.toks (lessL (K4.cd (K4.pageT p)) a e)) ≠ .out ∧ ∀ q ts, K4.pRead K4.dep (K4.toks (lessL (K4.cd (K4.pageT p)) a e)) = .ok q ts → q ≠ p := by
  have e1 := split_ix h40
  rcases h with rfl | ⟨lt, h41⟩
  · have := K4.less_ok1 tg e1
    unfold lessL
    rw [show e - (e + 1) = 0 by omega, List.take_zero]
    exact this
  · have h2 : ((K4.cd (K4.pageT p)).drop (a + 1))[e - (a + 1)]? = some 41 := by
      rw [List.getElem?_drop, show a + 1 + (e - (a + 1)) = e by omega]
      exact h41
    have e2 := split_ix h2
    rw [List.drop_drop, show a + 1 + (e - (a + 1) + 1) = e + 1 by omega] at e2
    rw [e2] at e1
    exact K4.less_ok tg e1
theorem less_asc {p : K4.Pg} (tg : K4.tG p) (a e : Nat) : ∀ c ∈ lessL (K4.cd (K4.pageT p)) a e, c < 1114112 := by
  intro c hc
  have k := K4.page_asc tg
  unfold lessL at hc
  simp only [List.mem_append, List.mem_cons] at hc
  rcases hc with h | rfl | h | rfl | h
  · exact k c (List.mem_of_mem_take h)
  · decide
  · exact k c (List.mem_of_mem_drop (List.mem_of_mem_take h))
  · decide
  · exact k c (List.mem_of_mem_drop h)
theorem less_cut (x : Str) (a e : Nat) (ha : a < x.length) (he : e < x.length) : K4.cd (cutS x none (some (a : Int)) ++ " " ++ cutS x (some ((a : Int) + 1)) (some (e : Int)) ++ " " ++ cutS x (some ((e : Int) + 1)) none) = lessL (K4.cd x) a e := by
  have ln : (K4.cd x).length = x.length := K4.cd_len x
  have c1 : K4.cd (cutS x none (some (a : Int))) = (K4.cd x).take a := by
    unfold cutS
    rw [HT.sIx_none, HT.sIx_nat, Nat.min_eq_left (by omega), List.drop_zero, Nat.sub_zero]
  have c2 : K4.cd (cutS x (some ((a : Int) + 1)) (some (e : Int))) = ((K4.cd x).drop (a + 1)).take (e - (a + 1)) := by
    unfold cutS
    rw [show (a : Int) + 1 = ((a + 1 : Nat) : Int) by omega, HT.sIx_nat, HT.sIx_nat, Nat.min_eq_left (show e ≤ x.length by omega), Nat.min_eq_left (show a + 1 ≤ x.length by omega)]
  have c3 : K4.cd (cutS x (some ((e : Int) + 1)) none) = (K4.cd x).drop (e + 1) := by
    unfold cutS
    rw [show (e : Int) + 1 = ((e + 1 : Nat) : Int) by omega, HT.sIx_nat, HT.sIx_none, Nat.min_eq_left (show e + 1 ≤ x.length by omega)]
    show List.take _ _ = _
    exact List.take_of_length_le (by rw [List.length_drop]; show x.cps.toList.length - _ ≤ _; have : x.cps.toList.length = x.length := ln; omega)
  rw [K4.cd_app, K4.cd_app, K4.cd_app, K4.cd_app, c1, c2, c3]
  unfold lessL
  have b : K4.cd " " = [32] := by decide
  rw [b]
  simp
/-- what repr shows of the law's lists -/
structure Shw (d : PyData) : Prop where
  sh : d.showable = true
  nd : d.hasDict = false
  dp : d.depth + 1 ≤ 400
  ln : d.shown.length ≤ sizeLine
theorem shw_of {n : Nat} {d : PyData} (h : Nice 60 d) (k : Sho n d) (l : n ≤ 2 ^ 20) : Shw d := by
  refine ⟨k.sb, PyData.hasDict_of_canLay d h.cl, by have := h.dp; omega, PyData.shown_fits_of_layable0 (B := 13) (by decide) (by decide) ?_ k.sh⟩
  show (PyData.canLay0 d && decide (PyData.depth d ≤ 64) && decide (PyData.weight d ≤ 2 ^ 20)) = true
  rw [h.cl]
  have := h.dp
  have := k.wt
  simp
  omega
theorem page_str {p : K4.Pg} (tg : K4.tG p) : PyData.strOk (K4.pageT p) = true := K4.ok1_cd (K4.page_asc tg)
theorem Nice.lst {n m : Nat} {ds : List PyData} (h : ∀ d ∈ ds, Nice n d) (w : ds.length ≤ 1000) (e : n + 1 ≤ m) : Nice m (.list ds) := by
  obtain ⟨h1, h2, h3⟩ := nice_all h
  refine ⟨?_, ?_, ?_⟩
  · have : (PyData.list ds).depth = PyData.depthAll ds + 1 := by unfold PyData.depth <;> rfl
    omega
  · simp [thin]
  · simp only [PyData.canLay0]
    exact h3
theorem shw3 {p : K4.Pg} (tg : K4.tG p) : Shw (.list [K4.pgD p, K4.pgD p, .str (K4.pageT p)]) :=
  shw_of (.lst (n := 20) (nc (nice_g tg) (nc (nice_g tg) (n1 (.str (page_str tg))))) (by simp) (by omega)) (ShoL.cons (sho_g tg) (.cons (sho_g tg) (.cons (Sho.str (page_len tg)) .nil (Nat.le_refl _)) (Nat.le_refl _)) (Nat.le_refl _)).lst (by decide)
theorem shw2 {p : K4.Pg} (tg : K4.tG p) : Shw (.list [K4.pgD p, .str (K4.pageT p)]) :=
  shw_of (.lst (n := 20) (nc (nice_g tg) (n1 (.str (page_str tg)))) (by simp) (by omega)) (ShoL.cons (sho_g tg) (.cons (Sho.str (page_len tg)) .nil (Nat.le_refl _)) (Nat.le_refl _)).lst (by decide)
section
variable {P : Program} {w : World} {K : PySem.W.Frag} {mg : Str → Option Value} {base : Heap}
def spRight : Sp := fun vs H Q _ => ∃ (b : Addr), vs = [.ref b] ∧ Bx H b (2 ^ 40) ∧ ∀ (H' : Hp), Sm b H H' → Q (.bl true) H'
theorem ok_right (T : Txt K mg w) : ClbG P w K mg base CX0 170 "_law_right" spRight := by
  have c_q_tree_program := ok_prog (P := P) (base := base) T
  have c_write := ok_write (P := P) (base := base) T
  have c_q_spread := ok_spread (P := P) (base := base) T
  have c_q_plain_words := ok_plain (P := P) (base := base) T
  have c_read := ok_readN (P := P) (base := base) T 160
  have c_q_same := ok_same (P := P) (base := base) T
  have c_q_of := ok_of (P := P) (base := base) T
  have c_q_partner := ok_partner (P := P) (base := base) T
  have c_q_heard := ok_heard (P := P) (base := base) T 160
  refine T.clbG (k := 169) (d := d_q_right) m_q_right rfl T.g_q_right rfl rfl sc_q_right bd_q_right (fun vs H Q E h => ?_) (fun cdv A outer s H vs Q E gd hr h => ?_)
  · obtain ⟨b, rfl, _⟩ := h
    rfl
  · obtain ⟨b, rfl, hb, k⟩ := h
    have hu := hr.units
    refine ⟨_, (pss_cons (ps_set (i := 1) sc_q_right.nd rfl (.inl rfl) (pe_cl c_q_tree_program hr (by first | decide | omega) pass0 (by rfl) (pa_cons (pv 0) pa_nil)))
    (pss_cons (ps_set (i := 2) sc_q_right.nd rfl (.inr rfl) (pe_cl c_write hr (by first | decide | omega) pass0 (by rfl) (pa_cons (pv 1) pa_nil)))
    (pss_setT (i := 3) sc_q_right.nd rfl rfl (pe_cl c_q_spread hr (by first | decide | omega) pass0 (by rfl) (pa_cons (pv 0) (pa_cons (pe_cl c_q_plain_words hr (by first | decide | omega) pass0 (by rfl) (pa_cons (pv 0) (pa_cons (pv 1) pa_nil))) pa_nil))) (psst_cons (PST.of (ps_if (pt_not (pt_val (pe_clG c_q_same gd hr (by first | decide | omega) pass0 (by rfl) (pa_cons (pe_lst (pa_cons (pe_cl c_read hr (by first | decide | omega) pass0 (by rfl) (pa_cons (pv 2) pa_nil)) (pa_cons (pe_cl c_read hr (by first | decide | omega) pass0 (by rfl) (pa_cons (pv 3) pa_nil)) (pa_cons (pe_cl c_write hr (by first | decide | omega) pass0 (by rfl) (pa_cons (pe_cl c_read hr (by first | decide | omega) pass0 (by rfl) (pa_cons (pv 3) pa_nil)) pa_nil)) pa_nil)))) (pa_cons (pe_lst (pa_cons (pv 1) (pa_cons (pv 1) (pa_cons (pv 2) pa_nil)))) pa_nil)))))
    (pss_one (ps_ret pe_bl))
    pss_nil))
    (psst_cons (pst_set (i := 4) sc_q_right.nd rfl (.inl rfl) (CwR.pet_replT (CwR.pet_replC (pv 2))))
    (PSsT.of (pss_cons (ps_if (pt_not (pt_val (pe_clG c_q_same gd hr (by first | decide | omega) pass0 (by rfl) (pa_cons (pe_lst (pa_cons (pe_cl c_read hr (by first | decide | omega) pass0 (by rfl) (pa_cons (pv 4) pa_nil)) (pa_cons (pe_cl c_write hr (by first | decide | omega) pass0 (by rfl) (pa_cons (pe_cl c_read hr (by first | decide | omega) pass0 (by rfl) (pa_cons (pv 4) pa_nil)) pa_nil)) pa_nil))) (pa_cons (pe_lst (pa_cons (pv 1) (pa_cons (pv 2) pa_nil))) pa_nil)))))
    (pss_one (ps_ret pe_bl))
    pss_nil)
    (pss_cons (ps_setLc (i := 6) (own := [("_law_at", 5)]) (g := gName 5) rfl sc_q_right.nd rfl rfl (sw_true rfl rfl rfl (by decide +kernel)) (pi_range1 (by rfl) T.f_range (pa_cons (pe_callB call_len (by rfl) T.f_len (by decide +kernel) (pa_cons (pv 2) pa_nil)) pa_nil)) (blkOk_by (own := [("_law_at", 5)]) (N := N_q_right) (sc := defScope s_q_right) (by decide +kernel)) (fun _ _ _ _ _ => pg_name (i := 5) sc_q_right.nd rfl (.inl rfl)) (fun _ _ _ _ _ => pts_one (pt_cmpR op_eq (pe_ix ix_str (pv 2) (pv 5) (fun _ _ => rfl)) pe_str (nomark _))) (fun _ _ _ _ _ => (pv 5)))
    (pss_cons (ps_for PassesOwn.never rfl (pi_range1 (by rfl) T.f_range (pa_cons (pe_callB (call_min2 rfl) (by rfl) T.f_min (by decide +kernel) (pa_cons pe_int (pa_cons (pe_callB call_len (by rfl) T.f_len (by decide +kernel) (pa_cons (pv 6) pa_nil)) pa_nil))) pa_nil)) (pg_name (i := 7) sc_q_right.nd rfl (.inl rfl))
    (pss_cons (ps_set (i := 5) sc_q_right.nd rfl (.inl rfl) (pe_cl c_q_of hr (by first | decide | omega) pass0 (by rfl) (pa_cons (pv 0) (pa_cons (pv 6) pa_nil))))
    (pss_cons (ps_set (i := 8) sc_q_right.nd rfl (.inl rfl) (pe_cl c_q_partner hr (by first | decide | omega) pass0 (by rfl) (pa_cons (pv 2) (pa_cons (pv 5) pa_nil))))
    (pss_cons (ps_set (i := 9) sc_q_right.nd rfl (.inl rfl) (pe_op op_add_str (pe_op op_add_str (pe_op op_add_str (pe_op op_add_str (pe_slice sl_str (pv 2) po_none (po_some (pv 5))) pe_str) (pe_slice sl_str (pv 2) (po_some (pe_op op_add (pv 5) pe_int)) (po_some (pv 8)))) pe_str) (pe_slice sl_str (pv 2) (po_some (pe_op op_add (pv 8) pe_int)) po_none)))
    (pss_one (ps_if (PW.pt (pw_and (pt_cmpR op_isN (pe_cl c_q_heard hr (by first | decide | omega) pass0 (by rfl) (pa_cons (pv 9) pa_nil)) pe_non (nomark _)) (pw_and1 (pt_cmpR (op_eqM hu) (pe_cl c_read hr (by first | decide | omega) pass0 (by rfl) (pa_cons (pv 9) pa_nil)) (pv 1) (nomark _)))))
    (pss_one (ps_ret pe_bl))
    pss_nil))))))
    (pss_one (ps_ret pe_bl))))))))))), ?_⟩
    have s9 := sL
    have big : 2 * cF + 2 + 8000 ≤ 2 ^ 40 := by decide +kernel
    walk_at "rd"
    refine ⟨b, 8000, rfl, hb.mono (by omega), fun p v H1 tg hv B1 S1 => ?_⟩
    have ni := nice_g tg
    have pl := page_len tg
    have gl := len_g tg
    have pcl : (K4.cd (K4.pageT p)).length = (K4.pageT p).length := K4.cd_len _
    walk_at "rd"
    refine ⟨p, _, rfl, tg, hv, by have := ni.dp; omega, ni.th, by omega, fun H2 S2 => ?_⟩
    have hv2 := hv.keep (Tp.of S2)
    have B2 := (B1.bo.same S2).bx
    have S2' := S1.trans (Sm.of S2)
    walk_at "rd"
    refine ⟨b, v, p, 7800, rfl, tg, hv2, B2.mono (by omega), fun l ws H3 nl atl rp wl B3 S3 => ?_⟩
    have lb : l ≠ b := fun z => B2.there (by rw [← z]; exact nl)
    have hV := ch_inV ws _ (K4.tG_ch tg rp)
    walk_at "rd"
    refine ⟨b, l, ws, 4000, rfl, atl, lb, hV, by omega, B3.mono (by omega), fun pc t x H4 e1 gp gT ex xl B4 S4 => ?_⟩
    have hv4 := (hv2.keep (S3.tp B2.notup)).keep (S4.tp B3.notup)
    have S4' := (S2'.trans S3).trans S4
    have rO : ∃ o, K4.pRead K4.dep (K4.toks (K4.cd x)) = .ok p [o] := by
      rw [ex]
      exact K4.text_ok tg (by rw [e1]; exact rp) gp gT
    have xl' : x.length ≤ 2 ^ 20 := by omega
    walk_at "rd"
    refine ⟨(by omega), ?_⟩
    obtain ⟨o1, ho1⟩ := K4.page_ok tg
    rw [show K4.pRead 160 (K4.toks (K4.cd (K4.pageT p))) = .ok p [o1] from ho1]
    refine fun v1 H5 h1 S5 => ?_
    walk_at "rd"
    refine ⟨xl', ?_⟩
    obtain ⟨o2, ho2⟩ := rO
    rw [show K4.pRead 160 (K4.toks (K4.cd x)) = .ok p [o2] from ho2]
    refine fun v2 H6 h2 S6 => ?_
    walk_at "rd"
    refine ⟨xl', ?_⟩
    rw [show K4.pRead 160 (K4.toks (K4.cd x)) = .ok p [o2] from ho2]
    refine fun v3 H7 h3 S7 => ?_
    walk_at "rd"
    refine ⟨p, _, rfl, tg, h3, by have := ni.dp; omega, ni.th, by omega, fun H8 S8 => ?_⟩
    have S48 := ((S5.trans S6).trans S7).trans S8
    have h1' := h1.keep (Tp.of ((S6.trans S7).trans S8))
    have h2' := h2.keep (Tp.of (S7.trans S8))
    have hv8 := hv4.keep (Tp.of S48)
    walk_at "rd"
    refine ⟨sz rfl, fun L1 n1 => ?_⟩
    walk_at "rd"
    refine ⟨sz rfl, fun L2 n2 => ?_⟩
    have w3 := shw3 tg
    walk_at "rd"
    refine ⟨L1, L2, _, rfl, .lst (sq_of (at_new upd_same n2)) (.cons ((h1'.new n1).new n2).dp (.cons ((h2'.new n1).new n2).dp (.cons (.str _) .nil))), .lst (sq_of upd_same) (.cons ((hv8.new n1).new n2).dp (.cons ((hv8.new n1).new n2).dp (.cons (.str _) .nil))), w3.sh, w3.nd, w3.dp, w3.ln, ?_⟩
    have B9 := (((B4.bo.same S48).new n1 (o := .lst [v1, v2, .str (K4.pageT p)])).new n2 (o := .lst [v, v, .str (K4.pageT p)])).bx
    have S9 := (((S4'.trans (Sm.of S48)).upd_new n1 (o := .lst [v1, v2, .str (K4.pageT p)])).upd_new n2 (o := .lst [v, v, .str (K4.pageT p)]))
    have hv9 := ((hv8.new n1 (o := .lst [v1, v2, .str (K4.pageT p)])).new n2 (o := .lst [v, v, .str (K4.pageT p)]))
    generalize upd (upd H8 L1 (.lst [v1, v2, .str (K4.pageT p)])) L2 (.lst [v, v, .str (K4.pageT p)]) = H9 at B9 S9 hv9
    clear hv8 h1' h2' h1 h2 h3 S48
    walk_at "tg"
    have ll1 : (" " : Str).length = 1 := by decide
    have ll3 : (" \n " : Str).length = 3 := by decide
    have r1 := r1_len (K4.pageT p)
    refine ⟨by rw [ll1]; omega, ?_⟩
    walk_at "rd"
    refine ⟨by rw [ll3, r1]; omega, ?_⟩
    have ew := wide_eq (K4.pageT p)
    have lw : (Txt.replace (Txt.replace (K4.pageT p) "\n" " ") " " " \n ").length ≤ 2 ^ 20 := by
      rw [← K4.cd_len, ew]
      have := widen_len (K4.cd (K4.pageT p))
      omega
    obtain ⟨oW, hoW⟩ := K4.wide_ok tg
    rw [← ew] at hoW
    generalize Txt.replace (Txt.replace (K4.pageT p) "\n" " ") " " " \n " = wide at ew lw hoW
    walk_at "rd"
    refine ⟨lw, ?_⟩
    rw [show K4.pRead 160 (K4.toks (K4.cd wide)) = .ok p [oW] from hoW]
    refine fun v4 H10 h4 S10 => ?_
    walk_at "rd"
    refine ⟨lw, ?_⟩
    rw [show K4.pRead 160 (K4.toks (K4.cd wide)) = .ok p [oW] from hoW]
    refine fun v5 H11 h5 S11 => ?_
    walk_at "rd"
    refine ⟨p, _, rfl, tg, h5, by have := ni.dp; omega, ni.th, by omega, fun H12 S12 => ?_⟩
    have S912 := (S10.trans S11).trans S12
    have h4' := h4.keep (Tp.of (S11.trans S12))
    have hv12 := hv9.keep (Tp.of S912)
    walk_at "rd"
    refine ⟨sz rfl, fun L3 n3 => ?_⟩
    walk_at "rd"
    refine ⟨sz rfl, fun L4 n4 => ?_⟩
    have w2 := shw2 tg
    walk_at "rd"
    refine ⟨L3, L4, _, rfl, .lst (sq_of (at_new upd_same n4)) (.cons ((h4'.new n3).new n4).dp (.cons (.str _) .nil)), .lst (sq_of upd_same) (.cons ((hv12.new n3).new n4).dp (.cons (.str _) .nil)), w2.sh, w2.nd, w2.dp, w2.ln, ?_⟩
    have B13 := (((B9.bo.same S912).new n3 (o := .lst [v4, .str (K4.pageT p)])).new n4 (o := .lst [v, .str (K4.pageT p)])).bx
    have S13 := (((S9.trans (Sm.of S912)).upd_new n3 (o := .lst [v4, .str (K4.pageT p)])).upd_new n4 (o := .lst [v, .str (K4.pageT p)]))
    have hv13 := ((hv12.new n3 (o := .lst [v4, .str (K4.pageT p)])).new n4 (o := .lst [v, .str (K4.pageT p)]))
    generalize upd (upd H12 L3 (.lst [v4, .str (K4.pageT p)])) L4 (.lst [v, .str (K4.pageT p)]) = H13 at B13 S13 hv13
    clear hv12 h4' h4 h5 S912 hv9 B9 S9
    walk_at "tg"
    refine ⟨_, _, rfl, ⟨by omega, rfl⟩, ?_⟩
    walk_at "rd"
    refine ⟨by omega, by omega, fun D nD => lc_range (lo := 0) (n := ((K4.pageT p).length : Int).toNat) (fun i H => ∃ as : List Nat, as.length ≤ i ∧ (∀ n ∈ as, (K4.cd (K4.pageT p))[n]? = some 40) ∧ H D = some (.lst (as.map fun n : Nat => V.int n)) ∧ Same H13 H) ?_ ?_ ?_⟩
    · exact ⟨[], Nat.le_refl _, fun n h => (nomatch h), upd_same, same_new nD⟩
    · rintro i H14 hi ⟨as, al, hc, atD, S14⟩
      rw [Int.toNat_natCast] at hi
      obtain ⟨c, hcc⟩ : ∃ c, (K4.cd (K4.pageT p))[i]? = some c := ⟨_, List.getElem?_eq_getElem (by omega)⟩
      have hc' : atI (K4.pageT p).cps.toList ((0 : Int) + i) = some c := by
        rw [Int.zero_add]
        exact atI_nat hcc
      refine ⟨rfl, ?_⟩
      walk_at "rd"
      refine ⟨_, _, c, rfl, rfl, by omega, hc', ?_⟩
      walk_at "rd"
      have d1 := str_is c "(" 40 rfl
      refine ite2 (fun z => ?_) (fun z => ?_)
      · have c40 : c = 40 := of_decide_eq_true (by rw [← d1]; exact z)
        walk_at "rd"
        refine ⟨_, atD, Nat.lt_of_lt_of_le (show (as.map fun n : Nat => V.int n).length < 20000 by rw [List.length_map]; omega) (by omega), as ++ [i], by simp; omega, fun n hn => ?_, ?_, Same.own S14 nD⟩
        · rcases List.mem_append.mp hn with h | h
          · exact hc n h
          · rw [List.mem_singleton.mp h, hcc, c40]
        · rw [upd_same, List.map_append, Int.zero_add]
          rfl
      · exact ⟨as, by omega, hc, atD, S14⟩
    rintro H14 ⟨as, al, hc, atD, S14⟩
    rw [Int.toNat_natCast] at al
    have Db : D ≠ b := fun z => B13.there (by rw [← z]; exact nD)
    have B14 := (B13.bo.same S14).bx
    have S14' := S13.trans (Sm.of S14)
    have hv14 := hv13.keep (Tp.of S14)
    clear hv13 B13 S13 S14 nD
    walk_at "rd"
    refine ⟨_, as.length, rfl, .inl ⟨_, sq_of atD, by rw [List.length_map]⟩, ?_⟩
    walk_at "rd"
    have m0 : (0 : Int) ≤ (if (as.length : Int) < 8 then (as.length : Int) else 8) ∧ (if (as.length : Int) < 8 then (as.length : Int) else 8) ≤ 8 ∧ (if (as.length : Int) < 8 then (as.length : Int) else 8) ≤ as.length := by split <;> omega
    refine ⟨8, as.length, rfl, ?_⟩
    generalize (if (as.length : Int) < 8 then (as.length : Int) else 8) = nn at m0
    walk_at "rd"
    refine ⟨by omega, by omega, for_range (lo := 0) (n := nn.toNat) (fun i σ H1 => ∃ (y5 y7 y8 y9 : Option V), σ = [some (.ref b), some v, some (.str (K4.pageT p)), some (.str x), some (.str wide), y5, some (.ref D), y7, y8, y9] ∧ H1 D = some (.lst (as.map fun n : Nat => V.int n)) ∧ Bx H1 b (100 + (8 - i)) ∧ Va H1 v (K4.pgD p) ∧ Sm b H H1) ?_ ?_ ?_⟩
    · exact ⟨none, none, none, none, rfl, atD, B14.mono (by omega), hv14, S14'⟩
    · rintro i σ H1 hi ⟨y5, y7, y8, y9, rfl, atD, B, hv1, S1⟩
      walk_at "rd"
      refine ⟨b, D, as.map fun n : Nat => V.int n, 100 + (8 - (i + 1)), rfl, atD, Db, by rw [List.length_map]; omega, by rw [List.length_map]; omega, B.mono (by omega), fun j u H2 hu' B2 S2 => ?_⟩
      obtain ⟨a, ha, rfl⟩ := mem_map_int hu'
      have h40 := hc a ha
      have al : a < (K4.pageT p).length := by rw [← pcl]; exact (List.getElem?_eq_some_iff.mp h40).1
      have atD2 := S2 D _ atD Db
      have hv2 := hv1.keep (S2.tp B.notup)
      have S2' := S1.trans S2
      walk_at "rd"
      refine ⟨_, a, rfl, h40, by omega, fun e he => ?_⟩
      have el : e < (K4.pageT p).length := by
        rcases he with rfl | ⟨_, h⟩
        · exact al
        · rw [← pcl]
          exact (List.getElem?_eq_some_iff.mp h).1
      have lf := less_fact tg h40 he
      have lc := less_cut (K4.pageT p) a e al el
      walk_at "rd"
      have q1 := cutS_length (K4.pageT p) none (some (a : Int))
      have q2 := cutS_length (K4.pageT p) (some ((a : Int) + 1)) (some (e : Int))
      have q3 := cutS_length (K4.pageT p) (some ((e : Int) + 1)) none
      refine ⟨by omega, ?_⟩
      walk_at "rd"
      refine ⟨by first | omega | (simp only [sl_app]; omega), ?_⟩
      walk_at "rd"
      refine ⟨by omega, ?_⟩
      walk_at "rd"
      refine ⟨by first | omega | (simp only [sl_app]; omega), ?_⟩
      walk_at "rd"
      refine ⟨by first | omega | (simp only [sl_app]; omega), ?_⟩
      walk_at "rd"
      refine ⟨by omega, ?_⟩
      walk_at "rd"
      refine ⟨by first | omega | (simp only [sl_app]; omega), ?_⟩
      have ll : (cutS (K4.pageT p) none (some (a : Int)) ++ " " ++ cutS (K4.pageT p) (some ((a : Int) + 1)) (some (e : Int)) ++ " " ++ cutS (K4.pageT p) (some ((e : Int) + 1)) none).length ≤ 2 ^ 20 := by
        simp only [sl_app]
        omega
      rw [← lc] at lf
      have la := less_asc tg a e
      rw [← lc] at la
      generalize cutS (K4.pageT p) none (some (a : Int)) ++ " " ++ cutS (K4.pageT p) (some ((a : Int) + 1)) (some (e : Int)) ++ " " ++ cutS (K4.pageT p) (some ((e : Int) + 1)) none = less at lf ll la
      walk_at "rd"
      refine ⟨ll, ?_⟩
      have lf : K4.pRead 160 (K4.toks (K4.cd less)) ≠ .out ∧ ∀ q ts, K4.pRead 160 (K4.toks (K4.cd less)) = .ok q ts → q ≠ p := lf
      have next : ∀ H3, Same H2 H3 → ∃ (z5 z7 z8 z9 : Option V), [some (V.ref b), some v, some (.str (K4.pageT p)), some (.str x), some (.str wide), some (.int (a : Nat)), some (.ref D), some (.int (0 + (i : Nat))), some (.int (e : Nat)), some (.str less)] = [some (.ref b), some v, some (.str (K4.pageT p)), some (.str x), some (.str wide), z5, some (.ref D), z7, z8, z9] ∧ H3 D = some (.lst (as.map fun n : Nat => V.int n)) ∧ Bx H3 b (100 + (8 - (i + 1))) ∧ Va H3 v (K4.pgD p) ∧ Sm b H H3 := fun H3 S3 =>
        ⟨_, _, _, _, rfl, S3 D _ atD2, (B2.bo.same S3).bx, hv2.keep (Tp.of S3), S2'.trans (Sm.of S3)⟩
      cases hres : K4.pRead 160 (K4.toks (K4.cd less)) with
      | out => exact absurd hres lf.1
      | err n =>
        refine fun H3 S3 => ?_
        walk_at "tg"
        exact next H3 S3
      | ok q ts =>
        refine fun H3 S3 => ?_
        walk_at "tg"
        refine ⟨ll, ?_⟩
        rw [hres]
        refine fun v6 H4 h6 S4 => ?_
        have ev : PyData.eqv (K4.pgD q) (K4.pgD p) = false := by
          cases h : PyData.eqv (K4.pgD q) (K4.pgD p) with
          | false => rfl
          | true => exact absurd (K4.pg_inj h) (lf.2 q ts hres)
        walk_at "rd"
        refine ⟨K4.pgD q, K4.pgD p, h6.dp, ((hv2.keep (Tp.of S3)).keep (Tp.of S4)).dp, K4.pRead_Y (K4.toks_W la) hres, ni.cl, by have := ni.dp; omega, ?_⟩
        rw [ev]
        walk_at "tg"
        exact next H4 (S3.trans S4)
    · rintro σ H1 ⟨y5, y7, y8, y9, rfl, atD, B, hv1, S1⟩
      walk_at "rd"
      exact k H1 S1
end
end W4
set_option Elab.async false
set_option linter.all false
set_option maxRecDepth 100000
set_option maxHeartbeats 4000000
set_option pp.maxSteps 400
namespace W4
open PySem PySem.Spec PyProof.Rows L2
local macro_rules | `(tactic| walk_at "rd") => `(tactic| repeat (first | refine ⟨_, rfl, ?_⟩ | refine ⟨_, _, rfl, rfl, ?_⟩ | refine ⟨rfl, _, rfl, ?_⟩))
local macro_rules | `(tactic| walk_at "tg") => `(tactic| repeat (first | refine iteBt (by decide +kernel) ?_ | refine iteBf (by decide +kernel) ?_ | refine ⟨_, rfl, ?_⟩ | refine ⟨_, _, rfl, rfl, ?_⟩ | refine ⟨rfl, _, rfl, ?_⟩))
abbrev N_law : List Str := ["_law_script", "_law_cells_here", "_law_k", "_law_box_here", "_law_turn"]
abbrev P_law : List Str := ["_law_script"]
theorem sc_law : FnScope N_law P_law (defScope s_law) := ⟨rfl, rfl, rfl, by decide +kernel, rfl, by decide +kernel, by decide +kernel⟩
theorem bd_law (kV doc pm : Value) (an : Option Addr) (cdv ct : Value) (us : List Value) (hl : us.length = P_law.length) : bindArgs (PySem.W.fnOf d_law.name d_law.qual d_law.params d_law.body d_law.scope .none kV doc pm an cdv ct) ⟨us, []⟩ = pure (P_law.zip us) := match us, hl with | [_], _ => rfl
section
variable {P : Program} {w : World} {K : PySem.W.Frag} {mg : Str → Option Value} {base : Heap}
def spLaw (K : PySem.W.Frag) : Sp := fun vs H Q _ => ∃ (a : Addr) (ns : List Int), vs = [.ref a] ∧ SqL K H a (ns.map V.int) ∧ ns.length ≤ 63 ∧ ∀ H', Q (.bl true) H'
theorem law_body (T : Txt K mg w) (cdv : Value) (A : Around) (outer : List Env) (s : Shared) (H : Hp) (vs : List V) (Q : VK) (E : XK) (gd : A.guards = some []) (hr : Room 170 (A.deeper (envOfC d_law.qual d_law.scope s.heap.objs.size (He.fAd K d_law.at_) cdv))) (h : spLaw K vs H Q E) :
    ∃ t, PSs (cxOf CX0 P w K mg base N_law d_law.qual d_law.scope (He.fAd K d_law.at_) cdv A outer s H E).nox d_law.body t ∧ t { nx := fun _ H' => Q .non H', rt := Q } (start N_law vs) H := by
  have c_q_cells := ok_cells (P := P) (base := base) T
  have c_q_box := ok_box (P := P) (base := base) T
  have c_q_right := ok_right (P := P) (base := base) T
  · obtain ⟨a, ns, rfl, hS, nl, k⟩ := h
    refine ⟨_, (pss_cons (ps_set (i := 1) sc_law.nd rfl (.inl rfl) (pe_cl c_q_cells hr (by first | decide | omega) pass0 (by rfl) (pa_cons (pv 0) (pa_cons pe_int pa_nil))))
    (pss_cons (ps_for PassesOwn.never rfl (pi_range1 (by rfl) T.f_range (pa_cons (pe_callB call_len (by rfl) T.f_len (by decide +kernel) (pa_cons (pv 1) pa_nil)) pa_nil)) (pg_name (i := 2) sc_law.nd rfl (.inl rfl))
    (pss_cons (ps_set (i := 3) sc_law.nd rfl (.inr rfl) (pe_cl c_q_box hr (by first | decide | omega) pass0 (by rfl) (pa_cons (pv 1) (pa_cons (pv 2) pa_nil))))
    (pss_one (ps_if (pt_not (pt_val (pe_callB (cr_all rfl) (by rfl) T.f_all (by decide +kernel) (pa_cons (pe_lc (own := [("_law_turn", 4)]) (g := gName 4) rfl sc_law.nd (pi_range1 (by rfl) T.f_range (pa_cons pe_int pa_nil)) (blkOk_by (own := [("_law_turn", 4)]) (N := N_law) (sc := defScope s_law) (by decide +kernel)) (fun _ _ _ _ _ => pg_name (i := 4) sc_law.nd rfl (.inl rfl)) (fun _ _ _ _ _ => pts_nil) (fun _ _ _ _ _ => (pe_clG c_q_right gd hr (by first | decide | omega) pass0 (by rfl) (pa_cons (pv 3) pa_nil)))) pa_nil))))
    (pss_one (ps_ret pe_bl))
    pss_nil))))
    (pss_one (ps_ret pe_bl)))), ?_⟩
    walk_at "rd"
    refine ⟨a, ns, rfl, hS, nl, fun l cs H1 c0 c3 nl atl S1 => ?_⟩
    walk_at "rd"
    refine ⟨_, cs.length, rfl, .inl ⟨_, sq_of atl, by rw [List.length_map]⟩, ?_⟩
    walk_at "rd"
    refine ⟨by omega, by omega, for_range (lo := 0) (n := ((cs.length : Nat) : Int).toNat) (fun i σ H2 => ∃ (y2 y3 y4 : Option V), σ = [some (.ref a), some (.ref l), y2, y3, y4] ∧ H2 l = some (.lst (cs.map V.int))) ?_ ?_ ?_⟩
    · exact ⟨none, none, none, rfl, atl⟩
    · rintro i σ H2 hi ⟨y2, y3, y4, rfl, at2⟩
      rw [Int.toNat_natCast] at hi
      walk_at "rd"
      refine ⟨l, cs, i, by rw [Int.zero_add]; rfl, sq_of at2, hi, c3, fun b H3 nb S3 B3 => ?_⟩
      have at3 := S3 l _ at2
      have lb : l ≠ b := fun z => by rw [z, nb] at at2; cases at2
      walk_at "rd"
      refine ⟨by decide, by decide, fun D nD => lc_range (lo := 0) (n := (1 : Int).toNat) (fun i H4 => H4 l = some (.lst (cs.map V.int)) ∧ ∃ vs : List V, H4 D = some (.lst vs) ∧ vs.length ≤ i ∧ (∀ x ∈ vs, x = .bl true) ∧ (i = 0 → Bx H4 b (2 ^ 40))) ?_ ?_ ?_⟩
      · exact ⟨at_new at3 nD, [], upd_same, Nat.le_refl _, fun x hx => (nomatch hx), fun _ => B3.new nD⟩
      · rintro j H4 hj ⟨at4, vs, atD, vl, hx, hB⟩
        have j0 : j = 0 := by
          have : (1 : Int).toNat = 1 := rfl
          omega
        subst j0
        refine ⟨rfl, ?_⟩
        walk_at "rd"
        have B4 := hB rfl
        have Db : D ≠ b := fun z => B3.there (by rw [← z]; exact nD)
        have Dl : l ≠ D := fun z => by rw [z, nD] at at3; cases at3
        refine ⟨B4, fun H5 S5 => ?_⟩
        refine ⟨vs, S5 D _ atD Db, Nat.lt_of_le_of_lt vl (by decide), by rw [upd_ne Dl]; exact S5 l _ at4 lb, vs ++ [.bl true], upd_same, by rw [List.length_append, List.length_singleton]; omega, fun x h => ?_, fun z => by omega⟩
        rcases List.mem_append.mp h with h | h
        · exact hx x h
        · exact List.mem_singleton.mp h
      · rintro H4 ⟨at4, vs, atD, vl, hx, _⟩
        walk_at "rd"
        have eb : vs = (vs.map fun _ => true).map V.bl := by
          rw [List.map_map]
          exact (List.map_id vs).symm.trans (List.map_congr_left fun x h => hx x h)
        refine ⟨D, vs.map fun _ => true, rfl, sq_of (by rw [← eb]; exact atD), ?_⟩
        rw [show (vs.map fun _ => true).all id = true by simp]
        walk_at "tg"
        exact ⟨_, _, _, rfl, at4⟩
    · rintro σ H2 ⟨y2, y3, y4, rfl, at2⟩
      walk_at "rd"
      exact k H2
end
end W4
set_option Elab.async false
set_option linter.all false
set_option maxRecDepth 100000
set_option maxHeartbeats 0
namespace W4
open PySem PySem.Spec PyProof.Rows L2
theorem law_facts {P : Program} {w : World} {K : PySem.W.Frag} {h h0 : Heap} {mg : Str → Option Value} {f : Addr} (X : K.In h) (G : h.Ns mainGlobals mg) (hfa : mg ("law" : Str) = some (.ref f)) (c : He.SaysX fa fn tabs [] ex w h0 K) :
    ∃ fd : FuncData, (∀ (s : Shared) (v : Value), BindsTo s fd ⟨[v], []⟩ [("_law_script", v)]) ∧ ∀ base : Heap, K.In base → base.Ns mainGlobals mg → FnG P w K mg base CX0 171 f fd ["_law_script"] (spLaw K) := by
  have T := txt_of X G c
  obtain ⟨fd, F⟩ := T.funD (d := d_law) m_law rfl rfl
  have e := hfa.symm.trans T.g_law
  cases e
  refine ⟨fd, fun s v => FunD.bindsA (ps := ["_law_script"]) F bd_law s [v] rfl, fun base _ _ => ?_⟩
  refine FunD.okG F sc_law (fun vs H Q E h => ?_) fun cdv A outer s H vs Q E gd hr h => ?_
  · obtain ⟨a, ns, rfl, _⟩ := h
    rfl
  · obtain ⟨t, h, q⟩ := law_body T cdv A outer s H vs Q E gd hr h
    exact ⟨t, h.nox, q⟩
end W4
open PySem PySem.W PySem.Calls PyProof.Rows
theorem PySem.Challenge.cw_lastingrun_k04_whole_read_and_write_holds : PySem.Challenge.rw_lastingrun_k04_whole_read_and_write.Holds := by
  w_on; o_law
  refine HandSHeadRun.head_any (r := OpenLaw.row PySem.Challenge.rw_lastingrun_k04_whole_read_and_write) (q := view (OpenLaw.row PySem.Challenge.rw_lastingrun_k04_whole_read_and_write).prog [73]) (H := W4.hk) (ob := W4.ob) (M := 5000) (loose := W4.names) (d := HandSHeadRun.topDef (OpenLaw.row PySem.Challenge.rw_lastingrun_k04_whole_read_and_write).prog 73) (kwd := []) W4.ob_eq
    (by kernel_rfl) (fun s => by kernel_rfl) W4.run (by kernel_rfl) (by kernel_rfl) (by kernel_rfl) (by rfl) (by first | assumption | decide +kernel) (by decide +kernel) ⟨rfl, rfl, rfl, rfl, rfl, by decide +kernel⟩ ?hw ?hc
  case hw => w_witness2
  case hc =>
    refine W4.walkG (l := PySem.Challenge.rw_lastingrun_k04_whole_read_and_write) (n := 63) (k := 171) (x := "_law_script") (CX := L2.CX0) rfl (by decide) (by kernel_rfl) ⟨rfl, by decide, by decide⟩ ?F (fun _ _ _ _ z => z)
    intro w mg fa h Y G hmg0
    obtain ⟨K, KX, c⟩ := Y
    have hmg : mg ("law" : PySem.Str) = some (.ref fa) := by
      have e : (HandSHeadRun.topDef (OpenLaw.row PySem.Challenge.rw_lastingrun_k04_whole_read_and_write).prog 73).name = ("law" : PySem.Str) := by kernel_rfl
      rw [← e]
      exact hmg0
    obtain ⟨fd, hb, hF⟩ := W4.law_facts (P := (PySem.Challenge.rw_lastingrun_k04_whole_read_and_write).prog) (w := w) KX G hmg c
    exact ⟨K, fd, W4.spLaw K, KX, hb, fun H a ns hl _ hS => ⟨a, ns, rfl, hS, hl, fun _ => rfl⟩, hF⟩
