import PyProof.Rows.All
import Wide.All
import OpenK.AllK
import Wide.FinOn
import HandS.ForMost
import HandS.Defaults
import HandS.More
import HandS.Star
import HandS.ClsMeth
import HandS.IsInst
import HandS.Lambda
import HandS.Property
import HandS.MakeKwOnly
import HandS.HeadNt
import HandS.HeadHook4
import HandS.Head0
import HandS.Head1
import HandS.Head2
import HandS.HeadHook1
import HandS.TupAny
import KE.GoesMore
import KE.GoesEnum
import HandS.DeepEq
import HandS.ListEq
import HandS.WordsDict
import KE.SortKeyHeap
import PyProof.TupleOfSeq
import KE.KSuper
import HandS.Nested
import HandS.SetBool
import HandS.SetTxt0
import HandS.Wide
import PyProof.ReprRoads
import PyProof.ReprBulk
import HandS.HeadWalk
import HandS.EndBits
import PySem.Challenge.RW_pastnotes_k29_whole_rests_put_in
set_option Elab.async false
set_option linter.all false
set_option maxRecDepth 100000
-- PnA
set_option
      maxHeartbeats 4000000
namespace Pn
open PySem PySem.Spec L2 PyProof.Rows StX

/-- what is known of the guards that run, where it is asked -/
def Gd (gb : Bool) (A : Around) : Prop := gb = true → A.guards = some []
theorem Gd.no {A : Around} : Gd false A := fun h => nomatch h
theorem Gd.deeper {gb : Bool} {A : Around} (g : Gd gb A) (env : Env) : Gd gb (A.deeper env) := fun h => g h
theorem Gd.in1 {gb : Bool} {A : Around} (g : Gd gb A) : Gd gb A.in1 := fun h => g h

/-- a call's reading by values: the arguments by place, those by keyword -/
abbrev RC := List V → List V → Hp → VK → Prop

/-- the object at f, called with arguments by place and by the keywords ks, keeps r -/
def CallP (P : Program) (w : World) (K : PySem.W.Frag) (mg : Str → Option Value) (base : Heap) (gb : Bool) (k : Nat) (f : Addr) (ks : List Str) (r : RC) : Prop :=
  ∀ (A : Around) (outer : List Env) (s : Shared) (H : Hp) (us ws : List Value) (vs zs : List V) (Q : VK),
    Room k A → Gd gb A → Env0 P w K mg base A outer s H → Vals vs us → Vals zs ws → zs.length = ks.length → r vs zs H Q →
    codeAny (model P w) A (.call (.ref f) ⟨us, ks.zip ws⟩) (CR CX0 outer P w H s Q E0) s

section
variable {P : Program} {w : World} {K : PySem.W.Frag} {mg : Str → Option Value} {base : Heap} {gb : Bool} {j k : Nat} {f : Addr} {ks : List Str} {r r' : RC}
theorem CallP.mono (C : CallP P w K mg base gb j f ks r) (h : j ≤ k) : CallP P w K mg base gb k f ks r :=
  fun A outer s H us ws vs zs Q hr hg e0 rv rz hz hq => C A outer s H us ws vs zs Q (hr.mono h) hg e0 rv rz hz hq
theorem CallP.imp (C : CallP P w K mg base gb k f ks r) (h : ∀ vs zs H Q, r' vs zs H Q → r vs zs H Q) : CallP P w K mg base gb k f ks r' :=
  fun A outer s H us ws vs zs Q hr hg e0 rv rz hz hq => C A outer s H us ws vs zs Q hr hg e0 rv rz hz (h _ _ _ _ hq)
theorem CallP.of_fn {fd : FuncData} {ps : List Str} {sp : Sp} (F : FnOk P w K mg base CX0 k f fd ps sp) (b : Binds K fd ps []) :
    CallP P w K mg base gb k f [] (fun vs _ H Q => sp vs H Q E0) := by
  intro A outer s H us ws vs zs Q hr _ e0 rv rz hz hq
  have hl : us.length = ps.length := by rw [← rv.length]; exact F.len _ _ _ _ hq
  have X : K.In s.heap := e0.mod.kin.keeps fun b o e => (e0.bs b o e).1
  have hb := b s us X (by rw [List.append_nil]; exact hl)
  rw [List.append_nil] at hb
  exact F.run A outer s H ⟨us, []⟩ us vs Q E0 hr e0 hb rv hq
end

/-! ### a def by its body -/
section
variable {P : Program} {w : World} {K : PySem.W.Frag} {mg : Str → Option Value} {base : Heap} {gb : Bool} {k : Nat} {f : Addr} {fd : FuncData} {x qual : Str} {params : Arguments} {body : List Stmt} {scope : Scope} {dvs : List V} {kws : List (Str × V)}
/-- n arguments by place, the keywords ks: gs puts them in the order of ps -/
structure Bk (fd : FuncData) (ps : List Str) (n : Nat) (ks : List Str) : Prop where
  to : ∀ us ws : List Value, us.length = n → ws.length = ks.length → bindArgs fd ⟨us, ks.zip ws⟩ = pure (ps.zip (us ++ ws))
  len : ps.length = n + ks.length
theorem call_def {N ps ks : List Str} {n : Nat} {r : RC} (F : FunD K x qual params body scope dvs kws f fd) (S : FnScope N ps scope) (b : Bk fd ps n ks) (len : ∀ vs zs H Q, r vs zs H Q → vs.length = n)
    (hbody : ∀ (cdv : Value) (A : Around) (outer : List Env) (s : Shared) (H : Hp) (vs zs : List V) (Q : VK), Room k (A.deeper (envOfC qual scope s.heap.objs.size f cdv)) → Gd gb A → zs.length = ks.length → r vs zs H Q →
      ∃ t, PSs (cxOf CX0 P w K mg base N qual scope f cdv A outer s H E0).nox body t ∧ t { nx := fun _ H' => Q .non H', rt := Q } (start N (vs ++ zs)) H) :
    CallP P w K mg base gb (k + 1) f ks r := by
  intro A outer s H us ws vs zs Q hr hg e0 rv rz hz hq
  obtain ⟨oc, od, dV, kV, doc, pm, an, cdv, ct, osl, rfl, lk, hcd, _, _⟩ :=
        F.ex
  have hl := len _ _ _ _ hq
  have lu : us.length = n := by rw [← rv.length]; exact hl
  have lw : ws.length = ks.length := by rw [← rz.length]; exact hz
  have hb : BindsTo s (PySem.W.fnOf x qual params body scope dV kV doc pm an cdv ct) ⟨us, ks.zip ws⟩ (ps.zip (us ++ ws)) := .of_eq (b.to us ws lu lw)
  refine LamX.run_ofS (N := N) (ps := ps) lk hcd S hr e0 hb (rv.append rz) ?_ fun hr2 => ?_
  · rw [List.length_append, hl, hz, b.len]
  · obtain ⟨t, h1, h2⟩ := hbody cdv A outer s H vs zs Q hr2 hg hz hq
    exact ⟨t, h1.nox, h2⟩
/-- def f(a, .., *v, k, ..): n arguments by place, what is left over is a new tuple, the keywords ks -/
structure BkS (fd : FuncData) (ps : List Str) (pv : Str) (n : Nat) (ks : List Str) : Prop where
  to : ∀ us rest ws : List Value, us.length = n → ws.length = ks.length → bindArgs fd ⟨us ++ rest, ks.zip ws⟩ = (newTuple rest >>= fun t => pure (ps.zip (us ++ ws) ++ [(pv, t)]))
  len : ps.length = n + ks.length
/-- the code of the def at f -/
def CodeIs (K : PySem.W.Frag) (f : Addr) (cdv : Value) : Prop := ∃ oc od fd osl, K.lookup f = some ⟨oc, od, .func fd, osl⟩ ∧ fd.code = cdv
theorem call_star {N ps ks : List Str} {pv : Str} {n : Nat} {r : RC} (F : FunD K x qual params body scope dvs kws f fd) (S : FnScope N (ps ++ [pv]) scope) (b : BkS fd ps pv n ks)
    (hbody : ∀ (cdv : Value), CodeIs K f cdv → ∀ (A : Around) (outer : List Env) (s : Shared) (H : Hp) (vs zs : List V) (Q : VK), Gd gb A → zs.length = ks.length → r vs zs H Q →
      ∃ us rest, vs = us ++ rest ∧ us.length = n ∧ rest.length ≤ sizeLine ∧ ∀ (s2 : Shared) (p : Addr), Room k (A.deeper (envOfC qual scope s2.heap.objs.size f cdv)) → H p = none →
        ∃ t, PSs (cxOf CX0 P w K mg base N qual scope f cdv A outer s2 (upd H p (.tup rest)) E0).nox body t ∧ t { nx := fun _ H' => Q .non H', rt := Q } (start N (us ++ zs ++ [V.ref p])) (upd H p (.tup rest))) :
    CallP P w K mg base gb (k + 1) f ks r := by
  intro A outer s H us0 ws vs zs Q hr hg e0 rv rz hz hq
  obtain ⟨oc, od, dV, kV, doc, pm, an, cdv, ct, osl, rfl, lk, hcd, _, _⟩ :=
        F.ex
  obtain ⟨us, rest, ev, hl, hsz, hb⟩ := hbody cdv ⟨oc, od, _, osl, lk, rfl⟩ A outer s H vs zs Q hg hz hq
  subst ev
  obtain ⟨u1, u2, eu, r1, r2⟩ := vals_split rv
  subst eu
  have hn : H s.heap.objs.size = Option.none :=
        e0.hok.fresh (Nat.le_refl _)
  have l1 : u1.length = n := by rw [← r1.length]; exact hl
  have l2 : u2.length ≤ sizeLine := by rw [← r2.length]; exact hsz
  have lw : ws.length = ks.length := by rw [← rz.length]; exact hz
  refine run_bnd lk hcd S hr e0 (G := fun xs H2 => ∃ p, H p = Option.none ∧ xs = us ++ zs ++ [V.ref p] ∧ H2 = upd H p (.tup rest)) (fun A' Ex Q' h => ?_) fun s2 H2 xs ⟨p, hp, ex, eH⟩ hr2 => ?_
  · rw [b.to u1 u2 ws l1 lw]
    refine wpAny_bind (wpAny_newTuple (wpAny_pure ?_) l2)
    have new : ObjOk P w (upd H s.heap.objs.size (.tup rest)) (s.heap.push ({ cls := .type "tuple", data := .seq u2.toArray } : Obj)) s.heap.objs.size (.tup rest) :=
      ⟨hsz, u2, r2, ⟨_, Heap.get?_push_size _ rfl, rfl, _, rfl⟩⟩
    have un :=
          un_laid (fs := frs outer) (s := s) (o := ({ cls := .type "tuple", data := .seq u2.toArray } : Obj)) (u := .tup rest) hn
    have lz : ps.length = (u1 ++ ws).length := by rw [List.length_append, l1, lw]; exact b.len
    have z := h _ _ (us ++ zs ++ [V.ref s.heap.objs.size]) (u1 ++ ws ++ [Value.ref s.heap.objs.size]) (env0_laid e0 new) un rfl (fun e s' q => q.elim) ((r1.append rz).append (.cons rfl .nil))
      (by rw [List.length_append, List.length_append, List.length_append, hl, hz, b.len] <;> rfl) ⟨_, hn, rfl, rfl⟩
    rw [List.zip_append lz] at z
    exact z
  · subst ex eH
    obtain ⟨t, h1, h2⟩ := hb s2 p hr2 hp
    exact ⟨t, h1.nox, h2⟩
end

/-! ### a class called: a new instance, then its __init__ -/
def rMk (C : Addr) (r : RC) : RC := fun vs zs H Q => ∀ x dx, H x = none → H dx = none → dx ≠ x →
  r (V.ref x :: vs) zs (upd (upd H dx (.own x)) x (.ins C dx [])) fun v H2 => v = .non ∧ Q (.ref x) H2
section
variable {P : Program} {w : World} {K : PySem.W.Frag} {mg : Str → Option Value} {base : Heap} {gb : Bool} {k : Nat} {C f : Addr} {ks : List Str} {r : RC}
theorem Gd.make {A : Around} (g : Gd gb A) (C : Addr) (us : List Value) (kw : List (Str × Value)) : Gd gb (A.under (.builtin "type.__call__" ⟨.ref C :: us, kw⟩)) := fun h => by
  have e := g h
  first
    | (simp [Around.under, Code.guards, Code.isGuard, guardIds, pushGuards, e])
    | exact e
/-- a new instance and its dict, ahead of its __init__ -/
theorem env0_made {A : Around} {outer : List Env} {s : Shared} {H : Hp} (e0 : Env0 P w K mg base A outer s H) :
    Env0 P w K mg base A outer { s with heap := (s.heap.push PySem.W.emptyDict).push (PySem.W.instObj C s.heap.objs.size) } (upd (upd H s.heap.objs.size (.own (s.heap.objs.size + 1))) (s.heap.objs.size + 1) (.ins C s.heap.objs.size [])) ∧
    Un (frs outer) [] H (upd (upd H s.heap.objs.size (.own (s.heap.objs.size + 1))) (s.heap.objs.size + 1) (.ins C s.heap.objs.size [])) s.heap ((s.heap.push PySem.W.emptyDict).push (PySem.W.instObj C s.heap.objs.size)) := by
  have g1 : (s.heap.push PySem.W.emptyDict).get? s.heap.objs.size = some PySem.W.emptyDict := Heap.get?_push_size s.heap rfl
  have n0 : H s.heap.objs.size = none := e0.hok.fresh (Nat.le_refl _)
  have E1 := env0_laid (u := .own (s.heap.objs.size + 1)) e0 (o := PySem.W.emptyDict) ⟨_, g1⟩
  have U1 := un_laid (fs := frs outer) (s := s) (o := PySem.W.emptyDict) (u := .own (s.heap.objs.size + 1)) n0
  have ez : (s.heap.push PySem.W.emptyDict).objs.size = s.heap.objs.size + 1 := Heap.size_push _ _
  have g2 : ((s.heap.push PySem.W.emptyDict).push (PySem.W.instObj C s.heap.objs.size)).get? (s.heap.objs.size + 1) = some (PySem.W.instObj C s.heap.objs.size) := by
    have q := Heap.get?_push_size (s.heap.push PySem.W.emptyDict) (o := PySem.W.instObj C s.heap.objs.size) rfl
    rwa [ez] at q
  have ns : (s.heap.push PySem.W.emptyDict).Ns s.heap.objs.size (fun _ => none) := ⟨PySem.W.emptyDict, #[], _, g1, rfl, (fun e he => absurd he (by simp)), fun _ => rfl⟩
  have n1 : (upd H s.heap.objs.size (.own (s.heap.objs.size + 1))) (s.heap.push PySem.W.emptyDict).objs.size = none := E1.hok.fresh (Nat.le_refl _)
  have ne : s.heap.objs.size ≠ s.heap.objs.size + 1 :=
        Nat.ne_of_lt (Nat.lt_succ_self _)
  have new : ObjOk P w (upd (upd H s.heap.objs.size (.own (s.heap.objs.size + 1))) (s.heap.push PySem.W.emptyDict).objs.size (.ins C s.heap.objs.size [])) ((s.heap.push PySem.W.emptyDict).push (PySem.W.instObj C s.heap.objs.size)) (s.heap.push PySem.W.emptyDict).objs.size (.ins C s.heap.objs.size []) := by
    rw [ez]
    refine ⟨by rw [upd_ne ne, upd_same], Nat.zero_le _, ne, g2, fun _ => none, (Heap.Ns1.of_empty ns).at fun o q => Heap.get?_push_of_some _ q, fun _ => True.intro, fun y hy => absurd rfl hy⟩
  have E2 := env0_laid (s := { s with heap := s.heap.push PySem.W.emptyDict }) E1 new
  have U2 := un_laid (fs := frs outer) (s := { s with heap := s.heap.push PySem.W.emptyDict }) (o := PySem.W.instObj C s.heap.objs.size) (u := .ins C s.heap.objs.size []) n1
  rw [show ({ s with heap := s.heap.push PySem.W.emptyDict } : Shared).heap.objs.size = s.heap.objs.size + 1 from ez] at E2 U2
  exact ⟨E2, U1.trans U2⟩
theorem call_cls (M : Mk K C f) (CI : CallP P w K mg base gb k f ks r) : CallP P w K mg base gb (k + 1) C ks (rMk C r) := by
  intro A outer s H us ws vs zs Q hr hg e0 rv rz hz hq
  have KX : K.In s.heap :=
        e0.mod.kin.keeps fun b o e => (e0.bs b o e).1
  obtain ⟨e1, u1⟩ := env0_made (C := C) e0
  have nx : H (s.heap.objs.size + 1) = none := e0.hok.fresh (Nat.le_succ _)
  have nd : H s.heap.objs.size = none := e0.hok.fresh (Nat.le_refl _)
  have q1 := hq (s.heap.objs.size + 1) s.heap.objs.size nx nd (Nat.ne_of_lt (Nat.lt_succ_self _))
  refine make_map (f := f) KX M.makes M.init (beq_iff_eq.mp M.fn) (codeAny_mono (CI _ outer _ _ (Value.ref (s.heap.objs.size + 1) :: us) ws (V.ref (s.heap.objs.size + 1) :: vs) zs _ (hr.make C us (ks.zip ws)) (hg.make C us (ks.zip ws)) (e1.make C us (ks.zip ws)) (.cons rfl rv) rz hz q1) fun r' s' hc => ?_)
  cases r' with
  | error e => exact hc
  | ok fl =>
    cases fl with
    | ret u =>
      obtain ⟨v, H', os, bare, un, hok, rr, ev, q3⟩ := hc
      subst ev
      exact ⟨rr, ⟨.ref (s.heap.objs.size + 1), H', os, bare, u1.trans un, hok, rfl, q3⟩⟩
    | next => exact False.elim hc
    | brk => exact False.elim hc
    | cont => exact False.elim hc
end
end Pn

-- PnB
set_option
      maxHeartbeats 4000000
namespace Pn
open PySem PySem.Spec L2 PyProof.Rows StX ClX

section
variable {X : Cx} {gb : Bool} {k : Nat} {f C : Addr} {ks : List Str} {r : RC}
theorem code_callP {A : Around} {pins : List (Addr × Obj)} {σ : L2.St} {H : Hp} {s : Shared} {us ws : List Value} {vs zs : List V} {Q : VK} {E : Value → Shared → Prop}
    (c : CallP X.prog X.w X.K X.mg X.base gb k f ks r) (hr : Room k A) (hg : Gd gb A) (e0 : Env0 X.prog X.w X.K X.mg X.base A X.stack s H) (I : Inv X pins σ H s) (rv : Vals vs us) (rz : Vals zs ws) (hz : zs.length = ks.length) (q : r vs zs H Q) :
    codeAny (model X.prog X.w) A (.call (.ref f) ⟨us, ks.zip ws⟩) (fun r' s' => match r' with
      | .ok (.ret v) =>
            EP X pins σ Q v s'
      | .ok _ => False
      | .error e => E e s') s := by
  refine codeAny_mono (c A X.stack s H us ws vs zs Q hr hg e0 rv rz hz q) fun r' s' hc => ?_
  cases r' with
  | error e => exact False.elim hc
  | ok fl =>
    cases fl with
    | ret u => exact I.after hc
    | next => exact False.elim hc
    | brk => exact False.elim hc
    | cont => exact False.elim hc
theorem run_callP {A : Around} {pins : List (Addr × Obj)} {σ : L2.St} {H : Hp} {s : Shared} {us ws : List Value} {vs zs : List V} {Q : VK} {E : Value → Shared → Prop}
    (c : CallP X.prog X.w X.K X.mg X.base gb k f ks r) (hr : Room k A) (hg : Gd gb A) (e0 : Env0 X.prog X.w X.K X.mg X.base A X.stack s H) (I : Inv X pins σ H s) (rv : Vals vs us) (rz : Vals zs ws) (hz : zs.length = ks.length) (q : r vs zs H Q) :
    wpAny (model X.prog X.w) A (call (.ref f) us (ks.zip ws)) (EP X pins σ Q) E s := wpAny_call (code_callP c hr hg e0 I rv rz hz q)
/-- the call's node, starred or not -/
theorem cw_any {M : Model} {A : Around} {E : Value → Shared → Prop} {s : Shared} {pos : Pos} {g : Value} {first : List Value} {args : List (Bool × Sem Value)} {kws : List (Option Str × Sem Value)} {Q : Value → Shared → Prop} {Ph : Heap → Prop}
    (hk : ∀ h, Ph h → ∃ kp, (kp = Keeper.frame ∨ kp = Keeper.machine ∨ kp = Keeper.boundFrame) ∧ PySem.W.Looks M h (keeperOf g) kp) (hn : kws.any (·.1.isNone) = false)
    (h : wpAny M A (evalArgs g true args kws) (fun a s1 => Ph s1.heap ∧ wpAny M A (call g (first ++ a.pos) a.kw) Q E s1) E s) : wpAny M A (callWith pos g first args kws) Q E s := by
  cases hs : args.any (·.1) with
  | false => exact PySem.W.callWith_of (by rw [hs, hn]; rfl) hk h
  | true =>
    unfold callWith
    refine wpAny_bind (wpAny_holding (wpAny_mono h (fun a s1 h1 => wpAny_bind (wpAny_standAt ?_)) fun _ _ x => x))
    obtain ⟨kp, hkp, L⟩ := hk _ h1.1
    simp only [hs, Bool.true_or]
    refine wpAny_bind (L.here ?_)
    have fin : ∀ {t : Sem Value}, wpAny M A t Q E s1 → wpAny M A (t >>= fun r => holding [r] point >>= fun _ => pure r) Q E s1 := fun ht =>
      wpAny_bind (wpAny_mono ht (fun r s2 hr => wpAny_bind (wpAny_holding (wpAny_point (wpAny_pure hr)))) fun _ _ x => x)
    have mk (m : Value) : wpAny M A (callMarked m g (first ++ a.pos) a.kw) Q E s1 := by
      unfold callMarked
      exact Calls.wpAny_keep h1.2
    rcases hkp with e | e | e <;> subst e <;> dsimp only <;> first | exact fin (mk _) | exact fin (wpAny_operating h1.2)

section
variable {tf ta : TE} {t tk : TA} {x m : Str} {p pos apos : Pos} {e o : Expr} {es : List Expr} {kws : List Keyword}
/-- x(e, .., *y, k = v, ..), x a name whose value is the object at f -/
def tCP (f : Addr) (ks : List Str) (r : RC) (tf : TE) (t tk : TA) : TE := fun σ H Q => tf σ H fun y H0 => y = .ref f ∧ t σ H0 fun vs H1 => tk σ H1 fun zs H2 => zs.length = ks.length ∧ r vs zs H2 Q
theorem pe_callP (c : CallP X.prog X.w X.K X.mg X.base gb k f ks r) (hr : Room k X.A) (hg : Gd gb X.A) (kp : PySem.W.keepIn X.K (.ref f) = true) (hf : PE X (.Name x p) tf) (ha : PA X (e :: es) t) (hk : PK X kws tk)
    (hall : (backToKw pos (keywordEach kws X.env)).all (·.1.isSome) = true := by rfl) (hks : (backToKw pos (keywordEach kws X.env)).filterMap (·.1) = ks := by rfl) (hn : (backToKw pos (keywordEach kws X.env)).any (·.1.isNone) = false := by rfl)
    (he : starEach (e :: es) X.env = (false, eval e X.env) :: starEach es X.env := by rfl) : PE X (.Call (.Name x p) (e :: es) kws pos) (tCP f ks r tf t tk) := by
  refine ⟨fun pins s σ H Q I h =>
        ?_⟩
  refine wpAny_Call_Name_kw (thn (hf.run pins s σ H _ I h) fun u s1 ⟨y, H0, I0, r0, ey, q0⟩ => ?_)
  subst ey
  obtain rfl : u = Value.ref f := r0
  refine cw_any (PySem.W.keeps_K kp) hn (evalArgs_kw2 hall (thn (ha.run pos pins s1 σ H0 _ I0 q0) fun us s2 ⟨vs, H1, I1, r1, q1⟩ => thn (hk.run pos pins s2 σ H1 _ I1 q1) fun ws s3 ⟨zs, H2, I2, r2, hz, q2⟩ => ⟨I2.kIn, ?_⟩) he)
  rw [hks]
  exact run_callP c hr hg I2.env0 I2 r1 r2 hz q2
/-- x(k = v, ..) -/
def tCP0 (f : Addr) (ks : List Str) (r : RC) (tf : TE) (tk : TA) : TE := fun σ H Q => tf σ H fun y H0 => y = .ref f ∧ tk σ H0 fun zs H2 => zs.length = ks.length ∧ r [] zs H2 Q
theorem pe_callP0 (c : CallP X.prog X.w X.K X.mg X.base gb k f ks r) (hr : Room k X.A) (hg : Gd gb X.A) (kp : PySem.W.keepIn X.K (.ref f) = true) (hf : PE X (.Name x p) tf) (hk : PK X kws tk)
    (hall : (backToKw pos (keywordEach kws X.env)).all (·.1.isSome) = true := by rfl) (hks : (backToKw pos (keywordEach kws X.env)).filterMap (·.1) = ks := by rfl) (hn : (backToKw pos (keywordEach kws X.env)).any (·.1.isNone) = false := by rfl) :
    PE X (.Call (.Name x p) [] kws pos) (tCP0 f ks r tf tk) := by
  refine ⟨fun pins s σ H Q I h =>
        ?_⟩
  refine wpAny_Call_Name_kw (thn (hf.run pins s σ H _ I h) fun u s1 ⟨y, H0, I0, r0, ey, q0⟩ => ?_)
  subst ey
  obtain rfl : u = Value.ref f := r0
  refine cw_any (PySem.W.keeps_K kp) hn (evalArgs_kw2_nil hall (thn (hk.run pos pins s1 σ H0 _ I0 q0) fun ws s3 ⟨zs, H2, I2, r2, hz, q2⟩ => ⟨I2.kIn, ?_⟩))
  rw [hks]
  exact run_callP (us := []) c hr hg I2.env0 I2 .nil r2 hz q2

/-- o.m(e, ..) of an instance of the class at C -/
def tMP (C : Addr) (m : Str) (r : RC) (ta : TE) (t : TA) : TE := fun σ H Q => ta σ H fun x H1 => ∃ a dx fs, x = .ref a ∧ H1 a = some (.ins C dx fs) ∧ fs.lookup m = none ∧ t σ H1 fun vs H2 => r (x :: vs) [] H2 Q
theorem pe_methP {pl : Sem Bool} (c : CallP X.prog X.w X.K X.mg X.base gb k f [] r) (hr : Room k X.A) (hg : Gd gb X.A) (cl : Cls X.K C) (hm : Meth X.K C m f) (he : PE X o ta) (ha : PA X (e :: es) t)
    (hst : starEach (e :: es) X.env = (false, eval e X.env) ::
          starEach es X.env := by rfl) (hpl : (backTo pos (starEach es X.env)).any (·.1) = false := by rfl)
    (ht :
          eval (.Call (.Attribute o m apos) (e :: es) [] pos) X.env = (do
      let v ← eval o X.env
      standAt apos.atName
      let (g, first) ← holding [v] (getMethod v m pl)
      callWith pos g first (backTo pos (starEach (e :: es) X.env)) (backToKw pos (keywordEach [] X.env))) := by rfl) :
    PE X (.Call (.Attribute o m apos) (e :: es) [] pos) (tMP C m r ta t) := by
  refine ⟨fun pins s σ H Q I h =>
        ?_⟩
  refine PySem.W.methodCall_KW (pl :=
        pl) (thn (he.run pins s σ H _ I h) fun u s1 ⟨x, H1, I1, rx, a, dx, fs, ex, ea, l, q⟩ => ?_) ht
  subst ex
  obtain rfl : u = Value.ref a :=
        rx
  refine getmeth_ok I1 ea cl hm l ?_
  refine PySem.W.callWith_K (first := [.ref a]) (h₀ := X.base) I.ok.mod.kin hm.kp (thn (ha.run pos pins s1 σ H1 _ I1 q) fun us s2 ⟨vs, H2, I2, rv, q2⟩ => ⟨I2.kIn, ?_⟩) hst hpl
  exact run_callP (us := .ref a :: us) (ws := []) (vs := V.ref a :: vs) (zs := []) c hr hg I2.env0 I2 (.cons rfl rv) .nil rfl q2

/-- C.m(e, .., k = v, ..), m a classmethod of the class at C -/
def tCmP (C : Addr) (ks : List Str) (r : RC) (ta : TE) (t tk : TA) : TE := fun σ H Q => ta σ H fun x H1 => x = .ref C ∧ t σ H1 fun vs H2 => tk σ H2 fun zs H3 => zs.length = ks.length ∧ r (V.ref C :: vs) zs H3 Q
theorem pe_cmP {pl : Sem Bool} {mc : Value} {pr : Addr} (c : CallP X.prog X.w X.K X.mg X.base gb k f ks r) (hr : Room k X.A) (hg : Gd gb X.A) (rd : CRead X.K C mc) (cm : CMet X.K C mc m pr f) (he : PE X o ta) (ha : PA X (e :: es) t) (hk : PK X kws tk)
    (hall : (backToKw pos (keywordEach kws X.env)).all (·.1.isSome) = true := by rfl) (hks : (backToKw pos (keywordEach kws X.env)).filterMap (·.1) = ks := by rfl) (hn : (backToKw pos (keywordEach kws X.env)).any (·.1.isNone) = false := by rfl)
    (hst : starEach (e :: es) X.env = (false, eval e X.env) :: starEach es X.env := by rfl)
    (ht : eval (.Call (.Attribute o m apos) (e :: es) kws pos) X.env = (do
      let v ← eval o X.env
      standAt apos.atName
      let (g, first) ← holding [v] (getMethod v m pl)
      callWith pos g first (backTo pos (starEach (e :: es) X.env)) (backToKw pos (keywordEach kws X.env))) := by rfl) :
    PE X (.Call (.Attribute o m apos) (e :: es) kws pos) (tCmP C ks r ta t tk) := by
  refine ⟨fun pins s σ H Q I h =>
        ?_⟩
  refine PySem.W.methodCall_KW (pl :=
        pl) (thn (he.run pins s σ H _ I h) fun u s1 ⟨x, H1, I1, rx, ex, q⟩ => ?_) ht
  subst ex
  obtain rfl : u = Value.ref C :=
        rx
  refine getmethcm_ok I1 rd cm fun s2 I2 => ?_
  refine cw_any (Ph := PySem.W.MethP X.K s1.heap.objs.size f (.ref C)) (PySem.W.keeps_M cm.fi) hn (evalArgs_kw2 hall (thn (ha.run pos _ s2 σ H1 _ I2 q) fun us s3 ⟨vs, H2, I3, rv, q2⟩ => thn (hk.run pos _ s3 σ H2 _ I3 q2) fun ws s4 ⟨zs, H3, I4, rz, hz, q3⟩ => ⟨⟨pin_at I4, I4.kIn⟩, ?_⟩) hst)
  rw [hks]
  have z : wpAny (model X.prog X.w) X.A (call (.ref s1.heap.objs.size) us (ks.zip ws)) (EP X ((s1.heap.objs.size, PySem.W.methodObj (.ref f) (.ref C)) :: pins) σ Q) X.xe s4 :=
    wpAny_call (PySem.W.method_call (pin_at I4) (code_callP (us := .ref C :: us) (vs := V.ref C :: vs) c hr hg I4.env0 I4 (.cons rfl rv) rz hz q3))
  exact thn z fun _ _ y =>
        unpinE y
end
end
end Pn

-- PnC
set_option
      maxHeartbeats 4000000
namespace Pn
open PySem PySem.Spec L2 PyProof.Rows StX ClX
section
variable {X : Cx} {gb : Bool} {k : Nat} {g C pr : Addr} {r : RC} {f : Str} {ta tb : TE} {e a b : Expr} {pos : Pos}
/-- e.f, a property -/
def tPrP (C : Addr) (r : RC) (ta : TE) : TE := fun σ H Q => ta σ H fun x H1 => ∃ a dx fs, x = .ref a ∧ H1 a = some (.ins C dx fs) ∧ r [V.ref a] [] H1 Q
theorem pe_propP (c : CallP X.prog X.w X.K X.mg X.base gb k g [] r) (hr : Room (k + 1) X.A) (hg : Gd gb X.A) (cl : Cls X.K C) (hp : PropOf X.K C f pr g) (he : PE X e ta)
    (hab : attributeBase e f X.env (eval e X.env) = eval e X.env := by rfl) : PE X (.Attribute e f pos) (tPrP C r ta) := by
  refine ⟨fun pins s σ H Q I h =>
        ?_⟩
  refine attr_of hab (thn (he.run pins s σ H _ I h) fun u s1 ⟨x, H1, I1, rx, a, dx, fs, ex, ea, q⟩ =>
        ?_)
  subst ex
  obtain rfl : u = Value.ref a :=
        rx
  obtain ⟨mA, O, _, _, _, _⟩ := ins_get I1.hok ea
  obtain ⟨od, J, _⟩ := O.look
  obtain ⟨rest, hrec⟩ :=
        hp.rec_
  have I2 := I1.tok (s1.toks + 1)
  have hc :
        (PySem.W.clsIn X.K C).isSome = true := by
    obtain ⟨cd, hc, _⟩ := PySem.W.any_some cl.hd
    rw [hc] <;> rfl
  refine PySem.W.get_bind I1.kIn J (PySem.W.plainGet_of (cl.get f)).1 (PySem.W.findObj_data hc hp.at_ hp.get hp.tak) (PySem.W.plainGet_of (cl.get f)).2 (wpAny_call (PySem.W.prop_get (s := { s1 with toks := s1.toks + 1 }) I1.kIn hrec ?_))
  refine codeAny_mono (code_callP (us := [.ref a]) (ws := []) (vs := [V.ref a]) (zs := []) (E := fun _ _ => False) c hr.in1 hg.in1 I2.env0.in1 I2 (.cons rfl .nil) .nil rfl q) fun r' s' hq => ?_
  cases r' with
  | error er => exact False.elim hq
  | ok fl =>
    cases fl with
    | ret u =>
      obtain ⟨v, H', I3, rv, q3⟩ := hq
      show wpAny _ _
            (handedOut u) _ _ _
      rw
            [PySem.W.handedOut_of (handed_of rv)]
      exact wpAny_pure ⟨v,
            H', I3, rv, q3⟩
    | next => exact False.elim hq
    | brk => exact False.elim hq
    | cont => exact False.elim hq
/-- len of an own instance -/
def rLenO (C : Addr) (r : RC) : List V → Hp → VK → Prop := fun xs H Q => ∃ a dx fs, xs = [V.ref a] ∧ H a = some (.ins C dx fs) ∧ r [V.ref a] [] H fun v H' => ∃ n : Nat, v = .int n ∧ n < 2 ^ 63 ∧ Q (.int n) H'
theorem call_lenO (c : CallP X.prog X.w X.K X.mg X.base gb k g [] r) (hr : Room (k + 1) X.A) (hg : Gd gb X.A) (hm : Meth X.K C "__len__" g) : CallR X (.builtin "len") (rLenO C r) := by
  intro pins s σ
        H xs us Q I rv h
  obtain ⟨a, dx, fs, e, ea, q⟩ := h
  subst e
  obtain rfl := Vals.ref1 rv
  obtain ⟨mA, O, _, _, _, _⟩ :=
        ins_get I.hok ea
  obtain ⟨od, J, _⟩ := O.look
  obtain ⟨m, F⟩ := I.fr
  refine PySem.W.len_K F I.mod.kin J hm.at_ hm.fn (thn (run_callP (us := [.ref a]) (ws := []) (vs := [V.ref a]) (zs := []) c hr.in1 hg.in1 I.env0.in1 I (.cons rfl .nil) .nil rfl q) fun u s1 ⟨v, H1, I1, r1, n, ev, hn, q1⟩ => ?_)
  subst ev
  obtain ⟨t, rfl⟩ := r1
  exact ⟨⟨Int.natCast_nonneg _, by omega⟩, .int n, H1, I1.tok _, ⟨_, rfl⟩, q1⟩
/-- x in o, x not in o, of an own instance -/
def rInO (C : Addr) (r : RC) (neg : Bool) : R2 := fun x y H Q => ∃ a dx fs, y = .ref a ∧ H a = some (.ins C dx fs) ∧ r [V.ref a, x] [] H fun v H' => ∃ b : Bool, v = .bl b ∧ Q (.bl (if neg then !b else b)) H'
theorem op_notInO (c : CallP X.prog X.w X.K X.mg X.base gb k g [] r) (hr : Room k X.A) (hg : Gd gb X.A) (hm : Meth X.K C "__contains__" g) : OpR X (compareOp .NotIn) (rInO C r true) := by
  intro pins s σ H
        x y v u Q I rx ry h
  obtain ⟨a, dx, fs, e, ea, q⟩ := h
  subst e
  obtain rfl : u = Value.ref a :=
        ry
  obtain ⟨mA, O, _, _, _, _⟩ :=
        ins_get I.hok ea
  obtain ⟨od, J, _⟩ := O.look
  obtain ⟨m, F⟩ := I.fr
  refine PySem.W.notIn_K F I.mod.kin J hm.at_ hm.fn (thn (run_callP (us := [.ref a, v]) (ws := []) (vs := [V.ref a, x]) (zs := []) c hr hg I.env0 I (.cons rfl (.cons rx .nil)) .nil rfl q) fun w1 s1 ⟨z, H1, I1, r1, b, ev, q1⟩ => ?_)
  subst ev
  obtain rfl : w1 = Value.bool b := r1
  exact wpAny_truthy_bool ⟨.bl (!b), H1, I1, rfl, q1⟩
/-- o[x] of an own instance -/
def rIxO (C : Addr) (r : RC) : R2 := fun x y H Q => ∃ a dx fs, x = .ref a ∧ H a = some (.ins C dx fs) ∧ r [V.ref a, y] [] H Q
theorem pe_ixO (c : CallP X.prog X.w X.K X.mg X.base gb k g [] r) (hr : Room (k + 1) X.A) (hg : Gd gb X.A) (hm : Meth X.K C "__getitem__" g) (hfi : PySem.W.fnIn X.K g = true) (ha : PE X a ta) (hb : PE X b tb)
    (hs : ∀ o i, subscripted b true o i = runValue (.builtin "lifetime.subscript" ⟨[o, i], []⟩) := by intro _ _; with_unfolding_all rfl) : PE X (.Subscript a b pos) (tOp (rIxO C r) ta tb) := by
  refine ⟨fun pins s σ H Q I h =>
        ?_⟩
  refine Subscript_ (binT ha hb I h fun v u s2 x y H2 I2 rx ry q =>
        ?_)
  obtain ⟨o, dx, fs, e, eo, q⟩ := q
  subst e
  obtain rfl : v = Value.ref o := rx
  obtain ⟨mA, O, _, _, _, _⟩ := ins_get I2.hok eo
  obtain ⟨od, J, _⟩ := O.look
  obtain ⟨m, F⟩ := I2.fr
  exact PySem.W.sub_K F I.mod.kin J hm.at_ hfi hm.fn (run_callP (us := [.ref o, u]) (ws := []) (vs := [V.ref o, y]) (zs := []) c hr.in1 hg.in1 I2.env0.in1 I2 (.cons rfl (.cons ry .nil)) .nil rfl q) (hs _ _)
end
end Pn

-- PnT
set_option
      maxHeartbeats 4000000
namespace Pn
open PySem PySem.Spec
      PyProof.Rows L2
def top (i : Nat) : Stmt := PySem.Challenge.pw_pastnotes_k29_whole_rests_put_in.main.body.getD i (.Pass ⟨0, 0, 0, 0⟩)
abbrev s_is_integer : Stmt := top 22
abbrev N_is_integer : List Str := ["thing"]
abbrev P_is_integer : List Str := ["thing"]
theorem sc_is_integer : FnScope N_is_integer P_is_integer (defScope s_is_integer) := ⟨rfl, rfl, rfl, by decide +kernel, rfl, by decide +kernel, by decide +kernel⟩
abbrev s_is_name : Stmt := top 23
abbrev N_is_name : List Str := ["thing", "letter"]
abbrev P_is_name : List Str := ["thing"]
theorem sc_is_name : FnScope N_is_name P_is_name (defScope s_is_name) := ⟨rfl, rfl, rfl, by decide +kernel, rfl, by decide +kernel, by decide +kernel⟩
abbrev s_is_value : Stmt := top 24
abbrev N_is_value : List Str := ["thing"]
abbrev P_is_value : List Str := ["thing"]
theorem sc_is_value : FnScope N_is_value P_is_value (defScope s_is_value) := ⟨rfl, rfl, rfl, by decide +kernel, rfl, by decide +kernel, by decide +kernel⟩
abbrev s_is_between : Stmt := top 25
abbrev N_is_between : List Str := ["thing", "low", "high"]
abbrev P_is_between : List Str := ["thing", "low", "high"]
theorem sc_is_between : FnScope N_is_between P_is_between (defScope s_is_between) := ⟨rfl, rfl, rfl, by decide +kernel, rfl, by decide +kernel, by decide +kernel⟩
abbrev s_check_name : Stmt := top 26
abbrev N_check_name : List Str := ["thing"]
abbrev P_check_name : List Str := ["thing"]
theorem sc_check_name : FnScope N_check_name P_check_name (defScope s_check_name) := ⟨rfl, rfl, rfl, by decide +kernel, rfl, by decide +kernel, by decide +kernel⟩
abbrev s_check_once : Stmt := top 27
abbrev N_check_once : List Str := ["names", "index", "name"]
abbrev P_check_once : List Str := ["names"]
theorem sc_check_once : FnScope N_check_once P_check_once (defScope s_check_once) := ⟨rfl, rfl, rfl, by decide +kernel, rfl, by decide +kernel, by decide +kernel⟩
abbrev s_check_names : Stmt := top 28
abbrev N_check_names : List Str := ["things", "most", "thing"]
abbrev P_check_names : List Str := ["things", "most"]
theorem sc_check_names : FnScope N_check_names P_check_names (defScope s_check_names) := ⟨rfl, rfl, rfl, by decide +kernel, rfl, by decide +kernel, by decide +kernel⟩
abbrev s_state_of : Stmt := top 31
abbrev N_state_of : List Str := ["row"]
abbrev P_state_of : List Str := ["row"]
theorem sc_state_of : FnScope N_state_of P_state_of (defScope s_state_of) := ⟨rfl, rfl, rfl, by decide +kernel, rfl, by decide +kernel, by decide +kernel⟩
abbrev s_copy_row : Stmt := top 32
abbrev N_copy_row : List Str := ["row"]
abbrev P_copy_row : List Str := ["row"]
theorem sc_copy_row : FnScope N_copy_row P_copy_row (defScope s_copy_row) := ⟨rfl, rfl, rfl, by decide +kernel, rfl, by decide +kernel, by decide +kernel⟩
abbrev s_is_target : Stmt := top 33
abbrev N_is_target : List Str := ["book", "thing"]
abbrev P_is_target : List Str := ["book", "thing"]
theorem sc_is_target : FnScope N_is_target P_is_target (defScope s_is_target) := ⟨rfl, rfl, rfl, by decide +kernel, rfl, by decide +kernel, by decide +kernel⟩
abbrev s_check_target : Stmt := top 34
abbrev N_check_target : List Str := ["book", "thing"]
abbrev P_check_target : List Str := ["book", "thing"]
theorem sc_check_target : FnScope N_check_target P_check_target (defScope s_check_target) := ⟨rfl, rfl, rfl, by decide +kernel, rfl, by decide +kernel, by decide +kernel⟩
abbrev s_check_column : Stmt := top 35
abbrev N_check_column : List Str := ["book", "thing"]
abbrev P_check_column : List Str := ["book", "thing"]
theorem sc_check_column : FnScope N_check_column P_check_column (defScope s_check_column) := ⟨rfl, rfl, rfl, by decide +kernel, rfl, by decide +kernel, by decide +kernel⟩
abbrev s_check_worths : Stmt := top 36
abbrev N_check_worths : List Str := ["book", "name", "worths", "columns", "column"]
abbrev P_check_worths : List Str := ["book", "name", "worths"]
theorem sc_check_worths : FnScope N_check_worths P_check_worths (defScope s_check_worths) := ⟨rfl, rfl, rfl, by decide +kernel, rfl, by decide +kernel, by decide +kernel⟩
abbrev s_row_after : Stmt := top 37
abbrev N_row_after : List Str := ["book", "name", "row", "worths", "state", "found", "column"]
abbrev P_row_after : List Str := ["book", "name", "row", "worths"]
theorem sc_row_after : FnScope N_row_after P_row_after (defScope s_row_after) := ⟨rfl, rfl, rfl, by decide +kernel, rfl, by decide +kernel, by decide +kernel⟩
abbrev s_entry_of : Stmt := top 38
abbrev N_entry_of : List Str := ["book", "name", "moment", "before", "after", "note", "told"]
abbrev P_entry_of : List Str := ["book", "name", "moment", "before", "after"]
theorem sc_entry_of : FnScope N_entry_of P_entry_of (defScope s_entry_of) := ⟨rfl, rfl, rfl, by decide +kernel, rfl, by decide +kernel, by decide +kernel⟩
abbrev s_entry_list : Stmt := top 39
abbrev N_entry_list : List Str := ["book", "name", "moment", "before", "after", "entry"]
abbrev P_entry_list : List Str := ["book", "name", "moment", "before", "after"]
theorem sc_entry_list : FnScope N_entry_list P_entry_list (defScope s_entry_list) := ⟨rfl, rfl, rfl, by decide +kernel, rfl, by decide +kernel, by decide +kernel⟩
abbrev s_last_ones : Stmt := top 40
abbrev N_last_ones : List Str := ["entries", "keep"]
abbrev P_last_ones : List Str := ["entries", "keep"]
theorem sc_last_ones : FnScope N_last_ones P_last_ones (defScope s_last_ones) := ⟨rfl, rfl, rfl, by decide +kernel, rfl, by decide +kernel, by decide +kernel⟩
abbrev s_without_repeats : Stmt := top 41
abbrev N_without_repeats : List Str := ["things", "found", "thing"]
abbrev P_without_repeats : List Str := ["things"]
theorem sc_without_repeats : FnScope N_without_repeats P_without_repeats (defScope s_without_repeats) := ⟨rfl, rfl, rfl, by decide +kernel, rfl, by decide +kernel, by decide +kernel⟩
abbrev s_check_step : Stmt := top 42
abbrev N_check_step : List Str := ["book", "index", "step", "name", "worths"]
abbrev P_check_step : List Str := ["book", "index", "step"]
theorem sc_check_step : FnScope N_check_step P_check_step (defScope s_check_step) := ⟨rfl, rfl, rfl, by decide +kernel, rfl, by decide +kernel, by decide +kernel⟩
abbrev s_played : Stmt := top 43
abbrev N_played : List Str := ["book", "steps", "done", "stand", "noted", "index", "step", "after", "name", "worths"]
abbrev P_played : List Str := ["book", "steps"]
theorem sc_played : FnScope N_played P_played (defScope s_played) := ⟨rfl, rfl, rfl, by decide +kernel, rfl, by decide +kernel, by decide +kernel⟩
abbrev s_Historyu_initu : Stmt := inClass (top 44) 0
abbrev N_Historyu_initu : List Str := ["self", "book", "steps", "done", "stand", "noted"]
abbrev P_Historyu_initu : List Str := ["self", "book", "steps"]
theorem sc_Historyu_initu : FnScope N_Historyu_initu P_Historyu_initu (defScope s_Historyu_initu) := ⟨rfl, rfl, rfl, by decide +kernel, rfl, by decide +kernel, by decide +kernel⟩
abbrev s_History_of : Stmt := inClass (top 44) 1
abbrev N_History_of : List Str := ["cls", "book", "steps"]
abbrev P_History_of : List Str := ["cls", "book", "steps"]
theorem sc_History_of : FnScope N_History_of P_History_of (defScope s_History_of) := ⟨rfl, rfl, rfl, by decide +kernel, rfl, by decide +kernel, by decide +kernel⟩
abbrev s_History_row : Stmt := inClass (top 44) 3
abbrev N_History_row : List Str := ["self"]
abbrev P_History_row : List Str := ["self"]
theorem sc_History_row : FnScope N_History_row P_History_row (defScope s_History_row) := ⟨rfl, rfl, rfl, by decide +kernel, rfl, by decide +kernel, by decide +kernel⟩
abbrev s_History_log : Stmt := inClass (top 44) 4
abbrev N_History_log : List Str := ["self"]
abbrev P_History_log : List Str := ["self"]
theorem sc_History_log : FnScope N_History_log P_History_log (defScope s_History_log) := ⟨rfl, rfl, rfl, by decide +kernel, rfl, by decide +kernel, by decide +kernel⟩
abbrev s_History_entries : Stmt := inClass (top 44) 5
abbrev N_History_entries : List Str := ["self"]
abbrev P_History_entries : List Str := ["self"]
theorem sc_History_entries : FnScope N_History_entries P_History_entries (defScope s_History_entries) := ⟨rfl, rfl, rfl, by decide +kernel, rfl, by decide +kernel, by decide +kernel⟩
abbrev s_Historyu_lenu : Stmt := inClass (top 44) 8
abbrev N_Historyu_lenu : List Str := ["self"]
abbrev P_Historyu_lenu : List Str := ["self"]
theorem sc_Historyu_lenu : FnScope N_Historyu_lenu P_Historyu_lenu (defScope s_Historyu_lenu) := ⟨rfl, rfl, rfl, by decide +kernel, rfl, by decide +kernel, by decide +kernel⟩
abbrev s_History_told : Stmt := inClass (top 44) 11
abbrev N_History_told : List Str := ["self", "target", "moment", "row", "step"]
abbrev P_History_told : List Str := ["self", "target", "moment"]
theorem sc_History_told : FnScope N_History_told P_History_told (defScope s_History_told) := ⟨rfl, rfl, rfl, by decide +kernel, rfl, by decide +kernel, by decide +kernel⟩
abbrev s_History_past : Stmt := inClass (top 44) 12
abbrev N_History_past : List Str := ["self", "target", "moment"]
abbrev P_History_past : List Str := ["self", "target"]
theorem sc_History_past : FnScope N_History_past P_History_past (defScope s_History_past) := ⟨rfl, rfl, rfl, by decide +kernel, rfl, by decide +kernel, by decide +kernel⟩
abbrev s_History_course : Stmt := inClass (top 44) 13
abbrev N_History_course : List Str := ["self", "column"]
abbrev P_History_course : List Str := ["self", "column"]
theorem sc_History_course : FnScope N_History_course P_History_course (defScope s_History_course) := ⟨rfl, rfl, rfl, by decide +kernel, rfl, by decide +kernel, by decide +kernel⟩
abbrev s_Noteu_initu : Stmt := inClass (top 47) 0
abbrev N_Noteu_initu : List Str := ["self", "old", "new", "named", "changed"]
abbrev P_Noteu_initu : List Str := ["self", "old", "new", "named", "changed"]
theorem sc_Noteu_initu : FnScope N_Noteu_initu P_Noteu_initu (defScope s_Noteu_initu) := ⟨rfl, rfl, rfl, by decide +kernel, rfl, by decide +kernel, by decide +kernel⟩
abbrev s_Note_entry : Stmt := inClass (top 47) 4
abbrev N_Note_entry : List Str := ["self", "deed", "before", "after", "old", "new"]
abbrev P_Note_entry : List Str := ["self", "deed", "before", "after"]
theorem sc_Note_entry : FnScope N_Note_entry P_Note_entry (defScope s_Note_entry) := ⟨rfl, rfl, rfl, by decide +kernel, rfl, by decide +kernel, by decide +kernel⟩
abbrev s_pairs_of : Stmt := top 48
abbrev N_pairs_of : List Str := ["words", "row", "word"]
abbrev P_pairs_of : List Str := ["words", "row"]
theorem sc_pairs_of : FnScope N_pairs_of P_pairs_of (defScope s_pairs_of) := ⟨rfl, rfl, rfl, by decide +kernel, rfl, by decide +kernel, by decide +kernel⟩
abbrev s_check_note : Stmt := top 52
abbrev N_check_note : List Str := ["note"]
abbrev P_check_note : List Str := ["note"]
theorem sc_check_note : FnScope N_check_note P_check_note (defScope s_check_note) := ⟨rfl, rfl, rfl, by decide +kernel, rfl, by decide +kernel, by decide +kernel⟩
abbrev s_Deedu_initu : Stmt := inClass (top 53) 1
abbrev N_Deedu_initu : List Str := ["self", "name", "moves", "columns", "note"]
abbrev P_Deedu_initu : List Str := ["self", "name", "moves", "columns", "note"]
theorem sc_Deedu_initu : FnScope N_Deedu_initu P_Deedu_initu (defScope s_Deedu_initu) := ⟨rfl, rfl, rfl, by decide +kernel, rfl, by decide +kernel, by decide +kernel⟩
abbrev s_Deed_after : Stmt := inClass (top 53) 5
abbrev N_Deed_after : List Str := ["self", "state", "one", "two"]
abbrev P_Deed_after : List Str := ["self", "state"]
theorem sc_Deed_after : FnScope N_Deed_after P_Deed_after (defScope s_Deed_after) := ⟨rfl, rfl, rfl, by decide +kernel, rfl, by decide +kernel, by decide +kernel⟩
abbrev s_Makeu_initu : Stmt := inClass (top 54) 1
abbrev N_Makeu_initu : List Str := ["self", "name", "state", "note"]
abbrev P_Makeu_initu : List Str := ["self", "name", "state", "note"]
abbrev s_Changeu_initu : Stmt := inClass (top 55) 1
abbrev N_Changeu_initu : List Str := ["self", "name", "columns", "note", "moves", "move"]
abbrev P_Changeu_initu : List Str := ["self", "name", "columns", "note", "moves"]
abbrev s_Change_of : Stmt := inClass (top 55) 2
abbrev N_Change_of : List Str := ["cls", "name", "moves", "columns", "note"]
abbrev P_Change_of : List Str := ["cls", "name", "moves", "columns", "note"]
theorem sc_Change_of : FnScope N_Change_of P_Change_of (defScope s_Change_of) := ⟨rfl, rfl, rfl, by decide +kernel, rfl, by decide +kernel, by decide +kernel⟩
abbrev s_Endu_initu : Stmt := inClass (top 56) 1
abbrev N_Endu_initu : List Str := ["self", "name", "note", "states", "state"]
abbrev P_Endu_initu : List Str := ["self", "name", "note", "states"]
abbrev s_End_of : Stmt := inClass (top 56) 2
abbrev N_End_of : List Str := ["cls", "name", "states", "note"]
abbrev P_End_of : List Str := ["cls", "name", "states", "note"]
theorem sc_End_of : FnScope N_End_of P_End_of (defScope s_End_of) := ⟨rfl, rfl, rfl, by decide +kernel, rfl, by decide +kernel, by decide +kernel⟩
abbrev s_check_columns : Stmt := top 61
abbrev N_check_columns : List Str := ["columns", "column"]
abbrev P_check_columns : List Str := ["columns"]
theorem sc_check_columns : FnScope N_check_columns P_check_columns (defScope s_check_columns) := ⟨rfl, rfl, rfl, by decide +kernel, rfl, by decide +kernel, by decide +kernel⟩
abbrev s_check_words : Stmt := top 62
abbrev N_check_words : List Str := ["deed", "columns", "column", "words", "word"]
abbrev P_check_words : List Str := ["deed", "columns"]
theorem sc_check_words : FnScope N_check_words P_check_words (defScope s_check_words) := ⟨rfl, rfl, rfl, by decide +kernel, rfl, by decide +kernel, by decide +kernel⟩
abbrev s_Booku_initu : Stmt := inClass (top 63) 0
abbrev N_Booku_initu : List Str := ["self", "columns", "keep", "deeds", "deed", "found", "move", "state"]
abbrev P_Booku_initu : List Str := ["self", "columns", "keep", "deeds"]
theorem sc_Booku_initu : FnScope N_Booku_initu P_Booku_initu (defScope s_Booku_initu) := ⟨rfl, rfl, rfl, by decide +kernel, rfl, by decide +kernel, by decide +kernel⟩
abbrev s_Book_of : Stmt := inClass (top 63) 1
abbrev N_Book_of : List Str := ["cls", "columns", "deeds", "keep"]
abbrev P_Book_of : List Str := ["cls", "columns", "deeds", "keep"]
theorem sc_Book_of : FnScope N_Book_of P_Book_of (defScope s_Book_of) := ⟨rfl, rfl, rfl, by decide +kernel, rfl, by decide +kernel, by decide +kernel⟩
abbrev s_Booku_containsu : Stmt := inClass (top 63) 5
abbrev N_Booku_containsu : List Str := ["self", "thing"]
abbrev P_Booku_containsu : List Str := ["self", "thing"]
theorem sc_Booku_containsu : FnScope N_Booku_containsu P_Booku_containsu (defScope s_Booku_containsu) := ⟨rfl, rfl, rfl, by decide +kernel, rfl, by decide +kernel, by decide +kernel⟩
abbrev s_Booku_getitemu : Stmt := inClass (top 63) 6
abbrev N_Booku_getitemu : List Str := ["self", "thing", "deed"]
abbrev P_Booku_getitemu : List Str := ["self", "thing"]
theorem sc_Booku_getitemu : FnScope N_Booku_getitemu P_Booku_getitemu (defScope s_Booku_getitemu) := ⟨rfl, rfl, rfl, by decide +kernel, rfl, by decide +kernel, by decide +kernel⟩
abbrev s_Book_writes : Stmt := inClass (top 63) 7
abbrev N_Book_writes : List Str := ["self", "name", "deed"]
abbrev P_Book_writes : List Str := ["self", "name"]
theorem sc_Book_writes : FnScope N_Book_writes P_Book_writes (defScope s_Book_writes) := ⟨rfl, rfl, rfl, by decide +kernel, rfl, by decide +kernel, by decide +kernel⟩
abbrev s_l_bag : Stmt := top 65
abbrev N_l_bag : List Str := ["_law_script", "_law_at", "_law_cell", "_law_blend", "_law_k", "_law_each"]
abbrev P_l_bag : List Str := ["_law_script", "_law_at"]
theorem sc_l_bag : FnScope N_l_bag P_l_bag (defScope s_l_bag) := ⟨rfl, rfl, rfl, by decide +kernel, rfl, by decide +kernel, by decide +kernel⟩
abbrev s_l_take : Stmt := top 66
abbrev N_l_take : List Str := ["_law_bag_here", "_law_many", "_law_digit"]
abbrev P_l_take : List Str := ["_law_bag_here", "_law_many"]
theorem sc_l_take : FnScope N_l_take P_l_take (defScope s_l_take) := ⟨rfl, rfl, rfl, by decide +kernel, rfl, by decide +kernel, by decide +kernel⟩
abbrev s_l_of : Stmt := top 67
abbrev N_l_of : List Str := ["_law_bag_here", "_law_some"]
abbrev P_l_of : List Str := ["_law_bag_here", "_law_some"]
theorem sc_l_of : FnScope N_l_of P_l_of (defScope s_l_of) := ⟨rfl, rfl, rfl, by decide +kernel, rfl, by decide +kernel, by decide +kernel⟩
abbrev s_l_names : Stmt := top 68
abbrev N_l_names : List Str := ["_law_bag_here", "_law_many", "_law_banned", "_law_letters", "_law_found", "_law_turn", "_law_name", "_law_k", "_law_letter"]
abbrev P_l_names : List Str := ["_law_bag_here", "_law_many", "_law_banned"]
theorem sc_l_names : FnScope N_l_names P_l_names (defScope s_l_names) := ⟨rfl, rfl, rfl, by decide +kernel, rfl, by decide +kernel, by decide +kernel⟩
abbrev s_l_value : Stmt := top 69
abbrev N_l_value : List Str := ["_law_bag_here", "_law_way"]
abbrev P_l_value : List Str := ["_law_bag_here"]
theorem sc_l_value : FnScope N_l_value P_l_value (defScope s_l_value) := ⟨rfl, rfl, rfl, by decide +kernel, rfl, by decide +kernel, by decide +kernel⟩
abbrev s_l_note : Stmt := top 70
abbrev N_l_note : List Str := ["_law_bag_here", "_law_words", "_law_olds", "_law_news", "_law_word"]
abbrev P_l_note : List Str := ["_law_bag_here", "_law_words"]
theorem sc_l_note : FnScope N_l_note P_l_note (defScope s_l_note) := ⟨rfl, rfl, rfl, by decide +kernel, rfl, by decide +kernel, by decide +kernel⟩
abbrev s_l_deed : Stmt := top 71
abbrev N_l_deed : List Str := ["_law_bag_here", "_law_kind", "_law_name", "_law_cols", "_law_states", "_law_moves", "_law_own", "_law_words", "_law_state_here", "_law_column"]
abbrev P_l_deed : List Str := ["_law_bag_here", "_law_kind", "_law_name", "_law_cols", "_law_states"]
theorem sc_l_deed : FnScope N_l_deed P_l_deed (defScope s_l_deed) := ⟨rfl, rfl, rfl, by decide +kernel, rfl, by decide +kernel, by decide +kernel⟩
abbrev s_l_data : Stmt := top 72
abbrev N_l_data : List Str := ["_law_bag_here", "_law_cols", "_law_states", "_law_deeds", "_law_words", "_law_marks", "_law_found", "_law_name", "_law_kind"]
abbrev P_l_data : List Str := ["_law_bag_here", "_law_cols", "_law_states", "_law_deeds"]
theorem sc_l_data : FnScope N_l_data P_l_data (defScope s_l_data) := ⟨rfl, rfl, rfl, by decide +kernel, rfl, by decide +kernel, by decide +kernel⟩
abbrev s_l_note_of : Stmt := top 73
abbrev N_l_note_of : List Str := ["_law_row_here"]
abbrev P_l_note_of : List Str := ["_law_row_here"]
theorem sc_l_note_of : FnScope N_l_note_of P_l_note_of (defScope s_l_note_of) := ⟨rfl, rfl, rfl, by decide +kernel, rfl, by decide +kernel, by decide +kernel⟩
abbrev s_l_deed_of : Stmt := top 74
abbrev N_l_deed_of : List Str := ["_law_row_here", "_law_kind", "_law_name", "_law_moves", "_law_own", "_law_memo", "_law_move"]
abbrev P_l_deed_of : List Str := ["_law_row_here"]
theorem sc_l_deed_of : FnScope N_l_deed_of P_l_deed_of (defScope s_l_deed_of) := ⟨rfl, rfl, rfl, by decide +kernel, rfl, by decide +kernel, by decide +kernel⟩
abbrev s_l_book : Stmt := top 75
abbrev N_l_book : List Str := ["_law_data_here", "_law_row_here"]
abbrev P_l_book : List Str := ["_law_data_here"]
theorem sc_l_book : FnScope N_l_book P_l_book (defScope s_l_book) := ⟨rfl, rfl, rfl, by decide +kernel, rfl, by decide +kernel, by decide +kernel⟩
abbrev s_l_state : Stmt := top 76
abbrev N_l_state : List Str := ["_law_row_here"]
abbrev P_l_state : List Str := ["_law_row_here"]
theorem sc_l_state : FnScope N_l_state P_l_state (defScope s_l_state) := ⟨rfl, rfl, rfl, by decide +kernel, rfl, by decide +kernel, by decide +kernel⟩
abbrev s_l_fits : Stmt := top 77
abbrev N_l_fits : List Str := ["_law_data_here", "_law_row_here", "_law_deed_here", "_law_move"]
abbrev P_l_fits : List Str := ["_law_data_here", "_law_row_here"]
theorem sc_l_fits : FnScope N_l_fits P_l_fits (defScope s_l_fits) := ⟨rfl, rfl, rfl, by decide +kernel, rfl, by decide +kernel, by decide +kernel⟩
abbrev s_l_worths : Stmt := top 78
abbrev N_l_worths : List Str := ["_law_bag_here", "_law_data_here", "_law_deed_here", "_law_found", "_law_column"]
abbrev P_l_worths : List Str := ["_law_bag_here", "_law_data_here", "_law_deed_here"]
theorem sc_l_worths : FnScope N_l_worths P_l_worths (defScope s_l_worths) := ⟨rfl, rfl, rfl, by decide +kernel, rfl, by decide +kernel, by decide +kernel⟩
abbrev s_l_row : Stmt := top 79
abbrev N_l_row : List Str := ["_law_data_here", "_law_row_here", "_law_deed_here", "_law_worths_here", "_law_state_here", "_law_found", "_law_column", "_law_move"]
abbrev P_l_row : List Str := ["_law_data_here", "_law_row_here", "_law_deed_here", "_law_worths_here"]
theorem sc_l_row : FnScope N_l_row P_l_row (defScope s_l_row) := ⟨rfl, rfl, rfl, by decide +kernel, rfl, by decide +kernel, by decide +kernel⟩
abbrev s_l_steps : Stmt := top 82
abbrev N_l_steps : List Str := ["_law_bag_here", "_law_data_here", "_law_many", "_law_row_here", "_law_found", "_law_turn", "_law_fits_here", "_law_deed_here", "_law_worths_here", "_law_column"]
abbrev P_l_steps : List Str := ["_law_bag_here", "_law_data_here", "_law_many"]
theorem sc_l_steps : FnScope N_l_steps P_l_steps (defScope s_l_steps) := ⟨rfl, rfl, rfl, by decide +kernel, rfl, by decide +kernel, by decide +kernel⟩
abbrev s_l_copy : Stmt := top 85
abbrev N_l_copy : List Str := ["_law_steps_here", "_law_step"]
abbrev P_l_copy : List Str := ["_law_steps_here"]
theorem sc_l_copy : FnScope N_l_copy P_l_copy (defScope s_l_copy) := ⟨rfl, rfl, rfl, by decide +kernel, rfl, by decide +kernel, by decide +kernel⟩
abbrev s_l_later : Stmt := top 86
abbrev N_l_later : List Str := ["_law_entries", "_law_place", "_law_found", "_law_moment", "_law_name", "_law_olds", "_law_news"]
abbrev P_l_later : List Str := ["_law_entries", "_law_place"]
theorem sc_l_later : FnScope N_l_later P_l_later (defScope s_l_later) := ⟨rfl, rfl, rfl, by decide +kernel, rfl, by decide +kernel, by decide +kernel⟩
abbrev s_l_longer : Stmt := top 87
abbrev N_l_longer : List Str := ["_law_past", "_law_place", "_law_thing"]
abbrev P_l_longer : List Str := ["_law_past", "_law_place", "_law_thing"]
theorem sc_l_longer : FnScope N_l_longer P_l_longer (defScope s_l_longer) := ⟨rfl, rfl, rfl, by decide +kernel, rfl, by decide +kernel, by decide +kernel⟩
abbrev s_l_moved : Stmt := top 88
abbrev N_l_moved : List Str := ["_law_history", "_law_longer_here", "_law_data_here", "_law_place", "_law_target", "_law_past", "_law_column"]
abbrev P_l_moved : List Str := ["_law_history", "_law_longer_here", "_law_data_here", "_law_place"]
theorem sc_l_moved : FnScope N_l_moved P_l_moved (defScope s_l_moved) := ⟨rfl, rfl, rfl, by decide +kernel, rfl, by decide +kernel, by decide +kernel⟩
abbrev s_law : Stmt := top 89
abbrev N_law : List Str := ["_law_script", "_law_at", "_law_bag_here", "_law_data_here", "_law_book_here", "_law_steps_here", "_law_history", "_law_turn", "_law_place", "_law_longer_here", "_law_kept"]
abbrev P_law : List Str := ["_law_script"]
theorem sc_law : FnScope N_law P_law (defScope s_law) := ⟨rfl, rfl, rfl, by decide +kernel, rfl, by decide +kernel, by decide +kernel⟩
end Pn

-- PnR0
set_option
      maxHeartbeats 4000000
namespace Pn
open PySem PySem.Spec L2 PyProof.Rows StX ClX
open He (eqO eqO_ok ba ga ma Fa frT)
def propB (K : PySem.W.Frag) (C : Addr) (f : Str) (p g : Addr) : Bool := eqO (PySem.W.findIn K (.ref C) f) (some (some (.ref p))) && (eqO (PySem.W.specialIn K (.ref p) "__get__") (some (some (.builtin "property.__get__"))) && (decide (PySem.W.takesIn K (.ref p) = some true) && (match PySem.W.recIn K p "property" with
  | some (.ref a :: _) => decide (a = g)
  | _ => false)))
def creadB (K : PySem.W.Frag) (C : Addr) : Bool := PySem.W.readsIn K C (.type "type") && eqO (PySem.W.specialIn K (.ref C) "__getattribute__") (some (some (.builtin "type.__getattribute__")))
def insB (K : PySem.W.Frag) (C : Addr) : Bool := eqO (PySem.W.findIn K (.ref C) "__class__") (some (some (.builtin "object.__class__"))) && (eqO (PySem.W.specialIn K (.builtin "object.__class__") "__get__") (some (some (.builtin "getset_descriptor.__get__"))) &&
  (decide (PySem.W.takesIn K (.builtin "object.__class__") = some true) && decide (PySem.W.mroIn K C (.type "object") = some true)))
/-- what isinstance answers for the classes: the pairs that are asked -/
def kitB2 (K : PySem.W.Frag) (q : Str × Str × Bool) : Bool := decide (PySem.W.kitOne K (.ref (ga K q.1)) (.ref (ga K q.2.1)) = some q.2.2)
def tzB (K : PySem.W.Frag) : Bool := ([("Note", "Note", true), ("Make", "Make", true), ("Change", "Make", false), ("End", "Make", false), ("Make", "Change", false), ("Change", "Change", true), ("End", "Change", false), ("Make", "End", false), ("Change", "End", false), ("End", "End", true)] : List (Str × Str × Bool)).all (kitB2 K) &&
  (([ "Note", "Make", "Change", "End"] : List Str).all (fun x => insB K (ga K x)) && PySem.W.fnIn K (ma K (ga K "Book") "__getitem__"))
def refsP (o : Obj) : List Addr := match o.cls with
  | .type n => (match decide (n = "code") with
    | true => []
    | false => He.refsD o)
  | _ => He.refsD o
def growP (g : Addr → Option Obj) (as : List Addr) : List Addr := as.flatMap fun a => match g a with
  | some o => refsP o
  | none => []
def levP (g : Addr → Option Obj) : Nat → List Addr → List Addr
  | 0, as => as
  | n + 1, as => as ++ levP g n (growP g as)
/-- the functions and classes that the module names -/
def topP (g : Addr → Option Obj) : List Addr := match g mainGlobals with
  | some ⟨_, _, .dict es _, _⟩ => es.toList.flatMap fun e => match e.val with
    | .ref a => (match g a with
      | some ⟨_, _, .func _, _⟩ => [a]
      | some ⟨_, _, .cls _, _⟩ => [a]
      | _ => [])
    | _ => []
  | _ => []
def asP (g : Addr → Option Obj) : List Addr := mainGlobals :: cStatics :: levP g 4 (topP g)
abbrev FnC : Type := Option (Str × Str × Arguments × FuncBody × Scope × Addr × List Str × Addr)
def fnC (K : PySem.W.Frag) (a : Addr) : FnC := match K.lookup a with
  | some ⟨_, _, .func fd, _⟩ => some (fd.name, fd.qualname, fd.params, fd.body, fd.scope, fd.globals, fd.closure.map (·.1), fd.builtins)
  | _ => none
structure CloD where
  cl : Str
  qual : Str
  st : Stmt
def CloD.adr (c : CloD) (K : PySem.W.Frag) : Addr := ma K (ga K c.cl) "__init__"
def CloD.val (c : CloD) : FnC := some ("__init__", c.qual, defArgs c.st, .stmts (defBody c.st), defScope c.st, mainGlobals, ["__class__"], builtinsNs)
def fileB (K : PySem.W.Frag) (c : Addr) (F : Str) : Bool := match K.lookup c with
  | some ⟨_, _, .fields vs, _⟩ => (match (vs[2]? : Option Value) with
    | some (.str file _) => F == file
    | _ => false)
  | _ => false
def cellB (K : PySem.W.Frag) (c D : Addr) : Bool := match K.lookup c with
  | some ⟨_, _, .cell (some (.ref a)), _⟩ => decide (a = D)
  | _ => false
def supB (F : Str) (K : PySem.W.Frag) (c : CloD) : Bool := (match K.lookup (c.adr K) with
  | some ⟨_, _, .func fd, _⟩ =>
        (match fd.code with
    | .ref cda => (match fd.closure with
      | [q] => PySem.W.codeIn K (.ref cda) c.qual && (fileB K cda F && (cellB K q.2 (ga K c.cl) && decide (fd.defaults = .none)))
      | _ => false)
    | _ => false)
  | _ => false) && ((PySem.W.clsIn K (ga K c.cl)).isSome && (decide (PySem.W.mroIn K (ga K c.cl) (.ref (ga K c.cl)) = some true) && (eqO (PySem.W.nsIn K cStatics "thirdparty.any") (some none) &&
    (eqO (PySem.W.ks_superIn K (ga K c.cl) (ga K c.cl) "__init__") (some (some (.ref (ma K (ga K "Deed") "__init__")))) && (decide (PySem.W.typeIn K (.ref (ma K (ga K "Deed") "__init__")) = some (.type "function")) && PySem.W.fnIn K (ma K (ga K "Deed") "__init__"))))))
abbrev R : PySem.W.OpenRow := PySem.W.OpenLaw.row PySem.Challenge.rw_pastnotes_k29_whole_rests_put_in
def dA (x q : Str) (s : Stmt) (at_ : PySem.W.Frag → Addr) : He5.DefA := ⟨at_, x, q, defArgs s, defBody s, defScope s, [], []⟩
def fa0 : List Fa := [.free "isinstance", .free "int", .free "bool", .free "str", .free "len", .free "all", .free "enumerate", .free "tuple", .free "sorted", .free "dict", .free "list", .free "range", .free "max", .free "min", .free "abs", .free "repr", .free "super", .int "MOST_LETTERS" 8, .int "MOST_MOMENTS" 400, .int "MOST_WORDS" 4, .int "MOST_MOVES" 4, .int "MOST_COLUMNS" 3, .int "MOST_DEEDS" 8, .int "MOST_STATES" 4, .int "MOST_KEPT" 3, .int "MOST_VALUE" (10 ^ 30), .str "LETTERS" "abcdefghijklmnopqrstuvwxyz", .glo "is_integer", .glo "is_name", .glo "is_value", .glo "is_between", .glo "check_name", .glo "check_once", .glo "check_names", .glo "state_of", .glo "copy_row", .glo "is_target", .glo "check_target", .glo "check_column", .glo "check_worths", .glo "row_after", .glo "entry_of", .glo "entry_list", .glo "last_ones", .glo "without_repeats", .glo "check_step", .glo "played", .glo "pairs_of", .glo "check_note", .glo "check_columns", .glo "check_words", .glo "_law_bag", .glo "_law_take", .glo "_law_of", .glo "_law_names", .glo "_law_value", .glo "_law_note", .glo "_law_deed", .glo "_law_data", .glo "_law_note_of", .glo "_law_deed_of", .glo "_law_book", .glo "_law_state", .glo "_law_fits", .glo "_law_worths", .glo "_law_row", .glo "_law_steps", .glo "_law_copy", .glo "_law_later", .glo "_law_longer", .glo "_law_moved", .glo "law", .glo "History", .cls "History", .glo "Note", .cls "Note", .glo "Deed", .glo "Make", .cls "Make", .glo "Change", .cls "Change", .glo "End", .cls "End", .glo "Book", .cls "Book", .noat "History" "book", .noat "History" "done", .noat "History" "stand", .noat "History" "noted", .noat "Note" "old", .noat "Note" "new", .noat "Note" "named", .noat "Note" "changed", .noat "Make" "name", .noat "Make" "moves", .noat "Make" "columns", .noat "Make" "note", .noat "Change" "name", .noat "Change" "moves", .noat "Change" "columns", .noat "Change" "note", .noat "End" "name", .noat "End" "moves", .noat "End" "columns", .noat "End" "note", .noat "Book" "columns", .noat "Book" "states", .noat "Book" "deeds", .noat "Book" "names", .noat "Book" "keep", .meth "History" "__len__", .meth "History" "told", .meth "History" "past", .meth "History" "course", .meth "Note" "entry", .meth "Make" "after", .meth "Change" "after", .meth "End" "after", .meth "Book" "__contains__", .meth "Book" "__getitem__", .meth "Book" "writes", .mkr "History", .mkr "Note", .mkr "Book", .mkr "Make", .mkr "Change", .mkr "End"]
def fn0 : List He5.DefA := [dA "is_integer" "is_integer" s_is_integer fun K => He.ga K "is_integer", dA "is_name" "is_name" s_is_name fun K => He.ga K "is_name", dA "is_value" "is_value" s_is_value fun K => He.ga K "is_value", dA "is_between" "is_between" s_is_between fun K => He.ga K "is_between", dA "check_name" "check_name" s_check_name fun K => He.ga K "check_name", dA "check_once" "check_once" s_check_once fun K => He.ga K "check_once", dA "check_names" "check_names" s_check_names fun K => He.ga K "check_names", dA "state_of" "state_of" s_state_of fun K => He.ga K "state_of", dA "copy_row" "copy_row" s_copy_row fun K => He.ga K "copy_row", dA "is_target" "is_target" s_is_target fun K => He.ga K "is_target", dA "check_target" "check_target" s_check_target fun K => He.ga K "check_target", dA "check_column" "check_column" s_check_column fun K => He.ga K "check_column", dA "check_worths" "check_worths" s_check_worths fun K => He.ga K "check_worths", dA "row_after" "row_after" s_row_after fun K => He.ga K "row_after", dA "entry_of" "entry_of" s_entry_of fun K => He.ga K "entry_of", dA "entry_list" "entry_list" s_entry_list fun K => He.ga K "entry_list", dA "last_ones" "last_ones" s_last_ones fun K => He.ga K "last_ones", dA "without_repeats" "without_repeats" s_without_repeats fun K => He.ga K "without_repeats", dA "check_step" "check_step" s_check_step fun K => He.ga K "check_step", dA "played" "played" s_played fun K => He.ga K "played", dA "__init__" "History.__init__" s_Historyu_initu fun K => He.ma K (He.ga K "History") "__init__", dA "of" "History.of" s_History_of fun K => He5.wf K (He.ga K "History") "classmethod" "of", dA "row" "History.row" s_History_row fun K => He5.wf K (He.ga K "History") "property" "row", dA "log" "History.log" s_History_log fun K => He5.wf K (He.ga K "History") "property" "log", dA "entries" "History.entries" s_History_entries fun K => He5.wf K (He.ga K "History") "property" "entries", dA "__len__" "History.__len__" s_Historyu_lenu fun K => He.ma K (He.ga K "History") "__len__", dA "told" "History.told" s_History_told fun K => He.ma K (He.ga K "History") "told", dA "past" "History.past" s_History_past fun K => He.ma K (He.ga K "History") "past", dA "course" "History.course" s_History_course fun K => He.ma K (He.ga K "History") "course", dA "__init__" "Note.__init__" s_Noteu_initu fun K => He.ma K (He.ga K "Note") "__init__", dA "entry" "Note.entry" s_Note_entry fun K => He.ma K (He.ga K "Note") "entry", dA "pairs_of" "pairs_of" s_pairs_of fun K => He.ga K "pairs_of", dA "check_note" "check_note" s_check_note fun K => He.ga K "check_note", dA "__init__" "Deed.__init__" s_Deedu_initu fun K => He.ma K (He.ga K "Deed") "__init__", dA "after" "Deed.after" s_Deed_after fun K => He.ma K (He.ga K "Deed") "after", dA "of" "Change.of" s_Change_of fun K => He5.wf K (He.ga K "Change") "classmethod" "of", dA "of" "End.of" s_End_of fun K => He5.wf K (He.ga K "End") "classmethod" "of", dA "check_columns" "check_columns" s_check_columns fun K => He.ga K "check_columns", dA "check_words" "check_words" s_check_words fun K => He.ga K "check_words", dA "__init__" "Book.__init__" s_Booku_initu fun K => He.ma K (He.ga K "Book") "__init__", dA "of" "Book.of" s_Book_of fun K => He5.wf K (He.ga K "Book") "classmethod" "of", dA "__contains__" "Book.__contains__" s_Booku_containsu fun K => He.ma K (He.ga K "Book") "__contains__", dA "__getitem__" "Book.__getitem__" s_Booku_getitemu fun K => He.ma K (He.ga K "Book") "__getitem__", dA "writes" "Book.writes" s_Book_writes fun K => He.ma K (He.ga K "Book") "writes", dA "_law_bag" "_law_bag" s_l_bag fun K => He.ga K "_law_bag", dA "_law_take" "_law_take" s_l_take fun K => He.ga K "_law_take", dA "_law_of" "_law_of" s_l_of fun K => He.ga K "_law_of", dA "_law_names" "_law_names" s_l_names fun K => He.ga K "_law_names", dA "_law_value" "_law_value" s_l_value fun K => He.ga K "_law_value", dA "_law_note" "_law_note" s_l_note fun K => He.ga K "_law_note", dA "_law_deed" "_law_deed" s_l_deed fun K => He.ga K "_law_deed", dA "_law_data" "_law_data" s_l_data fun K => He.ga K "_law_data", dA "_law_note_of" "_law_note_of" s_l_note_of fun K => He.ga K "_law_note_of", dA "_law_deed_of" "_law_deed_of" s_l_deed_of fun K => He.ga K "_law_deed_of", dA "_law_book" "_law_book" s_l_book fun K => He.ga K "_law_book", dA "_law_state" "_law_state" s_l_state fun K => He.ga K "_law_state", dA "_law_fits" "_law_fits" s_l_fits fun K => He.ga K "_law_fits", dA "_law_worths" "_law_worths" s_l_worths fun K => He.ga K "_law_worths", dA "_law_row" "_law_row" s_l_row fun K => He.ga K "_law_row", dA "_law_steps" "_law_steps" s_l_steps fun K => He.ga K "_law_steps", dA "_law_copy" "_law_copy" s_l_copy fun K => He.ga K "_law_copy", dA "_law_later" "_law_later" s_l_later fun K => He.ga K "_law_later", dA "_law_longer" "_law_longer" s_l_longer fun K => He.ga K "_law_longer", dA "_law_moved" "_law_moved" s_l_moved fun K => He.ga K "_law_moved", dA "law" "law" s_law fun K => He.ga K "law"]
def cl0 : List CloD := [⟨"Make", "Make.__init__", s_Makeu_initu⟩, ⟨"Change", "Change.__init__", s_Changeu_initu⟩, ⟨"End", "End.__init__", s_Endu_initu⟩]
def tf0 : List He.Defn := [("Book", some "__init__")]
def cmB (K : PySem.W.Frag) (c : Str) : Bool := He5.wrapB K (ga K c) "classmethod" "classmethod.__get__" "of" && PySem.W.fnIn K (He5.wf K (ga K c) "classmethod" "of")
def maB (K : PySem.W.Frag) (c : Str) : Bool := decide (ma K (ga K c) "after" = ma K (ga K "Deed") "after")
def exs (K : PySem.W.Frag) : List (List Bool) := [(["History", "Change", "End", "Book"] : List Str).map (fun c => creadB K (ga K c)), (["History", "Change", "End", "Book"] : List Str).map (cmB K), (["row", "log", "entries"] : List Str).map (fun m => propB K (ga K "History") m (ma K (ga K "History") m) (He5.wf K (ga K "History") "property" m)), (["Make", "Change", "End"] : List Str).map (maB K), [tzB K], cl0.map (supB R.prog.main.file K)]
def ex0 (K : PySem.W.Frag) : Bool := (exs K).all fun l => l.all id
end Pn

-- PnZ0
set_option maxHeartbeats 0
namespace Pn
open PySem PySem.W
      PySem.Calls PyProof.Rows
abbrev qv : Program := view R.prog [89]
def names0 : List PySem.Str := [("_wall" : PySem.Str), ("BadName" : PySem.Str), ("BadNote" : PySem.Str), ("BadMove" : PySem.Str), ("BadDeed" : PySem.Str), ("BadKeep" : PySem.Str), ("BadStep" : PySem.Str), ("BadValues" : PySem.Str), ("BadValue" : PySem.Str), ("BadTarget" : PySem.Str), ("Twice" : PySem.Str), ("NotWritten" : PySem.Str), ("NoDeed" : PySem.Str), ("NoColumn" : PySem.Str), ("NoMoment" : PySem.Str), ("NotAllowed" : PySem.Str), ("TooMany" : PySem.Str), ("LETTERS" : PySem.Str), ("MOST_LETTERS" : PySem.Str), ("MOST_VALUE" : PySem.Str), ("is_integer" : PySem.Str), ("is_name" : PySem.Str), ("is_value" : PySem.Str), ("is_between" : PySem.Str), ("check_name" : PySem.Str), ("check_once" : PySem.Str), ("check_names" : PySem.Str), ("MOST_MOMENTS" : PySem.Str), ("state_of" : PySem.Str), ("copy_row" : PySem.Str), ("is_target" : PySem.Str), ("check_target" : PySem.Str), ("check_column" : PySem.Str), ("check_worths" : PySem.Str), ("row_after" : PySem.Str), ("entry_of" : PySem.Str)]
def names1 : List PySem.Str := [("entry_list" : PySem.Str), ("last_ones" : PySem.Str), ("without_repeats" : PySem.Str), ("check_step" : PySem.Str), ("played" : PySem.Str), ("History" : PySem.Str), ("MOST_WORDS" : PySem.Str), ("Note" : PySem.Str), ("pairs_of" : PySem.Str), ("MOST_MOVES" : PySem.Str), ("MOST_COLUMNS" : PySem.Str), ("check_note" : PySem.Str), ("Deed" : PySem.Str), ("Make" : PySem.Str), ("Change" : PySem.Str), ("End" : PySem.Str), ("MOST_DEEDS" : PySem.Str), ("MOST_STATES" : PySem.Str), ("MOST_KEPT" : PySem.Str), ("check_columns" : PySem.Str), ("check_words" : PySem.Str), ("Book" : PySem.Str), ("_law_bag" : PySem.Str), ("_law_take" : PySem.Str), ("_law_of" : PySem.Str), ("_law_names" : PySem.Str), ("_law_value" : PySem.Str), ("_law_note" : PySem.Str), ("_law_deed" : PySem.Str), ("_law_data" : PySem.Str), ("_law_note_of" : PySem.Str), ("_law_deed_of" : PySem.Str), ("_law_book" : PySem.Str), ("_law_state" : PySem.Str), ("_law_fits" : PySem.Str), ("_law_worths" : PySem.Str)]
def names2 : List PySem.Str := [("_law_row" : PySem.Str), ("_law_pairs" : PySem.Str), ("_law_entry" : PySem.Str), ("_law_steps" : PySem.Str), ("_law_by_name" : PySem.Str), ("_law_play" : PySem.Str), ("_law_copy" : PySem.Str), ("_law_later" : PySem.Str), ("_law_longer" : PySem.Str), ("_law_moved" : PySem.Str)]
def names : List PySem.Str := names0 ++ names1 ++ names2
/-- the state behind the top, as a tree -/
noncomputable abbrev topT (w : World) (os : OsState) : Option SharedT := HandSHeadRun.endF (HandSHeadRun.stepQ (HandSHeadRun.denQ HandSHeadRun.tabQ) R.prog w) 20000 R.prog w os
/-- what is looked at there -/
abbrev kP (s : SharedT) : Frag := He.frT (HandSHeadRun.getT s) (asP (HandSHeadRun.getT s))
theorem run1 (w : World) : HandSHeadRun.RunEq R qv Hook.none (fun _ => ()) 20000 names w := by
  intro os
  kernel_rfl
theorem run2 (w : World) (os : OsState) : (topT w os).map (fun s => (fa0.all fun f => f.ok (kP s)) && (ex0 (kP s) && He.tabsB (HandSHeadRun.getT s) tf0 (kP s))) = some true := by
  kernel_rfl
theorem run3 (w : World) (os : OsState) : (topT w os).map (fun s => ((fn0.all fun d => d.ok (kP s)), fn0.map (fun d => He5.fnA (kP s) (d.at_ (kP s))), cl0.map (fun c => fnC (kP s) (c.adr (kP s))))) = some (true, fn0.map He5.DefA.val, cl0.map CloD.val) := by
  kernel_rfl
end Pn

-- PnF
set_option
      maxHeartbeats 4000000
namespace Pn
open PySem PySem.Spec L2 PyProof.Rows StX ClX
/-- a def of the text at an address -/
abbrev FnAt (K : PySem.W.Frag) (x qual : Str) (st : Stmt) (f : Addr) : Prop := ∃ fd, FunD K x qual (defArgs st) (defBody st) (defScope st) [] [] f fd
structure Tx (K : PySem.W.Frag) (mg : Str → Option Value) : Prop where
  f_isinstance : mg "isinstance" = none
  f_int : mg "int" = none
  f_bool : mg "bool" = none
  f_str : mg "str" = none
  f_len : mg "len" = none
  f_all : mg "all" = none
  f_enumerate : mg "enumerate" = none
  f_tuple : mg "tuple" = none
  f_sorted : mg "sorted" = none
  f_dict : mg "dict" = none
  f_list : mg "list" = none
  f_range : mg "range" = none
  f_max : mg "max" = none
  f_min : mg "min" = none
  f_abs : mg "abs" = none
  f_repr : mg "repr" = none
  f_super : mg "super" = none
  i_MOST_LETTERS : ∃ t, mg "MOST_LETTERS" = some (.int 8 t)
  i_MOST_MOMENTS : ∃ t, mg "MOST_MOMENTS" = some (.int 400 t)
  i_MOST_WORDS : ∃ t, mg "MOST_WORDS" = some (.int 4 t)
  i_MOST_MOVES : ∃ t, mg "MOST_MOVES" = some (.int 4 t)
  i_MOST_COLUMNS : ∃ t, mg "MOST_COLUMNS" = some (.int 3 t)
  i_MOST_DEEDS : ∃ t, mg "MOST_DEEDS" = some (.int 8 t)
  i_MOST_STATES : ∃ t, mg "MOST_STATES" = some (.int 4 t)
  i_MOST_KEPT : ∃ t, mg "MOST_KEPT" = some (.int 3 t)
  i_MOST_VALUE : ∃ t, mg "MOST_VALUE" = some (.int (10 ^ 30) t)
  s_LETTERS : ∃ t, mg "LETTERS" = some (.str "abcdefghijklmnopqrstuvwxyz" t)
  g_is_integer : mg "is_integer" = some (.ref (He.ga K "is_integer"))
  d_is_integer : FnAt K "is_integer" "is_integer" s_is_integer (He.ga K "is_integer")
  g_is_name : mg "is_name" = some (.ref (He.ga K "is_name"))
  d_is_name : FnAt K "is_name" "is_name" s_is_name (He.ga K "is_name")
  g_is_value : mg "is_value" = some (.ref (He.ga K "is_value"))
  d_is_value : FnAt K "is_value" "is_value" s_is_value (He.ga K "is_value")
  g_is_between : mg "is_between" = some (.ref (He.ga K "is_between"))
  d_is_between : FnAt K "is_between" "is_between" s_is_between (He.ga K "is_between")
  g_check_name : mg "check_name" = some (.ref (He.ga K "check_name"))
  d_check_name : FnAt K "check_name" "check_name" s_check_name (He.ga K "check_name")
  g_check_once : mg "check_once" = some (.ref (He.ga K "check_once"))
  d_check_once : FnAt K "check_once" "check_once" s_check_once (He.ga K "check_once")
  g_check_names : mg "check_names" = some (.ref (He.ga K "check_names"))
  d_check_names : FnAt K "check_names" "check_names" s_check_names (He.ga K "check_names")
  g_state_of : mg "state_of" = some (.ref (He.ga K "state_of"))
  d_state_of : FnAt K "state_of" "state_of" s_state_of (He.ga K "state_of")
  g_copy_row : mg "copy_row" = some (.ref (He.ga K "copy_row"))
  d_copy_row : FnAt K "copy_row" "copy_row" s_copy_row (He.ga K "copy_row")
  g_is_target : mg "is_target" = some (.ref (He.ga K "is_target"))
  d_is_target : FnAt K "is_target" "is_target" s_is_target (He.ga K "is_target")
  g_check_target : mg "check_target" = some (.ref (He.ga K "check_target"))
  d_check_target : FnAt K "check_target" "check_target" s_check_target (He.ga K "check_target")
  g_check_column : mg "check_column" = some (.ref (He.ga K "check_column"))
  d_check_column : FnAt K "check_column" "check_column" s_check_column (He.ga K "check_column")
  g_check_worths : mg "check_worths" = some (.ref (He.ga K "check_worths"))
  d_check_worths : FnAt K "check_worths" "check_worths" s_check_worths (He.ga K "check_worths")
  g_row_after : mg "row_after" = some (.ref (He.ga K "row_after"))
  d_row_after : FnAt K "row_after" "row_after" s_row_after (He.ga K "row_after")
  g_entry_of : mg "entry_of" = some (.ref (He.ga K "entry_of"))
  d_entry_of : FnAt K "entry_of" "entry_of" s_entry_of (He.ga K "entry_of")
  g_entry_list : mg "entry_list" = some (.ref (He.ga K "entry_list"))
  d_entry_list : FnAt K "entry_list" "entry_list" s_entry_list (He.ga K "entry_list")
  g_last_ones : mg "last_ones" = some (.ref (He.ga K "last_ones"))
  d_last_ones : FnAt K "last_ones" "last_ones" s_last_ones (He.ga K "last_ones")
  g_without_repeats : mg "without_repeats" = some (.ref (He.ga K "without_repeats"))
  d_without_repeats : FnAt K "without_repeats" "without_repeats" s_without_repeats (He.ga K "without_repeats")
  g_check_step : mg "check_step" = some (.ref (He.ga K "check_step"))
  d_check_step : FnAt K "check_step" "check_step" s_check_step (He.ga K "check_step")
  g_played : mg "played" = some (.ref (He.ga K "played"))
  d_played : FnAt K "played" "played" s_played (He.ga K "played")
  d_Historyu_initu : FnAt K "__init__" "History.__init__" s_Historyu_initu (He.ma K (He.ga K "History") "__init__")
  d_History_of : FnAt K "of" "History.of" s_History_of (He5.wf K (He.ga K "History") "classmethod" "of")
  d_History_row : FnAt K "row" "History.row" s_History_row (He5.wf K (He.ga K "History") "property" "row")
  d_History_log : FnAt K "log" "History.log" s_History_log (He5.wf K (He.ga K "History") "property" "log")
  d_History_entries : FnAt K "entries" "History.entries" s_History_entries (He5.wf K (He.ga K "History") "property" "entries")
  d_Historyu_lenu : FnAt K "__len__" "History.__len__" s_Historyu_lenu (He.ma K (He.ga K "History") "__len__")
  d_History_told : FnAt K "told" "History.told" s_History_told (He.ma K (He.ga K "History") "told")
  d_History_past : FnAt K "past" "History.past" s_History_past (He.ma K (He.ga K "History") "past")
  d_History_course : FnAt K "course" "History.course" s_History_course (He.ma K (He.ga K "History") "course")
  d_Noteu_initu : FnAt K "__init__" "Note.__init__" s_Noteu_initu (He.ma K (He.ga K "Note") "__init__")
  d_Note_entry : FnAt K "entry" "Note.entry" s_Note_entry (He.ma K (He.ga K "Note") "entry")
  g_pairs_of : mg "pairs_of" = some (.ref (He.ga K "pairs_of"))
  d_pairs_of : FnAt K "pairs_of" "pairs_of" s_pairs_of (He.ga K "pairs_of")
  g_check_note : mg "check_note" = some (.ref (He.ga K "check_note"))
  d_check_note : FnAt K "check_note" "check_note" s_check_note (He.ga K "check_note")
  d_Deedu_initu : FnAt K "__init__" "Deed.__init__" s_Deedu_initu (He.ma K (He.ga K "Deed") "__init__")
  d_Deed_after : FnAt K "after" "Deed.after" s_Deed_after (He.ma K (He.ga K "Deed") "after")
  d_Change_of : FnAt K "of" "Change.of" s_Change_of (He5.wf K (He.ga K "Change") "classmethod" "of")
  d_End_of : FnAt K "of" "End.of" s_End_of (He5.wf K (He.ga K "End") "classmethod" "of")
  g_check_columns : mg "check_columns" = some (.ref (He.ga K "check_columns"))
  d_check_columns : FnAt K "check_columns" "check_columns" s_check_columns (He.ga K "check_columns")
  g_check_words : mg "check_words" = some (.ref (He.ga K "check_words"))
  d_check_words : FnAt K "check_words" "check_words" s_check_words (He.ga K "check_words")
  d_Booku_initu : FnAt K "__init__" "Book.__init__" s_Booku_initu (He.ma K (He.ga K "Book") "__init__")
  d_Book_of : FnAt K "of" "Book.of" s_Book_of (He5.wf K (He.ga K "Book") "classmethod" "of")
  d_Booku_containsu : FnAt K "__contains__" "Book.__contains__" s_Booku_containsu (He.ma K (He.ga K "Book") "__contains__")
  d_Booku_getitemu : FnAt K "__getitem__" "Book.__getitem__" s_Booku_getitemu (He.ma K (He.ga K "Book") "__getitem__")
  d_Book_writes : FnAt K "writes" "Book.writes" s_Book_writes (He.ma K (He.ga K "Book") "writes")
  g_l_bag : mg "_law_bag" = some (.ref (He.ga K "_law_bag"))
  d_l_bag : FnAt K "_law_bag" "_law_bag" s_l_bag (He.ga K "_law_bag")
  g_l_take : mg "_law_take" = some (.ref (He.ga K "_law_take"))
  d_l_take : FnAt K "_law_take" "_law_take" s_l_take (He.ga K "_law_take")
  g_l_of : mg "_law_of" = some (.ref (He.ga K "_law_of"))
  d_l_of : FnAt K "_law_of" "_law_of" s_l_of (He.ga K "_law_of")
  g_l_names : mg "_law_names" = some (.ref (He.ga K "_law_names"))
  d_l_names : FnAt K "_law_names" "_law_names" s_l_names (He.ga K "_law_names")
  g_l_value : mg "_law_value" = some (.ref (He.ga K "_law_value"))
  d_l_value : FnAt K "_law_value" "_law_value" s_l_value (He.ga K "_law_value")
  g_l_note : mg "_law_note" = some (.ref (He.ga K "_law_note"))
  d_l_note : FnAt K "_law_note" "_law_note" s_l_note (He.ga K "_law_note")
  g_l_deed : mg "_law_deed" = some (.ref (He.ga K "_law_deed"))
  d_l_deed : FnAt K "_law_deed" "_law_deed" s_l_deed (He.ga K "_law_deed")
  g_l_data : mg "_law_data" = some (.ref (He.ga K "_law_data"))
  d_l_data : FnAt K "_law_data" "_law_data" s_l_data (He.ga K "_law_data")
  g_l_note_of : mg "_law_note_of" = some (.ref (He.ga K "_law_note_of"))
  d_l_note_of : FnAt K "_law_note_of" "_law_note_of" s_l_note_of (He.ga K "_law_note_of")
  g_l_deed_of : mg "_law_deed_of" = some (.ref (He.ga K "_law_deed_of"))
  d_l_deed_of : FnAt K "_law_deed_of" "_law_deed_of" s_l_deed_of (He.ga K "_law_deed_of")
  g_l_book : mg "_law_book" = some (.ref (He.ga K "_law_book"))
  d_l_book : FnAt K "_law_book" "_law_book" s_l_book (He.ga K "_law_book")
  g_l_state : mg "_law_state" = some (.ref (He.ga K "_law_state"))
  d_l_state : FnAt K "_law_state" "_law_state" s_l_state (He.ga K "_law_state")
  g_l_fits : mg "_law_fits" = some (.ref (He.ga K "_law_fits"))
  d_l_fits : FnAt K "_law_fits" "_law_fits" s_l_fits (He.ga K "_law_fits")
  g_l_worths : mg "_law_worths" = some (.ref (He.ga K "_law_worths"))
  d_l_worths : FnAt K "_law_worths" "_law_worths" s_l_worths (He.ga K "_law_worths")
  g_l_row : mg "_law_row" = some (.ref (He.ga K "_law_row"))
  d_l_row : FnAt K "_law_row" "_law_row" s_l_row (He.ga K "_law_row")
  g_l_steps : mg "_law_steps" = some (.ref (He.ga K "_law_steps"))
  d_l_steps : FnAt K "_law_steps" "_law_steps" s_l_steps (He.ga K "_law_steps")
  g_l_copy : mg "_law_copy" = some (.ref (He.ga K "_law_copy"))
  d_l_copy : FnAt K "_law_copy" "_law_copy" s_l_copy (He.ga K "_law_copy")
  g_l_later : mg "_law_later" = some (.ref (He.ga K "_law_later"))
  d_l_later : FnAt K "_law_later" "_law_later" s_l_later (He.ga K "_law_later")
  g_l_longer : mg "_law_longer" = some (.ref (He.ga K "_law_longer"))
  d_l_longer : FnAt K "_law_longer" "_law_longer" s_l_longer (He.ga K "_law_longer")
  g_l_moved : mg "_law_moved" = some (.ref (He.ga K "_law_moved"))
  d_l_moved : FnAt K "_law_moved" "_law_moved" s_l_moved (He.ga K "_law_moved")
  g_law : mg "law" = some (.ref (He.ga K "law"))
  d_law : FnAt K "law" "law" s_law (He.ga K "law")
  g_History : mg "History" = some (.ref (He.ga K "History"))
  c_History : Cls K (He.ga K "History")
  g_Note : mg "Note" = some (.ref (He.ga K "Note"))
  c_Note : Cls K (He.ga K "Note")
  g_Deed : mg "Deed" = some (.ref (He.ga K "Deed"))
  g_Make : mg "Make" = some (.ref (He.ga K "Make"))
  c_Make : Cls K (He.ga K "Make")
  g_Change : mg "Change" = some (.ref (He.ga K "Change"))
  c_Change : Cls K (He.ga K "Change")
  g_End : mg "End" = some (.ref (He.ga K "End"))
  c_End : Cls K (He.ga K "End")
  g_Book : mg "Book" = some (.ref (He.ga K "Book"))
  c_Book : Cls K (He.ga K "Book")
  n_History_book : NoAttr K (He.ga K "History") "book"
  n_History_done : NoAttr K (He.ga K "History") "done"
  n_History_stand : NoAttr K (He.ga K "History") "stand"
  n_History_noted : NoAttr K (He.ga K "History") "noted"
  n_Note_old : NoAttr K (He.ga K "Note") "old"
  n_Note_new : NoAttr K (He.ga K "Note") "new"
  n_Note_named : NoAttr K (He.ga K "Note") "named"
  n_Note_changed : NoAttr K (He.ga K "Note") "changed"
  n_Make_name : NoAttr K (He.ga K "Make") "name"
  n_Make_moves : NoAttr K (He.ga K "Make") "moves"
  n_Make_columns : NoAttr K (He.ga K "Make") "columns"
  n_Make_note : NoAttr K (He.ga K "Make") "note"
  n_Change_name : NoAttr K (He.ga K "Change") "name"
  n_Change_moves : NoAttr K (He.ga K "Change") "moves"
  n_Change_columns : NoAttr K (He.ga K "Change") "columns"
  n_Change_note : NoAttr K (He.ga K "Change") "note"
  n_End_name : NoAttr K (He.ga K "End") "name"
  n_End_moves : NoAttr K (He.ga K "End") "moves"
  n_End_columns : NoAttr K (He.ga K "End") "columns"
  n_End_note : NoAttr K (He.ga K "End") "note"
  n_Book_columns : NoAttr K (He.ga K "Book") "columns"
  n_Book_states : NoAttr K (He.ga K "Book") "states"
  n_Book_deeds : NoAttr K (He.ga K "Book") "deeds"
  n_Book_names : NoAttr K (He.ga K "Book") "names"
  n_Book_keep : NoAttr K (He.ga K "Book") "keep"
  m_History_ulenu : Meth K (He.ga K "History") "__len__" (He.ma K (He.ga K "History") "__len__")
  m_History_told : Meth K (He.ga K "History") "told" (He.ma K (He.ga K "History") "told")
  m_History_past : Meth K (He.ga K "History") "past" (He.ma K (He.ga K "History") "past")
  m_History_course : Meth K (He.ga K "History") "course" (He.ma K (He.ga K "History") "course")
  m_Note_entry : Meth K (He.ga K "Note") "entry" (He.ma K (He.ga K "Note") "entry")
  m_Make_after : Meth K (He.ga K "Make") "after" (He.ma K (He.ga K "Deed") "after")
  m_Change_after : Meth K (He.ga K "Change") "after" (He.ma K (He.ga K "Deed") "after")
  m_End_after : Meth K (He.ga K "End") "after" (He.ma K (He.ga K "Deed") "after")
  m_Book_ucontainsu : Meth K (He.ga K "Book") "__contains__" (He.ma K (He.ga K "Book") "__contains__")
  m_Book_ugetitemu : Meth K (He.ga K "Book") "__getitem__" (He.ma K (He.ga K "Book") "__getitem__")
  m_Book_writes : Meth K (He.ga K "Book") "writes" (He.ma K (He.ga K "Book") "writes")
  k_History : Mk K (He.ga K "History") (He.ma K (He.ga K "History") "__init__")
  k_Note : Mk K (He.ga K "Note") (He.ma K (He.ga K "Note") "__init__")
  k_Book : Mk K (He.ga K "Book") (He.ma K (He.ga K "Book") "__init__")
  k_Make : Mk K (He.ga K "Make") (He.ma K (He.ga K "Make") "__init__")
  k_Change : Mk K (He.ga K "Change") (He.ma K (He.ga K "Change") "__init__")
  k_End : Mk K (He.ga K "End") (He.ma K (He.ga K "End") "__init__")
  r_History : CRead K (He.ga K "History") (.type "type")
  cm_History_of : CMet K (He.ga K "History") (.type "type") "of" (He.ma K (He.ga K "History") "of") (He5.wf K (He.ga K "History") "classmethod" "of")
  r_Change : CRead K (He.ga K "Change") (.type "type")
  cm_Change_of : CMet K (He.ga K "Change") (.type "type") "of" (He.ma K (He.ga K "Change") "of") (He5.wf K (He.ga K "Change") "classmethod" "of")
  r_End : CRead K (He.ga K "End") (.type "type")
  cm_End_of : CMet K (He.ga K "End") (.type "type") "of" (He.ma K (He.ga K "End") "of") (He5.wf K (He.ga K "End") "classmethod" "of")
  r_Book : CRead K (He.ga K "Book") (.type "type")
  cm_Book_of : CMet K (He.ga K "Book") (.type "type") "of" (He.ma K (He.ga K "Book") "of") (He5.wf K (He.ga K "Book") "classmethod" "of")
  p_History_row : PropOf K (He.ga K "History") "row" (He.ma K (He.ga K "History") "row") (He5.wf K (He.ga K "History") "property" "row")
  p_History_log : PropOf K (He.ga K "History") "log" (He.ma K (He.ga K "History") "log") (He5.wf K (He.ga K "History") "property" "log")
  p_History_entries : PropOf K (He.ga K "History") "entries" (He.ma K (He.ga K "History") "entries") (He5.wf K (He.ga K "History") "property" "entries")
end Pn

-- PnD
set_option
      maxHeartbeats 4000000
namespace Pn
open PySem PySem.Spec L2 PyProof.Rows StX ClX

/-! ### what stays: all but lists of two ints (the bag) and tables of code objects -/
def NB : HO → Prop
  | .lst [.int _, .int _] => False
  | .tbl _ => False
  | .ins _ _ [] => False
  | _ => True
def Core (H H' : Hp) : Prop := ∀ a o, H a = some o → NB o → H' a = some o
theorem Core.refl (H : Hp) : Core H H := fun _ _ h _ => h
theorem Core.trans {H H1 H2 : Hp} (a : Core H H1) (b : Core H1 H2) : Core H H2 := fun c o h n => b c o (a c o h n) n
theorem Core.of {H H' : Hp} (s : Same H H') : Core H H' := fun a o h _ => s a o h
theorem Core.ext {H H' : Hp} (s : LamX.ExtN H H') : Core H H' := fun a o h n => s a o h fun ps e => by subst e; exact n
theorem Same.new {H : Hp} {p : Addr} {o : HO} (h : H p = none) : Same H (upd H p o) := fun a u e => by rw [upd_ne (ne_of_none e h)]; exact e
/-- all but lists of two ints -/
structure Keep (H H' : Hp) : Prop where
  st : ∀ a o, H a = some o → (∀ i j, o ≠ .lst [.int i, .int j]) → H' a = some o
  dom : ∀ a, H' a = none → H a = none
instance {H H' : Hp} : CoeFun (Keep H H') fun _ => ∀ a o, H a = some o → (∀ i j, o ≠ .lst [.int i, .int j]) → H' a = some o := ⟨Keep.st⟩
theorem Keep.refl (H : Hp) : Keep H H := ⟨fun _ _ h _ => h, fun _ h => h⟩
theorem Keep.trans {H H1 H2 : Hp} (a : Keep H H1) (b : Keep H1 H2) : Keep H H2 := ⟨fun c o h n => b.st c o (a.st c o h n) n, fun c h => a.dom c (b.dom c h)⟩
theorem Keep.of {H H' : Hp} (s : Same H H') : Keep H H' := ⟨fun a o h _ => s a o h, fun a h => by
  cases e : H a with
  | none => rfl
  | some o => rw [s a o e] at h; cases h⟩
theorem Keep.core {H H' : Hp} (s : Keep H H') : Core H H' := fun a o h n => s.st a o h fun i j e => by subst e; exact n
theorem Keep.bag {H : Hp} {b : Addr} {i j : Int} {o : HO} (h : H b = some (.lst [.int i, .int j])) : Keep H (upd H b o) := by
  refine ⟨fun a u e n => ?_, fun a e => ?_⟩
  · by_cases q : a = b
    · subst q
      rw [h] at e
      cases e
      exact absurd rfl (n i j)
    · rw [upd_ne q]; exact e
  · by_cases q : a = b
    · subst q
      rw [upd_same] at e
      cases e
    · rw [upd_ne q] at e; exact e
theorem NB.strs (ss : List Str) : NB (.lst (ss.map V.str)) := by
  cases ss with
  | nil => exact True.intro
  | cons a l => cases l with
    | nil => exact True.intro
    | cons b l => exact True.intro
theorem NB.refs (bs : List Addr) : NB (.lst (bs.map V.ref)) := by
  cases bs with
  | nil => exact True.intro
  | cons a l => cases l with
    | nil => exact True.intro
    | cons b l => exact True.intro
/-- a list whose items are no ints -/
theorem NB.noint {vs : List V} (h : ∀ v ∈ vs, ∀ i, v ≠ .int i) : NB (.lst vs) := by
  cases vs with
  | nil => exact True.intro
  | cons a l =>
    cases a with
    | int i => exact absurd rfl (h _ (List.mem_cons_self ..) i)
    | _ => exact True.intro
theorem NB.tup (vs : List V) : NB (.tup vs) := True.intro
theorem NB.dK (kvs : List (Key × V)) : NB (.dK kvs) := True.intro

/-! ### names and values -/
def NameOk (s : Str) : Prop := 1 ≤ s.length ∧ s.length ≤ 8 ∧ ∀ c ∈ s.cps.toList, 97 ≤ c ∧ c ≤ 122
def ValOk (i : Int) : Prop := -(10 ^ 30) ≤ i ∧ i ≤ 10 ^ 30
theorem NameOk.line {s : Str} (h : NameOk s) : s.length ≤ sizeLine := Nat.le_trans h.2.1 (by decide)
theorem NameOk.ne {s : Str} (h : NameOk s) : s ≠ "" := fun e => by
  have := h.1
  subst e
  revert this
  decide

/-! ### lists and tuples of texts -/
def IsLS (H : Hp) (v : V) (ss : List Str) : Prop := ∃ a, v = .ref a ∧ H a = some (.lst (ss.map V.str))
def IsTS (K : PySem.W.Frag) (H : Hp) (v : V) (ss : List Str) : Prop := ∃ a, v = .ref a ∧ SqT K H a (ss.map V.str)
theorem IsLS.core {H H' : Hp} {v : V} {ss : List Str} (h : IsLS H v ss) (c : Core H H') : IsLS H' v ss := by
  obtain ⟨a, e, q⟩ := h
  exact ⟨a, e, c a _ q (NB.strs ss)⟩
theorem SqT.core {K : PySem.W.Frag} {H H' : Hp} {a : Addr} {xs : List V} (h : SqT K H a xs) (c : Core H H') : SqT K H' a xs := by
  rcases h with (h | ⟨o,
        h⟩) | h
  · exact .inl (.inl (c _ _ h True.intro))
  · exact .inl (.inr ⟨o, c _ _ h True.intro⟩)
  · exact .inr h
theorem IsTS.core {K : PySem.W.Frag} {H H' : Hp} {v : V} {ss : List Str} (h : IsTS K H v ss) (c : Core H H') : IsTS K H' v ss := by
  obtain ⟨a, e, q⟩ := h
  exact ⟨a, e, SqT.core q c⟩

theorem CallP.nil {P : Program} {w : World} {K : PySem.W.Frag} {mg : Str → Option Value} {base : Heap} {gb : Bool} {k : Nat} {f : Addr} {r r' : RC} (C : CallP P w K mg base gb k f [] r) (h : ∀ vs H Q, r' vs [] H Q → r vs [] H Q) : CallP P w K mg base gb k f [] r' :=
  fun A outer s H us ws vs zs Q hr hg e0 rv rz hz hq => by
    cases zs with
    | nil => exact C A outer s H us ws vs [] Q hr hg e0 rv rz hz (h _ _ _ hq)
    | cons a l => cases hz
/-! ### calls of the text's own defs -/
/-- the def that the module's name x stands for keeps r -/
structure Cal (P : Program) (w : World) (K : PySem.W.Frag) (mg : Str → Option Value) (base : Heap) (gb : Bool) (k : Nat) (x : Str) (r : RC) : Prop where
  ex : ∃ f, CallP P w K mg base gb k f [] r ∧ mg x = some (.ref f) ∧ PySem.W.keepIn K (.ref f) = true
def tCl (r : RC) (t : TA) : TE := fun σ H Q => t σ H fun vs H1 => r vs [] H1 Q
section
variable {X : Cx} {gb : Bool} {k j : Nat} {x : Str} {r : RC} {p pos : Pos} {e : Expr} {es : List Expr} {t : TA}
theorem pe_cl (c : Cal X.prog X.w X.K X.mg X.base gb k x r) (hr : Room j X.A) (hk : k ≤ j) (hg : Gd gb X.A) (hgl : Gl X x) (ha : PA X (e :: es) t)
    (hdb :
          (x == ("__debug__" : Str)) = false := by decide) (he : starEach (e :: es) X.env = (false, eval e X.env) :: starEach es X.env := by rfl) (hpl : (backTo pos (starEach es X.env)).any (·.1) = false := by rfl) :
    PE X (.Call (.Name x p) (e :: es) [] pos) (tCl r t) := by
  obtain ⟨f, cp, hm, kp⟩ := c.ex
  refine ⟨fun pins s σ H Q I h =>
        ?_⟩
  refine wpAny_Call_Name_kw (ld_glob I hgl hm ?_ hdb)
  refine PySem.W.callWith_K (h₀ := X.base) I.ok.mod.kin kp (thn (ha.run pos pins s σ H _ I h) fun us s1 ⟨vs, H1, I1, rv, q⟩ => ⟨I1.kIn, ?_⟩) he hpl
  exact run_callP (ws := []) (zs := []) cp (hr.mono hk) hg I1.env0 I1 rv .nil rfl q
/-- a module's whole number, text, object -/
theorem pe_gi {i : Int} (h : ∃ t, X.mg x = some (.int i t)) (hgl : Gl X x) (hdb : (x == ("__debug__" : Str)) = false := by decide) : PE X (.Name x pos) (tC (.int i)) := by
  obtain ⟨t, hm⟩ := h
  exact pe_glob hgl hm ⟨t, rfl⟩ hdb
theorem pe_gs {z : Str} (h : ∃ t, X.mg x = some (.str z t)) (hgl : Gl X x) (hdb : (x == ("__debug__" : Str)) = false := by decide) : PE X (.Name x pos) (tC (.str z)) := by
  obtain ⟨t, hm⟩ := h
  exact pe_glob hgl hm ⟨t, rfl⟩ hdb
theorem pe_ty {n : String} (hm : X.mg x = none) (hv : bootBuiltins x = some (.type n)) (hgl : Gl X x) (hn : x ≠ "__name__" := by decide) (hdb : (x == ("__debug__" : Str)) = false := by decide) : PE X (.Name x pos) (tC (.ty n)) := pe_bltn hgl hm hv rfl hn hdb
theorem pe_go {a : Addr} (hm : X.mg x = some (.ref a)) (hgl : Gl X x) (hdb : (x == ("__debug__" : Str)) = false := by decide) : PE X (.Name x pos) (tC (.ref a)) := pe_glob hgl hm rfl hdb
end
/-! ### a plain def by its body -/
section
variable {P : Program} {w : World} {K : PySem.W.Frag} {mg : Str → Option Value} {base : Heap} {gb : Bool} {k n : Nat} {f : Addr} {x qual : Str} {st : Stmt} {N ps ks : List Str} {r : RC}
theorem call_at (F : FnAt K x qual st f) (S : FnScope N ps (defScope st)) (hl : ps.length = n + ks.length) (len : ∀ vs zs H Q, r vs zs H Q → vs.length = n)
    (b : ∀ (kV doc pm : Value) (an : Option Addr) (cdv ct : Value) (us ws : List Value), us.length = n → ws.length = ks.length →
      bindArgs (PySem.W.fnOf x qual (defArgs st) (defBody st) (defScope st) .none kV doc pm an cdv ct) ⟨us, ks.zip ws⟩ = pure (ps.zip (us ++ ws)))
    (hbody : ∀ (cdv : Value) (A : Around) (outer : List Env) (s : Shared) (H : Hp) (vs zs : List V) (Q : VK), Room k (A.deeper (envOfC qual (defScope st) s.heap.objs.size f cdv)) → Gd gb A → zs.length = ks.length → r vs zs H Q →
      ∃ t, PSs (cxOf CX0 P w K mg base N qual (defScope st) f cdv A outer s H E0).nox (defBody st) t ∧ t { nx := fun _ H' => Q .non H', rt := Q } (start N (vs ++ zs)) H) :
    CallP P w K mg base gb (k + 1) f ks r := by
  obtain ⟨fd, F⟩ := F
  obtain ⟨oc, od, dV, kV, doc, pm, an, cdv, ct, osl, efd, lk, hcd, hD, hK⟩ := id F.ex
  have eD : dV = .none := by
    rcases hD with ⟨_, e⟩ | ⟨e, _⟩
    · exact e
    · exact absurd rfl e
  subst eD
  subst efd
  exact call_def F S ⟨b kV doc pm an cdv ct, hl⟩ len hbody
/-- without keywords, by its name in the module -/
theorem cal_at (F : FnAt K x x st f) (hm : mg x = some (.ref f)) (S : FnScope N ps (defScope st)) (len : ∀ vs H Q, r vs [] H Q → vs.length = ps.length)
    (b : ∀ (kV doc pm : Value) (an : Option Addr) (cdv ct : Value) (us : List Value), us.length = ps.length →
      bindArgs (PySem.W.fnOf x x (defArgs st) (defBody st) (defScope st) .none kV doc pm an cdv ct) ⟨us, []⟩ = pure (ps.zip us))
    (hbody : ∀ (cdv : Value) (A : Around) (outer : List Env) (s : Shared) (H : Hp) (vs : List V) (Q : VK), Room k (A.deeper (envOfC x (defScope st) s.heap.objs.size f cdv)) → Gd gb A → r vs [] H Q →
      ∃ t, PSs (cxOf CX0 P w K mg base N x (defScope st) f cdv A outer s H E0).nox (defBody st) t ∧ t { nx := fun _ H' => Q .non H', rt := Q } (start N vs) H) :
    Cal P w K mg base gb (k + 1) x r := by
  obtain ⟨fd, F0⟩ := id F
  refine ⟨f, CallP.nil (call_at (ks := []) (n := ps.length) (r := fun vs zs H Q => zs = [] ∧ r vs [] H Q) F S (by simp) (fun vs zs H Q h => len vs H Q h.2) (fun kV doc pm an cdv ct us ws h1 h2 => ?_) (fun cdv A outer s H vs zs Q hr hg hz h => ?_)) (fun vs H Q h => ⟨rfl, h⟩), hm, F0.kp⟩
  · cases ws with
    | nil => rw [List.append_nil]; exact b kV doc pm an cdv ct us h1
    | cons a l => cases h2
  · obtain ⟨ez, h⟩ := h
    subst ez
    rw [List.append_nil]
    exact hbody cdv A outer s H vs Q hr hg h
end
end Pn

-- PnG
set_option
      maxHeartbeats 4000000
namespace Pn
open PySem PySem.Spec L2 PyProof.Rows StX ClX
set_option maxHeartbeats
      8000000 in
theorem meets_enumT {v : Value} {o : Obj} {H : Heap → Prop} (B : Begins v o H) :
    Meets (Builtin.«enumerate.__new__» ⟨[.type "enumerate", v], []⟩) (fun _ R s => H s.heap ∧
      R (.ok (.ret (.ref (s.heap.push o).objs.size))) { s with heap := (s.heap.push o).push { cls := .type "enumerate", data := .fields #[.none, .bool false, .ref s.heap.objs.size, rawInt 0, .none, .none] } }) :=
  .of_wp fun prog
        w A R s h => by
    obtain ⟨hp, g, d, tk, os⟩ :=
          s; obtain ⟨h1, h⟩ := h
    have hsub := sub_enumerate
    have q1 : ∀ {A' : Around} {E : Value → Shared → Prop} {Q : Value → Shared → Prop},
          Q (.ref hp.objs.size) ⟨hp.push o, g, d, tk, os⟩ → wpAny (model prog w) A' (pyIter v) Q E ⟨hp, g, d, tk, os⟩ :=
      fun q =>
            B.iter prog w _ _ ⟨hp, g, d, tk, os⟩ _ h1 q
    wp_walk using q1
    refine wpAny_stack_any fun st =>
          wpAny_pure ?_
    split
    · rename_i c _ _ _ _ _
      cases
            (c == Value.type "enumerate")
      · wp_walk using q1
        exact ⟨_, rfl, h⟩
      · wp_walk using q1
        exact ⟨_, rfl, h⟩
    · wp_walk using q1
      exact ⟨_, rfl, h⟩
section
variable {prog : Program}
      {w : World} {A : Around} {E : Value → Shared → Prop} {s : Shared}
theorem call_enumT {v : Value} {o : Obj} {H : Heap → Prop} {Q : Value → Shared → Prop} (B : Begins v o H) (h1 : H s.heap)
    (h : ∀ h', IsEnum h' (s.heap.objs.size + 1) s.heap.objs.size 0 .none → h'.get? s.heap.objs.size = some o → h'.objs.size = s.heap.objs.size + 2 →
      (∀ b o,
            s.heap.get? b = some o → h'.get? b = some o) → Q (.ref (s.heap.objs.size + 1)) { s with heap := h' }) :
    wpAny (model prog w) A (call (.type "enumerate") [v]) Q E s := by
  refine callType_new F.called_enumerate
        (by decide) (F.typeCall_enumerate_1 _) (F.newCall_enumerate_1 _) (fun obj => F.args_object_init_2 obj _) F.entry_enumerate_new
    (meets_enumT B) ⟨h1, ?_⟩
  have hz : (s.heap.push o).objs.size = s.heap.objs.size + 1 :=
        Heap.size_push ..
  show _ ∧ _
  rw [hz]
  have he : IsEnum ((s.heap.push o).push { cls := .type "enumerate", data := .fields #[.none, .bool false, .ref s.heap.objs.size, rawInt 0, .none, .none] }) (s.heap.objs.size + 1) s.heap.objs.size 0 .none := by
    have := Heap.get?_push_size (s.heap.push o) (o := { cls := .type "enumerate", data := .fields #[.none, .bool false, .ref s.heap.objs.size, rawInt 0, .none, .none] }) rfl
    rw [hz] at this; exact this
  refine ⟨⟨_, he, rfl⟩,
        h _ he (Heap.get?_push_of_some _ (Heap.get?_push_size _ B.free)) (by rw [Heap.size_push, hz]) fun b o x => Heap.get?_push_of_some _ (Heap.get?_push_of_some _ x)⟩
end
def IteT (K : PySem.W.Frag) (a : Addr) : It :=
  ⟨fun i H => ∃ (xs : List V) (x : V), SqT K H a xs ∧ xs[i]? = some x, fun i H v H' => ∃ T x, v = .ref T ∧ H T = none ∧ H' = upd H T (.tup [.int (i : Nat), x]) ∧ ∀ xs, SqT K H a xs → xs[i]? = some x, fun i H => ∃ xs : List V, SqT K H a xs ∧ xs.length ≤ i⟩
theorem istup_tuple {h : Heap} {a : Addr} {items : Array Value} (t : IsTup h a items) : h.IsTuple a items := by
  obtain ⟨o, h1, h2, n, h3⟩ := t
  exact ⟨o, h1, h2, n, h3⟩
theorem turn_enumT {P : Program} {w : World} {K : PySem.W.Frag} {elts : List Expr} {kk : Nat} {tpos : Pos} (a e it : Addr) (hai : a ≠ it) :
    Turn P w K (.Tuple elts kk tpos) (IteT K a) [e, it] e (fun i h => (∃ old, IsEnum h e it ((i : Nat) : Int) old) ∧ h.IsTupleIter it a i ∧ e ≠ it ∧ a ≠ e) where
  mem := by simp
  obj := fun i h st b hb => by
    obtain ⟨⟨old, he⟩, ⟨o, ho, hc, hd⟩, _⟩ :=
          st
    have e' :
          b = e ∨ b = it := by simpa using hb
    rcases e' with z | z
    · rw
          [z]; exact ⟨_, he, fun v q => nomatch q⟩
    · rw
          [z]; exact ⟨o, ho, fun v q => by rw [hd] at q; cases q⟩
  keep := fun i h h' st k => let ⟨⟨old, he⟩, hi, hne, hae⟩ := st; ⟨⟨old, k e (by simp) _ he⟩, hi.at fun o q => k it (by simp) o q, hne, hae⟩
  item := by
    intro X hP hw hK hc i
          pins s σ H E I hf st hg
    subst hP hw hK
    obtain ⟨⟨old, he⟩, hit, hne, hae⟩ := st
    obtain ⟨xs, x, hq, hx⟩ := hg
    obtain ⟨its, rv, p, hz⟩ :=
          I.tuple hq
    obtain ⟨u, hu, ru⟩ :=
          rv.get hx
    have hel : e < s.heap.objs.size :=
          Heap.lt_size he
    have hil :
          it < s.heap.objs.size := by obtain ⟨_, q, _⟩ := hit; exact Heap.lt_size q
    have D := Draws.tuple (prog := X.prog) (w := X.w) (A := X.A.in1) (I.ok.hd hc) it a hai its.toArray
    have hlt : i < its.toArray.size := by
      have q := (List.getElem?_eq_some_iff.mp hu).1
      simpa using q
    refine wpAny_pyNext_enum_itemD D he ⟨hit, istup_tuple p⟩ hlt hne (by simp [hne, Ne.symm hae]) fun x' h' tk hP ho hit' hT hsz hk => ?_
    have hxu : x' = u := by
      have q : its.toArray[i]? = some u := by simpa using hu
      rw [q] at hP
      exact (Option.some.inj hP).symm
    subst hxu
    refine ⟨_, rfl, wpAny_letOwnedTupleGo_enum (s := { s with heap := h', toks := tk + 1 }) ho fun h'' he' sb => ?_⟩
    have hT2 : h''.get? s.heap.objs.size = some { cls := .type "tuple", data := .seq #[.int i tk, x'] } := (sb.2 _ (Nat.ne_of_gt hel)).trans hT
    have new :
          ObjOk X.prog X.w (upd H s.heap.objs.size (.tup [.int (i : Nat), x])) h'' s.heap.objs.size (.tup [.int (i : Nat), x]) :=
      ⟨by show 2 ≤ sizeLine; decide, [.int i tk, x'], .cons ⟨_, rfl⟩ (.cons ru .nil), ⟨_, hT2, rfl, _, rfl⟩⟩
    have I1 : Inv X pins σ (upd H s.heap.objs.size (.tup [.int (i : Nat), x])) { s with heap := h'', toks := tk + 1 } :=
      I.turnedNew (ch :=
            [e, it]) (fun b ob hb q => (sb.2 b (fun z => hb (by simp [z]))).trans (hk b ob (fun z => hb (by simp [z])) (fun z => hb (by simp [z])) q)) hf (Nat.le_refl _) new
    refine ⟨.ref s.heap.objs.size, _, I1, rfl, ⟨_, x, rfl, I.hok.fresh (Nat.le_refl _), rfl, fun ys hy => by rw [I.tuple_inj hy hq]; exact hx⟩, ⟨⟨x', ?_⟩, hit'.1.at fun o q => (sb.2 it (Ne.symm hne)).trans q, hne, hae⟩, fun b hb => ?_⟩
    · have e1 :
          ((i + 1 : Nat) : Int) = (i : Int) + 1 := by omega
      rw [e1]; exact he'
    · have hb' :
          b < s.heap.objs.size := by
        have e' :
              b = e ∨ b = it := by simpa using hb
        rcases e' with z | z
        · rw [z]; exact hel
        · rw [z]; exact hil
      rw
            [upd_ne (Nat.ne_of_lt hb')]
      exact (hf b hb).1
  done := by
    intro X hP hw hK hc i
          pins s σ H E I hf st hg
    subst hP hw hK
    obtain ⟨⟨old, he⟩, hit, hne, hae⟩ := st
    obtain ⟨xs, hq, hx⟩ := hg
    obtain ⟨its, rv, p, hz⟩ :=
          I.tuple hq
    obtain ⟨f0, f1, f2, f3, f4, f5⟩ :=
          hf it (by simp)
    have hl := rv.length
    unfold pyNext
    refine wpAny_bind (wpAny_attempt (wpAny_callSpecial?_slot (name := Str.ofString "__next__") (s := s) (⟨_, he, rfl⟩ : s.TypeIs (.ref e) "enumerate") F.slot_enumerate_next
      (wpAny_call_entry F.slot_enumerate_next (⟨_, he, rfl⟩ : s.TypeIs (.ref e) "enumerate") F.entry_enumerate_next ?_ (F.args_enumerate_next_1 _))))
    show wpAny _ _
          (field (.ref e) 2 >>= _) _ _ _
    refine wpAny_bind
          (wpAny_field he rfl (x := .ref it) rfl ?_)
    refine wpAny_bind (wpAny_nextOf_tuple_end (I.ok.hd hc) hit (istup_tuple p) (by simp; omega) fun h' x he' hx' => ?_)
    obtain ⟨o, ho, hcl⟩ := hx'
    refine wpAny_bind (wpAny_isInstance (T := "StopIteration") (b := true) ⟨o, ho, hcl⟩ isSubtype_stop ?_)
    exact wpAny_pure ⟨rfl, I.turned (t' := s.toks) (fun b o hb q => he' b o hb q) f0 f1 f3 f4 f5⟩
  self := fun A i s Q E st h => let ⟨⟨_, he⟩, _⟩ :=
        st; wpAny_pyIter_enum he h
def iEnumT (K : PySem.W.Frag) (ta : TA) : TI := fun σ H R => ta σ H fun vs H1 => ∃ a xs, vs = [.ref a] ∧ SqT K H1 a xs ∧ R (IteT K a) H1
theorem pi_enumT {X : Cx} {e : Expr} {ta : TA} {p pos tpos : Pos} {elts : List Expr} {kk : Nat} (hg : Gl X "enumerate") (hm : X.mg "enumerate" = none) (ha : PA X [e] ta) (hs : starEach [e] X.env = [(false, eval e X.env)] := by rfl) :
    PI X (.Tuple elts kk tpos) (.Call (.Name "enumerate" p) [e] [] pos) (iEnumT X.K ta) := by
  refine ⟨fun pins s σ H R I h =>
        ?_⟩
  refine Call_ (ld_blt I hg hm boot_enumerate (PyProof.Rows.callWith_type1 (thn (ha.run pos pins s σ H _ I h) fun us s1 ⟨vs, H1, I1, r1, q1⟩ =>
        ?_) hs rfl))
  obtain ⟨a, xs, ex, hq, q⟩ :=
        q1
  subst ex
  cases r1 with
  | cons r rr =>
    cases rr
    cases r
    obtain ⟨its, rv, p', hz⟩ := I1.tuple hq
    refine call_enumT (begins_tuple a its.toArray) (istup_tuple p') fun h' he hit hsz hk => wpAny_pyIter_enum he ?_
    have I2 : Inv X pins σ H1 { s1 with heap := h' } :=
          I1.kept (t' := s1.toks) hk
    have hal : a < s1.heap.objs.size := by obtain ⟨o, ho, _⟩ := p'; exact Heap.lt_size ho
    refine ⟨s1.heap.objs.size + 1, [s1.heap.objs.size + 1, s1.heap.objs.size], _, _, H1, rfl, I2, turn_enumT a (s1.heap.objs.size + 1) s1.heap.objs.size (Nat.ne_of_lt hal), ⟨⟨.none, he⟩, ⟨_, hit, rfl, rfl⟩, Nat.succ_ne_self _, Nat.ne_of_lt (Nat.lt_succ_of_lt hal)⟩, fun b hb => ?_, q⟩
    have e' :
          b = s1.heap.objs.size + 1 ∨ b = s1.heap.objs.size := by simpa using hb
    have hle :
          s1.heap.objs.size ≤ b := by
      rcases e' with z | z
      · rw
            [z]; exact Nat.le_add_right _ _
      · rw [z]; exact Nat.le_refl _
    exact I1.fpOk hle
          (I1.hok.fresh hle)
/-- loops over enumerate: the pair's tuple is new at each turn -/
theorem for_enumT {K : PySem.W.Frag} {a : Addr} {xs : List V} {g : TG} {tb : TS} {D : Ends} {σ : L2.St} {H : Hp} (Pv : Nat → L2.St → Hp → Prop) (h0 : Pv 0 σ H) (hl : ∀ i σ H, i ≤ xs.length → Pv i σ H → SqT K H a xs)
    (hs : ∀ i x σ H T, xs[i]? = some x → Pv i σ H → H T = none → g (.ref T) σ (upd H T (.tup [.int (i : Nat), x])) fun σ2 H2 => tb { D with nx := Pv (i + 1), ct := Pv (i + 1), bk := D.nx } σ2 H2) (hd : ∀ σ H, Pv xs.length σ H → D.nx σ H) :
    ∃ W : Nat → Nat → L2.St → Hp → Prop,
          (∃ m, W 0 m σ H) ∧ ∀ i m σ H, W i m σ H →
      ((IteT K a).stop i H ∧ D.nx σ H) ∨ ((IteT K a).go i H ∧ ∃ N : L2.St → Hp → Prop, (∀ σ' H', N σ' H' → ∃ m', m' < m ∧ W (i + 1) m' σ' H') ∧ ∀ x H', (IteT K a).yld i H x H' → g x σ H' fun σ2 H2 => tb { D with nx := N, ct := N, bk := D.nx } σ2 H2) := by
  refine ⟨fun i m σ H => i ≤ xs.length ∧ m = xs.length - i ∧ Pv i σ H, ⟨xs.length, Nat.zero_le _, rfl, h0⟩, fun i m σ H ⟨hi, hm, pv⟩ => ?_⟩
  rcases Nat.lt_or_ge i xs.length with h | h
  · refine .inr ⟨⟨xs, xs[i], hl i σ H hi pv, List.getElem?_eq_getElem h⟩, Pv (i + 1), fun σ' H' p => ⟨xs.length - (i + 1), by omega, h, rfl, p⟩, fun x H' hy => ?_⟩
    obtain ⟨T, y, rfl, hT, rfl, hq⟩ := hy
    exact hs i y σ H T (hq xs (hl i σ H hi pv)) pv hT
  · have e : i = xs.length := Nat.le_antisymm hi h
    subst e
    exact .inl ⟨⟨xs, hl _ σ H hi pv, Nat.le_refl _⟩, hd σ H pv⟩
theorem for_enumL {K : PySem.W.Frag} {a : Addr} {xs : List V} {g : TG} {tb : TS} {D : Ends} {σ : L2.St} {H : Hp} (Pv : Nat → L2.St → Hp → Prop) (h0 : Pv 0 σ H) (hl : ∀ i σ H, i ≤ xs.length → Pv i σ H → SqL K H a xs)
    (hs : ∀ i x σ H T, xs[i]? = some x → Pv i σ H → H T = none → g (.ref T) σ (upd H T (.tup [.int (i : Nat), x])) fun σ2 H2 => tb { D with nx := Pv (i + 1), ct := Pv (i + 1), bk := D.nx } σ2 H2) (hd : ∀ σ H, Pv xs.length σ H → D.nx σ H) :
    ∃ W : Nat → Nat → L2.St → Hp → Prop,
          (∃ m, W 0 m σ H) ∧ ∀ i m σ H, W i m σ H →
      ((Ite K a).stop i H ∧ D.nx σ H) ∨ ((Ite K a).go i H ∧ ∃ N : L2.St → Hp → Prop, (∀ σ' H', N σ' H' → ∃ m', m' < m ∧ W (i + 1) m' σ' H') ∧ ∀ x H', (Ite K a).yld i H x H' → g x σ H' fun σ2 H2 => tb { D with nx := N, ct := N, bk := D.nx } σ2 H2) := by
  refine ⟨fun i m σ H => i ≤ xs.length ∧ m = xs.length - i ∧ Pv i σ H, ⟨xs.length, Nat.zero_le _, rfl, h0⟩, fun i m σ H ⟨hi, hm, pv⟩ => ?_⟩
  rcases Nat.lt_or_ge i xs.length with h | h
  · refine .inr ⟨⟨xs, xs[i], hl i σ H hi pv, List.getElem?_eq_getElem h⟩, Pv (i + 1), fun σ' H' p => ⟨xs.length - (i + 1), by omega, h, rfl, p⟩, fun x H' hy => ?_⟩
    obtain ⟨T, y, rfl, hT, rfl, hq⟩ := hy
    exact hs i y σ H T (hq xs (hl i σ H hi pv)) pv hT
  · have e : i = xs.length := Nat.le_antisymm hi h
    subst e
    exact .inl ⟨⟨xs, hl _ σ H hi pv, Nat.le_refl _⟩, hd σ H pv⟩
end Pn

-- PnM
set_option
      maxHeartbeats 4000000
namespace Pn
open PySem PySem.Spec L2 PyProof.Rows StX ClX
/-- a fact of a value in a heap that stays, of a value that is no int -/
structure Stays {α : Type} (R : Hp → V → α → Prop) : Prop where
  mono : ∀ {H H' : Hp} {v : V} {x : α}, R H v x → Core H H' → R H' v x
  noint : ∀ {H : Hp} {v : V} {x : α}, R H v x → ∀ i, v ≠ .int i
theorem paired_mono {α : Type} {R : Hp → V → α → Prop} (st : Stays R) {H H' : Hp} (c : Core H H') : ∀ {xs : List V} {l : List α}, Paired (R H) xs l → Paired (R H') xs l
  | _, _, .nil => .nil
  | _, _, .cons h t => .cons (st.mono h c) (paired_mono st c t)
theorem paired_noint {α : Type} {R : Hp → V → α → Prop} (st : Stays R) {H : Hp} : ∀ {xs : List V} {l : List α}, Paired (R H) xs l → ∀ v ∈ xs, ∀ i, v ≠ .int i
  | _, _, .nil, v,
        hv => by simp at hv
  | _, _, .cons h t, v, hv => by
    rcases List.mem_cons.mp
          hv with e | hv
    · rw [e]; exact st.noint h
    · exact paired_noint st t v hv
theorem paired_len {α β : Type} {F : α → β → Prop} : ∀ {xs : List α} {ys : List β}, Paired F xs ys → xs.length = ys.length
  | _, _, .nil => rfl
  | _, _, .cons _ t => congrArg (· + 1) (paired_len t)
theorem paired_at {α β : Type} {F : α → β → Prop} : ∀ {xs : List α} {ys : List β}, Paired F xs ys → ∀ {i : Nat} {x : α}, xs[i]? = some x → ∃ y, ys[i]? = some y ∧ F x y
  | _, _, .nil, i, x, e => by simp at e
  | _, _, .cons h t, 0, x, e => by simp at e; subst e; exact ⟨_, rfl, h⟩
  | _, _, .cons _ t, i + 1, x, e => by
    simp at e
    obtain ⟨y, h1, h2⟩ := paired_at t e
    exact ⟨y, by simpa using h1, h2⟩
theorem paired_at' {α β : Type} {F : α → β → Prop} : ∀ {xs : List α} {ys : List β}, Paired F xs ys → ∀ {i : Nat} {y : β}, ys[i]? = some y → ∃ x, xs[i]? = some x ∧ F x y
  | _, _, .nil, i, x, e => by simp at e
  | _, _, .cons h t, 0, x, e => by simp at e; subst e; exact ⟨_, rfl, h⟩
  | _, _, .cons _ t, i + 1, x, e => by
    simp at e
    obtain ⟨y, h1, h2⟩ := paired_at' t e
    exact ⟨y, by simpa using h1, h2⟩
theorem paired_app {α β : Type} {F : α → β → Prop} : ∀ {xs xs' : List α} {ys ys' : List β}, Paired F xs ys → Paired F xs' ys' → Paired F (xs ++ xs') (ys ++ ys')
  | _, _, _, _, .nil, q => q
  | _, _, _, _, .cons h t, q => .cons h (paired_app t q)
theorem paired_snoc {α β : Type} {F : α → β → Prop} {xs : List α} {ys : List β} {x : α} {y : β} (p : Paired F xs ys) (h : F x y) : Paired F (xs ++ [x]) (ys ++ [y]) := paired_app p (.cons h .nil)
theorem paired_take {α β : Type} {F : α → β → Prop} : ∀ (n : Nat) {xs : List α} {ys : List β}, Paired F xs ys → Paired F (xs.take n) (ys.take n)
  | 0, _, _, _ => by simp; exact .nil
  | n + 1, _, _, .nil => .nil
  | n + 1, _, _, .cons h t => .cons h (paired_take n t)
theorem paired_drop {α β : Type} {F : α → β → Prop} : ∀ (n : Nat) {xs : List α} {ys : List β}, Paired F xs ys → Paired F (xs.drop n) (ys.drop n)
  | 0, _, _, p => p
  | n + 1, _, _, .nil => .nil
  | n + 1, _, _, .cons h t => paired_drop n t
theorem paired_map {α β γ : Type} {F : α → β → Prop} {f : γ → α} {g : γ → β} (h : ∀ z, F (f z) (g z)) : ∀ l : List γ, Paired F (l.map f) (l.map g)
  | [] => .nil
  | z :: l => .cons (h z) (paired_map h l)
/-- a list, a tuple of such values -/
def LOf {α : Type} (R : Hp → V → α → Prop) (H : Hp) (v : V) (l : List α) : Prop := ∃ a xs, v = .ref a ∧ H a = some (.lst xs) ∧ Paired (R H) xs l
def TOf {α : Type} (K : PySem.W.Frag) (R : Hp → V → α → Prop) (H : Hp) (v : V) (l : List α) : Prop := ∃ a xs, v = .ref a ∧ SqT K H a xs ∧ Paired (R H) xs l
theorem LOf.stays {α : Type} {R : Hp → V → α → Prop} (st : Stays R) : Stays (LOf R) := ⟨fun ⟨a, xs, e, h, p⟩ c => ⟨a, xs, e, c a _ h (NB.noint (paired_noint st p)), paired_mono st c p⟩, fun ⟨a, xs, e, _⟩ i q => by rw [e] at q; cases q⟩
theorem TOf.stays {α : Type} {K : PySem.W.Frag} {R : Hp → V → α → Prop} (st : Stays R) : Stays (TOf K R) := ⟨fun ⟨a, xs, e, h, p⟩ c => ⟨a, xs, e, SqT.core h c, paired_mono st c p⟩, fun ⟨a, xs, e, _⟩ i q => by rw [e] at q; cases q⟩
theorem IsLS.stays : Stays IsLS := ⟨fun h c => h.core c, fun ⟨a, e, _⟩ i q => by rw [e] at q; cases q⟩
theorem IsTS.stays {K : PySem.W.Frag} : Stays (IsTS K) := ⟨fun h c => h.core c, fun ⟨a, e, _⟩ i q => by rw [e] at q; cases q⟩

/-! ### the data -/
structure NoteD where
  old : List Str
  new : List Str
  named : Bool
  changed : Bool
structure DeedD where
  kind : Str
  name : Str
  moves : List (Str × Str)
  own : List Str
  note : Option NoteD
structure DataD where
  cols : List Str
  deeds : List DeedD
  keep : Option Int
abbrev Cols := List (Str × Int)
abbrev Row := Option (Str × Cols)
abbrev Step := Option (Str × Cols)
structure EntryD where
  at_ : Int
  name : Str
  old : List (Str × V)
  new : List (Str × V)
def keepV : Option Int → V
  | none => .non
  | some i => .int i
def colKV (l : Cols) : List (Key × V) := l.map fun p => ((Sum.inr p.1 : Key), V.int p.2)
def rowKV (r : Str × Cols) : List (Key × V) := ((Sum.inr ("state" : Str) : Key), V.str r.1) :: colKV r.2
def IsRow (H : Hp) (v : V) : Row → Prop
  | none => v = .non
  | some r => ∃ a, v = .ref a ∧ H a = some (.dK (rowKV r))
def IsW (H : Hp) (v : V) (w : Cols) : Prop := ∃ a, v = .ref a ∧ H a = some (.dK (colKV w))
def IsStep (H : Hp) (v : V) : Step → Prop
  | none => v = .non
  | some (n, w) => ∃ a x, v = .ref a ∧ H a = some (.tup [.str n, x]) ∧ IsW H x w
def IsMove (H : Hp) (v : V) (m : Str × Str) : Prop := ∃ a, v = .ref a ∧ H a = some (.tup [.str m.1, .str m.2])
def IsPair (H : Hp) (v : V) (m : Str × V) : Prop := ∃ a, v = .ref a ∧ H a = some (.tup [.str m.1, m.2])
def IsEntry (K : PySem.W.Frag) (H : Hp) (v : V) (e : EntryD) : Prop := ∃ a x y, v = .ref a ∧ H a = some (.tup [.int e.at_, .str e.name, x, y]) ∧ TOf K IsPair H x e.old ∧ TOf K IsPair H y e.new
def IsNoteRow (H : Hp) (v : V) : Option NoteD → Prop
  | none => v = .non
  | some n => ∃ a x y, v = .ref a ∧ H a = some (.tup [x, y, .bl n.named, .bl n.changed]) ∧ IsLS H x n.old ∧ IsLS H y n.new
def IsDeedRow (H : Hp) (v : V) (d : DeedD) : Prop := ∃ a x y z, v = .ref a ∧ H a = some (.tup [.str d.kind, .str d.name, x, y, z]) ∧ LOf IsMove H x d.moves ∧ IsLS H y d.own ∧ IsNoteRow H z d.note
def IsData (H : Hp) (v : V) (D : DataD) : Prop := ∃ a x y, v = .ref a ∧ H a = some (.tup [x, y, keepV D.keep]) ∧ IsLS H x D.cols ∧ LOf IsDeedRow H y D.deeds
def IsNote (K : PySem.W.Frag) (H : Hp) (v : V) : Option NoteD → Prop
  | none => v = .non
  | some n => ∃ a dx x y, v = .ref a ∧ H a = some (.ins (He.ga K "Note") dx [("old", x), ("new", y), ("named", .bl n.named), ("changed", .bl n.changed)]) ∧ IsTS K H x n.old ∧ IsTS K H y n.new
def clsOf (K : PySem.W.Frag) (kind : Str) : Addr := if kind = "make" then He.ga K "Make" else if kind = "end" then He.ga K "End" else He.ga K "Change"
def IsDeed (K : PySem.W.Frag) (H : Hp) (v : V) (d : DeedD) : Prop := ∃ a dx m c z, v = .ref a ∧ H a = some (.ins (clsOf K d.kind) dx [("name", .str d.name), ("moves", m), ("columns", c), ("note", z)]) ∧ TOf K IsMove H m d.moves ∧ IsTS K H c d.own ∧ IsNote K H z d.note
/-- a book: columns and deeds sorted -/
def IsBook (K : PySem.W.Frag) (H : Hp) (v : V) (b : DataD) : Prop := ∃ a dx c s d n, v = .ref a ∧ H a = some (.ins (He.ga K "Book") dx [("columns", c), ("states", s), ("deeds", d), ("names", n), ("keep", keepV b.keep)]) ∧ IsTS K H c b.cols ∧ LOf (IsDeed K) H d b.deeds ∧ IsTS K H n (b.deeds.map (·.name))
structure HistD where
  book : DataD
  done : List Step
  stand : List Row
  noted : List EntryD
def IsHist (K : PySem.W.Frag) (H : Hp) (v : V) (h : HistD) : Prop := ∃ a dx b d s n, v = .ref a ∧ H a = some (.ins (He.ga K "History") dx [("book", b), ("done", d), ("stand", s), ("noted", n)]) ∧ IsBook K H b h.book ∧ LOf IsStep H d h.done ∧ LOf IsRow H s h.stand ∧ LOf (IsEntry K) H n h.noted

theorem IsRow.stays : Stays IsRow := ⟨fun {H H' v x} h c => by
    cases x with
    | none => exact h
    | some r => obtain ⟨a, e, q⟩ := h; exact ⟨a, e, c a _ q True.intro⟩, fun {H v x} h i q => by
    cases x with
    | none => rw [show v = .non from h] at q; cases q
    | some r => obtain ⟨a, e, _⟩ := h; rw [e] at q; cases q⟩
theorem IsW.stays : Stays IsW := ⟨fun ⟨a, e, q⟩ c => ⟨a, e, c a _ q True.intro⟩, fun ⟨a, e, _⟩ i q => by rw [e] at q; cases q⟩
theorem IsStep.stays : Stays IsStep := ⟨fun {H H' v x} h c => by
    cases x with
    | none => exact h
    | some r => obtain ⟨a, x, e, q, w⟩ := h; exact ⟨a, x, e, c a _ q True.intro, IsW.stays.mono w c⟩, fun {H v x} h i q => by
    cases x with
    | none => rw [show v = .non from h] at q; cases q
    | some r => obtain ⟨a, x, e, _⟩ := h; rw [e] at q; cases q⟩
theorem IsMove.stays : Stays IsMove := ⟨fun ⟨a, e, q⟩ c => ⟨a, e, c a _ q True.intro⟩, fun ⟨a, e, _⟩ i q => by rw [e] at q; cases q⟩
theorem IsPair.stays : Stays IsPair := ⟨fun ⟨a, e, q⟩ c => ⟨a, e, c a _ q True.intro⟩, fun ⟨a, e, _⟩ i q => by rw [e] at q; cases q⟩
section
variable {K : PySem.W.Frag}
theorem IsEntry.stays : Stays (IsEntry K) := ⟨fun ⟨a, x, y, e, q, p1, p2⟩ c => ⟨a, x, y, e, c a _ q True.intro, (TOf.stays IsPair.stays).mono p1 c, (TOf.stays IsPair.stays).mono p2 c⟩, fun ⟨a, x, y, e, _⟩ i q => by rw [e] at q; cases q⟩
theorem IsNoteRow.stays : Stays IsNoteRow := ⟨fun {H H' v x} h c => by
    cases x with
    | none => exact h
    | some r => obtain ⟨a, x, y, e, q, w1, w2⟩ := h; exact ⟨a, x, y, e, c a _ q True.intro, w1.core c, w2.core c⟩, fun {H v x} h i q => by
    cases x with
    | none => rw [show v = .non from h] at q; cases q
    | some r => obtain ⟨a, x, y, e, _⟩ := h; rw [e] at q; cases q⟩
theorem IsDeedRow.stays : Stays IsDeedRow := ⟨fun ⟨a, x, y, z, e, q, p1, p2, p3⟩ c => ⟨a, x, y, z, e, c a _ q True.intro, (LOf.stays IsMove.stays).mono p1 c, p2.core c, IsNoteRow.stays.mono p3 c⟩, fun ⟨a, x, y, z, e, _⟩ i q => by rw [e] at q; cases q⟩
theorem IsData.stays : Stays IsData := ⟨fun ⟨a, x, y, e, q, p1, p2⟩ c => ⟨a, x, y, e, c a _ q True.intro, p1.core c, (LOf.stays IsDeedRow.stays).mono p2 c⟩, fun ⟨a, x, y, e, _⟩ i q => by rw [e] at q; cases q⟩
theorem IsNote.stays : Stays (IsNote K) := ⟨fun {H H' v x} h c => by
    cases x with
    | none => exact h
    | some r => obtain ⟨a, dx, x, y, e, q, w1, w2⟩ := h; exact ⟨a, dx, x, y, e, c a _ q True.intro, w1.core c, w2.core c⟩, fun {H v x} h i q => by
    cases x with
    | none => rw [show v = .non from h] at q; cases q
    | some r => obtain ⟨a, dx, x, y, e, _⟩ := h; rw [e] at q; cases q⟩
theorem IsDeed.stays : Stays (IsDeed K) := ⟨fun ⟨a, dx, m, cc, z, e, q, p1, p2, p3⟩ c => ⟨a, dx, m, cc, z, e, c a _ q True.intro, (TOf.stays IsMove.stays).mono p1 c, p2.core c, IsNote.stays.mono p3 c⟩, fun ⟨a, dx, m, cc, z, e, _⟩ i q => by rw [e] at q; cases q⟩
theorem IsBook.stays : Stays (IsBook K) := ⟨fun ⟨a, dx, cc, s, d, n, e, q, p1, p2, p3⟩ c => ⟨a, dx, cc, s, d, n, e, c a _ q True.intro, p1.core c, (LOf.stays IsDeed.stays).mono p2 c, p3.core c⟩, fun ⟨a, dx, cc, s, d, n, e, _⟩ i q => by rw [e] at q; cases q⟩
theorem IsHist.stays : Stays (IsHist K) := ⟨fun ⟨a, dx, b, d, s, n, e, q, p0, p1, p2, p3⟩ c => ⟨a, dx, b, d, s, n, e, c a _ q True.intro, IsBook.stays.mono p0 c, (LOf.stays IsStep.stays).mono p1 c, (LOf.stays IsRow.stays).mono p2 c, (LOf.stays IsEntry.stays).mono p3 c⟩, fun ⟨a, dx, b, d, s, n, e, _⟩ i q => by rw [e] at q; cases q⟩
end
/-- the bag: two ints -/
def IsBag (H : Hp) (b : Addr) : Prop := ∃ i j, H b = some (.lst [.int i, .int j])
/-- ends of calls: all stays | all but two-int lists stays, the bag is a bag -/
def RetS (H : Hp) (P : V → Hp → Prop) (Q : VK) : Prop := ∀ v H', Same H H' → P v H' → Q v H'
def RetK (H : Hp) (b : Addr) (P : V → Hp → Prop) (Q : VK) : Prop := ∀ v H', Keep H H' → IsBag H' b → P v H' → Q v H'
theorem Same.core {H H' : Hp} (s : Same H H') : Core H H' := Core.of s
theorem IsBag.same {H H' : Hp} {b : Addr} (h : IsBag H b) (s : Same H H') : IsBag H' b := by obtain ⟨i, j, q⟩ := h; exact ⟨i, j, s _ _ q⟩
end Pn

-- PnE1
set_option
      maxHeartbeats 4000000
namespace Pn
open PySem PySem.Spec L2 PyProof.Rows StX ClX
theorem all_true {α : Type} (l : List α) : (List.replicate l.length true).all id = true := by
  induction l with
  | nil => rfl
  | cons a l ih => simpa [List.replicate_succ] using ih
section
variable {P : Program} {w : World} {K : PySem.W.Frag}
      {mg : Str → Option Value} {base : Heap}

def r_is_integer : RC := fun vs _ H Q => ∃ i : Int, vs = [.int i] ∧ Q (.bl true) H
theorem ok_is_integer (T : Tx K mg) : Cal P w K mg base false 1 "is_integer" r_is_integer := by
  refine cal_at T.d_is_integer T.g_is_integer sc_is_integer (fun vs H Q h => by obtain ⟨i, rfl, _⟩ := h; rfl) (fun _ _ _ _ _ _ us hl => match us, hl with | [_], _ => rfl) fun cdv A outer s H vs Q hr _ h => ?_
  obtain ⟨i, rfl, k⟩ := h
  refine ⟨_, pss_one (ps_ret (pe_and (pe_callB call_isi rfl T.f_isinstance boot_isinstance (pa_cons (pv 0) (pa_cons (pe_ty T.f_int boot_int rfl) pa_nil)))
    (pe_one (pe_not (pe_callB call_isi rfl T.f_isinstance boot_isinstance (pa_cons (pv 0) (pa_cons (pe_ty T.f_bool boot_bool rfl) pa_nil))))))), ?_⟩
  refine ⟨_, rfl, _, _, _, _, true, rfl, .ty _, .base (.int i), kit_ty (by decide +kernel), true, rfl, iteT ?_⟩
  exact ⟨_, rfl, _, _, _, _, false, rfl, .ty _, .base (.int i), kit_ty (by decide +kernel), false, rfl, k⟩

def r_is_name : RC := fun vs _ H Q => ∃ s : Str, vs = [.str s] ∧ NameOk s ∧ ∀ H', Same H H' → Q (.bl true) H'
theorem ok_is_name (T : Tx K mg) : Cal P w K mg base false 1 "is_name" r_is_name := by
  refine cal_at T.d_is_name T.g_is_name sc_is_name (fun vs H Q h => by obtain ⟨i, rfl, _⟩ := h; rfl) (fun _ _ _ _ _ _ us hl => match us, hl with | [_], _ => rfl) fun cdv A outer s H vs Q hr _ h => ?_
  obtain ⟨z, rfl, hz, k⟩ := h
  refine ⟨_, (pss_cons (ps_if (PW.pt (pw_or (pt_not (pt_val (pe_callB call_isi rfl T.f_isinstance boot_isinstance (pa_cons (pv 0) (pa_cons (pe_ty T.f_str boot_str rfl) pa_nil))))) (pw_or1 (pt_not (pt_chain op_le op_le pe_int (pe_callB call_len_str rfl T.f_len boot_len (pa_cons (pv 0) pa_nil)) (pe_gi T.i_MOST_LETTERS rfl)))))) (pss_one (ps_ret pe_bl)) pss_nil)
    (pss_one (ps_ret (pe_callB (cr_all rfl) rfl T.f_all boot_all (pa_cons (pe_lc (own := [("letter", 1)]) rfl sc_is_name.nd (pi_str (pv 0)) (blkOk_by rfl) (fun _ _ _ _ _ => pg_name (i := 1) sc_is_name.nd rfl (Or.inl rfl)) (fun _ _ _ _ _ => pts_nil) (fun _ _ _ _ _ => (pe_cmpR op_in_sign (pv 1) (pe_gs T.s_LETTERS rfl) rfl))) pa_nil))))), ?_⟩
  refine ⟨_, rfl, _, _, _, _, true, rfl, .ty _, .base (.str z), kit_ty (by decide +kernel), true, rfl, iteF ?_⟩
  refine ⟨_, rfl, z, rfl, hz.line, _, _, rfl, rfl, decide (1 ≤ (z.length : Int)), rfl, ?_⟩
  have h1 : decide (1 ≤ (z.length : Int)) = true := decide_eq_true (by have := hz.1; omega)
  have h2 : decide ((z.length : Int) ≤ 8) = true := decide_eq_true (by have := hz.2.1; omega)
  rw [h1]
  refine iteT ⟨_, _, rfl, rfl, decide ((z.length : Int) ≤ 8), rfl, ?_⟩
  rw [h2]
  refine iteF ?_
  refine ⟨_, rfl, z, rfl, fun D hD => ⟨fun i m H' => i ≤ z.cps.size ∧ m = z.cps.size - i ∧ Same H H' ∧ H' D = some (.lst ((List.replicate i true).map V.bl)), ⟨z.cps.size, Nat.zero_le _, rfl, Same.new hD, upd_same⟩, fun i m H' hi => ?_⟩⟩
  obtain ⟨hi, hm, sm, hl⟩ := hi
  rcases Nat.lt_or_ge i z.cps.size with h | h
  · refine .inr ⟨h, fun H2 => Same H H2 ∧ H2 D = some (.lst ((List.replicate (i + 1) true).map V.bl)), fun H2 p => ⟨z.cps.size - (i + 1), by omega, h, rfl, p⟩, fun x H2 y => ?_⟩
    obtain ⟨rfl, c, hc, rfl⟩ := y
    refine ⟨rfl, _, rfl, c, _, rfl, rfl, _, hl, ?_, ?_, ?_⟩
    · rw [List.length_map, List.length_replicate]
      have : z.cps.size ≤ 8 := hz.2.1
      exact Nat.lt_of_lt_of_le h (Nat.le_trans this (by decide))
    · intro a o q
      by_cases e : a = D
      · subst e; rw [hD] at q; cases q
      · rw [upd_ne e]; exact sm a o q
    · rw [upd_same, List.replicate_succ', List.map_append]
      have hin : c ∈ z.cps.toList := by
        have := Array.mem_of_getElem? hc
        simpa using this
      have hcc := hz.2.2 c hin
      have hd : decide (c ∈ ("abcdefghijklmnopqrstuvwxyz" : Str).cps.toList) = true := by
        have ha : ∀ n, n < 123 → 97 ≤ n → n ∈ ("abcdefghijklmnopqrstuvwxyz" : Str).cps.toList := by decide +kernel
        exact decide_eq_true (ha c (by omega) hcc.1)
      rw [hd]
      rfl
  · have e : i = z.cps.size := Nat.le_antisymm hi h
    subst e
    refine .inl ⟨Nat.le_refl _, D, _, rfl, SqL.of hl, ?_⟩
    have e : ((List.replicate z.cps.size true).all id) = true := by simp
    rw [e]
    exact k H' sm

def r_is_value : RC := fun vs _ H Q => ∃ i : Int, vs = [.int i] ∧ ValOk i ∧ Q (.bl true) H
theorem ok_is_value (T : Tx K mg) : Cal P w K mg base false 2 "is_value" r_is_value := by
  refine cal_at T.d_is_value T.g_is_value sc_is_value (fun vs H Q h => by obtain ⟨i, rfl, _⟩ := h; rfl) (fun _ _ _ _ _ _ us hl => match us, hl with | [_], _ => rfl) fun cdv A outer s H vs Q hr _ h => ?_
  have G_is_integer := ok_is_integer (P := P) (w := w) (base := base) T
  obtain ⟨i, rfl, hi, k⟩ := h
  refine ⟨_, (pss_one (ps_ret (pe_and (pe_cl G_is_integer hr (by decide) Gd.no rfl (pa_cons (pv 0) pa_nil)) (pe_one (pe_chain op_le op_le (pe_un un_neg (pe_gi T.i_MOST_VALUE rfl)) (pv 0) (pe_gi T.i_MOST_VALUE rfl)))))), ?_⟩
  refine ⟨_, rfl, i, rfl, true, rfl, iteT ?_⟩
  have h1 : decide (-(10 ^ 30) ≤ i) = true := decide_eq_true hi.1
  have h2 : decide (i ≤ 10 ^ 30) = true := decide_eq_true hi.2
  refine ⟨_, rfl, _, rfl, _, _, rfl, rfl, decide (-(10 ^ 30) ≤ i), rfl, ?_⟩
  rw [h1]
  refine iteT ⟨_, _, rfl, rfl, ?_⟩
  show Q (.bl (decide (i ≤ 10 ^ 30))) H
  rw [h2]
  exact k

def r_is_between : RC := fun vs _ H Q => ∃ i lo hi : Int, vs = [.int i, .int lo, .int hi] ∧ lo ≤ i ∧ i ≤ hi ∧ Q (.bl true) H
theorem ok_is_between (T : Tx K mg) : Cal P w K mg base false 2 "is_between" r_is_between := by
  refine cal_at T.d_is_between T.g_is_between sc_is_between (fun vs H Q h => by obtain ⟨i, lo, hi, rfl, _⟩ := h; rfl) (fun _ _ _ _ _ _ us hl => match us, hl with | [_, _, _], _ => rfl) fun cdv A outer s H vs Q hr _ h => ?_
  have G_is_integer := ok_is_integer (P := P) (w := w) (base := base) T
  obtain ⟨i, lo, hi, rfl, l1, l2, k⟩ := h
  refine ⟨_, (pss_one (ps_ret (pe_and (pe_cl G_is_integer hr (by decide) Gd.no rfl (pa_cons (pv 0) pa_nil)) (pe_one (pe_chain op_le op_le (pv 1) (pv 0) (pv 2)))))), ?_⟩
  refine ⟨_, rfl, i, rfl, true, rfl, iteT ?_⟩
  refine ⟨_, rfl, _, rfl, _, _, rfl, rfl, decide (lo ≤ i), rfl, ?_⟩
  rw [decide_eq_true l1]
  refine iteT ⟨_, rfl, _, _, rfl, rfl, ?_⟩
  show Q (.bl (decide (i ≤ hi))) H
  rw [decide_eq_true l2]
  exact k

def r_check_name : RC := fun vs _ H Q => ∃ s : Str, vs = [.str s] ∧ NameOk s ∧ ∀ H', Same H H' → Q .non H'
theorem ok_check_name (T : Tx K mg) : Cal P w K mg base false 2 "check_name" r_check_name := by
  refine cal_at T.d_check_name T.g_check_name sc_check_name (fun vs H Q h => by obtain ⟨i, rfl, _⟩ := h; rfl) (fun _ _ _ _ _ _ us hl => match us, hl with | [_], _ => rfl) fun cdv A outer s H vs Q hr _ h => ?_
  have G_is_name := ok_is_name (P := P) (w := w) (base := base) T
  obtain ⟨z, rfl, hz, k⟩ := h
  refine ⟨_, (pss_one (ps_if (pt_not (pt_val (pe_cl G_is_name hr (by decide) Gd.no rfl (pa_cons (pv 0) pa_nil)))) pss_never pss_nil)), ?_⟩
  exact ⟨_, rfl, z, rfl, hz, fun H' sm => ⟨true, rfl, iteF (k H' sm)⟩⟩

/-- the items of a list or tuple of texts, all different -/
def IsSS (K : PySem.W.Frag) (H : Hp) (v : V) (ss : List Str) : Prop := ∃ a, v = .ref a ∧ (H a = some (.lst (ss.map V.str)) ∨ SqT K H a (ss.map V.str))
theorem flat_strs (ss : List Str) : (ss.map V.str).all flatV = true := by
  induction ss with
  | nil => rfl
  | cons a l ih => simpa [flatV] using ih
theorem inV_strs (z : Str) (ss : List Str) : inV (.str z) (ss.map V.str) = decide (z ∈ ss) := by
  induction ss with
  | nil => rfl
  | cons a l ih =>
    show (eqV (.str a) (.str z) || inV (.str z) (l.map V.str)) = _
    rw [ih]
    show ((a == z) || decide (z ∈ l)) = _
    by_cases e : a = z
    · subst e; simp
    · simp [e, Ne.symm e]
theorem not_before {ss : List Str} (nd : ss.Nodup) {i : Nat} {z : Str} (h : ss[i]? = some z) : z ∉ ss.take i := fun hm => by
  have hl : i < ss.length := (List.getElem?_eq_some_iff.mp h).1
  obtain ⟨j, hj, e⟩ := List.mem_iff_getElem.mp hm
  rw [List.length_take] at hj
  rw [List.getElem_take] at e
  have hz : ss[i] = z := (List.getElem?_eq_some_iff.mp h).2
  have := (List.getElem?_inj (i := j) (j := i) (by omega) nd).mp (by rw [h, List.getElem?_eq_getElem (by omega), e])
  omega
theorem cut_take (xs : List V) (i : Nat) : cutV xs none (some (i : Int)) = xs.take i := by
  unfold cutV
  rw [HT.sIx_none, HT.sIx_nat]
  simp
def r_check_onceL : RC := fun vs _ H Q => ∃ (a : Addr) (ss : List Str), vs = [.ref a] ∧ H a = some (.lst (ss.map V.str)) ∧ ss.Nodup ∧ ∀ H', Same H H' → Q .non H'
theorem ok_check_onceL (T : Tx K mg) : Cal P w K mg base false 1 "check_once" r_check_onceL := by
  refine cal_at T.d_check_once T.g_check_once sc_check_once (fun vs H Q h => by obtain ⟨a, ss, rfl, _⟩ := h; rfl) (fun _ _ _ _ _ _ us hl => match us, hl with | [_], _ => rfl) fun cdv A outer s H vs Q hr _ h => ?_
  obtain ⟨a, ss, rfl, ha, nd, k⟩ := h
  refine ⟨_, (pss_one (ps_for PassesOwn.never rfl (pi_enum rfl T.f_enumerate (pa_cons (pv 0) pa_nil)) (pg_tup rfl (pgs_cons (pg_name (i := 1) sc_check_once.nd rfl (Or.inl rfl)) (pgs_cons (pg_name (i := 2) sc_check_once.nd rfl (Or.inl rfl)) pgs_nil))) (pss_one (ps_if (pt_cmpR op_in_seq (pv 2) (pe_slice sl_list (pv 0) po_none (po_some (pv 1))) rfl) pss_never pss_nil)))), ?_⟩
  refine ⟨_, rfl, a, _, rfl, SqL.of ha, for_enumL (xs := ss.map V.str) (fun i σ H' => Same H H' ∧ ∃ x y, σ = [some (.ref a), x, y]) ⟨Same.refl H, _, _, rfl⟩ (fun i σ H' _ p => SqL.of (p.1 _ _ ha)) (fun i x σ H' t hx p ht => ?_) (fun σ H' p => k H' p.1)⟩
  obtain ⟨sm, x1, x2, rfl⟩ := p
  obtain ⟨z, hz, rfl⟩ : ∃ z, ss[i]? = some z ∧ x = .str z := by
    rw [List.getElem?_map] at hx
    cases q : ss[i]? with
    | none => rw [q] at hx; cases hx
    | some z => rw [q] at hx; cases hx; exact ⟨z, rfl, rfl⟩
  have sm2 : Same H (upd H' t (.tup [.int (i : Nat), .str z])) := sm.trans (Same.new ht)
  refine ⟨t, _, rfl, SqT.of upd_same, rfl, _, _, rfl, _, _, rfl, rfl, ?_⟩
  refine ⟨_, rfl, _, rfl, _, rfl, i, rfl, a, _, rfl, SqL.of (sm2 _ _ ha), fun p hp => ⟨p, _, rfl, .inl (SqL.of upd_same), rfl, ?_, ?_⟩⟩
  · rw [cut_take, ← List.map_take]; exact flat_strs _
  · rw [cut_take, ← List.map_take]
    refine ⟨decide (z ∈ ss.take i), ?_, ?_⟩
    · show V.bl _ = _
      rw [← inV_strs]; rfl
    rw [decide_eq_false (not_before nd hz)]
    exact iteF ⟨sm2.trans (Same.new hp), _, _, rfl⟩
def r_check_onceT (K : PySem.W.Frag) : RC := fun vs _ H Q => ∃ (a : Addr) (ss : List Str), vs = [.ref a] ∧ SqT K H a (ss.map V.str) ∧ ss.Nodup ∧ ∀ H', Same H H' → Q .non H'
theorem same_tup {K : PySem.W.Frag} {H H' : Hp} {a : Addr} {xs : List V} (s : Same H H') (h : SqT K H a xs) : SqT K H' a xs := SqT.core h (Core.of s)
theorem ok_check_onceT (T : Tx K mg) : Cal P w K mg base false 1 "check_once" (r_check_onceT K) := by
  refine cal_at T.d_check_once T.g_check_once sc_check_once (fun vs H Q h => by obtain ⟨a, ss, rfl, _⟩ := h; rfl) (fun _ _ _ _ _ _ us hl => match us, hl with | [_], _ => rfl) fun cdv A outer s H vs Q hr _ h => ?_
  obtain ⟨a, ss, rfl, ha, nd, k⟩ := h
  refine ⟨_, (pss_one (ps_for PassesOwn.never rfl (pi_enumT rfl T.f_enumerate (pa_cons (pv 0) pa_nil)) (pg_tup rfl (pgs_cons (pg_name (i := 1) sc_check_once.nd rfl (Or.inl rfl)) (pgs_cons (pg_name (i := 2) sc_check_once.nd rfl (Or.inl rfl)) pgs_nil))) (pss_one (ps_if (pt_cmpR op_in_seq (pv 2) (pe_slice sl_tup (pv 0) po_none (po_some (pv 1))) rfl) pss_never pss_nil)))), ?_⟩
  refine ⟨_, rfl, a, _, rfl, ha, for_enumT (xs := ss.map V.str) (fun i σ H' => Same H H' ∧ ∃ x y, σ = [some (.ref a), x, y]) ⟨Same.refl H, _, _, rfl⟩ (fun i σ H' _ p => same_tup p.1 ha) (fun i x σ H' t hx p ht => ?_) (fun σ H' p => k H' p.1)⟩
  obtain ⟨sm, x1, x2, rfl⟩ := p
  obtain ⟨z, hz, rfl⟩ : ∃ z, ss[i]? = some z ∧ x = .str z := by
    rw [List.getElem?_map] at hx
    cases q : ss[i]? with
    | none => rw [q] at hx; cases hx
    | some z => rw [q] at hx; cases hx; exact ⟨z, rfl, rfl⟩
  have hil : i < ss.length := (List.getElem?_eq_some_iff.mp hz).1
  have sm2 : Same H (upd H' t (.tup [.int (i : Nat), .str z])) := sm.trans (Same.new ht)
  refine ⟨t, _, rfl, SqT.of upd_same, rfl, _, _, rfl, _, _, rfl, rfl, ?_⟩
  refine ⟨_, rfl, _, rfl, _, rfl, i, rfl, a, _, rfl, same_tup sm2 ha, ?_, fun p hp => ⟨p, _, rfl, .inr (SqT.of upd_same), rfl, ?_, ?_⟩⟩
  · rw [HT.sIx_none, HT.sIx_nat, List.length_map]
    omega
  · rw [cut_take, ← List.map_take]; exact flat_strs _
  · rw [cut_take, ← List.map_take]
    refine ⟨decide (z ∈ ss.take i), ?_, ?_⟩
    · show V.bl _ = _
      rw [← inV_strs]; rfl
    rw [decide_eq_false (not_before nd hz)]
    exact iteF ⟨sm2.trans (Same.new hp), _, _, rfl⟩

def r_check_names (K : PySem.W.Frag) : RC := fun vs _ H Q => ∃ (a : Addr) (ss : List Str) (m : Int), vs = [.ref a, .int m] ∧ H a = some (.lst (ss.map V.str)) ∧ (∀ z ∈ ss, NameOk z) ∧ ss.Nodup ∧ (ss.length : Int) ≤ m ∧ m ≤ 10 ∧ ∀ v H' ys, Same H H' → ys.Perm ss → IsTS K H' v ys → Q v H'
theorem ok_check_names (T : Tx K mg) : Cal P w K mg base false 3 "check_names" (r_check_names K) := by
  refine cal_at T.d_check_names T.g_check_names sc_check_names (fun vs H Q h => by obtain ⟨a, ss, m, rfl, _⟩ := h; rfl) (fun _ _ _ _ _ _ us hl => match us, hl with | [_, _], _ => rfl) fun cdv A outer s H vs Q hr _ h => ?_
  have G_check_name := ok_check_name (P := P) (w := w) (base := base) T
  have G_check_once := ok_check_onceL (P := P) (w := w) (base := base) T
  obtain ⟨a, ss, m, rfl, ha, nm, nd, hm, hm10, k⟩ := h
  refine ⟨_, (pss_cons (ps_for PassesOwn.never rfl (pi_list (pv 0)) (pg_name (i := 2) sc_check_names.nd rfl (Or.inl rfl)) (pss_one (ps_expr (pe_cl G_check_name hr (by decide) Gd.no rfl (pa_cons (pv 2) pa_nil)))))
    (pss_cons (ps_expr (pe_cl G_check_once hr (by decide) Gd.no rfl (pa_cons (pv 0) pa_nil)))
    (pss_cons (ps_if (pt_cmpR op_gt (pe_callB call_len_seq rfl T.f_len boot_len (pa_cons (pv 0) pa_nil)) (pv 1) (nomark _)) pss_never pss_nil)
    (pss_one (ps_ret (pe_callTy call_tuple_of rfl T.f_tuple boot_tuple (pa_cons (pe_callB cr_sortedS rfl T.f_sorted boot_sorted (pa_cons (pv 0) pa_nil)) pa_nil))))))), ?_⟩
  refine ⟨_, rfl, a, rfl, ⟨_, SqL.of ha⟩, for_list (xs := ss.map V.str) (fun i σ H' => Same H H' ∧ ∃ x, σ = [some (.ref a), some (.int m), x]) ⟨Same.refl H, _, rfl⟩ (fun i σ H' _ p => SqL.of (p.1 _ _ ha)) (fun i x σ H' hx p => ?_) (fun σ H' p => ?_)⟩
  · obtain ⟨sm, x1, rfl⟩ := p
    obtain ⟨z, hz, rfl⟩ : ∃ z, ss[i]? = some z ∧ x = .str z := by
      rw [List.getElem?_map] at hx
      cases q : ss[i]? with
      | none => rw [q] at hx; cases hx
      | some z => rw [q] at hx; cases hx; exact ⟨z, rfl, rfl⟩
    exact ⟨_, rfl, z, rfl, nm z (List.mem_of_getElem? hz), fun H2 s2 => ⟨sm.trans s2, _, rfl⟩⟩
  · obtain ⟨sm, x1, rfl⟩ := p
    refine ⟨_, rfl, a, ss, rfl, sm _ _ ha, nd, fun H2 s2 => ?_⟩
    have hl := SqL.of (K := K) ((sm.trans s2) _ _ ha)
    refine ⟨_, rfl, a, _, rfl, .inl hl, _, rfl, _, _, rfl, rfl, decide (m < ((ss.map V.str).length : Int)), rfl, ?_⟩
    rw [decide_eq_false (by rw [List.length_map]; omega)]
    refine iteF ⟨_, rfl, a, ss, rfl, hl, by omega, fun ys p hp _ hpn => ?_⟩
    exact ⟨p, _, rfl, .inl ⟨SqL.of upd_same, fun l hl => k _ _ ys ((sm.trans s2).trans ((Same.new hpn).trans (Same.new hl))) hp ⟨l, rfl, SqT.of upd_same⟩⟩⟩
end
end Pn

-- PnH
set_option
      maxHeartbeats 4000000
namespace PySem.SeqAt
open AutoSeq1
      (wpAny_loadPart')
open MeetsSeq MeetsSeq2
      MeetsSeq3 SeqRoads2
section
variable {prog : Program}
      {w : World}
theorem pn_ne_loop (l b : Addr) (items items2 : Array Value) (n n2 : Nat) (dd dd2 : Option Addr) (sl sl2 : Array (Option Value)) (hsz : items.size = items2.size) (e : Nat → Bool) (k : Nat) :
    ∀ i : Nat, items.size - i = k → MeetsIn prog w (Builtin.«list.__eq__.loop» ⟨[.ref l, .ref b, rawInt i, rawInt 3], []⟩)
      (fun A R s => s.heap.get? l = some { cls := .type "list", dict := dd, data := .seq items n, slots := sl } ∧
            s.heap.get? b = some { cls := .type "list", dict := dd2, data := .seq items2 n2, slots := sl2 } ∧
        (∀ j (h1 : j < items.size) (h2 : j < items2.size),
              EqP prog w A.in1 s items[j] items2[j] (e j)) ∧
        R
              (.ok (.ret (.bool (!((List.range items.size).drop i).all e)))) s) := by
  induction k with
  | zero =>
    intro i hk A R s h
    obtain ⟨hp, g, d, tk, os⟩ :=
          s; obtain ⟨hl, hb, he, h⟩ := h
    wp_walk using wpAny_loadPart' hl,
          wpAny_loadPart' hb
    have hi1 :
          items[((i : Nat) : Int).toNat]? = none := by simp; omega
    have hi2 :
          items2[((i : Nat) : Int).toNat]? = none := by simp; omega
    have hd :
          (List.range items.size).drop i = [] := by simp; omega
    rw [hd] at h
    rw [hi1, hi2]
    wp_walk using wpAny_loadPart' hl,
          wpAny_loadPart' hb
    show R
          (.ok (.ret (.bool (items.size != items2.size)))) _
    rw [hsz]
    simpa using h
  | succ k ih =>
    intro i hk A R s h
    obtain ⟨hp, g, d, tk, os⟩ :=
          s; obtain ⟨hl, hb, he, h⟩ := h
    wp_walk using wpAny_loadPart' hl,
          wpAny_loadPart' hb
    have hlt :
          i < items.size := by omega
    have hlt2 :
          i < items2.size := by omega
    have hi1 :
          items[((i : Nat) : Int).toNat]? = some items[i] := by simp [hlt]
    have hi2 :
          items2[((i : Nat) : Int).toNat]? = some items2[i] := by simp [hlt2]
    have hd : (List.range items.size).drop i = i ::
          (List.range items.size).drop (i + 1) := by simp [List.drop_eq_getElem_cons, hlt]
    have hc :
          ((i : Int) + 1) = ((i + 1 : Nat) : Int) := by push_cast; rfl
    rw [hd, List.all_cons] at h
    rw [hi1, hi2]
    refine wpAny_bind
          (he i hlt hlt2 _ _ ?_)
    cases hb' : e i with
    | true =>
      rw [hb'] at h
      wp_walk
      rw [hc]
      exact ⟨plainId_quiet plain_eq_loop _,
            codeAny_builtin entry_eq_loop (by
        rw
              [Around.under_plainId plain_eq_loop _]
        exact ih (i + 1)
              (by omega) A R _ ⟨hl, hb, he, by simpa using h⟩)⟩
    | false =>
      rw [hb'] at h
      wp_walk using wpAny_loadPart' hl,
            wpAny_loadPart' hb
      rw [hi1, hi2]
      wp_walk
      simpa using h
theorem pn_list_ne (l b : Addr) (items items2 : Array Value) (n n2 : Nat) (dd dd2 : Option Addr) (sl sl2 : Array (Option Value)) (hsz : items.size = items2.size) (e : Nat → Bool) :
    MeetsIn prog w (Builtin.«list.__ne__» ⟨[.ref l, .ref b], []⟩)
      (fun A R s => s.heap.get? l = some { cls := .type "list", dict := dd, data := .seq items n, slots := sl } ∧
            s.heap.get? b = some { cls := .type "list", dict := dd2, data := .seq items2 n2, slots := sl2 } ∧
        (∀ j (h1 : j < items.size) (h2 : j < items2.size),
              EqP prog w A.in1 s items[j] items2[j] (e j)) ∧
        R
              (.ok (.ret (.bool (!(List.range items.size).all e)))) s) := by
  intro A R s h
  obtain ⟨hp, g, d, tk, os⟩ :=
        s; obtain ⟨hl, hb, he, h⟩ := h
  have f3 :=
        AutoSeq1.sub_list_list
  have hne :
        ¬ (items.size != items2.size) = true := by simp [hsz]
  wp_walk using wpAny_loadPart' hl,
        wpAny_loadPart' hb
  exact ⟨plainId_quiet plain_eq_loop _,
        codeAny_builtin entry_eq_loop (by
    rw
          [Around.under_plainId plain_eq_loop _]
    exact pn_ne_loop l b items items2 n n2 dd dd2 sl sl2 hsz e _ 0 rfl A R _ ⟨hl, hb, he, by simpa using h⟩)⟩
theorem pn_rc_ne {A : Around} {s : Shared} {l b : Addr} {items items2 : Array Value} {e : Nat → Bool} (hl : s.heap.IsList l items) (hb : s.heap.IsList b items2) (hsz : items.size = items2.size) (hu : A.units < cLine)
    (he : ∀ j (h1 : j < items.size) (h2 : j < items2.size), EqP prog w A.in1 s items[j] items2[j] (e j)) (E Q : Value → Shared → Prop) (h : Q (.bool (!(List.range items.size).all e)) s) : wpAny (model prog w) A (richCompare .NotEq (.ref l) (.ref b)) Q E s := by
  obtain ⟨⟨cls, dd, data, sl⟩, ho, hc, n, hd⟩ :=
        id hl
  obtain ⟨⟨cls2, dd2, data2, sl2⟩, ho2, hc2, n2, hd2⟩ :=
        id hb
  simp only at hc hd hc2 hd2
  subst hc hd hc2 hd2
  have ta : s.TypeIs (.ref l) "list" :=
        ⟨_, ho, rfl⟩
  have tb : s.TypeIs (.ref b) "list" :=
        ⟨_, ho2, rfl⟩
  exact wpAny_richCompare_same_room (op := .NotEq) ta tb F.slot_list_ne (call_meetsIn F.slot_list_ne ta F.entry_list_ne (F.args_list_ne_2 _ _) (pn_list_ne l b items items2 n n2 dd dd2 sl sl2 hsz e)
    ⟨ho, ho2, he, show Value.bool (!(List.range items.size).all e) ≠ Value.notImplemented ∧ Q (.bool (!(List.range items.size).all e)) s from ⟨(fun x => nomatch x), h⟩⟩) hu
theorem pn_dict_declines {A : Around} {E Q : Value → Shared → Prop} {s : Shared} {K : Type} [DecidableEq K] {knd : KeyKind prog w K} {a : Addr} {ka : List (K × Value)} (da : s.heap.DictOf knd a ka) (h : Q .notImplemented s) :
    wpAny (model prog w) A (call (.builtin "dict.__eq__") [.ref a, .none]) Q E s := by
  refine wpAny_call_entry PySem.F.slot_dict_eq da.typeIs PySem.F.entry_dict_eq ?_ (PySem.F.args_dict_eq_2 _ _)
  show wpAny _ _ (Builtin.Dict.dictSlotArgs "__eq__" ⟨[.ref a, .none], []⟩ >>= _) _ _ s
  refine wpAny_bind ?_
  unfold
        Builtin.Dict.dictSlotArgs
  refine wpAny_bind
        (wpAny_notOrdered_dict da.typeIs ?_)
  show wpAny _ _ (pure (Value.ref a, Value.none)) _ _ s
  refine wpAny_pure ?_
  refine wpAny_bind (wpAny_isInstance (T := "NoneType") (show s.TypeIs .none "NoneType" from rfl) PySem.F.sub_NoneType_dict ?_)
  simp only [Bool.not_false,
        if_true]
  exact wpAny_bind (wpAny_rule (wpAny_pure ⟨_, rfl, h⟩))
theorem pn_dict_none {A : Around} {E Q : Value → Shared → Prop} {s : Shared} {K : Type} [DecidableEq K] {knd : KeyKind prog w K} {a : Addr} {ka : List (K × Value)} (da : s.heap.DictOf knd a ka) (hu : A.units < cLine) (h : Q (.bool false) s) :
    wpAny (model prog w) A (richCompare .Eq (.ref a) .none) Q E s :=
  rc_eq_decline_or (k := false) da.typeIs rfl (by decide) PySem.F.sub_NoneType_dict PySem.F.slot_dict_eq F.slot_NoneType_eq_refl
    (fun _ hq => pn_dict_declines da hq)
    (fun _ hq => call_gives F.slot_NoneType_eq_refl rfl F.entry_NoneType_eq (F.args_NoneType_eq_2 _ _) (NoneType___eq___none_ref_0 a) hq)
    (fun _ hq => wpAny_of_eq (rfl : isSame (.ref a) .none = pure false) hq) (.inr hu) h
theorem pn_none_dict {A : Around} {E Q : Value → Shared → Prop} {s : Shared} {K : Type} [DecidableEq K] {knd : KeyKind prog w K} {a : Addr} {ka : List (K × Value)} (da : s.heap.DictOf knd a ka) (hu : A.units < cLine) (h : Q (.bool false) s) :
    wpAny (model prog w) A (richCompare .Eq .none (.ref a)) Q E s :=
  rc_eq_decline_or (k := false) rfl da.typeIs (by decide) PySem.F.sub_dict_NoneType F.slot_NoneType_eq PySem.F.slot_dict_eq_refl
    (fun _ hq => call_gives F.slot_NoneType_eq rfl F.entry_NoneType_eq (F.args_NoneType_eq_2 _ _) (NoneType___eq___none_ref_0 a) hq)
    (fun _ hq => pn_dict_declines da hq)
    (fun _ hq => wpAny_of_eq (rfl : isSame .none (.ref a) = pure false) hq) (.inr hu) h
end
end PySem.SeqAt
namespace Pn
open PySem PySem.Spec L2 PyProof.Rows StX ClX
/-! ### rows -/
def kvAll (ls : List (Key × V)) : List (Key × V) → Bool
  | [] => true
  | (k, v) :: r => match valV ls k with
    | none => false
    | some u => eqV v u && kvAll ls r
theorem hits_flat {A : Around} {s : Shared} {ls : List (Key × V)} {vb : List (Key × Value)} (rb : KV ls vb) (fb : ∀ k v, valV ls k = some v → flatV v = true) : ∀ {ks : List (Key × V)} {va : List (Key × Value)}, KV ks va → (∀ p ∈ ks, flatV p.2 = true) → PySem.W.KeqHits A s vb va (kvAll ls ks)
  | _, _, .nil, _ => .nil
  | (k, v) :: ks, (k', v') :: va, .cons ⟨h1, h2⟩ t, fa => by
    have h1' : k = k' := h1
    subst h1'
    have rr : RelO (valV ls k) (valueAt vb k) := rb.val k
    unfold kvAll
    cases e : valV ls k with
    | none =>
      rw [e] at rr
      exact .miss rr.none_of
    | some u =>
      rw [e] at rr
      obtain ⟨y, hy, ry⟩ :=
            rr.some_of
      exact .hit hy (eqAt_V h2 ry (fa _ List.mem_cons_self) (fb k u e)) (hits_flat rb fb t fun p hp => fa p (List.mem_cons_of_mem _ hp))
def rowEq : Row → Row → Bool
  | none, none => true
  | some r, some q => (rowKV r).length == (rowKV q).length && kvAll (rowKV q) (rowKV r)
  | _, _ => false
theorem rowKV_flat (r : Str × Cols) : ∀ p ∈ rowKV r, flatV p.2 = true := by
  intro p hp
  unfold rowKV colKV at hp
  rcases List.mem_cons.mp
        hp with e | hp
  · rw [e]; rfl
  · obtain ⟨q, _, e⟩ := List.mem_map.mp hp
    rw [← e]; rfl
theorem valV_mem {kvs : List (Key × V)} {k : Key} {v : V} (h : valV kvs k = some v) : (k, v) ∈ kvs := by
  unfold valV at h
  cases q : kvs.find? (fun kv => decide (kv.1 = k)) with
  | none => rw [q] at h; cases h
  | some p =>
    rw [q] at h
    have h1 := List.find?_some q
    have h2 := List.mem_of_find?_eq_some q
    have e1 : p.1 = k := of_decide_eq_true h1
    have e2 : p.2 = v := by simpa using h
    rw [← e1, ← e2]
    exact h2
section
variable {X : Cx}
/-- == of two rows -/
def rEqRow : R2 := fun x y H Q => ∃ r q : Row, IsRow H x r ∧ IsRow H y q ∧ Q (.bl (rowEq r q)) H
theorem op_eqRow (hu : X.A.units + 64 < cLine) : OpR X (compareOp .Eq) rEqRow := by
  intro pins s σ H
        x y v u Q I rx ry h
  obtain ⟨r, q, hr, hq, k⟩ := h
  have hu' : X.A.units < cLine := by omega
  cases r with
  | none =>
    obtain rfl : x = .non := hr
    obtain rfl : v = Value.none := rx
    cases q with
    | none =>
      obtain rfl : y = .non := hq
      obtain rfl : u = Value.none := ry
      exact SeqAt.RcAt.none_none X.prog X.w _ _ ⟨.bl true, H, I, rfl, k⟩
    | some q =>
      obtain ⟨b, rfl, hb⟩ := hq
      obtain rfl : u = Value.ref b :=
            ry
      obtain ⟨_, yb, vb, rb, db⟩ := (show ObjOk X.prog X.w H s.heap b (.dK (rowKV q)) from I.hok b _ hb)
      exact SeqAt.pn_none_dict db hu' ⟨.bl false, H, I, rfl, k⟩
  | some r =>
    obtain ⟨a, rfl, ha⟩ := hr
    obtain rfl : v = Value.ref a :=
          rx
    obtain ⟨_, ya, va, ra, da⟩ := (show ObjOk X.prog X.w H s.heap a (.dK (rowKV r)) from I.hok a _ ha)
    cases q with
    | none =>
      obtain rfl : y = .non := hq
      obtain rfl : u = Value.none := ry
      exact SeqAt.pn_dict_none da hu' ⟨.bl false, H, I, rfl, k⟩
    | some q =>
      obtain ⟨b, rfl, hb⟩ := hq
      obtain rfl : u = Value.ref b :=
            ry
      obtain ⟨_, yb, vb, rb, db⟩ := (show ObjOk X.prog X.w H s.heap b (.dK (rowKV q)) from I.hok b _ hb)
      refine PySem.W.keq_eq (knd := mixKind X.prog X.w) (r := kvAll (rowKV q) (rowKV r)) ya yb da db hu' (fun _ => hits_flat rb (fun k v e => rowKV_flat q _ (valV_mem e)) ra (rowKV_flat r)) (fin_bl I k ?_)
      show ((rowKV r).length == (rowKV q).length && _) = _
      rw [ra.length, rb.length]
/-- != of two equal rows -/
def RowNd : Row → Prop
  | none => True
  | some r => (r.2.map (·.1)).Nodup ∧ ("state" : Str) ∉ r.2.map (·.1)
theorem rowKV_nodup {r : Str × Cols} (h : RowNd (some r)) : ((rowKV r).map (·.1)).Nodup := by
  unfold rowKV colKV
  rw [List.map_cons, List.map_map]
  have e : (r.2.map ((fun kv : Key × V => kv.1) ∘ fun p : Str × Int => ((Sum.inr p.1 : Key), V.int p.2))) = (r.2.map (·.1)).map (Sum.inr : Str → Key) := by rw [List.map_map]; rfl
  rw [e]
  refine List.nodup_cons.mpr ⟨fun hm => ?_, ?_⟩
  · obtain ⟨z, hz, ez⟩ := List.mem_map.mp hm
    cases ez
    exact h.2 hz
  · exact List.Pairwise.map _ (fun a b hab e => hab (by cases e; rfl)) h.1
def rNeRow : R2 := fun x y H Q => ∃ r : Row, RowNd r ∧ IsRow H x r ∧ IsRow H y r ∧ Q (.bl false) H
theorem op_neRow (hu : X.A.units + 64 < cLine) : OpR X (compareOp .NotEq) rNeRow := by
  intro pins s σ H
        x y v u Q I rx ry h
  obtain ⟨r, nd, hr, hq, k⟩ := h
  have hu' : X.A.units < cLine := by omega
  cases r with
  | none =>
    obtain rfl : x = .non := hr
    obtain rfl : v = Value.none := rx
    obtain rfl : y = .non := hq
    obtain rfl : u = Value.none := ry
    exact SeqAt.RcNeAt.none_none X.prog X.w _ _ ⟨.bl false, H, I, rfl, k⟩
  | some r =>
    obtain ⟨a, rfl, ha⟩ := hr
    obtain rfl : v = Value.ref a :=
          rx
    obtain ⟨_, ya, va, ra, da⟩ := (show ObjOk X.prog X.w H s.heap a (.dK (rowKV r)) from I.hok a _ ha)
    obtain ⟨b, rfl, hb⟩ := hq
    obtain rfl : u = Value.ref b :=
          ry
    obtain ⟨_, yb, vb, rb, db⟩ := (show ObjOk X.prog X.w H s.heap b (.dK (rowKV r)) from I.hok b _ hb)
    have hl : va.length = vb.length :=
          ra.length.symm.trans rb.length
    refine PySem.W.keq_ne (knd := mixKind X.prog X.w) (r := true) ya yb da db hu' (fun _ => hits_all rb ra fun p hp => ⟨val_nodup (rowKV_nodup nd) p hp, ?_⟩) (fin_bl I k (by simp [hl]))
    have := rowKV_flat r p hp
    cases hv : p.2 <;> rw [hv] at this <;> first | rfl | cases this
/-- != of two lists of equal items -/
def rNeL (K : PySem.W.Frag) : R2 := fun x y H Q => ∃ n a b xs ys, n ≤ 60 ∧ x = .ref a ∧ y = .ref b ∧ SqL K H a xs ∧ SqL K H b ys ∧ Paired (EqV K H n) xs ys ∧ Q (.bl false) H
theorem op_neL (hu : X.A.units + 64 < cLine) : OpR X (compareOp .NotEq) (rNeL X.K) := by
  intro pins s σ H
        x y v u Q I rx ry h
  obtain ⟨n, a, b, xs, ys, hn, rfl, rfl, ha, hb, hp, q⟩ := h
  obtain rfl : v = Value.ref a :=
        rx
  obtain rfl : u = Value.ref b :=
        ry
  obtain ⟨us, r1, p1, _⟩ :=
        I.list ha
  obtain ⟨ws, r2, p2, _⟩ :=
        I.list hb
  have hsz :
        us.toArray.size = ws.toArray.size := by
    rw [List.size_toArray,
          List.size_toArray, ← r1.length, ← r2.length]
    exact Paired.length hp
  refine SeqAt.pn_rc_ne (e := fun _ => true) p1.isList p2.isList hsz (by omega) (fun j h1 h2 => ?_) _ _ ?_
  · have k := items_run (eqV_run I n X.A.in1 (by show X.A.units + 1 + n < cLine; omega)) hp r1 r2 j (by simpa using h1) (by simpa using h2)
    simpa using k
  · rw [show ((List.range us.toArray.size).all fun _ => true) = true from List.all_eq_true.mpr fun _ _ =>
        rfl]
    exact ⟨.bl false, H, I, rfl, q⟩
end
theorem eqV_flat {K : PySem.W.Frag} {H : Hp} {n : Nat} {v : V} (f : flatB v = true) : EqV K H (n + 1) v v := .inl ⟨rfl, f⟩
theorem eqV_row {K : PySem.W.Frag} {H : Hp} {x y : V} {r : Row} (nd : RowNd r) (hx : IsRow H x r) (hy : IsRow H y r) : EqV K H 3 x y := by
  cases r with
  | none =>
    obtain rfl : x = .non := hx
    obtain rfl : y = .non := hy
    exact eqV_flat rfl
  | some r =>
    obtain ⟨a, rfl, ha⟩ := hx
    obtain ⟨b, rfl, hb⟩ := hy
    refine .inr (.inr (.inr ⟨a, b, _, _, rfl, rfl, ha, hb, rfl, fun p hp => ⟨p.2, val_nodup (rowKV_nodup nd) p hp, ?_⟩⟩))
    have := rowKV_flat r p hp
    refine eqV_flat ?_
    cases hv : p.2 <;> rw [hv] at this <;> first | rfl | cases this
end Pn

-- PnE2
set_option
      maxHeartbeats 4000000
namespace Pn
open PySem PySem.Spec L2 PyProof.Rows StX ClX
/-- what isinstance asks of a class of ours -/
structure InsOk (K : PySem.W.Frag) (C : Addr) : Prop where
  c1 : PySem.W.findIn K (.ref C) "__class__" = some (some (.builtin "object.__class__"))
  c2 : PySem.W.specialIn K (.builtin "object.__class__") "__get__" = some (some (.builtin "getset_descriptor.__get__"))
  c3 : PySem.W.takesIn K (.builtin "object.__class__") = some true
  c4 : PySem.W.mroIn K C (.type "object") = some true
theorem ty_ins {K : PySem.W.Frag} {H : Hp} {a C dx : Addr} {fs : List (Str × V)} (e : H a = some (.ins C dx fs)) (c : Cls K C) (o : InsOk K C) : TyX K H (.ref a) (.ref C) := .base (.ins e c o.c1 o.c2 o.c3 o.c4)
/-- more of the top's objects -/
structure Tz (K : PySem.W.Frag) : Prop where
  q_Note_Note : PySem.W.kitOne K (.ref (He.ga K "Note")) (.ref (He.ga K "Note")) = some true
  q_Make_Make : PySem.W.kitOne K (.ref (He.ga K "Make")) (.ref (He.ga K "Make")) = some true
  q_Change_Make : PySem.W.kitOne K (.ref (He.ga K "Change")) (.ref (He.ga K "Make")) = some false
  q_End_Make : PySem.W.kitOne K (.ref (He.ga K "End")) (.ref (He.ga K "Make")) = some false
  q_Make_Change : PySem.W.kitOne K (.ref (He.ga K "Make")) (.ref (He.ga K "Change")) = some false
  q_Change_Change : PySem.W.kitOne K (.ref (He.ga K "Change")) (.ref (He.ga K "Change")) = some true
  q_End_Change : PySem.W.kitOne K (.ref (He.ga K "End")) (.ref (He.ga K "Change")) = some false
  q_Make_End : PySem.W.kitOne K (.ref (He.ga K "Make")) (.ref (He.ga K "End")) = some false
  q_Change_End : PySem.W.kitOne K (.ref (He.ga K "Change")) (.ref (He.ga K "End")) = some false
  q_End_End : PySem.W.kitOne K (.ref (He.ga K "End")) (.ref (He.ga K "End")) = some true
  o_Note : InsOk K (He.ga K "Note")
  o_Make : InsOk K (He.ga K "Make")
  o_Change : InsOk K (He.ga K "Change")
  o_End : InsOk K (He.ga K "End")
  fi_getitem : PySem.W.fnIn K (He.ma K (He.ga K "Book") "__getitem__") = true
def KindOk (k : Str) : Prop := k = "make" ∨ k = "end" ∨ k = "change"
theorem kit_make {K : PySem.W.Frag} (Z : Tz K) (k : Str) : PySem.W.kitOne K (.ref (clsOf K k)) (.ref (He.ga K "Make")) = some (decide (k = "make")) := by
  unfold clsOf
  by_cases h : k = "make"
  · rw [if_pos h, decide_eq_true h]; exact Z.q_Make_Make
  · rw [if_neg h, decide_eq_false h]
    by_cases h2 : k = "end"
    · rw [if_pos h2]; exact Z.q_End_Make
    · rw [if_neg h2]; exact Z.q_Change_Make
theorem cls_ok {K : PySem.W.Frag} {mg : Str → Option Value} (T : Tx K mg) (k : Str) : Cls K (clsOf K k) := by
  unfold clsOf
  split
  · exact T.c_Make
  · split
    · exact T.c_End
    · exact T.c_Change
theorem ins_ok {K : PySem.W.Frag} (Z : Tz K) (k : Str) : InsOk K (clsOf K k) := by
  unfold clsOf
  split
  · exact Z.o_Make
  · split
    · exact Z.o_End
    · exact Z.o_Change
theorem after_ok {K : PySem.W.Frag} {mg : Str → Option Value} (T : Tx K mg) (k : Str) : Meth K (clsOf K k) "after" (He.ma K (He.ga K "Deed") "after") := by
  unfold clsOf
  split
  · exact T.m_Make_after
  · split
    · exact T.m_End_after
    · exact T.m_Change_after
theorem nname_ok {K : PySem.W.Frag} {mg : Str → Option Value} (T : Tx K mg) (k : Str) : NoAttr K (clsOf K k) "name" := by
  unfold clsOf; split; exact T.n_Make_name; split; exact T.n_End_name; exact T.n_Change_name
theorem nmoves_ok {K : PySem.W.Frag} {mg : Str → Option Value} (T : Tx K mg) (k : Str) : NoAttr K (clsOf K k) "moves" := by
  unfold clsOf; split; exact T.n_Make_moves; split; exact T.n_End_moves; exact T.n_Change_moves
theorem ncolumns_ok {K : PySem.W.Frag} {mg : Str → Option Value} (T : Tx K mg) (k : Str) : NoAttr K (clsOf K k) "columns" := by
  unfold clsOf; split; exact T.n_Make_columns; split; exact T.n_End_columns; exact T.n_Change_columns
theorem nnote_ok {K : PySem.W.Frag} {mg : Str → Option Value} (T : Tx K mg) (k : Str) : NoAttr K (clsOf K k) "note" := by
  unfold clsOf; split; exact T.n_Make_note; split; exact T.n_End_note; exact T.n_Change_note
def stOf : Row → Str
  | none => ""
  | some r => r.1
def DataD.find (b : DataD) (n : Str) : Option DeedD := b.deeds.find? fun d => decide (d.name = n)
def DeedD.next (d : DeedD) (s : Str) : Option Str := (d.moves.find? fun m => decide (m.1 = s)).map (·.2)
def DataD.wr (b : DataD) (d : DeedD) : List Str := if d.kind = "make" then b.cols else d.own
theorem find_ix {α : Type} {p : α → Bool} {l : List α} {d : α} (h : l.find? p = some d) : ∃ j, l[j]? = some d ∧ p d = true ∧ ∀ (m : Nat) (x : α), m < j → l[m]? = some x → p x = false := by
  induction l with
  | nil => cases h
  | cons a l ih =>
    cases e : p a with
    | true =>
      have : a = d := by simpa [List.find?, e] using h
      subst this
      exact ⟨0, rfl, e, fun m x hm _ => absurd hm (Nat.not_lt_zero m)⟩
    | false =>
      obtain ⟨j, h1, h2, h3⟩ := ih (by simpa [List.find?, e] using h)
      refine ⟨j + 1, by simpa using h1, h2, fun m x hm hx => ?_⟩
      cases m with
      | zero => simp at hx; subst hx; exact e
      | succ m => exact h3 m x (by omega) (by simpa using hx)
section
variable {P : Program} {w : World} {K : PySem.W.Frag}
      {mg : Str → Option Value} {base : Heap}
theorem rowGet {H : Hp} {a : Addr} {r : Str × Cols} (h : H a = some (.dK (rowKV r))) (k : Str) : DGet H a (.str k) (valV (rowKV r) (.inr k)) := .inl ⟨_, .inr k, .inl h, rfl, rfl⟩
theorem wGet {H : Hp} {a : Addr} {r : Cols} (h : H a = some (.dK (colKV r))) (k : Str) : DGet H a (.str k) (valV (colKV r) (.inr k)) := .inl ⟨_, .inr k, .inl h, rfl, rfl⟩
theorem valV_state (r : Str × Cols) : valV (rowKV r) (.inr "state") = some (.str r.1) := valV_pos rfl

def r_state_of : RC := fun vs _ H Q => ∃ (v : V) (r : Row), vs = [v] ∧ IsRow H v r ∧ Q (.str (stOf r)) H
theorem ok_state_of (T : Tx K mg) : Cal P w K mg base false 1 "state_of" r_state_of := by
  refine cal_at T.d_state_of T.g_state_of sc_state_of (fun vs H Q h => by obtain ⟨_, _, rfl, _⟩ := h; rfl) (fun _ _ _ _ _ _ us hl => match us, hl with | [_], _ => rfl) fun cdv A outer s H vs Q hr _ h => ?_
  obtain ⟨v, r, rfl, hv, k⟩ := h
  refine ⟨_, (pss_one (ps_ret (pe_ifExp (pt_cmp (pc_isN (pv 0))) pe_str (pe_dget (hu_of hr) (pv 0) pe_str (fun _ _ => rfl))))), ?_⟩
  cases r with
  | none =>
    obtain rfl : v = .non := hv
    exact ⟨_, rfl, true, rfl, k⟩
  | some r =>
    obtain ⟨a, rfl, ha⟩ := hv
    refine ⟨_, rfl, false, rfl, _, rfl, a, _, rfl, rowGet ha "state", k⟩

def r_copy_row : RC := fun vs _ H Q => ∃ (v : V) (r : Row), vs = [v] ∧ IsRow H v r ∧ ∀ v' H', Same H H' → IsRow H' v' r → Q v' H'
theorem ok_copy_row (T : Tx K mg) : Cal P w K mg base false 1 "copy_row" r_copy_row := by
  refine cal_at T.d_copy_row T.g_copy_row sc_copy_row (fun vs H Q h => by obtain ⟨_, _, rfl, _⟩ := h; rfl) (fun _ _ _ _ _ _ us hl => match us, hl with | [_], _ => rfl) fun cdv A outer s H vs Q hr _ h => ?_
  obtain ⟨v, r, rfl, hv, k⟩ := h
  refine ⟨_, (pss_one (ps_ret (pe_ifExp (pt_cmp (pc_isN (pv 0))) pe_non (pe_callTy call_dictD rfl T.f_dict boot_dict (pa_cons (pv 0) pa_nil))))), ?_⟩
  cases r with
  | none =>
    obtain rfl : v = .non := hv
    exact ⟨_, rfl, true, rfl, k _ _ (Same.refl H) rfl⟩
  | some r =>
    obtain ⟨a, rfl, ha⟩ := hv
    exact ⟨_, rfl, false, rfl, _, rfl, a, _, rfl, .inl ha, fun p hp => k _ _ (Same.new hp) ⟨p, rfl, upd_same⟩⟩

theorem bk_cols {H : Hp} {v : V} {b : DataD} (T : Tx K mg) (h : IsBook K H v b) : ∃ a dx fs c p, v = .ref a ∧ H a = some (.ins (He.ga K "Book") dx fs) ∧ fs.lookup ("columns" : Str) = some c ∧ c = .ref p ∧ SqT K H p (b.cols.map V.str) := by
  obtain ⟨a, dx, c, s, d, n, e, q, ⟨p, e2, t⟩, _, _⟩ := h
  exact ⟨a, dx, _, c, p, e, q, rfl, e2, t⟩
def r_is_target (K : PySem.W.Frag) : RC := fun vs _ H Q => ∃ (v : V) (b : DataD) (t : Str), vs = [v, .str t] ∧ IsBook K H v b ∧ (t ∈ b.cols ∨ t = "state" ∨ t = "row" ∨ t = "deed") ∧ ∀ H', Same H H' → Q (.bl true) H'
theorem ok_is_target (T : Tx K mg) : Cal P w K mg base false 1 "is_target" (r_is_target K) := by
  refine cal_at T.d_is_target T.g_is_target sc_is_target (fun vs H Q h => by obtain ⟨_, _, _, rfl, _⟩ := h; rfl) (fun _ _ _ _ _ _ us hl => match us, hl with | [_, _], _ => rfl) fun cdv A outer s H vs Q hr _ h => ?_
  obtain ⟨v, b, t, rfl, hb, ht, k⟩ := h
  refine ⟨_, (pss_one (ps_ret (pe_and (pe_callB call_isi rfl T.f_isinstance boot_isinstance (pa_cons (pv 1) (pa_cons (pe_ty T.f_str boot_str rfl) pa_nil))) (pe_one (pe_or (pe_cmpR op_in_seq (pv 1) (pe_fld (pv 0) rfl) rfl) (pe_one (pe_cmpR op_in_seq (pv 1) (pe_tup (pa_cons pe_str (pa_cons pe_str (pa_cons pe_str pa_nil)))) rfl))))))), ?_⟩
  obtain ⟨a, dx, fs, c, p, rfl, ha, hl, rfl, hp⟩ := bk_cols T hb
  refine ⟨_, rfl, _, _, _, _, true, rfl, .ty _, .base (.str t), kit_ty (by decide +kernel), true, rfl, ?_⟩
  refine ⟨_, rfl, _, rfl, a, _, dx, fs, _, rfl, ha, T.c_Book, T.n_Book_columns, hl, p, _, rfl, .inr hp, rfl, flat_strs _, inV (.str t) (b.cols.map V.str), rfl, ?_⟩
  rw [inV_strs]
  by_cases hm : t ∈ b.cols
  · rw [decide_eq_true hm]
    exact k H (Same.refl H)
  · rw [decide_eq_false hm]
    refine ⟨_, rfl, by decide, fun q hq => ⟨q, _, rfl, .inr (SqT.of upd_same), rfl, rfl, ?_⟩⟩
    have e : inV (.str t) [.str "state", .str "row", .str "deed"] = true := by
      have z := inV_strs t ["state", "row", "deed"]
      rw [show (["state", "row", "deed"] : List Str).map V.str = [.str "state", .str "row", .str "deed"] from rfl] at z
      rw [z]
      exact decide_eq_true (by rcases ht with h | h | h | h; exact absurd h hm; all_goals (subst h; decide))
    show Q (.bl (inV (.str t) [.str "state", .str "row", .str "deed"])) _
    rw [e]
    exact k _ (Same.new hq)

def r_check_target (K : PySem.W.Frag) : RC := fun vs _ H Q => ∃ (v : V) (b : DataD) (t : Str), vs = [v, .str t] ∧ IsBook K H v b ∧ (t ∈ b.cols ∨ t = "state" ∨ t = "row" ∨ t = "deed") ∧ ∀ H', Same H H' → Q .non H'
theorem ok_check_target (T : Tx K mg) : Cal P w K mg base false 2 "check_target" (r_check_target K) := by
  refine cal_at T.d_check_target T.g_check_target sc_check_target (fun vs H Q h => by obtain ⟨_, _, _, rfl, _⟩ := h; rfl) (fun _ _ _ _ _ _ us hl => match us, hl with | [_, _], _ => rfl) fun cdv A outer s H vs Q hr _ h => ?_
  have G_is_target := ok_is_target (P := P) (w := w) (base := base) T
  obtain ⟨v, b, t, rfl, hb, ht, k⟩ := h
  refine ⟨_, (pss_one (ps_if (pt_not (pt_val (pe_cl G_is_target hr (by decide) Gd.no rfl (pa_cons (pv 0) (pa_cons (pv 1) pa_nil))))) pss_never pss_nil)), ?_⟩
  exact ⟨_, rfl, _, rfl, v, b, t, rfl, hb, ht, fun H' sm => ⟨true, rfl, k H' sm⟩⟩

def r_check_column (K : PySem.W.Frag) : RC := fun vs _ H Q => ∃ (v : V) (b : DataD) (t : Str), vs = [v, .str t] ∧ IsBook K H v b ∧ t ∈ b.cols ∧ Q .non H
theorem ok_check_column (T : Tx K mg) : Cal P w K mg base false 1 "check_column" (r_check_column K) := by
  refine cal_at T.d_check_column T.g_check_column sc_check_column (fun vs H Q h => by obtain ⟨_, _, _, rfl, _⟩ := h; rfl) (fun _ _ _ _ _ _ us hl => match us, hl with | [_, _], _ => rfl) fun cdv A outer s H vs Q hr _ h => ?_
  obtain ⟨v, b, t, rfl, hb, ht, k⟩ := h
  refine ⟨_, (pss_one (ps_if (PW.pt (pw_or (pt_not (pt_val (pe_callB call_isi rfl T.f_isinstance boot_isinstance (pa_cons (pv 1) (pa_cons (pe_ty T.f_str boot_str rfl) pa_nil))))) (pw_or1 (pt_cmpR op_notIn_seq (pv 1) (pe_fld (pv 0) rfl) rfl)))) pss_never pss_nil)), ?_⟩
  obtain ⟨a, dx, fs, c, p, rfl, ha, hl, rfl, hp⟩ := bk_cols T hb
  refine ⟨_, rfl, _, _, _, _, true, rfl, .ty _, .base (.str t), kit_ty (by decide +kernel), true, rfl, ?_⟩
  refine ⟨_, rfl, _, rfl, a, _, dx, fs, _, rfl, ha, T.c_Book, T.n_Book_columns, hl, p, _, rfl, .inr hp, rfl, flat_strs _, !inV (.str t) (b.cols.map V.str), rfl, ?_⟩
  rw [inV_strs, decide_eq_true ht]
  exact k

/-! ### books -/
theorem bk_deeds {H : Hp} {v : V} {b : DataD} (h : IsBook K H v b) : ∃ a dx fs p xs, v = .ref a ∧ H a = some (.ins (He.ga K "Book") dx fs) ∧ fs.lookup ("deeds" : Str) = some (.ref p) ∧ H p = some (.lst xs) ∧ Paired (IsDeed K H) xs b.deeds := by
  obtain ⟨a, dx, c, s, d, n, e, q, _, ⟨p, xs, e2, t, pr⟩, _⟩ := h
  subst e2
  exact ⟨a, dx, _, p, xs, e, q, rfl, t, pr⟩
theorem deed_name {H : Hp} {v : V} {d : DeedD} (h : IsDeed K H v d) : ∃ a dx fs, v = .ref a ∧ H a = some (.ins (clsOf K d.kind) dx fs) ∧ fs.lookup ("name" : Str) = some (.str d.name) := by
  obtain ⟨a, dx, m, c, z, e, q, _⟩ := h
  exact ⟨a, dx, _, e, q, rfl⟩
def r_getitem (K : PySem.W.Frag) : RC := fun vs _ H Q => ∃ (v : V) (b : DataD) (n : Str) (d : DeedD), vs = [v, .str n] ∧ IsBook K H v b ∧ b.find n = some d ∧ ∀ v', IsDeed K H v' d → Q v' H
theorem ok_getitem (T : Tx K mg) : CallP P w K mg base false 1 (He.ma K (He.ga K "Book") "__getitem__") [] (r_getitem K) := by
  refine call_at T.d_Booku_getitemu sc_Booku_getitemu (n := 2) rfl (fun vs zs H Q h => by obtain ⟨_, _, _, _, rfl, _⟩ := h; rfl) (fun _ _ _ _ _ _ us ws hl hw => match us, hl, ws, hw with | [_, _], _, [], _ => rfl) fun cdv A outer s H vs zs Q hr _ hz h => ?_
  obtain ⟨v, b, n, d, rfl, hb, hf, k⟩ := h
  obtain rfl : zs = [] := List.length_eq_zero_iff.mp hz
  refine ⟨_, (pss_cons (ps_for PassesOwn.never rfl (pi_list (pe_fld (pv 0) rfl)) (pg_name (i := 2) sc_Booku_getitemu.nd rfl (Or.inl rfl)) (pss_one (ps_if (PW.pt (pw_and (pt_val (pe_callB call_isi rfl T.f_isinstance boot_isinstance (pa_cons (pv 1) (pa_cons (pe_ty T.f_str boot_str rfl) pa_nil)))) (pw_and1 (pt_cmpR op_eq (pe_fld (pv 2) rfl) (pv 1) (nomark _))))) (pss_one (ps_ret (pv 2))) pss_nil)))
    (pss_one ps_never)), ?_⟩
  obtain ⟨a, dx, fs, p, xs, rfl, ha, hl, hp, pr⟩ := bk_deeds hb
  obtain ⟨j, hj, hjn, hbf⟩ := find_ix hf
  have hjl : j < xs.length := by
    have := (List.getElem?_eq_some_iff.mp hj).1
    rw [paired_len pr]
    exact this
  refine ⟨_, rfl, a, _, dx, fs, _, rfl, ha, T.c_Book, T.n_Book_deeds, hl, p, rfl, ⟨_, SqL.of hp⟩, for_list (xs := xs) (fun i σ H' => H' = H ∧ i ≤ j ∧ ∃ x, σ = [some (.ref a), some (.str n), x]) ⟨rfl, Nat.zero_le _, _, rfl⟩ (fun i σ H' _ q => by rw [q.1]; exact SqL.of hp) (fun i x σ H' hx q => ?_) (fun σ H' q => absurd hjl (Nat.not_lt.mpr q.2.1))⟩
  obtain ⟨rfl, hij, x1, rfl⟩ := q
  obtain ⟨d', hd', hid⟩ := paired_at pr hx
  obtain ⟨a', dx', fs', rfl, ha', hl'⟩ := deed_name hid
  refine ⟨_, rfl, _, _, _, _, true, rfl, .ty _, .base (.str n), kit_ty (by decide +kernel), true, rfl, ?_⟩
  refine ⟨_, rfl, a', _, dx', fs', _, rfl, ha', cls_ok T _, nname_ok T _, hl', _, rfl, rfl, decide (V.str d'.name = V.str n), rfl, ?_⟩
  by_cases e : i = j
  · subst e
    rw [hj] at hd'
    cases hd'
    have e2 : d.name = n := of_decide_eq_true hjn
    rw [e2, decide_eq_true rfl]
    exact ⟨_, rfl, k _ hid⟩
  · have hf' := hbf i d' (by omega) hd'
    have e2 : ¬ d'.name = n := of_decide_eq_false hf'
    rw [decide_eq_false (by intro z; cases z; exact e2 rfl)]
    exact ⟨rfl, by omega, _, rfl⟩
def r_contains (K : PySem.W.Frag) : RC := fun vs _ H Q => ∃ (v : V) (b : DataD) (n : Str), vs = [v, .str n] ∧ IsBook K H v b ∧ n ∈ b.deeds.map (·.name) ∧ Q (.bl true) H
theorem ok_contains (T : Tx K mg) : CallP P w K mg base false 1 (He.ma K (He.ga K "Book") "__contains__") [] (r_contains K) := by
  refine call_at T.d_Booku_containsu sc_Booku_containsu (n := 2) rfl (fun vs zs H Q h => by obtain ⟨_, _, _, rfl, _⟩ := h; rfl) (fun _ _ _ _ _ _ us ws hl hw => match us, hl, ws, hw with | [_, _], _, [], _ => rfl) fun cdv A outer s H vs zs Q hr _ hz h => ?_
  obtain ⟨v, b, n, rfl, hb, hm, k⟩ := h
  obtain rfl : zs = [] := List.length_eq_zero_iff.mp hz
  refine ⟨_, (pss_one (ps_ret (pe_and (pe_callB call_isi rfl T.f_isinstance boot_isinstance (pa_cons (pv 1) (pa_cons (pe_ty T.f_str boot_str rfl) pa_nil))) (pe_one (pe_cmpR op_in_seq (pv 1) (pe_fld (pv 0) rfl) rfl))))), ?_⟩
  obtain ⟨a, dx, c, s', d, nn, rfl, ha, _, _, ⟨p, rfl, hp⟩⟩ := hb
  refine ⟨_, rfl, _, _, _, _, true, rfl, .ty _, .base (.str n), kit_ty (by decide +kernel), true, rfl, ?_⟩
  refine ⟨_, rfl, _, rfl, a, _, dx, _, _, rfl, ha, T.c_Book, T.n_Book_names, rfl, p, _, rfl, .inr hp, rfl, flat_strs _, ?_⟩
  show Q (.bl (inV (.str n) _)) H
  rw [inV_strs, decide_eq_true hm]
  exact k
def r_writes (K : PySem.W.Frag) : RC := fun vs _ H Q => ∃ (v : V) (b : DataD) (n : Str) (d : DeedD), vs = [v, .str n] ∧ IsBook K H v b ∧ b.find n = some d ∧ ∀ v', IsTS K H v' (b.wr d) → Q v' H
theorem ok_writes (T : Tx K mg) (Z : Tz K) : CallP P w K mg base false 3 (He.ma K (He.ga K "Book") "writes") [] (r_writes K) := by
  refine call_at T.d_Book_writes sc_Book_writes (n := 2) rfl (fun vs zs H Q h => by obtain ⟨_, _, _, _, rfl, _⟩ := h; rfl) (fun _ _ _ _ _ _ us ws hl hw => match us, hl, ws, hw with | [_, _], _, [], _ => rfl) fun cdv A outer s H vs zs Q hr _ hz h => ?_
  have G := ok_getitem (P := P) (w := w) (base := base) T
  obtain ⟨v, b, n, d, rfl, hb, hf, k⟩ := h
  obtain rfl : zs = [] := List.length_eq_zero_iff.mp hz
  refine ⟨_, (pss_cons (ps_set (i := 2) sc_Book_writes.nd rfl (Or.inl rfl) (pe_ixO G (hr.mono (by decide)) Gd.no T.m_Book_ugetitemu Z.fi_getitem (pv 0) (pv 1)))
    (pss_one (ps_ret (pe_ifExp (pt_val (pe_callB call_isi rfl T.f_isinstance boot_isinstance (pa_cons (pv 2) (pa_cons (pe_go T.g_Make rfl) pa_nil)))) (pe_fld (pv 0) rfl) (pe_fld (pv 2) rfl))))), ?_⟩
  have hb0 := hb
  obtain ⟨a, dx, c, s', dd, nn, rfl, ha, hc, _, _⟩ := hb
  refine ⟨_, rfl, _, rfl, a, dx, _, rfl, ha, _, _, n, d, rfl, hb0, hf, fun v' hv' => ?_⟩
  obtain ⟨a', dx', m', c', z', rfl, ha', _, hc', _⟩ := hv'
  refine ⟨_, rfl, _, _, _, _, decide (d.kind = "make"), rfl,   .own _, ty_ins ha' (cls_ok T _) (ins_ok Z _), kit_make Z d.kind, _, rfl, ?_⟩
  by_cases e : d.kind = "make"
  · rw [decide_eq_true e]
    refine ⟨_, rfl, a, _, dx, _, _, rfl, ha, T.c_Book, T.n_Book_columns, rfl, k _ ?_⟩
    show IsTS K H c (b.wr d)
    unfold DataD.wr
    rw [if_pos e]
    exact hc
  · rw [decide_eq_false e]
    refine ⟨_, rfl, a', _, dx', _, _, rfl, ha', cls_ok T _, ncolumns_ok T _, rfl, k _ ?_⟩
    show IsTS K H c' (b.wr d)
    unfold DataD.wr
    rw [if_neg e]
    exact hc'
/-! ### deeds -/
def r_after (K : PySem.W.Frag) : RC := fun vs _ H Q => ∃ (v : V) (d : DeedD) (s t : Str), vs = [v, .str s] ∧ IsDeed K H v d ∧ d.next s = some t ∧ Q (.str t) H
theorem ok_after (T : Tx K mg) : CallP P w K mg base false 1 (He.ma K (He.ga K "Deed") "after") [] (r_after K) := by
  refine call_at T.d_Deed_after sc_Deed_after (n := 2) rfl (fun vs zs H Q h => by obtain ⟨_, _, _, _, rfl, _⟩ := h; rfl) (fun _ _ _ _ _ _ us ws hl hw => match us, hl, ws, hw with | [_, _], _, [], _ => rfl) fun cdv A outer s H vs zs Q hr _ hz h => ?_
  obtain ⟨v, d, n, t, rfl, hd, hf, k⟩ := h
  obtain rfl : zs = [] := List.length_eq_zero_iff.mp hz
  refine ⟨_, (pss_cons (ps_for PassesOwn.never rfl (pi_tup (pe_fld (pv 0) rfl)) (pg_tup rfl (pgs_cons (pg_name (i := 2) sc_Deed_after.nd rfl (Or.inl rfl)) (pgs_cons (pg_name (i := 3) sc_Deed_after.nd rfl (Or.inl rfl)) pgs_nil))) (pss_one (ps_if (PW.pt (pw_and (pt_val (pe_callB call_isi rfl T.f_isinstance boot_isinstance (pa_cons (pv 1) (pa_cons (pe_ty T.f_str boot_str rfl) pa_nil)))) (pw_and1 (pt_cmpR op_eq (pv 2) (pv 1) (nomark _))))) (pss_one (ps_ret (pv 3))) pss_nil)))
    (pss_one ps_never)), ?_⟩
  obtain ⟨a, dx, m, c, z, rfl, ha, ⟨p, xs, rfl, hp, pr⟩, _, _⟩ := hd
  unfold DeedD.next at hf
  cases hfind : d.moves.find? (fun m => decide (m.1 = n)) with
  | none => rw [hfind] at hf; cases hf
  | some mv =>
    rw [hfind] at hf
    obtain ⟨j, hj, hjn, hbf⟩ := find_ix hfind
    have hjl : j < xs.length := by
      have := (List.getElem?_eq_some_iff.mp hj).1
      rw [paired_len pr]
      exact this
    refine ⟨_, rfl, a, _, dx, _, _, rfl, ha, cls_ok T _, nmoves_ok T _, rfl, p, rfl, ⟨_, hp⟩, for_tup (xs := xs) (fun i σ H' => H' = H ∧ i ≤ j ∧ ∃ x y, σ = [some (.ref a), some (.str n), x, y]) ⟨rfl, Nat.zero_le _, _, _, rfl⟩ (fun i σ H' _ q => by rw [q.1]; exact hp) (fun i x σ H' hx q => ?_) (fun σ H' q => absurd hjl (Nat.not_lt.mpr q.2.1))⟩
    obtain ⟨rfl, hij, x1, x2, rfl⟩ := q
    obtain ⟨mm, hd', ⟨b, rfl, hb⟩⟩ := paired_at pr hx
    refine ⟨b, _, rfl, SqT.of hb, rfl, _, _, rfl, _, _, rfl, rfl, ?_⟩
    refine ⟨_, rfl, _, _, _, _, true, rfl, .ty _, .base (.str n), kit_ty (by decide +kernel), true, rfl, ?_⟩
    refine ⟨_, rfl, _, rfl, rfl, decide (V.str mm.1 = V.str n), rfl, ?_⟩
    by_cases e : i = j
    · subst e
      rw [hj] at hd'
      cases hd'
      have e2 : mv.1 = n := of_decide_eq_true hjn
      rw [e2, decide_eq_true rfl]
      have e3 : mv.2 = t := by simpa using hf
      rw [← e3] at k
      exact ⟨_, rfl, k⟩
    · have hf' := hbf i mm (by omega) hd'
      have e2 : ¬ mm.1 = n := of_decide_eq_false hf'
      rw [decide_eq_false (by intro z; cases z; exact e2 rfl)]
      exact ⟨rfl, by omega, _, _, rfl⟩
end
end Pn

-- PnE3
set_option
      maxHeartbeats 4000000
namespace Pn
open PySem PySem.Spec L2 PyProof.Rows StX ClX
/-! ### plain -/
def colGet (w : Cols) (c : Str) : Option Int := (w.find? fun p => decide (p.1 = c)).map (·.2)
theorem valV_col (w : Cols) (c : Str) : valV (colKV w) (.inr c) = (colGet w c).map V.int := by
  induction w with
  | nil => rfl
  | cons p w ih =>
    by_cases e : p.1 = c
    · have h1 : valV (colKV (p :: w)) (.inr c) = some (.int p.2) := valV_pos (congrArg Sum.inr e)
      have h2 : colGet (p :: w) c = some p.2 := by unfold colGet; rw [List.find?_cons_of_pos (by simpa using e)]; rfl
      rw [h1, h2]; rfl
    · have h1 : valV (colKV (p :: w)) (.inr c) = valV (colKV w) (.inr c) := valV_neg (fun z => e (by cases z; rfl))
      have h2 : colGet (p :: w) c = colGet w c := by unfold colGet; rw [List.find?_cons_of_neg (by simpa using e)]
      rw [h1, h2, ih]
theorem valV_row (r : Str × Cols) (c : Str) (h : c ≠ "state") : valV (rowKV r) (.inr c) = (colGet r.2 c).map V.int := by
  unfold rowKV
  rw [valV_neg (fun z => h (by cases z; rfl)), valV_col]
theorem colGet_some {w : Cols} {c : Str} (h : c ∈ w.map (·.1)) : ∃ i, colGet w c = some i := by
  obtain ⟨p, hp, e⟩ :=
        List.mem_map.mp h
  unfold colGet
  cases q : w.find? (fun p => decide (p.1 = c)) with
  | none =>
    have := List.find?_eq_none.mp q p hp
    exact absurd e (by simpa using this)
  | some p => exact ⟨p.2, rfl⟩
def WOk (cs : List Str) (w : Cols) : Prop := w.length = cs.length ∧ ∀ c ∈ cs, ∃ i, colGet w c = some i ∧ ValOk i
def newVal (row : Row) (w : Cols) (c : Str) : Int := match colGet w c with
  | some i => i
  | none => match row with
    | some r => (colGet r.2 c).getD 0
    | none => 0
def newRow (b : DataD) (row : Row) (w : Cols) (t : Str) : Str × Cols := (t, b.cols.map fun c => (c, newVal row w c))
def rowStep (b : DataD) (row : Row) : Step → Row
  | none => row
  | some (n, w) => match (b.find n).bind fun d => d.next (stOf row) with
    | none => none
    | some t => if t = "" then none else some (newRow b row w t)
def pairsOf (words : List Str) : Row → List (Str × V)
  | none => []
  | some r => words.map fun c => (c, (valV (rowKV r) (.inr c)).getD .non)
def noteEntry (n : NoteD) (name : Str) (before after : Row) : Option (Str × List (Str × V) × List (Str × V)) :=
  if (n.changed && rowEq before after) = true then none else some (if n.named = true then name else "", pairsOf n.old before, pairsOf n.new after)
def entryOf (b : DataD) (n : Str) (i : Int) (before after : Row) : Option EntryD := match (b.find n).bind (·.note) with
  | none => none
  | some nt => (noteEntry nt n before after).map fun e => ⟨i, e.1, e.2.1, e.2.2⟩
def stepEntry (b : DataD) (i : Int) (row : Row) : Step → List EntryD
  | none => []
  | some (n, w) => (entryOf b n i row (rowStep b row (some (n, w)))).toList
def stepAt (ss : List Step) (i : Nat) : Step := (ss[i]?).getD none
def rowAt (b : DataD) (ss : List Step) : Nat → Row
  | 0 => none
  | i + 1 => rowStep b (rowAt b ss i) (stepAt ss i)
def notedTo (b : DataD) (ss : List Step) (n : Nat) : List EntryD := ((List.range n).map fun i : Nat => stepEntry b ((i : Int) + 1) (rowAt b ss i) (stepAt ss i)).flatten
def standTo (b : DataD) (ss : List Step) (n : Nat) : List Row := (List.range (n + 1)).map (rowAt b ss)
structure BkOk (b : DataD) : Prop where
  nd : b.cols.Nodup
  st : ("state" : Str) ∉ b.cols
  few : b.cols.length ≤ 3
  words : ∀ d ∈ b.deeds, ∀ n, d.note = some n → (∀ c ∈ n.old, c = "state" ∨ c ∈ b.cols) ∧ (∀ c ∈ n.new, c = "state" ∨ c ∈ b.cols) ∧ n.old.length ≤ 4 ∧ n.new.length ≤ 4
  own : ∀ d ∈ b.deeds, d.own.length ≤ 3
def StepOk (b : DataD) (row : Row) : Step → Prop
  | none => True
  | some (n, w) => ∃ d t, b.find n = some d ∧ d.next (stOf row) = some t ∧ WOk (b.wr d) w ∧ (row = none → d.kind = "make")
def StepsOk (b : DataD) (ss : List Step) : Prop := ∀ i, i < ss.length → StepOk b (rowAt b ss i) (stepAt ss i)
/-- a row of the book: all its columns, in their order -/
def RowOk (b : DataD) : Row → Prop
  | none => True
  | some r => r.2.map (·.1) = b.cols
theorem rowStep_ok {b : DataD} {row : Row} {s : Step} (h : RowOk b row) : RowOk b (rowStep b row s) := by
  cases s with
  | none => exact h
  | some p =>
    obtain ⟨n, w⟩ := p
    show RowOk b (match (b.find n).bind (fun d => d.next (stOf row)) with | none => none | some t => if t = "" then none else some (newRow b row w t))
    generalize (b.find n).bind (fun d => d.next (stOf row)) = o
    cases o with
    | none => exact True.intro
    | some t =>
      show RowOk b (if t = "" then none else some (newRow b row w t))
      split
      · exact True.intro
      · show (b.cols.map fun c => (c, newVal row w c)).map (·.1) = b.cols
        rw [List.map_map]
        show b.cols.map (fun c => c) = _
        simp
theorem rowAt_ok (b : DataD) (ss : List Step) : ∀ i, RowOk b (rowAt b ss i)
  | 0 => True.intro
  | i + 1 => rowStep_ok (rowAt_ok b ss i)
theorem row_word {b : DataD} {r : Str × Cols} (h : RowOk b (some r)) {c : Str} (hc : c = "state" ∨ c ∈ b.cols) : ∃ v, valV (rowKV r) (.inr c) = some v := by
  by_cases e : c = "state"
  · subst e; exact ⟨_, valV_state r⟩
  · rcases hc with hc | hc
    · exact absurd hc e
    · rw [valV_row r c e]
      obtain ⟨i, hi⟩ := colGet_some (w := r.2) (c := c) (by rw [show r.2.map (·.1) = b.cols from h]; exact hc)
      rw [hi]
      exact ⟨_, rfl⟩
/-! ### all but the lists stays -/
def NL (H H' : Hp) : Prop := ∀ a o, H a = some o → (match o with | .lst _ => False | .tbl _ => False | _ => True) → H' a = some o
theorem NL.refl (H : Hp) : NL H H := fun _ _ h _ => h
theorem NL.trans {H H1 H2 : Hp} (a : NL H H1) (b : NL H1 H2) : NL H H2 := fun c o h n => b c o (a c o h n) n
theorem NL.of {H H' : Hp} (s : Same H H') : NL H H' := fun a o h _ => s a o h
theorem NL.keep {H H' : Hp} (s : Keep H H') : NL H H' := fun a o h n => s.st a o h fun i j e => by subst e; exact n
theorem NL.mut {H : Hp} {p : Addr} {xs : List V} {o : HO} (h : H p = some (.lst xs)) : NL H (upd H p o) := fun a u e n => by
  by_cases q : a = p
  · subst q
    rw [h] at e
    cases e
    exact n.elim
  · rw [upd_ne q]; exact e
theorem same_mut {H H' : Hp} {p : Addr} {o : HO} (s : Same H H') (h : H p = none) : Same H (upd H' p o) := fun a u e => by
  have : a ≠ p := ne_of_none e h
  rw [upd_ne this]
  exact s a u e
theorem IsRow.nl {H H' : Hp} {v : V} {r : Row} (h : IsRow H v r) (c : NL H H') : IsRow H' v r := by
  cases r with
  | none => exact h
  | some r => obtain ⟨a, e, q⟩ := h; exact ⟨a, e, c a _ q True.intro⟩
theorem IsStep.nl {H H' : Hp} {v : V} {r : Step} (h : IsStep H v r) (c : NL H H') : IsStep H' v r := by
  cases r with
  | none => exact h
  | some r => obtain ⟨a, x, e, q, ⟨a2, e2, q2⟩⟩ := h; exact ⟨a, x, e, c a _ q True.intro, a2, e2, c a2 _ q2 True.intro⟩
theorem SqT.nl {K : PySem.W.Frag} {H H' : Hp} {a : Addr} {xs : List V} (h : SqT K H a xs) (c : NL H H') : SqT K H' a xs := by
  rcases h with (h | ⟨o,
        h⟩) | h
  · exact .inl (.inl (c _ _ h True.intro))
  · exact .inl (.inr ⟨o, c _ _ h True.intro⟩)
  · exact .inr h
theorem paired_imp {α β : Type} {F G : α → β → Prop} (h : ∀ x y, F x y → G x y) : ∀ {xs : List α} {ys : List β}, Paired F xs ys → Paired G xs ys
  | _, _, .nil => .nil
  | _, _, .cons a t => .cons (h _ _ a) (paired_imp h t)
theorem IsPairs.nl {K : PySem.W.Frag} {H H' : Hp} {v : V} {l : List (Str × V)} (h : TOf K IsPair H v l) (c : NL H H') : TOf K IsPair H' v l := by
  obtain ⟨a, xs, e, q, p⟩ := h
  exact ⟨a, xs, e, SqT.nl q c, paired_imp (fun x y ⟨b, e, z⟩ => ⟨b, e, c b _ z True.intro⟩) p⟩
theorem IsEntry.nl {K : PySem.W.Frag} {H H' : Hp} {v : V} {e : EntryD} (h : IsEntry K H v e) (c : NL H H') : IsEntry K H' v e := by
  obtain ⟨a, x, y, rfl, q, p1, p2⟩ := h
  exact ⟨a, x, y, rfl, c a _ q True.intro, IsPairs.nl p1 c, IsPairs.nl p2 c⟩
section
variable {P : Program} {w : World} {K : PySem.W.Frag}
      {mg : Str → Option Value} {base : Heap}

/-! ### pairs, a note's entry -/
def r_pairs_of (K : PySem.W.Frag) : RC := fun vs _ H Q => ∃ (x y : V) (words : List Str) (r : Row), vs = [x, y] ∧ IsTS K H x words ∧ IsRow H y r ∧ words.length ≤ 100 ∧ (∀ q, r = some q → ∀ c ∈ words, ∃ v, valV (rowKV q) (.inr c) = some v) ∧ ∀ v' H', Same H H' → TOf K IsPair H' v' (pairsOf words r) → Q v' H'
theorem strs_ix {ss : List Str} {i : Nat} {x : V} (hx : (ss.map V.str)[i]? = some x) : ∃ z, ss[i]? = some z ∧ x = .str z := by
  rw [List.getElem?_map] at hx
  cases q : ss[i]? with
  | none => rw [q] at hx; cases hx
  | some z => rw [q] at hx; cases hx; exact ⟨z, rfl, rfl⟩
theorem take_snoc {α : Type} {l : List α} {i : Nat} {x : α} (h : l[i]? = some x) : l.take (i + 1) = l.take i ++ [x] := by
  rw [List.take_add_one, h]; rfl
theorem ok_pairs_of (T : Tx K mg) : Cal P w K mg base false 1 "pairs_of" (r_pairs_of K) := by
  refine cal_at T.d_pairs_of T.g_pairs_of sc_pairs_of (fun vs H Q h => by obtain ⟨_, _, _, _, rfl, _⟩ := h; rfl) (fun _ _ _ _ _ _ us hl => match us, hl with | [_, _], _ => rfl) fun cdv A outer s H vs Q hr _ h => ?_
  obtain ⟨x, y, words, r, rfl, hx, hy, hw, hin, k⟩ := h
  refine ⟨_, (pss_cons (ps_if (pt_cmp (pc_isN (pv 1))) (pss_one (ps_ret (pe_tup pa_nil))) pss_nil)
    (pss_cons (ps_for PassesOwn.never rfl (pi_tup (pv 0)) (pg_name (i := 2) sc_pairs_of.nd rfl (Or.inl rfl)) (pss_one (ps_if (pt_cmp (pc_dnotin (hu_of hr) (pv 2) (pv 1))) pss_never pss_nil)))
    (pss_one (ps_ret (pe_callTy call_tuple_of rfl T.f_tuple boot_tuple (pa_cons (pe_lc (own := [("word", 2)]) rfl sc_pairs_of.nd (pi_tup (pv 0)) (blkOk_by rfl) (fun _ _ _ _ _ => pg_name (i := 2) sc_pairs_of.nd rfl (Or.inl rfl)) (fun _ _ _ _ _ => pts_nil) (fun _ _ _ _ _ => (pe_tup (pa_cons (pv 2) (pa_cons (pe_dget (hu_of hr) (pv 1) (pv 2) (fun _ _ => rfl)) pa_nil))))) pa_nil)))))), ?_⟩
  cases r with
  | none =>
    obtain rfl : y = .non := hy
    exact ⟨_, rfl, true, rfl, by decide, fun p hp => k _ _ (Same.new hp) ⟨p, [], rfl, SqT.of upd_same, .nil⟩⟩
  | some r =>
    obtain ⟨b, rfl, hb⟩ := hy
    obtain ⟨a, rfl, ha⟩ := hx
    refine ⟨_, rfl, false, rfl, ?_⟩
    refine ⟨_, rfl, a, rfl, ⟨_, ha⟩, for_tup (xs := words.map V.str) (fun i σ H' => H' = H ∧ ∃ z, σ = [some (.ref a), some (.ref b), z]) ⟨rfl, _, rfl⟩ (fun i σ H' _ q => by rw [q.1]; exact ha) (fun i x σ H' hx q => ?_) (fun σ H' q => ?_)⟩
    · obtain ⟨rfl, z, rfl⟩ := q
      obtain ⟨c, hc, rfl⟩ := strs_ix hx
      obtain ⟨v, hv⟩ := hin r rfl c (List.mem_of_getElem? hc)
      refine ⟨_, rfl, _, rfl, b, _, rfl, rowGet hb c, false, ?_, rfl, _, rfl⟩
      rw [hv]; rfl
    · obtain ⟨rfl, z, rfl⟩ := q
      refine ⟨_, rfl, a, rfl, ⟨_, ha⟩, fun D hD => lc_tup (xs := words.map V.str) (fun i H2 => Same H' H2 ∧ ∃ ys, H2 D = some (.lst ys) ∧ Paired (IsPair H2) ys ((words.take i).map fun c => (c, (valV (rowKV r) (.inr c)).getD .non))) ⟨Same.new hD, [], upd_same, .nil⟩ (fun i H2 _ q => same_tup q.1 ha) (fun i x H2 hx q => ?_) (fun H2 q => ?_)⟩
      · obtain ⟨sm, ys, hys, pr⟩ := q
        obtain ⟨c, hc, rfl⟩ := strs_ix hx
        obtain ⟨v, hv⟩ := hin r rfl c (List.mem_of_getElem? hc)
        refine ⟨rfl, _, rfl, _, rfl, _, rfl, b, v, rfl, ?_, by show 2 ≤ sizeLine; decide, fun p hp => ?_⟩
        · have := rowGet (sm _ _ hb) c
          rw [hv] at this
          exact this
        have hpD : D ≠ p := ne_of_none hys hp
        have hl : (upd H2 p (.tup [.str c, v])) D = some (.lst ys) := by rw [upd_ne hpD]; exact hys
        have nl : NL H2 (upd (upd H2 p (.tup [.str c, v])) D (.lst (ys ++ [.ref p]))) := (NL.of (Same.new hp)).trans (NL.mut hl)
        refine ⟨ys, hl, ?_, same_mut (sm.trans (Same.new hp)) hD, _, upd_same, ?_⟩
        · have : ys.length = ((words.take i).map fun c => (c, (valV (rowKV r) (.inr c)).getD .non)).length := paired_len pr
          rw [this, List.length_map, List.length_take]
          exact Nat.lt_of_le_of_lt (Nat.le_trans (Nat.min_le_right _ _) hw) (by decide)
        · rw [take_snoc hc, List.map_append]
          refine paired_snoc (paired_imp (fun x y ⟨q, e, z⟩ => ⟨q, e, nl q _ z True.intro⟩) pr) ⟨p, rfl, ?_⟩
          dsimp only
          rw [hv, upd_ne (Ne.symm hpD), upd_same]
          rfl
      · obtain ⟨sm, ys, hys, pr⟩ := q
        rw [List.length_map, List.take_length] at pr
        refine ⟨D, ys, rfl, .inl ⟨SqL.of hys, fun l hl => k _ _ (sm.trans (Same.new hl)) ⟨l, ys, rfl, SqT.of upd_same, paired_imp (fun x y ⟨q, e, z⟩ => ⟨q, e, Same.new hl q _ z⟩) pr⟩⟩⟩

theorem nt_fld {H : Hp} {v : V} {n : NoteD} (h : IsNote K H v (some n)) : ∃ a dx x y, v = .ref a ∧ H a = some (.ins (He.ga K "Note") dx [("old", x), ("new", y), ("named", .bl n.named), ("changed", .bl n.changed)]) ∧ IsTS K H x n.old ∧ IsTS K H y n.new := h
def r_check_note (K : PySem.W.Frag) : RC := fun vs _ H Q => ∃ (v : V) (n : Option NoteD), vs = [v] ∧ IsNote K H v n ∧ Q .non H
theorem ok_check_note (T : Tx K mg) (Z : Tz K) : Cal P w K mg base false 1 "check_note" (r_check_note K) := by
  refine cal_at T.d_check_note T.g_check_note sc_check_note (fun vs H Q h => by obtain ⟨_, _, rfl, _⟩ := h; rfl) (fun _ _ _ _ _ _ us hl => match us, hl with | [_], _ => rfl) fun cdv A outer s H vs Q hr _ h => ?_
  obtain ⟨v, n, rfl, hn, k⟩ := h
  refine ⟨_, (pss_one (ps_if (PW.pt (pw_and (pt_cmp (pc_notN (pv 0))) (pw_and1 (pt_not (pt_val (pe_callB call_isi rfl T.f_isinstance boot_isinstance (pa_cons (pv 0) (pa_cons (pe_go T.g_Note rfl) pa_nil)))))))) pss_never pss_nil)), ?_⟩
  cases n with
  | none =>
    obtain rfl : v = .non := hn
    exact ⟨_, rfl, false, rfl, k⟩
  | some n =>
    obtain ⟨a, dx, x, y, rfl, ha, _, _⟩ := hn
    exact ⟨_, rfl, true, rfl, _, rfl, _, _, _, _, true, rfl, .own _, ty_ins ha T.c_Note Z.o_Note, Z.q_Note_Note, true, rfl, k⟩

def IsEnt (K : PySem.W.Frag) (H : Hp) (v : V) : Option (Str × List (Str × V) × List (Str × V)) → Prop
  | none => v = .non
  | some e => ∃ a x y, v = .ref a ∧ H a = some (.tup [.str e.1, x, y]) ∧ TOf K IsPair H x e.2.1 ∧ TOf K IsPair H y e.2.2
def PairsIn (words : List Str) (r : Row) : Prop := ∀ q, r = some q → ∀ c ∈ words, ∃ v, valV (rowKV q) (.inr c) = some v
def r_entry (K : PySem.W.Frag) : RC := fun vs _ H Q => ∃ (v x y : V) (n : NoteD) (nm : Str) (r1 r2 : Row), vs = [v, .str nm, x, y] ∧ IsNote K H v (some n) ∧ IsRow H x r1 ∧ IsRow H y r2 ∧ n.old.length ≤ 4 ∧ n.new.length ≤ 4 ∧ PairsIn n.old r1 ∧ PairsIn n.new r2 ∧ ∀ v' H', Same H H' → IsEnt K H' v' (noteEntry n nm r1 r2) → Q v' H'
theorem ok_entry (T : Tx K mg) : CallP P w K mg base false 2 (He.ma K (He.ga K "Note") "entry") [] (r_entry K) := by
  refine call_at T.d_Note_entry sc_Note_entry (n := 4) rfl (fun vs zs H Q h => by obtain ⟨_, _, _, _, _, _, _, rfl, _⟩ := h; rfl) (fun _ _ _ _ _ _ us ws hl hw => match us, hl, ws, hw with | [_, _, _, _], _, [], _ => rfl) fun cdv A outer s H vs zs Q hr _ hz h => ?_
  have G_pairs_of := ok_pairs_of (P := P) (w := w) (base := base) T
  obtain ⟨v, x, y, n, nm, r1, r2, rfl, hn, hx, hy, l1, l2, in1, in2, k⟩ := h
  obtain rfl : zs = [] := List.length_eq_zero_iff.mp hz
  refine ⟨_, (pss_cons (ps_set (i := 4) sc_Note_entry.nd rfl (Or.inl rfl) (pe_cl G_pairs_of hr (by decide) Gd.no rfl (pa_cons (pe_fld (pv 0) rfl) (pa_cons (pv 2) pa_nil))))
    (pss_cons (ps_set (i := 5) sc_Note_entry.nd rfl (Or.inl rfl) (pe_cl G_pairs_of hr (by decide) Gd.no rfl (pa_cons (pe_fld (pv 0) rfl) (pa_cons (pv 3) pa_nil))))
    (pss_cons (ps_if (PW.pt (pw_and (pt_val (pe_fld (pv 0) rfl)) (pw_and1 (pt_cmpR (op_eqRow hr.units) (pv 2) (pv 3) (nomark _))))) (pss_one (ps_ret pe_non)) pss_nil)
    (pss_one (ps_ret (pe_tup (pa_cons (pe_ifExp (pt_val (pe_fld (pv 0) rfl)) (pv 1) pe_str) (pa_cons (pv 4) (pa_cons (pv 5) pa_nil))))))))), ?_⟩
  obtain ⟨a, dx, o1, o2, rfl, ha, ho1, ho2⟩ := hn
  refine ⟨_, rfl, a, _, dx, _, _, rfl, ha, T.c_Note, T.n_Note_old, rfl, _, rfl, _, _, n.old, r1, rfl, ho1, hx, by omega, in1, fun v1 H1 s1 p1 => ?_⟩
  have ha1 := s1 _ _ ha
  refine ⟨_, rfl, a, _, dx, _, _, rfl, ha1, T.c_Note, T.n_Note_new, rfl, _, rfl, _, _, n.new, r2, rfl, ho2.core (Core.of s1), IsRow.stays.mono hy (Core.of s1), by omega, in2, fun v2 H2 s2 p2 => ?_⟩
  have ha2 := s2 _ _ ha1
  have s12 := s1.trans s2
  have hx2 := IsRow.stays.mono hx (Core.of s12)
  have hy2 := IsRow.stays.mono hy (Core.of s12)
  have p1' := (TOf.stays (K := K) IsPair.stays).mono p1 (Core.of s2)
  refine ⟨_, rfl, a, _, dx, _, _, rfl, ha2, T.c_Note, T.n_Note_changed, rfl, n.changed, rfl, ?_⟩
  have fin : (n.changed && rowEq r1 r2) = false → ∃ v, [some (V.ref a), some (.str nm), some x, some y, some v1, some v2][0]? = some (some v) ∧ ∃ a' C dx' fs v', v = .ref a' ∧ H2 a' = some (.ins C dx' fs) ∧ Cls K C ∧ NoAttr K C "named" ∧ fs.lookup ("named" : Str) = some v' ∧ ∃ c, v' = .bl c ∧ (if c = true then (tVar 1) [some (V.ref a), some (.str nm), some x, some y, some v1, some v2] H2 else (tC (.str "")) [some (V.ref a), some (.str nm), some x, some y, some v1, some v2] H2) fun u H3 => [u, v1, v2].length ≤ sizeLine ∧ ∀ p, H3 p = none → Q (.ref p) (upd H3 p (.tup [u, v1, v2])) := by
    intro hb
    have e : noteEntry n nm r1 r2 = some (if n.named = true then nm else "", pairsOf n.old r1, pairsOf n.new r2) := by unfold noteEntry; rw [if_neg (by rw [hb]; decide)]
    refine ⟨_, rfl, a, _, dx, _, _, rfl, ha2, T.c_Note, T.n_Note_named, rfl, n.named, rfl, ?_⟩
    cases hnm : n.named with
    | true =>
      refine ⟨_, rfl, by show 3 ≤ sizeLine; decide, fun p hp => k _ _ (s12.trans (Same.new hp)) ?_⟩
      rw [e, hnm]
      exact ⟨p, v1, v2, rfl, upd_same, (TOf.stays (K := K) IsPair.stays).mono p1' (Core.of (Same.new hp)), (TOf.stays (K := K) IsPair.stays).mono p2 (Core.of (Same.new hp))⟩
    | false =>
      refine ⟨by show 3 ≤ sizeLine; decide, fun p hp => k _ _ (s12.trans (Same.new hp)) ?_⟩
      rw [e, hnm]
      exact ⟨p, v1, v2, rfl, upd_same, (TOf.stays (K := K) IsPair.stays).mono p1' (Core.of (Same.new hp)), (TOf.stays (K := K) IsPair.stays).mono p2 (Core.of (Same.new hp))⟩
  cases hch : n.changed with
  | false =>
    obtain ⟨v, q1, a', C, dx', fs, v', q2, q3, q4, q5, q6, c, q7, q8⟩ := fin (by rw [hch]; rfl)
    refine ⟨v, q1, a', C, dx', fs, v', q2, q3, q4, q5, q6, c, q7, ?_⟩
    cases c
    · obtain ⟨q9, q10⟩ := q8
      exact ⟨_, rfl, _, rfl, q9, q10⟩
    · obtain ⟨u, q8, q9, q10⟩ := q8
      exact ⟨u, q8, _, rfl, _, rfl, q9, q10⟩
  | true =>
    refine ⟨_, rfl, _, rfl, r1, r2, hx2, hy2, rowEq r1 r2, rfl, ?_⟩
    cases hre : rowEq r1 r2 with
    | true =>
      refine k _ _ s12 ?_
      unfold noteEntry
      rw [hch, hre]
      rfl
    | false =>
      obtain ⟨v, q1, a', C, dx', fs, v', q2, q3, q4, q5, q6, c, q7, q8⟩ := fin (by rw [hre]; simp)
      refine ⟨v, q1, a', C, dx', fs, v', q2, q3, q4, q5, q6, c, q7, ?_⟩
      cases c
      · obtain ⟨q9, q10⟩ := q8
        exact ⟨_, rfl, _, rfl, q9, q10⟩
      · obtain ⟨u, q8, q9, q10⟩ := q8
        exact ⟨u, q8, _, rfl, _, rfl, q9, q10⟩
end
end Pn

-- PnE4
set_option
      maxHeartbeats 4000000
namespace Pn
open PySem PySem.Spec L2 PyProof.Rows StX ClX
theorem valV_none {kvs : List (Key × V)} {k : Key} (h : ∀ p ∈ kvs, p.1 ≠ k) : valV kvs k = none := by
  unfold valV
  cases q : kvs.find? (fun kv => decide (kv.1 = k)) with
  | none => rfl
  | some p =>
    have h1 := List.find?_some q
    exact absurd (of_decide_eq_true h1) (h p (List.mem_of_find?_eq_some q))
theorem rowKV_snoc (t : Str) (l : Cols) (c : Str) (i : Int) (h : c ∉ l.map (·.1)) (hs : c ≠ "state") : putK (rowKV (t, l)) (.inr c) (.int i) = rowKV (t, l ++ [(c, i)]) := by
  rw [putK_new]
  · unfold rowKV colKV
    simp
  · refine valV_none fun p hp e => ?_
    unfold rowKV colKV at hp
    rcases List.mem_cons.mp hp with z | z
    · rw [z] at e; cases e; exact hs rfl
    · obtain ⟨q, hq, z2⟩ := List.mem_map.mp z
      rw [← z2] at e
      cases e
      exact h (List.mem_map.mpr ⟨q, hq, rfl⟩)
section
variable {P : Program} {w : World} {K : PySem.W.Frag}
      {mg : Str → Option Value} {base : Heap}

def r_check_worths (K : PySem.W.Frag) : RC := fun vs _ H Q => ∃ (v x : V) (b : DataD) (n : Str) (d : DeedD) (wt : Cols), vs = [v, .str n, x] ∧ IsBook K H v b ∧ b.find n = some d ∧ IsW H x wt ∧ WOk (b.wr d) wt ∧ Q .non H
theorem ok_check_worths (T : Tx K mg) (Z : Tz K) : Cal P w K mg base false 4 "check_worths" (r_check_worths K) := by
  refine cal_at T.d_check_worths T.g_check_worths sc_check_worths (fun vs H Q h => by obtain ⟨_, _, _, _, _, _, rfl, _⟩ := h; rfl) (fun _ _ _ _ _ _ us hl => match us, hl with | [_, _, _], _ => rfl) fun cdv A outer s H vs Q hr _ h => ?_
  have G_is_value := ok_is_value (P := P) (w := w) (base := base) T
  obtain ⟨v, x, b, n, d, wt, rfl, hb, hf, hx, hw, k⟩ := h
  refine ⟨_, (pss_cons (ps_set (i := 3) sc_check_worths.nd rfl (Or.inl rfl) (pe_methP (ok_writes T Z) (hr.mono (by decide)) Gd.no T.c_Book T.m_Book_writes (pv 0) (pa_cons (pv 1) pa_nil)))
    (pss_cons (ps_if (PW.pt (pw_or (pt_not (pt_val (pe_callB call_isi rfl T.f_isinstance boot_isinstance (pa_cons (pv 2) (pa_cons (pe_ty T.f_dict boot_dict rfl) pa_nil))))) (pw_or1 (pt_cmpR op_ne (pe_callB call_lenD rfl T.f_len boot_len (pa_cons (pv 2) pa_nil)) (pe_callB call_len_seq rfl T.f_len boot_len (pa_cons (pv 3) pa_nil)) (nomark _))))) pss_never pss_nil)
    (pss_cons (ps_for PassesOwn.never rfl (pi_tup (pv 3)) (pg_name (i := 4) sc_check_worths.nd rfl (Or.inl rfl)) (pss_one (ps_if (pt_cmp (pc_dnotin (hu_of hr) (pv 4) (pv 2))) pss_never pss_nil)))
    (pss_one (ps_for PassesOwn.never rfl (pi_tup (pv 3)) (pg_name (i := 4) sc_check_worths.nd rfl (Or.inl rfl)) (pss_one (ps_if (pt_not (pt_val (pe_cl G_is_value hr (by decide) Gd.no rfl (pa_cons (pe_dget (hu_of hr) (pv 2) (pv 4) (fun _ _ => rfl)) pa_nil)))) pss_never pss_nil))))))), ?_⟩
  have hb0 := hb
  obtain ⟨a, dx, c, s', dd, nn, rfl, ha, hc, _, _⟩ := hb
  obtain ⟨xa, rfl, hxa⟩ := hx
  refine ⟨_, rfl, a, dx, _, rfl, ha, rfl, _, rfl, _, b, n, d, rfl, hb0, hf, fun v' hv' => ?_⟩
  obtain ⟨ca, rfl, hca⟩ := hv'
  refine ⟨_, rfl, _, _, _, _, true, rfl, .ty _, .base (.dK hxa), kit_ty (by decide +kernel), true, rfl, ?_⟩
  refine ⟨_, rfl, xa, _, rfl, hxa, _, rfl, ca, _, rfl, .inr hca, rfl, _, rfl, ?_⟩
  have e : decide (V.int ((colKV wt).length : Int) = V.int (((b.wr d).map V.str).length : Int)) = true := decide_eq_true (by
    unfold colKV
    rw [List.length_map, List.length_map, hw.1])
  rw [e]
  refine ⟨_, rfl, ca, rfl, ⟨_, hca⟩, for_tup (xs := (b.wr d).map V.str) (fun i σ H' => H' = H ∧ ∃ z, σ = [some (.ref a), some (.str n), some (.ref xa), some (.ref ca), z]) ⟨rfl, _, rfl⟩ (fun i σ H' _ q => by rw [q.1]; exact hca) (fun i x σ H' hx q => ?_) (fun σ H' q => ?_)⟩
  · obtain ⟨rfl, z, rfl⟩ := q
    obtain ⟨cc, hcc, rfl⟩ := strs_ix hx
    obtain ⟨iv, hiv, _⟩ := hw.2 cc (List.mem_of_getElem? hcc)
    refine ⟨_, rfl, _, rfl, xa, _, rfl, wGet hxa cc, false, ?_, rfl, _, rfl⟩
    rw [valV_col, hiv]; rfl
  · obtain ⟨rfl, z, rfl⟩ := q
    refine ⟨_, rfl, ca, rfl, ⟨_, hca⟩, for_tup (xs := (b.wr d).map V.str) (fun i σ H2 => H2 = H' ∧ ∃ z, σ = [some (.ref a), some (.str n), some (.ref xa), some (.ref ca), z]) ⟨rfl, _, rfl⟩ (fun i σ H2 _ q => by rw [q.1]; exact hca) (fun i x σ H2 hx q => ?_) (fun σ H2 q => by rw [q.1]; exact k)⟩
    obtain ⟨rfl, z, rfl⟩ := q
    obtain ⟨cc, hcc, rfl⟩ := strs_ix hx
    obtain ⟨iv, hiv, hok⟩ := hw.2 cc (List.mem_of_getElem? hcc)
    have hg := wGet hxa cc
    rw [valV_col, hiv] at hg
    exact ⟨_, rfl, _, rfl, xa, _, rfl, hg, iv, rfl, hok, true, rfl, rfl, _, rfl⟩

def r_row_after (K : PySem.W.Frag) : RC := fun vs _ H Q => ∃ (v x y : V) (b : DataD) (n : Str) (row : Row) (wt : Cols), vs = [v, .str n, x, y] ∧ IsBook K H v b ∧ BkOk b ∧ IsRow H x row ∧ RowOk b row ∧ IsW H y wt ∧ StepOk b row (some (n, wt)) ∧
  ∀ v' H', Same H H' → IsRow H' v' (rowStep b row (some (n, wt))) → Q v' H'
theorem ok_row_after (T : Tx K mg) (Z : Tz K) : Cal P w K mg base false 3 "row_after" (r_row_after K) := by
  refine cal_at T.d_row_after T.g_row_after sc_row_after (fun vs H Q h => by obtain ⟨_, _, _, _, _, _, _, rfl, _⟩ := h; rfl) (fun _ _ _ _ _ _ us hl => match us, hl with | [_, _, _, _], _ => rfl) fun cdv A outer s H vs Q hr _ h => ?_
  have G_state_of := ok_state_of (P := P) (w := w) (base := base) T
  obtain ⟨v, x, y, b, n, row, wt, rfl, hb, bk, hx, ro, hy, ⟨d, t, hf, ht, hw, hmk⟩, k⟩ := h
  refine ⟨_, (pss_cons (ps_set (i := 4) sc_row_after.nd rfl (Or.inl rfl) (pe_methP (ok_after T) (hr.mono (by decide)) Gd.no (cls_ok T d.kind) (after_ok T d.kind) (pe_ixO (ok_getitem T) (hr.mono (by decide)) Gd.no T.m_Book_ugetitemu Z.fi_getitem (pv 0) (pv 1)) (pa_cons (pe_cl G_state_of hr (by decide) Gd.no rfl (pa_cons (pv 2) pa_nil)) pa_nil)))
    (pss_cons (ps_if (pt_cmpR op_eq (pv 4) pe_str (nomark _)) (pss_one (ps_ret pe_non)) pss_nil)
    (pss_cons (ps_set (i := 5) sc_row_after.nd rfl (Or.inl rfl) (pe_disp (pps_cons pe_str (pv 4) pps_nil) rfl rfl (by simp) (by decide)))
    (pss_cons (ps_for PassesOwn.never rfl (pi_tup (pe_fld (pv 0) rfl)) (pg_name (i := 6) sc_row_after.nd rfl (Or.inl rfl)) (pss_one (ps_dput (hu_of hr) (pv 5) (pv 6) (pe_ifExp (pt_cmp (pc_din (hu_of hr) (pv 6) (pv 3))) (pe_dget (hu_of hr) (pv 3) (pv 6) (fun _ _ => rfl)) (pe_dget (hu_of hr) (pv 2) (pv 6) (fun _ _ => rfl))) rfl)))
    (pss_one (ps_ret (pv 5))))))), ?_⟩
  have hb0 := hb
  obtain ⟨a, dx, c, s', dd, nn, rfl, ha, hc, _, _⟩ := hb
  have est : rowStep b row (some (n, wt)) = if t = "" then none else some (newRow b row wt t) := by
    show (match (b.find n).bind (fun d => d.next (stOf row)) with | none => none | some t => if t = "" then none else some (newRow b row wt t)) = _
    rw [hf]
    show (match d.next (stOf row) with | none => none | some t => if t = "" then none else some (newRow b row wt t)) = _
    rw [ht]
  refine ⟨_, rfl, _, rfl, a, dx, _, rfl, ha, _, b, n, d, rfl, hb0, hf, fun v' hv' => ?_⟩
  have hv0 := hv'
  obtain ⟨a', dx', m', c', z', rfl, ha', _⟩ := hv'
  refine ⟨a', dx', _, rfl, ha', rfl, _, rfl, x, row, rfl, hx, _, d, _, t, rfl, hv0, ht, ?_⟩
  refine ⟨_, rfl, rfl, decide (V.str t = V.str ""), rfl, ?_⟩
  by_cases et : t = ""
  · rw [decide_eq_true (by rw [et])]
    exact k _ _ (Same.refl H) (by rw [est, if_pos et]; rfl)
  · rw [decide_eq_false (by intro z; cases z; exact et rfl)]
    refine fun p hp => ⟨_, rfl, upd_same, [(.inr "state", .str t)], rfl, by show 1 ≤ 15; decide, ?_⟩
    have s0 : Same H (upd (upd H p (.dK [])) p (.dK (mergeK [] [(.inr "state", .str t)]))) := by rw [upd_upd]; exact Same.new hp
    obtain ⟨ca, rfl, hca⟩ := hc
    obtain ⟨ya, rfl, hya⟩ := hy
    refine ⟨_, rfl, a, _, dx, _, _, rfl, s0 _ _ ha, T.c_Book, T.n_Book_columns, rfl, ca, rfl, ⟨_, same_tup s0 hca⟩, for_tup (xs := b.cols.map V.str) (fun i σ H' => Same H H' ∧ H' p = some (.dK (rowKV (t, (b.cols.take i).map fun c => (c, newVal row wt c)))) ∧ ∃ z, σ = [some (.ref a), some (.str n), some x, some (.ref ya), some (.str t), some (.ref p), z]) ⟨s0, by rw [upd_same]; rfl, _, rfl⟩ (fun i σ H' _ q => same_tup q.1 hca) (fun i x' σ H' hx' q => ?_) (fun σ H' q => ?_)⟩
    · obtain ⟨sm, hpd, z, rfl⟩ := q
      obtain ⟨cc, hcc, rfl⟩ := strs_ix hx'
      have hccm := List.mem_of_getElem? hcc
      have hcs : cc ≠ "state" := fun e => bk.st (e ▸ hccm)
      have fin : ∃ (a2 : Addr) (H4 : Hp), V.ref p = .ref a2 ∧ DPut H' a2 (.str cc) (.int (newVal row wt cc)) H4 ∧ Same H H4 ∧ H4 p = some (.dK (rowKV (t, (b.cols.take (i + 1)).map fun c => (c, newVal row wt c)))) ∧ ∃ z, [some (V.ref a), some (.str n), some x, some (.ref ya), some (.str t), some (.ref p), some (.str cc)] = [some (.ref a), some (.str n), some x, some (.ref ya), some (.str t), some (.ref p), z] := by
        refine ⟨p, _, rfl, DPut.k (k := .inr cc) hpd ?_, same_mut sm hp, ?_, _, rfl⟩
        · unfold rowKV colKV
          have : b.cols.length ≤ 3 := bk.few
          simp only [List.length_cons, List.length_map, List.length_take]
          exact Nat.lt_of_le_of_lt (by omega : _ ≤ 10) (by decide)
        · rw [upd_same, take_snoc hcc, List.map_append]
          rw [rowKV_snoc _ _ _ _ _ hcs]
          · rfl
          · rw [List.map_map]
            show cc ∉ (b.cols.take i).map (fun c => c)
            rw [List.map_id']
            exact not_before bk.nd hcc
      have hxr := IsRow.stays.mono hx (Core.of sm)
      refine ⟨_, rfl, _, rfl, ya, _, rfl, wGet (sm _ _ hya) cc, (colGet wt cc).isSome, ?_, ?_⟩
      · rw [valV_col]; cases colGet wt cc <;> rfl
      cases hg : colGet wt cc with
      | some iv =>
        have hdg := wGet (sm _ _ hya) cc
        rw [valV_col, hg] at hdg
        have en : newVal row wt cc = iv := by unfold newVal; rw [hg]
        rw [en] at fin
        exact ⟨_, rfl, _, rfl, ya, _, rfl, hdg, _, rfl, _, rfl, fin⟩
      | none =>
        cases row with
        | none =>
          have hm := hmk rfl
          have := hw.2 cc (by unfold DataD.wr; rw [if_pos hm]; exact hccm)
          obtain ⟨iv, hiv, _⟩ := this
          rw [hg] at hiv; cases hiv
        | some r =>
          obtain ⟨xa, rfl, hxa⟩ := hxr
          obtain ⟨iv, hiv⟩ := colGet_some (w := r.2) (c := cc) (by rw [show r.2.map (·.1) = b.cols from ro]; exact hccm)
          have hdg := rowGet hxa cc
          rw [valV_row r cc hcs, hiv] at hdg
          have en : newVal (some r) wt cc = iv := by unfold newVal; rw [hg]; show (colGet r.2 cc).getD 0 = iv; rw [hiv]; rfl
          rw [en] at fin
          exact ⟨_, rfl, _, rfl, xa, _, rfl, hdg, _, rfl, _, rfl, fin⟩
    · obtain ⟨sm, hpd, z, rfl⟩ := q
      rw [List.length_map, List.take_length] at hpd
      exact ⟨_, rfl, k _ _ sm (by rw [est, if_neg et]; exact ⟨p, rfl, hpd⟩)⟩

def IsEntO (K : PySem.W.Frag) (H : Hp) (v : V) : Option EntryD → Prop
  | none => v = .non
  | some e => IsEntry K H v e
theorem pairs_ok {b : DataD} (words : List Str) {row : Row} (ro : RowOk b row) (h : ∀ c ∈ words, c = "state" ∨ c ∈ b.cols) : PairsIn words row := fun q e c hc => by
  subst e
  exact row_word ro (h c hc)
def r_entry_of (K : PySem.W.Frag) : RC := fun vs _ H Q => ∃ (v x y : V) (b : DataD) (n : Str) (d : DeedD) (i : Int) (r1 r2 : Row), vs = [v, .str n, .int i, x, y] ∧ IsBook K H v b ∧ BkOk b ∧ b.find n = some d ∧ IsRow H x r1 ∧ IsRow H y r2 ∧ RowOk b r1 ∧ RowOk b r2 ∧
  ∀ v' H', Same H H' → IsEntO K H' v' (entryOf b n i r1 r2) → Q v' H'
theorem find_name {b : DataD} {n : Str} {d : DeedD} (h : b.find n = some d) : d.name = n := of_decide_eq_true (List.find?_some (p := fun d : DeedD => decide (d.name = n)) (l := b.deeds) h)
theorem find_mem {b : DataD} {n : Str} {d : DeedD} (h : b.find n = some d) : d ∈ b.deeds := List.mem_of_find?_eq_some h
theorem ok_entry_of (T : Tx K mg) (Z : Tz K) : Cal P w K mg base false 3 "entry_of" (r_entry_of K) := by
  refine cal_at T.d_entry_of T.g_entry_of sc_entry_of (fun vs H Q h => by obtain ⟨_, _, _, _, _, _, _, _, _, rfl, _⟩ := h; rfl) (fun _ _ _ _ _ _ us hl => match us, hl with | [_, _, _, _, _], _ => rfl) fun cdv A outer s H vs Q hr _ h => ?_
  obtain ⟨v, x, y, b, n, d, i, r1, r2, rfl, hb, bk, hf, hx, hy, o1, o2, k⟩ := h
  refine ⟨_, (pss_cons (ps_set (i := 5) sc_entry_of.nd rfl (Or.inl rfl) (pe_fld (pe_ixO (ok_getitem T) (hr.mono (by decide)) Gd.no T.m_Book_ugetitemu Z.fi_getitem (pv 0) (pv 1)) rfl))
    (pss_cons (ps_set (i := 6) sc_entry_of.nd rfl (Or.inl rfl) (pe_ifExp (pt_cmp (pc_isN (pv 5))) pe_non (pe_methP (ok_entry T) (hr.mono (by decide)) Gd.no T.c_Note T.m_Note_entry (pv 5) (pa_cons (pv 1) (pa_cons (pv 3) (pa_cons (pv 4) pa_nil))))))
    (pss_one (ps_ret (pe_ifExp (pt_cmp (pc_isN (pv 6))) pe_non (pe_tup (pa_cons (pv 2) (pa_cons (pe_ix ix_tup (pv 6) pe_int (fun _ _ => rfl)) (pa_cons (pe_ix ix_tup (pv 6) pe_int (fun _ _ => rfl)) (pa_cons (pe_ix ix_tup (pv 6) pe_int (fun _ _ => rfl)) pa_nil)))))))))), ?_⟩
  have hb0 := hb
  obtain ⟨a, dx, c, s', dd, nn, rfl, ha, hc, _, _⟩ := hb
  refine ⟨_, rfl, _, rfl, a, dx, _, rfl, ha, _, b, n, d, rfl, hb0, hf, fun v' hv' => ?_⟩
  obtain ⟨a', dx', m', c', z', rfl, ha', _, _, hn⟩ := hv'
  refine ⟨a', _, dx', _, _, rfl, ha', cls_ok T _, nnote_ok T _, rfl, ?_⟩
  have ef : entryOf b n i r1 r2 = match d.note with | none => none | some nt => (noteEntry nt n r1 r2).map fun e => ⟨i, e.1, e.2.1, e.2.2⟩ := by
    unfold entryOf
    rw [hf]
    rfl
  cases hdn : d.note with
  | none =>
    rw [hdn] at hn ef
    obtain rfl : z' = .non := hn
    exact ⟨_, rfl, true, rfl, _, rfl, true, rfl, k _ _ (Same.refl H) (by rw [ef]; rfl)⟩
  | some nt =>
    rw [hdn] at hn ef
    replace ef : entryOf b n i r1 r2 = (noteEntry nt n r1 r2).map (fun e => (⟨i, e.1, e.2.1, e.2.2⟩ : EntryD)) := ef
    have hn0 := hn
    obtain ⟨na, ndx, nx, ny, rfl, hna, _, _⟩ := hn
    obtain ⟨w1, w2, l1, l2⟩ := bk.words d (find_mem hf) nt hdn
    refine ⟨_, rfl, false, rfl, _, rfl, na, ndx, _, rfl, hna, rfl, _, rfl, _, rfl, _, rfl, _, x, y, nt, n, r1, r2, rfl, hn0, hx, hy, l1, l2, pairs_ok _ o1 w1, pairs_ok _ o2 w2, fun v' H' sm he => ?_⟩
    cases hne : noteEntry nt n r1 r2 with
    | none =>
      rw [hne] at he ef
      obtain rfl : v' = .non := he
      exact ⟨_, rfl, true, rfl, k _ _ sm (by rw [ef]; rfl)⟩
    | some e =>
      rw [hne] at he ef
      obtain ⟨ea, ex, ey, rfl, hea, p1, p2⟩ := he
      refine ⟨_, rfl, false, rfl, _, rfl, _, rfl, ea, _, 0, _, rfl, rfl, SqT.of hea, rfl, _, rfl, ea, _, 1, _, rfl, rfl, SqT.of hea, rfl, _, rfl, ea, _, 2, _, rfl, rfl, SqT.of hea, rfl, by show 4 ≤ sizeLine; decide, fun p hp => ?_⟩
      refine k _ _ (sm.trans (Same.new hp)) ?_
      rw [ef]
      exact ⟨p, ex, ey, rfl, upd_same, (TOf.stays (K := K) IsPair.stays).mono p1 (Core.of (Same.new hp)), (TOf.stays (K := K) IsPair.stays).mono p2 (Core.of (Same.new hp))⟩
def r_entry_list (K : PySem.W.Frag) : RC := fun vs _ H Q => ∃ (v x y : V) (b : DataD) (n : Str) (d : DeedD) (i : Int) (r1 r2 : Row), vs = [v, .str n, .int i, x, y] ∧ IsBook K H v b ∧ BkOk b ∧ b.find n = some d ∧ IsRow H x r1 ∧ IsRow H y r2 ∧ RowOk b r1 ∧ RowOk b r2 ∧
  ∀ v' H', Same H H' → LOf (IsEntry K) H' v' (entryOf b n i r1 r2).toList → Q v' H'
theorem ok_entry_list (T : Tx K mg) (Z : Tz K) : Cal P w K mg base false 4 "entry_list" (r_entry_list K) := by
  refine cal_at T.d_entry_list T.g_entry_list sc_entry_list (fun vs H Q h => by obtain ⟨_, _, _, _, _, _, _, _, _, rfl, _⟩ := h; rfl) (fun _ _ _ _ _ _ us hl => match us, hl with | [_, _, _, _, _], _ => rfl) fun cdv A outer s H vs Q hr _ h => ?_
  have G_entry_of := ok_entry_of (P := P) (w := w) (base := base) T Z
  obtain ⟨v, x, y, b, n, d, i, r1, r2, rfl, hb, bk, hf, hx, hy, o1, o2, k⟩ := h
  refine ⟨_, (pss_cons (ps_set (i := 5) sc_entry_list.nd rfl (Or.inl rfl) (pe_cl G_entry_of hr (by decide) Gd.no rfl (pa_cons (pv 0) (pa_cons (pv 1) (pa_cons (pv 2) (pa_cons (pv 3) (pa_cons (pv 4) pa_nil)))))))
    (pss_one (ps_ret (pe_ifExp (pt_cmp (pc_isN (pv 5))) (pe_lst pa_nil) (pe_lst (pa_cons (pv 5) pa_nil)))))), ?_⟩
  refine ⟨_, rfl, _, rfl, _, rfl, _, rfl, _, rfl, v, x, y, b, n, d, i, r1, r2, rfl, hb, bk, hf, hx, hy, o1, o2, fun v' H' sm he => ?_⟩
  cases hne : entryOf b n i r1 r2 with
  | none =>
    rw [hne] at he k
    obtain rfl : v' = .non := he
    exact ⟨_, rfl, true, rfl, by show 0 ≤ sizeLine; decide, fun p hp => k _ _ (sm.trans (Same.new hp)) ⟨p, _, rfl, upd_same, .nil⟩⟩
  | some e =>
    rw [hne] at he k
    have he0 : IsEntry K H' v' e := he
    obtain ⟨ea, ex, ey, rfl, _⟩ := he
    exact ⟨_, rfl, false, rfl, _, rfl, by show 1 ≤ sizeLine; decide, fun p hp => k _ _ (sm.trans (Same.new hp)) ⟨p, _, rfl, upd_same, .cons (IsEntry.stays.mono he0 (Core.of (Same.new hp))) .nil⟩⟩

def r_check_step (K : PySem.W.Frag) : RC := fun vs _ H Q => ∃ (v x : V) (i : Int) (b : DataD) (row : Row) (n : Str) (wt : Cols), vs = [v, .int i, x] ∧ IsBook K H v b ∧ IsStep H x (some (n, wt)) ∧ StepOk b row (some (n, wt)) ∧ Q .non H
theorem ok_check_step (T : Tx K mg) (Z : Tz K) : Cal P w K mg base false 5 "check_step" (r_check_step K) := by
  refine cal_at T.d_check_step T.g_check_step sc_check_step (fun vs H Q h => by obtain ⟨_, _, _, _, _, _, _, rfl, _⟩ := h; rfl) (fun _ _ _ _ _ _ us hl => match us, hl with | [_, _, _], _ => rfl) fun cdv A outer s H vs Q hr _ h => ?_
  have G_check_worths := ok_check_worths (P := P) (w := w) (base := base) T Z
  obtain ⟨v, x, i, b, row, n, wt, rfl, hb, ⟨sa, sx, rfl, hsa, hw⟩, ⟨d, t, hf, ht, hwo, hmk⟩, k⟩ := h
  refine ⟨_, (pss_cons (ps_if (PW.pt (pw_or (pt_not (pt_val (pe_callB call_isi rfl T.f_isinstance boot_isinstance (pa_cons (pv 2) (pa_cons (pe_ty T.f_tuple boot_tuple rfl) pa_nil))))) (pw_or (pt_cmpR op_ne (pe_callB call_len_seq rfl T.f_len boot_len (pa_cons (pv 2) pa_nil)) pe_int (nomark _)) (pw_or1 (pt_not (pt_val (pe_callB call_isi rfl T.f_isinstance boot_isinstance (pa_cons (pe_ix ix_tup (pv 2) pe_int (fun _ _ => rfl)) (pa_cons (pe_ty T.f_dict boot_dict rfl) pa_nil))))))))) pss_never pss_nil)
    (pss_cons (ps_asg (pv 2) (pg_tup rfl (pgs_cons (pg_name (i := 3) sc_check_step.nd rfl (Or.inl rfl)) (pgs_cons (pg_name (i := 4) sc_check_step.nd rfl (Or.inl rfl)) pgs_nil))))
    (pss_cons (ps_if (pt_cmpR (op_notInO (ok_contains T) (hr.mono (by decide)) Gd.no T.m_Book_ucontainsu) (pv 3) (pv 0) rfl) pss_never pss_nil)
    (pss_one (ps_expr (pe_cl G_check_worths hr (by decide) Gd.no rfl (pa_cons (pv 0) (pa_cons (pv 3) (pa_cons (pv 4) pa_nil))))))))), ?_⟩
  have hb0 := hb
  have hw0 := hw
  obtain ⟨a, dx, c, s', dd, nn, rfl, ha, hc, _, _⟩ := hb
  obtain ⟨wa, rfl, hwa⟩ := hw
  refine ⟨_, rfl, _, _, _, _, true, rfl, .ty _, .base (.tup hsa), kit_ty (by decide +kernel), true, rfl, ?_⟩
  refine ⟨_, rfl, sa, _, rfl, .inr (SqT.of hsa), rfl, false, rfl, ?_⟩
  refine ⟨_, rfl, sa, _, 1, _, rfl, rfl, SqT.of hsa, rfl, _, _, _, _, true, rfl, .ty _, .base (.dK hwa), kit_ty (by decide +kernel), true, rfl, ?_⟩
  refine ⟨_, rfl, sa, _, rfl, SqT.of hsa, rfl, _, _, rfl, _, _, rfl, rfl, ?_⟩
  refine ⟨_, rfl, _, rfl, a, dx, _, rfl, ha, _, b, n, rfl, hb0, ?_, true, rfl, false, rfl, ?_⟩
  · have hd := find_mem hf
    have hn : d.name = n := find_name hf
    exact List.mem_map.mpr ⟨d, hd, hn⟩
  · exact ⟨_, rfl, _, rfl, _, rfl, _, _, b, n, d, wt, rfl, hb0, hf, hw0, hwo, k⟩
end
end Pn

-- PnE5
set_option
      maxHeartbeats 4000000
namespace Pn
open PySem PySem.Spec L2 PyProof.Rows StX ClX
theorem stepAt_eq {ss : List Step} {i : Nat} {s : Step} (h : ss[i]? = some s) : stepAt ss i = s := by unfold stepAt; rw [h]; rfl
theorem stand_len (b : DataD) (ss : List Step) (i : Nat) : (standTo b ss i).length = i + 1 := by unfold standTo; rw [List.length_map, List.length_range]
theorem stand_succ (b : DataD) (ss : List Step) (i : Nat) : standTo b ss (i + 1) = standTo b ss i ++ [rowAt b ss (i + 1)] := by unfold standTo; rw [List.range_succ, List.map_append]; rfl
theorem noted_succ (b : DataD) (ss : List Step) (i : Nat) : notedTo b ss (i + 1) = notedTo b ss i ++ stepEntry b ((i : Int) + 1) (rowAt b ss i) (stepAt ss i) := by
  unfold notedTo; rw [List.range_succ, List.map_append, List.flatten_append]; simp
theorem entryO_le (o : Option EntryD) : o.toList.length ≤ 1 := by cases o <;> simp
theorem stepEntry_le (b : DataD) (i : Int) (row : Row) (s : Step) : (stepEntry b i row s).length ≤ 1 := by
  cases s with
  | none => simp [stepEntry]
  | some p => exact entryO_le _
theorem noted_le (b : DataD) (ss : List Step) : ∀ i, (notedTo b ss i).length ≤ i
  | 0 => by simp [notedTo]
  | i + 1 => by
    rw [noted_succ, List.length_append]
    have := noted_le b ss i
    have := stepEntry_le b ((i : Int) + 1) (rowAt b ss i) (stepAt ss i)
    omega
theorem last_at {α : Type} {xs : List α} {n : Nat} {x : α} (hl : xs.length = n + 1) (h : xs[n]? = some x) : atI xs (-1) = some x := by
  unfold atI ixN
  rw [if_neg (by decide), if_pos (by omega)]
  have e : ((-1 : Int) + (xs.length : Int)).toNat = n := by omega
  show ((some ((-1 : Int) + (xs.length : Int)).toNat).bind fun j => xs[j]?) = some x
  rw [e]
  exact h
section
variable {P : Program} {w : World} {K : PySem.W.Frag}
      {mg : Str → Option Value} {base : Heap}
def IsPlay (K : PySem.W.Frag) (H : Hp) (v : V) (b : DataD) (ss : List Step) : Prop := ∃ a x y z, v = .ref a ∧ H a = some (.tup [x, y, z]) ∧ LOf IsStep H x ss ∧ LOf IsRow H y (standTo b ss ss.length) ∧ LOf (IsEntry K) H z (notedTo b ss ss.length)
def r_played (K : PySem.W.Frag) : RC := fun vs _ H Q => ∃ (v : V) (a : Addr) (xs : List V) (b : DataD) (ss : List Step), vs = [v, .ref a] ∧ IsBook K H v b ∧ BkOk b ∧ SqT K H a xs ∧ Paired (IsStep H) xs ss ∧ ss.length ≤ 400 ∧ StepsOk b ss ∧ ∀ v' H', Same H H' → IsPlay K H' v' b ss → Q v' H'
theorem ok_played (T : Tx K mg) (Z : Tz K) : Cal P w K mg base false 6 "played" (r_played K) := by
  refine cal_at T.d_played T.g_played sc_played (fun vs H Q h => by obtain ⟨_, _, _, _, _, rfl, _⟩ := h; rfl) (fun _ _ _ _ _ _ us hl => match us, hl with | [_, _], _ => rfl) fun cdv A outer s H vs Q hr _ h => ?_
  have G_check_step := ok_check_step (P := P) (w := w) (base := base) T Z
  have G_entry_list := ok_entry_list (P := P) (w := w) (base := base) T Z
  have G_row_after := ok_row_after (P := P) (w := w) (base := base) T Z
  obtain ⟨bv, a, xs, b, ss, rfl, hb, bk, ha, hp, hlen, hok, k⟩ := h
  refine ⟨_, (pss_cons (ps_set (i := 2) sc_played.nd rfl (Or.inl rfl) (pe_lst pa_nil))
    (pss_cons (ps_set (i := 3) sc_played.nd rfl (Or.inl rfl) (pe_lst (pa_cons pe_non pa_nil)))
    (pss_cons (ps_set (i := 4) sc_played.nd rfl (Or.inl rfl) (pe_lst pa_nil))
    (pss_cons (ps_for PassesOwn.never rfl (pi_enumT rfl T.f_enumerate (pa_cons (pv 1) pa_nil)) (pg_tup rfl (pgs_cons (pg_name (i := 5) sc_played.nd rfl (Or.inl rfl)) (pgs_cons (pg_name (i := 6) sc_played.nd rfl (Or.inl rfl)) pgs_nil))) (pss_cons (ps_set (i := 7) sc_played.nd rfl (Or.inl rfl) (pe_ix ix_list (pv 3) (pe_un un_neg pe_int) (fun _ _ => rfl)))
    (pss_cons (ps_if (pt_cmp (pc_notN (pv 6))) (pss_cons (ps_expr (pe_cl G_check_step hr (by decide) Gd.no rfl (pa_cons (pv 0) (pa_cons (pv 5) (pa_cons (pv 6) pa_nil)))))
    (pss_cons (ps_asg (pv 6) (pg_tup rfl (pgs_cons (pg_name (i := 8) sc_played.nd rfl (Or.inl rfl)) (pgs_cons (pg_name (i := 9) sc_played.nd rfl (Or.inl rfl)) pgs_nil))))
    (pss_cons (ps_set (i := 7) sc_played.nd rfl (Or.inl rfl) (pe_cl G_row_after hr (by decide) Gd.no rfl (pa_cons (pv 0) (pa_cons (pv 8) (pa_cons (pe_ix ix_list (pv 3) (pe_un un_neg pe_int) (fun _ _ => rfl)) (pa_cons (pv 9) pa_nil))))))
    (pss_one (ps_expr (pe_bm PySem.F.plainAttrs_list PySem.F.slot_list_extend PySem.F.type_list_extend mt_extend (pv 4) (pa_cons (pe_cl G_entry_list hr (by decide) Gd.no rfl (pa_cons (pv 0) (pa_cons (pv 8) (pa_cons (pe_op op_add (pv 5) pe_int) (pa_cons (pe_ix ix_list (pv 3) (pe_un un_neg pe_int) (fun _ _ => rfl)) (pa_cons (pv 7) pa_nil)))))) pa_nil))))))) pss_nil)
    (pss_cons (ps_expr (pe_bm PySem.F.plainAttrs_list PySem.F.slot_list_append PySem.F.type_list_append mt_append (pv 2) (pa_cons (pe_ifExp (pt_cmp (pc_isN (pv 6))) pe_non (pe_tup (pa_cons (pe_ix ix_tup (pv 6) pe_int (fun _ _ => rfl)) (pa_cons (pe_callTy call_dictD rfl T.f_dict boot_dict (pa_cons (pe_ix ix_tup (pv 6) pe_int (fun _ _ => rfl)) pa_nil)) pa_nil)))) pa_nil)))
    (pss_one (ps_expr (pe_bm PySem.F.plainAttrs_list PySem.F.slot_list_append PySem.F.type_list_append mt_append (pv 3) (pa_cons (pv 7) pa_nil))))))))
    (pss_one (ps_ret (pe_tup (pa_cons (pv 2) (pa_cons (pv 3) (pa_cons (pv 4) pa_nil)))))))))), ?_⟩
  have hxl : xs.length = ss.length := paired_len hp
  refine ⟨by show 0 ≤ sizeLine; decide, fun pd hpd => ⟨by show 1 ≤ sizeLine; decide, fun ps hps => ⟨by show 0 ≤ sizeLine; decide, fun pn hpn => ?_⟩⟩⟩
  have d1 : pd ≠ ps := ne_of_none (upd_same (H := H)) hps
  have d2 : ps ≠ pn := ne_of_none upd_same hpn
  have d3 : pd ≠ pn := ne_of_none (by rw [upd_ne d1]; exact upd_same) hpn
  have fd : H pd = none := hpd
  have fs : H ps = none := by have := hps; rwa [upd_ne (Ne.symm d1)] at this
  have fn : H pn = none := by have := hpn; rwa [upd_ne (Ne.symm d2), upd_ne (Ne.symm d3)] at this
  have s0 : Same H (upd (upd (upd H pd (.lst [])) ps (.lst [.non])) pn (.lst [])) := same_mut (same_mut (Same.new fd) fs) fn
  refine ⟨_, rfl, a, xs, rfl, same_tup s0 ha, for_enumT (xs := xs) (fun i σ H' => Same H H' ∧ (∃ xd xr xn, H' pd = some (.lst xd) ∧ H' ps = some (.lst xr) ∧ H' pn = some (.lst xn) ∧ Paired (IsStep H') xd (ss.take i) ∧ Paired (IsRow H') xr (standTo b ss i) ∧ Paired (IsEntry K H') xn (notedTo b ss i)) ∧
    ∃ z5 z6 z7 z8 z9, σ = [some bv, some (.ref a), some (.ref pd), some (.ref ps), some (.ref pn), z5, z6, z7, z8, z9]) ⟨s0, ⟨[], [.non], [], by rw [upd_ne d3, upd_ne d1, upd_same], by rw [upd_ne d2, upd_same], upd_same, .nil, .cons rfl .nil, .nil⟩, _, _, _, _, _, rfl⟩ (fun i σ H' _ q => same_tup q.1 ha) (fun i x σ H' t hx q ht => ?_) (fun σ H' q => ?_)⟩
  · obtain ⟨sm, ⟨xd, xr, xn, hd, hs, hn, pd1, ps1, pn1⟩, z5, z6, z7, z8, z9, rfl⟩ := q
    obtain ⟨st, hst, hxs⟩ := paired_at hp hx
    have est := stepAt_eq hst
    have hil : i < ss.length := (List.getElem?_eq_some_iff.mp hst).1
    have hi400 : i < 400 := by omega
    have smT := sm.trans (Same.new (o := .tup [.int (i : Nat), x]) ht)
    have nT : Same H' (upd H' t (.tup [.int (i : Nat), x])) := Same.new ht
    refine ⟨t, _, rfl, SqT.of upd_same, rfl, _, _, rfl, _, _, rfl, rfl, ?_⟩
    have hs1 := nT _ _ hs
    have lxr : xr.length = i + 1 := (paired_len ps1).trans (stand_len b ss i)
    have lxd : xd.length ≤ 400 := by rw [paired_len pd1, List.length_take]; omega
    have lxn : xn.length ≤ 400 := by have := noted_le b ss i; rw [paired_len pn1]; omega
    -- the last row
    have hrow : (standTo b ss i)[i]? = some (rowAt b ss i) := by
      unfold standTo
      rw [List.getElem?_map, List.getElem?_range (by omega)]
      rfl
    obtain ⟨rv, hrv, hri⟩ := paired_at' ps1 hrow
    have hlast := last_at lxr hrv
    refine ⟨_, rfl, _, rfl, ps, xr, (-1), rv, rfl, rfl, SqL.of hs1, hlast, ?_⟩
    -- the tail: what follows the if
    have tail : ∀ (H2 : Hp) (av sv : V) (z8 z9 : Option V) (xn2 : List V), Same H H2 → H2 pd = some (.lst xd) → H2 ps = some (.lst xr) → H2 pn = some (.lst xn2) → Paired (IsStep H2) xd (ss.take i) → Paired (IsRow H2) xr (standTo b ss i) → Paired (IsEntry K H2) xn2 (notedTo b ss (i + 1)) →
        IsStep H2 sv st → IsRow H2 av (rowAt b ss (i + 1)) →
        (tSeq (tDrop (tBM K "list" rAppend (tVar 2) (tCons (tIf (tB (tIsN (tVar 6))) (tC .non) (tTup (tCons (tOp (rIxT K) (tVar 6) (tC (.int 0))) (tCons (tCB (fun xs H Q => ∃ (a : Addr) (kvs : List (Key × V)), xs = [.ref a] ∧ Rd H a (.dK kvs) ∧ ∀ p, H p = none → Q (.ref p) (upd H p (.dK kvs))) (tCons (tOp (rIxT K) (tVar 6) (tC (.int 1))) tNil)) tNil)))) tNil)))
          (tDrop (tBM K "list" rAppend (tVar 3) (tCons (tVar 7) tNil)))) { nx := fun σ H' => Same H H' ∧ (∃ xd xr xn, H' pd = some (.lst xd) ∧ H' ps = some (.lst xr) ∧ H' pn = some (.lst xn) ∧ Paired (IsStep H') xd (ss.take (i + 1)) ∧ Paired (IsRow H') xr (standTo b ss (i + 1)) ∧ Paired (IsEntry K H') xn (notedTo b ss (i + 1))) ∧
            ∃ z5 z6 z7 z8 z9, σ = [some bv, some (.ref a), some (.ref pd), some (.ref ps), some (.ref pn), z5, z6, z7, z8, z9], rt := Q }
          [some bv, some (.ref a), some (.ref pd), some (.ref ps), some (.ref pn), some (.int (i : Nat)), some sv, some av, z8, z9] H2 := by
      intro H2 av sv z8 z9 xn2 sm2 hd2 hs2 hn2 q1 q2 q3 hsv hav
      have finish : ∀ (H3 : Hp) (yv : V), Same H H3 → NL H2 H3 → H3 pd = some (.lst xd) → H3 ps = some (.lst xr) → H3 pn = some (.lst xn2) → IsStep H3 yv st →
          rAppend (.ref pd) [yv] H3 fun _ H4 => (tDrop (tBM K "list" rAppend (tVar 3) (tCons (tVar 7) tNil))) { nx := fun σ H' => Same H H' ∧ (∃ xd xr xn, H' pd = some (.lst xd) ∧ H' ps = some (.lst xr) ∧ H' pn = some (.lst xn) ∧ Paired (IsStep H') xd (ss.take (i + 1)) ∧ Paired (IsRow H') xr (standTo b ss (i + 1)) ∧ Paired (IsEntry K H') xn (notedTo b ss (i + 1))) ∧
            ∃ z5 z6 z7 z8 z9, σ = [some bv, some (.ref a), some (.ref pd), some (.ref ps), some (.ref pn), z5, z6, z7, z8, z9], rt := Q }
          [some bv, some (.ref a), some (.ref pd), some (.ref ps), some (.ref pn), some (.int (i : Nat)), some sv, some av, z8, z9] H4 := by
        intro H3 yv sm3 nl3 hd3 hs3 hn3 hyv
        refine ⟨pd, xd, yv, rfl, rfl, hd3, Nat.lt_of_le_of_lt lxd (by decide), ?_⟩
        have e1 : (upd H3 pd (.lst (xd ++ [yv]))) ps = some (.lst xr) := by rw [upd_ne (Ne.symm d1)]; exact hs3
        refine ⟨_, rfl, .inl ⟨rfl, _, SqL.of e1⟩, _, rfl, ps, xr, av, rfl, rfl, e1, Nat.lt_of_le_of_lt (by omega : xr.length ≤ 401) (by decide), ?_⟩
        have nl4 : NL H2 (upd (upd H3 pd (.lst (xd ++ [yv]))) ps (.lst (xr ++ [av]))) := (nl3.trans (NL.mut hd3)).trans (NL.mut e1)
        have nl4' : NL H3 (upd (upd H3 pd (.lst (xd ++ [yv]))) ps (.lst (xr ++ [av]))) := (NL.mut hd3).trans (NL.mut e1)
        refine ⟨same_mut (same_mut sm3 fd) fs, ⟨xd ++ [yv], xr ++ [av], xn2, by rw [upd_ne d1, upd_same], upd_same, by rw [upd_ne (Ne.symm d2), upd_ne (Ne.symm d3)]; exact hn3, ?_, ?_, ?_⟩, _, _, _, _, _, rfl⟩
        · rw [take_snoc hst]
          exact paired_snoc (paired_imp (fun x y h => IsStep.nl h nl4) q1) (IsStep.nl hyv nl4')
        · rw [stand_succ]
          exact paired_snoc (paired_imp (fun x y h => IsRow.nl h nl4) q2) (IsRow.nl hav nl4)
        · exact paired_imp (fun x y h => IsEntry.nl h nl4) q3
      refine ⟨_, rfl, .inl ⟨rfl, _, SqL.of hd2⟩, _, rfl, ?_⟩
      cases hst' : st with
      | none =>
        rw [hst'] at hsv
        obtain rfl : sv = .non := hsv
        exact ⟨true, rfl, finish H2 .non sm2 (NL.refl _) hd2 hs2 hn2 (by rw [hst']; rfl)⟩
      | some p =>
        obtain ⟨n, wt⟩ := p
        rw [hst'] at hsv
        obtain ⟨sa, sx, rfl, hsa, ⟨wa, rfl, hwa⟩⟩ := hsv
        refine ⟨false, rfl, _, rfl, sa, _, 0, _, rfl, rfl, SqT.of hsa, rfl, _, rfl, sa, _, 1, _, rfl, rfl, SqT.of hsa, rfl, wa, _, rfl, .inl hwa, fun q1 hq1 => ⟨by show 2 ≤ sizeLine; decide, fun q2 hq2 => ?_⟩⟩
        have sn : Same H2 (upd (upd H2 q1 (.dK (colKV wt))) q2 (.tup [.str n, .ref q1])) := (Same.new hq1).trans (Same.new hq2)
        have q12 : q1 ≠ q2 := ne_of_none (upd_same (H := H2)) hq2
        refine finish _ (.ref q2) (sm2.trans sn) (NL.of sn) (sn _ _ hd2) (sn _ _ hs2) (sn _ _ hn2) ?_
        rw [hst']
        exact ⟨q2, .ref q1, rfl, upd_same, q1, rfl, by rw [upd_ne q12, upd_same]⟩
    have hxs1 : IsStep (upd H' t (.tup [.int (i : Nat), x])) x st := IsStep.stays.mono hxs (Core.of smT)
    have hb1 : IsBook K (upd H' t (.tup [.int (i : Nat), x])) bv b := IsBook.stays.mono hb (Core.of smT)
    have hri1 : IsRow (upd H' t (.tup [.int (i : Nat), x])) rv (rowAt b ss i) := IsRow.nl hri (NL.of nT)
    have m1 := paired_imp (fun x y h => IsStep.nl h (NL.of nT)) pd1
    have m2 := paired_imp (fun x y h => IsRow.nl h (NL.of nT)) ps1
    have m3 := paired_imp (fun x y h => IsEntry.nl h (NL.of nT)) pn1
    cases hst' : st with
    | none =>
      rw [hst'] at hxs1
      obtain rfl : x = .non := hxs1
      refine ⟨_, rfl, false, rfl, ?_⟩
      refine tail _ _ _ _ _ xn smT (nT _ _ hd) hs1 (nT _ _ hn) m1 m2 ?_ (by rw [hst']; rfl) ?_
      · rw [noted_succ, est, hst']
        show Paired _ xn (notedTo b ss i ++ [])
        rw [List.append_nil]
        exact m3
      · show IsRow _ _ (rowStep b (rowAt b ss i) (stepAt ss i))
        rw [est, hst']
        exact hri1
    | some p =>
      obtain ⟨n, wt⟩ := p
      have hso : StepOk b (rowAt b ss i) (some (n, wt)) := by have := hok i hil; rw [est, hst'] at this; exact this
      rw [hst'] at hxs1
      have hxs0 := hxs1
      obtain ⟨sa, sx, rfl, hsa, hsw⟩ := hxs1
      obtain ⟨d, tt, hf, ht', hwo, hmk⟩ := id hso
      refine ⟨_, rfl, true, rfl, ?_⟩
      refine ⟨_, rfl, _, rfl, _, rfl, bv, _, _, b, rowAt b ss i, n, wt, rfl, hb1, hxs0, hso, ?_⟩
      refine ⟨_, rfl, sa, _, rfl, SqT.of hsa, rfl, _, _, rfl, _, _, rfl, rfl, ?_⟩
      refine ⟨_, rfl, _, rfl, _, rfl, _, rfl, ps, xr, (-1), rv, rfl, rfl, SqL.of hs1, hlast, _, rfl, bv, rv, sx, b, n, rowAt b ss i, wt, rfl, hb1, bk, hri1, rowAt_ok b ss i, hsw, hso, fun av H2 sm2 hav => ?_⟩
      have smH2 := smT.trans sm2
      have nl2 := NL.of sm2
      have hd2 := sm2 _ _ (nT _ _ hd)
      have hs2 := sm2 _ _ hs1
      have hn2 := sm2 _ _ (nT _ _ hn)
      refine ⟨_, rfl, .inl ⟨rfl, _, SqL.of hn2⟩, ?_⟩
      refine ⟨_, rfl, _, rfl, _, rfl, _, _, rfl, rfl, _, rfl, _, rfl, ps, xr, (-1), rv, rfl, rfl, SqL.of hs2, hlast, _, rfl, bv, rv, av, b, n, d, (i : Int) + 1, rowAt b ss i, rowStep b (rowAt b ss i) (some (n, wt)), rfl, IsBook.stays.mono hb1 (Core.of sm2), bk, hf, IsRow.nl hri1 nl2, hav, rowAt_ok b ss i, rowStep_ok (rowAt_ok b ss i), fun ev H3 sm3 hev => ?_⟩
      obtain ⟨ea, xe, rfl, hea, pe⟩ := hev
      have hn3 := sm3 _ _ hn2
      have lxe : xe.length ≤ 1 := by rw [paired_len pe]; exact entryO_le _
      refine ⟨pn, ea, xn, xe, rfl, rfl, hn3, hea, Nat.le_trans (by omega : _ ≤ 401) (by decide), ?_⟩
      have smH3 := smH2.trans sm3
      have nl3 : NL (upd H' t (.tup [.int (i : Nat), .ref sa])) (upd H3 pn (.lst (xn ++ xe))) := (nl2.trans (NL.of sm3)).trans (NL.mut hn3)
      refine tail _ _ _ _ _ (xn ++ xe) (same_mut smH3 fn) (by rw [upd_ne d3]; exact sm3 _ _ hd2) (by rw [upd_ne d2]; exact sm3 _ _ hs2) upd_same (paired_imp (fun x y h => IsStep.nl h nl3) m1) (paired_imp (fun x y h => IsRow.nl h nl3) m2) ?_ ?_ ?_
      · rw [noted_succ, est, hst']
        exact paired_app (paired_imp (fun x y h => IsEntry.nl h nl3) m3) (paired_imp (fun x y h => IsEntry.nl h (NL.mut hn3)) pe)
      · rw [hst']
        exact IsStep.nl hxs0 nl3
      · show IsRow _ _ (rowStep b (rowAt b ss i) (stepAt ss i))
        rw [est, hst']
        exact IsRow.nl hav ((NL.of sm3).trans (NL.mut hn3))
  · obtain ⟨sm, ⟨xd, xr, xn, hd, hs, hn, pd1, ps1, pn1⟩, z5, z6, z7, z8, z9, rfl⟩ := q
    rw [hxl, List.take_length] at pd1
    rw [hxl] at ps1 pn1
    refine ⟨_, rfl, _, rfl, _, rfl, by show 3 ≤ sizeLine; decide, fun p hp => k _ _ (sm.trans (Same.new hp)) ⟨p, _, _, _, rfl, upd_same, ⟨pd, xd, rfl, Same.new hp _ _ hd, paired_imp (fun x y h => IsStep.nl h (NL.of (Same.new hp))) pd1⟩, ⟨ps, xr, rfl, Same.new hp _ _ hs, paired_imp (fun x y h => IsRow.nl h (NL.of (Same.new hp))) ps1⟩, ⟨pn, xn, rfl, Same.new hp _ _ hn, paired_imp (fun x y h => IsEntry.nl h (NL.of (Same.new hp))) pn1⟩⟩⟩
end
end Pn

-- PnE6
set_option
      maxHeartbeats 4000000
namespace Pn
open PySem PySem.Spec L2 PyProof.Rows StX ClX
/-! ### a list against the empty one -/
section
variable {X : Cx}
def rEqNil (K : PySem.W.Frag) (neg : Bool) : R2 := fun x y H Q => ∃ a b xs, x = .ref a ∧ y = .ref b ∧ SqL K H a xs ∧ SqL K H b [] ∧ Q (.bl (if neg then !xs.isEmpty else xs.isEmpty)) H
theorem op_eqNil (hu : X.A.units + 64 < cLine) : OpR X (compareOp .Eq) (rEqNil X.K false) := by
  intro pins s σ H
        x y v u Q I rx ry h
  obtain ⟨a, b, xs, rfl, rfl, ha, hb, q⟩ := h
  obtain rfl : v = Value.ref a :=
        rx
  obtain rfl : u = Value.ref b :=
        ry
  obtain ⟨us, r1, p1, _⟩ :=
        I.list ha
  obtain ⟨ws, r2, p2, _⟩ :=
        I.list hb
  cases r2
  cases r1 with
  | nil => exact SeqAt.rcP_lists (e := fun _ => true) p1.isList p2.isList rfl (by omega) (fun j h1 h2 => absurd h1 (Nat.not_lt_zero j)) _ _ ⟨.bl true, H, I, rfl, q⟩
  | cons r1 rr => exact SeqAt.RcAt.lists_lengths p1.isList p2.isList (by simp) (by omega) X.prog X.w _ _ ⟨.bl false, H, I, rfl, q⟩
theorem op_neNil (hu : X.A.units + 64 < cLine) : OpR X (compareOp .NotEq) (rEqNil X.K true) := by
  intro pins s σ H
        x y v u Q I rx ry h
  obtain ⟨a, b, xs, rfl, rfl, ha, hb, q⟩ := h
  obtain rfl : v = Value.ref a :=
        rx
  obtain rfl : u = Value.ref b :=
        ry
  obtain ⟨us, r1, p1, _⟩ :=
        I.list ha
  obtain ⟨ws, r2, p2, _⟩ :=
        I.list hb
  cases r2
  cases r1 with
  | nil => exact SeqAt.pn_rc_ne (e := fun _ => true) p1.isList p2.isList rfl (by omega) (fun j h1 h2 => absurd h1 (Nat.not_lt_zero j)) _ _ ⟨.bl false, H, I, rfl, q⟩
  | cons r1 rr => exact SeqAt.RcNeAt.lists_lengths p1.isList p2.isList (by simp) (by omega) X.prog X.w _ _ ⟨.bl true, H, I, rfl, q⟩
end
/-! ### plain -/
def lastOnes {α : Type} (keep : Option Int) (l : List α) : List α := match keep with
  | none => l
  | some k => l.drop (l.length - k.toNat)
def ddStep (acc : List Int) : Option Int → List Int
  | none => acc
  | some i => if acc.getLast? = some i then acc else acc ++ [i]
def dedup (os : List (Option Int)) : List Int := os.foldl ddStep []
def optV : Option Int → V
  | none => .non
  | some i => .int i
theorem dd_some (acc : List Int) (i : Int) : ddStep acc (some i) = if acc.getLast? = some i then acc else acc ++ [i] := rfl
theorem dedup_snoc (os : List (Option Int)) (o : Option Int) : dedup (os ++ [o]) = ddStep (dedup os) o := by unfold dedup; rw [List.foldl_append]; rfl
theorem dedup_len (os : List (Option Int)) : (dedup os).length ≤ os.length := by
  suffices h : ∀ (l : List (Option Int)) (acc : List Int), (l.foldl ddStep acc).length ≤ acc.length + l.length by have z := h os []; unfold dedup; simpa using z
  intro l
  induction l with
  | nil => intro acc; exact Nat.le_refl _
  | cons o l ih =>
    intro acc
    have h1 := ih (ddStep acc o)
    have h2 : (ddStep acc o).length ≤ acc.length + 1 := by
      cases o with
      | none => exact Nat.le_succ _
      | some i => rw [dd_some]; split; exact Nat.le_succ _; simp
    show (l.foldl ddStep (ddStep acc o)).length ≤ acc.length + (l.length + 1)
    omega
theorem cut_neg (xs : List V) (k : Int) (hk : 1 ≤ k) : cutV xs (some (-k)) none = xs.drop (xs.length - k.toNat) := by
  unfold cutV
  rw [HT.sIx_none]
  have e : HT.sIx xs.length 0 (some (-k)) = xs.length - k.toNat := by
    show (if -k < 0 then (-k + (xs.length : Int)).toNat else min (-k).toNat xs.length) = _
    rw [if_pos (by omega)]
    omega
  rw [e, List.take_of_length_le (by rw [List.length_drop]; omega)]
inductive Cell where
  | flat (v : V)
  | row (r : Row)
def IsCell (H : Hp) (v : V) : Cell → Prop
  | .flat u => v = u
  | .row r => IsRow H v r
def colV (row : Row) (c : Str) : Option Int := row.bind fun r => colGet r.2 c
def deedV (done : List Step) (m : Nat) : V := match m with
  | 0 => .non
  | m + 1 => match stepAt done m with
    | none => .non
    | some p => .str p.1
def cell (h : HistD) (tg : Str) (m : Nat) : Cell :=
  if tg = "state" then .flat (.str (stOf ((h.stand[m]?).getD none)))
  else if tg = "row" then .row ((h.stand[m]?).getD none)
  else if tg = "deed" then .flat (deedV h.done m)
  else .flat (optV (colV ((h.stand[m]?).getD none) tg))
structure HistOk (h : HistD) : Prop where
  bk : BkOk h.book
  rows : ∀ r ∈ h.stand, RowOk h.book r
  len : h.stand.length = h.done.length + 1
  few : h.done.length ≤ 400
  nfew : h.noted.length ≤ 400
  keep : ∀ k, h.book.keep = some k → 1 ≤ k
theorem IsCell.same {H H' : Hp} {v : V} {c : Cell} (h : IsCell H v c) (s : Same H H') : IsCell H' v c := by
  cases c with
  | flat u => exact h
  | row r => exact IsRow.nl h (NL.of s)
section
variable {P : Program} {w : World} {K : PySem.W.Frag}
      {mg : Str → Option Value} {base : Heap}
theorem vals_paired {α : Type} {R : V → α → Prop} {xs : List V} {l : List α} (p : Paired R xs l) {i : Nat} {x : V} (h : xs[i]? = some x) : ∃ y, l[i]? = some y ∧ R x y := paired_at p h

def r_without_repeats (K : PySem.W.Frag) : RC := fun vs _ H Q => ∃ (a : Addr) (os : List (Option Int)), vs = [.ref a] ∧ H a = some (.lst (os.map optV)) ∧ os.length ≤ 500 ∧ ∀ p H', Same H H' → H' p = some (.lst ((dedup os).map V.int)) → Q (.ref p) H'
theorem ok_without_repeats (T : Tx K mg) : Cal P w K mg base false 1 "without_repeats" (r_without_repeats K) := by
  refine cal_at T.d_without_repeats T.g_without_repeats sc_without_repeats (fun vs H Q h => by obtain ⟨_, _, rfl, _⟩ := h; rfl) (fun _ _ _ _ _ _ us hl => match us, hl with | [_], _ => rfl) fun cdv A outer s H vs Q hr _ h => ?_
  obtain ⟨a, os, rfl, ha, hlen, k⟩ := h
  refine ⟨_, (pss_cons (ps_set (i := 1) sc_without_repeats.nd rfl (Or.inl rfl) (pe_lst pa_nil))
    (pss_cons (ps_for PassesOwn.never rfl (pi_list (pv 0)) (pg_name (i := 2) sc_without_repeats.nd rfl (Or.inl rfl)) (pss_one (ps_if (PW.pt (pw_and (pt_cmp (pc_notN (pv 2))) (pw_and1 (PW.pt (pw_or (pt_cmpR (op_eqNil hr.units) (pv 1) (pe_lst pa_nil) (nomark _)) (pw_or1 (pt_cmpR op_ne (pe_ix ix_list (pv 1) (pe_un un_neg pe_int) (fun _ _ => rfl)) (pv 2) (nomark _)))))))) (pss_one (ps_expr (pe_bm PySem.F.plainAttrs_list PySem.F.slot_list_append PySem.F.type_list_append mt_append (pv 1) (pa_cons (pv 2) pa_nil)))) pss_nil)))
    (pss_one (ps_ret (pv 1))))), ?_⟩
  refine ⟨by show 0 ≤ sizeLine; decide, fun p hp => ?_⟩
  refine ⟨_, rfl, a, rfl, ⟨_, SqL.of (Same.new hp _ _ ha)⟩, for_list (xs := os.map optV) (fun i σ H' => Same H H' ∧ H' p = some (.lst ((dedup (os.take i)).map V.int)) ∧ ∃ z, σ = [some (.ref a), some (.ref p), z]) ⟨Same.new hp, upd_same, _, rfl⟩ (fun i σ H' _ q => SqL.of (q.1 _ _ ha)) (fun i x σ H' hx q => ?_) (fun σ H' q => ?_)⟩
  · obtain ⟨sm, hpl, z, rfl⟩ := q
    obtain ⟨o, ho, rfl⟩ : ∃ o, os[i]? = some o ∧ x = optV o := by
      rw [List.getElem?_map] at hx
      cases q : os[i]? with
      | none => rw [q] at hx; cases hx
      | some z => rw [q] at hx; cases hx; exact ⟨z, rfl, rfl⟩
    have et : dedup (os.take (i + 1)) = ddStep (dedup (os.take i)) o := by rw [take_snoc ho, dedup_snoc]
    have hll : (dedup (os.take i)).length ≤ 500 := by have := dedup_len (os.take i); rw [List.length_take] at this; omega
    cases o with
    | none => exact ⟨_, rfl, false, rfl, sm, by rw [et]; exact hpl, _, rfl⟩
    | some iv =>
      refine ⟨_, rfl, true, rfl, _, rfl, by show 0 ≤ sizeLine; decide, fun q hq => ?_⟩
      have hpq : p ≠ q := ne_of_none hpl hq
      have sm2 := sm.trans (Same.new (o := .lst []) hq)
      have hpl2 : (upd H' q (.lst [])) p = some (.lst ((dedup (os.take i)).map V.int)) := by rw [upd_ne hpq]; exact hpl
      have app : (dedup (os.take i)).getLast? ≠ some iv → ∃ l xs y, V.ref p = .ref l ∧ [V.int iv] = [y] ∧ (upd H' q (.lst [])) l = some (.lst xs) ∧ xs.length < sizeLine ∧ Same H (upd (upd H' q (.lst [])) l (.lst (xs ++ [y]))) ∧ (upd (upd H' q (.lst [])) l (.lst (xs ++ [y]))) p = some (.lst ((dedup (os.take (i + 1))).map V.int)) ∧ ∃ z, [some (V.ref a), some (.ref p), some (.int iv)] = [some (.ref a), some (.ref p), z] := by
        intro hne
        refine ⟨p, _, _, rfl, rfl, hpl2, by rw [List.length_map]; exact Nat.lt_of_le_of_lt hll (by decide), same_mut sm2 hp, ?_, _, rfl⟩
        rw [upd_same, et, dd_some, if_neg hne, List.map_append]
        rfl
      refine ⟨p, q, _, rfl, rfl, SqL.of hpl2, SqL.of upd_same, _, rfl, ?_⟩
      cases hd : dedup (os.take i) with
      | nil =>
        rw [hd] at app
        exact ⟨_, rfl, .inl ⟨rfl, _, SqL.of hpl2⟩, _, rfl, app (by simp)⟩
      | cons d0 dl =>
        have hne : (dedup (os.take i)) ≠ [] := by rw [hd]; simp
        obtain ⟨lst, hlst⟩ : ∃ z, (dedup (os.take i)).getLast? = some z := by
          cases e : (dedup (os.take i)).getLast? with
          | none => exact absurd (List.getLast?_eq_none_iff.mp e) hne
          | some z => exact ⟨z, rfl⟩
        have hat : atI ((dedup (os.take i)).map V.int) (-1) = some (.int lst) := by
          refine last_at (n := dl.length) (by rw [hd]; simp) ?_
          rw [List.getElem?_map]
          rw [List.getLast?_eq_getElem?] at hlst
          have e : (dedup (os.take i)).length - 1 = dl.length := by rw [hd]; simp
          rw [e] at hlst
          rw [hlst]; rfl
        refine ⟨_, rfl, _, rfl, p, _, (-1), .int lst, rfl, rfl, SqL.of hpl2, hat, _, rfl, rfl, !decide (V.int lst = V.int iv), rfl, ?_⟩
        by_cases e : lst = iv
        · subst e
          rw [decide_eq_true rfl]
          refine ⟨sm2, ?_, _, rfl⟩
          rw [hpl2, et, dd_some, if_pos hlst]
        · rw [decide_eq_false (by intro z; cases z; exact e rfl)]
          exact ⟨_, rfl, .inl ⟨rfl, _, SqL.of hpl2⟩, _, rfl, app (by rw [hlst]; intro z; cases z; exact e rfl)⟩
  · obtain ⟨sm, hpl, z, rfl⟩ := q
    rw [List.length_map, List.take_length] at hpl
    exact ⟨_, rfl, k p H' sm hpl⟩

def r_last_ones (K : PySem.W.Frag) : RC := fun vs _ H Q => ∃ (x : V) (keep : Option Int) (l : List EntryD), vs = [x, keepV keep] ∧ LOf (IsEntry K) H x l ∧ (∀ k, keep = some k → 1 ≤ k) ∧ ∀ v' H', Same H H' → LOf (IsEntry K) H' v' (lastOnes keep l) → Q v' H'
theorem ok_last_ones (T : Tx K mg) : Cal P w K mg base false 1 "last_ones" (r_last_ones K) := by
  refine cal_at T.d_last_ones T.g_last_ones sc_last_ones (fun vs H Q h => by obtain ⟨_, _, _, rfl, _⟩ := h; rfl) (fun _ _ _ _ _ _ us hl => match us, hl with | [_, _], _ => rfl) fun cdv A outer s H vs Q hr _ h => ?_
  obtain ⟨x, keep, l, rfl, ⟨a, xs, rfl, ha, pr⟩, hk, k⟩ := h
  refine ⟨_, (pss_one (ps_ret (pe_ifExp (pt_cmp (pc_isN (pv 1))) (pe_callTy call_list_of rfl T.f_list boot_list (pa_cons (pv 0) pa_nil)) (pe_slice sl_list (pv 0) (po_some (pe_un un_neg (pv 1))) po_none)))), ?_⟩
  cases keep with
  | none =>
    exact ⟨_, rfl, true, rfl, _, rfl, a, xs, rfl, .inl (SqL.of ha), fun p hp => k _ _ (Same.new hp) ⟨p, xs, rfl, upd_same, paired_imp (fun x y h => IsEntry.nl h (NL.of (Same.new hp))) pr⟩⟩
  | some kk =>
    refine ⟨_, rfl, false, rfl, _, rfl, _, rfl, _, rfl, _, rfl, a, xs, rfl, SqL.of ha, fun p hp => k _ _ (Same.new hp) ⟨p, _, rfl, upd_same, ?_⟩⟩
    rw [cut_neg xs kk (hk kk rfl)]
    show Paired _ _ (l.drop (l.length - kk.toNat))
    rw [paired_len pr]
    exact paired_drop _ (paired_imp (fun x y h => IsEntry.nl h (NL.of (Same.new hp))) pr)

/-! ### a history's properties and methods -/
theorem hs_parts {H : Hp} {v : V} {h : HistD} (i : IsHist K H v h) : ∃ a dx fs b d s n, v = .ref a ∧ H a = some (.ins (He.ga K "History") dx fs) ∧ fs.lookup ("book" : Str) = some b ∧ fs.lookup ("done" : Str) = some d ∧ fs.lookup ("stand" : Str) = some s ∧ fs.lookup ("noted" : Str) = some n ∧
    fs.lookup ("told" : Str) = none ∧ fs.lookup ("past" : Str) = none ∧ fs.lookup ("course" : Str) = none ∧ IsBook K H b h.book ∧ LOf IsStep H d h.done ∧ LOf IsRow H s h.stand ∧ LOf (IsEntry K) H n h.noted := by
  obtain ⟨a, dx, b, d, s, n, rfl, ha, p1, p2, p3, p4⟩ := i
  exact ⟨a, dx, _, b, d, s, n, rfl, ha, rfl, rfl, rfl, rfl, rfl, rfl, rfl, p1, p2, p3, p4⟩
def r_log (K : PySem.W.Frag) : RC := fun vs _ H Q => ∃ (v : V) (h : HistD), vs = [v] ∧ IsHist K H v h ∧ ∀ v' H', Same H H' → LOf (IsEntry K) H' v' h.noted → Q v' H'
theorem ok_log (T : Tx K mg) : CallP P w K mg base false 1 (He5.wf K (He.ga K "History") "property" "log") [] (r_log K) := by
  refine call_at T.d_History_log sc_History_log (n := 1) rfl (fun vs zs H Q h => by obtain ⟨_, _, rfl, _⟩ := h; rfl) (fun _ _ _ _ _ _ us ws hl hw => match us, hl, ws, hw with | [_], _, [], _ => rfl) fun cdv A outer s H vs zs Q hr _ hz h => ?_
  obtain ⟨v, h, rfl, hh, k⟩ := h
  obtain rfl : zs = [] := List.length_eq_zero_iff.mp hz
  refine ⟨_, (pss_one (ps_ret (pe_callTy call_list_of rfl T.f_list boot_list (pa_cons (pe_fld (pv 0) rfl) pa_nil)))), ?_⟩
  obtain ⟨a, dx, fs, b, d, s, n, rfl, ha, l1, l2, l3, l4, _, _, _, _, _, _, ⟨p, xs, rfl, hp, pr⟩⟩ := hs_parts hh
  exact ⟨_, rfl, a, _, dx, fs, _, rfl, ha, T.c_History, T.n_History_noted, l4, p, xs, rfl, .inl (SqL.of hp), fun q hq => k _ _ (Same.new hq) ⟨q, xs, rfl, upd_same, paired_imp (fun x y h => IsEntry.nl h (NL.of (Same.new hq))) pr⟩⟩
def r_entries (K : PySem.W.Frag) : RC := fun vs _ H Q => ∃ (v : V) (h : HistD), vs = [v] ∧ IsHist K H v h ∧ HistOk h ∧ ∀ v' H', Same H H' → LOf (IsEntry K) H' v' (lastOnes h.book.keep h.noted) → Q v' H'
theorem ok_entries (T : Tx K mg) : CallP P w K mg base false 2 (He5.wf K (He.ga K "History") "property" "entries") [] (r_entries K) := by
  refine call_at T.d_History_entries sc_History_entries (n := 1) rfl (fun vs zs H Q h => by obtain ⟨_, _, rfl, _⟩ := h; rfl) (fun _ _ _ _ _ _ us ws hl hw => match us, hl, ws, hw with | [_], _, [], _ => rfl) fun cdv A outer s H vs zs Q hr _ hz h => ?_
  have G_last_ones := ok_last_ones (P := P) (w := w) (base := base) T
  obtain ⟨v, h, rfl, hh, ho, k⟩ := h
  obtain rfl : zs = [] := List.length_eq_zero_iff.mp hz
  refine ⟨_, (pss_one (ps_ret (pe_cl G_last_ones hr (by decide) Gd.no rfl (pa_cons (pe_fld (pv 0) rfl) (pa_cons (pe_fld (pe_fld (pv 0) rfl) rfl) pa_nil))))), ?_⟩
  obtain ⟨a, dx, fs, b, d, s, n, rfl, ha, l1, l2, l3, l4, _, _, _, ⟨ba, bdx, c, st, dd, nn, rfl, hba, _⟩, _, _, hn⟩ := hs_parts hh
  exact ⟨_, rfl, a, _, dx, fs, _, rfl, ha, T.c_History, T.n_History_noted, l4, _, rfl, a, _, dx, fs, _, rfl, ha, T.c_History, T.n_History_book, l1, ba, _, bdx, _, _, rfl, hba, T.c_Book, T.n_Book_keep, rfl, n, h.book.keep, h.noted, rfl, hn, ho.keep, k⟩
def r_hrow (K : PySem.W.Frag) : RC := fun vs _ H Q => ∃ (v : V) (h : HistD) (r : Row), vs = [v] ∧ IsHist K H v h ∧ HistOk h ∧ h.stand[h.done.length]? = some r ∧ ∀ v' H', Same H H' → IsRow H' v' r → Q v' H'
theorem ok_hrow (T : Tx K mg) : CallP P w K mg base false 2 (He5.wf K (He.ga K "History") "property" "row") [] (r_hrow K) := by
  refine call_at T.d_History_row sc_History_row (n := 1) rfl (fun vs zs H Q h => by obtain ⟨_, _, _, rfl, _⟩ := h; rfl) (fun _ _ _ _ _ _ us ws hl hw => match us, hl, ws, hw with | [_], _, [], _ => rfl) fun cdv A outer s H vs zs Q hr _ hz h => ?_
  have G_copy_row := ok_copy_row (P := P) (w := w) (base := base) T
  obtain ⟨v, h, r, rfl, hh, ho, hr', k⟩ := h
  obtain rfl : zs = [] := List.length_eq_zero_iff.mp hz
  refine ⟨_, (pss_one (ps_ret (pe_cl G_copy_row hr (by decide) Gd.no rfl (pa_cons (pe_ix ix_list (pe_fld (pv 0) rfl) (pe_un un_neg pe_int) (fun _ _ => rfl)) pa_nil)))), ?_⟩
  obtain ⟨a, dx, fs, b, d, s, n, rfl, ha, l1, l2, l3, l4, _, _, _, _, _, ⟨p, xs, rfl, hp, pr⟩, _⟩ := hs_parts hh
  obtain ⟨rv, hrv, hri⟩ := paired_at' pr hr'
  have hl : xs.length = h.done.length + 1 := (paired_len pr).trans ho.len
  exact ⟨_, rfl, a, _, dx, fs, _, rfl, ha, T.c_History, T.n_History_stand, l3, _, rfl, p, xs, (-1), rv, rfl, rfl, SqL.of hp, last_at hl hrv, rv, r, rfl, hri, k⟩
def r_hlen (K : PySem.W.Frag) : RC := fun vs _ H Q => ∃ (v : V) (h : HistD), vs = [v] ∧ IsHist K H v h ∧ Q (.int h.done.length) H
theorem ok_hlen (T : Tx K mg) : CallP P w K mg base false 1 (He.ma K (He.ga K "History") "__len__") [] (r_hlen K) := by
  refine call_at T.d_Historyu_lenu sc_Historyu_lenu (n := 1) rfl (fun vs zs H Q h => by obtain ⟨_, _, rfl, _⟩ := h; rfl) (fun _ _ _ _ _ _ us ws hl hw => match us, hl, ws, hw with | [_], _, [], _ => rfl) fun cdv A outer s H vs zs Q hr _ hz h => ?_
  obtain ⟨v, h, rfl, hh, k⟩ := h
  obtain rfl : zs = [] := List.length_eq_zero_iff.mp hz
  refine ⟨_, (pss_one (ps_ret (pe_callB call_len_seq rfl T.f_len boot_len (pa_cons (pe_fld (pv 0) rfl) pa_nil)))), ?_⟩
  obtain ⟨a, dx, fs, b, d, s, n, rfl, ha, l1, l2, l3, l4, _, _, _, _, ⟨p, xs, rfl, hp, pr⟩, _, _⟩ := hs_parts hh
  refine ⟨_, rfl, a, _, dx, fs, _, rfl, ha, T.c_History, T.n_History_done, l2, p, xs, rfl, .inl (SqL.of hp), ?_⟩
  rw [paired_len pr]
  exact k
def r_told (K : PySem.W.Frag) : RC := fun vs _ H Q => ∃ (v : V) (h : HistD) (tg : Str) (m : Nat), vs = [v, .str tg, .int m] ∧ IsHist K H v h ∧ HistOk h ∧ m < h.stand.length ∧ (tg ∈ h.book.cols ∨ tg = "state" ∨ tg = "row" ∨ tg = "deed") ∧ ∀ v' H', Same H H' → IsCell H' v' (cell h tg m) → Q v' H'
theorem ok_told (T : Tx K mg) : CallP P w K mg base false 2 (He.ma K (He.ga K "History") "told") [] (r_told K) := by
  refine call_at T.d_History_told sc_History_told (n := 3) rfl (fun vs zs H Q h => by obtain ⟨_, _, _, _, rfl, _⟩ := h; rfl) (fun _ _ _ _ _ _ us ws hl hw => match us, hl, ws, hw with | [_, _, _], _, [], _ => rfl) fun cdv A outer s H vs zs Q hr _ hz h => ?_
  have G_copy_row := ok_copy_row (P := P) (w := w) (base := base) T
  have G_state_of := ok_state_of (P := P) (w := w) (base := base) T
  obtain ⟨v, h, tg, m, rfl, hh, ho, hm, htg, k⟩ := h
  obtain rfl : zs = [] := List.length_eq_zero_iff.mp hz
  refine ⟨_, (pss_cons (ps_set (i := 3) sc_History_told.nd rfl (Or.inl rfl) (pe_ix ix_list (pe_fld (pv 0) rfl) (pv 2) (fun _ _ => rfl)))
    (pss_cons (ps_if (pt_cmpR op_eq (pv 1) pe_str (nomark _)) (pss_one (ps_ret (pe_cl G_state_of hr (by decide) Gd.no rfl (pa_cons (pv 3) pa_nil)))) pss_nil)
    (pss_cons (ps_if (pt_cmpR op_eq (pv 1) pe_str (nomark _)) (pss_one (ps_ret (pe_cl G_copy_row hr (by decide) Gd.no rfl (pa_cons (pv 3) pa_nil)))) pss_nil)
    (pss_cons (ps_if (pt_cmpR op_eq (pv 1) pe_str (nomark _)) (pss_cons (ps_set (i := 4) sc_History_told.nd rfl (Or.inl rfl) (pe_ifExp (pt_cmpR op_eq (pv 2) pe_int (nomark _)) pe_non (pe_ix ix_list (pe_fld (pv 0) rfl) (pe_op op_sub (pv 2) pe_int) (fun _ _ => rfl))))
    (pss_one (ps_ret (pe_ifExp (pt_cmp (pc_isN (pv 4))) pe_non (pe_ix ix_tup (pv 4) pe_int (fun _ _ => rfl)))))) pss_nil)
    (pss_one (ps_ret (pe_ifExp (pt_cmp (pc_isN (pv 3))) pe_non (pe_dget (hu_of hr) (pv 3) (pv 1) (fun _ _ => rfl))))))))), ?_⟩
  obtain ⟨a, dx, fs, b, d, s, n, rfl, ha, l1, l2, l3, l4, _, _, _, _, ⟨pd, xd, rfl, hpd, prd⟩, ⟨p, xs, rfl, hp, pr⟩, _⟩ := hs_parts hh
  have hmr : h.stand[m]? = some h.stand[m] := List.getElem?_eq_getElem hm
  obtain ⟨rv, hrv, hri⟩ := paired_at' pr hmr
  have eg : (h.stand[m]?).getD none = h.stand[m] := by rw [hmr]; rfl
  refine ⟨_, rfl, a, _, dx, fs, _, rfl, ha, T.c_History, T.n_History_stand, l3, _, rfl, p, xs, m, rv, rfl, rfl, SqL.of hp, atI_nat hrv, ?_⟩
  refine ⟨_, rfl, rfl, decide (V.str tg = V.str "state"), rfl, ?_⟩
  by_cases e1 : tg = "state"
  · subst e1
    rw [decide_eq_true rfl]
    refine ⟨_, rfl, rv, _, rfl, hri, k _ _ (Same.refl H) ?_⟩
    unfold cell
    rw [if_pos rfl, eg]
    rfl
  rw [decide_eq_false (by intro z; cases z; exact e1 rfl)]
  refine ⟨_, rfl, rfl, decide (V.str tg = V.str "row"), rfl, ?_⟩
  by_cases e2 : tg = "row"
  · subst e2
    rw [decide_eq_true rfl]
    refine ⟨_, rfl, rv, _, rfl, hri, fun v' H' sm hv' => k _ _ sm ?_⟩
    unfold cell
    rw [if_neg e1, if_pos rfl, eg]
    exact hv'
  rw [decide_eq_false (by intro z; cases z; exact e2 rfl)]
  refine ⟨_, rfl, rfl, decide (V.str tg = V.str "deed"), rfl, ?_⟩
  by_cases e3 : tg = "deed"
  · subst e3
    rw [decide_eq_true rfl]
    have ec : cell h "deed" m = .flat (deedV h.done m) := by unfold cell; rw [if_neg e1, if_neg e2, if_pos rfl]
    rw [ec] at k
    refine ⟨_, rfl, rfl, decide (V.int (m : Int) = V.int 0), rfl, ?_⟩
    cases m with
    | zero => exact ⟨_, rfl, true, rfl, k _ _ (Same.refl H) rfl⟩
    | succ m =>
      rw [decide_eq_false (by intro z; injection z with z; omega)]
      have hml : m < h.done.length := by have := ho.len; omega
      have hms : h.done[m]? = some h.done[m] := List.getElem?_eq_getElem hml
      obtain ⟨sv, hsv, hsi⟩ := paired_at' prd hms
      have es := stepAt_eq hms
      have ei : ((m + 1 : Nat) : Int) - 1 = (m : Int) := by omega
      refine ⟨_, rfl, a, _, dx, fs, _, rfl, ha, T.c_History, T.n_History_done, l2, _, rfl, _, _, rfl, rfl, pd, xd, _, sv, rfl, rfl, SqL.of hpd, by rw [ei]; exact atI_nat hsv, ?_⟩
      have ed : deedV h.done (m + 1) = match h.done[m] with | none => .non | some p => .str p.1 := by
        show (match stepAt h.done m with | none => V.non | some p => .str p.1) = _
        rw [es]
      rw [ed] at k
      cases hst : h.done[m] with
      | none =>
        rw [hst] at hsi k
        obtain rfl : sv = .non := hsi
        exact ⟨_, rfl, true, rfl, k _ _ (Same.refl H) rfl⟩
      | some pp =>
        rw [hst] at hsi k
        obtain ⟨sa, sx, rfl, hsa, _⟩ := hsi
        exact ⟨_, rfl, false, rfl, _, rfl, sa, _, 0, _, rfl, rfl, SqT.of hsa, rfl, k _ _ (Same.refl H) rfl⟩
  rw [decide_eq_false (by intro z; cases z; exact e3 rfl)]
  have hc : tg ∈ h.book.cols := by rcases htg with h1 | h1 | h1 | h1; exact h1; exact absurd h1 e1; exact absurd h1 e2; exact absurd h1 e3
  have ec : cell h tg m = .flat (optV (colV (h.stand[m]) tg)) := by unfold cell; rw [if_neg e1, if_neg e2, if_neg e3, eg]
  rw [ec] at k
  have hro := ho.rows _ (List.getElem_mem hm)
  cases hst : h.stand[m] with
  | none =>
    rw [hst] at hri k
    obtain rfl : rv = .non := hri
    exact ⟨_, rfl, true, rfl, k _ _ (Same.refl H) rfl⟩
  | some r =>
    rw [hst] at hri k hro
    obtain ⟨ra, rfl, hra⟩ := hri
    obtain ⟨iv, hiv⟩ := colGet_some (w := r.2) (c := tg) (by rw [show r.2.map (·.1) = h.book.cols from hro]; exact hc)
    have hg := rowGet hra tg
    rw [valV_row r tg e1, hiv] at hg
    refine ⟨_, rfl, false, rfl, _, rfl, _, rfl, ra, _, rfl, hg, k _ _ (Same.refl H) ?_⟩
    show V.int iv = optV (colGet r.2 tg)
    rw [hiv]
    rfl
def IsPast (H : Hp) (v : V) (cs : List Cell) : Prop := ∃ a xs, v = .ref a ∧ H a = some (.lst xs) ∧ Paired (IsCell H) xs cs
def cells (h : HistD) (tg : Str) : List Cell := (List.range h.stand.length).map (cell h tg)
theorem IsHist.same {H H' : Hp} {v : V} {h : HistD} (i : IsHist K H v h) (s : Same H H') : IsHist K H' v h := IsHist.stays.mono i (Core.of s)
def r_past (K : PySem.W.Frag) : RC := fun vs _ H Q => ∃ (v : V) (h : HistD) (tg : Str), vs = [v, .str tg] ∧ IsHist K H v h ∧ HistOk h ∧ (tg ∈ h.book.cols ∨ tg = "state" ∨ tg = "row" ∨ tg = "deed") ∧ ∀ v' H', Same H H' → IsPast H' v' (cells h tg) → Q v' H'
theorem ok_past (T : Tx K mg) : CallP P w K mg base false 3 (He.ma K (He.ga K "History") "past") [] (r_past K) := by
  refine call_at T.d_History_past sc_History_past (n := 2) rfl (fun vs zs H Q h => by obtain ⟨_, _, _, rfl, _⟩ := h; rfl) (fun _ _ _ _ _ _ us ws hl hw => match us, hl, ws, hw with | [_, _], _, [], _ => rfl) fun cdv A outer s H vs zs Q hr _ hz h => ?_
  have G_check_target := ok_check_target (P := P) (w := w) (base := base) T
  obtain ⟨v, h, tg, rfl, hh, ho, htg, k⟩ := h
  obtain rfl : zs = [] := List.length_eq_zero_iff.mp hz
  refine ⟨_, (pss_cons (ps_expr (pe_cl G_check_target hr (by decide) Gd.no rfl (pa_cons (pe_fld (pv 0) rfl) (pa_cons (pv 1) pa_nil))))
    (pss_one (ps_ret (pe_lc (own := [("moment", 2)]) rfl sc_History_past.nd (pi_range1 rfl T.f_range (pa_cons (pe_callB call_len_seq rfl T.f_len boot_len (pa_cons (pe_fld (pv 0) rfl) pa_nil)) pa_nil)) (blkOk_by rfl) (fun _ _ _ _ _ => pg_name (i := 2) sc_History_past.nd rfl (Or.inl rfl)) (fun _ _ _ _ _ => pts_nil) (fun _ _ _ _ _ => (pe_methP (ok_told T) (hr.mono (by decide)) Gd.no T.c_History T.m_History_told (pv 0) (pa_cons (pv 1) (pa_cons (pv 2) pa_nil)))))))), ?_⟩
  have hh0 := hh
  obtain ⟨a, dx, fs, b, d, s, n, rfl, ha, l1, l2, l3, l4, l5, l6, l7, hb, _, ⟨p, xs, rfl, hp, pr⟩, _⟩ := hs_parts hh
  refine ⟨_, rfl, a, _, dx, fs, _, rfl, ha, T.c_History, T.n_History_book, l1, _, rfl, b, h.book, tg, rfl, hb, htg, fun H1 s1 => ?_⟩
  have hlx : xs.length = h.stand.length := paired_len pr
  refine ⟨_, rfl, a, _, dx, fs, _, rfl, s1 _ _ ha, T.c_History, T.n_History_stand, l3, p, xs, rfl, .inl (SqL.of (s1 _ _ hp)), (xs.length : Int), rfl, by omega, ?_, fun D hD => ?_⟩
  · have := ho.len; have := ho.few; omega
  rw [show ((xs.length : Int)).toNat = h.stand.length from by omega]
  refine lc_range (fun i H2 => Same H1 H2 ∧ ∃ ys, H2 D = some (.lst ys) ∧ Paired (IsCell H2) ys ((List.range i).map (cell h tg))) ⟨Same.new hD, [], upd_same, .nil⟩ (fun i H2 hi q => ?_) (fun H2 q => ?_)
  · obtain ⟨sm, ys, hys, py⟩ := q
    refine ⟨rfl, _, rfl, a, dx, fs, rfl, sm _ _ (s1 _ _ ha), l5, _, rfl, _, rfl, _, h, tg, i, ?_, hh0.same (s1.trans sm), ho, hi, htg, fun v' H3 s3 hc => ?_⟩
    · show [V.ref a, .str tg, .int (0 + (i : Int))] = _
      rw [Int.zero_add]
    have hy3 := s3 _ _ hys
    have lys : ys.length ≤ 500 := by rw [paired_len py, List.length_map, List.length_range]; have := ho.len; have := ho.few; omega
    refine ⟨ys, hy3, Nat.lt_of_le_of_lt lys (by decide), same_mut (sm.trans s3) hD, _, upd_same, ?_⟩
    rw [List.range_succ, List.map_append]
    have nl := NL.mut (o := .lst (ys ++ [v'])) hy3
    have cc : ∀ x y, IsCell H3 x y → IsCell (upd H3 D (.lst (ys ++ [v']))) x y := fun x y z => by
      cases y with
      | flat u => exact z
      | row r => exact IsRow.nl z nl
    exact paired_snoc (paired_imp (fun x y z => cc _ _ (IsCell.same z s3)) py) (cc _ _ hc)
  · obtain ⟨sm, ys, hys, py⟩ := q
    exact k _ _ (s1.trans sm) ⟨D, ys, rfl, hys, py⟩
def course (h : HistD) (c : Str) : List Int := dedup (h.stand.map fun r => colV r c)
def r_course (K : PySem.W.Frag) : RC := fun vs _ H Q => ∃ (v : V) (h : HistD) (c : Str), vs = [v, .str c] ∧ IsHist K H v h ∧ HistOk h ∧ c ∈ h.book.cols ∧ c ≠ "row" ∧ c ≠ "deed" ∧ ∀ p H', Same H H' → H' p = some (.lst ((course h c).map V.int)) → Q (.ref p) H'
theorem ok_course (T : Tx K mg) : CallP P w K mg base false 4 (He.ma K (He.ga K "History") "course") [] (r_course K) := by
  refine call_at T.d_History_course sc_History_course (n := 2) rfl (fun vs zs H Q h => by obtain ⟨_, _, _, rfl, _⟩ := h; rfl) (fun _ _ _ _ _ _ us ws hl hw => match us, hl, ws, hw with | [_, _], _, [], _ => rfl) fun cdv A outer s H vs zs Q hr _ hz h => ?_
  have G_check_column := ok_check_column (P := P) (w := w) (base := base) T
  have G_without_repeats := ok_without_repeats (P := P) (w := w) (base := base) T
  obtain ⟨v, h, c, rfl, hh, ho, hc, e2, e3, k⟩ := h
  obtain rfl : zs = [] := List.length_eq_zero_iff.mp hz
  refine ⟨_, (pss_cons (ps_expr (pe_cl G_check_column hr (by decide) Gd.no rfl (pa_cons (pe_fld (pv 0) rfl) (pa_cons (pv 1) pa_nil))))
    (pss_one (ps_ret (pe_cl G_without_repeats hr (by decide) Gd.no rfl (pa_cons (pe_methP (ok_past T) (hr.mono (by decide)) Gd.no T.c_History T.m_History_past (pv 0) (pa_cons (pv 1) pa_nil)) pa_nil))))), ?_⟩
  have e1 : c ≠ "state" := fun e => ho.bk.st (e ▸ hc)
  have hh0 := hh
  obtain ⟨a, dx, fs, b, d, s, n, rfl, ha, l1, l2, l3, l4, l5, l6, l7, hb, _, _, _⟩ := hs_parts hh
  refine ⟨_, rfl, a, _, dx, fs, _, rfl, ha, T.c_History, T.n_History_book, l1, _, rfl, b, h.book, c, rfl, hb, hc, ?_⟩
  refine ⟨_, rfl, a, dx, fs, rfl, ha, l6, _, rfl, _, h, c, rfl, hh0, ho, .inl hc, fun v' H1 s1 hp => ?_⟩
  obtain ⟨p, xs, rfl, hp, pr⟩ := hp
  have ex : xs = (h.stand.map fun r => colV r c).map optV := by
    have key : ∀ {ys : List V} {cs : List Cell}, Paired (IsCell H1) ys cs → ∀ os : List (Option Int), cs = os.map (fun o => Cell.flat (optV o)) → ys = os.map optV := by
      intro ys cs pp
      induction pp with
      | nil => intro os e; cases os with | nil => rfl | cons a l => cases e
      | cons hh _ ih =>
        intro os e
        cases os with
        | nil => cases e
        | cons a l =>
          injection e with e1 e2
          subst e1
          rw [ih l e2, show _ = optV a from hh]
          rfl
    refine key pr _ ?_
    unfold cells
    rw [List.map_map]
    refine List.ext_getElem
          (by simp) fun i h1 h2 => ?_
    simp only [List.getElem_map, List.getElem_range]
    have hil : i < h.stand.length := by simpa using h2
    unfold cell
    rw [if_neg e1, if_neg e2, if_neg e3, List.getElem?_eq_getElem hil]
    rfl
  rw [ex] at hp
  refine ⟨p, _, rfl, hp, ?_, fun q H2 s2 hq => k q H2 (s1.trans s2) hq⟩
  rw [List.length_map]
  have := ho.len; have := ho.few; omega
end
end Pn

-- PnI
set_option
      maxHeartbeats 4000000
namespace PySem.W
open PySem PySem.Calls
      PyProof.Rows
section
variable {prog : Program} {w : World} {A : Around} {E : Value → Shared → Prop} {s : Shared} {β : Type}
      {vs : List Value} {bs : List β} {R : Value → β → Prop}
def PnHas (h : Heap) (l : Addr) (vs : List Value) : Prop := ∃ (o : Obj) (T : String) (n : Nat), (T = "list" ∨ T = "tuple") ∧ h.get? l = some o ∧ o.cls = .type T ∧ o.data = .seq vs.toArray n
/-- sorted of a list or a tuple is list.sort on a new list of its items -/
theorem pn_sorted {l : Addr} {kw : List (Str × Value)} {Q : Value → Shared → Prop} (hl : PnHas s.heap l vs) (hL : vs.length ≤ sizeLine) (ha1 : argsOk "sorted" ⟨[.ref l], kw⟩) (ha2 : ∀ x, argsOk "list.sort" ⟨[.ref x], kw⟩)
    (body : ∀ (E' : Value → Shared → Prop) (h' : Heap), (∀ b o, s.heap.get? b = some o → h'.get? b = some o) →
      wpAny (model prog w) A.in1.in1 (Builtin.«list.sort» ⟨[.ref h'.objs.size], kw⟩) (fun f s' => f = .done (.ret .none) ∧ Q (.ref h'.objs.size) s') E' { s with heap := h'.push (seqObj "list" vs.toArray 0) }) :
    wpAny (model prog w) A
          (call (.builtin "sorted") [.ref l] kw) Q E s := by
  obtain ⟨o, T, n, hT, ho, hc, hd⟩ := hl
  refine call_function_entry_kw kind_sorted
        plain_sorted entry_sorted ha1 ?_
  unfold Builtin.«sorted»
  refine wpAny_bind (m :=
        checkCount "sorted" 1 1 _) (wpAny_pure ?_)
  refine wpAny_bind (wpAny_collect_seq l hT ho hc hd (fun h' hk => ?_) (by simpa using hL))
  rw [show vs.toArray.toList = vs by simp]
  refine wpAny_bind
        (wpAny_newList ?_ hL)
  have at_ : (h'.push (seqObj "list" vs.toArray 0)).get? h'.objs.size = some (seqObj "list" vs.toArray 0) := Heap.get?_push_size _ rfl
  show wpAny _ _ _ _ _ { s with heap := h'.push (seqObj "list" vs.toArray 0) }
  refine wpAny_bind (wpAny_holding (wpAny_call_entry_kw slot_list_sort ⟨_, at_, rfl⟩ entry_list_sort ?body (ha2 _)))
  case body =>
    show wpAny (model prog w) A.in1.in1 (Builtin.«list.sort» ⟨[.ref h'.objs.size], kw⟩) _ _ _
    refine wpAny_mono (body _ h' hk) (fun f s' hf => ?_) fun _ _ e => e
    obtain ⟨rfl, hq⟩ := hf
    exact ⟨_, rfl,
          wpAny_pure ⟨_, rfl, hq⟩⟩
theorem pn_sorted_data {enc : β → PyData} {l : Addr} {Q : Value → Shared → Prop} (hl : PnHas s.heap l vs) (e : EachIs R vs bs) (er : EachIs (fun v b => ∃ as, Reads s.heap v (enc b) as) vs bs) (hal : AllAlike (bs.map enc)) (hk : Sortable (bs.map enc)) (hL : bs.length ≤ sizeLine)
    (hu : ∀ b,
          b ∈ bs → A.units + 2 + (enc b).depth < cLine)
    (h : ∀ (h' h2 : Heap) (out : List Value) (c : Nat), (∀ b o, s.heap.get? b = some o → h'.get? b = some o) → (∀ b o, h'.get? b = some o → h2.get? b = some o) → h2.get? h'.objs.size = some (seqObj "list" (List.toArray out) c) → out.length = bs.length → EachIs R out (bs.mergeSort (dataLe false enc)) →
      Q (.ref h'.objs.size) { s with heap := h2 }) :
    wpAny (model prog w) A
          (call (.builtin "sorted") [.ref l]) Q E s := by
  refine pn_sorted hl (by rw [e.length]; exact hL) (args_sorted1 _) (fun _ => args_list_sort _) fun E' h' hk' => ?_
  have at_ : (h'.push (seqObj "list" vs.toArray 0)).get? h'.objs.size = some (seqObj "list" vs.toArray 0) := Heap.get?_push_size _ rfl
  have old : ∀ b o, s.heap.get? b = some o → (sortingHeap (h'.push (seqObj "list" vs.toArray 0)) h'.objs.size vs).get? b = some o := fun b o q => sortingHeap_old (Nat.ne_of_lt (Heap.lt_size (hk' b o q))) (Heap.get?_push_of_some _ (hk' b o q))
  have er' : EachIs (fun v b => ∃ as, Reads (sortingHeap (h'.push (seqObj "list" vs.toArray 0)) h'.objs.size vs) v (enc b) as) vs bs := er.mono fun _ _ ⟨as, r⟩ => ⟨as, PyProof.Rows.Reads.keeps old r⟩
  refine list_sort_vals (s := { s with heap := h'.push (seqObj "list" vs.toArray 0) }) at_ (SortsAt.data (s := { s with heap := sortingHeap (h'.push (seqObj "list" vs.toArray 0)) h'.objs.size vs })
    (each_map (R := fun v d => ∃ as, Reads (sortingHeap (h'.push (seqObj "list" vs.toArray 0)) h'.objs.size vs) v d as) enc er') hal hk (bound_map (A := A.in1.in1) hu)) (by rw [e.length]; exact hL) ⟨rfl, ?_⟩
  obtain ⟨c, hc⟩ := PyProof.Rows.sortedHeap_at (out := (sortVals (dataKind (sortingHeap (h'.push (seqObj "list" vs.toArray 0)) h'.objs.size vs) (bs.map enc)) false vs vs).toArray) at_
  refine h h' _ _ c hk' (fun b o q => ?_) hc (by rw [sortVals_length false rfl]; exact e.length) (sortVals_data false e er' hal)
  rw [PyProof.Rows.sortedHeap_old (Nat.ne_of_lt (Heap.lt_size q)) (Heap.lt_size (Heap.get?_push_of_some _ q))]
  exact
        Heap.get?_push_of_some _ q
theorem pn_sorted_key {k : β → PyData} {l f : Addr} {Q : Value → Shared → Prop} (hl : PnHas s.heap l vs) (e : EachIs R vs bs) (hal : AllAlike (bs.map k)) (hk : Sortable (bs.map k)) (hL : bs.length ≤ sizeLine)
    (hu : ∀ b, b ∈ bs → A.units + 2 + (k b).depth < cLine)
    (turn : ∀ (v : Value) (x : β), R v x → x ∈ bs → ∀ (h : Heap) (tk : Nat),
          (∀ b o, s.heap.get? b = some o → h.get? b = some o) →
      wpAny (model prog w) A.in1.in1 (call (.ref f) [v]) (KeyPure (k x) { s with heap := h, toks := tk }) (fun _ _ => False) { s with heap := h, toks := tk })
    (h : ∀ (h' h2 : Heap) (out : List Value) (c tk : Nat), (∀ b o, s.heap.get? b = some o → h'.get? b = some o) → (∀ b o, h'.get? b = some o → h2.get? b = some o) → h2.get? h'.objs.size = some (seqObj "list" (List.toArray out) c) → out.length = bs.length → EachIs R out (bs.mergeSort (dataLe false k)) →
      Q (.ref h'.objs.size) { s with heap := h2, toks := tk }) :
    wpAny (model prog w) A
          (call (.builtin "sorted") [.ref l] [(Str.ofString "key", .ref f)]) Q E s := by
  refine pn_sorted hl (by rw [e.length]; exact hL) (ksk_s1 _ _) (fun _ => ksk_l1 _ _) fun E' h' hk' => ?_
  have at_ : (h'.push (seqObj "list" vs.toArray 0)).get? h'.objs.size = some (seqObj "list" vs.toArray 0) := Heap.get?_push_size _ rfl
  rw [ksk_t1]
  have up : ∀ {g : Heap}, KeepsBut h'.objs.size (h'.push (seqObj "list" vs.toArray 0)) g → ∀ b o, h'.get? b = some o → g.get? b = some o := fun {g} kp b o q =>
    kp b o (Nat.ne_of_lt (Heap.lt_size q)) (Heap.get?_push_of_some _ q)
  refine keyH_tree (kz := bs.map k) (s := { s with heap := h'.push (seqObj "list" vs.toArray 0) }) at_ (by rw [List.length_map]; exact e.length.symm) (by rw [e.length]; exact hL) hal hk (bound_map (A := A.in1.in1) hu)
    (keyH_turns (s := { s with heap := h'.push (seqObj "list" vs.toArray 0) }) e fun v x hR hx h tk kp => turn v x hR hx h tk fun b o q => up kp b o (hk' b o q)) fun h2 tk out c kp hD ko => ⟨rfl, ?_⟩
  exact h h' h2 out c tk hk' (up kp) hD ((ko.length (by rw [List.length_map]; exact e.length.symm)).trans e.length) (keyedOut_each k ko e)
end
end PySem.W
namespace Pn
open PySem PySem.Spec L2 PyProof.Rows StX ClX
theorem each_of_paired {α β : Type} {F : α → β → Prop} : ∀ {xs : List α} {ys : List β}, Paired F xs ys → PySem.W.EachIs F xs ys
  | _, _, .nil => .nil
  | _, _, .cons h t => .cons h (each_of_paired t)
theorem paired_of_each {α β : Type} {F : α → β → Prop} : ∀ {xs : List α} {ys : List β}, PySem.W.EachIs F xs ys → Paired F xs ys
  | _, _, .nil => .nil
  | _, _, .cons h t => .cons h (paired_of_each t)
theorem has_seq {X : Cx} {pins : List (Addr × Obj)} {σ : L2.St} {H : Hp} {s : Shared} {a : Addr} {xs : List V} (I : Inv X pins σ H s) (h : SqL X.K H a xs ∨ SqT X.K H a xs) : ∃ its : List Value, Vals xs its ∧ PySem.W.PnHas s.heap a its ∧ xs.length ≤ sizeLine := by
  rcases h with h | h
  · obtain ⟨its, rv, p, hz⟩ := I.list h
    obtain ⟨o, ho, hc, n, hd⟩ := p.isList
    exact ⟨its, rv, ⟨o, "list", n, .inl rfl, ho, hc, hd⟩, hz⟩
  · obtain ⟨its, rv, p, hz⟩ := I.tuple h
    obtain ⟨o, ho, hc, n, hd⟩ := p
    exact ⟨its, rv, ⟨o, "tuple", n, .inr rfl, ho, hc, hd⟩, hz⟩
theorem zip_vals {β : Type} : ∀ {xs : List V} {us : List Value} {bs : List β}, Vals xs us → xs.length = bs.length → PySem.W.EachIs (fun u (b : V × β) => RelV b.1 u) us (xs.zip bs)
  | _, _, [], .nil, _ => .nil
  | _, _, _ :: _, .nil, h => by cases h
  | _, _, [], .cons _ _, h => by cases h
  | _, _, b :: bs, .cons r t, h => .cons r (zip_vals t (by simpa using h))
theorem vals_fst {β : Type} : ∀ {us : List Value} {bs : List (V × β)}, PySem.W.EachIs (fun u (b : V × β) => RelV b.1 u) us bs → Vals (bs.map (·.1)) us
  | _, _, .nil => .nil
  | _, _, .cons r t => .cons r (vals_fst t)
theorem zip_fst {α β : Type} : ∀ {xs : List α} {ys : List β}, xs.length = ys.length → (xs.zip ys).map (·.1) = xs ∧ (xs.zip ys).map (·.2) = ys
  | [], [], _ => ⟨rfl, rfl⟩
  | [], _ :: _, h => by cases h
  | _ :: _, [], h => by cases h
  | x :: xs, y :: ys, h => by
    obtain ⟨h1, h2⟩ := zip_fst (xs := xs) (ys := ys) (by simpa using h)
    exact ⟨by simp [h1], by simp [h2]⟩
theorem paired_zip_all {α β : Type} {F : α → β → Prop} : ∀ {xs : List α} {ys : List β}, Paired F xs ys → ∀ b ∈ xs.zip ys, F b.1 b.2
  | _, _, .nil, b, hb => by simp at hb
  | _, _, .cons h t,
        b, hb => by
    rcases List.mem_cons.mp
          hb with e | hb
    · rw [e]; exact h
    · exact paired_zip_all t b hb
theorem paired_of_all {α β : Type} {F : α → β → Prop} : ∀ {bs : List (α × β)}, (∀ b ∈ bs, F b.1 b.2) → Paired F (bs.map (·.1)) (bs.map (·.2))
  | [], _ => .nil
  | b :: bs, h => .cons (h b List.mem_cons_self) (paired_of_all fun c hc => h c (List.mem_cons_of_mem _ hc))
section
variable {X : Cx}
/-- sorted of pairs of texts: in some order -/
def rSortP (K : PySem.W.Frag) : List V → Hp → VK → Prop := fun vs H Q => ∃ (a : Addr) (xs : List V) (ms : List (Str × Str)), vs = [.ref a] ∧ (SqL K H a xs ∨ SqT K H a xs) ∧ Paired (IsMove H) xs ms ∧ ms.length ≤ 100 ∧
  ∀ (zs : List V) (ms' : List (Str × Str)) (p : Addr), ms'.Perm ms → Paired (IsMove H) zs ms' → H p = none → Q (.ref p) (upd H p (.lst zs))
theorem cr_sortP (hu : X.A.units + 64 < cLine) : CallR X (.builtin "sorted") (rSortP X.K) := by
  intro pins s σ H vs us Q I rv h
  obtain ⟨a, xs, ms, rfl, hs, pr, hl, k⟩ := h
  obtain rfl := Vals.ref1 rv
  obtain ⟨its, rx, has, hz⟩ := has_seq I hs
  have hxm : xs.length = ms.length := paired_len pr
  have hzz := zip_fst hxm
  have e := zip_vals rx hxm
  have mv := paired_zip_all pr
  have hlz : (xs.zip ms).length = ms.length := by rw [List.length_zip, hxm, Nat.min_self]
  refine PySem.W.pn_sorted_data (enc := fun b : V × (Str × Str) => .tuple [.str b.2.1, .str b.2.2]) has e ?_ (PySem.W.AllAlike.of fun _ _ => by simp [PySem.W.alike, PySem.W.alikeAll]) (PySem.W.Sortable.tuples fun _ => ⟨_, _, rfl⟩) (by rw [hlz]; exact Nat.le_trans hl (by decide)) (fun b _ => ?_) fun h' h2 out c k1 k2 hD hlo eo => ?_
  · have key : ∀ {us : List Value} {bs : List (V × (Str × Str))}, PySem.W.EachIs (fun u (b : V × (Str × Str)) => RelV b.1 u) us bs → (∀ b ∈ bs, IsMove H b.1 b.2) → PySem.W.EachIs (fun v (b : V × (Str × Str)) => ∃ as, Reads s.heap v (.tuple [.str b.2.1, .str b.2.2]) as) us bs := by
      intro us bs ee
      induction ee with
      | nil => intro _; exact .nil
      | @cons u b us bs r _ ih =>
        intro hm
        obtain ⟨q, eq, hq⟩ := hm b List.mem_cons_self
        have r' : RelV (.ref q) u := by rw [← eq]; exact r
        obtain rfl : u = Value.ref q := r'
        obtain ⟨its2, r2, ⟨o, ho, hc, n, hd⟩, _⟩ := I.tuple (SqT.of hq)
        refine .cons ?_ (ih fun b hb => hm b (List.mem_cons_of_mem _ hb))
        cases r2 with
        | cons ra r2 => cases r2 with
          | cons rb r2 =>
            cases r2
            obtain ⟨t1, rfl⟩ := ra
            obtain ⟨t2, rfl⟩ := rb
            exact ⟨_, .tuple ho hc hd (.cons (.str _ _) (.cons (.str _ _) .nil))⟩
    exact key e mv
  · have hd : (PyData.tuple [.str b.2.1, .str b.2.2]).depth = 1 := by simp [PyData.depth, PyData.depthAll]
    rw [hd]; omega
  · have hp := List.mergeSort_perm (xs.zip ms) (PySem.W.dataLe false fun b : V × (Str × Str) => .tuple [.str b.2.1, .str b.2.2])
    have rz := vals_fst eo
    have I1 : Inv X pins σ H { s with heap := h' } := I.kept (t' := s.toks) k1
    have hn : H h'.objs.size = none := I1.hok.fresh (Nat.le_refl _)
    have lz : (((xs.zip ms).mergeSort (PySem.W.dataLe false fun b : V × (Str × Str) => .tuple [.str b.2.1, .str b.2.2])).map (·.1)).length ≤ sizeLine := by rw [List.length_map, hp.length_eq, hlz]; exact Nat.le_trans hl (by decide)
    refine ⟨.ref _, _, I1.laid (o := .lst (((xs.zip ms).mergeSort (PySem.W.dataLe false fun b : V × (Str × Str) => .tuple [.str b.2.1, .str b.2.2])).map (·.1))) (t' := s.toks) k2 (Nat.le_refl _) ⟨lz, out, c, rz, hD⟩, rfl, k _ (((xs.zip ms).mergeSort (PySem.W.dataLe false fun b : V × (Str × Str) => .tuple [.str b.2.1, .str b.2.2])).map (·.2)) _ ?_ ?_ hn⟩
    · exact ((hp.map (·.2)).trans (by rw [hzz.2] : ((xs.zip ms).map (·.2)).Perm ms))
    · exact paired_of_all fun b hb => mv b (hp.mem_iff.mp hb)
end
end Pn

-- PnE7
set_option
      maxHeartbeats 4000000
namespace Pn
open PySem PySem.Spec L2 PyProof.Rows StX ClX
/-- all but what stands at x stays -/
def Off (x : Addr) (H H' : Hp) : Prop := ∀ a o, a ≠ x → H a = some o → H' a = some o
theorem Off.refl (x : Addr) (H : Hp) : Off x H H := fun _ _ _ h => h
theorem Off.trans {x : Addr} {H H1 H2 : Hp} (a : Off x H H1) (b : Off x H1 H2) : Off x H H2 := fun c o n h => b c o n (a c o n h)
theorem Off.of {x : Addr} {H H' : Hp} (s : Same H H') : Off x H H' := fun a o _ h => s a o h
theorem Off.set {x : Addr} {H : Hp} {o : HO} : Off x H (upd H x o) := fun a u n h => by rw [upd_ne n]; exact h
theorem Off.core {x C dx : Addr} {H H' : Hp} (h : Off x H H') (hx : H x = some (.ins C dx [])) : Core H H' := fun a o e n => by
  by_cases q : a = x
  · subst q
    rw [hx] at e
    cases e
    exact n.elim
  · exact h a o q e
/-- of data that hang on no address x -/
theorem made_same {H H' : Hp} {C x dx : Addr} (hx : H x = none) (hd : H dx = none) (h : Off x (upd (upd H dx (.own x)) x (.ins C dx [])) H') : Same H H' := fun a o e => by
  have n1 : a ≠ x := ne_of_none e hx
  have n2 : a ≠ dx := ne_of_none e hd
  exact h a o n1 (by rw [upd_ne n1, upd_ne n2]; exact e)
theorem made_up {H : Hp} {C x dx : Addr} (hx : H x = none) (hd : H dx = none) : Same H (upd (upd H dx (.own x)) x (.ins C dx [])) := fun a o e => by
  rw [upd_ne (ne_of_none e hx), upd_ne (ne_of_none e hd)]; exact e
section
variable {P : Program} {w : World} {K : PySem.W.Frag} {mg : Str → Option Value} {base : Heap} {gb : Bool} {k n : Nat} {f : Addr} {x qual : Str} {st : Stmt} {N ps ks : List Str} {pv : Str} {r : RC}
theorem star_at (F : FnAt K x qual st f) (S : FnScope N (ps ++ [pv]) (defScope st)) (hl : ps.length = n + ks.length)
    (b : ∀ (kV doc pm : Value) (an : Option Addr) (cdv ct : Value) (us rest ws : List Value), us.length = n → ws.length = ks.length →
      bindArgs (PySem.W.fnOf x qual (defArgs st) (defBody st) (defScope st) .none kV doc pm an cdv ct) ⟨us ++ rest, ks.zip ws⟩ = (newTuple rest >>= fun t => pure (ps.zip (us ++ ws) ++ [(pv, t)])))
    (hbody : ∀ (cdv : Value) (A : Around) (outer : List Env) (s : Shared) (H : Hp) (vs zs : List V) (Q : VK), Gd gb A → zs.length = ks.length → r vs zs H Q →
      ∃ us rest, vs = us ++ rest ∧ us.length = n ∧ rest.length ≤ sizeLine ∧ ∀ (s2 : Shared) (p : Addr), Room k (A.deeper (envOfC qual (defScope st) s2.heap.objs.size f cdv)) → H p = none →
        ∃ t, PSs (cxOf CX0 P w K mg base N qual (defScope st) f cdv A outer s2 (upd H p (.tup rest)) E0).nox (defBody st) t ∧ t { nx := fun _ H' => Q .non H', rt := Q } (start N (us ++ zs ++ [V.ref p])) (upd H p (.tup rest))) :
    CallP P w K mg base gb (k + 1) f ks r := by
  obtain ⟨fd, F⟩ := F
  obtain ⟨oc, od, dV, kV, doc, pm, an, cdv, ct, osl, efd, lk, hcd, hD, hK⟩ := id F.ex
  have eD : dV = .none := by
    rcases hD with ⟨_, e⟩ | ⟨e, _⟩
    · exact e
    · exact absurd rfl e
  subst eD
  subst efd
  exact call_star F S ⟨b kV doc pm an cdv ct, hl⟩ fun cdv _ => hbody cdv
end
section
variable {P : Program} {w : World} {K : PySem.W.Frag}
      {mg : Str → Option Value} {base : Heap}
def histOf (b : DataD) (ss : List Step) : HistD := ⟨b, ss, standTo b ss ss.length, notedTo b ss ss.length⟩
def r_hinit (K : PySem.W.Frag) : RC := fun vs zs H Q => ∃ (x dx : Addr) (bv : V) (items : List V) (b : DataD) (ss : List Step), vs = V.ref x :: bv :: items ∧ H x = some (.ins (He.ga K "History") dx []) ∧ IsBook K H bv b ∧ BkOk b ∧ Paired (IsStep H) items ss ∧ ss.length ≤ 400 ∧ StepsOk b ss ∧
  ∀ H', Off x H H' → IsHist K H' (.ref x) (histOf b ss) → Q .non H'
theorem ok_hinit (T : Tx K mg) (Z : Tz K) : CallP P w K mg base false 7 (He.ma K (He.ga K "History") "__init__") [] (r_hinit K) := by
  refine star_at (ps := ["self", "book"]) (pv := "steps") T.d_Historyu_initu sc_Historyu_initu (n := 2) (ks := []) rfl (fun _ _ _ _ _ _ us rest ws hl hw => match us, hl, ws, hw, rest with | [_, _], _, [], _, [] => rfl | [_, _], _, [], _, _ :: _ => rfl) fun cdv A outer s H vs zs Q _ hz h => ?_
  have G_played := ok_played (P := P) (w := w) (base := base) T Z
  obtain ⟨x, dx, bv, items, b, ss, rfl, hx, hb, bk, hi, hlen, hok, k⟩ := h
  obtain rfl : zs = [] := List.length_eq_zero_iff.mp hz
  have hil : items.length = ss.length := paired_len hi
  refine ⟨[.ref x, bv], items, rfl, rfl, Nat.le_trans (by omega : _ ≤ 400) (by decide), fun s2 p hr hp => ?_⟩
  refine ⟨_, (pss_cons (ps_if (pt_cmpR op_gt (pe_callB call_len_seq rfl T.f_len boot_len (pa_cons (pv 2) pa_nil)) (pe_gi T.i_MOST_MOMENTS rfl) (nomark _)) pss_never pss_nil)
    (pss_cons (ps_asg (pe_cl G_played hr (by decide) Gd.no rfl (pa_cons (pv 1) (pa_cons (pv 2) pa_nil))) (pg_tup rfl (pgs_cons (pg_name (i := 3) sc_Historyu_initu.nd rfl (Or.inl rfl)) (pgs_cons (pg_name (i := 4) sc_Historyu_initu.nd rfl (Or.inl rfl)) (pgs_cons (pg_name (i := 5) sc_Historyu_initu.nd rfl (Or.inl rfl)) pgs_nil)))))
    (pss_cons (ps_fld (pv 0) (pv 1) rfl)
    (pss_cons (ps_fld (pv 0) (pv 3) rfl)
    (pss_cons (ps_fld (pv 0) (pv 4) rfl)
    (pss_one (ps_fld (pv 0) (pv 5) rfl))))))), ?_⟩
  have s0 : Same H (upd H p (.tup items)) := Same.new hp
  refine ⟨_, rfl, p, items, rfl, .inr (SqT.of upd_same), _, _, rfl, rfl, decide ((400 : Int) < (items.length : Int)), rfl, ?_⟩
  rw
        [decide_eq_false (by omega)]
  refine ⟨_, rfl, _, rfl, bv, p, items, b, ss, rfl, IsBook.stays.mono hb (Core.of s0), bk, SqT.of upd_same, paired_imp (fun x y h => IsStep.nl h (NL.of s0)) hi, hlen, hok, fun v' H1 s1 hpl => ?_⟩
  obtain ⟨pa, x1, y1, z1, rfl, hpa, p1, p2, p3⟩ := hpl
  refine ⟨pa, _, rfl, SqT.of hpa, rfl, _, _, rfl, _, _, rfl, _, _, rfl, rfl, ?_⟩
  have sx := s0.trans s1
  have hx1 := sx _ _ hx
  refine ⟨_, rfl, _, rfl, x, _, dx, _, rfl, hx1, T.c_History, T.n_History_book, by decide, ?_⟩
  refine ⟨_, rfl, _, rfl, x, _, dx, _, rfl, upd_same, T.c_History, T.n_History_done, by show 1 < 1000; decide, ?_⟩
  refine ⟨_, rfl, _, rfl, x, _, dx, _, rfl, upd_same, T.c_History, T.n_History_stand, by show 2 < 1000; decide, ?_⟩
  refine ⟨_, rfl, _, rfl, x, _, dx, _, rfl, upd_same, T.c_History, T.n_History_noted, by show 3 < 1000; decide, ?_⟩
  have off : Off x H1 (upd (upd (upd (upd H1 x (.ins (He.ga K "History") dx (putF "book" bv []))) x (.ins (He.ga K "History") dx (putF "done" x1 (putF "book" bv [])))) x (.ins (He.ga K "History") dx (putF "stand" y1 (putF "done" x1 (putF "book" bv []))))) x (.ins (He.ga K "History") dx (putF "noted" z1 (putF "stand" y1 (putF "done" x1 (putF "book" bv [])))))) :=
    ((Off.set.trans Off.set).trans Off.set).trans Off.set
  refine k _ ((Off.of sx).trans off) ?_
  have cc := off.core hx1
  refine ⟨x, dx, bv, x1, y1, z1, rfl, upd_same, IsBook.stays.mono hb (Core.trans (Core.of sx) cc), (LOf.stays IsStep.stays).mono p1 cc, (LOf.stays IsRow.stays).mono p2 cc, (LOf.stays IsEntry.stays).mono p3 cc⟩
def r_hof (K : PySem.W.Frag) : RC := fun vs zs H Q => ∃ (bv lv : V) (b : DataD) (ss : List Step), vs = [.ref (He.ga K "History"), bv, lv] ∧ IsBook K H bv b ∧ BkOk b ∧ LOf IsStep H lv ss ∧ ss.length ≤ 400 ∧ StepsOk b ss ∧ ∀ v' H', Same H H' → IsHist K H' v' (histOf b ss) → Q v' H'
theorem ok_hof (T : Tx K mg) (Z : Tz K) : CallP P w K mg base false 9 (He5.wf K (He.ga K "History") "classmethod" "of") [] (r_hof K) := by
  refine call_at T.d_History_of sc_History_of (n := 3) rfl (fun vs zs H Q h => by obtain ⟨_, _, _, _, rfl, _⟩ := h; rfl) (fun _ _ _ _ _ _ us ws hl hw => match us, hl, ws, hw with | [_, _, _], _, [], _ => rfl) fun cdv A outer s H vs zs Q hr _ hz h => ?_
  obtain ⟨bv, lv, b, ss, rfl, hb, bk, ⟨p, xs, rfl, hp, pr⟩, hlen, hok, k⟩ := h
  obtain rfl : zs = [] := List.length_eq_zero_iff.mp hz
  refine ⟨_, (pss_one (ps_ret (pe_callP (call_cls T.k_History (ok_hinit T Z)) (hr.mono (by decide)) Gd.no T.k_History.kp (pv 0) (pa_cons (pv 1) (pa_star (pv 2) pa_nil)) pk_nil))), ?_⟩
  refine ⟨_, rfl, rfl, _, rfl, _, rfl, p, xs, rfl, .inr (SqL.of hp), rfl, fun x dx hx hd hne => ?_⟩
  have up := made_up (C := He.ga K "History") hx hd
  refine ⟨x, dx, bv, xs ++ [], b, ss, rfl, upd_same, IsBook.stays.mono hb (Core.of up), bk, ?_, hlen, hok, fun H' off hh => ⟨rfl, k _ _ (made_same hx hd off) hh⟩⟩
  rw [List.append_nil]
  exact paired_imp (fun x y h => IsStep.nl h (NL.of up)) pr

/-! ### notes -/
def r_ninit (K : PySem.W.Frag) : RC := fun vs zs H Q => ∃ (x dx : Addr) (o1 o2 : Addr) (n : NoteD), vs = [V.ref x] ∧ zs = [.ref o1, .ref o2, .bl n.named, .bl n.changed] ∧ H x = some (.ins (He.ga K "Note") dx []) ∧ H o1 = some (.lst (n.old.map V.str)) ∧ H o2 = some (.lst (n.new.map V.str)) ∧
  (∀ z ∈ n.old, NameOk z) ∧ n.old.Nodup ∧ n.old.length ≤ 4 ∧ (∀ z ∈ n.new, NameOk z) ∧ n.new.Nodup ∧ n.new.length ≤ 4 ∧ ∀ (H' : Hp) (old' new' : List Str), old'.Perm n.old → new'.Perm n.new → Off x H H' → IsNote K H' (.ref x) (some { n with old := old', new := new' }) → Q .non H'
theorem ok_ninit (T : Tx K mg) : CallP P w K mg base false 4 (He.ma K (He.ga K "Note") "__init__") ["old", "new", "named", "changed"] (r_ninit K) := by
  refine call_at T.d_Noteu_initu sc_Noteu_initu (n := 1) rfl (fun vs zs H Q h => by obtain ⟨_, _, _, _, _, rfl, _⟩ := h; rfl) (fun _ _ _ _ _ _ us ws hl hw => match us, hl, ws, hw with | [_], _, [_, _, _, _], _ => rfl) fun cdv A outer s H vs zs Q hr _ hz h => ?_
  have G_check_names := ok_check_names (P := P) (w := w) (base := base) T
  obtain ⟨x, dx, o1, o2, n, rfl, rfl, hx, h1, h2, a1, a2, a3, b1, b2, b3, k⟩ := h
  refine ⟨_, (pss_cons (ps_fld (pv 0) (pe_cl G_check_names hr (by decide) Gd.no rfl (pa_cons (pv 1) (pa_cons (pe_gi T.i_MOST_WORDS rfl) pa_nil))) rfl)
    (pss_cons (ps_fld (pv 0) (pe_cl G_check_names hr (by decide) Gd.no rfl (pa_cons (pv 2) (pa_cons (pe_gi T.i_MOST_WORDS rfl) pa_nil))) rfl)
    (pss_cons (ps_fld (pv 0) (pv 3) rfl)
    (pss_one (ps_fld (pv 0) (pv 4) rfl))))), ?_⟩
  refine ⟨_, rfl, o1, n.old, 4, rfl, h1, a1, a2, by omega, by decide, fun v1 H1 old' s1 p1 t1 => ?_⟩
  refine ⟨_, rfl, x, _, dx, _, rfl, s1 _ _ hx, T.c_Note, T.n_Note_old, by decide, ?_⟩
  have ne2 : o2 ≠ x := fun e => by rw [e, hx] at h2; cases h2
  have h2' : (upd H1 x (.ins (He.ga K "Note") dx (putF "old" v1 []))) o2 = some (.lst (n.new.map V.str)) := by rw [upd_ne ne2]; exact s1 _ _ h2
  refine ⟨_, rfl, o2, n.new, 4, rfl, h2', b1, b2, by omega, by decide, fun v2 H2 new' s2 p2 t2 => ?_⟩
  have hx2 := s2 _ _ (upd_same (H := H1) (a := x) (o := .ins (He.ga K "Note") dx (putF "old" v1 [])))
  refine ⟨_, rfl, x, _, dx, _, rfl, hx2, T.c_Note, T.n_Note_new, by show 1 < 1000; decide, ?_⟩
  refine ⟨_, rfl, _, rfl, x, _, dx, _, rfl, upd_same, T.c_Note, T.n_Note_named, by show 2 < 1000; decide, ?_⟩
  refine ⟨_, rfl, _, rfl, x, _, dx, _, rfl, upd_same, T.c_Note, T.n_Note_changed, by show 3 < 1000; decide, ?_⟩
  have offA : Off x H2 (upd (upd (upd H2 x (.ins (He.ga K "Note") dx (putF "new" v2 (putF "old" v1 [])))) x (.ins (He.ga K "Note") dx (putF "named" (.bl n.named) (putF "new" v2 (putF "old" v1 []))))) x (.ins (He.ga K "Note") dx (putF "changed" (.bl n.changed) (putF "named" (.bl n.named) (putF "new" v2 (putF "old" v1 [])))))) := (Off.set.trans Off.set).trans Off.set
  have off1 : Off x H1 (upd (upd (upd H2 x (.ins (He.ga K "Note") dx (putF "new" v2 (putF "old" v1 [])))) x (.ins (He.ga K "Note") dx (putF "named" (.bl n.named) (putF "new" v2 (putF "old" v1 []))))) x (.ins (He.ga K "Note") dx (putF "changed" (.bl n.changed) (putF "named" (.bl n.named) (putF "new" v2 (putF "old" v1 [])))))) := (Off.set.trans (Off.of s2)).trans offA
  refine k _ old' new' p1 p2 ((Off.of s1).trans off1) ⟨x, dx, v1, v2, rfl, upd_same, t1.core (off1.core (s1 _ _ hx)), ?_⟩
  -- v2's tuple stands in H2; x holds an instance there
  obtain ⟨p, e, hp⟩ := t2
  refine ⟨p, e, ?_⟩
  rcases hp with (hp | ⟨o, hp⟩) | hp
  · have np : p ≠ x := fun z => by rw [z, hx2] at hp; cases hp
    exact .inl (.inl (offA p _ np hp))
  · have np : p ≠ x := fun z => by rw [z, hx2] at hp; cases hp
    exact .inl (.inr ⟨o, offA p _ np hp⟩)
  · exact .inr hp

/-! ### what all deeds have -/
def r_dinit (K : PySem.W.Frag) : RC := fun vs zs H Q => ∃ (x dx C : Addr) (nm : Str) (mv cv nv : V) (ms : List (Str × Str)) (own : List Str) (nt : Option NoteD), vs = [V.ref x, .str nm, mv, cv, nv] ∧ zs = [] ∧ H x = some (.ins C dx []) ∧ Cls K C ∧ NoAttr K C "name" ∧ NoAttr K C "moves" ∧ NoAttr K C "columns" ∧ NoAttr K C "note" ∧
  (∃ a xs, mv = .ref a ∧ (SqL K H a xs ∨ SqT K H a xs) ∧ Paired (IsMove H) xs ms) ∧ ms.length ≤ 100 ∧ IsTS K H cv own ∧ IsNote K H nv nt ∧
  ∀ (H' : Hp) (ms' : List (Str × Str)) (m : V), ms'.Perm ms → Off x H H' → H' x = some (.ins C dx [("name", .str nm), ("moves", m), ("columns", cv), ("note", nv)]) → TOf K IsMove H' m ms' → IsTS K H' cv own → IsNote K H' nv nt → Q .non H'
theorem ok_dinit (T : Tx K mg) (Z : Tz K) : CallP P w K mg base false 2 (He.ma K (He.ga K "Deed") "__init__") [] (r_dinit K) := by
  refine call_at T.d_Deedu_initu sc_Deedu_initu (n := 5) rfl (fun vs zs H Q h => by obtain ⟨_, _, _, _, _, _, _, _, _, _, rfl, _⟩ := h; rfl) (fun _ _ _ _ _ _ us ws hl hw => match us, hl, ws, hw with | [_, _, _, _, _], _, [], _ => rfl) fun cdv A outer s H vs zs Q hr _ hz h => ?_
  have G_check_note := ok_check_note (P := P) (w := w) (base := base) T Z
  obtain ⟨x, dx, C, nm, mv, cv, nv, ms, own, nt, rfl, rfl, hx, cl, n1, n2, n3, n4, ⟨a, xs, rfl, ha, pr⟩, hml, hcv, hnv, k⟩ := h
  refine ⟨_, (pss_cons (ps_expr (pe_cl G_check_note hr (by decide) Gd.no rfl (pa_cons (pv 4) pa_nil)))
    (pss_cons (ps_fld (pv 0) (pv 1) rfl)
    (pss_cons (ps_fld (pv 0) (pe_callTy call_tuple_of rfl T.f_tuple boot_tuple (pa_cons (pe_callB (cr_sortP hr.units) rfl T.f_sorted boot_sorted (pa_cons (pv 2) pa_nil)) pa_nil)) rfl)
    (pss_cons (ps_fld (pv 0) (pv 3) rfl)
    (pss_one (ps_fld (pv 0) (pv 4) rfl)))))), ?_⟩
  have off1 : Off x H (upd H x (.ins C dx (putF "name" (.str nm) []))) := Off.set
  have c1 := off1.core hx
  have ha1 : SqL K (upd H x (.ins C dx (putF "name" (.str nm) []))) a xs ∨ SqT K (upd H x (.ins C dx (putF "name" (.str nm) []))) a xs := by
    have nx : ∀ o, H a = some o → (∀ C dx fs, o ≠ .ins C dx fs) → (upd H x (.ins C dx (putF "name" (.str nm) []))) a = some o := fun o e n => by
      have : a ≠ x := fun z => by rw [z, hx] at e; cases e; exact n _ _ _ rfl
      rw [upd_ne this]; exact e
    rcases ha with (h | ⟨o, h⟩) | h
    · rcases h with h | ⟨o, h⟩
      · exact .inl (.inl (.inl (nx _ h (fun _ _ _ z => by cases z))))
      · exact .inl (.inl (.inr ⟨o, nx _ h (fun _ _ _ z => by cases z)⟩))
    · exact .inl (.inr ⟨o, h⟩)
    · exact .inr (SqT.core h c1)
  refine ⟨_, rfl, nv, nt, rfl, hnv, _, rfl, _, rfl, x, C, dx, _, rfl, hx, cl, n1, by decide, ?_⟩
  refine ⟨_, rfl, a, xs, ms, rfl, ha1, paired_mono IsMove.stays c1 pr, hml, fun zs ms' p hpm hpz hp => ⟨p, zs, rfl, .inl ⟨SqL.of upd_same, fun q hq => ?_⟩⟩⟩
  have e2 : Same (upd H x (.ins C dx (putF "name" (.str nm) []))) (upd (upd (upd H x (.ins C dx (putF "name" (.str nm) []))) p (.lst zs)) q (.tup zs)) := (Same.new hp).trans (Same.new hq)
  have hx2 := e2 _ _ (upd_same (H := H) (a := x) (o := .ins C dx (putF "name" (.str nm) [])))
  refine ⟨_, rfl, x, C, dx, _, rfl, hx2, cl, n2, by show 1 < 1000; decide, ?_⟩
  refine ⟨_, rfl, _, rfl, x, C, dx, _, rfl, upd_same, cl, n3, by show 2 < 1000; decide, ?_⟩
  refine ⟨_, rfl, _, rfl, x, C, dx, _, rfl, upd_same, cl, n4, by show 3 < 1000; decide, ?_⟩
  have nqx : q ≠ x := fun z => by rw [← z] at hx2; rw [upd_same] at hx2; cases hx2
  have offE : ∀ {H1 : Hp} {u v w' : HO}, Off x H1 (upd (upd (upd H1 x u) x v) x w') := (Off.set.trans Off.set).trans Off.set
  have off := (off1.trans (Off.of e2)).trans (offE (H1 := (upd (upd (upd H x (.ins C dx (putF "name" (.str nm) []))) p (.lst zs)) q (.tup zs))) (u := .ins C dx (putF "moves" (.ref q) (putF "name" (.str nm) []))) (v := .ins C dx (putF "columns" cv (putF "moves" (.ref q) (putF "name" (.str nm) [])))) (w' := .ins C dx (putF "note" nv (putF "columns" cv (putF "moves" (.ref q) (putF "name" (.str nm) []))))))
  have c2 := off.core hx
  refine k _ ms' (.ref q) hpm off upd_same ⟨q, zs, rfl, SqT.of ?_, ?_⟩ (hcv.core c2) (IsNote.stays.mono hnv c2)
  · rw [upd_ne nqx, upd_ne nqx, upd_ne nqx, upd_same]
  · refine paired_imp (fun u m ⟨b, e, hb⟩ => ⟨b, e, ?_⟩) hpz
    have nb : b ≠ x := fun z => by rw [z, upd_same] at hb; cases hb
    exact offE b _ nb (e2 _ _ hb)
end
end Pn

-- PnS
set_option
      maxHeartbeats 4000000
namespace Pn
open PySem PySem.Spec L2 PyProof.Rows StX ClX LamX NdefX
/-- a body's statements at the def's own code -/
structure PAts (X : Cx) (c : Code) (sts : List Stmt) (t : TS) : Prop where
  run : ∀ (pins : List (Addr × Obj)) (s : Shared) (σ : L2.St) (H : Hp) (D : Ends), L2.Inv X pins σ H s → t D σ H → _root_.PySem.wpAt (model X.prog X.w) X.A c (execs sts X.env) (SP X pins D) X.xe s
theorem pat_cons {X : Cx} {c : Code} {st : Stmt} {rest : List Stmt} {t u : TS} (h1 : PS X st t) (h2 : PAts X c rest u) : PAts X c (st :: rest) (tSeq t u) := by
  refine ⟨fun pins s σ H D I h =>
        ?_⟩
  refine ks_wpAt_execs_cons (_root_.PySem.wpAt_of_wpAny (thn (h1.run pins s σ H { D with nx := u D } I h) fun fl s' hs => ?_))
  cases fl with
  | next =>
    obtain ⟨σ', H', I', q⟩ := hs
    exact h2.run pins s' σ' H' D I' q
  | brk => exact hs
  | cont => exact hs
  | ret v => exact hs
/-- what is known of the closure at f: its class D, the cell, the code object; g is what super finds -/
structure SupF (P : Program) (K : PySem.W.Frag) (x qual : Str) (st : Stmt) (f D cda cc g : Addr) : Prop where
  fn : ∃ (oc : Value) (od : Option Addr) (kV doc pm : Value) (an : Option Addr) (ct : Value) (osl : Array (Option Value)), K.lookup f = some ⟨oc, od, .func (PySem.W.ksFn x qual (defArgs st) (defBody st) (defScope st) .none kV doc pm an (.ref cda) ct cc), osl⟩
  cd : PySem.W.codeIn K (.ref cda) qual = true
  code : ∃ (ccl : Value) (cdd : Option Addr) (vs : Array Value) (ccs : Array (Option Value)) (file : Str) (tf : Tok), K.lookup cda = some ⟨ccl, cdd, .fields vs, ccs⟩ ∧ vs[2]? = some (.str file tf) ∧ ((P.main.file : Str) == file) = true
  top : (P.main.scope.names.lookup ("super" : Str)).isSome = false
  cell : ∃ (cl : Value) (cld : Option Addr) (csl : Array (Option Value)), K.lookup cc = some ⟨cl, cld, .cell (some (.ref D)), csl⟩
  cls : ∃ cdD, PySem.W.clsIn K D = some cdD
  sub : PySem.W.mroIn K D (.ref D) = some true
  opq : PySem.W.nsIn K cStatics "thirdparty.any" = some none
  meth : PySem.W.ks_superIn K D D "__init__" = some (some (.ref g))
  ty : PySem.W.typeIn K (.ref g) = some (.type "function")
  fi : PySem.W.fnIn K g = true
abbrev nfOf (x qual : Str) (st : Stmt) (cda cc : Addr) : NF := ⟨x, qual, defArgs st, defBody st, defScope st, [("__class__", cc)], cda⟩
section
variable {P : Program} {w : World} {K : PySem.W.Frag} {mg : Str → Option Value} {base : Heap} {N : List Str} {x qual : Str} {st : Stmt} {f D cda cc g : Addr} {A : Around} {outer : List Env} {s0 : Shared} {H0 : Hp}
abbrev supCx (P : Program) (w : World) (K : PySem.W.Frag) (mg : Str → Option Value) (base : Heap) (N : List Str) (x qual : Str) (st : Stmt) (f cda cc : Addr) (A : Around) (outer : List Env) (s0 : Shared) (H0 : Hp) : Cx := (ncx CX0 P w K mg base N (nfOf x qual st cda cc) f A outer s0 H0 E0).nox
abbrev supCode (st : Stmt) (x qual : Str) (f cda cc : Addr) (s0 : Shared) : Code := .func (defBody st) (envF (nfOf x qual st cda cc) f s0.heap.objs.size)
def tSup (D : Addr) (r : RC) (t : TA) : TS := fun E σ H => ∃ x dx, σ[0]? = some (some (.ref x)) ∧ H x = some (.ins D dx []) ∧ t σ H fun vs H2 => r (V.ref x :: vs) [] H2 fun _ H3 => E.nx σ H3
theorem pat_super {pl : Sem Bool} {k : Nat} {r : RC} {e : Expr} {es : List Expr} {t : TA} {p0 p1 apos pos pos' : Pos} (F : SupF P K x qual st f D cda cc g) (c : CallP P w K mg base false k g [] r) (hr : Room k (supCx P w K mg base N x qual st f cda cc A outer s0 H0).A)
    (ha : PA (supCx P w K mg base N x qual st f cda cc A outer s0 H0) (e :: es) t)
    (hself : ((defArgs st).posonlyargs ++ (defArgs st).args).head?.map (·.arg) = some ("self" : Str)) (hN : N[0]? = some ("self" : Str)) (hks : (defScope st).names.lookup ("super" : Str) = some .globalImplicit) (hkc : (defScope st).names.lookup ("__class__" : Str) = some .free) (hka : (defScope st).names.lookup ("self" : Str) = some .local) (hk : (defScope st).kind = .function)
    (hm : mg "super" = none) (hboot : bootBuiltins "super" = some (.type "super"))
    (het : eval (.Call (.Attribute (.Call (.Name "super" p0) [] [] p1) "__init__" apos) (e :: es) [] pos) (supCx P w K mg base N x qual st f cda cc A outer s0 H0).env = (do
      let ov ← attributeBase (.Call (.Name "super" p0) [] [] p1) "__init__" (supCx P w K mg base N x qual st f cda cc A outer s0 H0).env (eval (.Call (.Name "super" p0) [] [] p1) (supCx P w K mg base N x qual st f cda cc A outer s0 H0).env)
      standAt apos.atName
      let (fz, first) ← holding [ov] (getMethod ov "__init__" pl)
      callWith pos fz first (backTo pos (starEach (e :: es) (supCx P w K mg base N x qual st f cda cc A outer s0 H0).env)) []) := by rfl)
    (hsw : swapsWith (.Call (.Attribute (.Call (.Name "super" p0) [] [] p1) "__init__" apos) (e :: es) [] pos) none pos'.line (supCx P w K mg base N x qual st f cda cc A outer s0 H0).env = pure false := by rfl)
    (hst : starEach (e :: es) (supCx P w K mg base N x qual st f cda cc A outer s0 H0).env = (false, eval e (supCx P w K mg base N x qual st f cda cc A outer s0 H0).env) :: starEach es (supCx P w K mg base N x qual st f cda cc A outer s0 H0).env := by rfl)
    (hpl : (backTo pos (starEach es (supCx P w K mg base N x qual st f cda cc A outer s0 H0).env)).any (·.1) = false := by rfl) :
    PAts (supCx P w K mg base N x qual st f cda cc A outer s0 H0) (supCode st x qual f cda cc s0) [.Expr (.Call (.Attribute (.Call (.Name "super" p0) [] [] p1) "__init__" apos) (e :: es) [] pos) pos'] (tSup D r t) := by
  refine ⟨fun pins s σ H E I h => ?_⟩
  obtain ⟨y, dx, h0, hy, ht⟩ := h
  obtain ⟨oc, od, kV, doc, pm, an, ct, osl, lk⟩ := F.fn
  obtain ⟨ccl, cdd, vs, ccs, file, tf, lc, hvs, hfile⟩ := F.code
  obtain ⟨cl, cld, csl, lcell⟩ := F.cell
  obtain ⟨cdD, hcD⟩ := F.cls
  have XK : K.In s.heap := I.kIn
  obtain ⟨mA, O, _, _, _, _⟩ := ins_get I.hok hy
  obtain ⟨odd, J, _⟩ := O.look
  obtain ⟨m, hns, hloc⟩ := I.loc
  have hself' : ∃ ar, ((defArgs st).posonlyargs ++ (defArgs st).args).head? = some ar ∧ ar.arg = "self" := by
    cases q : ((defArgs st).posonlyargs ++ (defArgs st).args).head? with
    | none => rw [q] at hself; cases hself
    | some ar => rw [q] at hself; exact ⟨ar, rfl, by simpa using hself⟩
  obtain ⟨ar, har, earg⟩ := hself'
  have hv : m ("self" : Str) = some (.ref y) := by
    obtain ⟨u, ru, q⟩ := hloc 0 "self" (.ref y) hN h0 (.inl hka)
    obtain rfl : u = Value.ref y :=
          ru
    rcases q with ⟨_, q⟩ | ⟨q, _⟩
    · exact q
    · have q' : (defScope st).names.lookup ("self" : Str) = some .cell ∨ (defScope st).names.lookup ("self" : Str) = some .free := q
      rw [hka] at q'
      rcases q' with q' | q' <;> cases q'
  refine ks_wpAt_execs_cons (ks_wpAt_Expr_any (ks_wpAt_MethodCall (pl := pl) ?_ het) (I.quiet) hsw)
  obtain ⟨oD, hD1, hD2⟩ : ∃ oD, s.heap.get? D = some oD ∧ oD.data = .cls cdD := by
    unfold PySem.W.clsIn at hcD
    split at hcD
    · rename_i c d cd' sl ho
      cases hcD
      exact ⟨_, XK _ _ ho, rfl⟩
    · cases hcD
  have ne : y ≠ D := PySem.W.ks_ne XK J hcD
  refine ks_wpAt_super_base (env := envF (nfOf x qual st cda cc) f s0.heap.objs.size) hks hkc rfl rfl (XK _ _ lk) rfl har rfl (XK _ _ lc) rfl hvs hfile F.top ?_
  obtain ⟨mb, b1, b2⟩ := I.mod.blt
  refine PySem.W.ks_loadName_global hk hks (Calls.loadGlobal_builtin (env := envF (nfOf x qual st cda cc) f s0.heap.objs.size) (I.mod.glob.keeps I.bk) hm (b1.keeps I.bk) ((b2 _ (by decide)).trans hboot) ⟨rfl, ?_⟩)
  refine wpAny_loadName_free hk hkc rfl ⟨_, XK _ _ lcell, rfl⟩ ?_
  rw [earg]
  refine wpAny_loadName_local hk hka hns hv ?_
  obtain ⟨hh, gg, dd, tt, os⟩ := s
  refine ks_wpAny_isType_cls hD1 hD2 ⟨rfl,
        ?_⟩
  refine ks_wpAny_call_super hD1 hD2 J.at_ J.cls (fun c e => ?_) (PySem.W.looks_mroIn XK F.sub) (fun h' e1 k1 => ?_)
  · have := J.no
    unfold PySem.W.notCls at this
    rw [e] at this
    exact Bool.noConfusion this
  have I1 : L2.Inv (supCx P w K mg base N x qual st f cda cc A outer s0 H0) pins σ H ⟨h', gg, dd, tt, os⟩ := I.kept (t' := tt) k1
  have XK1 : K.In h' := I1.kIn
  obtain ⟨of, hof, hofc⟩ : ∃ of, h'.get? g = some of ∧ of.cls = .type "function" := by
    have ht' : (K.lookup g).map (·.cls) = some (.type "function") := F.ty
    cases z : K.lookup g with
    | none =>
          rw [z] at ht'; cases ht'
    | some of => rw [z] at ht'; exact ⟨of, XK1 _ _ z, Option.some.inj ht'⟩
  have hmeth := F.meth
  unfold PySem.W.ks_superIn at hmeth
  rw [hcD] at hmeth
  refine ks_wpAny_getMethod_super e1 (PySem.W.looks_opaque XK1 F.opq) (l₀ := cdD.mro) ?_ rfl XK1 hmeth hof hofc ne rfl ?_
  · exact fun A Q E s k q => wpAny_bind ((PySem.W.looks_clsIn XK1 hcD) A _ E s k (wpAny_pure q))
  have I2 := ClX.met_new (g := g) (C := y) I1
  refine cw_any (Ph := PySem.W.MethP K h'.objs.size g (.ref y)) (PySem.W.keeps_M F.fi) rfl (evalArgs_kw2 (kws := []) rfl (thn (ha.run pos _ _ σ H _ I2 ht) fun us s3 ⟨vs', H2, I3, rv, q2⟩ => wpAny_pure ⟨⟨ClX.pin_at I3, I3.kIn⟩, ?_⟩) hst)
  have z : wpAny (model P w) (supCx P w K mg base N x qual st f cda cc A outer s0 H0).A (call (.ref h'.objs.size) us []) (EP (supCx P w K mg base N x qual st f cda cc A outer s0 H0) ((h'.objs.size, PySem.W.methodObj (.ref g) (.ref y)) :: pins) σ (fun _ H3 => E.nx σ H3)) (supCx P w K mg base N x qual st f cda cc A outer s0 H0).xe s3 :=
    wpAny_call (PySem.W.method_call (ClX.pin_at I3) (code_callP (us := .ref y :: us) (vs := .ref y :: vs') (ws := []) (zs := []) (ks := []) c hr Gd.no I3.env0 I3 (.cons rfl rv) .nil rfl q2))
  refine thn z fun u s4 hz => ?_
  obtain ⟨v, H4, I4, _, q4⟩ := ClX.unpinE hz
  exact _root_.PySem.wpAt_of_wpAny (wpAny_pure ⟨σ, H4, I4, q4⟩)
/-- the frame made, the body run -/
theorem sup_core {k : Nat} {ps : List Str} {us : List Value} {vs : List V} {s : Shared} {H : Hp} {Q : VK} {E : Value → Shared → Prop} {R : Result → Shared → Prop} (F : SupF P K x qual st f D cda cc g) (S : NScope N ps ["__class__"] (defScope st)) (hr : Room (k + 1) A) (e0 : Env0 P w K mg base A outer s H) (rv : Vals vs us) (hl : vs.length = ps.length)
    (hR : ∀ v H' u s', s'.os = s.os → AllBare s'.gens → Un (frs outer) [] H H' s.heap s'.heap → HOk P w H' s'.heap → L2.RelV v u → Q v H' → R (.ok (.ret u)) s')
    (hbody : Room k (A.deeper (envF (nfOf x qual st cda cc) f s.heap.objs.size)) → ∃ t, PAts (supCx P w K mg base N x qual st f cda cc A outer s H) (supCode st x qual f cda cc s) (defBody st) t ∧ t { nx := fun _ H' => Q .non H', rt := Q } (startF N vs [some (.ref D)]) H) :
    wpAny (model P w) A.in1 (newFunctionEnv (defScope st) mainGlobals [("__class__", cc)] (ps.zip us) (qual ++ ".<locals>.") (some f) (.ref cda) none builtinsNs) (fun env s₂ => s₂.heap.NoLimit ∧ codeAny (model P w) A (.func (defBody st) env) R s₂) E s := by
  obtain ⟨cl, cld, csl, lcell⟩ := F.cell
  have KX : K.In s.heap :=
        e0.mod.kin.keeps fun b o e => (e0.bs b o e).1
  have lim : s.heap.NoLimit :=
        e0.mod.nolimit.keeps fun b o e => (e0.bs b o e).1
  have hcc : H cc = none := (e0.bs _ _ (e0.mod.kin _ _ lcell)).2
  have C : CellsAt [("__class__", cc)] ["__class__"] [some (V.ref D)] s.heap H := by
    refine ⟨rfl, fun y c e => ?_, fun y z c e1 e2 => ?_, fun i y e => ?_⟩
    · have : c = cc := by
        unfold List.lookup at e
        split at e
        · exact (Option.some.inj e).symm
        · cases e
      subst this
      exact ⟨hcc, _, _, KX _ _ lcell, rfl⟩
    · have h1 : y = "__class__" := by
        unfold List.lookup at e1
        split at e1
        · rename_i q; exact eq_of_beq q
        · cases e1
      have h2 : z = "__class__" := by
        unfold List.lookup at e2
        split at e2
        · rename_i q; exact eq_of_beq q
        · cases e2
      rw [h1, h2]
    · cases i with
      | zero =>
        simp at e
        subst e
        refine ⟨cc, rfl, fun v hv => ?_⟩
        simp at hv
        subst hv
        exact ⟨.ref D, rfl, _, KX _ _ lcell, rfl⟩
      | succ i => simp at e
  refine wpAny_newFunctionEnv (fun y hy => S.nocell y hy) (fun y hy => S.par y.1 (List.of_mem_zip hy).1) (fun h₁ hns hsb => ⟨lim.fresh _ hsb, ks_codeAny_funcAt ?_⟩) S.kind
  have kp : ∀ b o, s.heap.get? b = some o → h₁.get? b = some o :=
        fun b o e => hsb.extBut b o (Nat.ne_of_lt (Heap.lt_size e)) (Heap.get?_push_of_some _ e)
  have I : L2.Inv (ncx CX0 P w K mg base N (nfOf x qual st cda cc) f A outer s H E0) [] (startF N vs [some (.ref D)]) H { s with heap := h₁, toks := s.toks + (ps.zip us).length } := inv_startN S hr.hd e0 hl rv C hns kp
  obtain ⟨t, ht, hq⟩ :=
        hbody (hr.deeper _)
  refine ks_wpAt_mono (ht.run [] _ _ H _ (I.wish _) hq) (fun fl s' hs => ?_) fun e s' z => z.elim
  cases fl with
  | ret u =>
    obtain ⟨v, σ', H', J, rv, q⟩ :=
          hs
    exact hR v H' u s' J.os J.bare J.base J.hok rv q
  | next =>
    obtain ⟨σ', H', J, q⟩ := hs
    exact hR .non H' .none s' J.os J.bare J.base J.hok rfl q
  | brk =>
    obtain ⟨_, _, _, q⟩ := hs
    exact False.elim q
  | cont =>
    obtain ⟨_, _, _, q⟩ := hs
    exact False.elim q
/-- with arguments by place and by keyword -/
theorem sup_call {k n : Nat} {ps ks : List Str} {r : RC} (F : SupF P K x qual st f D cda cc g) (S : NScope N ps ["__class__"] (defScope st)) (co : (defScope st).isCoroutine = false) (gen : (defScope st).isGenerator = false) (hl : ps.length = n + ks.length) (len : ∀ vs zs H Q, r vs zs H Q → vs.length = n)
    (b : ∀ (kV doc pm : Value) (an : Option Addr) (ct : Value) (us ws : List Value), us.length = n → ws.length = ks.length →
      bindArgs (PySem.W.ksFn x qual (defArgs st) (defBody st) (defScope st) .none kV doc pm an (.ref cda) ct cc) ⟨us, ks.zip ws⟩ = pure (ps.zip (us ++ ws)))
    (hbody : ∀ (A : Around) (outer : List Env) (s : Shared) (H : Hp) (vs zs : List V) (Q : VK), Room k (A.deeper (envF (nfOf x qual st cda cc) f s.heap.objs.size)) → zs.length = ks.length → r vs zs H Q →
      ∃ t, PAts (supCx P w K mg base N x qual st f cda cc A outer s H) (supCode st x qual f cda cc s) (defBody st) t ∧ t { nx := fun _ H' => Q .non H', rt := Q } (startF N (vs ++ zs) [some (.ref D)]) H) :
    CallP P w K mg base false (k + 1) f ks r := by
  intro A outer s H us ws vs zs Q hr hg e0 rv rz hz hq
  obtain ⟨oc, od, kV, doc, pm, an, ct, osl, lk⟩ := F.fn
  have KX : K.In s.heap :=
        e0.mod.kin.keeps fun b o e => (e0.bs b o e).1
  have hvl := len _ _ _ _ hq
  have lu : us.length = n := by rw [← rv.length]; exact hvl
  have lw : ws.length = ks.length := by rw [← rz.length]; exact hz
  refine codeAny_call_function hr.depth (KX _ _ lk) rfl co gen rfl (PySem.W.codeRec_of KX F.cd) ?_
  rw [b kV doc pm an ct us ws lu lw]
  refine wpAny_pure (sup_core F S hr e0 (rv.append rz) (by rw [List.length_append, hvl, hz, hl]) (fun v H' u s' h1 h2 h3 h4 h5 h6 => ⟨v, H', h1, h2, h3, h4, h5, h6⟩) fun hr2 => hbody A outer s H vs zs Q hr2 hz hq)
/-- with a star parameter -/
theorem sup_star {k n : Nat} {ps ks : List Str} {pv : Str} {r : RC} (F : SupF P K x qual st f D cda cc g) (S : NScope N (ps ++ [pv]) ["__class__"] (defScope st)) (co : (defScope st).isCoroutine = false) (gen : (defScope st).isGenerator = false) (hl : ps.length = n + ks.length)
    (b : ∀ (kV doc pm : Value) (an : Option Addr) (ct : Value) (us rest ws : List Value), us.length = n → ws.length = ks.length →
      bindArgs (PySem.W.ksFn x qual (defArgs st) (defBody st) (defScope st) .none kV doc pm an (.ref cda) ct cc) ⟨us ++ rest, ks.zip ws⟩ = (newTuple rest >>= fun t => pure (ps.zip (us ++ ws) ++ [(pv, t)])))
    (hbody : ∀ (A : Around) (outer : List Env) (s : Shared) (H : Hp) (vs zs : List V) (Q : VK), zs.length = ks.length → r vs zs H Q →
      ∃ us rest, vs = us ++ rest ∧ us.length = n ∧ rest.length ≤ sizeLine ∧ ∀ (s2 : Shared) (p : Addr), Room k (A.deeper (envF (nfOf x qual st cda cc) f s2.heap.objs.size)) → H p = none →
        ∃ t, PAts (supCx P w K mg base N x qual st f cda cc A outer s2 (upd H p (.tup rest))) (supCode st x qual f cda cc s2) (defBody st) t ∧ t { nx := fun _ H' => Q .non H', rt := Q } (startF N (us ++ zs ++ [V.ref p]) [some (.ref D)]) (upd H p (.tup rest))) :
    CallP P w K mg base false (k + 1) f ks r := by
  intro A outer s H us0 ws vs zs Q hr hg e0 rv rz hz hq
  obtain ⟨oc, od, kV, doc, pm, an, ct, osl, lk⟩ := F.fn
  have KX : K.In s.heap :=
        e0.mod.kin.keeps fun b o e => (e0.bs b o e).1
  obtain ⟨us, rest, ev, hul, hsz, hb⟩ := hbody A outer s H vs zs Q hz hq
  subst ev
  obtain ⟨u1, u2, eu, r1, r2⟩ := vals_split rv
  subst eu
  have hn : H s.heap.objs.size = Option.none :=
        e0.hok.fresh (Nat.le_refl _)
  have l1 : u1.length = n := by rw [← r1.length]; exact hul
  have l2 : u2.length ≤ sizeLine := by rw [← r2.length]; exact hsz
  have lw : ws.length = ks.length := by rw [← rz.length]; exact hz
  refine codeAny_call_function hr.depth (KX _ _ lk) rfl co gen rfl (PySem.W.codeRec_of KX F.cd) ?_
  rw [b kV doc pm an ct u1 u2 ws l1 lw]
  refine wpAny_bind (wpAny_newTuple (wpAny_pure ?_) l2)
  have new : ObjOk P w (upd H s.heap.objs.size (.tup rest)) (s.heap.push ({ cls := .type "tuple", data := .seq u2.toArray } : Obj)) s.heap.objs.size (.tup rest) :=
    ⟨hsz, u2, r2, ⟨_, Heap.get?_push_size _ rfl, rfl, _, rfl⟩⟩
  have un :=
        un_laid (fs := frs outer) (s := s) (o := ({ cls := .type "tuple", data := .seq u2.toArray } : Obj)) (u := .tup rest) hn
  have lz : ps.length = (u1 ++ ws).length := by rw [List.length_append, l1, lw]; exact hl
  have z : wpAny (model P w) A.in1 (newFunctionEnv (defScope st) mainGlobals [("__class__", cc)] ((ps ++ [pv]).zip (u1 ++ ws ++ [Value.ref s.heap.objs.size])) (qual ++ ".<locals>.") (some f) (.ref cda) none builtinsNs)
      (fun env s₂ => s₂.heap.NoLimit ∧ codeAny (model P w) A (.func (defBody st) env) (CR CX0 outer P w H s Q E0) s₂) (fun e s' => CR CX0 outer P w H s Q E0 (.error e) s') { s with heap := s.heap.push ({ cls := .type "tuple", data := .seq u2.toArray } : Obj) } :=
    sup_core (s := { s with heap := s.heap.push ({ cls := .type "tuple", data := .seq u2.toArray } : Obj) }) (vs := us ++ zs ++ [V.ref s.heap.objs.size]) F S hr (env0_laid e0 new) ((r1.append rz).append (.cons rfl .nil)) (by rw [List.length_append, List.length_append, List.length_append, hul, hz, hl] <;> rfl)
      (fun v H' u s' h1 h2 h3 h4 h5 h6 => ⟨v, H', h1, h2, un.trans h3, h4, h5, h6⟩) fun hr2 => hb _ _ hr2 hn
  rw [List.zip_append lz] at z
  exact z
end
end Pn

-- PnE8
set_option
      maxHeartbeats 4000000
namespace Pn
open PySem PySem.Spec L2 PyProof.Rows StX ClX LamX NdefX
structure Ts (P : Program) (K : PySem.W.Frag) : Prop where
  sm : ∃ cda cc, SupF P K "__init__" "Make.__init__" s_Makeu_initu (He.ma K (He.ga K "Make") "__init__") (He.ga K "Make") cda cc (He.ma K (He.ga K "Deed") "__init__")
  sc : ∃ cda cc, SupF P K "__init__" "Change.__init__" s_Changeu_initu (He.ma K (He.ga K "Change") "__init__") (He.ga K "Change") cda cc (He.ma K (He.ga K "Deed") "__init__")
  se : ∃ cda cc, SupF P K "__init__" "End.__init__" s_Endu_initu (He.ma K (He.ga K "End") "__init__") (He.ga K "End") cda cc (He.ma K (He.ga K "Deed") "__init__")
theorem boot_super : bootBuiltins "super" = some (.type "super") := by decide +kernel
abbrev NM : List Str := ["self", "name", "state", "note", "__class__"]
theorem ns_Makeu_initu : NScope NM ["self", "name", "state", "note"] ["__class__"] (defScope s_Makeu_initu) := ⟨rfl, rfl, rfl, by decide +kernel, rfl, by decide +kernel, by decide +kernel, by decide +kernel, by decide +kernel⟩
abbrev NC : List Str := ["self", "name", "columns", "note", "moves", "__class__", "move"]
theorem ns_Changeu_initu : NScope NC ((["self", "name", "columns", "note"] : List Str) ++ (["moves"] : List Str)) ["__class__"] (defScope s_Changeu_initu) := ⟨rfl, rfl, rfl, by decide +kernel, rfl, by decide +kernel, by decide +kernel, by decide +kernel, by decide +kernel⟩
abbrev NE : List Str := ["self", "name", "note", "states", "__class__", "state"]
theorem ns_Endu_initu : NScope NE ((["self", "name", "note"] : List Str) ++ (["states"] : List Str)) ["__class__"] (defScope s_Endu_initu) := ⟨rfl, rfl, rfl, by decide +kernel, rfl, by decide +kernel, by decide +kernel, by decide +kernel, by decide +kernel⟩
theorem clsOf_make (K : PySem.W.Frag) : clsOf K "make" = He.ga K "Make" := by unfold clsOf; rw [if_pos rfl]
theorem clsOf_end (K : PySem.W.Frag) : clsOf K "end" = He.ga K "End" := by unfold clsOf; rw [if_neg (by decide), if_pos rfl]
theorem clsOf_change (K : PySem.W.Frag) : clsOf K "change" = He.ga K "Change" := by unfold clsOf; rw [if_neg (by decide), if_neg (by decide)]
section
variable {P : Program} {w : World} {K : PySem.W.Frag}
      {mg : Str → Option Value} {base : Heap}
def r_mkinit (K : PySem.W.Frag) : RC := fun vs zs H Q => ∃ (x dx : Addr) (nm st : Str) (nv : V) (nt : Option NoteD), vs = [V.ref x, .str nm, .str st] ∧ zs = [nv] ∧ H x = some (.ins (He.ga K "Make") dx []) ∧ NameOk nm ∧ NameOk st ∧ IsNote K H nv nt ∧
  ∀ H', Off x H H' → IsDeed K H' (.ref x) ⟨"make", nm, [("", st)], [], nt⟩ → Q .non H'
theorem ok_mkinit (T : Tx K mg) (Z : Tz K) (S : Ts P K) : CallP P w K mg base false 3 (He.ma K (He.ga K "Make") "__init__") ["note"] (r_mkinit K) := by
  obtain ⟨cda, cc, F⟩ := S.sm
  refine sup_call F ns_Makeu_initu rfl rfl (n := 3) rfl (fun vs zs H Q h => by obtain ⟨_, _, _, _, _, _, rfl, _⟩ := h; rfl) (fun _ _ _ _ _ us ws hl hw => match us, hl, ws, hw with | [_, _, _], _, [_], _ => rfl) fun A outer s H vs zs Q hr hz h => ?_
  have G_check_name := ok_check_name (P := P) (w := w) (base := base) T
  obtain ⟨x, dx, nm, st, nv, nt, rfl, rfl, hx, n1, n2, hn, k⟩ := h
  refine ⟨_, (pat_cons (ps_expr (pe_cl G_check_name hr (by decide) Gd.no rfl (pa_cons (pv 1) pa_nil)))
    (pat_cons (ps_expr (pe_cl G_check_name hr (by decide) Gd.no rfl (pa_cons (pv 2) pa_nil)))
    (pat_super F (ok_dinit T Z) hr (pa_cons (pv 1) (pa_cons (pe_tup (pa_cons (pe_tup (pa_cons pe_str (pa_cons (pv 2) pa_nil))) pa_nil)) (pa_cons (pe_tup pa_nil) (pa_cons (pv 3) pa_nil)))) rfl rfl rfl rfl rfl rfl T.f_super boot_super))), ?_⟩
  refine ⟨_, rfl, nm, rfl, n1, fun H1 s1 => ⟨_, rfl, st, rfl, n2, fun H2 s2 => ?_⟩⟩
  have s12 := s1.trans s2
  refine ⟨x, dx, rfl, s12 _ _ hx, _, rfl, _, rfl, by show 2 ≤ sizeLine; decide, fun p1 hp1 => ⟨by show 1 ≤ sizeLine; decide, fun p2 hp2 => ⟨by show 0 ≤ sizeLine; decide, fun p3 hp3 => ⟨_, rfl, ?_⟩⟩⟩⟩
  have e1 : Same H2 (upd H2 p1 (.tup [.str "", .str st])) := Same.new hp1
  have e2 : Same (upd H2 p1 (.tup [.str "", .str st])) (upd (upd H2 p1 (.tup [.str "", .str st])) p2 (.tup [.ref p1])) := Same.new hp2
  have e3 : Same (upd (upd H2 p1 (.tup [.str "", .str st])) p2 (.tup [.ref p1])) (upd (upd (upd H2 p1 (.tup [.str "", .str st])) p2 (.tup [.ref p1])) p3 (.tup [])) := Same.new hp3
  have sA := (s12.trans e1).trans (e2.trans e3)
  refine ⟨x, dx, He.ga K "Make", nm, .ref p2, .ref p3, nv, [("", st)], [], nt, rfl, rfl, sA _ _ hx, T.c_Make, T.n_Make_name, T.n_Make_moves, T.n_Make_columns, T.n_Make_note,
    ⟨p2, [.ref p1], rfl, .inr (SqT.of (e3 _ _ upd_same)), .cons ⟨p1, rfl, e3 _ _ (e2 _ _ upd_same)⟩ .nil⟩, by show 1 ≤ 100; decide, ⟨p3, rfl, SqT.of upd_same⟩, IsNote.stays.mono hn (Core.of sA), fun H' ms' m hpm off hx' hm hc hn' => ?_⟩
  have em : ms' = [(("" : Str), st)] := List.perm_singleton.mp hpm
  subst em
  refine k H' ((Off.of sA).trans off) ⟨x, dx, m, .ref p3, nv, rfl, ?_, hm, hc, hn'⟩
  show H' x = some (.ins (clsOf K "make") dx _)
  rw [clsOf_make]
  exact hx'

def r_chinit (K : PySem.W.Frag) : RC := fun vs zs H Q => ∃ (x dx : Addr) (nm : Str) (items : List V) (ca : Addr) (nv : V) (ms : List (Str × Str)) (own : List Str) (nt : Option NoteD), vs = V.ref x :: .str nm :: items ∧ zs = [.ref ca, nv] ∧ H x = some (.ins (He.ga K "Change") dx []) ∧ NameOk nm ∧
  Paired (IsMove H) items ms ∧ (∀ m ∈ ms, NameOk m.1 ∧ NameOk m.2) ∧ (ms.map (·.1)).Nodup ∧ ms.length ≤ 4 ∧ H ca = some (.lst (own.map V.str)) ∧ (∀ z ∈ own, NameOk z) ∧ own.Nodup ∧ own.length ≤ 3 ∧ IsNote K H nv nt ∧
  ∀ (H' : Hp) (ms' : List (Str × Str)) (own' : List Str), ms'.Perm ms → own'.Perm own → Off x H H' → IsDeed K H' (.ref x) ⟨"change", nm, ms', own', nt⟩ → Q .non H'
theorem ok_chinit (T : Tx K mg) (Z : Tz K) (S : Ts P K) : CallP P w K mg base false 4 (He.ma K (He.ga K "Change") "__init__") ["columns", "note"] (r_chinit K) := by
  obtain ⟨cda, cc, F⟩ := S.sc
  refine sup_star (ps := ["self", "name", "columns", "note"]) (pv := "moves") F ns_Changeu_initu rfl rfl (n := 2) rfl (fun _ _ _ _ _ us rest ws hl hw => match us, hl, ws, hw, rest with | [_, _], _, [_, _], _, [] => rfl | [_, _], _, [_, _], _, _ :: _ => rfl) fun A outer s H vs zs Q hz h => ?_
  have G_check_name := ok_check_name (P := P) (w := w) (base := base) T
  have G_check_names := ok_check_names (P := P) (w := w) (base := base) T
  have G_check_once := ok_check_onceL (P := P) (w := w) (base := base) T
  have G_is_name := ok_is_name (P := P) (w := w) (base := base) T
  obtain ⟨x, dx, nm, items, ca, nv, ms, own, nt, rfl, rfl, hx, n1, pr, hmn, nd, hml, hca, on, ond, ol, hn, k⟩ := h
  have hil : items.length = ms.length := paired_len pr
  refine ⟨[.ref x, .str nm], items, rfl, rfl, Nat.le_trans (by omega : _ ≤ 4) (by decide), fun s2 p hr hp => ?_⟩
  refine ⟨_, (pat_cons (ps_expr (pe_cl G_check_name hr (by decide) Gd.no rfl (pa_cons (pv 1) pa_nil)))
    (pat_cons (ps_for PassesOwn.never rfl (pi_tup (pv 4)) (pg_name (i := 6) ns_Changeu_initu.nd rfl (Or.inl rfl)) (pss_one (ps_if (PW.pt (pw_or (pt_not (pt_val (pe_callB call_isi rfl T.f_isinstance boot_isinstance (pa_cons (pv 6) (pa_cons (pe_ty T.f_tuple boot_tuple rfl) pa_nil))))) (pw_or (pt_cmpR op_ne (pe_callB call_len_seq rfl T.f_len boot_len (pa_cons (pv 6) pa_nil)) pe_int (nomark _)) (pw_or (pt_not (pt_val (pe_cl G_is_name hr (by decide) Gd.no rfl (pa_cons (pe_ix ix_tup (pv 6) pe_int (fun _ _ => rfl)) pa_nil)))) (pw_or1 (pt_not (pt_val (pe_cl G_is_name hr (by decide) Gd.no rfl (pa_cons (pe_ix ix_tup (pv 6) pe_int (fun _ _ => rfl)) pa_nil))))))))) pss_never pss_nil)))
    (pat_cons (ps_expr (pe_cl G_check_once hr (by decide) Gd.no rfl (pa_cons (pe_lc (own := [("move", 6)]) rfl ns_Changeu_initu.nd (pi_tup (pv 4)) (blkOk_by rfl) (fun _ _ _ _ _ => pg_name (i := 6) ns_Changeu_initu.nd rfl (Or.inl rfl)) (fun _ _ _ _ _ => pts_nil) (fun _ _ _ _ _ => (pe_ix (show IxR _ (rIxT K) from ix_tup) (pv 6) pe_int (fun _ _ => rfl)))) pa_nil)))
    (pat_cons (ps_if (pt_cmpR op_gt (pe_callB call_len_seq rfl T.f_len boot_len (pa_cons (pv 4) pa_nil)) (pe_gi T.i_MOST_MOVES rfl) (nomark _)) pss_never pss_nil)
    (pat_super F (ok_dinit T Z) (hr.mono (by decide)) (pa_cons (pv 1) (pa_cons (pv 4) (pa_cons (pe_cl G_check_names hr (by decide) Gd.no rfl (pa_cons (pv 2) (pa_cons (pe_gi T.i_MOST_COLUMNS rfl) pa_nil))) (pa_cons (pv 3) pa_nil)))) rfl rfl rfl rfl rfl rfl T.f_super boot_super))))), ?_⟩
  have s0 : Same H (upd H p (.tup items)) := Same.new hp
  have hpt : (upd H p (.tup items)) p = some (.tup items) := upd_same
  refine ⟨_, rfl, nm, rfl, n1, fun H1 s1 => ?_⟩
  have s01 := s0.trans s1
  have hp1 := s1 _ _ hpt
  refine ⟨_, rfl, p, rfl, ⟨_, SqT.of hp1⟩, for_tup (xs := items) (fun i σ H' => Same H1 H' ∧ ∃ z, σ = [some (.ref x), some (.str nm), some (.ref ca), some nv, some (.ref p), some (.ref (He.ga K "Change")), z]) ⟨Same.refl _, _, rfl⟩ (fun i σ H' _ q => SqT.of (q.1 _ _ hp1)) (fun i v σ H' hv q => ?_) (fun σ H' q => ?_)⟩
  · obtain ⟨sm, z, rfl⟩ := q
    obtain ⟨m, hm, ⟨b, rfl, hb⟩⟩ := paired_at pr hv
    have hb1 := sm _ _ (s01 _ _ hb)
    obtain ⟨nm1, nm2⟩ := hmn m (List.mem_of_getElem? hm)
    refine ⟨_, rfl, _, _, _, _, true, rfl, .ty _, .base (.tup hb1), kit_ty (by decide +kernel), true, rfl, ?_⟩
    refine ⟨_, rfl, b, _, rfl, .inr (SqT.of hb1), rfl, false, rfl, ?_⟩
    refine ⟨_, rfl, b, _, 0, _, rfl, rfl, SqT.of hb1, rfl, m.1, rfl, nm1, fun H2 s2 => ⟨true, rfl, ?_⟩⟩
    exact ⟨_, rfl, b, _, 1, _, rfl, rfl, SqT.of (s2 _ _ hb1), rfl, m.2, rfl, nm2, fun H3 s3 => ⟨true, rfl, (sm.trans s2).trans s3, _, rfl⟩⟩
  · obtain ⟨sm, z, rfl⟩ := q
    have s02 := s01.trans sm
    have hp2 := sm _ _ hp1
    refine ⟨_, rfl, p, rfl, ⟨_, SqT.of hp2⟩, fun D hD => lc_tup (xs := items) (fun i H2 => Same H' H2 ∧ H2 D = some (.lst ((ms.take i).map fun m => V.str m.1))) ⟨Same.new hD, upd_same⟩ (fun i H2 _ q => SqT.of (q.1 _ _ hp2)) (fun i v H2 hv q => ?_) (fun H2 q => ?_)⟩
    · obtain ⟨sm2, hD2⟩ := q
      obtain ⟨m, hm, ⟨b, rfl, hb⟩⟩ := paired_at pr hv
      have hb2 := sm2 _ _ (s02 _ _ hb)
      refine ⟨rfl, _, rfl, b, _, 0, _, rfl, rfl, SqT.of hb2, rfl, _, hD2, ?_, same_mut sm2 hD, ?_⟩
      · rw [List.length_map,
            List.length_take]
        exact Nat.lt_of_le_of_lt (by omega : _ ≤ 4) (by decide)
      · rw [upd_same, take_snoc hm, List.map_append]
        rfl
    · obtain ⟨sm2, hD2⟩ := q
      rw [hil, List.take_length] at hD2
      have eD : H2 D = some (.lst ((ms.map (·.1)).map V.str)) := by rw [hD2, List.map_map]; rfl
      refine ⟨D, ms.map (·.1), rfl, eD, nd, fun H3 s3 => ?_⟩
      have s03 := (s02.trans sm2).trans s3
      have hp3 := s3 _ _ (sm2 _ _ hp2)
      refine ⟨_, rfl, p, items, rfl, .inr (SqT.of hp3), _, _, rfl, rfl, decide ((4 : Int) < (items.length : Int)), rfl, ?_⟩
      rw
            [decide_eq_false (by omega)]
      refine ⟨x, dx, rfl, s03 _ _ hx, _, rfl, _, rfl, _, rfl, ca, own, 3, rfl, s03 _ _ hca, on, ond, by omega, by decide, fun v' H4 own' s4 hpo ho => ⟨_, rfl, ?_⟩⟩
      have s04 := s03.trans s4
      refine ⟨x, dx, He.ga K "Change", nm, .ref p, v', nv, ms, own', nt, rfl, rfl, s04 _ _ hx, T.c_Change, T.n_Change_name, T.n_Change_moves, T.n_Change_columns, T.n_Change_note,
        ⟨p, items, rfl, .inr (SqT.of (s4 _ _ hp3)), paired_mono IsMove.stays (Core.of s04) pr⟩, by omega, ho, IsNote.stays.mono hn (Core.of s04), fun H' ms' m hpm off hx' hm hc hn' => ?_⟩
      refine k H' ms' own' hpm hpo ((Off.of s04).trans off) ⟨x, dx, m, v', nv, rfl, ?_, hm, hc, hn'⟩
      show H' x = some (.ins (clsOf K "change") dx _)
      rw [clsOf_change]
      exact hx'

def r_eninit (K : PySem.W.Frag) : RC := fun vs zs H Q => ∃ (x dx : Addr) (nm : Str) (ss : List Str) (nv : V) (nt : Option NoteD), vs = V.ref x :: .str nm :: ss.map V.str ∧ zs = [nv] ∧ H x = some (.ins (He.ga K "End") dx []) ∧ NameOk nm ∧ (∀ z ∈ ss, NameOk z) ∧ ss.Nodup ∧ ss.length ≤ 4 ∧ IsNote K H nv nt ∧
  ∀ (H' : Hp) (ms' : List (Str × Str)), ms'.Perm (ss.map fun z => (z, "")) → Off x H H' → IsDeed K H' (.ref x) ⟨"end", nm, ms', [], nt⟩ → Q .non H'
theorem ok_eninit (T : Tx K mg) (Z : Tz K) (S : Ts P K) : CallP P w K mg base false 3 (He.ma K (He.ga K "End") "__init__") ["note"] (r_eninit K) := by
  obtain ⟨cda, cc, F⟩ := S.se
  refine sup_star (ps := ["self", "name", "note"]) (pv := "states") F ns_Endu_initu rfl rfl (n := 2) rfl (fun _ _ _ _ _ us rest ws hl hw => match us, hl, ws, hw, rest with | [_, _], _, [_], _, [] => rfl | [_, _], _, [_], _, _ :: _ => rfl) fun A outer s H vs zs Q hz h => ?_
  have G_check_name := ok_check_name (P := P) (w := w) (base := base) T
  have G_check_once := ok_check_onceT (P := P) (w := w) (base := base) T
  have G_is_name := ok_is_name (P := P) (w := w) (base := base) T
  obtain ⟨x, dx, nm, ss, nv, nt, rfl, rfl, hx, n1, hsn, nd, hsl, hn, k⟩ := h
  refine ⟨[.ref x, .str nm], ss.map V.str, rfl, rfl, by rw [List.length_map]; exact Nat.le_trans hsl (by decide), fun s2 p hr hp => ?_⟩
  refine ⟨_, (pat_cons (ps_expr (pe_cl G_check_name hr (by decide) Gd.no rfl (pa_cons (pv 1) pa_nil)))
    (pat_cons (ps_for PassesOwn.never rfl (pi_tup (pv 3)) (pg_name (i := 5) ns_Endu_initu.nd rfl (Or.inl rfl)) (pss_one (ps_if (pt_not (pt_val (pe_cl G_is_name hr (by decide) Gd.no rfl (pa_cons (pv 5) pa_nil)))) pss_never pss_nil)))
    (pat_cons (ps_expr (pe_cl G_check_once hr (by decide) Gd.no rfl (pa_cons (pv 3) pa_nil)))
    (pat_cons (ps_if (pt_cmpR op_gt (pe_callB call_len_seq rfl T.f_len boot_len (pa_cons (pv 3) pa_nil)) (pe_gi T.i_MOST_MOVES rfl) (nomark _)) pss_never pss_nil)
    (pat_super F (ok_dinit T Z) hr (pa_cons (pv 1) (pa_cons (pe_lc (own := [("state", 5)]) rfl ns_Endu_initu.nd (pi_tup (pv 3)) (blkOk_by rfl) (fun _ _ _ _ _ => pg_name (i := 5) ns_Endu_initu.nd rfl (Or.inl rfl)) (fun _ _ _ _ _ => pts_nil) (fun _ _ _ _ _ => (pe_tup (pa_cons (pv 5) (pa_cons pe_str pa_nil))))) (pa_cons (pe_tup pa_nil) (pa_cons (pv 2) pa_nil)))) rfl rfl rfl rfl rfl rfl T.f_super boot_super))))), ?_⟩
  have s0 : Same H (upd H p (.tup (ss.map V.str))) := Same.new hp
  have hpt : (upd H p (.tup (ss.map V.str))) p = some (.tup (ss.map V.str)) := upd_same
  refine ⟨_, rfl, nm, rfl, n1, fun H1 s1 => ?_⟩
  have s01 := s0.trans s1
  have hp1 := s1 _ _ hpt
  refine ⟨_, rfl, p, rfl, ⟨_, SqT.of hp1⟩, for_tup (xs := ss.map V.str) (fun i σ H' => Same H1 H' ∧ ∃ z, σ = [some (.ref x), some (.str nm), some nv, some (.ref p), some (.ref (He.ga K "End")), z]) ⟨Same.refl _, _, rfl⟩ (fun i σ H' _ q => SqT.of (q.1 _ _ hp1)) (fun i v σ H' hv q => ?_) (fun σ H' q => ?_)⟩
  · obtain ⟨sm, z, rfl⟩ := q
    obtain ⟨c, hc, rfl⟩ := strs_ix hv
    exact ⟨_, rfl, c, rfl, hsn c (List.mem_of_getElem? hc), fun H2 s2 => ⟨true, rfl, sm.trans s2, _, rfl⟩⟩
  · obtain ⟨sm, z, rfl⟩ := q
    have hp2 := sm _ _ hp1
    refine ⟨_, rfl, p, ss, rfl, SqT.of hp2, nd, fun H3 s3 => ?_⟩
    have s03 := (s01.trans sm).trans s3
    have hp3 := s3 _ _ hp2
    refine ⟨_, rfl, p, _, rfl, .inr (SqT.of hp3), _, _, rfl, rfl, decide ((4 : Int) < ((ss.map V.str).length : Int)), rfl, ?_⟩
    rw [decide_eq_false (by rw [List.length_map]; omega)]
    refine ⟨x, dx, rfl, s03 _ _ hx, _, rfl, _, rfl, p, rfl, ⟨_, SqT.of hp3⟩, fun D hD => lc_tup (xs := ss.map V.str) (fun i H2 => Same H3 H2 ∧ ∃ ys, H2 D = some (.lst ys) ∧ Paired (IsMove H2) ys ((ss.take i).map fun z => (z, ("" : Str)))) ⟨Same.new hD, [], upd_same, .nil⟩ (fun i H2 _ q => SqT.of (q.1 _ _ hp3)) (fun i v H2 hv q => ?_) (fun H2 q => ?_)⟩
    · obtain ⟨sm2, ys, hys, py⟩ := q
      obtain ⟨c, hc, rfl⟩ := strs_ix hv
      refine ⟨rfl, _, rfl, by show 2 ≤ sizeLine; decide, fun b hb => ?_⟩
      have nDb : D ≠ b := ne_of_none hys hb
      have hys2 : (upd H2 b (.tup [.str c, .str ""])) D = some (.lst ys) := by rw [upd_ne nDb]; exact hys
      refine ⟨ys, hys2, ?_, same_mut (sm2.trans (Same.new hb)) hD, _, upd_same, ?_⟩
      · rw [paired_len py, List.length_map, List.length_take]
        exact Nat.lt_of_le_of_lt (by omega : _ ≤ 4) (by decide)
      · rw [take_snoc hc, List.map_append]
        have nl : NL H2 (upd (upd H2 b (.tup [.str c, .str ""])) D (.lst (ys ++ [.ref b]))) := (NL.of (Same.new hb)).trans (NL.mut hys2)
        exact paired_snoc (paired_imp (fun x y ⟨q, e, z⟩ => ⟨q, e, nl q _ z True.intro⟩) py) ⟨b, rfl, by rw [upd_ne (Ne.symm nDb), upd_same]⟩
    · obtain ⟨sm2, ys, hys, py⟩ := q
      rw [List.length_map, List.take_length] at py
      refine ⟨by show 0 ≤ sizeLine; decide, fun q hq => ⟨_, rfl, ?_⟩⟩
      have eq := Same.new (o := .tup []) hq
      have s04 := (s03.trans sm2).trans eq
      refine ⟨x, dx, He.ga K "End", nm, .ref D, .ref q, nv, ss.map fun z => (z, ""), [], nt, rfl, rfl, s04 _ _ hx, T.c_End, T.n_End_name, T.n_End_moves, T.n_End_columns, T.n_End_note,
        ⟨D, ys, rfl, .inl (SqL.of (eq _ _ hys)), paired_mono IsMove.stays (Core.of eq) py⟩, by rw [List.length_map]; omega, ⟨q, rfl, SqT.of upd_same⟩, IsNote.stays.mono hn (Core.of s04), fun H' ms' m hpm off hx' hm hc hn' => ?_⟩
      refine k H' ms' hpm ((Off.of s04).trans off) ⟨x, dx, m, .ref q, nv, rfl, ?_, hm, hc, hn'⟩
      show H' x = some (.ins (clsOf K "end") dx _)
      rw [clsOf_end]
      exact hx'

/-! ### the makers as calls -/
def r_make (K : PySem.W.Frag) : RC := fun vs zs H Q => ∃ (nm st : Str) (nv : V) (nt : Option NoteD), vs = [.str nm, .str st] ∧ zs = [nv] ∧ NameOk nm ∧ NameOk st ∧ IsNote K H nv nt ∧ ∀ v' H', Same H H' → IsDeed K H' v' ⟨"make", nm, [("", st)], [], nt⟩ → Q v' H'
theorem ok_make (T : Tx K mg) (Z : Tz K) (S : Ts P K) : CallP P w K mg base false 4 (He.ga K "Make") ["note"] (r_make K) := by
  refine (call_cls T.k_Make (ok_mkinit T Z S)).imp fun vs zs H Q h => ?_
  obtain ⟨nm, st, nv, nt, rfl, rfl, n1, n2, hn, k⟩ := h
  exact fun x dx hx hd hne => ⟨x, dx, nm, st, nv, nt, rfl, rfl, upd_same, n1, n2, IsNote.stays.mono hn (Core.of (made_up hx hd)), fun H' off hdd => ⟨rfl, k _ _ (made_same hx hd off) hdd⟩⟩
def r_chof (K : PySem.W.Frag) : RC := fun vs zs H Q => ∃ (nm : Str) (mv : V) (ca : Addr) (nv : V) (ms : List (Str × Str)) (own : List Str) (nt : Option NoteD), vs = [.ref (He.ga K "Change"), .str nm, mv] ∧ zs = [.ref ca, nv] ∧ NameOk nm ∧
  LOf IsMove H mv ms ∧ (∀ m ∈ ms, NameOk m.1 ∧ NameOk m.2) ∧ (ms.map (·.1)).Nodup ∧ ms.length ≤ 4 ∧ H ca = some (.lst (own.map V.str)) ∧ (∀ z ∈ own, NameOk z) ∧ own.Nodup ∧ own.length ≤ 3 ∧ IsNote K H nv nt ∧
  ∀ (v' : V) (H' : Hp) (ms' : List (Str × Str)) (own' : List Str), ms'.Perm ms → own'.Perm own → Same H H' → IsDeed K H' v' ⟨"change", nm, ms', own', nt⟩ → Q v' H'
theorem ok_chof (T : Tx K mg) (Z : Tz K) (S : Ts P K) : CallP P w K mg base false 6 (He5.wf K (He.ga K "Change") "classmethod" "of") ["columns", "note"] (r_chof K) := by
  refine call_at T.d_Change_of sc_Change_of (n := 3) rfl (fun vs zs H Q h => by obtain ⟨_, _, _, _, _, _, _, rfl, _⟩ := h; rfl) (fun _ _ _ _ _ _ us ws hl hw => match us, hl, ws, hw with | [_, _, _], _, [_, _], _ => rfl) fun cdv A outer s H vs zs Q hr _ hz h => ?_
  obtain ⟨nm, mv, ca, nv, ms, own, nt, rfl, rfl, n1, ⟨p, xs, rfl, hp, pr⟩, hmn, nd, hml, hca, on, ond, ol, hn, k⟩ := h
  refine ⟨_, (pss_one (ps_ret (pe_callP (call_cls T.k_Change (ok_chinit T Z S)) (hr.mono (by decide)) Gd.no T.k_Change.kp (pv 0) (pa_cons (pv 1) (pa_star (pv 2) pa_nil)) (pk_cons (pv 3) (pk_cons (pv 4) pk_nil))))), ?_⟩
  refine ⟨_, rfl, rfl, _, rfl, _, rfl, p, xs, rfl, .inr (SqL.of hp), _, rfl, _, rfl, rfl, fun x dx hx hd hne => ?_⟩
  have up := made_up (C := He.ga K "Change") hx hd
  refine ⟨x, dx, nm, xs ++ [], ca, nv, ms, own, nt, rfl, rfl, upd_same, n1, ?_, hmn, nd, hml, up _ _ hca, on, ond, ol, IsNote.stays.mono hn (Core.of up), fun H' ms' own' h1 h2 off hdd => ⟨rfl, k _ _ _ _ h1 h2 (made_same hx hd off) hdd⟩⟩
  rw [List.append_nil]
  exact paired_mono IsMove.stays (Core.of up) pr
def r_enof (K : PySem.W.Frag) : RC := fun vs zs H Q => ∃ (nm : Str) (la : Addr) (ss : List Str) (nv : V) (nt : Option NoteD), vs = [.ref (He.ga K "End"), .str nm, .ref la] ∧ zs = [nv] ∧ H la = some (.lst (ss.map V.str)) ∧ NameOk nm ∧ (∀ z ∈ ss, NameOk z) ∧ ss.Nodup ∧ ss.length ≤ 4 ∧ IsNote K H nv nt ∧
  ∀ (v' : V) (H' : Hp) (ms' : List (Str × Str)), ms'.Perm (ss.map fun z => (z, "")) → Same H H' → IsDeed K H' v' ⟨"end", nm, ms', [], nt⟩ → Q v' H'
theorem ok_enof (T : Tx K mg) (Z : Tz K) (S : Ts P K) : CallP P w K mg base false 5 (He5.wf K (He.ga K "End") "classmethod" "of") ["note"] (r_enof K) := by
  refine call_at T.d_End_of sc_End_of (n := 3) rfl (fun vs zs H Q h => by obtain ⟨_, _, _, _, _, rfl, _⟩ := h; rfl) (fun _ _ _ _ _ _ us ws hl hw => match us, hl, ws, hw with | [_, _, _], _, [_], _ => rfl) fun cdv A outer s H vs zs Q hr _ hz h => ?_
  obtain ⟨nm, la, ss, nv, nt, rfl, rfl, hla, n1, hsn, nd, hsl, hn, k⟩ := h
  refine ⟨_, (pss_one (ps_ret (pe_callP (call_cls T.k_End (ok_eninit T Z S)) (hr.mono (by decide)) Gd.no T.k_End.kp (pv 0) (pa_cons (pv 1) (pa_star (pv 2) pa_nil)) (pk_cons (pv 3) pk_nil)))), ?_⟩
  refine ⟨_, rfl, rfl, _, rfl, _, rfl, la, _, rfl, .inr (SqL.of hla), _, rfl, rfl, fun x dx hx hd hne => ?_⟩
  have up := made_up (C := He.ga K "End") hx hd
  refine ⟨x, dx, nm, ss, nv, nt, ?_, rfl, upd_same, n1, hsn, nd, hsl, IsNote.stays.mono hn (Core.of up), fun H' ms' h1 off hdd => ⟨rfl, k _ _ _ h1 (made_same hx hd off) hdd⟩⟩
  rw [List.append_nil]
end
end Pn

-- PnJ
set_option
      maxHeartbeats 4000000
namespace Pn
open PySem PySem.Spec PyProof.Rows L2 PpSet PySem.Froz
/-- the set at a: the texts of l, none twice; its table can be walked -/
def SetX (P : Program) (w : World) (h : Heap) (a : Addr) (l : List Str) : Prop :=
  ∃ D : SD, h.get? a = some (sObj "set" D) ∧ TxOk P w D l ∧ l.Nodup ∧ Ris D.2.2.place.toList ∧ (w.params.followText "set-order" = true ∨ D.2.2.led = true)
def putX (l : List Str) (k : Str) : List Str := if k ∈ l then l else k :: l
theorem addTx_ris {h : Int} {v : Value} {D : SD} (r : Ris D.2.2.place.toList) : Ris (addTx h v D).2.2.place.toList := by
  have r1 := layNew_ris D.2.2 D.1 h v r
  unfold addTx tailTx
  split <;> split
  · exact relayAll_ris _ _ _
  · exact r1
  · exact relayAll_ris _ _ _
  · exact r1
theorem addTx_led {h : Int} {v : Value} {D : SD} : (addTx h v D).2.2.led = D.2.2.led := by
  have r1 := layNew_led D.2.2 D.1 h v
  unfold addTx tailTx
  split <;> split
  · exact (relayAll_led _ _ _).trans r1
  · exact r1
  · exact (relayAll_led _ _ _).trans r1
  · exact r1
section
variable {P : Program} {w : World} {A : Around} {E : Value → Shared → Prop} {s : Shared} {a : Addr} {l : List Str}
theorem SetX.at {h h' : Heap} (R : SetX P w h a l) (k : ∀ o, h.get? a = some o → h'.get? a = some o) : SetX P w h' a l := by
  obtain ⟨D, ho, r⟩ := R
  exact ⟨D, k _ ho, r⟩
theorem same_const {h : Heap} {a : Addr} (o : Obj) : Heap.SameBut a h (h.update a fun _ => o) := Heap.SameBut.update h a _
/-- a text that the set holds: nothing is stored -/
theorem held_x {T : String} {D : SD} {k : Str} {u : Tok} {Q : Bool → Shared → Prop} (ho : s.heap.get? a = some (sObj T D)) (F : TxOk P w D l) (hk : k ∈ l) (hb : l.length < scanBound) (h : Q false s) :
    wpAny (model P w) A (setAddHashed a (.str k u) (hashStr w k)) Q E s := by
  obtain ⟨es, ep, t⟩ := D
  have hd : (sObj T (es, ep, t)).data = .set es ep t :=
        rfl
  have fit : t.fits es.size = true := F.fit
  have els : ElemsOf (strKind P w) es.toList := F.el
  have few : es.size < scanBound := by
    have e : es.size = l.length := F.sz
    omega
  obtain ⟨e, he, pe⟩ := (F.mem k).mp hk
  unfold setAddHashed
        setAddHashedIn
  refine wpAny_holding (wpAny_bind (wpAny_setState_of ho hd fit ?_))
  dsimp only
  rw [byScan_of rfl few els]
  simp only [↓reduceIte]
  unfold setAddByScan
  refine wpAny_bind (wpAny_bind (wpAny_rule (wpAny_bind (wpAny_setScan_of (knd := strKind P w) (k := k) (is_str k u) ho hd fit els ?_))))
  cases q : List.findIdx? (fun e => (strKind P w).is k e.2) es.toList with
  | some j => exact wpAny_pure (wpAny_pure h)
  | none =>
    have c := List.findIdx?_eq_none_iff.mp q e he
    rw [pe] at c
    cases c
theorem setX_add {k : Str} {u : Tok} {Q : Value → Shared → Prop} (R : SetX P w s.heap a l) (room : l.length + 1 < scanBound)
    (hQ : ∀ h', Heap.SameBut a s.heap h' → SetX P w h' a (putX l k) → Q .none { s with heap := h', toks := s.toks + 1 }) : wpAny (model P w) A (call (.builtin "set.add") [.ref a, .str k u]) Q E s := by
  obtain ⟨D, ho, TX, nd, r, ld⟩ := R
  have ty : s.TypeIs (.ref a) "set" := ⟨_, ho, rfl⟩
  refine wpAny_call_entry F.slot_set_add ty F.entry_set_add ?_ (F.args_set_add_2 _ _)
  unfold Builtin.«set.add»
        Builtin.Frozenset.oneOther
  simp only [List.isEmpty_nil,
        bind_assoc]
  unfold
        Builtin.Frozenset.addrOf setAdd
  refine wpAny_bind
        (wpAny_pure ?_)
  try dsimp only
  refine wpAny_bind
        (wpAny_pure ?_)
  try dsimp only
  refine wpAny_bind (wpAny_holding (wpAny_bind ((strKind P w).pyHash (is_str k u) ?_)))
  by_cases hk : k ∈ l
  · refine held_x (s := { s with toks := s.toks + 1 }) ho TX hk (by omega) ?_
    have q := hQ s.heap (Heap.SameBut.refl a s.heap) (by rw [putX, if_pos hk]; exact ⟨D, ho, TX, nd, r, ld⟩)
    show wpAny _ _
          (ret Value.none) _ _ _
    exact wpAny_pure ⟨_, rfl, q⟩
  · refine add_x (s := { s with toks := s.toks + 1 }) ho TX hk room ?_
    have q := hQ _ (same_const (sObj "set" (addTx (hashStr w k) (.str k u) D))) (by
      rw [putX, if_neg hk]
      exact ⟨_, get_upd _ ho rfl, add_ok u TX, List.nodup_cons.mpr ⟨hk, nd⟩, addTx_ris r, ld.imp id fun z => by rw [addTx_led]; exact z⟩)
    show wpAny _ _
          (ret Value.none) _ _ _
    exact wpAny_pure ⟨_, rfl, q⟩
theorem setX_fresh {h : Heap} : SetX P w (h.push { cls := .type "set", dict := none, data := .set #[] 0 (.fresh 0 0 (!w.params.followText "set-order")) }) h.objs.size [] :=
  ⟨(#[], 0, .fresh 0 0 (!w.params.followText "set-order")), Heap.get?_push_size _ rfl, TxOk.nil rfl, List.nodup_nil, List.Pairwise.nil, by
    show _ ∨
          (!w.params.followText "set-order") = true
    cases w.params.followText "set-order" <;> simp⟩
end
def SetXO (P : Program) (w : World) (a : Addr) (l : List Str) : HO := .ext fun h => SetX P w h a l
theorem setXO_new {w : World} {P : Program} {H : Hp} {h : Heap} {a : Addr} {l : List Str} (R : SetX P w h a l) : ObjOk P w H h a (SetXO P w a l) := by
  have ⟨D, ho, _⟩ := R
  exact ⟨R, ⟨_, ho⟩, fun h1 h2 p k => SetX.at p k⟩
section
variable {X : Cx}
theorem setXO_get {pins : List (Addr × Obj)} {σ : L2.St} {H : Hp} {s : Shared} {a : Addr} {l : List Str} (I : Inv X pins σ H s) (ha : H a = some (SetXO X.prog X.w a l)) : SetX X.prog X.w s.heap a l := (I.hok a _ ha).1
theorem addX_ok {pins : List (Addr × Obj)} {σ : L2.St} {H : Hp} {s : Shared} {E : Value → Shared → Prop} {D : Addr} {l : List Str} {k : Str} {v : Value} {Q : Value → Shared → Prop} (I : Inv X pins σ H s) (hD : H D = some (SetXO X.prog X.w D l)) (room : l.length + 1 < scanBound) (rv : RelV (.str k) v)
    (h : ∀ s', Inv X pins σ (upd H D (SetXO X.prog X.w D (putX l k))) s' → Q .none s') : wpAny (model X.prog X.w) X.A (call (.builtin "set.add") [.ref D, v]) Q E s := by
  obtain ⟨u, rfl⟩ := rv
  refine setX_add (setXO_get I hD) room fun h' sb new => h _ (I.write (e := D) (t' := s.toks + 1) (by rw [hD]; trivial) (.inl rfl) (fun b u hb hu => (sb.2 b hb).trans hu) ?_ (setXO_new new))
  have ⟨D', ho, _⟩ := new
  exact ⟨_, ho⟩
/-- one turn's body -/
structure PB (X : Cx) (body : Sem Unit) (vs : List Nat) (tb : L2.St → Hp → (Hp → Prop) → Prop) : Prop where
  run : ∀ (pins : List (Addr × Obj)) (σ : L2.St) (H : Hp) (s : Shared) (Nx : Hp → Prop), Inv X pins σ H s → tb σ H Nx → wpAny (model X.prog X.w) X.A body (fun _ s' => ∃ H', Inv X pins (wipe σ vs) H' s' ∧ Nx H') (fun _ _ => False) s
def tAdd (P : Program) (w : World) (te : TE) (D : Addr) : L2.St → Hp → (Hp → Prop) → Prop := fun σ H Nx => te σ H fun y H4 => ∃ (k : Str) (l : List Str), y = .str k ∧ H4 D = some (SetXO P w D l) ∧ l.length + 1 < scanBound ∧ Nx (upd H4 D (SetXO P w D (putX l k)))
theorem peF {elt : Expr} {te : TE} (hx : X.xe = fun _ _ => False) (he : PE X elt te) {pins : List (Addr × Obj)} {σ : L2.St} {H : Hp} {s : Shared} {Q : VK} (I : Inv X pins σ H s) (h : te σ H Q) :
    wpAny (model X.prog X.w) X.A (eval elt X.env) (EP X pins σ Q) (fun _ _ => False) s := by
  have q := he.run pins s σ H Q I h
  rw [hx] at q
  exact q
theorem pb_add {elt : Expr} {te : TE} {D : Addr} (hx : X.xe = fun _ _ => False) (he : PE X elt te) : PB X (do let v ← eval elt X.env; standAt elt.pos; let _ ← call (.builtin "set.add") [.ref D, v]) [] (tAdd X.prog X.w te D) := by
  refine ⟨fun pins σ H s Nx I h => ?_⟩
  refine wpAny_bind (thnF (peF hx he I h) fun v s1 ⟨y, H4, I4, r4, k, l, ey, hD, room, nx⟩ => wpAny_bind (wpAny_standAt (wpAny_bind ?_)))
  subst ey
  exact addX_ok I4 hD room r4 fun s' I' => wpAny_pure ⟨_, I', nx⟩
/-- a clause as a turn's body of the clause before -/
def tFor (wi : TI) (g : TG) (tt : TT) (tb : L2.St → Hp → (Hp → Prop) → Prop) (vs : List Nat) : L2.St → Hp → (Hp → Prop) → Prop := fun σ H Nx => wi σ H fun J H4 => ∃ W : Nat → Nat → Hp → Prop, (∃ m, W 0 m H4) ∧ ∀ i m H, W i m H →
  (J.stop i H ∧ Nx H) ∨ (J.go i H ∧ ∃ N1 : Hp → Prop, (∀ H', N1 H' → ∃ m', m' < m ∧ W (i + 1) m' H') ∧ ∀ x H', J.yld i H x H' → g x (wipe σ vs) H' fun σ3 H5 => wipe σ3 vs = wipe σ vs ∧ tt σ3 H5 fun b H6 => if b = true then tb σ3 H6 N1 else N1 H6)
theorem wipe_sub {σ2 σ : L2.St} {vs vs1 : List Nat} (hv : ∀ i ∈ vs1, i ∈ vs) (e : wipe σ2 vs = wipe σ vs) :
    (wipe σ vs).length = (wipe σ2 vs1).length ∧ ∀ (j : Nat) v, (wipe σ vs)[j]? = some (some v) → (wipe σ2 vs1)[j]? = some (some v) := by
  refine ⟨by rw [← e, wipe_length, wipe_length], fun j v q => ?_⟩
  rw [← e] at q
  obtain ⟨e1, e2⟩ := wipe_some q
  rw [wipe_out fun z =>
        e2 (hv j z)]
  exact e1
/-- the loop of one clause -/
theorem clause_loop {prog : Program} {w : World} {A : Around} {env : Env} {R : Result → Shared → Prop} {s : Shared} {elt tg iter : Expr} {gens : List Comprehension} {scope : Scope} {pos : Pos} {ifs : List Expr} {j : Nat} {it acc : Value} {body : Sem Unit}
    (hturn : compTurn (.SetComp elt gens scope pos) j it acc env = (do
      standAt iter.pos
      match ← pyNext it with
      | none => pure (.done .next)
      | some v =>
        letOwnedTupleGo tg it v
        assign tg env v
        let mut ok := true
        for c in ifs do
          if ok then ok ←
                isTrue c env (eval c env)
        if ok then body
        again (.compLoop (.SetComp elt gens scope pos) j it acc env))) (I : Nat → Shared → Prop)
    (turn : ∀ n s, I n s → wpAny (model prog w) A (pyNext it) (fun r s1 => match r with
      | none => R (.ok .next) s1
      | some v => wpAny (model prog w) A (letOwnedTupleGo tg it v) (fun _ s2 => wpAny (model prog w) A (assign tg env v) (fun _ s3 =>
          wpAny (model prog w) A (forIn ifs true fun c r => if r = true then do let ok ← isTrue c env (eval c env); pure (ForInStep.yield ok) else pure (ForInStep.yield r)) (fun ok s4 =>
            if ok = true then wpAny (model prog w) A body (fun _ s5 => ∃ m, m < n ∧ I m s5) (fun _ _ => False) s4 else ∃ m, m < n ∧ I m s4) (fun _ _ => False) s3) (fun _ _ => False) s2) (fun _ _ => False) s1) (fun _ _ => False) s)
    (n : Nat) (h : I n s) : codeAny (model prog w) A (.compLoop (.SetComp elt gens scope pos) j it acc env) R s := by
  refine codeAny_loop rfl I (fun n s hI =>
        ?_) n h
  show wpAny _ A ((compTurn (.SetComp elt gens scope pos) j it acc env).onRaise (fun x => do noteFrame x env; theTreesLotGoes x)) _ _ s
  refine wpAny_noted ?_
  rw [hturn]
  refine wpAny_bind (wpAny_standAt (wpAny_bind (wpAny_mono (turn n s hI) (fun r s1 h1 => ?_) fun _ _ z => z.elim)))
  cases r with
  | none => exact wpAny_pure h1
  | some v =>
    refine wpAny_bind (wpAny_mono h1 (fun _ s2 h2 => wpAny_bind (wpAny_mono h2 (fun _ s3 h3 => wpAny_bind (wpAny_mono h3 (fun ok s4 h4 => ?_) fun _ _ z => z.elim)) fun _ _ z => z.elim)) fun _ _ z => z.elim)
    cases ok with
    | false => exact wpAny_pure ⟨rfl, h4⟩
    | true => exact wpAny_bind (wpAny_mono h4 (fun _ s5 h5 => wpAny_pure ⟨rfl, h5⟩) fun _ _ z => z.elim)
/-- the loop of a clause, from an iterator that has come -/
theorem clause_run {elt tg iter : Expr} {gens : List Comprehension} {scope : Scope} {pos : Pos} {ifs : List Expr} {j : Nat} {acc : Value} {body : Sem Unit} {g : TG} {tt : TT} {tb : L2.St → Hp → (Hp → Prop) → Prop} {vs vs1 : List Nat} (hc : X.calm = true) (hx : X.xe = fun _ _ => False)
    (hg : PG X tg g) (ht : PTs X ifs tt) (hb : PB X body vs1 tb) (hv : ∀ i ∈ vs1, i ∈ vs)
    {it : Addr} {fp : List Addr} {tn : Nat → Heap → Prop} {J : It} {pins : List (Addr × Obj)} {σ : L2.St} {H2 : Hp} {s2 : Shared} {Nx : Hp → Prop} {W : Nat → Nat → Hp → Prop} {m0 : Nat} {R : Result → Shared → Prop}
    (hturn : compTurn (.SetComp elt gens scope pos) j (.ref it) acc X.env = (do
      standAt iter.pos
      match ← pyNext (.ref it) with
      | none => pure (.done .next)
      | some v =>
        letOwnedTupleGo tg (.ref it) v
        assign tg X.env v
        let mut ok := true
        for c in ifs do
          if ok then ok ← isTrue c X.env (eval c X.env)
        if ok then body
        again (.compLoop (.SetComp elt gens scope pos) j (.ref it) acc X.env)))
    (T : Turn X.prog X.w X.K tg J fp it tn) (I2 : Inv X pins (wipe σ vs) H2 s2) (st2 : tn 0 s2.heap) (f2 : ∀ b ∈ fp, H2 b = none)
    (stat : ∀ {H' : Hp} {s' : Shared}, Inv X pins (wipe σ vs) H' s' → (∀ b ∈ fp, H' b = none) → ∀ b ∈ fp, FpOk X pins H' b) (w0 : W 0 m0 H2)
    (step : ∀ i m H, W i m H → (J.stop i H ∧ Nx H) ∨ (J.go i H ∧ ∃ N1 : Hp → Prop, (∀ H', N1 H' → ∃ m', m' < m ∧ W (i + 1) m' H') ∧ ∀ x H', J.yld i H x H' → g x (wipe σ vs) H' fun σ3 H5 => wipe σ3 vs = wipe σ vs ∧ tt σ3 H5 fun b H6 => if b = true then tb σ3 H6 N1 else N1 H6))
    (hR : ∀ s' H', Inv X pins (wipe σ vs) H' s' → Nx H' → R (.ok .next) s') :
    codeAny (model X.prog X.w) X.A (.compLoop (.SetComp elt gens scope pos) j (.ref it) acc X.env) R s2 := by
  refine clause_loop hturn (fun n s' => ∃ i H', Inv X pins (wipe σ vs) H' s' ∧ tn i s'.heap ∧ (∀ b ∈ fp, H' b = none) ∧ W i n H') ?_ m0 ⟨0, H2, I2, st2, f2, w0⟩
  rintro n s3 ⟨i, H3, I3, st3, n3, w3⟩
  rcases step i n H3 w3 with ⟨stop, nx⟩ | ⟨go, N1, hN, turn⟩
  · refine thnF (T.done X rfl rfl rfl hc i _ s3 (wipe σ vs) H3 (fun _ _ => False) I3 (stat I3 n3) st3 stop) fun r s4 ⟨hr, I4⟩ => ?_
    subst hr
    exact hR s4 H3 I4 nx
  · refine thnF (T.item X rfl rfl rfl hc i _ s3 (wipe σ vs) H3 (fun _ _ => False) I3 (stat I3 n3) st3 go) fun r s4 ⟨u, hr, h4⟩ => ?_
    subst hr
    refine thnF h4 fun _ s5 ⟨x, H5, I5, r5, y5, st5, n5⟩ => ?_
    have I5' := I5.pinned (stat I5 n5) (T.obj _ _ st5)
    have hg' := hg.run _ s5 (wipe σ vs) H5 x u _ I5' r5 (turn x H5 y5)
    rw [hx] at hg'
    refine thnF hg' fun _ s6 ⟨σ6, H6, I6, hw6, q6⟩ => ?_
    have ht' := ht.run _ s6 σ6 H6 _ I6 q6
    rw [hx] at ht'
    refine thnF ht' fun b s7 ⟨H7, I7, q7⟩ => ?_
    have fin : ∀ {σ9 : L2.St} {s' : Shared} {H' : Hp}, Inv X (pins ++ pinsAt fp s5.heap) σ9 H' s' → (wipe σ vs).length = σ9.length → (∀ (j : Nat) v, (wipe σ vs)[j]? = some (some v) → σ9[j]? = some (some v)) → N1 H' →
        ∃ m, m < n ∧ ∃ i H', Inv X pins (wipe σ vs) H' s' ∧ tn i s'.heap ∧ (∀ b ∈ fp, H' b = none) ∧ W i m H' := fun {σ9 s' H'} I' hl hk nx => by
      obtain ⟨m', hm, w'⟩ := hN H' nx
      have held : ∀ b ∈ fp, ∀ o, s5.heap.get? b = some o → s'.heap.get? b = some o ∧ H' b = none := fun b hb o e =>
        let z :=
              I'.pin (b, o) (List.mem_append_right _ (List.mem_append_right _ (mem_pinsAt hb e)))
        ⟨z.1, z.2.1⟩
      refine ⟨m', hm, i + 1, H', I'.unpinned.weak hl hk, T.keep _ _ _ st5 fun b hb o e => (held b hb o e).1, fun b hb => ?_, w'⟩
      obtain ⟨o, e, _⟩ := T.obj _ _ st5 b hb
      exact (held b hb o e).2
    cases b with
    | false =>
      simp only [Bool.false_eq_true, if_false] at q7 ⊢
      obtain ⟨a1, a2⟩ := wipe_sub (vs1 := []) (fun _ z => nomatch z) hw6
      exact fin I7 a1 a2 q7
    | true =>
      simp only [if_true] at q7 ⊢
      refine thnF (hb.run _ σ6 H7 s7 N1 I7 q7) fun _ s8 ⟨H8, I8, q8⟩ => ?_
      obtain ⟨a1, a2⟩ := wipe_sub hv hw6
      exact fin I8 a1 a2 q8
/-- a clause: its source is read, its loop runs, each turn the body -/
theorem pb_for {elt tg iter : Expr} {gens : List Comprehension} {scope : Scope} {pos : Pos} {ifs : List Expr} {j : Nat} {acc : Value} {body : Sem Unit} {wi : TI} {g : TG} {tt : TT} {tb : L2.St → Hp → (Hp → Prop) → Prop} {vs vs1 : List Nat} (hc : X.calm = true) (hx : X.xe = fun _ _ => False)
    (hi : PI X tg iter wi) (hg : PG X tg g) (ht : PTs X ifs tt) (hb : PB X body vs1 tb) (hv : ∀ i ∈ vs1, i ∈ vs) (hs : ∀ x, foldedSetIterable iter X.env x = pure x)
    (hturn : ∀ it, compTurn (.SetComp elt gens scope pos) j it acc X.env = (do
      standAt iter.pos
      match ← pyNext it with
      | none => pure (.done .next)
      | some v =>
        letOwnedTupleGo tg it v
        assign tg X.env v
        let mut ok := true
        for c in ifs do
          if ok then ok ← isTrue c X.env (eval c X.env)
        if ok then body
        again (.compLoop (.SetComp elt gens scope pos) j it acc X.env)))
    (hstart : ∀ it (R : Result → Shared → Prop) s, codeAny (model X.prog X.w) X.A (.compLoop (.SetComp elt gens scope pos) j it acc X.env) R s →
      wpAny (model X.prog X.w) X.A (pyIter it) (fun it' s' => codeAny (model X.prog X.w) X.A (.compLoop (.SetComp elt gens scope pos) j it' acc X.env) R s') (notedBy (model X.prog X.w) X.A X.env fun x s' => R (.error x) s') s →
      codeAny (model X.prog X.w) X.A (.compStart (.SetComp elt gens scope pos) j it acc X.env) R s) :
    PB X (do let x ← eval iter X.env; standAt iter.pos; let x ← foldedSetIterable iter X.env x; let _ ← runOwn (.compStart (.SetComp elt gens scope pos) j (← holding [x] (pyIter x)) acc X.env) X.env) vs (tFor wi g tt tb vs) := by
  refine ⟨fun pins σ H s Nx I h => ?_⟩
  have hi' := hi.run pins s σ H _ I h
  rw [hx] at hi'
  refine wpAny_bind (thnF hi' fun xv s1 hy => wpAny_bind (wpAny_standAt (wpAny_bind (wpAny_of_eq (hs xv) (wpAny_bind (wpAny_holding (thnF hy fun itv s2 h2 => ?_)))))))
  obtain ⟨it, fp, tn, J, H2, e, I2, T, st2, f2, W, ⟨m0, w0⟩, step⟩ := h2
  subst e
  refine wpAny_bind
        (wpAny_runOwn ?_)
  rw [Around.mark_none]
  have loop := clause_run (R := fun r s' => match r with
      | .ok _ => ∃ H', Inv X pins (wipe σ vs) H' s' ∧ Nx H'
      | .error _ => False) hc hx hg ht hb hv (hturn _) T (I2.weak (wipe_length σ vs) (fun j v e => (wipe_some e).1)) st2 (fun b hb => (f2 b hb).1) (fun _ hn b hb => ⟨hn b hb, (f2 b hb).2⟩) w0 step fun s' H' I' nx => ⟨H', I', nx⟩
  refine codeAny_mono (hstart _ _ _ loop (T.self X.A 0 _ _ _ st2 loop)) fun r s' hr => ?_
  cases r with
  | ok f =>
    first
      | exact wpAny_pure hr
      | exact wpAny_bind (wpAny_pure (wpAny_pure hr))
  | error e => exact hr.elim
/-- a set of texts by a comprehension: D the new set -/
def tSx (P : Program) (w : World) (wi : TI) (g : TG) (tt : TT) (tb : Addr → L2.St → Hp → (Hp → Prop) → Prop) (vs : List Nat) : TE := fun σ H Q => wi σ H fun J H1 => ∀ D, H1 D = none → ∃ W : Nat → Nat → Hp → Prop, (∃ m, W 0 m (upd H1 D (SetXO P w D []))) ∧ ∀ i m H, W i m H →
  (J.stop i H ∧ Q (.ref D) H) ∨ (J.go i H ∧ ∃ N1 : Hp → Prop, (∀ H', N1 H' → ∃ m', m' < m ∧ W (i + 1) m' H') ∧ ∀ x H', J.yld i H x H' → g x (wipe σ vs) H' fun σ3 H5 => wipe σ3 vs = wipe σ vs ∧ tt σ3 H5 fun b H6 => if b = true then tb D σ3 H6 N1 else N1 H6)
theorem sx_core {pins : List (Addr × Obj)} {s : Shared} {σ : L2.St} {H : Hp} {Q : VK} {elt tg iter : Expr} {ifs : List Expr} {rest : List Comprehension} {scope : Scope} {own : List (PySem.Str × Nat)} {pos pos' : Pos} {wi : TI} {g : TG} {tt : TT} {tb : Addr → L2.St → Hp → (Hp → Prop) → Prop} {vs1 : List Nat}
    {body : Env → Addr → Sem Unit} {use : Option (Value → Sem Unit)} {Qf : Value → Shared → Prop}
    (hc : X.calm = true) (hN : X.N.Nodup) (I : Inv X pins σ H s) (hi :
          PI X tg iter wi) (ok : BlkOk X.N X.env.scope scope own) (hv : ∀ i ∈ vs1, i ∈ own.map (·.2))
    (hg : ∀ (s : Shared) (H : Hp) (C : Addr) (cl : List (PySem.Str × Addr)) (fp : List Addr), PG (X.blk s H scope (compEnvC scope cl C X.env) fp) tg g) (ht :
          ∀ (s : Shared) (H : Hp) (C : Addr) (cl : List (PySem.Str × Addr)) (fp : List Addr), PTs (X.blk s H scope (compEnvC scope cl C X.env) fp) ifs tt)
    (hb : ∀ (s : Shared) (H : Hp) (C : Addr) (cl : List (PySem.Str × Addr)) (fp : List Addr) (D : Addr), PB (X.blk s H scope (compEnvC scope cl C X.env) fp) (body (compEnvC scope cl C X.env) D) vs1 (tb D)) (hs : ∀ x, foldedSetIterable iter X.env x = pure x)
    (hturn : ∀ env D it, compTurn (.SetComp elt (⟨tg, iter, ifs, 0⟩ :: rest) scope pos) 0 it (.ref D) env = (do
      standAt iter.pos
      match ← pyNext it with
      | none => pure (.done .next)
      | some v =>
        letOwnedTupleGo tg it v
        assign tg env v
        let mut ok := true
        for c in ifs do
          if ok then ok ←
                isTrue c env (eval c env)
        if ok then body env D
        again (.compLoop (.SetComp elt (⟨tg, iter, ifs, 0⟩ :: rest) scope pos) 0 it (.ref D) env)))
    (h : tSx X.prog X.w wi g tt tb (own.map (·.2)) σ H Q)
    (hRR : ∀ D C s' m H',
          Inv X pins σ H' s' → Q (.ref D) H' → s'.heap.Ns C m → FpOk X pins H' C → compPost (model X.prog X.w) X.A X.xe use Qf (.ref D) C (.ok .next) s') :
    wpAny (model X.prog X.w) X.A (comprehension (.SetComp elt (⟨tg, iter, ifs, 0⟩ :: rest) scope pos) scope X.env pos' (newSet (.type "set")) false (eval iter X.env) use) Qf X.xe s := by
  refine wpAny_comprehension_free (use := use) rfl hs (closure_ok fun y hy e => (ok.free y hy e).elim (fun k => I.ok.has _ (.inl k)) fun k => I.ok.has _ (.inr k)) ok.kind (fun y hy e => by rw [ok.uniq y hy, e])
    (thn (hi.run pins s σ H _ I h) fun xv s1 hx =>
          thn hx fun itv s2 h2 => ?_)
  obtain ⟨it, fp, tn, J, H2, e, I2, T, st2, f2, q⟩ :=
        h2
  subst e
  refine newSet_ok
        (newEnv_comp ?_)
  generalize hD :
        s2.heap.objs.size = D
  have hDn : H2 D = none :=
        I2.hok.fresh (Nat.le_of_eq hD)
  obtain ⟨W, ⟨m0, w0⟩, turn⟩ :=
        q D hDn
  generalize hs3 :
        ({ s2 with heap := s2.heap.push { cls := .type "set", dict := none, data := .set #[] 0 (.fresh 0 0 (!X.w.params.followText "set-order")) } } : Shared) = s3
  have h3 :
        s3.heap = s2.heap.push { cls := .type "set", dict := none, data := .set #[] 0 (.fresh 0 0 (!X.w.params.followText "set-order")) } := by rw [← hs3]
  have I3 : Inv X pins σ (upd H2 D (SetXO X.prog X.w D [])) s3 := by
    rw [← hs3]
    refine I2.laid (t' :=
          s2.toks) (fun b o e => Heap.get?_push_of_some _ e) (Nat.le_of_eq hD) ?_
    rw [← hD]
    exact setXO_new setX_fresh
  have old : ∀ b ∈ fp, b < s2.heap.objs.size := fun b hb => by
    obtain ⟨o, e, _⟩ :=
          T.obj _ _ st2 b hb
    exact Heap.lt_size e
  have f3 : ∀ b ∈ fp, FpOk X pins (upd H2 D (SetXO X.prog X.w D [])) b ∧ b < s3.heap.objs.size := fun b hb => by
    have lt := old b hb
    refine ⟨⟨?_, (f2 b hb).2⟩, by rw [h3, Heap.size_push]; exact Nat.lt_succ_of_lt lt⟩
    rw [upd_ne (by rw [← hD]; exact Nat.ne_of_lt lt)]
    exact (f2 b hb).1
  have st3 : tn 0 s3.heap :=
        T.keep _ _ _ st2 fun b _ o e => by rw [h3]; exact Heap.get?_push_of_some _ e
  have I4 :=
        block_start I3 ok hN f3
  have pg := hg s3 (upd H2 D (SetXO X.prog X.w D [])) s3.heap.objs.size (cellsFrom (s3.heap.objs.size + 1) scope.names (cloFrom X.env.cells scope.names [])) fp
  have pt := ht s3 (upd H2 D (SetXO X.prog X.w D [])) s3.heap.objs.size (cellsFrom (s3.heap.objs.size + 1) scope.names (cloFrom X.env.cells scope.names [])) fp
  have pb := hb s3 (upd H2 D (SetXO X.prog X.w D [])) s3.heap.objs.size (cellsFrom (s3.heap.objs.size + 1) scope.names (cloFrom X.env.cells scope.names [])) fp D
  show codeAny _ _ (.compStart (.SetComp elt (⟨tg, iter, ifs, 0⟩ :: rest) scope pos) 0 (.ref it) (.ref D) (compEnvC scope (cellsFrom (s3.heap.objs.size + 1) scope.names (cloFrom X.env.cells scope.names [])) s3.heap.objs.size X.env)) (compPost (model X.prog X.w) X.A X.xe use Qf (.ref D) s3.heap.objs.size) { s3 with heap := pushCells (s3.heap.push { cls := .type "dict", data := .dict #[] }) scope.names }
  have nfp : ∀ b ∈ fp, (upd H2 D (SetXO X.prog X.w D [])) b = none := fun b hb => (f3 b hb).1.1
  generalize hce : compEnvC scope (cellsFrom (s3.heap.objs.size + 1) scope.names (cloFrom X.env.cells scope.names [])) s3.heap.objs.size X.env = ce at I4 pg pt pb ⊢
  have cL :
        ce.locals = s3.heap.objs.size := by subst hce; rfl
  generalize hH3 : upd H2 D (SetXO X.prog X.w D []) = H3 at I3 I4 pg pt pb w0 nfp f3
  generalize hs4 :
        ({ s3 with heap := pushCells (s3.heap.push { cls := .type "dict", data := .dict #[] }) scope.names } : Shared) = s4 at I4 ⊢
  have st4 : tn 0 s4.heap :=
        T.keep _ _ _ st3 fun b _ o e => by rw [← hs4]; exact pushCells_keeps _ _ _ _ (Heap.get?_push_of_some _ e)
  have loop : codeAny (model X.prog X.w) X.A (.compLoop (.SetComp elt (⟨tg, iter, ifs, 0⟩ :: rest) scope pos) 0 (.ref it) (.ref D) ce) (compPost (model X.prog X.w) X.A X.xe use Qf (.ref D) s3.heap.objs.size) s4 :=
    clause_run (X := X.blk s3 H3 scope ce fp) (Nx := fun H => Q (.ref D) H) hc rfl pg pt pb hv (hturn ce D _) T I4 st4 nfp (fun {H' s'} I' hn b hb => ⟨hn b hb, (I'.ok.exf b hb).1, I'.ok.exfs b hb, .inl hb, fun x c e => (I'.ok.exf b hb).2 x c e, fun p hp => absurd (show p ∈ ([] : List (Addr × Obj)) ++ [] from hp) (by simp)⟩) w0 turn fun s6 H5 I6 qq => by
      have I7 : Inv X pins σ H5 s6 :=
            I3.call' (ch := fp) I6.os I6.base I6.hok I6.bare fun b hb => ⟨(f3 b hb).1.2.2.2.1, (f3 b hb).1.2.1, (f3 b hb).1.2.2.2.2.1, (f3 b hb).1.2.2.2.2.2⟩
      have nC : H5 ce.locals = none := I6.free
      obtain ⟨m, hn, _⟩ := I6.loc
      have hn : s6.heap.Ns ce.locals m :=
            hn
      rw [cL] at hn nC
      exact hRR D s3.heap.objs.size s6 m H5 I7 qq hn
            (I3.fpOk (Nat.le_refl _) nC)
  exact codeAny_compStart_set loop
        (T.self X.A 0 _ _ _ st4 loop)
end
theorem sx3_in0 (elt tg iter t1 i1 t2 i2 : Expr) (ifs f1 f2 : List Expr) (scope : Scope) (pos : Pos) (it acc : Value) (env : Env) : compTurn (.SetComp elt [⟨tg, iter, ifs, 0⟩, ⟨t1, i1, f1, 0⟩, ⟨t2, i2, f2, 0⟩] scope pos) 0 it acc env = (do
    standAt iter.pos
    match ← pyNext it with
    | none => pure (.done .next)
    | some v =>
      letOwnedTupleGo tg it v
      assign tg env v
      let mut ok := true
      for c in ifs do
        if ok then ok ←
              isTrue c env (eval c env)
      if ok then
        let x ← eval i1 env
        standAt i1.pos
        let x ←
              foldedSetIterable i1 env x
        let _ ← runOwn (.compStart (.SetComp elt [⟨tg, iter, ifs, 0⟩, ⟨t1, i1, f1, 0⟩, ⟨t2, i2, f2, 0⟩] scope pos) 1 (← holding [x] (pyIter x)) acc env) env
      again (.compLoop (.SetComp elt [⟨tg, iter, ifs, 0⟩, ⟨t1, i1, f1, 0⟩, ⟨t2, i2, f2, 0⟩] scope pos) 0 it acc env)) := by rfl
theorem sx3_turn0 (elt tg iter t1 i1 t2 i2 : Expr) (ifs f1 f2 : List Expr) (scope : Scope) (pos : Pos) (it acc : Value) (env : Env) : compTurn (.SetComp elt [⟨tg, iter, ifs, 0⟩, ⟨t1, i1, f1, 0⟩, ⟨t2, i2, f2, 0⟩] scope pos) 0 it acc env = (do
    standAt iter.pos
    match ← pyNext it with
    | none => pure (.done .next)
    | some v =>
      letOwnedTupleGo tg it v
      assign tg env v
      let mut ok := true
      for c in ifs do
        if ok then ok ←
              isTrue c env (eval c env)
      if ok then (do let x ← eval i1 env; standAt i1.pos; let x ← foldedSetIterable i1 env x; let _ ← runOwn (.compStart (.SetComp elt [⟨tg, iter, ifs, 0⟩, ⟨t1, i1, f1, 0⟩, ⟨t2, i2, f2, 0⟩] scope pos) 1 (← holding [x] (pyIter x)) acc env) env)
      again (.compLoop (.SetComp elt [⟨tg, iter, ifs, 0⟩, ⟨t1, i1, f1, 0⟩, ⟨t2, i2, f2, 0⟩] scope pos) 0 it acc env)) := by
  rw [sx3_in0]
  simp only [bind_assoc, pure_bind]
theorem sx3_in1 (elt tg iter t1 i1 t2 i2 : Expr) (ifs f1 f2 : List Expr) (scope : Scope) (pos : Pos) (it acc : Value) (env : Env) : compTurn (.SetComp elt [⟨tg, iter, ifs, 0⟩, ⟨t1, i1, f1, 0⟩, ⟨t2, i2, f2, 0⟩] scope pos) 1 it acc env = (do
    standAt i1.pos
    match ← pyNext it with
    | none => pure (.done .next)
    | some v =>
      letOwnedTupleGo t1 it v
      assign t1 env v
      let mut ok := true
      for c in f1 do
        if ok then ok ←
              isTrue c env (eval c env)
      if ok then
        let x ← eval i2 env
        standAt i2.pos
        let x ← foldedSetIterable i2 env x
        let _ ← runOwn (.compStart (.SetComp elt [⟨tg, iter, ifs, 0⟩, ⟨t1, i1, f1, 0⟩, ⟨t2, i2, f2, 0⟩] scope pos) 2 (← holding [x] (pyIter x)) acc env) env
      again (.compLoop (.SetComp elt [⟨tg, iter, ifs, 0⟩, ⟨t1, i1, f1, 0⟩, ⟨t2, i2, f2, 0⟩] scope pos) 1 it acc env)) := by rfl
theorem sx3_turn1 (elt tg iter t1 i1 t2 i2 : Expr) (ifs f1 f2 : List Expr) (scope : Scope) (pos : Pos) (it acc : Value) (env : Env) : compTurn (.SetComp elt [⟨tg, iter, ifs, 0⟩, ⟨t1, i1, f1, 0⟩, ⟨t2, i2, f2, 0⟩] scope pos) 1 it acc env = (do
    standAt i1.pos
    match ← pyNext it with
    | none => pure (.done .next)
    | some v =>
      letOwnedTupleGo t1 it v
      assign t1 env v
      let mut ok := true
      for c in f1 do
        if ok then ok ←
              isTrue c env (eval c env)
      if ok then (do let x ← eval i2 env; standAt i2.pos; let x ← foldedSetIterable i2 env x; let _ ← runOwn (.compStart (.SetComp elt [⟨tg, iter, ifs, 0⟩, ⟨t1, i1, f1, 0⟩, ⟨t2, i2, f2, 0⟩] scope pos) 2 (← holding [x] (pyIter x)) acc env) env)
      again (.compLoop (.SetComp elt [⟨tg, iter, ifs, 0⟩, ⟨t1, i1, f1, 0⟩, ⟨t2, i2, f2, 0⟩] scope pos) 1 it acc env)) := by
  rw [sx3_in1]
  simp only [bind_assoc, pure_bind]
theorem sx3_turn2 (elt tg iter t1 i1 t2 i2 : Expr) (ifs f1 f2 : List Expr) (scope : Scope) (pos : Pos) (it acc : Value) (env : Env) : compTurn (.SetComp elt [⟨tg, iter, ifs, 0⟩, ⟨t1, i1, f1, 0⟩, ⟨t2, i2, f2, 0⟩] scope pos) 2 it acc env = (do
    standAt i2.pos
    match ← pyNext it with
    | none => pure (.done .next)
    | some v =>
      letOwnedTupleGo t2 it v
      assign t2 env v
      let mut ok := true
      for c in f2 do
        if ok then ok ←
              isTrue c env (eval c env)
      if ok then (do let v ← eval elt env; standAt elt.pos; let _ ← call (.builtin "set.add") [acc, v])
      again (.compLoop (.SetComp elt [⟨tg, iter, ifs, 0⟩, ⟨t1, i1, f1, 0⟩, ⟨t2, i2, f2, 0⟩] scope pos) 2 it acc env)) := by rfl
theorem sx3_start1 {prog : Program} {w : World} {A : Around} {env : Env} {elt tg iter t1 i1 t2 i2 : Expr} {ifs f1 f2 : List Expr} {scope : Scope} {pos : Pos} {it acc : Value} {R : Result → Shared → Prop} {s : Shared}
    (h0 : codeAny (model prog w) A (.compLoop (.SetComp elt [⟨tg, iter, ifs, 0⟩, ⟨t1, i1, f1, 0⟩, ⟨t2, i2, f2, 0⟩] scope pos) 1 it acc env) R s)
    (h : wpAny (model prog w) A (pyIter it) (fun it' s' => codeAny (model prog w) A (.compLoop (.SetComp elt [⟨tg, iter, ifs, 0⟩, ⟨t1, i1, f1, 0⟩, ⟨t2, i2, f2, 0⟩] scope pos) 1 it' acc env) R s') (notedBy (model prog w) A env fun x s' => R (.error x) s') s) :
    codeAny (model prog w) A (.compStart (.SetComp elt [⟨tg, iter, ifs, 0⟩, ⟨t1, i1, f1, 0⟩, ⟨t2, i2, f2, 0⟩] scope pos) 1 it acc env) R s := by
  refine codeAny_of_tree ?_
  show wpAny _ _ ((compStart (.SetComp elt [⟨tg, iter, ifs, 0⟩, ⟨t1, i1, f1, 0⟩, ⟨t2, i2, f2, 0⟩] scope pos) 1 it acc env).onRaise (fun x => do noteFrame x env; standAt theWindowsPlace)) _ _ s
  refine wpAny_notedAt ?_
  unfold compStart
  show wpAny _ _
        (ask >>= _) _ _ s
  refine wpAny_bind
        (wpAny_askSetting (wpAny_ite ?_))
  split
  · first
      | exact wpAny_bind
            (wpAny_pure (wpAny_pure (And.intro rfl h0)))
      | exact wpAny_pure
            (And.intro rfl h0)
  · first
      | exact wpAny_bind (wpAny_rule (wpAny_bind (wpAny_standAt (wpAny_bind (wpAny_mono h (fun it' s' h' => wpAny_pure (And.intro rfl h')) fun _ _ x =>
            x)))))
      | (refine wpAny_bind
            (wpAny_rule ?_); show wpAny _ _ (standAt i1.pos >>= _) _ _ s; exact wpAny_bind (wpAny_standAt (wpAny_bind (wpAny_mono h (fun it' s' h' => wpAny_pure (And.intro rfl h')) fun _ _ x => x))))
theorem sx3_start2 {prog : Program} {w : World} {A : Around} {env : Env} {elt tg iter t1 i1 t2 i2 : Expr} {ifs f1 f2 : List Expr} {scope : Scope} {pos : Pos} {it acc : Value} {R : Result → Shared → Prop} {s : Shared}
    (h0 : codeAny (model prog w) A (.compLoop (.SetComp elt [⟨tg, iter, ifs, 0⟩, ⟨t1, i1, f1, 0⟩, ⟨t2, i2, f2, 0⟩] scope pos) 2 it acc env) R s)
    (h : wpAny (model prog w) A (pyIter it) (fun it' s' => codeAny (model prog w) A (.compLoop (.SetComp elt [⟨tg, iter, ifs, 0⟩, ⟨t1, i1, f1, 0⟩, ⟨t2, i2, f2, 0⟩] scope pos) 2 it' acc env) R s') (notedBy (model prog w) A env fun x s' => R (.error x) s') s) :
    codeAny (model prog w) A (.compStart (.SetComp elt [⟨tg, iter, ifs, 0⟩, ⟨t1, i1, f1, 0⟩, ⟨t2, i2, f2, 0⟩] scope pos) 2 it acc env) R s := by
  refine codeAny_of_tree ?_
  show wpAny _ _ ((compStart (.SetComp elt [⟨tg, iter, ifs, 0⟩, ⟨t1, i1, f1, 0⟩, ⟨t2, i2, f2, 0⟩] scope pos) 2 it acc env).onRaise (fun x => do noteFrame x env; standAt theWindowsPlace)) _ _ s
  refine wpAny_notedAt ?_
  unfold compStart
  show wpAny _ _
        (ask >>= _) _ _ s
  refine wpAny_bind
        (wpAny_askSetting (wpAny_ite ?_))
  split
  · first
      | exact wpAny_bind
            (wpAny_pure (wpAny_pure (And.intro rfl h0)))
      | exact wpAny_pure
            (And.intro rfl h0)
  · first
      | exact wpAny_bind (wpAny_rule (wpAny_bind (wpAny_standAt (wpAny_bind (wpAny_mono h (fun it' s' h' => wpAny_pure (And.intro rfl h')) fun _ _ x =>
            x)))))
      | (refine wpAny_bind (wpAny_rule ?_); show wpAny _ _ (standAt i2.pos >>= _) _ _ s; exact wpAny_bind (wpAny_standAt (wpAny_bind (wpAny_mono h (fun it' s' h' => wpAny_pure (And.intro rfl h')) fun _ _ x => x))))
section
variable {X : Cx}
theorem ps_setSx {i : Nat} {y : Str} {py : Pos} {elt tg iter t1 i1 t2 i2 : Expr} {ifs f1 f2 : List Expr} {scope : Scope} {own : List (Str × Nat)} {vs1 vs2 : List Nat} {pos spos : Pos} {wi wi1 wi2 : TI} {g g1 g2 : TG} {tt tt1 tt2 : TT} {te : TE} (hc : X.calm = true) (hN : X.N.Nodup) (hy : X.N[i]? = some y) (hyl : X.env.scope.names.lookup y = some .local)
    (hsw : swapsWith (.SetComp elt [⟨tg, iter, ifs, 0⟩, ⟨t1, i1, f1, 0⟩, ⟨t2, i2, f2, 0⟩] scope pos) (some (.Name y py)) spos.line X.env = pure true) (hi : PI X tg iter wi) (ok : BlkOk X.N X.env.scope scope own) (hv1 : ∀ i ∈ vs1, i ∈ own.map (·.2)) (hv2 : ∀ i ∈ vs2, i ∈ vs1)
    (hg : ∀ (s : Shared) (H : Hp) (C : Addr) (cl : List (PySem.Str × Addr)) (fp : List Addr), PG (X.blk s H scope (compEnvC scope cl C X.env) fp) tg g) (ht :
          ∀ (s : Shared) (H : Hp) (C : Addr) (cl : List (PySem.Str × Addr)) (fp : List Addr), PTs (X.blk s H scope (compEnvC scope cl C X.env) fp) ifs tt)
    (hi1 : ∀ (s : Shared) (H : Hp) (C : Addr) (cl : List (PySem.Str × Addr)) (fp : List Addr), PI (X.blk s H scope (compEnvC scope cl C X.env) fp) t1 i1 wi1) (hg1 : ∀ (s : Shared) (H : Hp) (C : Addr) (cl : List (PySem.Str × Addr)) (fp : List Addr), PG (X.blk s H scope (compEnvC scope cl C X.env) fp) t1 g1) (ht1 : ∀ (s : Shared) (H : Hp) (C : Addr) (cl : List (PySem.Str × Addr)) (fp : List Addr), PTs (X.blk s H scope (compEnvC scope cl C X.env) fp) f1 tt1)
    (hi2 : ∀ (s : Shared) (H : Hp) (C : Addr) (cl : List (PySem.Str × Addr)) (fp : List Addr), PI (X.blk s H scope (compEnvC scope cl C X.env) fp) t2 i2 wi2) (hg2 : ∀ (s : Shared) (H : Hp) (C : Addr) (cl : List (PySem.Str × Addr)) (fp : List Addr), PG (X.blk s H scope (compEnvC scope cl C X.env) fp) t2 g2) (ht2 : ∀ (s : Shared) (H : Hp) (C : Addr) (cl : List (PySem.Str × Addr)) (fp : List Addr), PTs (X.blk s H scope (compEnvC scope cl C X.env) fp) f2 tt2)
    (he : ∀ (s : Shared) (H : Hp) (C : Addr) (cl : List (PySem.Str × Addr)) (fp : List Addr), PE (X.blk s H scope (compEnvC scope cl C X.env) fp) elt te) (hs : ∀ x, foldedSetIterable iter X.env x = pure x := by intro _; rfl) (hs1 : ∀ env x, foldedSetIterable i1 env x = pure x := by intro _ _; rfl) (hs2 : ∀ env x, foldedSetIterable i2 env x = pure x := by intro _ _; rfl) :
    PS X (.Assign [.Name y py] (.SetComp elt [⟨tg, iter, ifs, 0⟩, ⟨t1, i1, f1, 0⟩, ⟨t2, i2, f2, 0⟩] scope pos) spos)
      (tAsg (tSx X.prog X.w wi g tt (fun D => tFor wi1 g1 tt1 (tFor wi2 g2 tt2 (tAdd X.prog X.w te D) vs2) vs1) (own.map (·.2))) (gName i)) := by
  refine ⟨fun pins s σ H D I h =>
        ?_⟩
  rw
        [exec_Assign_Name_used _ _ _ _ hsw]
  refine wpAny_bind
        (wpAny_standAt (wpAny_bind ?_))
  show wpAny _ X.A (do let _ ← comprehension (.SetComp elt [⟨tg, iter, ifs, 0⟩, ⟨t1, i1, f1, 0⟩, ⟨t2, i2, f2, 0⟩] scope pos) scope X.env (firstIterPos [⟨tg, iter, ifs, 0⟩, ⟨t1, i1, f1, 0⟩, ⟨t2, i2, f2, 0⟩] pos) (newSet (.type "set")) false (eval iter X.env) (some (assign (.Name y py) X.env))) _ _ s
  refine wpAny_bind (thn (sx_core (Qf := fun _ s' => SP X pins D .next s') (Q := fun x H1 => gName i x σ H1 D.nx)
    (body := fun env D => do let x ← eval i1 env; standAt i1.pos; let x ← foldedSetIterable i1 env x; let _ ← runOwn (.compStart (.SetComp elt [⟨tg, iter, ifs, 0⟩, ⟨t1, i1, f1, 0⟩, ⟨t2, i2, f2, 0⟩] scope pos) 1 (← holding [x] (pyIter x)) (.ref D) env) env)
    hc hN I hi ok hv1 hg ht (fun s H C cl fp D => pb_for hc rfl (hi1 s H C cl fp) (hg1 s H C cl fp) (ht1 s H C cl fp)
      (pb_for hc rfl (hi2 s H C cl fp) (hg2 s H C cl fp) (ht2 s H C cl fp) (pb_add rfl (he s H C cl fp)) (fun _ z => absurd z List.not_mem_nil) (hs2 _) (fun it => sx3_turn2 ..) (fun it R s h0 h => sx3_start2 h0 h)) hv2 (hs1 _) (fun it => sx3_turn1 ..) (fun it R s h0 h => sx3_start1 h0 h)) hs (fun env D it => sx3_turn0 ..) h fun L C s' m H' I' q hn f => ?_) fun _ s' hq => wpAny_pure (wpAny_pure hq))
  show wpAny _ _
        (assign (.Name y py) X.env (.ref L)) _ _ _
  refine wpAny_assign_Name (store_ok2 (v :=
        V.ref L) I' hN hy (.inl hyl) rfl (fun s2 I2 ⟨a, sb, ha⟩ => ?_) (.inr hyl))
  obtain ⟨f0, f1, f2, f3, f4, f5⟩ :=
        f
  have haC : C ≠ a := ha.elim (fun z => by rw [z]; exact f1) fun z e => f4 y a z e.symm
  exact ⟨m, hn.sameBut sb haC, fun h3 sb3 => ⟨_, H', I2.turned (t' := s2.toks) (fun b o hb e => (sb3.2 b hb).trans e) f0 f1 f3 f4 f5, q⟩⟩
end
end Pn

-- PnK
set_option
      maxHeartbeats 4000000
namespace Pn
open PySem PySem.Spec PyProof.Rows L2 PpSet PySem.Froz StX ClX
def textOf : Value → Str
  | .str k _ => k
  | _ => ""
theorem each_text : ∀ {vs : List Value}, (∀ v ∈ vs, ∃ k u, v = .str k u) → PySem.W.EachIs (fun v t => ∃ u, v = .str t u) vs (vs.map textOf)
  | [], _ => .nil
  | v :: vs, h => by
    obtain ⟨k, u, rfl⟩ := h v List.mem_cons_self
    exact .cons ⟨u, rfl⟩ (each_text fun w m => h w (List.mem_cons_of_mem _ m))
theorem vals_text : ∀ {vs : List Value} {ts : List Str}, PySem.W.EachIs (fun v t => ∃ u, v = .str t u) vs ts → Vals (ts.map V.str) vs
  | _, _, .nil => .nil
  | _, _, .cons h t => .cons h (vals_text t)
theorem pn_sorted_set {P : Program} {w : World} {A : Around} {E : Value → Shared → Prop} {s : Shared} {a : Addr} {l : List Str} {Q : Value → Shared → Prop} (R : SetX P w s.heap a l) (hh : A.handled = none) (hl : l.length ≤ 60) (hu : A.units + 64 < cLine)
    (h : ∀ (s1 : Shared) (h2 : Heap) (out : List Value) (c : Nat) (ts : List Str), (∀ b o, s.heap.get? b = some o → s1.heap.get? b = some o) → s1.gens = s.gens → s1.os = s.os → (∀ b o, s1.heap.get? b = some o → h2.get? b = some o) →
      h2.get? s1.heap.objs.size = some (seqObj "list" (List.toArray out) c) → PySem.W.EachIs (fun v t => ∃ u, v = .str t u) out ts → ts.length = l.length → Q (.ref s1.heap.objs.size) { s1 with heap := h2 }) :
    wpAny (model P w) A
          (call (.builtin "sorted") [.ref a]) Q E s := by
  obtain ⟨D, ho, TX, nd, r, ld⟩ := R
  refine Calls.call_function_entry kind_sorted plain_sorted entry_sorted
        (args_sorted1 _) ?_
  unfold Builtin.«sorted»
  have few : D.1.size < scanBound := by
    rw [TX.sz]
    exact Nat.lt_of_le_of_lt hl (by decide)
  refine wpAny_bind (m :=
        checkCount "sorted" 1 1 _) (wpAny_pure ?_)
  refine wpAny_bind (collect_set (A := A.in1) hh ⟨_, ho, rfl, rfl⟩ TX.fit few r ld fun s1 vs k1 hz g1 o1 pm => ?_)
  have hv : ∀ v ∈ vs, ∃ k u, v = .str k u := fun v m => by
    obtain ⟨e, he, q⟩ := List.mem_map.mp (pm.mem_iff.mp m)
    obtain ⟨⟨k, hk, _⟩, _⟩ := TX.el e he
    obtain ⟨u, eu⟩ := Value.isStrOf_shape hk
    exact ⟨k, u, by rw [← q]; exact eu⟩
  have hvl : vs.length = l.length := by rw [pm.length_eq, List.length_map, Array.length_toList]; exact TX.sz
  have ev := each_text hv
  have hL : vs.length ≤ sizeLine := by rw [hvl]; exact Nat.le_trans hl (by decide)
  refine wpAny_bind
        (wpAny_newList ?_ hL)
  have at_ : (s1.heap.push (seqObj "list" vs.toArray 0)).get? s1.heap.objs.size = some (seqObj "list" vs.toArray 0) := Heap.get?_push_size _ rfl
  refine wpAny_bind (wpAny_holding (wpAny_call_entry slot_list_sort ⟨_, at_, rfl⟩ entry_list_sort ?_ (args_list_sort _)))
  have er' : PySem.W.EachIs (fun v b => ∃ as, Reads (PySem.W.sortingHeap (s1.heap.push (seqObj "list" vs.toArray 0)) s1.heap.objs.size vs) v (PyData.str b) as) vs (vs.map textOf) := ev.mono fun _ _ ⟨u, e⟩ => ⟨_, by rw [e]; exact .str _ _⟩
  have hal : PySem.W.AllAlike ((vs.map textOf).map PyData.str) := PySem.W.AllAlike.of fun _ _ => by simp [PySem.W.alike]
  refine PySem.W.list_sort_vals (s := { s1 with heap := s1.heap.push (seqObj "list" vs.toArray 0) }) at_ (PySem.W.SortsAt.data (s := { s1 with heap := PySem.W.sortingHeap (s1.heap.push (seqObj "list" vs.toArray 0)) s1.heap.objs.size vs })
    (PySem.W.each_map (R := fun v d => ∃ as, Reads (PySem.W.sortingHeap (s1.heap.push (seqObj "list" vs.toArray 0)) s1.heap.objs.size vs) v d as) PyData.str er') hal (PySem.W.Sortable.others fun _ => ⟨by simp, by simp⟩) (PySem.W.bound_map (A := A.in1.in1) fun b _ => ?_)) hL ⟨_, rfl, wpAny_pure ⟨_, rfl, ?_⟩⟩
  · have hd : (PyData.str b).depth = 0 := by simp [PyData.depth]
    show A.units + 2 + (PyData.str b).depth < cLine
    rw [hd]; omega
  · obtain ⟨c, hc⟩ := PyProof.Rows.sortedHeap_at (out := (PySem.W.sortVals (PySem.W.dataKind (PySem.W.sortingHeap (s1.heap.push (seqObj "list" vs.toArray 0)) s1.heap.objs.size vs) ((vs.map textOf).map PyData.str)) false vs vs).toArray) at_
    have eo := PySem.W.sortVals_data (enc := PyData.str) false ev er' hal
    refine h s1 _ _ c _ k1 g1 o1 (fun b o q => ?_) hc eo ?_
    · rw [PyProof.Rows.sortedHeap_old (Nat.ne_of_lt (Heap.lt_size q)) (Heap.lt_size (Heap.get?_push_of_some _ q))]
      exact
            Heap.get?_push_of_some _ q
    · rw [(List.mergeSort_perm _ _).length_eq, List.length_map, hvl]
section
variable {X : Cx}
/-- sorted of a set of texts: so many texts -/
def rSortX (P : Program) (w : World) : List V → Hp → VK → Prop := fun vs H Q => ∃ (a : Addr) (l : List Str), vs = [.ref a] ∧ H a = some (SetXO P w a l) ∧ l.length ≤ 60 ∧
  ∀ (ts : List Str) (p : Addr), ts.length = l.length → H p = none → Q (.ref p) (upd H p (.lst (ts.map V.str)))
theorem cr_sortX (hc : X.calm = true) (hu : X.A.units + 64 < cLine) : CallR X (.builtin "sorted") (rSortX X.prog X.w) := by
  intro pins s σ H vs us Q I rv h
  obtain ⟨a, l, rfl, ha, hl, k⟩ := h
  obtain rfl := Vals.ref1 rv
  refine pn_sorted_set (setXO_get I ha) (I.ok.hd hc) hl hu fun s1 h2 out c ts k1 g1 o1 k2 hD eo hts => ?_
  have I1 : Inv X pins σ H s1 := I.call' (ch := []) o1 (Un.kept k1) (I.hok.kept k1) (by rw [g1]; exact I.bare) (fun _ z => nomatch z)
  have hn : H s1.heap.objs.size = none := I1.hok.fresh (Nat.le_refl _)
  exact ⟨.ref _, _, I1.laid (o := .lst (ts.map V.str)) (t' := s1.toks) k2 (Nat.le_refl _) ⟨by rw [List.length_map, hts]; exact Nat.le_trans hl (by decide), out, c, vals_text eo, hD⟩, rfl, k ts _ hts hn⟩
open LamX in
/-- one call of lambda x: x.f -/
theorem lam_turn {pins : List (Addr × Obj)} {σ : L2.St} {H : Hp} {s : Shared} {A : Around} {h : Heap} {tk : Nat} {f c' b C dx : Addr} {fs : List (Str × V)} {q x fld nm : Str} {params : Arguments} {scope : Scope} {pm ctv : Value} {p1 p2 : Pos} (I : Inv X pins σ H s) (hroom : A.depth < recursionLimit)
    (hx : ∀ b o, s.heap.get? b = some o → h.get? b = some o)
    (hf : s.heap.get? f = some (PySem.W.kla_obj "<lambda>" q params (.Attribute (.Name x p1) fld p2) scope [] pm c' ctv)) (hco : H c' = some (CodeO c' q))
    (hbind : ∀ v, bindArgs (PySem.W.kla_fn "<lambda>" q params (.Attribute (.Name x p1) fld p2) scope [] pm (.ref c') ctv) ⟨[v], []⟩ = pure [(x, v)])
    (hk : scope.kind = .function) (hco1 : scope.isCoroutine = false) (hgen : scope.isGenerator = false) (hcell : ∀ y ∈ scope.names, y.2 ≠ .cell) (hloc : scope.names.lookup x = some .local) (hd : (x == ("__debug__" : Str)) = false)
    (hb : ∀ env, attributeBase (.Name x p1) fld env (eval (.Name x p1) env) = eval (.Name x p1) env)
    (ea : H b = some (.ins C dx fs)) (cl : Cls X.K C) (na : NoAttr X.K C fld) (lk : fs.lookup fld = some (.str nm)) :
    wpAny (model X.prog X.w) A (call (.ref f) [.ref b]) (PySem.W.KeyPure (.str nm) { s with heap := h, toks := tk }) (fun _ _ => False) { s with heap := h, toks := tk } := by
  have I0 : Inv X pins σ H { s with heap := h, toks := tk } := I.kept (t' := tk) hx
  obtain ⟨⟨oc, vs, t, hoc, hdc, hvc⟩, _, _⟩ := I0.hok c' _ hco
  refine wpAny_call (codeAny_mono (R := fun r s' => ∃ u, r = .ok (.ret u) ∧ PySem.W.KeyPure (.str nm) { s with heap := h, toks := tk } u s') ?_ fun r s' ⟨u, e, kp⟩ => by subst e; exact kp)
  refine PySem.W.kla_callFunE hroom (hx _ _ hf) rfl hco1 hgen rfl ⟨c', oc, vs, t, rfl, hoc, hdc, hvc⟩ ?_
  rw [hbind]
  refine wpAny_pure (wpAny_newFunctionEnv hcell (fun y hy => by rw [List.mem_singleton] at hy; rw [hy]; exact hloc) (fun h1 hns hsb => ⟨I0.nolimit.fresh _ hsb, ?_⟩) hk)
  have kp : ∀ b o, h.get? b = some o → h1.get? b = some o := fun b o e => hsb.extBut b o (Nat.ne_of_lt (Heap.lt_size e)) (Heap.get?_push_of_some _ e)
  have I1 : Inv X pins σ H { s with heap := h1, toks := tk + 1 } := I.kept (t' := tk + 1) fun b o e => kp b o (hx b o e)
  have hm : ([(x, Value.ref b)].reverse).lookup x = some (.ref b) := by simp
  show codeAny _ _ (.expr (.Attribute (.Name x p1) fld p2) (PySem.W.envX q scope h.objs.size f (.ref c') [])) _ _
  refine PySem.W.kla_codeExpr (attr_of (hb _) (wpAny_Name (wpAny_loadName_local hk hloc hns hm ?_) hd))
  obtain ⟨mA, O, r, _, _, _⟩ := ins_get I1.hok ea
  obtain ⟨u, hu, ru⟩ := RelO.some_of (v := V.str nm) (o := mA fld) (by rw [← lk]; exact r fld)
  obtain ⟨t1, rfl⟩ := ru
  exact get_map I1.kIn O (cl.get fld) cl.hd na hu rfl ⟨_, rfl, h1, _, rfl, kp, .str _ _⟩
open LamX in
/-- sorted(e, key=lambda x: x.f), f a text: the items with their data in some order -/
def tSortL (K : PySem.W.Frag) (T : List (Addr × Str)) (fld : Str) (ta : TA) : TE := fun σ H Q => ta σ H fun vs H1 => ∃ (a : Addr) (xs : List V) (nm : List Str), vs = [.ref a] ∧ (H1 a = some (.lst xs) ∨ H1 a = some (.tup xs)) ∧
  Paired (fun v n => ∃ b C dx fs, v = V.ref b ∧ H1 b = some (.ins C dx fs) ∧ Cls K C ∧ NoAttr K C fld ∧ fs.lookup fld = some (.str n)) xs nm ∧ nm.length ≤ 100 ∧ Tabs T H1 ∧
  ∀ (H2 : Hp) (zs : List V) (p : Addr), ExtN H1 H2 → Tabs T H2 → zs.Perm xs → H2 p = none → Q (.ref p) (upd H2 p (.lst zs))
open LamX in
theorem pe_sortL {T : List (Addr × Str)} {c P : Addr} {k : Nat} {params : Arguments} {scope : Scope} {x0 x fld : Str} {e : Expr} {ta : TA} {p lpos p1 p2 kpos pos : Pos} (hg : Gl X x0) (hm : X.mg x0 = none) (hv : bootBuiltins x0 = some (.builtin "sorted")) (ha : PA X [e] ta)
    (TB : TabB X.base X.mg c P) (hcode : X.env.code = .ref c) (hmT : (P, X.env.qual ++ "<lambda>") ∈ T) (hu : ∀ p ∈ T, p.1 = P → p.2 = X.env.qual ++ "<lambda>") (hr : Room (k + 1) X.A) (hdef : defaultsOf params X.env = ([], [])) (hun : X.A.units + 64 < cLine)
    (hbind : ∀ (q : Str) (pm cv ctv v : Value), bindArgs (PySem.W.kla_fn "<lambda>" q params (.Attribute (.Name x p1) fld p2) scope [] pm cv ctv) ⟨[v], []⟩ = pure [(x, v)])
    (hk : scope.kind = .function) (hco1 : scope.isCoroutine = false) (hgen : scope.isGenerator = false) (hcell : ∀ y ∈ scope.names, y.2 ≠ .cell ∧ y.2 ≠ .free) (hloc : scope.names.lookup x = some .local) (hd : (x == ("__debug__" : Str)) = false := by decide)
    (hb : ∀ env, attributeBase (.Name x p1) fld env (eval (.Name x p1) env) = eval (.Name x p1) env := by intro _; rfl)
    (hn : x0 ≠ "__name__" := by decide) (hdb : (x0 == ("__debug__" : Str)) = false := by decide)
    (hes : backTo pos (starEach [e] X.env) = (false, eval e X.env) :: backTo pos (starEach [] X.env) := by rfl) (hpl : (backTo pos (starEach [e] X.env)).any (·.1) = false := by rfl) :
    PE X (.Call (.Name x0 p) [e] [⟨some "key", .Lambda params (.Attribute (.Name x p1) fld p2) scope lpos, kpos⟩] pos) (tSortL X.K T fld ta) := by
  refine ⟨fun pins s σ H Q I h =>
        ?_⟩
  refine wpAny_Call_Name_kw
        (ld_blt I hg hm hv ?_ hn hdb)
  have noc : cloFrom X.env.cells scope.names [] = [] := by
    cases q : cloFrom X.env.cells scope.names [] with
    | nil => rfl
    | cons z zs =>
      rcases cloFrom_mem (n := z.1) (c := z.2) (by rw [q]; exact List.mem_cons_self) with hm | ⟨hm, _⟩
      · cases hm
      · exact absurd rfl (hcell _ hm).2
  refine PyProof.Rows.callWith_kw (thn (ha.run pos pins s σ H _ I h) fun us s1 ⟨vs, H1, I1, r1, a, xs, nm, e1, hsrc, pr, hl, hT, q⟩ => ?_) hes hpl
  subst e1
  obtain rfl := Vals.ref1 r1
  show wpAny _ _ (evalAll [do let v ← eval (.Lambda params (.Attribute (.Name x p1) fld p2) scope lpos) X.env; standAt pos; pure v]) _ _ s1
  refine wpAny_evalAll_cons (wpAny_bind (lam_make2 I1 TB hcode hmT hu hT hdef (fun y hy e => absurd e (hcell y hy).2) fun f c' pm ctv H2 s2 I2 eN hT2 hf hfn hfr hco => wpAny_bind (wpAny_standAt (wpAny_pure (wpAny_evalAll_nil ?_)))))
  rw [noc] at hf
  have src2 : SqL X.K H2 a xs ∨ SqT X.K H2 a xs := hsrc.imp (fun z => SqL.of (eN _ _ z fun _ q => by cases q)) fun z => SqT.of (eN _ _ z fun _ q => by cases q)
  have pr2 : Paired (fun v n => ∃ b C dx fs, v = V.ref b ∧ H2 b = some (.ins C dx fs) ∧ Cls X.K C ∧ NoAttr X.K C fld ∧ fs.lookup fld = some (.str n)) xs nm := pr.mono fun v n ⟨b, C, dx, fs, z1, z2, z3⟩ => ⟨b, C, dx, fs, z1, eN _ _ z2 (fun _ q => by cases q), z3⟩
  obtain ⟨its, rx, has, hz⟩ := has_seq I2 src2
  have hxm : xs.length = nm.length := paired_len pr
  have hzz := zip_fst hxm
  have ee := zip_vals rx hxm
  have mv := paired_zip_all pr2
  have hlz : (xs.zip nm).length = nm.length := by rw [List.length_zip, hxm, Nat.min_self]
  have key : (backToKw pos (keywordEach [⟨some "key", .Lambda params (.Attribute (.Name x p1) fld p2) scope lpos, kpos⟩] X.env)).filterMap (·.1) = [Str.ofString "key"] := rfl
  rw [key]
  refine PySem.W.pn_sorted_key (k := fun b : V × Str => .str b.2) has ee (PySem.W.AllAlike.of fun _ _ => by simp [PySem.W.alike]) (PySem.W.Sortable.others fun _ => ⟨by simp, by simp⟩) (by rw [hlz]; exact Nat.le_trans hl (by decide)) (fun b _ => ?_) (fun v b hR hbm h tk hx => ?_) fun h' h2 out cc tk k1 k2 hD hlo eo => ?_
  · have hd : (PyData.str b.2).depth = 0 := by simp [PyData.depth]
    rw [hd]; omega
  · obtain ⟨b', C, dx, fs, z1, z2, z3, z4, z5⟩ := mv b hbm
    have r' : RelV (.ref b') v := by rw [← z1]; exact hR
    obtain rfl : v = Value.ref b' := r'
    exact lam_turn I2 hr.depth hx hf hco (fun v => hbind _ _ _ _ v) hk hco1 hgen (fun y hy => (hcell y hy).1) hloc hd hb z2 z3 z4 z5
  · have hp := List.mergeSort_perm (xs.zip nm) (PySem.W.dataLe false fun b : V × Str => .str b.2)
    have rz := vals_fst eo
    have I3 : Inv X pins σ H2 { s2 with heap := h' } := I2.kept (t' := s2.toks) k1
    have hn3 : H2 h'.objs.size = none := I3.hok.fresh (Nat.le_refl _)
    refine ⟨.ref _, _, I3.laid (o := .lst (((xs.zip nm).mergeSort (PySem.W.dataLe false fun b : V × Str => .str b.2)).map (·.1))) (t' := tk) k2 (Nat.le_refl _) ⟨?_, out, cc, rz, hD⟩, rfl, q H2 _ _ eN hT2 ((hp.map (·.1)).trans (by rw [hzz.1] : ((xs.zip nm).map (·.1)).Perm xs)) hn3⟩
    rw [List.length_map, hp.length_eq, hlz]
    exact Nat.le_trans hl (by decide)
end
end Pn

-- PnE9
set_option
      maxHeartbeats 4000000
namespace Pn
open PySem PySem.Spec L2 PyProof.Rows StX ClX
section
variable {P : Program} {w : World} {K : PySem.W.Frag}
      {mg : Str → Option Value} {base : Heap}
def r_check_columns (K : PySem.W.Frag) : RC := fun vs _ H Q => ∃ (a : Addr) (ss : List Str), vs = [.ref a] ∧ H a = some (.lst (ss.map V.str)) ∧ (∀ z ∈ ss, NameOk z ∧ z ≠ "state" ∧ z ≠ "row" ∧ z ≠ "deed") ∧ ss.Nodup ∧ ss.length ≤ 3 ∧ ∀ v H' ys, Same H H' → ys.Perm ss → IsTS K H' v ys → Q v H'
theorem ok_check_columns (T : Tx K mg) : Cal P w K mg base false 2 "check_columns" (r_check_columns K) := by
  refine cal_at T.d_check_columns T.g_check_columns sc_check_columns (fun vs H Q h => by obtain ⟨a, ss, rfl, _⟩ := h; rfl) (fun _ _ _ _ _ _ us hl => match us, hl with | [_], _ => rfl) fun cdv A outer s H vs Q hr _ h => ?_
  have G_check_once := ok_check_onceL (P := P) (w := w) (base := base) T
  have G_is_name := ok_is_name (P := P) (w := w) (base := base) T
  obtain ⟨a, ss, rfl, ha, nm, nd, hm, k⟩ := h
  refine ⟨_, (pss_cons (ps_for PassesOwn.never rfl (pi_list (pv 0)) (pg_name (i := 1) sc_check_columns.nd rfl (Or.inl rfl)) (pss_one (ps_if (PW.pt (pw_or (pt_not (pt_val (pe_cl G_is_name hr (by decide) Gd.no rfl (pa_cons (pv 1) pa_nil)))) (pw_or1 (pt_cmpR op_in_seq (pv 1) (pe_tup (pa_cons pe_str (pa_cons pe_str (pa_cons pe_str pa_nil)))) rfl)))) pss_never pss_nil)))
    (pss_cons (ps_expr (pe_cl G_check_once hr (by decide) Gd.no rfl (pa_cons (pv 0) pa_nil)))
    (pss_cons (ps_if (pt_cmpR op_gt (pe_callB call_len_seq rfl T.f_len boot_len (pa_cons (pv 0) pa_nil)) (pe_gi T.i_MOST_COLUMNS rfl) (nomark _)) pss_never pss_nil)
    (pss_one (ps_ret (pe_callTy call_tuple_of rfl T.f_tuple boot_tuple (pa_cons (pe_callB cr_sortedS rfl T.f_sorted boot_sorted (pa_cons (pv 0) pa_nil)) pa_nil))))))), ?_⟩
  refine ⟨_, rfl, a, rfl, ⟨_, SqL.of ha⟩, for_list (xs := ss.map V.str) (fun i σ H' => Same H H' ∧ ∃ x, σ = [some (.ref a), x]) ⟨Same.refl H, _, rfl⟩ (fun i σ H' _ p => SqL.of (p.1 _ _ ha)) (fun i x σ H' hx p => ?_) (fun σ H' p => ?_)⟩
  · obtain ⟨sm, x1, rfl⟩ := p
    obtain ⟨z, hz, rfl⟩ := strs_ix hx
    obtain ⟨o1, o2, o3, o4⟩ := nm z (List.mem_of_getElem? hz)
    refine ⟨_, rfl, z, rfl, o1, fun H2 s2 => ⟨true, rfl, ?_⟩⟩
    refine ⟨_, rfl, by decide, fun q hq => ⟨q, _, rfl, .inr (SqT.of upd_same), rfl, rfl, inV (.str z) [.str "state", .str "row", .str "deed"], rfl, ?_⟩⟩
    have e : inV (.str z) [.str "state", .str "row", .str "deed"] = false := (inV_strs z ["state", "row", "deed"]).trans (decide_eq_false (by simp [o2, o3, o4]))
    rw [e]
    exact ⟨(sm.trans s2).trans (Same.new hq), _, rfl⟩
  · obtain ⟨sm, x1, rfl⟩ := p
    refine ⟨_, rfl, a, ss, rfl, sm _ _ ha, nd, fun H2 s2 => ?_⟩
    have hl := SqL.of (K := K) ((sm.trans s2) _ _ ha)
    refine ⟨_, rfl, a, _, rfl, .inl hl, _, _, rfl, rfl, decide ((3 : Int) < ((ss.map V.str).length : Int)), rfl, ?_⟩
    rw [decide_eq_false (by rw [List.length_map]; omega)]
    refine ⟨_, rfl, a, ss, rfl, hl, by omega, fun ys p hp _ hpn => ?_⟩
    exact ⟨p, _, rfl, .inl ⟨SqL.of upd_same, fun l hl => k _ _ ys ((sm.trans s2).trans ((Same.new hpn).trans (Same.new hl))) hp ⟨l, rfl, SqT.of upd_same⟩⟩⟩
/-- the words of a deed stand in the columns -/
def isCh (k : Str) : Bool := !(decide (k = "make")) && !(decide (k = "end"))
def WdOk (cols : List Str) (d : DeedD) : Prop := (∀ c ∈ d.own, c ∈ cols) ∧ ∀ n, d.note = some n → (∀ c ∈ n.old ++ n.new, c = "state" ∨ (c ∈ cols ∧ (isCh d.kind = true → c ∈ d.own))) ∧ n.old.length ≤ 4 ∧ n.new.length ≤ 4
def DeedD.words (d : DeedD) : List Str := match d.note with
  | none => []
  | some n => n.old ++ n.new
theorem pe_weak {X : Cx} {e : Expr} {t t' : TE} (h : PE X e t) (k : ∀ σ H Q, t' σ H Q → t σ H Q) : PE X e t' := ⟨fun pins s σ H Q I q => h.run pins s σ H Q I (k σ H Q q)⟩
def tWords (K : PySem.W.Frag) (d : DeedD) : TE := fun σ H Q => ∃ v, σ[0]? = some (some v) ∧ IsDeed K H v d ∧ (∀ n, d.note = some n → n.old.length ≤ 4 ∧ n.new.length ≤ 4) ∧ ∀ v' H', Same H H' → IsTS K H' v' d.words → Q v' H'
theorem kit_change (Z : Tz K) (k : Str) : PySem.W.kitOne K (.ref (clsOf K k)) (.ref (He.ga K "Change")) = some (isCh k) := by
  unfold clsOf isCh
  by_cases h : k = "make"
  · rw [if_pos h, decide_eq_true h]; exact Z.q_Make_Change
  · rw [if_neg h, decide_eq_false h]
    by_cases h2 : k = "end"
    · rw [if_pos h2, decide_eq_true h2]; exact Z.q_End_Change
    · rw [if_neg h2, decide_eq_false h2]; exact Z.q_Change_Change
def r_check_words (K : PySem.W.Frag) : RC := fun vs _ H Q => ∃ (v : V) (ca : Addr) (d : DeedD) (cols : List Str), vs = [v, .ref ca] ∧ IsDeed K H v d ∧ SqT K H ca (cols.map V.str) ∧ WdOk cols d ∧ ∀ H', Same H H' → Q .non H'
theorem ok_check_words (T : Tx K mg) (Z : Tz K) : Cal P w K mg base false 1 "check_words" (r_check_words K) := by
  refine cal_at T.d_check_words T.g_check_words sc_check_words (fun vs H Q h => by obtain ⟨_, _, _, _, rfl, _⟩ := h; rfl) (fun _ _ _ _ _ _ us hl => match us, hl with | [_, _], _ => rfl) fun cdv A outer s H vs Q hr _ h => ?_
  obtain ⟨v, ca, d, cols, rfl, hd, hca, ⟨wo, wn⟩, k⟩ := h
  have cl := cls_ok T d.kind
  refine ⟨_, (pss_cons (ps_for PassesOwn.never rfl (pi_tup (pe_fld (pv 0) rfl)) (pg_name (i := 2) sc_check_words.nd rfl (Or.inl rfl)) (pss_one (ps_if (pt_cmpR op_notIn_seq (pv 2) (pv 1) rfl) pss_never pss_nil)))
    (pss_cons (ps_set (i := 3) sc_check_words.nd rfl (Or.inl rfl) (pe_weak (t' := tWords K d) (pe_ifExp (pt_cmp (pc_isN (pe_fld (pv 0) rfl))) (pe_tup pa_nil) (pe_op op_catA (pe_fld (pe_fld (pv 0) rfl) rfl) (pe_fld (pe_fld (pv 0) rfl) rfl))) fun σ H Q h => ?tw))
    (pss_one (ps_for PassesOwn.never rfl (pi_tup (pv 3)) (pg_name (i := 4) sc_check_words.nd rfl (Or.inl rfl)) (pss_cons (ps_if (PW.pt (pw_and (pt_cmpR op_ne (pv 4) pe_str (nomark _)) (pw_and1 (pt_cmpR op_notIn_seq (pv 4) (pv 1) rfl)))) pss_never pss_nil)
    (pss_one (ps_if (PW.pt (pw_and (pt_cmpR op_ne (pv 4) pe_str (nomark _)) (pw_and (pt_val (pe_callB call_isi rfl T.f_isinstance boot_isinstance (pa_cons (pv 0) (pa_cons (pe_go T.g_Change rfl) pa_nil)))) (pw_and1 (pt_cmpR op_notIn_seq (pv 4) (pe_fld (pv 0) rfl) rfl))))) pss_never pss_nil))))))), ?_⟩
  case tw =>
    obtain ⟨v, hv, ⟨a, dx, m, c, z, rfl, ha, _, _, hz⟩, hn4, k⟩ := h
    refine ⟨_, hv, a, _, dx, _, _, rfl, ha, cl, nnote_ok T _, rfl, ?_⟩
    cases hn : d.note with
    | none =>
      rw [hn] at hz
      obtain rfl : z = .non := hz
      refine ⟨true, congrArg V.bl (decide_eq_true rfl), Nat.zero_le _, fun p hp => k _ _ (Same.new hp) ?_⟩
      unfold DeedD.words
      rw [hn]
      exact ⟨p, rfl, SqT.of upd_same⟩
    | some n =>
      rw [hn] at hz
      obtain ⟨b, dy, x, y, rfl, hb, ⟨p1, rfl, h1⟩, ⟨p2, rfl, h2⟩⟩ := hz
      obtain ⟨l1, l2⟩ := hn4 n hn
      have ew : d.words = n.old ++ n.new := by unfold DeedD.words; rw [hn]
      rw [ew] at k
      refine ⟨false, congrArg V.bl (decide_eq_false fun z => by cases z), ?_⟩
      refine ⟨_, hv, a, _, dx, _, _, rfl, ha, cl, nnote_ok T _, rfl, b, _, dy, _, _, rfl, hb, T.c_Note, T.n_Note_old, rfl, ?_⟩
      refine ⟨_, hv, a, _, dx, _, _, rfl, ha, cl, nnote_ok T _, rfl, b, _, dy, _, _, rfl, hb, T.c_Note, T.n_Note_new, rfl, p1, p2, _, _, rfl, rfl, h1, h2, ?_, fun e => ?_, fun _ e => ?_, fun _ _ p hp => ?_⟩
      · rw [List.length_map, List.length_map]
        exact Nat.le_trans (by omega : _ ≤ 8) (by decide)
      · refine k _ _ (Same.refl H) ⟨p2, rfl, ?_⟩
        rw [List.map_eq_nil_iff.mp e]
        exact h2
      · refine k _ _ (Same.refl H) ⟨p1, rfl, ?_⟩
        rw [List.map_eq_nil_iff.mp e, List.append_nil]
        exact h1
      · refine k _ _ (Same.new hp) ⟨p, rfl, ?_⟩
        rw [List.map_append]
        exact SqT.of upd_same
  obtain ⟨a, dx, m, c, z, rfl, ha, q1, ⟨oa, rfl, ho⟩, hz⟩ := hd
  refine ⟨_, rfl, a, _, dx, _, _, rfl, ha, cl, ncolumns_ok T _, rfl, oa, rfl, ⟨_, ho⟩, for_tup (xs := d.own.map V.str) (fun i σ H' => H' = H ∧ ∃ x, σ = [some (.ref a), some (.ref ca), x, none, none]) ⟨rfl, _, rfl⟩ (fun i σ H' _ q => by rw [q.1]; exact ho) (fun i x σ H' hx q => ?_) (fun σ H' q => ?_)⟩
  · obtain ⟨rfl, x1, rfl⟩ := q
    obtain ⟨cc, hcc, rfl⟩ := strs_ix hx
    refine ⟨_, rfl, _, rfl, ca, _, rfl, .inr hca, rfl, flat_strs _, !inV (.str cc) (cols.map V.str), rfl, ?_⟩
    rw [inV_strs, decide_eq_true (wo cc (List.mem_of_getElem? hcc))]
    exact ⟨rfl, _, rfl⟩
  · obtain ⟨rfl, x1, rfl⟩ := q
    refine ⟨_, rfl, ⟨a, dx, m, _, z, rfl, ha, q1, ⟨oa, rfl, ho⟩, hz⟩, fun n hn => (wn n hn).2, fun v2 H2 s2 hv2 => ?_⟩
    obtain ⟨p, rfl, hp⟩ := hv2
    have ww : ∀ cc ∈ d.words, cc = "state" ∨ (cc ∈ cols ∧ (isCh d.kind = true → cc ∈ d.own)) := by
      unfold DeedD.words
      cases hn : d.note with
      | none => intro cc hc; cases hc
      | some n => exact (wn n hn).1
    refine ⟨_, rfl, p, rfl, ⟨_, hp⟩, for_tup (xs := d.words.map V.str) (fun i σ H3 => H3 = H2 ∧ ∃ x, σ = [some (.ref a), some (.ref ca), x1, some (.ref p), x]) ⟨rfl, _, rfl⟩ (fun i σ H3 _ q => by rw [q.1]; exact hp) (fun i x σ H3 hx q => ?_) (fun σ H3 q => ?_)⟩
    · obtain ⟨rfl, x2, rfl⟩ := q
      obtain ⟨cc, hcc, rfl⟩ := strs_ix hx
      have hca2 := same_tup s2 hca
      have ha2 := s2 _ _ ha
      have ho2 := same_tup s2 ho
      refine ⟨_, rfl, rfl, !decide (V.str cc = V.str "state"), rfl, ?_⟩
      by_cases es : cc = "state"
      · rw [decide_eq_true (by rw [es] : V.str cc = V.str "state")]
        refine ⟨_, rfl, rfl, !decide (V.str cc = V.str "state"), rfl, ?_⟩
        rw [decide_eq_true (by rw [es] : V.str cc = V.str "state")]
        exact ⟨rfl, _, rfl⟩
      · obtain ⟨h1, h2⟩ := (ww cc (List.mem_of_getElem? hcc)).resolve_left es
        have e1 : decide (V.str cc = V.str "state") = false := decide_eq_false (fun z => by cases z; exact es rfl)
        rw [e1]
        refine ⟨_, rfl, _, rfl, ca, _, rfl, .inr hca2, rfl, flat_strs _, !inV (.str cc) (cols.map V.str), rfl, ?_⟩
        rw [inV_strs, decide_eq_true h1]
        refine ⟨_, rfl, rfl, !decide (V.str cc = V.str "state"), rfl, ?_⟩
        rw [e1]
        refine ⟨_, rfl, _, _, _, _, isCh d.kind, rfl, .own _, ty_ins ha2 cl (ins_ok Z _), kit_change Z d.kind, _, rfl, ?_⟩
        cases hk : isCh d.kind with
        | false => exact ⟨rfl, _, rfl⟩
        | true =>
          refine ⟨_, rfl, _, rfl, a, _, dx, _, _, rfl, ha2, cl, ncolumns_ok T _, rfl, oa, _, rfl, .inr ho2, rfl, flat_strs _, !inV (.str cc) (d.own.map V.str), rfl, ?_⟩
          rw [inV_strs, decide_eq_true (h2 hk)]
          exact ⟨rfl, _, rfl⟩
    · obtain ⟨rfl, x2, rfl⟩ := q
      exact k _ s2
end
end Pn

-- PnL
set_option maxHeartbeats 8000000
namespace Pn
open PySem PySem.Spec L2 PyProof.Rows StX ClX LamX
theorem sx_tup {K : PySem.W.Frag} {a : Addr} {xs : List V} {g : TG} {tt : TT} {vs : List Nat} {σ : L2.St} {H1 : Hp} {Qd : Hp → Prop} {body : L2.St → Hp → (Hp → Prop) → Prop} (Pv : Nat → Hp → Prop) (h0 : Pv 0 H1) (hl : ∀ i H, i ≤ xs.length → Pv i H → SqT K H a xs)
    (hs : ∀ i x H, xs[i]? = some x → Pv i H → g x (wipe σ vs) H fun σ2 H2 => wipe σ2 vs = wipe σ vs ∧ tt σ2 H2 fun b H3 => if b = true then body σ2 H3 (Pv (i + 1)) else Pv (i + 1) H3) (hd : ∀ H, Pv xs.length H → Qd H) :
    ∃ W : Nat → Nat → Hp → Prop, (∃ m, W 0 m H1) ∧ ∀ i m H, W i m H →
      ((Itt K a).stop i H ∧ Qd H) ∨ ((Itt K a).go i H ∧ ∃ N1 : Hp → Prop, (∀ H', N1 H' → ∃ m', m' < m ∧ W (i + 1) m' H') ∧ ∀ x H', (Itt K a).yld i H x H' → g x (wipe σ vs) H' fun σ2 H2 => wipe σ2 vs = wipe σ vs ∧ tt σ2 H2 fun b H3 => if b = true then body σ2 H3 N1 else N1 H3) := by
  refine ⟨fun i m H => m = xs.length - i ∧ i ≤ xs.length ∧ Pv i H, ⟨xs.length, rfl, Nat.zero_le _, h0⟩, ?_⟩
  rintro i m H ⟨rfl, hi, p⟩
  have q := hl i H hi p
  by_cases hlt : i < xs.length
  · refine .inr ⟨⟨xs, xs[i],
        q, by simp [hlt]⟩, Pv (i + 1), fun H' p' => ⟨xs.length - (i + 1), by omega, rfl, hlt, p'⟩, fun x H' y => ?_⟩
    obtain ⟨e, y⟩ := y
    subst e
    exact hs i x _ (y xs q) p
  · obtain rfl : i = xs.length := by omega
    exact .inl ⟨⟨xs, q, Nat.le_refl _⟩,
          hd H p⟩
section
variable {P : Program} {w : World} {K : PySem.W.Frag} {mg : Str → Option Value} {base : Heap} {gb : Bool} {k n : Nat} {f : Addr} {x qual : Str} {st : Stmt} {N ps ks : List Str} {pv : Str} {r : RC}
theorem star_atC (F : FnAt K x qual st f) (S : FnScope N (ps ++ [pv]) (defScope st)) (hl : ps.length = n + ks.length)
    (b : ∀ (kV doc pm : Value) (an : Option Addr) (cdv ct : Value) (us rest ws : List Value), us.length = n → ws.length = ks.length →
      bindArgs (PySem.W.fnOf x qual (defArgs st) (defBody st) (defScope st) .none kV doc pm an cdv ct) ⟨us ++ rest, ks.zip ws⟩ = (newTuple rest >>= fun t => pure (ps.zip (us ++ ws) ++ [(pv, t)])))
    (hbody : ∀ (cdv : Value), CodeIs K f cdv → ∀ (A : Around) (outer : List Env) (s : Shared) (H : Hp) (vs zs : List V) (Q : VK), Gd gb A → zs.length = ks.length → r vs zs H Q →
      ∃ us rest, vs = us ++ rest ∧ us.length = n ∧ rest.length ≤ sizeLine ∧ ∀ (s2 : Shared) (p : Addr), Room k (A.deeper (envOfC qual (defScope st) s2.heap.objs.size f cdv)) → H p = none →
        ∃ t, PSs (cxOf CX0 P w K mg base N qual (defScope st) f cdv A outer s2 (upd H p (.tup rest)) E0).nox (defBody st) t ∧ t { nx := fun _ H' => Q .non H', rt := Q } (start N (us ++ zs ++ [V.ref p])) (upd H p (.tup rest))) :
    CallP P w K mg base gb (k + 1) f ks r := by
  obtain ⟨fd, F⟩ := F
  obtain ⟨oc, od, dV, kV, doc, pm, an, cdv, ct, osl, efd, lk, hcd, hD, hK⟩ := id F.ex
  have eD : dV = .none := hD.elim (fun z => z.2) fun z => absurd rfl z.1
  subst eD
  subst efd
  exact call_star F S ⟨b kV doc pm an cdv ct, hl⟩ hbody
end
/-- the table of code objects of Book.__init__'s code -/
structure Tl (K : PySem.W.Frag) (mg : Str → Option Value) (base : Heap) (TL : List (Addr × Str)) : Prop where
  lam : ∃ oc od fd osl, K.lookup (He.ma K (He.ga K "Book") "__init__") = some ⟨oc, od, .func fd, osl⟩ ∧ ∃ c Pt, fd.code = .ref c ∧ TabB base mg c Pt ∧ (Pt, ("Book.__init__.<locals>.<lambda>" : Str)) ∈ TL ∧ ∀ p ∈ TL, p.1 = Pt → p.2 = ("Book.__init__.<locals>.<lambda>" : Str)
section
variable {P : Program} {w : World} {K : PySem.W.Frag} {mg : Str → Option Value} {base : Heap} {TL : List (Addr × Str)}
theorem kit_any (Z : Tz K) (k : Str) : PySem.W.kitAny K (.ref (clsOf K k)) [.ref (He.ga K "Make"), .ref (He.ga K "Change"), .ref (He.ga K "End")] = some true := by
  refine kitAny_cons (kit_make Z k) (fun h => ?_) (fun _ => rfl)
  refine kitAny_cons (kit_change Z k) (fun h2 => ?_) (fun _ => rfl)
  have e : k = "end" := by
    have h1 := of_decide_eq_false h
    unfold isCh at h2
    rw [decide_eq_false h1] at h2
    simpa using h2
  subst e
  rw [clsOf_end]
  exact kitAny_cons Z.q_End_End (fun h => by cases h) fun _ => rfl
/-- all but what stands at x and the tables of code objects stays -/
def OffN (x : Addr) (H H' : Hp) : Prop := ∀ a o, a ≠ x → H a = some o → (∀ ps, o ≠ .tbl ps) → H' a = some o
theorem OffN.of {x : Addr} {H H' : Hp} (s : Off x H H') : OffN x H H' := fun a o n h _ => s a o n h
theorem OffN.ext {x : Addr} {H H' : Hp} (s : ExtN H H') : OffN x H H' := fun a o _ h n => s a o h n
theorem OffN.trans {x : Addr} {H H1 H2 : Hp} (a : OffN x H H1) (b : OffN x H1 H2) : OffN x H H2 := fun c o n h q => b c o n (a c o n h q) q
def keepOk : Option Int → Prop
  | none => True
  | some i => 1 ≤ i ∧ i ≤ 3
def MovesIn (marks : List Str) (d : DeedD) : Prop := d.moves.length ≤ 4 ∧ ∀ m ∈ d.moves, (m.1 = "" ∨ m.1 ∈ marks) ∧ (m.2 = "" ∨ m.2 ∈ marks)
def r_binit (K : PySem.W.Frag) (TL : List (Addr × Str)) : RC := fun vs zs H Q => ∃ (x dx ca : Addr) (items : List V) (cols marks : List Str) (ds : List DeedD) (kp : Option Int), vs = V.ref x :: .ref ca :: items ∧ zs = [keepV kp] ∧ H x = some (.ins (He.ga K "Book") dx []) ∧
  H ca = some (.lst (cols.map V.str)) ∧ (∀ z ∈ cols, NameOk z ∧ z ≠ "state" ∧ z ≠ "row" ∧ z ≠ "deed") ∧ cols.Nodup ∧ cols.length ≤ 3 ∧ Paired (IsDeed K H) items ds ∧ (ds.map (·.name)).Nodup ∧ ds.length ≤ 6 ∧ (∀ d ∈ ds, WdOk cols d ∧ MovesIn marks d) ∧ marks.length ≤ 4 ∧ keepOk kp ∧ Tabs TL H ∧
  ∀ (H' : Hp) (cols' : List Str) (ds' : List DeedD), OffN x H H' → Tabs TL H' → cols'.Perm cols → ds'.Perm ds → IsBook K H' (.ref x) ⟨cols', ds', kp⟩ → Q .non H'
theorem paired_perm {α β : Type} {F : α → β → Prop} {xs zs : List α} (hp : zs.Perm xs) : ∀ {ys : List β}, Paired F xs ys → ∃ ws, ws.Perm ys ∧ Paired F zs ws := by
  induction hp with
  | nil => intro ys h; cases h; exact ⟨[], .refl _, .nil⟩
  | cons x _ ih =>
    intro ys h
    cases h with
    | cons h t =>
      obtain ⟨ws, p, q⟩ := ih t
      exact ⟨_, p.cons _, .cons h q⟩
  | swap x y l =>
    intro ys h
    cases h with
    | cons h t => cases t with
      | cons h2 t => exact ⟨_, .swap _ _ _, .cons h2 (.cons h t)⟩
  | trans _ _ ih1 ih2 =>
    intro ys h
    obtain ⟨ws, p, q⟩ := ih2 h
    obtain ⟨us, p2, q2⟩ := ih1 q
    exact ⟨us, p2.trans p, q2⟩
theorem pt_weak {X : Cx} {e : Expr} {t t' : TT} (h : PT X e t) (k : ∀ σ H Q, t' σ H Q → t σ H Q) : PT X e t' := ⟨fun pins s σ H Q I q => h.run pins s σ H Q I (k σ H Q q)⟩
theorem mem_putX {l : List Str} {k t : Str} (h : t ∈ putX l k) : t ∈ l ∨ t = k := by
  unfold putX at h
  split at h
  · exact .inl h
  · exact (List.mem_cons.mp h).symm
theorem nodup_putX {l : List Str} {k : Str} (h : l.Nodup) : (putX l k).Nodup := by
  unfold putX
  split
  · exact h
  · rename_i q
    exact List.nodup_cons.mpr ⟨q, h⟩
theorem tabs_off {x C dx : Addr} {fs : List (Str × V)} {H H' : Hp} (t : Tabs TL H) (hx : H x = some (.ins C dx fs)) (o : OffN x H H') (keep : ∀ a ps, a ≠ x → H a = some (.tbl ps) → H' a = some (.tbl ps)) : Tabs TL H' := fun p hp => by
  obtain ⟨ps, h1, h2, h3⟩ := t p hp
  have ne : ∀ a ps, H a = some (.tbl ps) → a ≠ x := fun a ps e z => by rw [z, hx] at e; cases e
  refine ⟨ps, keep _ _ (ne _ _ h1) h1, h2, fun pos cv hc => ?_⟩
  obtain ⟨c, e1, e2⟩ :=
        h3 pos cv hc
  refine ⟨c, e1, o _ _ (fun z => ?_) e2 codeO_ne⟩
  rw [z, hx] at e2
  unfold CodeO at e2
  cases e2
theorem tabs_set {x C dx : Addr} {fs : List (Str × V)} {o : HO} {H : Hp} (t : Tabs TL H) (hx : H x = some (.ins C dx fs)) : Tabs TL (upd H x o) :=
  tabs_off t hx (OffN.of Off.set) fun a ps n e => by rw [upd_ne n]; exact e
theorem deed_get {H : Hp} {v : V} {d : DeedD} (T : Tx K mg) (h : IsDeed K H v d) : ∃ a dx m c z, v = .ref a ∧ H a = some (.ins (clsOf K d.kind) dx [("name", .str d.name), ("moves", m), ("columns", c), ("note", z)]) ∧ TOf K IsMove H m d.moves := by
  obtain ⟨a, dx, m, c, z, e, ha, hm, _⟩ := h
  exact ⟨a, dx, m, c, z, e, ha, hm⟩
theorem ok_binit (T : Tx K mg) (Z : Tz K) (L : Tl K mg base TL) : CallP P w K mg base false 4 (He.ma K (He.ga K "Book") "__init__") ["keep"] (r_binit K TL) := by
  refine star_atC (ps := ["self", "columns", "keep"]) (pv := "deeds") T.d_Booku_initu sc_Booku_initu (n := 2) (ks := ["keep"]) rfl (fun _ _ _ _ _ _ us rest ws hl hw => match us, hl, ws, hw, rest with | [_, _], _, [_], _, [] => rfl | [_, _], _, [_], _, _ :: _ => rfl) fun cdv hcd A outer s H vs zs Q _ hz h => ?_
  have G_check_columns := ok_check_columns (P := P) (w := w) (base := base) T
  have G_check_once := ok_check_onceL (P := P) (w := w) (base := base) T
  have G_check_words := ok_check_words (P := P) (w := w) (base := base) T Z
  have G_is_between := ok_is_between (P := P) (w := w) (base := base) T
  obtain ⟨x, dx, ca, items, cols, marks, ds, kp, rfl, rfl, hx, hca, cn, cnd, cl3, pr, nnd, dl, dok, ml, kpo, hT, k⟩ := h
  obtain ⟨oc, od, fd, osl, lk1, c, Pt, ec, TB, hmT, hu⟩ := L.lam
  have ecd : cdv = .ref c := by
    obtain ⟨_, _, _, _, lk2, e2⟩ := hcd
    rw [lk1] at lk2
    cases lk2
    rw [← e2]; exact ec
  subst ecd
  have hil : items.length = ds.length := paired_len pr
  refine ⟨[.ref x, .ref ca], items, rfl, rfl, Nat.le_trans (by omega : _ ≤ 6) (by decide), fun s2 p hr hp => ?_⟩
  refine ⟨_, (pss_cons (ps_fld (pv 0) (pe_cl G_check_columns hr (by decide) Gd.no rfl (pa_cons (pv 1) pa_nil)) rfl)
    (pss_cons (ps_for PassesOwn.never rfl (pi_tup (pv 3)) (pg_name (i := 4) sc_Booku_initu.nd rfl (Or.inl rfl)) (pss_one (ps_if (pt_not (pt_val (pe_callB call_isiT rfl T.f_isinstance boot_isinstance (pa_cons (pv 4) (pa_cons (pe_tup (pa_cons (pe_go T.g_Make rfl) (pa_cons (pe_go T.g_Change rfl) (pa_cons (pe_go T.g_End rfl) pa_nil)))) pa_nil))))) pss_never pss_nil)))
    (pss_cons (ps_expr (pe_cl G_check_once hr (by decide) Gd.no rfl (pa_cons (pe_lc (own := [("deed", 4)]) rfl sc_Booku_initu.nd (pi_tup (pv 3)) (blkOk_by rfl) (fun _ _ _ _ _ => pg_name (i := 4) sc_Booku_initu.nd rfl (Or.inl rfl)) (fun _ _ _ _ _ => pts_nil) (fun _ _ _ _ _ => show PE _ _ (tFld K (tVar 4) "name") from pe_fld (pv 4) rfl)) pa_nil)))
    (pss_cons (ps_if (pt_cmpR op_gt (pe_callB call_len_seq rfl T.f_len boot_len (pa_cons (pv 3) pa_nil)) (pe_gi T.i_MOST_DEEDS rfl) (nomark _)) pss_never pss_nil)
    (pss_cons (ps_setSx (i := 5) (own := [("deed", 4), ("move", 6), ("state", 7)]) (vs1 := [6, 7]) (vs2 := [7]) rfl sc_Booku_initu.nd rfl rfl rfl (pi_tup (pv 3)) (blkOk_by rfl) (by decide) (by decide)
      (fun _ _ _ _ _ => pg_name (i := 4) sc_Booku_initu.nd rfl (Or.inl rfl)) (fun _ _ _ _ _ => pts_nil)
      (fun _ _ _ _ _ => show PI _ _ _ (iTup K (tFld K (tVar 4) "moves")) from pi_tup (pe_fld (pv 4) rfl)) (fun _ _ _ _ _ => pg_name (i := 6) sc_Booku_initu.nd rfl (Or.inl rfl)) (fun _ _ _ _ _ => pts_nil)
      (fun _ _ _ _ _ => show PI _ _ _ (iTup K (tVar 6)) from pi_tup (pv 6)) (fun _ _ _ _ _ => pg_name (i := 7) sc_Booku_initu.nd rfl (Or.inl rfl)) (fun _ _ _ _ _ => pts_one (pt_cmpR op_ne (pv 7) pe_str (nomark _)))
      (fun _ _ _ _ _ => pv 7))
    (pss_cons (ps_fld (pv 0) (pe_callTy call_tuple_of rfl T.f_tuple boot_tuple (pa_cons (pe_callB (cr_sortX rfl hr.units) rfl T.f_sorted boot_sorted (pa_cons (pv 5) pa_nil)) pa_nil)) rfl)
    (pss_cons (ps_if (pt_cmpR op_gt (pe_callB call_len_seq rfl T.f_len boot_len (pa_cons (pe_fld (pv 0) rfl) pa_nil)) (pe_gi T.i_MOST_STATES rfl) (nomark _)) pss_never pss_nil)
    (pss_cons (ps_for PassesOwn.never rfl (pi_tup (pv 3)) (pg_name (i := 4) sc_Booku_initu.nd rfl (Or.inl rfl)) (pss_one (ps_expr (pe_cl G_check_words hr (by decide) Gd.no rfl (pa_cons (pv 4) (pa_cons (pe_fld (pv 0) rfl) pa_nil))))))
    (pss_cons (ps_if (pt_weak (t' := fun σ H Q => σ[2]? = some (some (keepV kp)) ∧ Q false H) (PW.pt (pw_and (pt_cmp (pc_notN (pv 2))) (pw_and1 (pt_not (pt_val (pe_cl G_is_between hr (by decide) Gd.no rfl (pa_cons (pv 2) (pa_cons pe_int (pa_cons (pe_gi T.i_MOST_KEPT rfl) pa_nil))))))))) fun σ H Q h => ?kk) pss_never pss_nil)
    (pss_cons (ps_fld (pv 0) (pe_sortL (T := TL) (x0 := "sorted") (x := "deed") rfl T.f_sorted boot_sorted (pa_cons (pv 3) pa_nil) TB rfl hmT hu hr rfl hr.units (fun _ _ _ _ _ => rfl) rfl rfl rfl (by decide +kernel) rfl) rfl)
    (pss_cons (ps_fld (pv 0) (pe_callTy call_tuple_of rfl T.f_tuple boot_tuple (pa_cons (pe_lc (own := [("deed", 4)]) rfl sc_Booku_initu.nd (pi_list (pe_fld (pv 0) rfl)) (blkOk_by rfl) (fun _ _ _ _ _ => pg_name (i := 4) sc_Booku_initu.nd rfl (Or.inl rfl)) (fun _ _ _ _ _ => pts_nil) (fun _ _ _ _ _ => show PE _ _ (tFld K (tVar 4) "name") from pe_fld (pv 4) rfl)) pa_nil)) rfl)
    (pss_one (ps_fld (pv 0) (pv 2) rfl))))))))))))), ?_⟩
  case kk =>
    obtain ⟨h2, h⟩ := h
    refine ⟨_, h2, ?_⟩
    cases kp with
    | none => exact ⟨false, rfl, h⟩
    | some i => exact ⟨true, rfl, _, h2, i, 1, 3, rfl, kpo.1, kpo.2, true, rfl, h⟩
  have H0s : Same H (upd H p (.tup items)) := Same.new hp
  have pr0 := paired_mono IsDeed.stays (Core.of H0s) pr
  have hp0 : (upd H p (.tup items)) p = some (.tup items) := upd_same
  have hT0 := hT.ext H0s
  have hx0 := H0s _ _ hx
  have hca0 := H0s _ _ hca
  revert pr0 hp0 hT0 hx0 hca0
  generalize hH0 : upd H p (.tup items) = H0
  intro pr0 hp0 hT0 hx0 hca0
  rw [hH0] at H0s
  -- the columns
  refine ⟨_, rfl, ca, cols, rfl, hca0, cn, cnd, cl3, fun v H1 ys s1 py hv => ⟨_, rfl, x, _, dx, _, rfl, s1 _ _ hx0, T.c_Book, T.n_Book_columns, by decide, ?_⟩⟩
  obtain ⟨cq, rfl, hcq⟩ := hv
  have hx1 := s1 _ _ hx0
  have off1 : Off x H1 (upd H1 x (.ins (He.ga K "Book") dx (putF "columns" (.ref cq) []))) := Off.set
  have c1 := off1.core hx1
  have px : p ≠ x := fun z => by rw [z, hx0] at hp0; cases hp0
  have hcq1 := SqT.core hcq c1
  have pr1 := paired_mono IsDeed.stays (Core.trans (Core.of s1) c1) pr0
  have hp1 := off1 p _ px (s1 _ _ hp0)
  have hT1 : Tabs TL (upd H1 x (.ins (He.ga K "Book") dx (putF "columns" (.ref cq) []))) := tabs_set (hT0.ext s1) hx1
  have offA : OffN x H (upd H1 x (.ins (He.ga K "Book") dx (putF "columns" (.ref cq) []))) := OffN.of (((Off.of H0s).trans (Off.of s1)).trans off1)
  have hxB : (upd H1 x (.ins (He.ga K "Book") dx (putF "columns" (.ref cq) []))) x = some (.ins (He.ga K "Book") dx [("columns", .ref cq)]) := upd_same
  have prH := paired_mono IsDeed.stays (Core.of s1) pr0
  clear c1
  revert hcq1 pr1 hp1 hT1 offA hxB off1
  generalize upd H1 x (.ins (He.ga K "Book") dx (putF "columns" (.ref cq) [])) = H2
  intro oX2 hcq2 pr2 hp2 hT2 offA hxB
  -- the deeds' classes
  refine ⟨_, rfl, p, rfl, ⟨_, SqT.of hp2⟩, for_tup (xs := items) (fun i σ H' => Same H2 H' ∧ ∃ z, σ = [some (.ref x), some (.ref ca), some (keepV kp), some (.ref p), z, none, none, none]) ⟨Same.refl _, _, rfl⟩ (fun i σ H' _ q => SqT.of (q.1 _ _ hp2)) (fun i v σ H' hv q => ?_) (fun σ H3 q => ?_)⟩
  · obtain ⟨sm, z, rfl⟩ := q
    obtain ⟨d, hd, hdd⟩ := paired_at pr2 hv
    obtain ⟨a, dy, m, c', z', rfl, ha, _⟩ := deed_get T hdd
    refine ⟨_, rfl, by show 3 ≤ sizeLine; decide, fun q hq => ⟨.ref a, q, _, .ref (clsOf K d.kind), [.ref (He.ga K "Make"), .ref (He.ga K "Change"), .ref (He.ga K "End")], true, rfl, upd_same, .cons (.own _) (.cons (.own _) (.cons (.own _) .nil)), ?_, kit_any Z d.kind, true, rfl, ?_⟩⟩
    · exact ty_ins (Same.new hq _ _ (sm _ _ ha)) (cls_ok T _) (ins_ok Z _)
    · exact ⟨sm.trans (Same.new hq), _, rfl⟩
  obtain ⟨s23, z0, rfl⟩ := q
  have hp3 := s23 _ _ hp2
  -- the names once
  refine ⟨_, rfl, p, rfl, ⟨_, SqT.of hp3⟩, fun D hD => lc_tup (xs := items) (fun i H' => Same H3 H' ∧ H' D = some (.lst ((ds.take i).map fun d => V.str d.name))) ⟨Same.new hD, upd_same⟩ (fun i H' _ q => SqT.of (q.1 _ _ hp3)) (fun i v H' hv q => ?_) (fun H4 q => ?_)⟩
  · obtain ⟨sm, hD2⟩ := q
    obtain ⟨d, hd, hdd⟩ := paired_at pr2 hv
    obtain ⟨a, dy, m, c', z', rfl, ha, _⟩ := deed_get T hdd
    refine ⟨rfl, _, rfl, a, _, dy, _, _, rfl, sm _ _ (s23 _ _ ha), cls_ok T _, nname_ok T _, rfl, _, hD2, ?_, same_mut sm hD, ?_⟩
    · rw [List.length_map,
          List.length_take]
      exact Nat.lt_of_le_of_lt (by omega : _ ≤ 6) (by decide)
    · rw [upd_same, take_snoc hd, List.map_append]
      rfl
  obtain ⟨s34, hD4⟩ := q
  rw [hil, List.take_length] at hD4
  refine ⟨D, ds.map (·.name), rfl, by rw [hD4, List.map_map]; rfl, nnd, fun H5 s45 => ?_⟩
  have s25 := (s23.trans s34).trans s45
  have hp5 := s25 _ _ hp2
  refine ⟨_, rfl, p, items, rfl, .inr (SqT.of hp5), _, _, rfl, rfl, decide ((8 : Int) < (items.length : Int)), rfl, ?_⟩
  rw
        [decide_eq_false (by omega)]
  have pr5 := paired_mono IsDeed.stays (Core.of s25) pr2
  have hcq5 := same_tup s25 hcq2
  have hT5 := hT2.ext s25
  have hx5 := s25 _ _ hxB
  have off5 := offA.trans (OffN.of (Off.of s25))
  have oX5 := oX2.trans (Off.of s25)
  clear oX2 hD4 s34 s45 hD D hp3 s23 hp2 hT2 hcq2 hxB pr2 offA s25
  -- the states
  refine ⟨_, rfl, p, rfl, ⟨_, SqT.of hp5⟩, fun D hD => sx_tup (K := K) (vs := [4, 6, 7]) (xs := items) (fun i H' => Same H5 H' ∧ ∃ l, H' D = some (SetXO P w D l) ∧ l.Nodup ∧ ∀ t ∈ l, t ∈ marks) ⟨Same.new hD, [], upd_same, List.nodup_nil, fun t ht => by cases ht⟩ (fun i H' _ q => SqT.of (q.1 _ _ hp5)) (fun i v H' hv q => ?_) (fun H6 q => ?_)⟩
  · obtain ⟨d, hd, hdd⟩ := paired_at pr5 hv
    obtain ⟨a, dy, m, c', z', rfl, ha, ⟨ma, ms, rfl, hms, pms⟩⟩ := deed_get T hdd
    have dm := (dok d (List.mem_of_getElem? hd)).2
    have ha' := q.1 _ _ ha
    have hms' := same_tup q.1 hms
    refine ⟨rfl, _, rfl, a, _, dy, _, _, rfl, ha', cls_ok T _, nmoves_ok T _, rfl, ma, rfl, ⟨_, hms'⟩, sx_tup (K := K) (vs := [6, 7]) (xs := ms) (fun i H' => Same H5 H' ∧ ∃ l, H' D = some (SetXO P w D l) ∧ l.Nodup ∧ ∀ t ∈ l, t ∈ marks) q (fun i H' _ q => same_tup q.1 hms) (fun i2 v2 H2' hv2 q2 => ?_) (fun H' q => q)⟩
    obtain ⟨mv, hmv, ⟨b, rfl, hb⟩⟩ := paired_at pms hv2
    have hb' := q2.1 _ _ hb
    refine ⟨rfl, _, rfl, b, rfl, ⟨_, SqT.of hb'⟩, sx_tup (K := K) (vs := [7]) (xs := [.str mv.1, .str mv.2]) (fun i H' => Same H5 H' ∧ ∃ l, H' D = some (SetXO P w D l) ∧ l.Nodup ∧ ∀ t ∈ l, t ∈ marks) q2 (fun i H' _ q => SqT.of (q.1 _ _ hb)) (fun i3 v3 H3' hv3 q3 => ?_) (fun H' q => q)⟩
    obtain ⟨t, rfl, ht⟩ : ∃ t : Str, v3 = .str t ∧ (t = "" ∨ t ∈ marks) := by
      have mm := dm.2 mv (List.mem_of_getElem? hmv)
      match i3, hv3 with
      | 0, h => cases h; exact ⟨_, rfl, mm.1⟩
      | 1, h => cases h; exact ⟨_, rfl, mm.2⟩
    refine ⟨rfl, _, rfl, rfl, !decide (V.str t = V.str ""), rfl, ?_⟩
    by_cases et : t = ""
    · rw [decide_eq_true (by rw [et] : V.str t = V.str "")]
      exact q3
    · rw [decide_eq_false (fun z => by cases z; exact et rfl : ¬V.str t = V.str "")]
      obtain ⟨sm, l, hl, nd, sub⟩ := q3
      have len : l.length ≤ 4 := Nat.le_trans (List.Nodup.length_le_of_subset nd sub) ml
      refine ⟨_, rfl, t, l, rfl, hl, Nat.lt_of_le_of_lt (by omega : _ ≤ 5) (by decide), same_mut sm hD, putX l t, upd_same, nodup_putX nd, fun u hu => ?_⟩
      rcases mem_putX hu with z | z
      · exact sub u z
      · rw [z]; exact ht.resolve_left et
  obtain ⟨s56, l, hl, lnd, lsub⟩ := q
  have len : l.length ≤ 4 := Nat.le_trans (List.Nodup.length_le_of_subset lnd lsub) ml
  refine ⟨_, rfl, D, l, rfl, hl, by omega, fun ts q hts hq => ⟨q, _, rfl, .inl ⟨SqL.of upd_same, fun tq htq => ?_⟩⟩⟩
  have s57 := (s56.trans (Same.new hq)).trans (Same.new (o := .tup (ts.map V.str)) htq)
  have htq7 : (upd (upd H6 q (.lst (ts.map V.str))) tq (.tup (ts.map V.str))) tq = some (.tup (ts.map V.str)) := upd_same
  revert s57 htq7
  generalize upd (upd H6 q (.lst (ts.map V.str))) tq (.tup (ts.map V.str)) = H7
  intro s57 htq7
  have hx7 := s57 _ _ hx5
  refine ⟨_, rfl, x, _, dx, _, rfl, hx7, T.c_Book, T.n_Book_states, by show 1 < 1000; decide, ?_⟩
  have oX8 : Off x H1 (upd H7 x (.ins (He.ga K "Book") dx (putF "states" (.ref tq) [("columns", .ref cq)]))) := (oX5.trans (Off.of s57)).trans Off.set
  have off8 : OffN x H (upd H7 x (.ins (He.ga K "Book") dx (putF "states" (.ref tq) [("columns", .ref cq)]))) := (off5.trans (OffN.of (Off.of s57))).trans (OffN.of Off.set)
  have hT8 : Tabs TL (upd H7 x (.ins (He.ga K "Book") dx (putF "states" (.ref tq) [("columns", .ref cq)]))) := tabs_set (hT5.ext s57) hx7
  have tx : tq ≠ x := fun z => by rw [z, hx7] at htq7; cases htq7
  have htq8 : (upd H7 x (.ins (He.ga K "Book") dx (putF "states" (.ref tq) [("columns", .ref cq)]))) tq = some (.tup (ts.map V.str)) := by rw [upd_ne tx]; exact htq7
  have hp8 : (upd H7 x (.ins (He.ga K "Book") dx (putF "states" (.ref tq) [("columns", .ref cq)]))) p = some (.tup items) := by rw [upd_ne px]; exact s57 _ _ hp5
  have hx8 : (upd H7 x (.ins (He.ga K "Book") dx (putF "states" (.ref tq) [("columns", .ref cq)]))) x = some (.ins (He.ga K "Book") dx [("columns", .ref cq), ("states", .ref tq)]) := upd_same
  clear htq7 hx7
  revert oX8 off8 hT8 htq8 hp8 hx8
  generalize upd H7 x (.ins (He.ga K "Book") dx (putF "states" (.ref tq) [("columns", .ref cq)])) = H8
  intro oX8 off8 hT8 htq8 hp8 hx8
  refine ⟨_, rfl, x, _, dx, _, _, rfl, hx8, T.c_Book, T.n_Book_states, rfl, tq, _, rfl, .inr (SqT.of htq8), _, _, rfl, rfl, decide ((4 : Int) < ((ts.map V.str).length : Int)), rfl, ?_⟩
  rw [decide_eq_false (by rw [List.length_map]; omega)]
  -- the words
  have pr8 := paired_mono IsDeed.stays (oX8.core hx1) prH
  have hcq8 := SqT.core hcq (oX8.core hx1)
  refine ⟨_, rfl, p, rfl, ⟨_, SqT.of hp8⟩, for_tup (xs := items) (fun i σ H' => Same H8 H' ∧ ∃ z, σ = [some (.ref x), some (.ref ca), some (keepV kp), some (.ref p), z, some (.ref D), none, none]) ⟨Same.refl _, _, rfl⟩ (fun i σ H' _ q => SqT.of (q.1 _ _ hp8)) (fun i v σ H' hv q => ?_) (fun σ H9 q => ?_)⟩
  · obtain ⟨sm, z, rfl⟩ := q
    obtain ⟨d, hd, hdd⟩ := paired_at pr8 hv
    obtain ⟨w1, w2⟩ := (dok d (List.mem_of_getElem? hd)).1
    refine ⟨_, rfl, _, rfl, x, _, dx, _, _, rfl, sm _ _ hx8, T.c_Book, T.n_Book_columns, rfl, _, cq, d, ys, rfl, IsDeed.stays.mono hdd (Core.of sm), same_tup sm hcq8, ⟨fun c hc => py.mem_iff.mpr (w1 c hc), fun n hn => ⟨fun c hc => ((w2 n hn).1 c hc).imp id fun z => ⟨py.mem_iff.mpr z.1, z.2⟩, (w2 n hn).2⟩⟩, fun H2' s2' => ⟨sm.trans s2', _, rfl⟩⟩
  obtain ⟨s89, z9, rfl⟩ := q
  -- keep
  refine ⟨rfl, ?_⟩
  have hp9 := s89 _ _ hp8
  have pr9 := paired_mono IsDeed.stays (Core.of s89) pr8
  have nms : Paired (fun v n => ∃ b C dx fs, v = V.ref b ∧ H9 b = some (.ins C dx fs) ∧ Cls K C ∧ NoAttr K C "name" ∧ fs.lookup ("name" : Str) = some (.str n)) items (ds.map DeedD.name) := by
    have go : ∀ {xs : List V} {l : List DeedD}, Paired (IsDeed K H9) xs l → Paired (fun v n => ∃ b C dx fs, v = V.ref b ∧ H9 b = some (.ins C dx fs) ∧ Cls K C ∧ NoAttr K C "name" ∧ fs.lookup ("name" : Str) = some (.str n)) xs (l.map DeedD.name) := by
      intro xs l q
      induction q with
      | nil => exact .nil
      | cons h _ ih =>
        obtain ⟨a, dy, m, c', z', rfl, ha, _⟩ := deed_get T h
        exact .cons ⟨a, _, dy, _, rfl, ha, cls_ok T _, nname_ok T _, rfl⟩ ih
    exact go pr9
  refine ⟨_, rfl, p, items, ds.map DeedD.name, rfl, .inr hp9, nms, by rw [List.length_map]; omega, hT8.ext s89, fun Ha zs qd eN hTa hperm hqd => ?_⟩
  have hxa : Ha x = some (.ins (He.ga K "Book") dx [("columns", .ref cq), ("states", .ref tq)]) := eN _ _ (s89 _ _ hx8) fun _ q => by cases q
  obtain ⟨ds', hds, prz⟩ := paired_perm hperm prH
  have cX : ∀ H', OffN x H1 H' → Core H1 H' := fun H' o a u e n => by
    by_cases q : a = x
    · subst q
      rw [hx1] at e
      cases e
      exact n.elim
    · exact o a u q e fun ps z => by subst z; exact n
  have sq : Same Ha (upd Ha qd (.lst zs)) := Same.new hqd
  have hxb := sq _ _ hxa
  have hlz : zs.length = ds'.length := paired_len prz
  have hl6 : ds'.length ≤ 6 := by rw [hds.length_eq]; exact dl
  refine ⟨_, rfl, x, _, dx, _, rfl, hxb, T.c_Book, T.n_Book_deeds, by show 2 < 1000; decide, ?_⟩
  have oXb : OffN x H1 (upd (upd Ha qd (.lst zs)) x (.ins (He.ga K "Book") dx (putF "deeds" (.ref qd) [("columns", .ref cq), ("states", .ref tq)]))) := (((OffN.of oX8).trans (OffN.of (Off.of s89))).trans (OffN.ext eN)).trans (OffN.of ((Off.of sq).trans Off.set))
  have offb : OffN x H (upd (upd Ha qd (.lst zs)) x (.ins (He.ga K "Book") dx (putF "deeds" (.ref qd) [("columns", .ref cq), ("states", .ref tq)]))) := ((off8.trans (OffN.of (Off.of s89))).trans (OffN.ext eN)).trans (OffN.of ((Off.of sq).trans Off.set))
  have hTb : Tabs TL (upd (upd Ha qd (.lst zs)) x (.ins (He.ga K "Book") dx (putF "deeds" (.ref qd) [("columns", .ref cq), ("states", .ref tq)]))) := tabs_set (hTa.ext sq) hxb
  have qx : qd ≠ x := fun z => by rw [z, hxa] at hqd; cases hqd
  have hqb : (upd (upd Ha qd (.lst zs)) x (.ins (He.ga K "Book") dx (putF "deeds" (.ref qd) [("columns", .ref cq), ("states", .ref tq)]))) qd = some (.lst zs) := by rw [upd_ne qx, upd_same]
  have hxB : (upd (upd Ha qd (.lst zs)) x (.ins (He.ga K "Book") dx (putF "deeds" (.ref qd) [("columns", .ref cq), ("states", .ref tq)]))) x = some (.ins (He.ga K "Book") dx [("columns", .ref cq), ("states", .ref tq), ("deeds", .ref qd)]) := upd_same
  clear hxb
  revert oXb offb hTb hqb hxB
  generalize upd (upd Ha qd (.lst zs)) x (.ins (He.ga K "Book") dx (putF "deeds" (.ref qd) [("columns", .ref cq), ("states", .ref tq)])) = Hb
  intro oXb offb hTb hqb hxB
  have przb := paired_mono IsDeed.stays (cX _ oXb) prz
  -- the names
  refine ⟨_, rfl, x, _, dx, _, _, rfl, hxB, T.c_Book, T.n_Book_deeds, rfl, qd, rfl, ⟨_, SqL.of hqb⟩, fun D2 hD2 => lc_list (xs := zs) (fun i H' => Same Hb H' ∧ H' D2 = some (.lst ((ds'.take i).map fun d => V.str d.name))) ⟨Same.new hD2, upd_same⟩ (fun i H' _ q => SqL.of (q.1 _ _ hqb)) (fun i v H' hv q => ?_) (fun Hc q => ?_)⟩
  · obtain ⟨sm, hDD⟩ := q
    obtain ⟨d, hd, hdd⟩ := paired_at przb hv
    obtain ⟨a, dy, m, c', z', rfl, ha, _⟩ := deed_get T hdd
    refine ⟨rfl, _, rfl, a, _, dy, _, _, rfl, sm _ _ ha, cls_ok T _, nname_ok T _, rfl, _, hDD, ?_, same_mut sm hD2, ?_⟩
    · rw [List.length_map,
          List.length_take]
      exact Nat.lt_of_le_of_lt (by omega : _ ≤ 6) (by decide)
    · rw [upd_same, take_snoc hd, List.map_append]
      rfl
  obtain ⟨sbc, hDc⟩ := q
  rw [hlz, List.take_length] at hDc
  refine ⟨D2, _, rfl, .inl ⟨SqL.of hDc, fun nq hnq => ?_⟩⟩
  have snq : Same Hb (upd Hc nq (.tup (ds'.map fun d => V.str d.name))) := sbc.trans (Same.new hnq)
  have hnq' : (upd Hc nq (.tup (ds'.map fun d => V.str d.name))) nq = some (.tup (ds'.map fun d => V.str d.name)) := upd_same
  revert snq hnq'
  generalize upd Hc nq (.tup (ds'.map fun d => V.str d.name)) = Hd
  intro snq hnq'
  have hxd := snq _ _ hxB
  refine ⟨_, rfl, x, _, dx, _, rfl, hxd, T.c_Book, T.n_Book_names, by show 3 < 1000; decide, ?_⟩
  refine ⟨_, rfl, _, rfl, x, _, dx, _, rfl, upd_same, T.c_Book, T.n_Book_keep, by show 4 < 1000; decide, ?_⟩
  have nx : nq ≠ x := fun z => by rw [z, hxd] at hnq'; cases hnq'
  have offE : Off x Hb _ := (Off.of snq).trans ((Off.set (o := .ins (He.ga K "Book") dx (putF "names" (.ref nq) [("columns", .ref cq), ("states", .ref tq), ("deeds", .ref qd)]))).trans (Off.set (o := .ins (He.ga K "Book") dx (putF "keep" (keepV kp) (putF "names" (.ref nq) [("columns", .ref cq), ("states", .ref tq), ("deeds", .ref qd)])))))
  have cE := cX _ (oXb.trans (OffN.of offE))
  refine k _ ys ds' (offb.trans (OffN.of offE)) ?_ py hds ?_
  · exact tabs_set (tabs_set (hTb.ext snq) hxd) upd_same
  · refine ⟨x, dx, .ref cq, .ref tq, .ref qd, .ref nq, rfl, upd_same, ⟨cq, rfl, SqT.core hcq cE⟩, ⟨qd, zs, rfl, offE _ _ qx hqb, paired_mono IsDeed.stays cE prz⟩, nq, rfl, ?_⟩
    rw [List.map_map]
    refine SqT.of ?_
    rw [upd_ne nx, upd_ne nx]
    exact hnq'
end
end Pn

-- PnL2
set_option maxHeartbeats 8000000
namespace Pn
open PySem PySem.Spec L2 PyProof.Rows StX ClX LamX
section
variable {P : Program} {w : World} {K : PySem.W.Frag} {mg : Str → Option Value} {base : Heap} {TL : List (Addr × Str)}
theorem madeN {H H' : Hp} {C x dx : Addr} (hx : H x = none) (hd : H dx = none) (h : OffN x (upd (upd H dx (.own x)) x (.ins C dx [])) H') : ExtN H H' := fun a o e n => by
  have n1 : a ≠ x := ne_of_none e hx
  have n2 : a ≠ dx := ne_of_none e hd
  exact h a o n1 (by rw [upd_ne n1, upd_ne n2]; exact e) n
def r_bof (K : PySem.W.Frag) (TL : List (Addr × Str)) : RC := fun vs zs H Q => ∃ (ca da : Addr) (items : List V) (cols marks : List Str) (ds : List DeedD) (kp : Option Int), vs = [.ref (He.ga K "Book"), .ref ca, .ref da] ∧ zs = [keepV kp] ∧
  H ca = some (.lst (cols.map V.str)) ∧ (∀ z ∈ cols, NameOk z ∧ z ≠ "state" ∧ z ≠ "row" ∧ z ≠ "deed") ∧ cols.Nodup ∧ cols.length ≤ 3 ∧ H da = some (.lst items) ∧ Paired (IsDeed K H) items ds ∧ (ds.map (·.name)).Nodup ∧ ds.length ≤ 6 ∧ (∀ d ∈ ds, WdOk cols d ∧ MovesIn marks d) ∧ marks.length ≤ 4 ∧ keepOk kp ∧ Tabs TL H ∧
  ∀ (v : V) (H' : Hp) (cols' : List Str) (ds' : List DeedD), ExtN H H' → Tabs TL H' → cols'.Perm cols → ds'.Perm ds → IsBook K H' v ⟨cols', ds', kp⟩ → Q v H'
theorem ok_bof (T : Tx K mg) (Z : Tz K) (L : Tl K mg base TL) : CallP P w K mg base false 6 (He5.wf K (He.ga K "Book") "classmethod" "of") ["keep"] (r_bof K TL) := by
  refine call_at T.d_Book_of sc_Book_of (n := 3) rfl (fun vs zs H Q h => by obtain ⟨_, _, _, _, _, _, _, rfl, _⟩ := h; rfl) (fun _ _ _ _ _ _ us ws hl hw => match us, hl, ws, hw with | [_, _, _], _, [_], _ => rfl) fun cdv A outer s H vs zs Q hr _ hz h => ?_
  obtain ⟨ca, da, items, cols, marks, ds, kp, rfl, rfl, hca, cn, cnd, cl3, hda, pr, nnd, dl, dok, ml, kpo, hT, k⟩ := h
  refine ⟨_, (pss_one (ps_ret (pe_callP (call_cls T.k_Book (ok_binit T Z L)) (hr.mono (by decide)) Gd.no T.k_Book.kp (pv 0) (pa_cons (pv 1) (pa_star (pv 2) pa_nil)) (pk_cons (pv 3) pk_nil)))), ?_⟩
  refine ⟨_, rfl, rfl, _, rfl, _, rfl, da, items, rfl, .inr (SqL.of hda), _, rfl, rfl, fun x dx hx hd hne => ?_⟩
  have up := made_up (C := He.ga K "Book") hx hd
  refine ⟨x, dx, ca, items ++ [], cols, marks, ds, kp, rfl, rfl, upd_same, up _ _ hca, cn, cnd, cl3, ?_, nnd, dl, dok, ml, kpo, hT.ext up, fun H' cols' ds' off hT' h1 h2 hb => ⟨rfl, k _ _ _ _ (madeN hx hd off) hT' h1 h2 hb⟩⟩
  rw [List.append_nil]
  exact paired_mono IsDeed.stays (Core.of up) pr
end
end Pn

-- PnN1
set_option
      maxHeartbeats 4000000
namespace Pn
open PySem PySem.Spec L2 PyProof.Rows StX ClX
section
variable {P : Program} {w : World} {K : PySem.W.Frag}
      {mg : Str → Option Value} {base : Heap}
theorem pos_ {j : Int} (h : 0 < j) : 0 < j := h
theorem cmul {i j : Int} (h : -(2 ^ 64) < j ∧ j < 2 ^ 64) : CMul i j := .inr h
theorem cmul' {i j : Int} (h : -(2 ^ 64) < i ∧ i < 2 ^ 64) : CMul i j := .inl h
theorem ints_ix {ns : List Int} {i : Nat} {x : V} (h : (ns.map V.int)[i]? = some x) : ∃ n, ns[i]? = some n ∧ x = .int n := by
  rw [List.getElem?_map] at h
  cases q : ns[i]? with
  | none => rw [q] at h; cases h
  | some z => rw [q] at h; cases h; exact ⟨z, rfl, rfl⟩
def r_bag (K : PySem.W.Frag) : RC := fun vs _ H Q => ∃ (sa : Addr) (ns : List Int) (i : Nat), vs = [.ref sa, .int i] ∧ SqL K H sa (ns.map V.int) ∧ ∀ p H', Same H H' → IsBag H' p → H p = none → Q (.ref p) H'
theorem ok_l_bag (T : Tx K mg) : Cal P w K mg base false 1 "_law_bag" (r_bag K) := by
  refine cal_at T.d_l_bag T.g_l_bag sc_l_bag (fun vs H Q h => by obtain ⟨_, _, _, rfl, _⟩ := h; rfl) (fun _ _ _ _ _ _ us hl => match us, hl with | [_, _], _ => rfl) fun cdv A outer s H vs Q hr _ h => ?_
  obtain ⟨sa, ns, i, rfl, hs, k⟩ := h
  refine ⟨_, (pss_cons (ps_set (i := 2) sc_l_bag.nd rfl (Or.inl rfl) (pe_weak (t' := fun σ H Q => σ[0]? = some (some (.ref sa)) ∧ σ[1]? = some (some (.int i)) ∧ SqL K H sa (ns.map V.int) ∧ ∀ c : Int, Q (.int c) H) (pe_ifExp (pt_cmpR op_lt (pv 1) (pe_callB call_len_seq rfl T.f_len boot_len (pa_cons (pv 0) pa_nil)) (nomark _)) (pe_ix ix_list (pv 0) (pv 1) (fun _ _ => rfl)) pe_int) fun σ H Q h => ?cl))
    (pss_cons (ps_set (i := 3) sc_l_bag.nd rfl (Or.inl rfl) (pe_op op_add (pe_op op_mul pe_int (pv 1)) pe_int))
    (pss_cons (ps_for PassesOwn.never rfl (pi_enum rfl T.f_enumerate (pa_cons (pe_slice sl_list (pv 0) po_none (po_some pe_int)) pa_nil)) (pg_tup rfl (pgs_cons (pg_name (i := 4) sc_l_bag.nd rfl (Or.inl rfl)) (pgs_cons (pg_name (i := 5) sc_l_bag.nd rfl (Or.inl rfl)) pgs_nil))) (pss_one (ps_set (i := 3) sc_l_bag.nd rfl (Or.inl rfl) (pe_op op_mod (pe_callTy call_int1 rfl T.f_int boot_int (pa_cons (pe_op op_add (pe_op op_add (pe_op op_add (pe_op op_mul (pv 3) pe_int) (pe_op op_mod (pe_callTy call_int1 rfl T.f_int boot_int (pa_cons (pv 5) pa_nil)) pe_int)) (pe_op op_mul pe_int (pv 4))) pe_int) pa_nil)) pe_int))))
    (pss_one (ps_ret (pe_lst (pa_cons (pe_ifExp (pt_cmpR op_ge (pe_callB call_abs rfl T.f_abs boot_abs (pa_cons (pv 2) pa_nil)) (pe_op op_pow pe_int pe_int) (nomark _)) (pe_callB call_abs rfl T.f_abs boot_abs (pa_cons (pv 2) pa_nil)) pe_int) (pa_cons (pv 3) pa_nil)))))))), ?_⟩
  case cl =>
    obtain ⟨h0, h1, hs, k⟩ := h
    refine ⟨_, h1, _, h0, sa, _, rfl, .inl hs, _, _, rfl, rfl, decide ((i : Int) < ((ns.map V.int).length : Int)), rfl, ?_⟩
    by_cases lt : (i : Int) < ((ns.map V.int).length : Int)
    · rw [decide_eq_true lt]
      have lt' : i < (ns.map V.int).length := by omega
      have e : (ns.map V.int)[i]? = some ((ns.map V.int)[i]'lt') := List.getElem?_eq_getElem lt'
      obtain ⟨n, _, en⟩ := ints_ix e
      refine ⟨_, h0, _, h1, sa, _, _, _, rfl, rfl, hs, atI_nat e, ?_⟩
      rw [en]
      exact k n
    · rw [decide_eq_false lt]
      exact k 0
  refine ⟨rfl, rfl, hs, fun c => ?_⟩
  refine ⟨_, rfl, 7411, i, rfl, rfl, cmul' (by decide), _, _, rfl, rfl, ?_⟩
  refine ⟨_, rfl, 40, rfl, sa, _, rfl, hs, fun q hq => ⟨q, _, rfl, SqL.of upd_same, for_enumL (xs := cutV (ns.map V.int) none (some 40)) (fun _ σ H' => Same H H' ∧ H' q = some (.lst (cutV (ns.map V.int) none (some 40))) ∧ ∃ (b : Int) (z1 z2 : Option V), σ = [some (.ref sa), some (.int i), some (.int c), some (.int b), z1, z2]) ⟨Same.new hq, upd_same, _, _, _, rfl⟩ (fun _ σ H' _ p => SqL.of p.2.1) (fun j x σ H' t hx p ht => ?_) (fun σ H' p => ?_)⟩⟩
  · obtain ⟨sm, hqq, b, z1, z2, rfl⟩ := p
    rw [show cutV (ns.map V.int) none (some 40) = (ns.map V.int).take 40 from cut_take _ 40] at hx
    have hx' : (ns.map V.int)[j]? = some x := by
      rw [List.getElem?_take] at hx
      split at hx
      · exact hx
      · cases hx
    obtain ⟨n, _, rfl⟩ := ints_ix hx'
    refine ⟨t, _, rfl, SqT.of upd_same, rfl, _, _, rfl, _, _, rfl, rfl, ?_⟩
    refine ⟨_, rfl, b, 40014, rfl, rfl, cmul (by decide), _, rfl, .inl ⟨n, rfl, n, _, rfl, rfl, pos_ (by decide), _, _, rfl, rfl, _, rfl, 53, _, rfl, rfl, cmul' (by decide), _, _, rfl, rfl, _, _, rfl, rfl, .inl ⟨_, rfl, _, _, rfl, rfl, pos_ (by decide), ?_⟩⟩⟩
    exact ⟨sm.trans (Same.new ht), by rw [upd_ne (ne_of_none hqq ht)]; exact hqq, _, _, _, rfl⟩
  · obtain ⟨sm, hqq, b, z1, z2, rfl⟩ := p
    have fin : ∀ y : Int, ∀ p, H' p = none → Q (.ref p) (upd H' p (.lst [.int y, .int b])) := fun y p hp => k _ _ (sm.trans (Same.new hp)) ⟨y, b, upd_same⟩ (by
      cases e : H p with
      | none => rfl
      | some o => rw [sm _ _ e] at hp; cases hp)
    refine ⟨_, rfl, c, rfl, 10, 18, rfl, rfl, ⟨by decide, by decide, by decide⟩, _, _, rfl, rfl, decide ((10 : Int) ^ (18 : Int).toNat ≤ (if c < 0 then -c else c)), rfl, ?_⟩
    by_cases le : (10 : Int) ^ (18 : Int).toNat ≤ (if c < 0 then -c else c)
    · rw [decide_eq_true le]
      exact ⟨_, rfl, c, rfl, _, rfl, by show 2 ≤ sizeLine; decide, fin _⟩
    · rw [decide_eq_false le]
      exact ⟨_, rfl, by show 2 ≤ sizeLine; decide, fin _⟩
/-- a digit is taken -/
def r_take : RC := fun vs _ H Q => ∃ (b : Addr) (m : Int), vs = [.ref b, .int m] ∧ IsBag H b ∧ 0 < m ∧ m.natAbs.log2 < 9000 ∧ ∀ (d : Int) (H' : Hp), Keep H H' → IsBag H' b → 0 ≤ d → d < m → Q (.int d) H'
theorem ok_l_take (T : Tx K mg) : Cal P w K mg base false 1 "_law_take" r_take := by
  refine cal_at T.d_l_take T.g_l_take sc_l_take (fun vs H Q h => by obtain ⟨_, _, rfl, _⟩ := h; rfl) (fun _ _ _ _ _ _ us hl => match us, hl with | [_, _], _ => rfl) fun cdv A outer s H vs Q hr _ h => ?_
  obtain ⟨p, m, rfl, ⟨b, c, hb⟩, m0, ml, k⟩ := h
  refine ⟨_, (pss_cons (ps_if (pt_cmpR op_gt (pe_ix ix_list (pv 0) pe_int (fun _ _ => rfl)) pe_int (nomark _)) (pss_cons (ps_set (i := 2) sc_l_take.nd rfl (Or.inl rfl) (pe_op op_mod (pe_callTy call_int1 rfl T.f_int boot_int (pa_cons (pe_ix ix_list (pv 0) pe_int (fun _ _ => rfl)) pa_nil)) (pv 1)))
    (pss_cons (ps_asg (pe_op op_fdivW (pe_ix ix_list (pv 0) pe_int (fun _ _ => rfl)) (pv 1)) (pg_sub (pv 0) pe_int set_list))
    (pss_one (ps_ret (pv 2))))) pss_nil)
    (pss_cons (ps_asg (pe_op op_mod (pe_callTy call_int1 rfl T.f_int boot_int (pa_cons (pe_op op_add (pe_op op_mul (pe_ix ix_list (pv 0) pe_int (fun _ _ => rfl)) pe_int) pe_int) pa_nil)) pe_int) (pg_sub (pv 0) pe_int set_list))
    (pss_one (ps_ret (pe_op op_mod (pe_op op_fdivW (pe_op op_mod (pe_callTy call_int1 rfl T.f_int boot_int (pa_cons (pe_op op_mul (pe_op op_fdivW (pe_ix ix_list (pv 0) pe_int (fun _ _ => rfl)) pe_int) pe_int) pa_nil)) pe_int) pe_int) (pv 1)))))), ?_⟩
  have l : SqL K H p [.int b, .int c] := SqL.of hb
  refine ⟨_, rfl, p, _, 0, .int b, rfl, rfl, l, rfl, b, 0, rfl, rfl, decide ((0 : Int) < b), rfl, ?_⟩
  have sm := fun {x : HO} => Keep.bag (o := x) hb
  by_cases lt : (0 : Int) < b
  · rw [decide_eq_true lt]
    refine ⟨_, rfl, p, _, 0, .int b, rfl, rfl, l, rfl, .inl ⟨_, rfl, _, rfl, _, _, rfl, rfl, m0, ?_⟩⟩
    refine ⟨_, rfl, p, _, 0, .int b, rfl, rfl, l, rfl, _, rfl, _, _, rfl, rfl, ⟨m0, ml⟩, ?_⟩
    refine ⟨_, rfl, p, _, 0, 0, rfl, rfl, hb, rfl, ?_⟩
    exact ⟨_, rfl, k _ _ sm ⟨_, _, upd_same⟩ (Int.emod_nonneg _ (by omega)) (Int.emod_lt_of_pos _ m0)⟩
  · rw [decide_eq_false lt]
    refine ⟨_, rfl, p, _, 1, .int c, rfl, rfl, l, rfl, _, _, rfl, rfl, cmul (by decide), _, _, rfl, rfl, .inl ⟨_, rfl, _, _, rfl, rfl, pos_ (by decide), ?_⟩⟩
    refine ⟨_, rfl, p, _, 1, 1, rfl, rfl, hb, rfl, ?_⟩
    refine ⟨_, rfl, p, _, 1, .int _, rfl, rfl, SqL.of upd_same, rfl, _, _, rfl, rfl, ⟨by decide, by decide⟩, _, _, rfl, rfl, cmul (by decide), .inl ⟨_, rfl, _, _, rfl, rfl, pos_ (by decide), _, _, rfl, rfl, ⟨by decide, by decide⟩, _, rfl, _, _, rfl, rfl, m0, ?_⟩⟩
    exact k _ _ sm ⟨_, _, upd_same⟩ (Int.emod_nonneg _ (by omega)) (Int.emod_lt_of_pos _ m0)
/-- one of a list -/
def r_of (K : PySem.W.Frag) : RC := fun vs _ H Q => ∃ (b l : Addr) (xs : List V), vs = [.ref b, .ref l] ∧ IsBag H b ∧ H l = some (.lst xs) ∧ xs ≠ [] ∧ xs.length ≤ 1000 ∧ (∀ i j, xs ≠ [.int i, .int j]) ∧ ∀ (v : V) (H' : Hp), Keep H H' → IsBag H' b → v ∈ xs → Q v H'
theorem ok_l_of (T : Tx K mg) : Cal P w K mg base false 2 "_law_of" (r_of K) := by
  refine cal_at T.d_l_of T.g_l_of sc_l_of (fun vs H Q h => by obtain ⟨_, _, _, rfl, _⟩ := h; rfl) (fun _ _ _ _ _ _ us hl => match us, hl with | [_, _], _ => rfl) fun cdv A outer s H vs Q hr _ h => ?_
  have G_l_take := ok_l_take (P := P) (w := w) (base := base) T
  obtain ⟨b, l, xs, rfl, hb, hl, ne, few, nb, k⟩ := h
  refine ⟨_, (pss_one (ps_ret (pe_ix ix_list (pv 1) (pe_cl G_l_take hr (by decide) Gd.no rfl (pa_cons (pv 0) (pa_cons (pe_callB call_len_seq rfl T.f_len boot_len (pa_cons (pv 1) pa_nil)) pa_nil))) (fun _ _ => rfl)))), ?_⟩
  have l0 : 0 < xs.length := List.length_pos_iff.mpr ne
  refine ⟨_, rfl, _, rfl, _, rfl, l, xs, rfl, .inl (SqL.of hl), b, _, rfl, hb, by omega, ?_, fun d H' kp hb' d0 d1 => ?_⟩
  · have : (xs.length : Int).natAbs.log2 ≤ xs.length := by
      rw [Int.natAbs_natCast]
      exact Nat.log2_le_self _
    omega
  · have lt : d.toNat < xs.length := by omega
    have e : xs[d.toNat]? = some (xs[d.toNat]'lt) := List.getElem?_eq_getElem lt
    have e2 : atI xs d = some (xs[d.toNat]'lt) := by
      have := atI_nat e
      rwa [Int.toNat_of_nonneg d0] at this
    exact ⟨l, xs, d, _, rfl, rfl, SqL.of (kp _ _ hl fun i j z => by cases z; exact nb i j rfl), e2, k _ _ kp hb' (List.getElem_mem lt)⟩
def r_value : RC := fun vs _ H Q => ∃ b : Addr, vs = [.ref b] ∧ IsBag H b ∧ ∀ (i : Int) (H' : Hp), Keep H H' → IsBag H' b → ValOk i → Q (.int i) H'
theorem ok_l_value (T : Tx K mg) : Cal P w K mg base false 3 "_law_value" r_value := by
  refine cal_at T.d_l_value T.g_l_value sc_l_value (fun vs H Q h => by obtain ⟨_, rfl, _⟩ := h; rfl) (fun _ _ _ _ _ _ us hl => match us, hl with | [_], _ => rfl) fun cdv A outer s H vs Q hr _ h => ?_
  have G_l_of := ok_l_of (P := P) (w := w) (base := base) T
  have G_l_take := ok_l_take (P := P) (w := w) (base := base) T
  obtain ⟨b, rfl, hb, k⟩ := h
  refine ⟨_, (pss_cons (ps_set (i := 1) sc_l_value.nd rfl (Or.inl rfl) (pe_cl G_l_take hr (by decide) Gd.no rfl (pa_cons (pv 0) (pa_cons pe_int pa_nil))))
    (pss_cons (ps_if (pt_cmpR op_lt (pv 1) pe_int (nomark _)) (pss_one (ps_ret (pe_op op_sub (pe_cl G_l_take hr (by decide) Gd.no rfl (pa_cons (pv 0) (pa_cons pe_int pa_nil))) pe_int))) pss_nil)
    (pss_cons (ps_if (pt_cmpR op_eq (pv 1) pe_int (nomark _)) (pss_one (ps_ret (pe_cl G_l_of hr (by decide) Gd.no rfl (pa_cons (pv 0) (pa_cons (pe_lst (pa_cons (pe_op op_pow pe_int pe_int) (pa_cons (pe_un un_neg (pe_op op_pow pe_int pe_int)) (pa_cons (pe_op op_sub (pe_op op_pow pe_int pe_int) pe_int) (pa_cons pe_int (pa_cons pe_int pa_nil)))))) pa_nil))))) pss_nil)
    (pss_one (ps_ret (pe_op op_sub (pe_cl G_l_take hr (by decide) Gd.no rfl (pa_cons (pv 0) (pa_cons (pe_op op_add (pe_op op_mul pe_int (pe_op op_pow pe_int pe_int)) pe_int) pa_nil))) (pe_op op_pow pe_int pe_int))))))), ?_⟩
  refine ⟨_, rfl, b, 4, rfl, hb, by decide, by decide, fun d H1 k1 hb1 d0 d4 => ?_⟩
  have pw : CPow 10 30 := ⟨by decide, by decide, by decide⟩
  refine ⟨_, rfl, _, _, rfl, rfl, decide (d < 2), rfl, ?_⟩
  by_cases c2 : d < 2
  · rw [decide_eq_true c2]
    refine ⟨_, rfl, b, 5, rfl, hb1, by decide, by decide, fun e H2 k2 hb2 e0 e5 => ⟨_, _, rfl, rfl, k _ _ (k1.trans k2) hb2 ⟨by omega, by omega⟩⟩⟩
  · rw [decide_eq_false c2]
    refine ⟨_, rfl, rfl, decide (V.int d = V.int 2), rfl, ?_⟩
    by_cases e2 : d = 2
    · rw [decide_eq_true (by rw [e2])]
      refine ⟨_, rfl, 10, 30, rfl, rfl, pw, 10, 30, rfl, rfl, pw, _, rfl, 10, 30, rfl, rfl, pw, _, _, rfl, rfl, by show 5 ≤ sizeLine; decide, fun q hq => ?_⟩
      refine ⟨b, q, _, rfl, hb1.same (Same.new hq), upd_same, List.cons_ne_nil _ _, by show 5 ≤ 1000; decide, (fun i j z => by cases z), fun v H2 k2 hb2 hv => ?_⟩
      have kk := (k1.trans (Keep.of (Same.new hq))).trans k2
      simp only [List.mem_cons, List.not_mem_nil, or_false] at hv
      rcases hv with rfl | rfl | rfl | rfl | rfl
      · exact k _ _ kk hb2 ⟨by decide, by decide⟩
      · exact k _ _ kk hb2 ⟨by decide, by decide⟩
      · exact k _ _ kk hb2 ⟨by decide, by decide⟩
      · exact k _ _ kk hb2 ⟨by decide, by decide⟩
      · exact k _ _ kk hb2 ⟨by decide, by decide⟩
    · rw [decide_eq_false (fun z => by cases z; exact e2 rfl)]
      refine ⟨_, rfl, 10, 30, rfl, rfl, pw, 2, _, rfl, rfl, cmul' (by decide), _, _, rfl, rfl, b, _, rfl, hb1, by decide, by decide, fun e H2 k2 hb2 e0 e5 => ?_⟩
      refine ⟨10, 30, rfl, rfl, pw, _, _, rfl, rfl, k _ _ (k1.trans k2) hb2 ?_⟩
      have e30 : (10 : Int) ^ (30 : Int).toNat = 10 ^ 30 := rfl
      rw [e30] at e5 ⊢
      exact ⟨by omega, by omega⟩
end
end Pn

-- PnN2
set_option
      maxHeartbeats 4000000
namespace Pn
open PySem PySem.Spec L2 PyProof.Rows StX ClX TL
theorem ps_weak {X : Cx} {st : Stmt} {t t' : TS} (h : PS X st t) (k : ∀ D σ H, t' D σ H → t D σ H) : PS X st t' := ⟨fun pins s σ H D I q => h.run pins s σ H D I (k D σ H q)⟩
theorem keep_mut {H H' : Hp} {D : Addr} {o : HO} (k : Keep H H') (h : H D = none) : Keep H (upd H' D o) := by
  refine ⟨fun a u e n => ?_, fun a e => ?_⟩
  · rw [upd_ne (ne_of_none e h)]; exact k.st a u e n
  · by_cases q : a = D
    · subst q; exact h
    · rw [upd_ne q] at e; exact k.dom a e
theorem IsBag.off {H : Hp} {b D : Addr} {o : HO} (h : IsBag H b) (n : b ≠ D) : IsBag (upd H D o) b := by
  obtain ⟨i, j, e⟩ := h
  exact ⟨i, j, by rw [upd_ne n]; exact e⟩
theorem IsBag.ne {H : Hp} {b D : Addr} (h : IsBag H b) (n : H D = none) : b ≠ D := fun z => by
  obtain ⟨i, j, e⟩ := h
  rw [z, n] at e
  cases e
theorem lst_keep {H H' : Hp} {a : Addr} {ss : List Str} (k : Keep H H') (h : H a = some (.lst (ss.map V.str))) : H' a = some (.lst (ss.map V.str)) := k _ _ h fun i j z => by
  have z2 : ss.map V.str = [.int i, .int j] := by injection z
  cases ss with
  | nil => cases z2
  | cons s l => simp at z2
/-- over the signs of a text -/
theorem lc_str {x : Str} {g : TG} {tt : TT} {te : TE} {vs : List Nat} {σ : L2.St} {H1 : Hp} {D : Addr} {Qd : Hp → Prop} (Pv : Nat → Hp → Prop) (h0 : Pv 0 (upd H1 D (.lst [])))
    (hs : ∀ i c H, x.cps[i]? = some c → Pv i H → g (.str ⟨#[c]⟩) (wipe σ vs) H fun σ2 H2 => wipe σ2 vs = wipe σ vs ∧ tt σ2 H2 fun b H3 =>
      if b = true then te σ2 H3 fun y H4 => ∃ acc, H4 D = some (.lst acc) ∧ acc.length < sizeLine ∧ Pv (i + 1) (upd H4 D (.lst (acc ++ [y]))) else Pv (i + 1) H3) (hd : ∀ H, Pv x.cps.size H → Qd H) :
    ∃ W : Nat → Nat → Hp → Prop,
          (∃ m, W 0 m (upd H1 D (.lst []))) ∧ ∀ i m H, W i m H →
      ((Its x).stop i H ∧ Qd H) ∨ ((Its x).go i H ∧ ∃ Nx : Hp → Prop, (∀ H', Nx H' → ∃ m', m' < m ∧ W (i + 1) m' H') ∧ ∀ y H', (Its x).yld i H y H' → g y (wipe σ vs) H' fun σ2 H2 => wipe σ2 vs = wipe σ vs ∧ tt σ2 H2 fun b H3 =>
        if b = true then te σ2 H3 fun y H4 => ∃ acc, H4 D = some (.lst acc) ∧
              acc.length < sizeLine ∧ Nx (upd H4 D (.lst (acc ++ [y]))) else Nx H3) := by
  refine ⟨fun i m H => m = x.cps.size - i ∧ i ≤ x.cps.size ∧ Pv i H, ⟨_, rfl, Nat.zero_le _, h0⟩, ?_⟩
  rintro i m H ⟨rfl, hi, p⟩
  rcases Nat.lt_or_ge i x.cps.size with lt | ge
  · refine .inr ⟨lt, Pv (i + 1), fun H' p' => ⟨_, by omega, rfl, lt, p'⟩, fun y H' hy => ?_⟩
    obtain ⟨rfl, c, hc, rfl⟩ := hy
    exact hs i c _ hc p
  · obtain rfl : i = x.cps.size := by omega
    exact .inl ⟨Nat.le_refl _,
          hd H p⟩
def OneOk (y : Str) : Prop := ∃ c, y = ⟨#[c]⟩ ∧ 97 ≤ c ∧ c ≤ 122
theorem OneOk.name {y : Str} (h : OneOk y) : NameOk y := by
  obtain ⟨c, rfl, h1, h2⟩ := h
  exact ⟨Nat.le_refl 1, by show 1 ≤ 8; decide, fun d hd => by
    have : d = c := by simpa using hd
    rw [this]; exact ⟨h1, h2⟩⟩
theorem tl_one {c : Nat} : tl ⟨#[c]⟩ = [c] := rfl
theorem joinL_nil : ∀ parts : List (List Nat), joinL [] parts = parts.flatten
  | [] => rfl
  | [p] => by simp [joinL]
  | p :: q :: r => by
    show p ++ ([] ++ joinL [] (q :: r)) = _
    rw [joinL_nil (q :: r)]
    simp
theorem ones_tl : ∀ {ys : List Str}, (∀ y ∈ ys, OneOk y) → ((ys.map tl).flatten).length = ys.length ∧ ∀ c ∈ (ys.map tl).flatten, 97 ≤ c ∧ c ≤ 122
  | [], _ => ⟨rfl, fun c hc => by simp at hc⟩
  | y :: ys, h => by
    obtain ⟨h1, h2⟩ := ones_tl (ys := ys) fun z hz => h z (List.mem_cons_of_mem _ hz)
    obtain ⟨c, rfl, c1, c2⟩ := h y List.mem_cons_self
    refine ⟨by simp only [List.map_cons, List.flatten_cons, List.length_append, List.length_cons]; rw [h1, tl_one]; simp; omega, fun d hd => ?_⟩
    simp only [List.map_cons, List.flatten_cons, List.mem_append] at hd
    rcases hd with hd | hd
    · rw [tl_one, List.mem_singleton] at hd
      rw [hd]; exact ⟨c1, c2⟩
    · exact h2 d hd
theorem nameOk_join {ys : List Str} (h : ∀ y ∈ ys, OneOk y) (l1 : 1 ≤ ys.length) (l8 : ys.length ≤ 8) : NameOk (Txt.join "" ys) := by
  have e : (Txt.join "" ys).cps.toList = (ys.map tl).flatten := by
    rw [join_eq]
    have := tl_join "" ys
    rw [show tl "" = [] from rfl, joinL_nil] at this
    exact this
  obtain ⟨h1, h2⟩ := ones_tl h
  have el : (Txt.join "" ys).length = ys.length := by
    show (Txt.join "" ys).cps.size = _
    rw [← Array.length_toList, e, h1]
  exact ⟨by rw [el]; exact l1, by rw [el]; exact l8, fun c hc => by rw [e] at hc; exact h2 c hc⟩
theorem ones_len : ∀ {ys : List Str}, (∀ y ∈ ys, OneOk y) → (ys.map (·.length)).sum = ys.length
  | [], _ => rfl
  | y :: ys, h => by
    obtain ⟨c, rfl, _⟩ := h y List.mem_cons_self
    have := ones_len (ys := ys) fun z hz => h z (List.mem_cons_of_mem _ hz)
    simp only [List.map_cons,
          List.sum_cons, List.length_cons]
    rw [this]
    show 1 + _ = _
    omega
abbrev letters : Str := "abcdefghijklmnopqrstuvwxyz"
theorem letters_ok : ∀ c ∈ letters.cps.toList, 97 ≤ c ∧ c ≤ 122 := by decide
theorem letters_one {i c : Nat} (h : letters.cps[i]? = some c) : OneOk ⟨#[c]⟩ := by
  have m : c ∈ letters.cps.toList := by
    rw [← Array.getElem?_toList] at h
    exact List.mem_of_getElem? h
  exact ⟨c, rfl, letters_ok c m⟩
theorem letters_nodup : (letters.cps.toList.map fun c => (⟨#[c]⟩ : Str)).Nodup := by decide
section
variable {P : Program} {w : World} {K : PySem.W.Frag}
      {mg : Str → Option Value} {base : Heap}
/-- a list of good names, none twice, none banned -/
def NamesOk (banned ss : List Str) (n : Nat) : Prop := ss.length = n ∧ ss.Nodup ∧ ∀ z ∈ ss, NameOk z ∧ z ∉ banned
def r_names : RC := fun vs _ H Q => ∃ (b ba : Addr) (n : Nat) (banned : List Str), vs = [.ref b, .int n, .ref ba] ∧ n ≤ 6 ∧ banned.length ≤ 3 ∧ IsBag H b ∧ H ba = some (.lst (banned.map V.str)) ∧
  ∀ (fa : Addr) (ss : List Str) (H' : Hp), Keep H H' → IsBag H' b → H' fa = some (.lst (ss.map V.str)) → NamesOk banned ss n → Q (.ref fa) H'
theorem nodup_snoc {α : Type} {l : List α} {x : α} (h : l.Nodup) (n : x ∉ l) : (l ++ [x]).Nodup := by
  rw [List.nodup_append]
  exact ⟨h, List.nodup_cons.mpr ⟨List.not_mem_nil, List.nodup_nil⟩, fun a ha b hb z => by
    rw [List.mem_singleton] at hb
    rw [z, hb] at ha
    exact n ha⟩
/-- a free letter -/
theorem free_letter {ss banned : List Str} (h1 : ss.length ≤ 6) (h2 : banned.length ≤ 3) : ∃ y ∈ letters.cps.toList.map fun c => (⟨#[c]⟩ : Str), y ∉ ss ∧ y ∉ banned := by
  rcases Classical.em (∃ y ∈ letters.cps.toList.map fun c => (⟨#[c]⟩ : Str), y ∉ ss ∧ y ∉ banned) with h | h
  · exact h
  · have sub : (letters.cps.toList.map fun c => (⟨#[c]⟩ : Str)) ⊆ ss ++ banned := fun y hy => by
      rcases Classical.em (y ∈ ss) with a | a
      · exact List.mem_append_left _ a
      · rcases Classical.em (y ∈ banned) with b | b
        · exact List.mem_append_right _ b
        · exact absurd ⟨y, hy, a, b⟩ h
    have := List.Nodup.length_le_of_subset letters_nodup sub
    rw [List.length_append, List.length_map] at this
    have e : letters.cps.toList.length = 26 := by decide
    omega
def tFree (fa ba : Addr) (ss banned : List Str) : TE := fun σ H Q => σ[2]? = some (some (.ref ba)) ∧ σ[3]? = some (some (.str letters)) ∧ σ[4]? = some (some (.ref fa)) ∧ σ.length = 9 ∧ H fa = some (.lst (ss.map V.str)) ∧ H ba = some (.lst (banned.map V.str)) ∧ ss.length ≤ 6 ∧ banned.length ≤ 3 ∧
  ∀ (nm' : Str) (H' : Hp), Same H H' → NameOk nm' → nm' ∉ ss → nm' ∉ banned → Q (.str nm') H'
/-- the name is taken as it is, or a free letter is -/
def tNm (b fa ba : Addr) (nm : Str) (ss banned : List Str) : TS := fun D σ H => ∃ z0 z5 z7 z8, σ = [some (.ref b), z0, some (.ref ba), some (.str letters), some (.ref fa), z5, some (.str nm), z7, z8] ∧ NameOk nm ∧ H fa = some (.lst (ss.map V.str)) ∧ H ba = some (.lst (banned.map V.str)) ∧ ss.length ≤ 6 ∧ banned.length ≤ 3 ∧
  ∀ (nm' : Str) (H' : Hp), Same H H' → NameOk nm' → nm' ∉ ss → nm' ∉ banned → D.nx [some (.ref b), z0, some (.ref ba), some (.str letters), some (.ref fa), z5, some (.str nm'), z7, z8] H'
theorem ok_l_names (T : Tx K mg) : Cal P w K mg base false 3 "_law_names" r_names := by
  refine cal_at T.d_l_names T.g_l_names sc_l_names (fun vs H Q h => by obtain ⟨_, _, _, _, rfl, _⟩ := h; rfl) (fun _ _ _ _ _ _ us hl => match us, hl with | [_, _, _], _ => rfl) fun cdv A outer s H vs Q hr _ h => ?_
  have G_l_of := ok_l_of (P := P) (w := w) (base := base) T
  have G_l_take := ok_l_take (P := P) (w := w) (base := base) T
  obtain ⟨b, ba, n, banned, rfl, n6, b3, hb, hba, k⟩ := h
  refine ⟨_, (pss_cons (ps_asg (pe_tup (pa_cons pe_str (pa_cons (pe_lst pa_nil) pa_nil))) (pg_tup rfl (pgs_cons (pg_name (i := 3) sc_l_names.nd rfl (Or.inr rfl)) (pgs_cons (pg_name (i := 4) sc_l_names.nd rfl (Or.inr rfl)) pgs_nil))))
    (pss_cons (ps_for PassesOwn.never rfl (pi_range1 rfl T.f_range (pa_cons (pv 1) pa_nil)) (pg_name (i := 5) sc_l_names.nd rfl (Or.inl rfl)) (pss_cons (ps_set (i := 6) sc_l_names.nd rfl (Or.inl rfl) (pe_join pe_str (pe_lc (own := [("_law_k", 7)]) rfl sc_l_names.nd (pi_range1 rfl T.f_range (pa_cons (pe_cl G_l_of hr (by decide) Gd.no rfl (pa_cons (pv 0) (pa_cons (pe_lst (pa_cons pe_int (pa_cons pe_int (pa_cons pe_int (pa_cons pe_int pa_nil))))) pa_nil))) pa_nil)) (blkOk_by rfl) (fun _ _ _ _ _ => pg_name (i := 7) sc_l_names.nd rfl (Or.inl rfl)) (fun _ _ _ _ _ => pts_nil) (fun _ _ _ _ _ => (pe_ix ix_str (pv 3) (pe_cl G_l_take hr (by decide) Gd.no rfl (pa_cons (pv 0) (pa_cons pe_int pa_nil))) (fun _ _ => rfl))))))
    (pss_cons (ps_weak (t' := fun D σ H => ∃ fa nm ss, tNm b fa ba nm ss banned D σ H) (ps_if (PW.pt (pw_or (pt_cmpR op_in_seq (pv 6) (pv 4) rfl) (pw_or1 (pt_cmpR op_in_seq (pv 6) (pv 2) rfl)))) (pss_one (ps_set (i := 6) sc_l_names.nd rfl (Or.inl rfl) (pe_weak (t' := fun σ H Q => ∃ fa ss, tFree fa ba ss banned σ H Q) (pe_ix ix_list (pe_lc (own := [("_law_letter", 8)]) rfl sc_l_names.nd (pi_str (pv 3)) (blkOk_by rfl) (fun _ _ _ _ _ => pg_name (i := 8) sc_l_names.nd rfl (Or.inl rfl)) (fun _ _ _ _ _ => (pts_one (PW.pt (pw_and (pt_cmpR (show OpR _ _ (rIn K true) from op_notIn_seq) (pv 8) (pv 4) rfl) (pw_and1 (pt_cmpR (show OpR _ _ (rIn K true) from op_notIn_seq) (pv 8) (pv 2) rfl)))))) (fun _ _ _ _ _ => (pv 8))) pe_int (fun _ _ => rfl)) fun σ H Q h => ?fr))) pss_nil) fun D σ H h => ?nm)
    (pss_one (ps_expr (pe_bm PySem.F.plainAttrs_list PySem.F.slot_list_append PySem.F.type_list_append mt_append (pv 4) (pa_cons (pv 6) pa_nil)))))))
    (pss_one (ps_ret (pv 4))))), ?_⟩
  case fr =>
    obtain ⟨fa, ss, h2, h3, h4, hl, hfa, hba, s6, bl, k⟩ := h
    have W : ∀ {i : Nat} {x : V}, i ≠ 8 → σ[i]? = some (some x) → ∀ c : V, ((wipe σ [8]).set 8 (some c))[i]? = some (some x) := fun {i x} n e c => by
      rw [List.getElem?_set_ne (Ne.symm n), wipe_out (by simpa using n)]
      exact e
    have w8 : ∀ c : V, ((wipe σ [8]).set 8 (some c))[8]? = some (some c) := fun c => by
      rw [List.getElem?_set_self (by rw [wipe_length]; omega)]
    refine ⟨_, h3, letters, rfl, fun D hD => lc_str (vs := [8]) (fun i H' => Same H H' ∧ ∃ ys : List Str, H' D = some (.lst (ys.map V.str)) ∧ (∀ y ∈ ys, OneOk y ∧ y ∉ ss ∧ y ∉ banned) ∧ ys.length ≤ i ∧ ∀ j c, j < i → letters.cps[j]? = some c → (⟨#[c]⟩ : Str) ∉ ss → (⟨#[c]⟩ : Str) ∉ banned → (⟨#[c]⟩ : Str) ∈ ys) ⟨Same.new hD, [], upd_same, (fun y hy => by cases hy), Nat.zero_le _, fun j c hj => absurd hj (Nat.not_lt_zero _)⟩ (fun i c H' hc q => ?_) (fun H' q => ?_)⟩
    · obtain ⟨sm, ys, hys, ok, ly, all⟩ := q
      have ci : i < 26 := by
        obtain ⟨lt, _⟩ := Array.getElem?_eq_some_iff.mp hc
        have e : letters.cps.size = 26 := by decide
        omega
      refine ⟨by
        show wipe ((wipe σ [8]).set 8 (some (.str ⟨#[c]⟩))) [8] = wipe σ [8]
        simp only [wipe, List.set_set], ?_⟩
      refine ⟨_, w8 _, _, W (by decide) h4 _, fa, _, rfl, .inl (SqL.of (sm _ _ hfa)), rfl, flat_strs ss, !inV (.str ⟨#[c]⟩) (ss.map V.str), rfl, ?_⟩
      rw [inV_strs]
      by_cases m1 : (⟨#[c]⟩ : Str) ∈ ss
      · rw [decide_eq_true m1]
        exact ⟨sm, ys, hys, ok, by omega, fun j d hj hd n1 n2 => by
          rcases Nat.lt_or_ge j i with lt | ge
          · exact all j d lt hd n1 n2
          · obtain rfl : j = i := by omega
            rw [hc] at hd
            cases hd
            exact absurd m1 n1⟩
      · rw [decide_eq_false m1]
        refine ⟨_, w8 _, _, W (by decide) h2 _, ba, _, rfl, .inl (SqL.of (sm _ _ hba)), rfl, flat_strs banned, !inV (.str ⟨#[c]⟩) (banned.map V.str), rfl, ?_⟩
        rw [inV_strs]
        by_cases m2 : (⟨#[c]⟩ : Str) ∈ banned
        · rw [decide_eq_true m2]
          exact ⟨sm, ys, hys, ok, by omega, fun j d hj hd n1 n2 => by
            rcases Nat.lt_or_ge j i with lt | ge
            · exact all j d lt hd n1 n2
            · obtain rfl : j = i := by omega
              rw [hc] at hd
              cases hd
              exact absurd m2 n2⟩
        · rw [decide_eq_false m2]
          refine ⟨_, w8 _, _, hys, ?_, same_mut sm hD, ys ++ [⟨#[c]⟩], ?_, fun y hy => ?_, ?_, fun j d hj hd n1 n2 => ?_⟩
          · rw [List.length_map]
            exact Nat.lt_of_le_of_lt (by omega : _ ≤ 26) (by decide)
          · rw [upd_same, List.map_append]; rfl
          · rcases List.mem_append.mp hy with z | z
            · exact ok y z
            · rw [List.mem_singleton.mp z]; exact ⟨letters_one hc, m1, m2⟩
          · rw [List.length_append]; exact Nat.add_le_add_right ly 1
          · rcases Nat.lt_or_ge j i with lt | ge
            · exact List.mem_append_left _ (all j d lt hd n1 n2)
            · obtain rfl : j = i := by omega
              rw [hc] at hd
              cases hd
              exact List.mem_append_right _ (List.mem_singleton.mpr rfl)
    · obtain ⟨sm, ys, hys, ok, ly, all⟩ := q
      obtain ⟨y, hy, n1, n2⟩ := free_letter (ss := ss) (banned := banned) s6 bl
      have mem : y ∈ ys := by
        obtain ⟨c, hc, rfl⟩ := List.mem_map.mp hy
        obtain ⟨j, hj, e⟩ := List.mem_iff_getElem.mp hc
        have hjs : j < letters.cps.size := by rw [← Array.length_toList]; exact hj
        refine all j c hjs ?_ n1 n2
        rw [← Array.getElem?_toList, List.getElem?_eq_getElem hj, e]
      match ys, mem, hys, ok with
      | y0 :: rest, _, hys, ok =>
        obtain ⟨o1, o2, o3⟩ := ok y0 List.mem_cons_self
        exact ⟨D, _, 0, .str y0, rfl, rfl, SqL.of hys, atI_nat (j := 0) rfl, k y0 _ sm o1.name o2 o3⟩
  case nm =>
    obtain ⟨fa, nm, ss, z0, z5, z7, z8, rfl, nk, hfa, hba, s6, bl, k⟩ := h
    refine ⟨_, rfl, _, rfl, fa, _, rfl, .inl (SqL.of hfa), rfl, flat_strs ss, inV (.str nm) (ss.map V.str), rfl, ?_⟩
    rw [inV_strs]
    by_cases m1 : nm ∈ ss
    · rw [decide_eq_true m1]
      exact ⟨fa, ss, rfl, rfl, rfl, rfl, hfa, hba, s6, bl, fun nm' H' sm o1 o2 o3 => k nm' H' sm o1 o2 o3⟩
    · rw [decide_eq_false m1]
      refine ⟨_, rfl, _, rfl, ba, _, rfl, .inl (SqL.of hba), rfl, flat_strs banned, inV (.str nm) (banned.map V.str), rfl, ?_⟩
      rw [inV_strs]
      by_cases m2 : nm ∈ banned
      · rw [decide_eq_true m2]
        exact ⟨fa, ss, rfl, rfl, rfl, rfl, hfa, hba, s6, bl, fun nm' H' sm o1 o2 o3 => k nm' H' sm o1 o2 o3⟩
      · rw [decide_eq_false m2]
        exact k nm H (Same.refl H) nk m1 m2
  refine ⟨Nat.zero_le _, fun fa hfa => ⟨by show 2 ≤ sizeLine; decide, fun q hq => ⟨q, _, rfl, SqT.of upd_same, rfl, _, _, rfl, _, _, rfl, rfl, ?_⟩⟩⟩
  have s0 : Same H (upd (upd H fa (.lst [])) q (.tup [.str letters, .ref fa])) := (Same.new hfa).trans (Same.new hq)
  have hfa0 : (upd (upd H fa (.lst [])) q (.tup [.str letters, .ref fa])) fa = some (.lst (([] : List Str).map V.str)) := by
    rw [upd_ne (ne_of_none upd_same hq)]; exact upd_same
  have hba0 := s0 _ _ hba
  have hb0 := hb.same s0
  have ne0 : b ≠ fa := hb.ne hfa
  revert s0 hfa0 hba0 hb0
  generalize upd (upd H fa (.lst [])) q (.tup [.str letters, .ref fa]) = H0
  intro s0 hfa0 hba0 hb0
  have bafa : ba ≠ fa := fun z => by rw [z, hfa] at hba; cases hba
  refine ⟨_, rfl, n, rfl, by omega, by omega, for_range (n := (n : Int).toNat) (fun i σ H' => Keep H H' ∧ H' ba = some (.lst (banned.map V.str)) ∧ IsBag H' b ∧ ∃ ss, H' fa = some (.lst (ss.map V.str)) ∧ NamesOk banned ss i ∧ ∃ z5 z6, σ = [some (.ref b), some (.int n), some (.ref ba), some (.str letters), some (.ref fa), z5, z6, none, none]) ⟨Keep.of s0, hba0, hb0, [], hfa0, ⟨rfl, List.nodup_nil, fun z hz => by cases hz⟩, _, _, rfl⟩ (fun i σ H' hi p => ?_) (fun σ H' p => ?_)⟩
  · obtain ⟨kp, hba1, hb1, ss, hss, ⟨sl, snd, sok⟩, z5, z6, rfl⟩ := p
    have hin : i < n := by omega
    refine ⟨⟨_, rfl⟩, ?_⟩
    -- how many letters
    refine ⟨_, rfl, by show 4 ≤ sizeLine; decide, fun q2 hq2 => ⟨b, q2, _, rfl, hb1.same (Same.new hq2), upd_same, List.cons_ne_nil _ _, by show 4 ≤ 1000; decide, (fun i j z => by cases z), fun v H2 k2 hb2 hv => ?_⟩⟩
    obtain ⟨m, rfl, m1, m8⟩ : ∃ m : Nat, v = .int m ∧ 1 ≤ m ∧ m ≤ 8 := by
      simp only [List.mem_cons, List.not_mem_nil, or_false] at hv
      rcases hv with rfl | rfl | rfl | rfl
      · exact ⟨1, rfl, by decide, by decide⟩
      · exact ⟨1, rfl, by decide, by decide⟩
      · exact ⟨2, rfl, by decide, by decide⟩
      · exact ⟨8, rfl, by decide, by decide⟩
    have k12 : Keep H' H2 := (Keep.of (Same.new hq2)).trans k2
    refine ⟨m, rfl, by omega, by omega, fun D hD => lc_range (vs := [7]) (n := (m : Int).toNat) (fun j H3 => Keep H2 H3 ∧ IsBag H3 b ∧ ∃ ys : List Str, H3 D = some (.lst (ys.map V.str)) ∧ ys.length = j ∧ ∀ y ∈ ys, OneOk y) ⟨Keep.of (Same.new hD), hb2.same (Same.new hD), [], upd_same, rfl, fun y hy => by cases hy⟩ (fun j H3 hj p => ?_) (fun H3 p => ?_)⟩
    · obtain ⟨k3, hb3, ys, hys, yl, yok⟩ := p
      refine ⟨rfl, _, rfl, _, rfl, b, 26, rfl, hb3, by decide, by decide, fun d H4 k4 hb4 d0 d26 => ?_⟩
      have lt : d.toNat < letters.cps.toList.length := by
        have e : letters.cps.toList.length = 26 := by decide
        omega
      have e : letters.cps.toList[d.toNat]? = some (letters.cps.toList[d.toNat]'lt) := List.getElem?_eq_getElem lt
      have e2 : atI letters.cps.toList d = some (letters.cps.toList[d.toNat]'lt) := by
        have := atI_nat e
        rwa [Int.toNat_of_nonneg d0] at this
      have ok := letters_one (i := d.toNat) (c := letters.cps.toList[d.toNat]'lt) (by rw [← Array.getElem?_toList]; exact e)
      have hD4 := lst_keep k4 hys
      refine ⟨letters, d, _, rfl, rfl, by decide, e2, _, hD4, ?_, keep_mut (k3.trans k4) hD, hb4.off (hb2.ne hD), ys ++ [⟨#[letters.cps.toList[d.toNat]'lt]⟩], ?_, by rw [List.length_append, yl]; rfl, fun y hy => ?_⟩
      · rw [List.length_map]
        exact Nat.lt_of_le_of_lt (by omega : _ ≤ 8) (by decide)
      · rw [upd_same, List.map_append]; rfl
      · rcases List.mem_append.mp hy with z | z
        · exact yok y z
        · rw [List.mem_singleton.mp z]; exact ok
    · obtain ⟨k3, hb3, ys, hys, yl, yok⟩ := p
      have yl' : ys.length = m := by omega
      refine ⟨"", D, ys, rfl, rfl, .inl (SqL.of hys), by rw [ones_len yok]; show ys.length + ys.length * 0 ≤ _; omega, ?_⟩
      have k13 : Keep H' H3 := k12.trans k3
      refine ⟨fa, _, ss, _, _, _, _, rfl, nameOk_join yok (by omega) (by omega), lst_keep k13 hss, lst_keep k13 hba1, by omega, b3, fun nm' H4 s4 o1 o2 o3 => ?_⟩
      have k14 : Keep H' H4 := k13.trans (Keep.of s4)
      have hss4 := lst_keep k14 hss
      refine ⟨_, rfl, .inl ⟨rfl, _, SqL.of hss4⟩, _, rfl, fa, _, _, rfl, rfl, hss4, ?_, ?_⟩
      · rw [List.length_map]
        exact Nat.lt_of_le_of_lt (by omega : _ ≤ 6) (by decide)
      · have nba : ba ≠ fa := bafa
        refine ⟨keep_mut (kp.trans k14) hfa, by rw [upd_ne nba]; exact lst_keep k14 hba1, (hb3.same s4).off ne0, ss ++ [nm'], by rw [upd_same, List.map_append]; rfl, ⟨by rw [List.length_append, sl]; rfl, ?_, fun z hz => ?_⟩, _, _, rfl⟩
        · exact nodup_snoc snd o2
        · rcases List.mem_append.mp hz with z' | z'
          · exact sok z z'
          · rw [List.mem_singleton.mp z']; exact ⟨o1, o3⟩
  · obtain ⟨kp, hba1, hb1, ss, hss, ok, z5, z6, rfl⟩ := p
    have e : (n : Int).toNat = n := by omega
    rw [e] at ok
    exact ⟨_, rfl, k fa ss H' kp hb1 hss ok⟩
end
end Pn

-- PnN3
set_option
      maxHeartbeats 4000000
namespace Pn
open PySem PySem.Spec L2 PyProof.Rows StX ClX
section
variable {P : Program} {w : World} {K : PySem.W.Frag}
      {mg : Str → Option Value} {base : Heap}
/-- the part of H' that is new to H -/
def Fresh (H H' : Hp) : Hp := fun a => match H a with
  | none => H' a
  | some _ => none
theorem fresh_at {H H' : Hp} {a : Addr} {o : HO} (n : H a = none) (e : H' a = some o) : Fresh H H' a = some o := by
  unfold Fresh; rw [n]; exact e
theorem fresh_in {H H' : Hp} {a : Addr} {o : HO} (e : Fresh H H' a = some o) : H a = none ∧ H' a = some o := by
  unfold Fresh at e
  cases q : H a with
  | none => rw [q] at e; exact ⟨rfl, e⟩
  | some u => rw [q] at e; cases e
theorem fresh_core {H0 H1 H' H2 : Hp} (d : ∀ a, H1 a = none → H0 a = none) (c : Core H' H2) : Core (Fresh H1 H') (Fresh H0 H2) := fun a o e n => by
  obtain ⟨e1, e2⟩ := fresh_in e
  exact fresh_at (d a e1) (c a o e2 n)
theorem fresh_nl {H0 H' H2 : Hp} (c : NL H' H2) : NL (Fresh H0 H') (Fresh H0 H2) := fun a o e n => by
  obtain ⟨e1, e2⟩ := fresh_in e
  exact fresh_at e1 (c a o e2 n)
theorem fresh_sub {H H' : Hp} : Core (Fresh H H') H' := fun a o e _ => (fresh_in e).2
def NoteIn (ws : List Str) (nt : Option NoteD) : Prop := ∀ n, nt = some n → n.old.Sublist ws ∧ n.new.Sublist ws
def r_lnote : RC := fun vs _ H Q => ∃ (b wa : Addr) (ws : List Str), vs = [.ref b, .ref wa] ∧ IsBag H b ∧ H wa = some (.lst (ws.map V.str)) ∧ ws.length ≤ 4 ∧ ∀ (v : V) (nt : Option NoteD) (H' : Hp), Keep H H' → IsBag H' b → IsNoteRow (Fresh H H') v nt → NoteIn ws nt → Q v H'
theorem sub_snoc {α : Type} {ys ws : List α} {i : Nat} {x : α} (h : ys.Sublist (ws.take i)) (e : ws[i]? = some x) : (ys ++ [x]).Sublist (ws.take (i + 1)) := by
  rw [take_snoc e]
  exact h.append (List.Sublist.refl _)
theorem sub_skip {α : Type} {ys ws : List α} {i : Nat} {x : α} (h : ys.Sublist (ws.take i)) (e : ws[i]? = some x) : ys.Sublist (ws.take (i + 1)) := by
  rw [take_snoc e]
  exact h.trans (List.sublist_append_left _ _)
theorem ok_l_note (T : Tx K mg) : Cal P w K mg base false 2 "_law_note" r_lnote := by
  refine cal_at T.d_l_note T.g_l_note sc_l_note (fun vs H Q h => by obtain ⟨_, _, _, rfl, _⟩ := h; rfl) (fun _ _ _ _ _ _ us hl => match us, hl with | [_, _], _ => rfl) fun cdv A outer s H vs Q hr _ h => ?_
  have G_l_take := ok_l_take (P := P) (w := w) (base := base) T
  obtain ⟨b, wa, ws, rfl, hb, hwa, w4, k⟩ := h
  refine ⟨_, (pss_cons (ps_if (pt_cmpR op_eq (pe_cl G_l_take hr (by decide) Gd.no rfl (pa_cons (pv 0) (pa_cons pe_int pa_nil))) pe_int (nomark _)) (pss_one (ps_ret pe_non)) pss_nil)
    (pss_cons (ps_setLc (i := 2) (own := [("_law_word", 4)]) rfl sc_l_note.nd rfl rfl (sw_true rfl rfl rfl (by decide +kernel)) (pi_list (pv 1)) (blkOk_by rfl) (fun _ _ _ _ _ => pg_name (i := 4) sc_l_note.nd rfl (Or.inl rfl)) (fun _ _ _ _ _ => (pts_one (pt_cmpR op_eq (pe_cl G_l_take hr (by decide) Gd.no rfl (pa_cons (pv 0) (pa_cons pe_int pa_nil))) pe_int (nomark _)))) (fun _ _ _ _ _ => (pv 4)))
    (pss_cons (ps_setLc (i := 3) (own := [("_law_word", 4)]) rfl sc_l_note.nd rfl rfl (sw_true rfl rfl rfl (by decide +kernel)) (pi_list (pv 1)) (blkOk_by rfl) (fun _ _ _ _ _ => pg_name (i := 4) sc_l_note.nd rfl (Or.inl rfl)) (fun _ _ _ _ _ => (pts_one (pt_cmpR op_eq (pe_cl G_l_take hr (by decide) Gd.no rfl (pa_cons (pv 0) (pa_cons pe_int pa_nil))) pe_int (nomark _)))) (fun _ _ _ _ _ => (pv 4)))
    (pss_one (ps_ret (pe_tup (pa_cons (pv 2) (pa_cons (pv 3) (pa_cons (pe_cmpR op_eq (pe_cl G_l_take hr (by decide) Gd.no rfl (pa_cons (pv 0) (pa_cons pe_int pa_nil))) pe_int (nomark _)) (pa_cons (pe_cmpR op_eq (pe_cl G_l_take hr (by decide) Gd.no rfl (pa_cons (pv 0) (pa_cons pe_int pa_nil))) pe_int (nomark _)) pa_nil)))))))))), ?_⟩
  refine ⟨_, rfl, b, 5, rfl, hb, by decide, by decide, fun d H1 k1 hb1 _ _ => ⟨rfl, decide (V.int d = V.int 0), rfl, ?_⟩⟩
  by_cases e0 : V.int d = V.int 0
  · rw [decide_eq_true e0]
    exact k .non none H1 k1 hb1 rfl fun n z => by cases z
  · rw [decide_eq_false e0]
    have hw1 := lst_keep k1 hwa
    refine ⟨_, rfl, wa, rfl, ⟨_, SqL.of hw1⟩, fun D hD => lc_list (vs := [4]) (xs := ws.map V.str) (fun i H' => Keep H1 H' ∧ IsBag H' b ∧ ∃ ys, H' D = some (.lst (ys.map V.str)) ∧ ys.Sublist (ws.take i)) ⟨Keep.of (Same.new hD), hb1.same (Same.new hD), [], upd_same, List.nil_sublist _⟩ (fun i H' _ q => SqL.of (lst_keep q.1 hw1)) (fun i x H' hx q => ?_) (fun H2 q => ?_)⟩
    · obtain ⟨k2, hb2, ys, hys, sub⟩ := q
      obtain ⟨cc, hcc, rfl⟩ := strs_ix hx
      have ly : ys.length ≤ 4 := Nat.le_trans sub.length_le (by rw [List.length_take]; omega)
      refine ⟨rfl, _, rfl, b, 2, rfl, hb2, by decide, by decide, fun d3 H3 k3 hb3 _ _ => ⟨rfl, decide (V.int d3 = V.int 0), rfl, ?_⟩⟩
      have hys3 := lst_keep k3 hys
      by_cases e3 : V.int d3 = V.int 0
      · rw [decide_eq_true e3]
        refine ⟨_, rfl, _, hys3, ?_, keep_mut (k2.trans k3) hD, hb3.off (hb1.ne hD), ys ++ [cc], by rw [upd_same, List.map_append]; rfl, sub_snoc sub hcc⟩
        rw [List.length_map]
        exact Nat.lt_of_le_of_lt ly (by decide)
      · rw [decide_eq_false e3]
        exact ⟨k2.trans k3, hb3, ys, hys3, sub_skip sub hcc⟩
    obtain ⟨k2, hb2, olds, hol, subO⟩ := q
    rw [List.length_map, List.take_length] at subO
    have hw2 := lst_keep k2 hw1
    refine ⟨_, rfl, wa, rfl, ⟨_, SqL.of hw2⟩, fun E hE => lc_list (vs := [4]) (xs := ws.map V.str) (fun i H' => Keep H2 H' ∧ IsBag H' b ∧ ∃ ys, H' E = some (.lst (ys.map V.str)) ∧ ys.Sublist (ws.take i)) ⟨Keep.of (Same.new hE), hb2.same (Same.new hE), [], upd_same, List.nil_sublist _⟩ (fun i H' _ q => SqL.of (lst_keep q.1 hw2)) (fun i x H' hx q => ?_) (fun H3 q => ?_)⟩
    · obtain ⟨k3, hb3, ys, hys, sub⟩ := q
      obtain ⟨cc, hcc, rfl⟩ := strs_ix hx
      have ly : ys.length ≤ 4 := Nat.le_trans sub.length_le (by rw [List.length_take]; omega)
      refine ⟨rfl, _, rfl, b, 2, rfl, hb3, by decide, by decide, fun d3 H4 k4 hb4 _ _ => ⟨rfl, decide (V.int d3 = V.int 0), rfl, ?_⟩⟩
      have hys4 := lst_keep k4 hys
      by_cases e3 : V.int d3 = V.int 0
      · rw [decide_eq_true e3]
        refine ⟨_, rfl, _, hys4, ?_, keep_mut (k3.trans k4) hE, hb4.off (hb2.ne hE), ys ++ [cc], by rw [upd_same, List.map_append]; rfl, sub_snoc sub hcc⟩
        rw [List.length_map]
        exact Nat.lt_of_le_of_lt ly (by decide)
      · rw [decide_eq_false e3]
        exact ⟨k3.trans k4, hb4, ys, hys4, sub_skip sub hcc⟩
    obtain ⟨k3, hb3, news, hne, subN⟩ := q
    rw [List.length_map, List.take_length] at subN
    refine ⟨_, rfl, _, rfl, _, rfl, b, 2, rfl, hb3, by decide, by decide, fun d4 H4 k4 hb4 _ _ => ⟨rfl, _, rfl, b, 3, rfl, hb4, by decide, by decide, fun d5 H5 k5 hb5 _ _ => ⟨rfl, by show 4 ≤ sizeLine; decide, fun p hp => ?_⟩⟩⟩
    have s6 : Same H5 (upd H5 p (.tup [.ref D, .ref E, .bl (decide (V.int d4 = V.int 0)), .bl (decide (V.int d5 = V.int 0))])) := Same.new hp
    refine k _ (some ⟨olds, news, decide (V.int d4 = V.int 0), decide (V.int d5 = V.int 0)⟩) _ ((((k1.trans k2).trans k3).trans (k4.trans k5)).trans (Keep.of s6)) (hb5.same s6) ?_ ?_
    · exact ⟨p, .ref D, .ref E, rfl, fresh_at ((((k1.trans k2).trans k3).trans (k4.trans k5)).dom _ hp) upd_same, ⟨D, rfl, fresh_at (k1.dom _ hD) (s6 _ _ (lst_keep (k4.trans k5) (lst_keep k3 hol)))⟩, E, rfl, fresh_at ((k1.trans k2).dom _ hE) (s6 _ _ (lst_keep (k4.trans k5) hne))⟩
    · intro n en
      cases en
      exact ⟨subO, subN⟩
theorem pss_weak {X : Cx} {st : List Stmt} {t t' : TS} (h : PSs X st t) (k : ∀ D σ H, t' D σ H → t D σ H) : PSs X st t' := ⟨fun pins s σ H D I q => h.run pins s σ H D I (k D σ H q)⟩
/-- a deed's row as the law draws it -/
structure DrawnD (cols marks : List Str) (d : DeedD) : Prop where
  kd : (d.kind = "make" ∧ (∃ t ∈ marks, d.moves = [(("" : Str), t)]) ∧ d.own = []) ∨ (d.kind = "end" ∧ (∃ ss : List Str, ss.Sublist marks ∧ d.moves = ss.map fun z => (z, ("" : Str))) ∧ d.own = []) ∨
    (d.kind = "change" ∧ (d.moves.map (·.1)).Sublist marks ∧ (∀ m ∈ d.moves, m.2 ∈ marks) ∧ d.own.Sublist cols)
  note : NoteIn ("state" :: (if d.kind = "change" then d.own else cols)) d.note
theorem IsMove.nl {H H' : Hp} {v : V} {m : Str × Str} (h : IsMove H v m) (c : NL H H') : IsMove H' v m := by
  obtain ⟨a, e, q⟩ := h
  exact ⟨a, e, c _ _ q True.intro⟩
/-- a move is laid and put into the list -/
theorem move_put {H0 H : Hp} {t D : Addr} {xs : List V} {ms : List (Str × Str)} {x y : Str} (ht : H t = none) (d : H0 t = none) (hD : H D = some (.lst xs)) (pr : Paired (IsMove (Fresh H0 H)) xs ms) :
    Paired (IsMove (Fresh H0 (upd (upd H t (.tup [.str x, .str y])) D (.lst (xs ++ [.ref t]))))) (xs ++ [.ref t]) (ms ++ [(x, y)]) := by
  have nl : NL H (upd (upd H t (.tup [.str x, .str y])) D (.lst (xs ++ [.ref t]))) := (NL.of (Same.new ht)).trans (NL.mut (Same.new ht _ _ hD))
  refine paired_snoc (paired_imp (fun x y h => IsMove.nl h (fresh_nl nl)) pr) ⟨t, rfl, fresh_at d ?_⟩
  rw [upd_ne (fun z => by rw [z, hD] at ht; cases ht)]
  exact upd_same
theorem lstP_keep {α : Type} {R : Hp → V → α → Prop} (st : Stays R) {H0 H H' : Hp} {a : Addr} {xs : List V} {l : List α} (k : Keep H H') (h : H a = some (.lst xs)) (p : Paired (R (Fresh H0 H)) xs l) : H' a = some (.lst xs) ∧ Paired (R (Fresh H0 H')) xs l :=
  ⟨k _ _ h fun i j z => by
    cases z
    cases p with
    | cons h _ => exact st.noint h i rfl, paired_mono st (fresh_core (fun _ z => z) k.core) p⟩
theorem snd_const {ms : List (Str × Str)} {c : Str} (h : ∀ m ∈ ms, m.2 = c) : ms = (ms.map (·.1)).map fun z => (z, c) := by
  induction ms with
  | nil => rfl
  | cons m l ih =>
    have e := h m List.mem_cons_self
    rw [List.map_cons, List.map_cons, ← ih fun x hx => h x (List.mem_cons_of_mem _ hx), ← e]
def tTail (H0 : Hp) (b ca : Addr) (kind nm : Str) (cols : List Str) : TS := fun D σ H => ∃ (sv mv : V) (oa : Addr) (ms : List (Str × Str)) (own : List Str) (z7 z8 z9 : Option V), σ = [some (.ref b), some (.str kind), some (.str nm), some (.ref ca), some sv, some mv, some (.ref oa), z7, z8, z9] ∧ IsBag H b ∧
  LOf IsMove (Fresh H0 H) mv ms ∧ Fresh H0 H oa = some (.lst (own.map V.str)) ∧ H ca = some (.lst (cols.map V.str)) ∧ own.length ≤ 3 ∧ cols.length ≤ 3 ∧ (∀ a, H a = none → H0 a = none) ∧
  ∀ (v : V) (nt : Option NoteD) (H' : Hp), Keep H H' → IsBag H' b → IsDeedRow (Fresh H0 H') v ⟨kind, nm, ms, own, nt⟩ → NoteIn ("state" :: (if kind = "change" then own else cols)) nt → D.rt v H'
def r_ldeed : RC := fun vs _ H Q => ∃ (b ca sa : Addr) (kind nm : Str) (cols marks : List Str), vs = [.ref b, .str kind, .str nm, .ref ca, .ref sa] ∧ IsBag H b ∧ H ca = some (.lst (cols.map V.str)) ∧ H sa = some (.lst (marks.map V.str)) ∧ cols.length ≤ 3 ∧ marks ≠ [] ∧ marks.length ≤ 4 ∧
  (kind = "make" ∨ kind = "end" ∨ kind = "change") ∧ ∀ (v : V) (d : DeedD) (H' : Hp), Keep H H' → IsBag H' b → IsDeedRow (Fresh H H') v d → DrawnD cols marks d → d.kind = kind → d.name = nm → Q v H'
theorem ok_l_deed (T : Tx K mg) : Cal P w K mg base false 3 "_law_deed" r_ldeed := by
  refine cal_at T.d_l_deed T.g_l_deed sc_l_deed (fun vs H Q h => by obtain ⟨_, _, _, _, _, _, _, rfl, _⟩ := h; rfl) (fun _ _ _ _ _ _ us hl => match us, hl with | [_, _, _, _, _], _ => rfl) fun cdv A outer s H vs Q hr _ h => ?_
  have G_l_note := ok_l_note (P := P) (w := w) (base := base) T
  have G_l_of := ok_l_of (P := P) (w := w) (base := base) T
  have G_l_take := ok_l_take (P := P) (w := w) (base := base) T
  obtain ⟨b, ca, sa, kind, nm, cols, marks, rfl, hb, hca, hsa, c3, mne, m4, hk, k⟩ := h
  refine ⟨_, (pss_cons (ps_par (i := 5) (j := 6) rfl sc_l_deed.nd rfl rfl (by decide) rfl rfl (pa_cons (pe_lst (pa_cons (pe_tup (pa_cons pe_str (pa_cons (pe_cl G_l_of hr (by decide) Gd.no rfl (pa_cons (pv 0) (pa_cons (pv 4) pa_nil))) pa_nil))) pa_nil)) (pa_cons (pe_lst pa_nil) pa_nil)) rfl)
    (pss_cons (ps_if (pt_cmpR op_eq (pv 1) pe_str (nomark _)) (pss_one (ps_setLc (i := 5) (own := [("_law_state_here", 8)]) rfl sc_l_deed.nd rfl rfl (sw_true rfl rfl rfl (by decide +kernel)) (pi_list (pv 4)) (blkOk_by rfl) (fun _ _ _ _ _ => pg_name (i := 8) sc_l_deed.nd rfl (Or.inl rfl)) (fun _ _ _ _ _ => (pts_one (pt_cmpR op_gt (pe_cl G_l_take hr (by decide) Gd.no rfl (pa_cons (pv 0) (pa_cons pe_int pa_nil))) pe_int (nomark _)))) (fun _ _ _ _ _ => (pe_tup (pa_cons (pv 8) (pa_cons pe_str pa_nil)))))) pss_nil)
    (pss_cons (ps_if (pt_cmpR op_eq (pv 1) pe_str (nomark _)) (pss_cons (ps_setLc (i := 5) (own := [("_law_state_here", 8)]) rfl sc_l_deed.nd rfl rfl (sw_true rfl rfl rfl (by decide +kernel)) (pi_list (pv 4)) (blkOk_by rfl) (fun _ _ _ _ _ => pg_name (i := 8) sc_l_deed.nd rfl (Or.inl rfl)) (fun _ _ _ _ _ => (pts_one (pt_cmpR op_gt (pe_cl G_l_take hr (by decide) Gd.no rfl (pa_cons (pv 0) (pa_cons pe_int pa_nil))) pe_int (nomark _)))) (fun _ _ _ _ _ => (pe_tup (pa_cons (pv 8) (pa_cons (pe_cl (show Cal _ _ _ _ _ _ _ _ (r_of K) from G_l_of) hr (by decide) Gd.no rfl (pa_cons (pv 0) (pa_cons (pv 4) pa_nil))) pa_nil)))))
    (pss_one (ps_setLc (i := 6) (own := [("_law_column", 9)]) rfl sc_l_deed.nd rfl rfl (sw_true rfl rfl rfl (by decide +kernel)) (pi_list (pv 3)) (blkOk_by rfl) (fun _ _ _ _ _ => pg_name (i := 9) sc_l_deed.nd rfl (Or.inl rfl)) (fun _ _ _ _ _ => (pts_one (pt_cmpR op_gt (pe_cl G_l_take hr (by decide) Gd.no rfl (pa_cons (pv 0) (pa_cons pe_int pa_nil))) pe_int (nomark _)))) (fun _ _ _ _ _ => (pv 9))))) pss_nil)
    (pss_weak (t' := tTail H b ca kind nm cols) (pss_cons (ps_set (i := 7) sc_l_deed.nd rfl (Or.inl rfl) (pe_op op_cat (pe_lst (pa_cons pe_str pa_nil)) (pe_ifExp (pt_cmpR op_eq (pv 1) pe_str (nomark _)) (pv 6) (pv 3))))
    (pss_one (ps_ret (pe_tup (pa_cons (pv 1) (pa_cons (pv 2) (pa_cons (pv 5) (pa_cons (pv 6) (pa_cons (pe_cl G_l_note hr (by decide) Gd.no rfl (pa_cons (pv 0) (pa_cons (pv 7) pa_nil))) pa_nil))))))))) fun D σ Hx h => ?tail)))), ?_⟩
  case tail =>
    obtain ⟨sv, mv, oa, ms, own, z7, z8, z9, rfl, hb, hmv, hoa, hca, o3, c3, dm, k⟩ := h
    refine ⟨by show 1 ≤ sizeLine; decide, fun q hq => ⟨_, rfl, rfl, decide (V.str kind = V.str "change"), rfl, ?_⟩⟩
    have s1 : Same Hx (upd Hx q (.lst [.str "state"])) := Same.new hq
    have hq1 : (upd Hx q (.lst [.str "state"])) q = some (.lst [.str "state"]) := upd_same
    revert s1 hq1
    generalize upd Hx q (.lst [.str "state"]) = H1
    intro s1 hq1
    by_cases ec : kind = "change"
    · rw [decide_eq_true (by rw [ec] : V.str kind = V.str "change")]
      rw [if_pos ec] at k
      refine ⟨_, rfl, q, oa, _, _, rfl, rfl, hq1, s1 _ _ (fresh_in hoa).2, ?_, fun p hp => ?_⟩
      · rw [List.length_map]; exact Nat.le_trans (by show 1 + own.length ≤ 4; omega) (by decide)
      have s2 := s1.trans (Same.new (o := .lst ([.str "state"] ++ own.map V.str)) hp)
      refine ⟨_, rfl, _, rfl, _, rfl, _, rfl, _, rfl, _, rfl, b, p, "state" :: own, rfl, hb.same s2, upd_same, by show own.length + 1 ≤ 4; omega, fun v nt H3 k3 hb3 hn hni => ⟨by show 5 ≤ sizeLine; decide, fun t ht => ?_⟩⟩
      have k4 : Keep Hx (upd H3 t (.tup [.str kind, .str nm, mv, .ref oa, v])) := ((Keep.of s2).trans k3).trans (Keep.of (Same.new ht))
      exact k _ nt _ k4 (hb3.same (Same.new ht)) ⟨t, mv, .ref oa, v, rfl, fresh_at (dm _ (((Keep.of s2).trans k3).dom _ ht)) upd_same, (LOf.stays IsMove.stays).mono hmv (fresh_core (fun _ z => z) k4.core), ⟨oa, rfl, fresh_at (fresh_in hoa).1 (lst_keep k4 (fresh_in hoa).2)⟩, IsNoteRow.stays.mono hn (fresh_core (fun a z => dm a ((Keep.of s2).dom a z)) (Core.of (Same.new ht)))⟩ hni
    · rw [decide_eq_false (fun z => by cases z; exact ec rfl : ¬V.str kind = V.str "change")]
      rw [if_neg ec] at k
      refine ⟨_, rfl, q, ca, _, _, rfl, rfl, hq1, s1 _ _ hca, ?_, fun p hp => ?_⟩
      · rw [List.length_map]; exact Nat.le_trans (by show 1 + cols.length ≤ 4; omega) (by decide)
      have s2 := s1.trans (Same.new (o := .lst ([.str "state"] ++ cols.map V.str)) hp)
      refine ⟨_, rfl, _, rfl, _, rfl, _, rfl, _, rfl, _, rfl, b, p, "state" :: cols, rfl, hb.same s2, upd_same, by show cols.length + 1 ≤ 4; omega, fun v nt H3 k3 hb3 hn hni => ⟨by show 5 ≤ sizeLine; decide, fun t ht => ?_⟩⟩
      have k4 : Keep Hx (upd H3 t (.tup [.str kind, .str nm, mv, .ref oa, v])) := ((Keep.of s2).trans k3).trans (Keep.of (Same.new ht))
      exact k _ nt _ k4 (hb3.same (Same.new ht)) ⟨t, mv, .ref oa, v, rfl, fresh_at (dm _ (((Keep.of s2).trans k3).dom _ ht)) upd_same, (LOf.stays IsMove.stays).mono hmv (fresh_core (fun _ z => z) k4.core), ⟨oa, rfl, fresh_at (fresh_in hoa).1 (lst_keep k4 (fresh_in hoa).2)⟩, IsNoteRow.stays.mono hn (fresh_core (fun a z => dm a ((Keep.of s2).dom a z)) (Core.of (Same.new ht)))⟩ hni
  have mne' : marks.map V.str ≠ [] := fun z => mne (List.map_eq_nil_iff.mp z)
  have mnb : ∀ i j, marks.map V.str ≠ [.int i, .int j] := fun i j z => by
    cases marks with
    | nil => cases z
    | cons a l => simp at z
  have ml : (marks.map V.str).length ≤ 1000 := by rw [List.length_map]; omega
  refine ⟨_, rfl, _, rfl, b, sa, _, rfl, hb, hsa, mne', ml, mnb, fun v H1 k1 hb1 hv => ⟨by show 2 ≤ sizeLine; decide, fun t ht => ⟨by show 1 ≤ sizeLine; decide, fun l hl => ⟨Nat.zero_le _, fun o ho => ⟨_, _, rfl, ?_⟩⟩⟩⟩⟩
  obtain ⟨m0, hm0, rfl⟩ := List.mem_map.mp hv
  have s2 : Same H1 (upd (upd (upd H1 t (.tup [.str "", .str m0])) l (.lst [.ref t])) o (.lst [])) := ((Same.new ht).trans (Same.new hl)).trans (Same.new ho)
  have ho2 : (upd (upd (upd H1 t (.tup [.str "", .str m0])) l (.lst [.ref t])) o (.lst [])) o = some (.lst (([] : List Str).map V.str)) := upd_same
  have hl2 : LOf IsMove (Fresh H (upd (upd (upd H1 t (.tup [.str "", .str m0])) l (.lst [.ref t])) o (.lst []))) (.ref l) [(("" : Str), m0)] :=
    ⟨l, [.ref t], rfl, fresh_at (k1.dom _ ((Keep.of (Same.new ht)).dom _ hl)) (by rw [upd_ne (ne_of_none upd_same ho)]; exact upd_same), .cons ⟨t, rfl, fresh_at (k1.dom _ ht) (Same.new ho _ _ (Same.new hl _ _ upd_same))⟩ .nil⟩
  revert s2 ho2 hl2
  generalize upd (upd (upd H1 t (.tup [.str "", .str m0])) l (.lst [.ref t])) o (.lst []) = H2
  intro s2 ho2 hl2
  have k2 : Keep H H2 := k1.trans (Keep.of s2)
  have ho0 : H o = none := k1.dom _ ((Keep.of ((Same.new ht).trans (Same.new hl))).dom _ ho)
  have hb2 := hb1.same s2
  have hca2 := lst_keep k2 hca
  have hsa2 := lst_keep k2 hsa
  refine ⟨_, rfl, rfl, decide (V.str kind = V.str "end"), rfl, ?_⟩
  rcases hk with rfl | rfl | rfl
  · refine ⟨_, rfl, rfl, decide (V.str "make" = V.str "change"), rfl, ?_⟩
    refine ⟨_, _, o, _, [], _, _, _, rfl, hb2, hl2, fresh_at ho0 ho2, hca2, Nat.zero_le _, c3, k2.dom, fun v nt H' k3 hb3 hd hn => k v _ H' (k2.trans k3) hb3 hd ⟨.inl ⟨rfl, ⟨m0, hm0, rfl⟩, rfl⟩, hn⟩ rfl rfl⟩
  · refine ⟨_, rfl, sa, rfl, ⟨_, SqL.of hsa2⟩, fun D hD => lc_list (vs := [8]) (xs := marks.map V.str) (fun i H' => Keep H2 H' ∧ IsBag H' b ∧ ∃ (xs : List V) (ms : List (Str × Str)), H' D = some (.lst xs) ∧ Paired (IsMove (Fresh H H')) xs ms ∧ (ms.map (·.1)).Sublist (marks.take i) ∧ ∀ m ∈ ms, m.2 = "") ⟨Keep.of (Same.new hD), hb2.same (Same.new hD), [], [], upd_same, .nil, List.nil_sublist _, fun m hm => by cases hm⟩ (fun i H' _ q => SqL.of (lst_keep q.1 hsa2)) (fun i x H' hx q => ?_) (fun H3 q => ?_)⟩
    · obtain ⟨k3, hb3, xs, ms, hxs, pr, sub, all⟩ := q
      obtain ⟨cc, hcc, rfl⟩ := strs_ix hx
      have lm : xs.length ≤ 4 := by
        rw [paired_len pr, ← List.length_map (f := fun m : Str × Str => m.1)]
        exact Nat.le_trans sub.length_le (by rw [List.length_take]; omega)
      refine ⟨rfl, _, rfl, b, 3, rfl, hb3, by decide, by decide, fun d3 H4 k4 hb4 _ _ => ⟨_, _, rfl, rfl, decide ((0 : Int) < d3), rfl, ?_⟩⟩
      obtain ⟨hxs4, pr4⟩ := lstP_keep IsMove.stays k4 hxs pr
      by_cases e3 : (0 : Int) < d3
      · rw [decide_eq_true e3]
        refine ⟨_, rfl, by show 2 ≤ sizeLine; decide, fun t ht => ⟨_, Same.new ht _ _ hxs4, Nat.lt_of_le_of_lt lm (by decide), keep_mut ((k3.trans k4).trans (Keep.of (Same.new ht))) hD, (hb4.same (Same.new ht)).off (hb2.ne hD), xs ++ [.ref t], ms ++ [(cc, ("" : Str))], upd_same, move_put ht (((k2.trans k3).trans k4).dom _ ht) hxs4 pr4, ?_, fun m hm => ?_⟩⟩
        · rw [List.map_append]; exact sub_snoc sub hcc
        · rcases List.mem_append.mp hm with z | z
          · exact all m z
          · rw
                [List.mem_singleton.mp z]
      · rw [decide_eq_false e3]
        exact ⟨k3.trans k4, hb4, xs, ms, hxs4, pr4, sub_skip sub hcc, all⟩
    obtain ⟨k3, hb3, xs, ms, hxs, pr, sub, all⟩ := q
    rw [List.length_map, List.take_length] at sub
    refine ⟨_, rfl, rfl, decide (V.str "end" = V.str "change"), rfl, ?_⟩
    exact ⟨_, .ref D, o, ms, [], _, _, _, rfl, hb3, ⟨D, xs, rfl, fresh_at (k2.dom _ hD) hxs, pr⟩, fresh_at ho0 (lst_keep k3 ho2), lst_keep k3 hca2, Nat.zero_le _, c3, (k2.trans k3).dom, fun v nt H' k4 hb4 hd hn => k v _ H' ((k2.trans k3).trans k4) hb4 hd ⟨.inr (.inl ⟨rfl, ⟨ms.map (·.1), sub, snd_const all⟩, rfl⟩), hn⟩ rfl rfl⟩
  · refine ⟨_, rfl, rfl, decide (V.str "change" = V.str "change"), rfl, ?_⟩
    refine ⟨_, rfl, sa, rfl, ⟨_, SqL.of hsa2⟩, fun D hD => lc_list (vs := [8]) (xs := marks.map V.str) (fun i H' => Keep H2 H' ∧ IsBag H' b ∧ ∃ (xs : List V) (ms : List (Str × Str)), H' D = some (.lst xs) ∧ Paired (IsMove (Fresh H H')) xs ms ∧ (ms.map (·.1)).Sublist (marks.take i) ∧ ∀ m ∈ ms, m.2 ∈ marks) ⟨Keep.of (Same.new hD), hb2.same (Same.new hD), [], [], upd_same, .nil, List.nil_sublist _, fun m hm => by cases hm⟩ (fun i H' _ q => SqL.of (lst_keep q.1 hsa2)) (fun i x H' hx q => ?_) (fun H3 q => ?_)⟩
    · obtain ⟨k3, hb3, xs, ms, hxs, pr, sub, all⟩ := q
      obtain ⟨cc, hcc, rfl⟩ := strs_ix hx
      have lm : xs.length ≤ 4 := by
        rw [paired_len pr, ← List.length_map (f := fun m : Str × Str => m.1)]
        exact Nat.le_trans sub.length_le (by rw [List.length_take]; omega)
      refine ⟨rfl, _, rfl, b, 4, rfl, hb3, by decide, by decide, fun d3 H4 k4 hb4 _ _ => ⟨_, _, rfl, rfl, decide ((0 : Int) < d3), rfl, ?_⟩⟩
      obtain ⟨hxs4, pr4⟩ := lstP_keep IsMove.stays k4 hxs pr
      by_cases e3 : (0 : Int) < d3
      · rw [decide_eq_true e3]
        refine ⟨_, rfl, _, rfl, _, rfl, b, sa, _, rfl, hb4, lst_keep (k3.trans k4) hsa2, mne', ml, mnb, fun v5 H5 k5 hb5 hv5 => ?_⟩
        obtain ⟨m5, hm5, rfl⟩ := List.mem_map.mp hv5
        obtain ⟨hxs5, pr5⟩ := lstP_keep IsMove.stays k5 hxs4 pr4
        have k25 := (k3.trans k4).trans k5
        refine ⟨by show 2 ≤ sizeLine; decide, fun t ht => ⟨_, Same.new ht _ _ hxs5, Nat.lt_of_le_of_lt lm (by decide), keep_mut (k25.trans (Keep.of (Same.new ht))) hD, (hb5.same (Same.new ht)).off (hb2.ne hD), xs ++ [.ref t], ms ++ [(cc, m5)], upd_same, move_put ht ((k2.trans k25).dom _ ht) hxs5 pr5, ?_, fun m hm => ?_⟩⟩
        · rw [List.map_append]; exact sub_snoc sub hcc
        · rcases List.mem_append.mp hm with z | z
          · exact all m z
          · rw [List.mem_singleton.mp z]; exact hm5
      · rw [decide_eq_false e3]
        exact ⟨k3.trans k4, hb4, xs, ms, hxs4, pr4, sub_skip sub hcc, all⟩
    obtain ⟨k3, hb3, xs, ms, hxs, pr, sub, all⟩ := q
    rw [List.length_map, List.take_length] at sub
    have hca3 := lst_keep k3 hca2
    refine ⟨_, rfl, ca, rfl, ⟨_, SqL.of hca3⟩, fun E hE => lc_list (vs := [9]) (xs := cols.map V.str) (fun i H' => Keep H3 H' ∧ IsBag H' b ∧ ∃ ys, H' E = some (.lst (ys.map V.str)) ∧ ys.Sublist (cols.take i)) ⟨Keep.of (Same.new hE), hb3.same (Same.new hE), [], upd_same, List.nil_sublist _⟩ (fun i H' _ q => SqL.of (lst_keep q.1 hca3)) (fun i x H' hx q => ?_) (fun H4 q => ?_)⟩
    · obtain ⟨k4, hb4, ys, hys, suby⟩ := q
      obtain ⟨cc, hcc, rfl⟩ := strs_ix hx
      have ly : ys.length ≤ 3 := Nat.le_trans suby.length_le (by rw [List.length_take]; omega)
      refine ⟨rfl, _, rfl, b, 3, rfl, hb4, by decide, by decide, fun d3 H5 k5 hb5 _ _ => ⟨_, _, rfl, rfl, decide ((0 : Int) < d3), rfl, ?_⟩⟩
      have hys5 := lst_keep k5 hys
      by_cases e3 : (0 : Int) < d3
      · rw [decide_eq_true e3]
        refine ⟨_, rfl, _, hys5, ?_, keep_mut (k4.trans k5) hE, hb5.off (hb3.ne hE), ys ++ [cc], by rw [upd_same, List.map_append]; rfl, sub_snoc suby hcc⟩
        rw [List.length_map]
        exact Nat.lt_of_le_of_lt ly (by decide)
      · rw [decide_eq_false e3]
        exact ⟨k4.trans k5, hb5, ys, hys5, sub_skip suby hcc⟩
    obtain ⟨k4, hb4, own, hown, subo⟩ := q
    rw [List.length_map, List.take_length] at subo
    obtain ⟨hxs4, pr4⟩ := lstP_keep IsMove.stays k4 hxs pr
    exact ⟨_, .ref D, E, ms, own, _, _, _, rfl, hb4, ⟨D, xs, rfl, fresh_at (k2.dom _ hD) hxs4, pr4⟩, fresh_at ((k2.trans k3).dom _ hE) hown, lst_keep k4 hca3, Nat.le_trans subo.length_le c3, c3, ((k2.trans k3).trans k4).dom, fun v nt H' k5 hb5 hd hn => k v _ H' (((k2.trans k3).trans k4).trans k5) hb5 hd ⟨.inr (.inr ⟨rfl, sub, all, subo⟩), hn⟩ rfl rfl⟩
end
end Pn

-- PnN4
set_option
      maxHeartbeats 4000000
namespace Pn
open PySem PySem.Spec L2 PyProof.Rows StX ClX
section
variable {P : Program} {w : World} {K : PySem.W.Frag}
      {mg : Str → Option Value} {base : Heap}
structure DataOk (D : DataD) (marks : List Str) : Prop where
  cls : ∃ n, n ≤ 3 ∧ NamesOk ["state", "row", "deed"] D.cols n
  mks : ∃ n, n ≤ 4 ∧ NamesOk [] marks n
  nms : ∃ n, n ≤ 6 ∧ NamesOk [] (D.deeds.map DeedD.name) n
  drawn : ∀ d ∈ D.deeds, DrawnD D.cols marks d
  keep : keepOk D.keep
def Hide (D : Addr) (H : Hp) : Hp := fun a => if a = D then none else H a
theorem hide_core {D : Addr} {H H' : Hp} (c : Core H H') : Core (Hide D H) (Hide D H') := fun a o e n => by
  unfold Hide at e ⊢
  by_cases q : a = D
  · rw [if_pos q] at e; cases e
  · rw [if_neg q] at e ⊢; exact c a o e n
theorem hide_upd {D : Addr} {H : Hp} {o : HO} : Core (Hide D H) (Hide D (upd H D o)) := fun a u e n => by
  unfold Hide at e ⊢
  by_cases q : a = D
  · rw [if_pos q] at e; cases e
  · rw [if_neg q] at e ⊢; rw [upd_ne q]; exact e
theorem fresh_hide {D : Addr} {H H' : Hp} {o : HO} (h : H D = some o) : Core (Fresh H H') (Hide D H') := fun a u e n => by
  obtain ⟨e1, e2⟩ := fresh_in e
  unfold Hide
  rw [if_neg (fun z => by rw [z, h] at e1; cases e1)]
  exact e2
theorem hide_sub {D : Addr} {H : Hp} : Core (Hide D H) H := fun a o e _ => by
  unfold Hide at e
  by_cases q : a = D
  · rw [if_pos q] at e; cases e
  · rw [if_neg q] at e; exact e
def IsKind (k : Str) : Prop := k = "make" ∨ k = "end" ∨ k = "change"
def r_ldata : RC := fun vs _ H Q => ∃ b : Addr, vs = [.ref b, .int 3, .int 4, .int 6] ∧ IsBag H b ∧ ∀ (v : V) (D : DataD) (marks : List Str) (H' : Hp), Keep H H' → IsBag H' b → IsData H' v D → DataOk D marks → Q v H'
theorem ok_l_data (T : Tx K mg) : Cal P w K mg base false 4 "_law_data" r_ldata := by
  refine cal_at T.d_l_data T.g_l_data sc_l_data (fun vs H Q h => by obtain ⟨_, rfl, _⟩ := h; rfl) (fun _ _ _ _ _ _ us hl => match us, hl with | [_, _, _, _], _ => rfl) fun cdv A outer s H vs Q hr _ h => ?_
  have G_l_deed := ok_l_deed (P := P) (w := w) (base := base) T
  have G_l_names := ok_l_names (P := P) (w := w) (base := base) T
  have G_l_of := ok_l_of (P := P) (w := w) (base := base) T
  have G_l_take := ok_l_take (P := P) (w := w) (base := base) T
  obtain ⟨b, rfl, hb, k⟩ := h
  refine ⟨_, (pss_cons (ps_set (i := 4) sc_l_data.nd rfl (Or.inl rfl) (pe_cl G_l_names hr (by decide) Gd.no rfl (pa_cons (pv 0) (pa_cons (pe_cl G_l_take hr (by decide) Gd.no rfl (pa_cons (pv 0) (pa_cons (pe_op op_add (pv 1) pe_int) pa_nil))) (pa_cons (pe_lst (pa_cons pe_str (pa_cons pe_str (pa_cons pe_str pa_nil)))) pa_nil)))))
    (pss_cons (ps_set (i := 5) sc_l_data.nd rfl (Or.inl rfl) (pe_cl G_l_names hr (by decide) Gd.no rfl (pa_cons (pv 0) (pa_cons (pe_op op_add pe_int (pe_cl G_l_take hr (by decide) Gd.no rfl (pa_cons (pv 0) (pa_cons (pv 2) pa_nil)))) (pa_cons (pe_lst pa_nil) pa_nil)))))
    (pss_cons (ps_set (i := 6) sc_l_data.nd rfl (Or.inl rfl) (pe_lst pa_nil))
    (pss_cons (ps_for PassesOwn.never rfl (pi_list (pe_cl G_l_names hr (by decide) Gd.no rfl (pa_cons (pv 0) (pa_cons (pe_op op_add pe_int (pe_cl G_l_take hr (by decide) Gd.no rfl (pa_cons (pv 0) (pa_cons (pv 3) pa_nil)))) (pa_cons (pe_lst pa_nil) pa_nil))))) (pg_name (i := 7) sc_l_data.nd rfl (Or.inl rfl)) (pss_cons (ps_set (i := 8) sc_l_data.nd rfl (Or.inl rfl) (pe_weak (t' := fun σ H Q => ∃ D xs, σ[0]? = some (some (.ref b)) ∧ σ[6]? = some (some (.ref D)) ∧ H D = some (.lst xs) ∧ IsBag H b ∧ ∀ (kd : Str) (H' : Hp), Keep H H' → IsBag H' b → IsKind kd → Q (.str kd) H') (pe_ifExp (pt_cmpR (op_neNil hr.units) (pv 6) (pe_lst pa_nil) (nomark _)) (pe_cl G_l_of hr (by decide) Gd.no rfl (pa_cons (pv 0) (pa_cons (pe_lst (pa_cons pe_str (pa_cons pe_str (pa_cons pe_str (pa_cons pe_str (pa_cons pe_str pa_nil)))))) pa_nil))) pe_str) fun σ H Q h => ?kd))
    (pss_one (ps_expr (pe_bm PySem.F.plainAttrs_list PySem.F.slot_list_append PySem.F.type_list_append mt_append (pv 6) (pa_cons (pe_cl G_l_deed hr (by decide) Gd.no rfl (pa_cons (pv 0) (pa_cons (pv 8) (pa_cons (pv 7) (pa_cons (pv 4) (pa_cons (pv 5) pa_nil)))))) pa_nil))))))
    (pss_one (ps_ret (pe_tup (pa_cons (pv 4) (pa_cons (pv 6) (pa_cons (pe_cl G_l_of hr (by decide) Gd.no rfl (pa_cons (pv 0) (pa_cons (pe_lst (pa_cons pe_non (pa_cons pe_non (pa_cons pe_int (pa_cons pe_int (pa_cons pe_int pa_nil)))))) pa_nil))) pa_nil)))))))))), ?_⟩
  case kd =>
    obtain ⟨D, xs, h0, h6, hD, hb, k⟩ := h
    refine ⟨_, h6, Nat.zero_le _, fun q hq => ⟨D, q, xs, rfl, rfl, SqL.of (Same.new hq _ _ hD), SqL.of upd_same, !xs.isEmpty, rfl, ?_⟩⟩
    cases xs.isEmpty with
    | true => exact k "make" _ (Keep.of (Same.new hq)) (hb.same (Same.new hq)) (.inl rfl)
    | false =>
      refine ⟨_, h0, by show 5 ≤ sizeLine; decide, fun q2 hq2 => ⟨b, q2, _, rfl, (hb.same (Same.new hq)).same (Same.new hq2), upd_same, List.cons_ne_nil _ _, by show 5 ≤ 1000; decide, (fun i j z => by cases z), fun v H2 k2 hb2 hv => ?_⟩⟩
      have kk := ((Keep.of (Same.new hq)).trans (Keep.of (Same.new hq2))).trans k2
      simp only [List.mem_cons, List.not_mem_nil, or_false] at hv
      rcases hv with rfl | rfl | rfl | rfl | rfl
      · exact k _ _ kk hb2 (.inr (.inr rfl))
      · exact k _ _ kk hb2 (.inr (.inr rfl))
      · exact k _ _ kk hb2 (.inr (.inr rfl))
      · exact k _ _ kk hb2 (.inr (.inl rfl))
      · exact k _ _ kk hb2 (.inl rfl)
  -- the columns
  refine ⟨_, rfl, _, rfl, _, rfl, _, _, rfl, rfl, b, _, rfl, hb, by decide, by decide, fun d1 H1 k1 hb1 d0 d4 => ⟨by show 3 ≤ sizeLine; decide, fun q hq => ?_⟩⟩
  obtain ⟨n1, rfl⟩ := Int.eq_ofNat_of_zero_le d0
  refine ⟨b, q, n1, ["state", "row", "deed"], rfl, by omega, by decide, hb1.same (Same.new hq), upd_same, fun wa cols H2 k2 hb2 hwa cok => ?_⟩
  have kA := (k1.trans (Keep.of (Same.new hq))).trans k2
  -- the marks
  refine ⟨_, rfl, _, rfl, _, rfl, b, _, rfl, hb2, by decide, by decide, fun d3 H3 k3 hb3 e0 e4 => ⟨_, _, rfl, rfl, Nat.zero_le _, fun q3 hq3 => ?_⟩⟩
  obtain ⟨n3, rfl⟩ := Int.eq_ofNat_of_zero_le e0
  refine ⟨b, q3, 1 + n3, [], by rw [Int.natCast_add]; rfl, by omega, by decide, hb3.same (Same.new hq3), upd_same, fun ma marks H4 k4 hb4 hma mok => ?_⟩
  have kB := ((kA.trans k3).trans (Keep.of (Same.new hq3))).trans k4
  have hwa4 := lst_keep ((k3.trans (Keep.of (Same.new hq3))).trans k4) hwa
  refine ⟨Nat.zero_le _, fun D hD => ?_⟩
  -- the deeds' names
  have s5 : Same H4 (upd H4 D (.lst [])) := Same.new hD
  refine ⟨_, rfl, _, rfl, _, rfl, b, _, rfl, hb4.same s5, by decide, by decide, fun d6 H6 k6 hb6 f0 f6 => ⟨_, _, rfl, rfl, Nat.zero_le _, fun q6 hq6 => ?_⟩⟩
  obtain ⟨n6, rfl⟩ := Int.eq_ofNat_of_zero_le f0
  refine ⟨b, q6, 1 + n6, [], by rw [Int.natCast_add]; rfl, by omega, by decide, hb6.same (Same.new hq6), upd_same, fun na names H7 k7 hb7 hna nok => ?_⟩
  have k57 := (k6.trans (Keep.of (Same.new hq6))).trans k7
  have kC := (kB.trans (Keep.of s5)).trans k57
  have hD7 : H7 D = some (.lst []) := k57 _ _ upd_same fun i j z => by cases z
  have hD0 : H D = none := kB.dom _ hD
  have hwa7 := lst_keep ((Keep.of s5).trans k57) hwa4
  have hma7 := lst_keep ((Keep.of s5).trans k57) hma
  have bD : b ≠ D := hb4.ne hD
  have waD : wa ≠ D := fun z => by rw [z, hD] at hwa4; cases hwa4
  have maD : ma ≠ D := fun z => by rw [z, hD] at hma; cases hma
  have naD : na ≠ D := fun z => by
    rw [z, hD7] at hna
    have := nok.1
    cases names with
    | nil => simp at this; omega
    | cons a l => simp at hna
  refine ⟨na, rfl, ⟨_, SqL.of hna⟩, for_list (xs := names.map V.str) (fun i σ H' => Keep H H' ∧ IsBag H' b ∧ H' wa = some (.lst (cols.map V.str)) ∧ H' ma = some (.lst (marks.map V.str)) ∧ H' na = some (.lst (names.map V.str)) ∧ ∃ (xs : List V) (ds : List DeedD), H' D = some (.lst xs) ∧ Paired (IsDeedRow (Hide D H')) xs ds ∧ ds.map DeedD.name = names.take i ∧ (∀ d ∈ ds, DrawnD cols marks d) ∧ ∃ z7 z8, σ = [some (.ref b), some (.int 3), some (.int 4), some (.int 6), some (.ref wa), some (.ref ma), some (.ref D), z7, z8]) ⟨kC, hb7, hwa7, hma7, hna, [], [], hD7, .nil, rfl, (fun d hd => by cases hd), _, _, rfl⟩ (fun i σ H' _ q => SqL.of q.2.2.2.2.1) (fun i x σ H8 hx q => ?_) (fun σ H8 q => ?_)⟩
  · obtain ⟨k8, hb8, hwa8, hma8, hna8, xs, ds, hxs, pr, en, dr, z7, z8, rfl⟩ := q
    obtain ⟨nm, hnm, rfl⟩ := strs_ix hx
    have ld : ds.length ≤ 6 := by
      have := congrArg List.length en
      rw [List.length_map, List.length_take] at this
      have := nok.1
      omega
    have lx : xs.length ≤ 6 := by rw [paired_len pr]; exact ld
    have sub : Paired (IsDeedRow H8) xs ds := paired_mono IsDeedRow.stays hide_sub pr
    have nint : ∀ {G G' : Hp}, Keep G G' → G D = some (.lst xs) → G' D = some (.lst xs) := fun kk e => kk _ _ e fun i j z => by
      cases z
      cases sub with
      | cons h _ => exact IsDeedRow.stays.noint h i rfl
    refine ⟨D, xs, rfl, rfl, hxs, hb8, fun kd H9 k9 hb9 hkd => ?_⟩
    have hD9 := nint k9 hxs
    refine ⟨_, rfl, .inl ⟨rfl, _, SqL.of hD9⟩, _, rfl, _, rfl, _, rfl, _, rfl, _, rfl, ?_⟩
    refine ⟨b, wa, ma, kd, nm, cols, marks, rfl, hb9, lst_keep k9 hwa8, lst_keep k9 hma8, by have := cok.1; omega, ?_, by have := mok.1; omega, hkd, fun v d HA kA' hbA hrow hdr e1 e2 => ?_⟩
    · intro z
      have := mok.1
      rw [z] at this
      simp at this
      omega
    have hDA := nint kA' hD9
    refine ⟨D, xs, v, rfl, rfl, hDA, Nat.lt_of_le_of_lt lx (by decide), ?_⟩
    have k8A := k9.trans kA'
    refine ⟨keep_mut (k8.trans k8A) hD0, hbA.off bD, by rw [upd_ne waD]; exact lst_keep k8A hwa8, by rw [upd_ne maD]; exact lst_keep k8A hma8, by rw [upd_ne naD]; exact lst_keep k8A hna8, xs ++ [v], ds ++ [d], upd_same, ?_, ?_, fun d' hd' => ?_, _, _, rfl⟩
    · refine paired_snoc (paired_mono IsDeedRow.stays ((hide_core (k9.trans kA').core).trans hide_upd) pr) (IsDeedRow.stays.mono hrow ((fresh_hide hD9).trans hide_upd))
    · rw [List.map_append, en, take_snoc hnm]
      show _ ++ [d.name] = _
      rw [e2]
    · rcases List.mem_append.mp hd' with z | z
      · exact dr d' z
      · rw [List.mem_singleton.mp z]; exact hdr
  · obtain ⟨k8, hb8, hwa8, hma8, hna8, xs, ds, hxs, pr, en, dr, z7, z8, rfl⟩ := q
    rw [List.length_map, List.take_length] at en
    have sub : Paired (IsDeedRow H8) xs ds := paired_mono IsDeedRow.stays hide_sub pr
    have nint : ∀ {G G' : Hp}, Keep G G' → G D = some (.lst xs) → G' D = some (.lst xs) := fun kk e => kk _ _ e fun i j z => by
      cases z
      cases sub with
      | cons h _ => exact IsDeedRow.stays.noint h i rfl
    refine ⟨_, rfl, _, rfl, _, rfl, by show 5 ≤ sizeLine; decide, fun q9 hq9 => ⟨b, q9, _, rfl, hb8.same (Same.new hq9), upd_same, List.cons_ne_nil _ _, by show 5 ≤ 1000; decide, (fun i j z => by cases z), fun v H9 k9 hb9 hv => ⟨by show 3 ≤ sizeLine; decide, fun p hp => ?_⟩⟩⟩
    obtain ⟨kp, rfl, kok⟩ : ∃ kp : Option Int, v = keepV kp ∧ keepOk kp := by
      simp only [List.mem_cons, List.not_mem_nil, or_false] at hv
      rcases hv with rfl | rfl | rfl | rfl | rfl
      · exact ⟨none, rfl, True.intro⟩
      · exact ⟨none, rfl, True.intro⟩
      · exact ⟨some 1, rfl, by decide, by decide⟩
      · exact ⟨some 2, rfl, by decide, by decide⟩
      · exact ⟨some 3, rfl, by decide, by decide⟩
    have kk : Keep H8 (upd H9 p (.tup [.ref wa, .ref D, keepV kp])) := ((Keep.of (Same.new hq9)).trans k9).trans (Keep.of (Same.new hp))
    refine k _ ⟨cols, ds, kp⟩ marks _ (k8.trans kk) (hb9.same (Same.new hp)) ⟨p, .ref wa, .ref D, rfl, upd_same, ⟨wa, rfl, lst_keep kk hwa8⟩, D, xs, rfl, nint kk hxs, paired_mono IsDeedRow.stays kk.core sub⟩ ⟨⟨n1, by omega, cok⟩, ⟨1 + n3, by omega, mok⟩, ⟨1 + n6, by omega, ?_⟩, dr, kok⟩
    show NamesOk [] (ds.map DeedD.name) (1 + n6)
    rw [en]
    exact nok
end
end Pn

-- PnN5
set_option
      maxHeartbeats 4000000
namespace Pn
open PySem PySem.Spec L2 PyProof.Rows StX ClX
def NoteFit (nt : Option NoteD) : Prop := ∀ n, nt = some n → (∀ z ∈ n.old, NameOk z) ∧ n.old.Nodup ∧ n.old.length ≤ 4 ∧ (∀ z ∈ n.new, NameOk z) ∧ n.new.Nodup ∧ n.new.length ≤ 4
def NoteSim : Option NoteD → Option NoteD → Prop
  | none, none => True
  | some n, some m => m.old.Perm n.old ∧ m.new.Perm n.new ∧ m.named = n.named ∧ m.changed = n.changed
  | _, _ => False
structure DeedFit (d : DeedD) : Prop where
  nm : NameOk d.name
  kd : (d.kind = "make" ∧ (∃ t, NameOk t ∧ d.moves = [(("" : Str), t)]) ∧ d.own = []) ∨ (d.kind = "end" ∧ (∃ ss : List Str, (∀ z ∈ ss, NameOk z) ∧ ss.Nodup ∧ ss.length ≤ 4 ∧ d.moves = ss.map fun z => (z, ("" : Str))) ∧ d.own = []) ∨
    (d.kind = "change" ∧ (∀ m ∈ d.moves, NameOk m.1 ∧ NameOk m.2) ∧ (d.moves.map (·.1)).Nodup ∧ d.moves.length ≤ 4 ∧ (∀ z ∈ d.own, NameOk z) ∧ d.own.Nodup ∧ d.own.length ≤ 3)
  note : NoteFit d.note
structure DeedSim (d e : DeedD) : Prop where
  kind : e.kind = d.kind
  name : e.name = d.name
  moves : e.moves.Perm d.moves
  own : e.own.Perm d.own
  note : NoteSim d.note e.note
section
variable {P : Program} {w : World} {K : PySem.W.Frag}
      {mg : Str → Option Value} {base : Heap}
def r_note (K : PySem.W.Frag) : RC := fun vs zs H Q => ∃ (o1 o2 : Addr) (n : NoteD), vs = [] ∧ zs = [.ref o1, .ref o2, .bl n.named, .bl n.changed] ∧ H o1 = some (.lst (n.old.map V.str)) ∧ H o2 = some (.lst (n.new.map V.str)) ∧ NoteFit (some n) ∧
  ∀ (v' : V) (H' : Hp) (m : NoteD), Same H H' → IsNote K H' v' (some m) → NoteSim (some n) (some m) → Q v' H'
theorem ok_note (T : Tx K mg) : CallP P w K mg base false 5 (He.ga K "Note") ["old", "new", "named", "changed"] (r_note K) := by
  refine (call_cls T.k_Note (ok_ninit T)).imp fun vs zs H Q h => ?_
  obtain ⟨o1, o2, n, rfl, rfl, h1, h2, nf, k⟩ := h
  obtain ⟨a1, a2, a3, a4, a5, a6⟩ := nf n rfl
  intro x dx hx hd hne
  have up := made_up (C := He.ga K "Note") hx hd
  exact ⟨x, dx, o1, o2, n, rfl, rfl, upd_same, up _ _ h1, up _ _ h2, a1, a2, a3, a4, a5, a6, fun H' old' new' p1 p2 off hh => ⟨rfl, k _ _ _ (made_same hx hd off) hh ⟨p1, p2, rfl, rfl⟩⟩⟩
def r_lnoteof (K : PySem.W.Frag) : RC := fun vs _ H Q => ∃ (v : V) (nt : Option NoteD), vs = [v] ∧ IsNoteRow H v nt ∧ NoteFit nt ∧ ∀ (v' : V) (H' : Hp) (m : Option NoteD), Same H H' → IsNote K H' v' m → NoteSim nt m → Q v' H'
theorem ok_l_note_of (T : Tx K mg) : Cal P w K mg base false 6 "_law_note_of" (r_lnoteof K) := by
  refine cal_at T.d_l_note_of T.g_l_note_of sc_l_note_of (fun vs H Q h => by obtain ⟨_, _, rfl, _⟩ := h; rfl) (fun _ _ _ _ _ _ us hl => match us, hl with | [_], _ => rfl) fun cdv A outer s H vs Q hr _ h => ?_
  obtain ⟨v, nt, rfl, hn, nf, k⟩ := h
  refine ⟨_, (pss_cons (ps_if (pt_cmp (pc_isN (pv 0))) (pss_one (ps_ret pe_non)) pss_nil)
    (pss_one (ps_ret (pe_callP0 (ok_note T) (hr.mono (by decide)) Gd.no T.k_Note.kp (pe_go T.g_Note rfl) (pk_cons (pe_callTy call_list_of rfl T.f_list boot_list (pa_cons (pe_ix ix_tup (pv 0) pe_int (fun _ _ => rfl)) pa_nil)) (pk_cons (pe_callTy call_list_of rfl T.f_list boot_list (pa_cons (pe_ix ix_tup (pv 0) pe_int (fun _ _ => rfl)) pa_nil)) (pk_cons (pe_ix ix_tup (pv 0) pe_int (fun _ _ => rfl)) (pk_cons (pe_ix ix_tup (pv 0) pe_int (fun _ _ => rfl)) pk_nil)))))))), ?_⟩
  cases nt with
  | none =>
    obtain rfl : v = .non := hn
    exact ⟨_, rfl, true, rfl, k .non H none (Same.refl H) rfl True.intro⟩
  | some n =>
    obtain ⟨a, x, y, rfl, ha, ⟨p1, rfl, h1⟩, p2, rfl, h2⟩ := hn
    refine ⟨_, rfl, false, rfl, rfl, ?_⟩
    refine ⟨_, rfl, a, _, 0, _, rfl, rfl, SqT.of ha, rfl, p1, _, rfl, .inl (SqL.of h1), fun q1 hq1 => ?_⟩
    have s1 := Same.new (o := .lst (n.old.map V.str)) hq1
    refine ⟨_, rfl, a, _, 1, _, rfl, rfl, SqT.of (s1 _ _ ha), rfl, p2, _, rfl, .inl (SqL.of (s1 _ _ h2)), fun q2 hq2 => ?_⟩
    have s2 := Same.new (o := .lst (n.new.map V.str)) hq2
    have ha2 := s2 _ _ (s1 _ _ ha)
    refine ⟨_, rfl, a, _, 2, _, rfl, rfl, SqT.of ha2, rfl, _, rfl, a, _, 3, _, rfl, rfl, SqT.of ha2, rfl, rfl, q1, q2, n, rfl, rfl, s2 _ _ upd_same, upd_same, nf, fun v' H' m s3 hm sim => k v' H' (some m) ((s1.trans s2).trans s3) hm sim⟩
def r_ldeedof (K : PySem.W.Frag) : RC := fun vs _ H Q => ∃ (v : V) (d : DeedD), vs = [v] ∧ IsDeedRow H v d ∧ DeedFit d ∧ ∀ (v' : V) (H' : Hp) (e : DeedD), Same H H' → IsDeed K H' v' e → DeedSim d e → Q v' H'
theorem ok_l_deed_of (T : Tx K mg) (Z : Tz K) (S : Ts P K) : Cal P w K mg base false 7 "_law_deed_of" (r_ldeedof K) := by
  refine cal_at T.d_l_deed_of T.g_l_deed_of sc_l_deed_of (fun vs H Q h => by obtain ⟨_, _, rfl, _⟩ := h; rfl) (fun _ _ _ _ _ _ us hl => match us, hl with | [_], _ => rfl) fun cdv A outer s H vs Q hr _ h => ?_
  have G_l_note_of := ok_l_note_of (P := P) (w := w) (base := base) T
  obtain ⟨v, d, rfl, hd, fit, k⟩ := h
  refine ⟨_, (pss_cons (ps_asg (pv 0) (pg_tup rfl (pgs_cons (pg_name (i := 1) sc_l_deed_of.nd rfl (Or.inl rfl)) (pgs_cons (pg_name (i := 2) sc_l_deed_of.nd rfl (Or.inl rfl)) (pgs_cons (pg_name (i := 3) sc_l_deed_of.nd rfl (Or.inl rfl)) (pgs_cons (pg_name (i := 4) sc_l_deed_of.nd rfl (Or.inl rfl)) (pgs_cons (pg_name (i := 5) sc_l_deed_of.nd rfl (Or.inl rfl)) pgs_nil)))))))
    (pss_cons (ps_if (pt_cmpR op_eq (pv 1) pe_str (nomark _)) (pss_one (ps_ret (pe_callP (ok_make T Z S) (hr.mono (by decide)) Gd.no T.k_Make.kp (pe_go T.g_Make rfl) (pa_cons (pv 2) (pa_cons (pe_ix ix_tup (pe_ix ix_list (pv 3) pe_int (fun _ _ => rfl)) pe_int (fun _ _ => rfl)) pa_nil)) (pk_cons (pe_cl G_l_note_of hr (by decide) Gd.no rfl (pa_cons (pv 5) pa_nil)) pk_nil)))) pss_nil)
    (pss_cons (ps_if (pt_cmpR op_eq (pv 1) pe_str (nomark _)) (pss_one (ps_ret (pe_cmP (ok_enof T Z S) (hr.mono (by decide)) Gd.no T.r_End T.cm_End_of (pe_go T.g_End rfl) (pa_cons (pv 2) (pa_cons (pe_lc (own := [("_law_move", 6)]) rfl sc_l_deed_of.nd (pi_list (pv 3)) (blkOk_by rfl) (fun _ _ _ _ _ => pg_name (i := 6) sc_l_deed_of.nd rfl (Or.inl rfl)) (fun _ _ _ _ _ => pts_nil) (fun _ _ _ _ _ => (pe_ix (show IxR _ (rIxT K) from ix_tup) (pv 6) pe_int (fun _ _ => rfl)))) pa_nil)) (pk_cons (pe_cl G_l_note_of hr (by decide) Gd.no rfl (pa_cons (pv 5) pa_nil)) pk_nil)))) pss_nil)
    (pss_one (ps_ret (pe_cmP (ok_chof T Z S) (hr.mono (by decide)) Gd.no T.r_Change T.cm_Change_of (pe_go T.g_Change rfl) (pa_cons (pv 2) (pa_cons (pe_callTy call_list_of rfl T.f_list boot_list (pa_cons (pv 3) pa_nil)) pa_nil)) (pk_cons (pe_callTy call_list_of rfl T.f_list boot_list (pa_cons (pv 4) pa_nil)) (pk_cons (pe_cl G_l_note_of hr (by decide) Gd.no rfl (pa_cons (pv 5) pa_nil)) pk_nil)))))))), ?_⟩
  obtain ⟨a, mv, ow, nv, rfl, ha, ⟨ma, xs, rfl, hma, pm⟩, ⟨oa, rfl, hoa⟩, hnv⟩ := hd
  refine ⟨_, rfl, a, _, rfl, SqT.of ha, rfl, _, _, rfl, _, _, rfl, _, _, rfl, _, _, rfl, _, _, rfl, rfl, ?_⟩
  refine ⟨_, rfl, rfl, decide (V.str d.kind = V.str "make"), rfl, ?_⟩
  obtain ⟨nmk, kd, nf⟩ := fit
  rcases kd with ⟨ek, ⟨t, ht, em⟩, eo⟩ | ⟨ek, ⟨ss, sn, snd, sl, em⟩, eo⟩ | ⟨ek, mn, mnd, ml, on, ond, ol⟩
  · -- make
    rw [decide_eq_true (by rw [ek] : V.str d.kind = V.str "make")]
    rw [em] at pm
    cases pm with
    | cons hm pm =>
    cases pm
    obtain ⟨t0, rfl, ht0⟩ := hm
    refine ⟨rfl, _, rfl, _, rfl, ma, _, 0, .ref t0, rfl, rfl, SqL.of hma, rfl, t0, _, 1, _, rfl, rfl, SqT.of ht0, rfl, ?_⟩
    refine ⟨_, rfl, nv, d.note, rfl, hnv, nf, fun v' H1 m s1 hm sim => ?_⟩
    refine ⟨rfl, d.name, t, v', m, rfl, rfl, nmk, ht, hm, fun v2 H2 s2 hd2 => k v2 H2 _ (s1.trans s2) hd2 ⟨ek.symm, rfl, ?_, ?_, sim⟩⟩
    · rw [em]
    · rw [eo]
  · -- end
    rw [decide_eq_false (fun z => by injection z with z; rw [ek] at z; exact absurd z (by decide) : ¬V.str d.kind = V.str "make")]
    refine ⟨_, rfl, rfl, decide (V.str d.kind = V.str "end"), rfl, ?_⟩
    rw [decide_eq_true (by rw [ek] : V.str d.kind = V.str "end")]
    refine ⟨rfl, _, rfl, _, rfl, ma, rfl, ⟨_, SqL.of hma⟩, fun D hD => lc_list (vs := [6]) (xs := xs) (fun i H' => Same H H' ∧ H' D = some (.lst ((d.moves.take i).map fun m => V.str m.1))) ⟨Same.new hD, upd_same⟩ (fun i H' _ q => SqL.of (q.1 _ _ hma)) (fun i x H' hx q => ?_) (fun H1 q => ?_)⟩
    · obtain ⟨sm, hDD⟩ := q
      obtain ⟨m, hm, ⟨t0, rfl, ht0⟩⟩ := paired_at pm hx
      refine ⟨rfl, _, rfl, t0, _, 0, _, rfl, rfl, SqT.of (sm _ _ ht0), rfl, _, hDD, ?_, same_mut sm hD, ?_⟩
      · rw [List.length_map,
            List.length_take]
        have : d.moves.length = ss.length := by rw [em, List.length_map]
        exact Nat.lt_of_le_of_lt (by omega : _ ≤ 4) (by decide)
      · rw [upd_same, take_snoc hm, List.map_append]
        rfl
    · obtain ⟨sm, hDD⟩ := q
      rw [paired_len pm, List.take_length] at hDD
      have e1 : (d.moves.map fun m => V.str m.1) = ss.map V.str := by
        rw [em, List.map_map]; rfl
      rw [e1] at hDD
      refine ⟨_, rfl, nv, d.note, rfl, IsNoteRow.stays.mono hnv (Core.of sm), nf, fun v' H2 m s2 hm sim => ?_⟩
      refine ⟨rfl, d.name, D, ss, v', m, rfl, rfl, s2 _ _ hDD, nmk, sn, snd, sl, hm, fun v3 H3 ms' hp s3 hd3 => k v3 H3 _ ((sm.trans s2).trans s3) hd3 ⟨ek.symm, rfl, ?_, ?_, sim⟩⟩
      · rw [em]; exact hp
      · rw [eo]
  · -- change
    rw [decide_eq_false (fun z => by injection z with z; rw [ek] at z; exact absurd z (by decide) : ¬V.str d.kind = V.str "make")]
    refine ⟨_, rfl, rfl, decide (V.str d.kind = V.str "end"), rfl, ?_⟩
    rw [decide_eq_false (fun z => by injection z with z; rw [ek] at z; exact absurd z (by decide) : ¬V.str d.kind = V.str "end")]
    refine ⟨rfl, _, rfl, _, rfl, ma, _, rfl, .inl (SqL.of hma), fun q1 hq1 => ?_⟩
    have s1 := Same.new (o := .lst xs) hq1
    refine ⟨_, rfl, oa, _, rfl, .inl (SqL.of (s1 _ _ hoa)), fun q2 hq2 => ?_⟩
    have s2 := Same.new (o := .lst (d.own.map V.str)) hq2
    have s12 := s1.trans s2
    refine ⟨_, rfl, nv, d.note, rfl, IsNoteRow.stays.mono hnv (Core.of s12), nf, fun v' H3 m s3 hm sim => ?_⟩
    refine ⟨rfl, d.name, .ref q1, q2, v', d.moves, d.own, m, rfl, rfl, nmk, ⟨q1, xs, rfl, s3 _ _ (s2 _ _ upd_same), paired_mono IsMove.stays (Core.of (s12.trans s3)) pm⟩, mn, mnd, ml, s3 _ _ upd_same, on, ond, ol, hm, fun v4 H4 ms' own' h1 h2 s4 hd4 => k v4 H4 _ ((s12.trans s3).trans s4) hd4 ⟨ek.symm, rfl, h1, h2, sim⟩⟩
end
end Pn

-- PnN6
set_option
      maxHeartbeats 4000000
namespace Pn
open PySem PySem.Spec L2 PyProof.Rows StX ClX LamX
theorem state_name : NameOk "state" := ⟨by decide, by decide, by decide⟩
theorem sub_nodup {α : Type} {l m : List α} (h : l.Sublist m) (n : m.Nodup) : l.Nodup := List.Sublist.nodup h n
/-- what the law draws fits -/
theorem drawn_fit {D : DataD} {marks : List Str} (ok : DataOk D marks) {d : DeedD} (hd : d ∈ D.deeds) : DeedFit d ∧ WdOk D.cols d ∧ MovesIn marks d := by
  obtain ⟨nc, c3, cl, cnd, cok⟩ := ok.cls
  obtain ⟨nm, m4, ml, mnd, mok⟩ := ok.mks
  obtain ⟨nn, n6, nl, nnd, nok⟩ := ok.nms
  have dr := ok.drawn d hd
  have nmk : NameOk d.name := (nok _ (List.mem_map_of_mem hd)).1
  have stc : ("state" : Str) ∉ D.cols := fun z => (cok _ z).2 (List.mem_cons_self ..)
  -- the words of the note
  have note : ∀ own : List Str, own.Sublist D.cols → NoteIn ("state" :: own) d.note → NoteFit d.note ∧ ∀ n, d.note = some n → (∀ c ∈ n.old ++ n.new, c = "state" ∨ c ∈ own) ∧ n.old.length ≤ 4 ∧ n.new.length ≤ 4 := by
    intro own hs hn
    have o1 : ("state" :: own : List Str).Nodup := List.nodup_cons.mpr ⟨fun z => stc (hs.subset z), sub_nodup hs cnd⟩
    have o2 : ∀ z ∈ ("state" :: own : List Str), NameOk z := fun z hz => by
      rcases List.mem_cons.mp hz with e | e
      · rw [e]; exact state_name
      · exact (cok z (hs.subset e)).1
    have o3 : ("state" :: own : List Str).length ≤ 4 := by
      have := hs.length_le
      show own.length + 1 ≤ 4
      omega
    refine ⟨fun n en => ?_, fun n en => ?_⟩ <;> obtain ⟨h1, h2⟩ := hn n en
    · exact ⟨fun z hz => o2 z (h1.subset hz), sub_nodup h1 o1, Nat.le_trans h1.length_le o3, fun z hz => o2 z (h2.subset hz), sub_nodup h2 o1, Nat.le_trans h2.length_le o3⟩
    · refine ⟨fun c hc => ?_, Nat.le_trans h1.length_le o3, Nat.le_trans h2.length_le o3⟩
      rcases List.mem_append.mp hc with z | z
      · exact List.mem_cons.mp (h1.subset z)
      · exact List.mem_cons.mp (h2.subset z)
  rcases dr.kd with ⟨ek, ⟨t, ht, em⟩, eo⟩ | ⟨ek, ⟨ss, hss, em⟩, eo⟩ | ⟨ek, hm1, hm2, ho⟩
  · have hn := dr.note
    rw [if_neg (by rw [ek]; decide)] at hn
    obtain ⟨n1, n2⟩ := note D.cols (List.Sublist.refl _) hn
    refine ⟨⟨nmk, .inl ⟨ek, ⟨t, (mok t ht).1, em⟩, eo⟩, n1⟩, ⟨(fun c hc => by rw [eo] at hc; cases hc), fun n en => ⟨fun c hc => ((n2 n en).1 c hc).imp id fun z => ⟨z, fun q => by rw [ek] at q; exact absurd q (by decide)⟩, (n2 n en).2⟩⟩, by rw [em]; show 1 ≤ 4; decide, fun m hm => ?_⟩
    rw [em, List.mem_singleton] at hm
    rw [hm]
    exact ⟨.inl rfl, .inr ht⟩
  · have hn := dr.note
    rw [if_neg (by rw [ek]; decide)] at hn
    obtain ⟨n1, n2⟩ := note D.cols (List.Sublist.refl _) hn
    have l4 : ss.length ≤ 4 := by have := hss.length_le; omega
    refine ⟨⟨nmk, .inr (.inl ⟨ek, ⟨ss, fun z hz => (mok z (hss.subset hz)).1, sub_nodup hss mnd, l4, em⟩, eo⟩), n1⟩, ⟨(fun c hc => by rw [eo] at hc; cases hc), fun n en => ⟨fun c hc => ((n2 n en).1 c hc).imp id fun z => ⟨z, fun q => by rw [ek] at q; exact absurd q (by decide)⟩, (n2 n en).2⟩⟩, by rw [em, List.length_map]; exact l4, fun m hm => ?_⟩
    rw [em] at hm
    obtain ⟨z, hz, rfl⟩ := List.mem_map.mp hm
    exact ⟨.inr (hss.subset hz), .inl rfl⟩
  · have hn := dr.note
    rw [if_pos ek] at hn
    obtain ⟨n1, n2⟩ := note d.own ho hn
    have l4 : d.moves.length ≤ 4 := by
      have := hm1.length_le
      rw [List.length_map] at this
      omega
    have mem1 : ∀ m ∈ d.moves, m.1 ∈ marks := fun m hm => hm1.subset (List.mem_map_of_mem hm)
    exact ⟨⟨nmk, .inr (.inr ⟨ek, fun m hm => ⟨(mok _ (mem1 m hm)).1, (mok _ (hm2 m hm)).1⟩, sub_nodup hm1 mnd, l4, fun z hz => (cok z (ho.subset hz)).1, sub_nodup ho cnd, by have := ho.length_le; omega⟩), n1⟩,
      ⟨fun c hc => ho.subset hc, fun n en => ⟨fun c hc => ((n2 n en).1 c hc).imp id fun z => ⟨ho.subset z, fun _ => z⟩, (n2 n en).2⟩⟩, l4, fun m hm => ⟨.inr (mem1 m hm), .inr (hm2 m hm)⟩⟩
theorem sim_wd {cols : List Str} {d e : DeedD} (s : DeedSim d e) (h : WdOk cols d) : WdOk cols e := by
  obtain ⟨w1, w2⟩ := h
  refine ⟨fun c hc => w1 c (s.own.mem_iff.mp hc), fun n en => ?_⟩
  have sn := s.note
  rw [en] at sn
  cases q : d.note with
  | none => rw [q] at sn; exact sn.elim
  | some m =>
    rw [q] at sn
    obtain ⟨p1, p2, _, _⟩ := sn
    obtain ⟨a, b, c⟩ := w2 m q
    refine ⟨fun x hx => ?_, by rw [p1.length_eq]; exact b, by rw [p2.length_eq]; exact c⟩
    have hx' : x ∈ m.old ++ m.new := by
      rcases List.mem_append.mp hx with z | z
      · exact List.mem_append_left _ (p1.mem_iff.mp z)
      · exact List.mem_append_right _ (p2.mem_iff.mp z)
    refine (a x hx').imp id fun z => ⟨z.1, fun hk => s.own.mem_iff.mpr (z.2 ?_)⟩
    rw [← s.kind]; exact hk
theorem sim_moves {marks : List Str} {d e : DeedD} (s : DeedSim d e) (h : MovesIn marks d) : MovesIn marks e :=
  ⟨by rw [s.moves.length_eq]; exact h.1, fun m hm => h.2 m (s.moves.mem_iff.mp hm)⟩
theorem IsNote.nl {K : PySem.W.Frag} {H H' : Hp} {v : V} {n : Option NoteD} (h : IsNote K H v n) (c : NL H H') : IsNote K H' v n := by
  cases n with
  | none => exact h
  | some n =>
    obtain ⟨a, dx, x, y, e, q, ⟨p1, e1, h1⟩, p2, e2, h2⟩ := h
    exact ⟨a, dx, x, y, e, c _ _ q True.intro, ⟨p1, e1, SqT.nl h1 c⟩, p2, e2, SqT.nl h2 c⟩
theorem IsDeed.nl {K : PySem.W.Frag} {H H' : Hp} {v : V} {d : DeedD} (h : IsDeed K H v d) (c : NL H H') : IsDeed K H' v d := by
  obtain ⟨a, dx, m, cc, z, e, q, ⟨p1, xs, e1, h1, pm⟩, ⟨p2, e2, h2⟩, hn⟩ := h
  exact ⟨a, dx, m, cc, z, e, c _ _ q True.intro, ⟨p1, xs, e1, SqT.nl h1 c, paired_imp (fun _ _ h => IsMove.nl h c) pm⟩, ⟨p2, e2, SqT.nl h2 c⟩, IsNote.nl hn c⟩
/-- the book that is made of the data -/
structure BookSim (D b : DataD) : Prop where
  cols : b.cols.Perm D.cols
  deeds : ∃ ds, Paired DeedSim D.deeds ds ∧ b.deeds.Perm ds
  keep : b.keep = D.keep
section
variable {P : Program} {w : World} {K : PySem.W.Frag} {mg : Str → Option Value} {base : Heap} {TL : List (Addr × Str)}
def r_lbook (K : PySem.W.Frag) (TL : List (Addr × Str)) : RC := fun vs _ H Q => ∃ (v : V) (D : DataD) (marks : List Str), vs = [v] ∧ IsData H v D ∧ DataOk D marks ∧ Tabs TL H ∧ ∀ (v' : V) (H' : Hp) (b : DataD), ExtN H H' → Tabs TL H' → IsBook K H' v' b → BookSim D b → Q v' H'
theorem ok_l_book (T : Tx K mg) (Z : Tz K) (S : Ts P K) (L : Tl K mg base TL) : Cal P w K mg base false 8 "_law_book" (r_lbook K TL) := by
  refine cal_at T.d_l_book T.g_l_book sc_l_book (fun vs H Q h => by obtain ⟨_, _, _, rfl, _⟩ := h; rfl) (fun _ _ _ _ _ _ us hl => match us, hl with | [_], _ => rfl) fun cdv A outer s H vs Q hr _ h => ?_
  have G_l_deed_of := ok_l_deed_of (P := P) (w := w) (base := base) T Z S
  obtain ⟨v, D, marks, rfl, hd, ok, hT, k⟩ := h
  refine ⟨_, (pss_one (ps_ret (pe_cmP (ok_bof T Z L) (hr.mono (by decide)) Gd.no T.r_Book T.cm_Book_of (pe_go T.g_Book rfl) (pa_cons (pe_callTy call_list_of rfl T.f_list boot_list (pa_cons (pe_ix ix_tup (pv 0) pe_int (fun _ _ => rfl)) pa_nil)) (pa_cons (pe_lc (own := [("_law_row_here", 1)]) rfl sc_l_book.nd (pi_list (pe_ix ix_tup (pv 0) pe_int (fun _ _ => rfl))) (blkOk_by rfl) (fun _ _ _ _ _ => pg_name (i := 1) sc_l_book.nd rfl (Or.inl rfl)) (fun _ _ _ _ _ => pts_nil) (fun _ _ _ _ _ => (pe_cl (show Cal _ _ _ _ _ _ _ _ (r_ldeedof K) from G_l_deed_of) hr (by decide) Gd.no rfl (pa_cons (pv 1) pa_nil)))) pa_nil)) (pk_cons (pe_ix ix_tup (pv 0) pe_int (fun _ _ => rfl)) pk_nil)))), ?_⟩
  obtain ⟨a, x, y, rfl, ha, ⟨ca, rfl, hca⟩, da, xs, rfl, hda, pr⟩ := hd
  obtain ⟨nc, c3, cl, cnd, cok⟩ := ok.cls
  obtain ⟨nn, n6, nl, nnd, nok⟩ := ok.nms
  have dl : D.deeds.length ≤ 6 := by rw [List.length_map] at nl; omega
  refine ⟨rfl, _, rfl, a, _, 0, _, rfl, rfl, SqT.of ha, rfl, ca, _, rfl, .inl (SqL.of hca), fun q1 hq1 => ?_⟩
  have s1 := Same.new (o := .lst (D.cols.map V.str)) hq1
  have hda1 := s1 _ _ hda
  refine ⟨_, rfl, a, _, 1, _, rfl, rfl, SqT.of (s1 _ _ ha), rfl, da, rfl, ⟨_, SqL.of hda1⟩, fun E hE => lc_list (vs := [1]) (xs := xs) (fun i H' => Same (upd H q1 (.lst (D.cols.map V.str))) H' ∧ ∃ (ys : List V) (es : List DeedD), H' E = some (.lst ys) ∧ Paired (IsDeed K H') ys es ∧ Paired DeedSim (D.deeds.take i) es) ⟨Same.new hE, [], [], upd_same, .nil, .nil⟩ (fun i H' _ q => SqL.of (q.1 _ _ hda1)) (fun i x H' hx q => ?_) (fun H2 q => ?_)⟩
  · obtain ⟨sm, ys, es, hys, py, ps⟩ := q
    obtain ⟨d, hd, hrow⟩ := paired_at pr hx
    obtain ⟨fit, _, _⟩ := drawn_fit ok (List.mem_of_getElem? hd)
    have le : ys.length ≤ 6 := by
      rw [paired_len py, ← paired_len ps, List.length_take]
      omega
    refine ⟨rfl, _, rfl, x, d, rfl, IsDeedRow.stays.mono hrow (Core.of (s1.trans sm)), fit, fun v' H3 e s3 hde sim => ?_⟩
    have hys3 := s3 _ _ hys
    have nl3 : NL H3 (upd H3 E (.lst (ys ++ [v']))) := NL.mut hys3
    have dnl : ∀ {u : V} {f : DeedD}, IsDeed K H3 u f → IsDeed K (upd H3 E (.lst (ys ++ [v']))) u f := fun {u f} h => IsDeed.nl h nl3
    refine ⟨_, hys3, Nat.lt_of_le_of_lt le (by decide), same_mut (sm.trans s3) hE, ys ++ [v'], es ++ [e], upd_same, paired_snoc (paired_imp (fun _ _ h => dnl h) (paired_mono IsDeed.stays (Core.of s3) py)) (dnl hde), ?_⟩
    rw [take_snoc hd]
    exact paired_snoc ps sim
  · obtain ⟨sm, ys, es, hys, py, ps⟩ := q
    rw [paired_len pr, List.take_length] at ps
    have s2 := s1.trans sm
    have names : (es.map DeedD.name) = D.deeds.map DeedD.name := by
      have go : ∀ {l m : List DeedD}, Paired DeedSim l m → m.map DeedD.name = l.map DeedD.name := by
        intro l m h
        induction h with
        | nil => rfl
        | cons h _ ih => rw [List.map_cons, List.map_cons, ih, h.name]
      exact go ps
    have all : ∀ e ∈ es, WdOk D.cols e ∧ MovesIn marks e := fun e he => by
      obtain ⟨j, hj, ej⟩ := List.mem_iff_getElem.mp he
      obtain ⟨d, hd, sim⟩ := paired_at' ps (i := j) (y := e) (by rw [List.getElem?_eq_getElem hj, ej])
      obtain ⟨_, w1, w2⟩ := drawn_fit ok (List.mem_of_getElem? hd)
      exact ⟨sim_wd sim w1, sim_moves sim w2⟩
    refine ⟨_, rfl, a, _, 2, _, rfl, rfl, SqT.of (s2 _ _ ha), rfl, rfl, q1, E, ys, D.cols, marks, es, D.keep, rfl, rfl, sm _ _ upd_same, ?_, cnd, by omega, hys, py, ?_, by rw [← paired_len ps]; exact dl, all, ?_, ok.keep, hT.ext s2, fun v' H' cols' ds' eN hT' p1 p2 hb => ?_⟩
    · intro z hz
      have h := cok z hz
      simp only [List.mem_cons, List.not_mem_nil, or_false, not_or] at h
      exact h
    · show (es.map DeedD.name).Nodup
      rw [names]; exact nnd
    · obtain ⟨nm, m4, mll, _, _⟩ := ok.mks
      omega
    · exact k v' H' _ ((ExtN.of s2).trans eN) hT' hb ⟨p1, ⟨es, ps, p2⟩, rfl⟩
end
end Pn

-- PnN7
set_option
      maxHeartbeats 4000000
namespace Pn
open PySem PySem.Spec L2 PyProof.Rows StX ClX
section
variable {P : Program} {w : World} {K : PySem.W.Frag}
      {mg : Str → Option Value} {base : Heap}
theorem ok_l_state (T : Tx K mg) : Cal P w K mg base false 1 "_law_state" r_state_of := by
  refine cal_at T.d_l_state T.g_l_state sc_l_state (fun vs H Q h => by obtain ⟨_, _, rfl, _⟩ := h; rfl) (fun _ _ _ _ _ _ us hl => match us, hl with | [_], _ => rfl) fun cdv A outer s H vs Q hr _ h => ?_
  obtain ⟨v, r, rfl, hr0, k⟩ := h
  refine ⟨_, (pss_one (ps_ret (pe_ifExp (pt_cmp (pc_isN (pv 0))) pe_str (pe_dget (hu_of hr) (pv 0) pe_str (fun _ _ => rfl))))), ?_⟩
  cases r with
  | none =>
    obtain rfl : v = .non := hr0
    exact ⟨_, rfl, true, rfl, k⟩
  | some r =>
    obtain ⟨a, rfl, ha⟩ := hr0
    have hg := rowGet ha "state"
    rw [valV_state] at hg
    exact ⟨_, rfl, false, rfl, _, rfl, a, _, rfl, hg, k⟩
def r_lfits : RC := fun vs _ H Q => ∃ (H0 : Hp) (dv rv : V) (D : DataD) (r : Row), vs = [dv, rv] ∧ IsData H0 dv D ∧ Core H0 H ∧ IsRow H rv r ∧ D.deeds.length ≤ 6 ∧ (∀ d ∈ D.deeds, d.moves.length ≤ 4) ∧
  ∀ (q : Addr) (xs : List V) (ds : List DeedD) (H' : Hp), Same H H' → H' q = some (.lst xs) → Paired (IsDeedRow H0) xs ds → ds.length ≤ 6 → (∀ d ∈ ds, d ∈ D.deeds ∧ stOf r ∈ d.moves.map (·.1)) → Q (.ref q) H'
theorem ok_l_fits (T : Tx K mg) : Cal P w K mg base false 2 "_law_fits" r_lfits := by
  refine cal_at T.d_l_fits T.g_l_fits sc_l_fits (fun vs H Q h => by obtain ⟨_, _, _, _, _, rfl, _⟩ := h; rfl) (fun _ _ _ _ _ _ us hl => match us, hl with | [_, _], _ => rfl) fun cdv A outer s H vs Q hr _ h => ?_
  have G_l_state := ok_l_state (P := P) (w := w) (base := base) T
  obtain ⟨H0, dv, rv, D, r, rfl, hd, co, hrow, d6, m4, k⟩ := h
  refine ⟨_, (pss_one (ps_ret (pe_lc (own := [("_law_deed_here", 2)]) rfl sc_l_fits.nd (pi_list (pe_ix ix_tup (pv 0) pe_int (fun _ _ => rfl))) (blkOk_by rfl) (fun _ _ _ _ _ => pg_name (i := 2) sc_l_fits.nd rfl (Or.inl rfl))
    (fun _ _ _ _ _ => (pts_one (pt_cmpR (show OpR _ _ (rIn K false) from op_in_seq) (pe_cl G_l_state hr (by decide) Gd.no rfl (pa_cons (pv 1) pa_nil)) (pe_lc (own := [("_law_move", 3)]) rfl sc_l_fits.nd (show PI _ _ _ (iList K (tOp (rIxT K) (tVar 2) (tC (.int 2)))) from pi_list (pe_ix ix_tup (pv 2) pe_int (fun _ _ => rfl))) (blkOk_by rfl) (fun _ _ _ _ _ => pg_name (i := 3) sc_l_fits.nd rfl (Or.inl rfl)) (fun _ _ _ _ _ => pts_nil) (fun _ _ _ _ _ => (pe_ix (show IxR _ (rIxT K) from ix_tup) (pv 3) pe_int (fun _ _ => rfl)))) rfl))) (fun _ _ _ _ _ => (pv 2))))), ?_⟩
  obtain ⟨a, x, y, rfl, ha, ⟨ca, rfl, hca⟩, da, xs, rfl, hda, pr0⟩ := hd
  have ha := co _ _ ha True.intro
  have hda := co _ _ hda (NB.noint (paired_noint IsDeedRow.stays pr0))
  refine ⟨_, rfl, a, _, 1, _, rfl, rfl, SqT.of ha, rfl, da, rfl, ⟨_, SqL.of hda⟩, fun E hE => lc_list (vs := [2]) (xs := xs) (fun i H' => Same H H' ∧ ∃ (ys : List V) (ds : List DeedD), H' E = some (.lst ys) ∧ Paired (IsDeedRow H0) ys ds ∧ ds.length ≤ i ∧ ∀ d ∈ ds, d ∈ D.deeds ∧ stOf r ∈ d.moves.map (·.1)) ⟨Same.new hE, [], [], upd_same, .nil, Nat.zero_le _, fun d hd => by cases hd⟩ (fun i H' _ q => SqL.of (q.1 _ _ hda)) (fun i x H' hx q => ?_) (fun H2 q => ?_)⟩
  · obtain ⟨sm, ys, ds, hys, py, dl, al⟩ := q
    obtain ⟨d, hd, hdr0⟩ := paired_at pr0 hx
    have hdr := IsDeedRow.stays.mono hdr0 co
    obtain ⟨t, mv, ow, nv, rfl, ht, ⟨ma, ms, rfl, hma, pm⟩, _, _⟩ := hdr
    have il : i < xs.length := by
      rcases Nat.lt_or_ge i xs.length with h | h
      · exact h
      · rw [List.getElem?_eq_none h] at hx; cases hx
    have i6 : i < 6 := by rw [paired_len pr0] at il; omega
    have dm := m4 d (List.mem_of_getElem? hd)
    refine ⟨rfl, _, rfl, rv, r, rfl, IsRow.stays.mono hrow (Core.of sm), ?_⟩
    refine ⟨_, rfl, t, _, 2, _, rfl, rfl, SqT.of (sm _ _ ht), rfl, ma, rfl, ⟨_, SqL.of (sm _ _ hma)⟩, fun F hF => lc_list (vs := [3]) (xs := ms) (fun j H3 => Same H' H3 ∧ H3 F = some (.lst ((d.moves.take j).map fun m => V.str m.1))) ⟨Same.new hF, upd_same⟩ (fun j H3 _ q => SqL.of (q.1 _ _ (sm _ _ hma))) (fun j x3 H3 hx3 q => ?_) (fun H3 q => ?_)⟩
    · obtain ⟨s3, hF3⟩ := q
      obtain ⟨m, hm, ⟨t0, rfl, ht0⟩⟩ := paired_at pm hx3
      refine ⟨rfl, _, rfl, t0, _, 0, _, rfl, rfl, SqT.of (s3 _ _ (sm _ _ ht0)), rfl, _, hF3, ?_, same_mut s3 hF, ?_⟩
      · rw [List.length_map,
            List.length_take]
        exact Nat.lt_of_le_of_lt (by omega : _ ≤ 4) (by decide)
      · rw [upd_same, take_snoc hm, List.map_append]
        rfl
    · obtain ⟨s3, hF3⟩ := q
      rw [paired_len pm, List.take_length] at hF3
      have e1 : (d.moves.map fun m => V.str m.1) = (d.moves.map (·.1)).map V.str := by rw [List.map_map]; rfl
      rw [e1] at hF3
      refine ⟨F, _, rfl, .inl (SqL.of hF3), rfl, flat_strs _, inV (.str (stOf r)) ((d.moves.map (·.1)).map V.str), rfl, ?_⟩
      rw [inV_strs]
      by_cases hm : stOf r ∈ d.moves.map (·.1)
      · rw [decide_eq_true hm]
        have ly : ys.length ≤ 6 := by rw [paired_len py]; omega
        refine ⟨_, rfl, _, s3 _ _ hys, Nat.lt_of_le_of_lt ly (by decide), same_mut (sm.trans s3) hE, ys ++ [.ref t], ds ++ [d], upd_same, paired_snoc py hdr0, by rw [List.length_append]; exact Nat.add_le_add_right dl 1, fun d' hd' => ?_⟩
        rcases List.mem_append.mp hd' with z | z
        · exact al d' z
        · rw [List.mem_singleton.mp z]; exact ⟨List.mem_of_getElem? hd, hm⟩
      · rw [decide_eq_false hm]
        exact ⟨sm.trans s3, ys, ds, s3 _ _ hys, py, by omega, al⟩
  · obtain ⟨sm, ys, ds, hys, py, dl, al⟩ := q
    exact k E ys ds H2 sm hys py (by rw [paired_len pr0] at dl; omega) al
theorem colKV_snoc (l : Cols) (c : Str) (i : Int) (h : c ∉ l.map (·.1)) : putK (colKV l) (.inr c) (.int i) = colKV (l ++ [(c, i)]) := by
  rw [putK_new]
  · unfold colKV
    simp
  · refine valV_none fun p hp e => ?_
    unfold colKV at hp
    obtain ⟨q, hq, z2⟩ := List.mem_map.mp hp
    rw [← z2] at e
    cases e
    exact h (List.mem_map_of_mem hq)
def wrD (D : DataD) (d : DeedD) : List Str := if d.kind = "make" then D.cols else d.own
def r_lworths : RC := fun vs _ H Q => ∃ (b : Addr) (dv ev : V) (D : DataD) (d : DeedD), vs = [.ref b, dv, ev] ∧ IsBag H b ∧ IsData H dv D ∧ IsDeedRow H ev d ∧ (wrD D d).Nodup ∧ (wrD D d).length ≤ 3 ∧
  ∀ (q : Addr) (wt : Cols) (H' : Hp), Keep H H' → IsBag H' b → H' q = some (.dK (colKV wt)) → H q = none → wt.map (·.1) = wrD D d → (∀ p ∈ wt, ValOk p.2) → Q (.ref q) H'
theorem ok_l_worths (T : Tx K mg) : Cal P w K mg base false 4 "_law_worths" r_lworths := by
  refine cal_at T.d_l_worths T.g_l_worths sc_l_worths (fun vs H Q h => by obtain ⟨_, _, _, _, _, rfl, _⟩ := h; rfl) (fun _ _ _ _ _ _ us hl => match us, hl with | [_, _, _], _ => rfl) fun cdv A outer s H vs Q hr _ h => ?_
  have G_l_value := ok_l_value (P := P) (w := w) (base := base) T
  obtain ⟨b, dv, ev, D, d, rfl, hb, hd, hdr, nd, l3, k⟩ := h
  refine ⟨_, (pss_cons (ps_set (i := 3) sc_l_worths.nd rfl (Or.inl rfl) pe_dnewK)
    (pss_cons (ps_for PassesOwn.never rfl (pi_list (pe_weak (t' := fun σ H Q => σ[1]? = some (some dv) ∧ σ[2]? = some (some ev) ∧ IsData H dv D ∧ IsDeedRow H ev d ∧ ∀ ca : Addr, H ca = some (.lst ((wrD D d).map V.str)) → Q (.ref ca) H) (pe_ifExp (pt_cmpR op_eq (pe_ix ix_tup (pv 2) pe_int (fun _ _ => rfl)) pe_str (nomark _)) (pe_ix ix_tup (pv 1) pe_int (fun _ _ => rfl)) (pe_ix ix_tup (pv 2) pe_int (fun _ _ => rfl))) fun σ H Q h => ?cs)) (pg_name (i := 4) sc_l_worths.nd rfl (Or.inl rfl)) (pss_one (ps_dput (hu_of hr) (pv 3) (pv 4) (pe_cl G_l_value hr (by decide) Gd.no rfl (pa_cons (pv 0) pa_nil)) rfl)))
    (pss_one (ps_ret (pv 3))))), ?_⟩
  case cs =>
    obtain ⟨h1, h2, ⟨a, x, y, rfl, ha, ⟨ca, rfl, hca⟩, _⟩, ⟨t, mv, ow, nv, rfl, ht, _, ⟨oa, rfl, hoa⟩, _⟩, k⟩ := h
    refine ⟨_, h2, t, _, 0, _, rfl, rfl, SqT.of ht, rfl, rfl, decide (V.str d.kind = V.str "make"), rfl, ?_⟩
    by_cases e : d.kind = "make"
    · rw [decide_eq_true (by rw [e] : V.str d.kind = V.str "make")]
      refine ⟨_, h1, a, _, 0, _, rfl, rfl, SqT.of ha, rfl, k ca ?_⟩
      unfold wrD
      rw [if_pos e]
      exact hca
    · rw [decide_eq_false (fun z => by injection z with z; exact e z : ¬V.str d.kind = V.str "make")]
      refine ⟨_, h2, t, _, 3, _, rfl, rfl, SqT.of ht, rfl, k oa ?_⟩
      unfold wrD
      rw [if_neg e]
      exact hoa
  refine fun q hq => ?_
  have s0 : Same H (upd H q (.dK [])) := Same.new hq
  refine ⟨rfl, rfl, IsData.stays.mono hd (Core.of s0), IsDeedRow.stays.mono hdr (Core.of s0), fun ca hca => ⟨ca, rfl, ⟨_, SqL.of hca⟩, for_list (xs := (wrD D d).map V.str) (fun i σ H' => (Keep H H' ∧ IsBag H' b ∧ H' ca = some (.lst ((wrD D d).map V.str)) ∧ ∃ wt : Cols, H' q = some (.dK (colKV wt)) ∧ wt.map (·.1) = (wrD D d).take i ∧ (∀ p ∈ wt, ValOk p.2) ∧ ∃ z, σ = [some (.ref b), some dv, some ev, some (.ref q), z])) ⟨Keep.of s0, hb.same s0, hca, [], upd_same, rfl, (fun p hp => by cases hp), _, rfl⟩ (fun i σ H' _ p => SqL.of p.2.2.1) (fun i x σ H' hx p => ?_) (fun σ H' p => ?_)⟩⟩
  · obtain ⟨kp, hb1, hca1, wt, hwt, ew, vok, z, rfl⟩ := p
    obtain ⟨cc, hcc, rfl⟩ := strs_ix hx
    refine ⟨_, rfl, b, rfl, hb1, fun i2 H2 k2 hb2 v2 => ⟨_, rfl, _, rfl, q, _, rfl, DPut.k (k := .inr cc) (k2 _ _ hwt fun i j z => by cases z) ?_, ⟨keep_mut (kp.trans k2) hq, hb2.off (hb.ne hq), ?_, wt ++ [(cc, i2)], ?_, ?_, fun p hp => ?_, _, rfl⟩⟩⟩
    · have := congrArg List.length ew
      rw [List.length_map, List.length_take] at this
      unfold colKV
      rw [List.length_map]
      exact Nat.lt_of_le_of_lt (by omega : _ ≤ 3) (by decide)
    · rw [upd_ne (fun z => by rw [z, hwt] at hca1; cases hca1)]
      exact lst_keep k2 hca1
    · rw [upd_same, colKV_snoc]
      rw [ew]
      exact not_before nd hcc
    · rw [List.map_append, ew, take_snoc hcc]; rfl
    · rcases List.mem_append.mp hp with z' | z'
      · exact vok p z'
      · rw [List.mem_singleton.mp z']; exact v2
  · obtain ⟨kp, hb1, hca1, wt, hwt, ew, vok, z, rfl⟩ := p
    rw [List.length_map, List.take_length] at ew
    exact ⟨_, rfl, k q wt H' kp hb1 hwt hq ew vok⟩
end
end Pn

-- PnN8
set_option
      maxHeartbeats 4000000
namespace Pn
open PySem PySem.Spec L2 PyProof.Rows StX ClX
section
variable {P : Program} {w : World} {K : PySem.W.Frag}
      {mg : Str → Option Value} {base : Heap}
def LRowOk (D : DataD) (r : Row) : Prop := ∀ q, r = some q → q.2.map (·.1) = D.cols ∧ (∀ p ∈ q.2, ValOk p.2) ∧ q.1 ≠ ""
def r_lrow : RC := fun vs _ H Q => ∃ (dv rv ev wv : V) (D : DataD) (r : Row) (d : DeedD) (wt : Cols) (t : Str), vs = [dv, rv, ev, wv] ∧ IsData H dv D ∧ IsRow H rv r ∧ IsDeedRow H ev d ∧ IsW H wv wt ∧ d.moves.length ≤ 4 ∧ d.next (stOf r) = some t ∧
  D.cols.Nodup ∧ ("state" : Str) ∉ D.cols ∧ D.cols.length ≤ 3 ∧ LRowOk D r ∧ (∀ p ∈ wt, ValOk p.2) ∧ (r = none → ∀ c ∈ D.cols, c ∈ wt.map (·.1)) ∧
  ∀ (v' : V) (H' : Hp) (r' : Row), Same H H' → IsRow H' v' r' → LRowOk D r' → stOf r' = t → (r' = none ↔ t = "") → Q v' H'
theorem colGet_mem {w : Cols} {c : Str} {i : Int} (h : colGet w c = some i) : (c, i) ∈ w := by
  unfold colGet at h
  cases q : w.find? (fun p => decide (p.1 = c)) with
  | none => rw [q] at h; cases h
  | some p =>
    rw [q] at h
    have e := List.find?_some q
    have m := List.mem_of_find?_eq_some q
    cases h
    rw [← of_decide_eq_true e]
    exact m
theorem ok_l_row (T : Tx K mg) : Cal P w K mg base false 2 "_law_row" r_lrow := by
  refine cal_at T.d_l_row T.g_l_row sc_l_row (fun vs H Q h => by obtain ⟨_, _, _, _, _, _, _, _, _, rfl, _⟩ := h; rfl) (fun _ _ _ _ _ _ us hl => match us, hl with | [_, _, _, _], _ => rfl) fun cdv A outer s H vs Q hr _ h => ?_
  have G_l_state := ok_l_state (P := P) (w := w) (base := base) T
  obtain ⟨dv, rv, ev, wv, D, r, d, wt, t, rfl, hd, hrow, hdr, hw, m4, nx, cnd, stc, c3, lro, wok, hall, k⟩ := h
  refine ⟨_, (pss_cons (ps_set (i := 4) sc_l_row.nd rfl (Or.inl rfl) (pe_ix ix_list (pe_lc (own := [("_law_move", 7)]) rfl sc_l_row.nd (pi_list (pe_ix ix_tup (pv 2) pe_int (fun _ _ => rfl))) (blkOk_by rfl) (fun _ _ _ _ _ => pg_name (i := 7) sc_l_row.nd rfl (Or.inl rfl)) (fun _ _ _ _ _ => (pts_one (pt_cmpR op_eq (pe_ix (show IxR _ (rIxT K) from ix_tup) (pv 7) pe_int (fun _ _ => rfl)) (pe_cl G_l_state hr (by decide) Gd.no rfl (pa_cons (pv 1) pa_nil)) (nomark _)))) (fun _ _ _ _ _ => (pe_ix (show IxR _ (rIxT K) from ix_tup) (pv 7) pe_int (fun _ _ => rfl)))) pe_int (fun _ _ => rfl)))
    (pss_cons (ps_if (pt_cmpR op_eq (pv 4) pe_str (nomark _)) (pss_one (ps_ret pe_non)) pss_nil)
    (pss_cons (ps_set (i := 5) sc_l_row.nd rfl (Or.inl rfl) (pe_disp (pps_cons pe_str (pv 4) pps_nil) rfl rfl (by simp) (by decide)))
    (pss_cons (ps_for PassesOwn.never rfl (pi_list (pe_ix ix_tup (pv 0) pe_int (fun _ _ => rfl))) (pg_name (i := 6) sc_l_row.nd rfl (Or.inl rfl)) (pss_one (ps_dput (hu_of hr) (pv 5) (pv 6) (pe_ifExp (pt_cmp (pc_din (hu_of hr) (pv 6) (pv 3))) (pe_dget (hu_of hr) (pv 3) (pv 6) (fun _ _ => rfl)) (pe_dget (hu_of hr) (pv 1) (pv 6) (fun _ _ => rfl))) rfl)))
    (pss_one (ps_ret (pv 5))))))), ?_⟩
  obtain ⟨a, x, y, rfl, ha, ⟨ca, rfl, hca⟩, _⟩ := hd
  obtain ⟨et, mv, ow, nv, rfl, het, ⟨ma, ms, rfl, hma, pm⟩, _⟩ := hdr
  obtain ⟨wa, rfl, hwa⟩ := hw
  refine ⟨_, rfl, et, _, 2, _, rfl, rfl, SqT.of het, rfl, ma, rfl, ⟨_, SqL.of hma⟩, fun E hE => lc_list (vs := [7]) (xs := ms) (fun i H' => Same H H' ∧ H' E = some (.lst ((((d.moves.take i).filter fun m => decide (m.1 = stOf r)).map (·.2)).map V.str))) ⟨Same.new hE, upd_same⟩ (fun i H' _ q => SqL.of (q.1 _ _ hma)) (fun i x H' hx q => ?_) (fun H1 q => ?_)⟩
  · obtain ⟨sm, hEE⟩ := q
    obtain ⟨m, hm, ⟨t0, rfl, ht0⟩⟩ := paired_at pm hx
    refine ⟨rfl, _, rfl, t0, _, 0, _, rfl, rfl, SqT.of (sm _ _ ht0), rfl, _, rfl, rv, r, rfl, IsRow.stays.mono hrow (Core.of sm), rfl, decide (V.str m.1 = V.str (stOf r)), rfl, ?_⟩
    by_cases e : m.1 = stOf r
    · rw [decide_eq_true (by rw [e] : V.str m.1 = V.str (stOf r))]
      refine ⟨_, rfl, t0, _, 1, _, rfl, rfl, SqT.of (sm _ _ ht0), rfl, _, hEE, ?_, same_mut sm hE, ?_⟩
      · rw [List.length_map, List.length_map]
        exact Nat.lt_of_le_of_lt (Nat.le_trans (List.length_filter_le _ _) (by rw [List.length_take]; omega) : _ ≤ 4) (by decide)
      · rw [upd_same, take_snoc hm, List.filter_append, List.map_append, List.map_append, List.filter_cons_of_pos (by simpa using e)]
        rfl
    · rw [decide_eq_false (fun z => by injection z with z; exact e z : ¬V.str m.1 = V.str (stOf r))]
      refine ⟨sm, ?_⟩
      rw [take_snoc hm, List.filter_append, List.filter_cons_of_neg (by simpa using e), List.filter_nil, List.append_nil]
      exact hEE
  obtain ⟨s1, hE1⟩ := q
  rw [paired_len pm, List.take_length] at hE1
  obtain ⟨m, hm, rfl⟩ : ∃ m : Str × Str, d.moves.find? (fun m => decide (m.1 = stOf r)) = some m ∧ m.2 = t := by
    unfold DeedD.next at nx
    cases q : d.moves.find? (fun m => decide (m.1 = stOf r)) with
    | none => rw [q] at nx; cases nx
    | some m => rw [q] at nx; cases nx; exact ⟨m, rfl, rfl⟩
  have hf : ∃ rest, (d.moves.filter fun m => decide (m.1 = stOf r)) = m :: rest := by
    have e := List.head?_filter (p := fun m : Str × Str => decide (m.1 = stOf r)) (l := d.moves)
    rw [hm] at e
    cases q : d.moves.filter (fun m => decide (m.1 = stOf r)) with
    | nil => rw [q] at e; cases e
    | cons z zs => rw [q] at e; cases e; exact ⟨zs, rfl⟩
  obtain ⟨rest, ef⟩ := hf
  rw [ef] at hE1
  refine ⟨E, _, 0, .str m.2, rfl, rfl, SqL.of hE1, atI_nat (j := 0) rfl, ?_⟩
  refine ⟨_, rfl, rfl, decide (V.str m.2 = V.str ""), rfl, ?_⟩
  by_cases et0 : m.2 = ""
  · rw [decide_eq_true (by rw [et0] : V.str m.2 = V.str "")]
    exact k .non H1 none s1 rfl (fun q z => by cases z) et0.symm ⟨fun _ => et0, fun _ => rfl⟩
  · rw [decide_eq_false (fun z => by injection z with z; exact et0 z : ¬V.str m.2 = V.str "")]
    refine fun p hp => ⟨_, rfl, upd_same, [(.inr "state", .str m.2)], rfl, by show 1 ≤ 15; decide, ?_⟩
    have s0 : Same H (upd (upd H1 p (.dK [])) p (.dK (mergeK [] [(.inr "state", .str m.2)]))) := by rw [upd_upd]; exact s1.trans (Same.new hp)
    have hpn : H p = none := (Keep.of s1).dom _ hp
    have val : ∀ c ∈ D.cols, ValOk (newVal r wt c) ∧ (colGet wt c = none → ∃ q, r = some q ∧ colGet q.2 c = some (newVal r wt c)) := fun c hc => by
      unfold newVal
      cases q : colGet wt c with
      | some i => exact ⟨wok _ (colGet_mem q), fun z => by cases z⟩
      | none =>
        cases r with
        | none =>
          obtain ⟨i, hi⟩ := colGet_some (hall rfl c hc)
          rw [q] at hi; cases hi
        | some r =>
          obtain ⟨e1, e2, _⟩ := lro r rfl
          obtain ⟨i, hi⟩ := colGet_some (w := r.2) (c := c) (by rw [e1]; exact hc)
          show ValOk ((colGet r.2 c).getD 0) ∧ _
          rw [hi]
          exact ⟨e2 _ (colGet_mem hi), fun _ => ⟨r, rfl, by show colGet r.2 c = some ((colGet r.2 c).getD 0); rw [hi]; rfl⟩⟩
    refine ⟨_, rfl, a, _, 0, _, rfl, rfl, SqT.of (s0 _ _ ha), rfl, ca, rfl, ⟨_, SqL.of (s0 _ _ hca)⟩, for_list (xs := D.cols.map V.str) (fun i σ H' => Same H H' ∧ H' p = some (.dK (rowKV (m.2, (D.cols.take i).map fun c => (c, newVal r wt c)))) ∧ ∃ z, σ = [some (.ref a), some rv, some (.ref et), some (.ref wa), some (.str m.2), some (.ref p), z, none]) ⟨s0, upd_same, _, rfl⟩ (fun i σ H' _ q => SqL.of (q.1 _ _ hca)) (fun i x σ H' hx q => ?_) (fun σ H' q => ?_)⟩
    · obtain ⟨sm, hpd, z, rfl⟩ := q
      obtain ⟨cc, hcc, rfl⟩ := strs_ix hx
      have hccm := List.mem_of_getElem? hcc
      have hcs : cc ≠ "state" := fun e => stc (e ▸ hccm)
      have fin : ∃ (a2 : Addr) (H4 : Hp), V.ref p = .ref a2 ∧ DPut H' a2 (.str cc) (.int (newVal r wt cc)) H4 ∧ Same H H4 ∧ H4 p = some (.dK (rowKV (m.2, (D.cols.take (i + 1)).map fun c => (c, newVal r wt c)))) ∧ ∃ z, [some (V.ref a), some rv, some (.ref et), some (.ref wa), some (.str m.2), some (.ref p), some (.str cc), none] = [some (.ref a), some rv, some (.ref et), some (.ref wa), some (.str m.2), some (.ref p), z, none] := by
        refine ⟨p, _, rfl, DPut.k (k := .inr cc) hpd ?_, same_mut sm hpn, ?_, _, rfl⟩
        · unfold rowKV colKV
          simp only [List.length_cons, List.length_map, List.length_take]
          exact Nat.lt_of_le_of_lt (by omega : _ ≤ 10) (by decide)
        · rw [upd_same, take_snoc hcc, List.map_append]
          rw [rowKV_snoc _ _ _ _ _ hcs]
          · rfl
          · rw [List.map_map]
            show cc ∉ (D.cols.take i).map (fun c => c)
            rw [List.map_id']
            exact not_before cnd hcc
      refine ⟨_, rfl, _, rfl, wa, _, rfl, wGet (sm _ _ hwa) cc, (colGet wt cc).isSome, ?_, ?_⟩
      · rw [valV_col]; cases colGet wt cc <;> rfl
      cases hg : colGet wt cc with
      | some iv =>
        have hdg := wGet (sm _ _ hwa) cc
        rw [valV_col, hg] at hdg
        have en : newVal r wt cc = iv := by unfold newVal; rw [hg]
        rw [en] at fin
        exact ⟨_, rfl, _, rfl, wa, _, rfl, hdg, _, rfl, _, rfl, fin⟩
      | none =>
        obtain ⟨q, rfl, hq⟩ := (val cc hccm).2 hg
        obtain ⟨ra, rfl, hra⟩ := hrow
        have hdg := rowGet (sm _ _ hra) cc
        rw [valV_row _ _ hcs, hq] at hdg
        exact ⟨_, rfl, _, rfl, ra, _, rfl, hdg, _, rfl, _, rfl, fin⟩
    · obtain ⟨sm, hpd, z, rfl⟩ := q
      rw [List.length_map, List.take_length] at hpd
      refine ⟨_, rfl, k (.ref p) H' (some (m.2, D.cols.map fun c => (c, newVal r wt c))) sm ⟨p, rfl, hpd⟩ (fun q hq => ?_) rfl ⟨fun z => (by cases z), fun z => absurd z et0⟩⟩
      cases hq
      refine ⟨?_, fun x hx => ?_, et0⟩
      · show (D.cols.map fun c => (c, newVal r wt c)).map (·.1) = D.cols
        rw [List.map_map]
        exact List.map_id' _
      · obtain ⟨c, hc, rfl⟩ := List.mem_map.mp hx
        exact (val c hc).1
end
end Pn

-- PnN9
set_option
      maxHeartbeats 4000000
namespace Pn
open PySem PySem.Spec L2 PyProof.Rows StX ClX
theorem find_perm {α : Type} {p : α → Bool} : ∀ {l m : List α}, l.Perm m → (∀ x ∈ l, ∀ y ∈ l, p x = true → p y = true → x = y) → l.find? p = m.find? p := by
  intro l m h u
  cases q : l.find? p with
  | none =>
    refine (List.find?_eq_none.mpr fun x hx => ?_).symm
    exact List.find?_eq_none.mp q x (h.mem_iff.mpr hx)
  | some x =>
    have hx := List.mem_of_find?_eq_some q
    have px := List.find?_some q
    cases q2 : m.find? p with
    | none => exact absurd px (List.find?_eq_none.mp q2 x (h.mem_iff.mp hx))
    | some y => exact congrArg some (u x hx y (h.mem_iff.mpr (List.mem_of_find?_eq_some q2)) px (List.find?_some q2))
theorem nodup_key {α β : Type} {f : α → β} : ∀ {l : List α}, (l.map f).Nodup → ∀ x ∈ l, ∀ y ∈ l, f x = f y → x = y
  | [], _, x, hx, _, _, _ => by cases hx
  | a :: l, h, x, hx, y, hy, e => by
    obtain ⟨h1, h2⟩ :=
          List.nodup_cons.mp h
    rcases List.mem_cons.mp hx with ex | hx2
    · rcases List.mem_cons.mp hy with ey | hy2
      · rw [ex, ey]
      · rw [ex] at e
        exact absurd (by rw [e]; exact List.mem_map_of_mem hy2) h1
    · rcases List.mem_cons.mp hy with ey | hy2
      · rw [ey] at e
        exact absurd (by rw [← e]; exact List.mem_map_of_mem hx2) h1
      · exact nodup_key h2 x hx2 y hy2 e
theorem next_sim {d e : DeedD} (s : DeedSim d e) (nd : (d.moves.map (·.1)).Nodup) (x : Str) : e.next x = d.next x := by
  unfold DeedD.next
  rw [find_perm s.moves.symm fun a ha b hb pa pb => nodup_key nd a ha b hb ((of_decide_eq_true pa).trans (of_decide_eq_true pb).symm)]
theorem drawn_moves {D : DataD} {marks : List Str} (ok : DataOk D marks) {d : DeedD} (hd : d ∈ D.deeds) : (d.moves.map (·.1)).Nodup ∧ (("" : Str) ∈ d.moves.map (·.1) → d.kind = "make") ∧ d.moves.length ≤ 4 ∧ (∀ c ∈ d.own, c ∈ D.cols) ∧ d.own.Nodup ∧ d.own.length ≤ 3 := by
  obtain ⟨nc, c3, cl, cnd, cok⟩ := ok.cls
  obtain ⟨nm, m4, ml, mnd, mok⟩ := ok.mks
  have nemp : ∀ {ss : List Str}, ss.Sublist marks → ("" : Str) ∈ ss → False := fun h z => (mok _ (h.subset z)).1.ne rfl
  rcases (ok.drawn d hd).kd with ⟨ek, ⟨t, _, em⟩, eo⟩ | ⟨ek, ⟨ss, hss, em⟩, eo⟩ | ⟨ek, hm1, _, ho⟩
  · rw [em, eo]
    exact ⟨List.nodup_cons.mpr ⟨List.not_mem_nil, List.nodup_nil⟩, fun _ => ek, by show 1 ≤ 4; decide, (fun c hc => by cases hc), List.nodup_nil, Nat.zero_le _⟩
  · have e1 : (d.moves.map (·.1)) = ss := by
      rw [em, List.map_map]
      exact List.map_id' _
    rw [e1, eo]
    exact ⟨sub_nodup hss mnd, fun z => (nemp hss z).elim, by have := hss.length_le; rw [em, List.length_map]; omega, (fun c hc => by cases hc), List.nodup_nil, Nat.zero_le _⟩
  · have := hm1.length_le
    have := ho.length_le
    rw [List.length_map] at *
    exact ⟨sub_nodup hm1 mnd, fun z => (nemp hm1 z).elim, by omega, fun c hc => ho.subset hc, sub_nodup ho cnd, by omega⟩
theorem find_sim {D b : DataD} (B : BookSim D b) (nd : (D.deeds.map DeedD.name).Nodup) {d : DeedD} (hd : d ∈ D.deeds) : ∃ e, b.find d.name = some e ∧ DeedSim d e := by
  obtain ⟨es, ps, pp⟩ := B.deeds
  have names : es.map DeedD.name = D.deeds.map DeedD.name := by
    have go : ∀ {l m : List DeedD}, Paired DeedSim l m → m.map DeedD.name = l.map DeedD.name := by
      intro l m h
      induction h with
      | nil => rfl
      | cons h _ ih => rw [List.map_cons, List.map_cons, ih, h.name]
    exact go ps
  have nde : (es.map DeedD.name).Nodup := by rw [names]; exact nd
  obtain ⟨j, hj, ej⟩ := List.mem_iff_getElem.mp hd
  obtain ⟨e, he, sim⟩ := paired_at ps (i := j) (x := d) (by rw [List.getElem?_eq_getElem hj, ej])
  have hes := List.mem_of_getElem? he
  refine ⟨e, ?_, sim⟩
  unfold DataD.find
  rw [find_perm pp fun a ha c hc pa pc => nodup_key nde a (pp.mem_iff.mp ha) c (pp.mem_iff.mp hc) ((of_decide_eq_true pa).trans (of_decide_eq_true pc).symm)]
  cases q : es.find? (fun x => decide (x.name = d.name)) with
  | none => exact absurd sim.name (by simpa using List.find?_eq_none.mp q e hes)
  | some y =>
    have hy := List.mem_of_find?_eq_some q
    have py : y.name = d.name := by simpa using List.find?_some q
    exact congrArg some (nodup_key nde y hy e hes (py.trans sim.name.symm))
theorem wok_sim {D b : DataD} (B : BookSim D b) {d e : DeedD} (s : DeedSim d e) {wt : Cols} (ew : wt.map (·.1) = wrD D d) (ok : ∀ p ∈ wt, ValOk p.2) : WOk (b.wr e) wt := by
  have p : (b.wr e).Perm (wrD D d) := by
    unfold DataD.wr wrD
    rw [s.kind]
    split
    · exact B.cols
    · exact s.own
  refine ⟨?_, fun c hc => ?_⟩
  · have := congrArg List.length ew
    rw [List.length_map] at this
    rw [this, p.length_eq]
  · obtain ⟨i, hi⟩ := colGet_some (w := wt) (c := c) (by rw [ew]; exact p.mem_iff.mp hc)
    exact ⟨i, hi, ok _ (colGet_mem hi)⟩
theorem stepAt_app {ss l : List Step} {i : Nat} (h : i < ss.length) : stepAt (ss ++ l) i = stepAt ss i := by
  unfold stepAt
  rw [List.getElem?_append_left h]
theorem rowAt_app {b : DataD} {ss l : List Step} : ∀ {i : Nat}, i ≤ ss.length → rowAt b (ss ++ l) i = rowAt b ss i
  | 0, _ => rfl
  | i + 1, h => by
    show rowStep b (rowAt b (ss ++ l) i) (stepAt (ss ++ l) i) = rowStep b (rowAt b ss i) (stepAt ss i)
    rw [rowAt_app (Nat.le_of_succ_le h), stepAt_app h]
theorem steps_snoc {b : DataD} {ss : List Step} {st : Step} (h : StepsOk b ss) (h1 : StepOk b (rowAt b ss ss.length) st) : StepsOk b (ss ++ [st]) := fun i hi => by
  rw [List.length_append] at hi
  rcases Nat.lt_or_ge i ss.length with lt | ge
  · rw [rowAt_app (Nat.le_of_lt lt), stepAt_app lt]
    exact h i lt
  · obtain rfl : i = ss.length := by
      have : ([st] : List Step).length = 1 := rfl
      omega
    rw [rowAt_app (Nat.le_refl _)]
    have e : stepAt (ss ++ [st]) ss.length = st := by
      unfold stepAt
      simp
    rw [e]
    exact h1
theorem row_snoc {b : DataD} {ss : List Step} {st : Step} : rowAt b (ss ++ [st]) (ss.length + 1) = rowStep b (rowAt b ss ss.length) st := by
  show rowStep b (rowAt b (ss ++ [st]) ss.length) (stepAt (ss ++ [st]) ss.length) = _
  rw [rowAt_app (Nat.le_refl _)]
  have e : stepAt (ss ++ [st]) ss.length = st := by
    unfold stepAt
    simp
  rw [e]
theorem next_of_mem {d : DeedD} {s : Str} (h : s ∈ d.moves.map (·.1)) : ∃ t, d.next s = some t := by
  obtain ⟨m, hm, e⟩ := List.mem_map.mp h
  unfold DeedD.next
  cases q : d.moves.find? (fun m => decide (m.1 = s)) with
  | none => exact absurd e (by simpa using List.find?_eq_none.mp q m hm)
  | some m => exact ⟨m.2, rfl⟩
/-- the law's row and the book's row stand in one state -/
structure RowSim (D : DataD) (r rb : Row) : Prop where
  ok : LRowOk D r
  st : stOf r = stOf rb
  no : rb = none ↔ r = none
theorem step_sim {D b : DataD} {marks : List Str} (ok : DataOk D marks) (B : BookSim D b) {d : DeedD} (hd : d ∈ D.deeds) {r rb : Row} (R : RowSim D r rb) (hs : stOf r ∈ d.moves.map (·.1)) {wt : Cols} (ew : wt.map (·.1) = wrD D d) (vok : ∀ p ∈ wt, ValOk p.2) :
    StepOk b rb (some (d.name, wt)) ∧ ∃ t, d.next (stOf r) = some t ∧ (r = none → d.kind = "make") ∧ ∀ r' : Row, LRowOk D r' → stOf r' = t → (r' = none ↔ t = "") → RowSim D r' (rowStep b rb (some (d.name, wt))) := by
  obtain ⟨nn, n6, nl, nnd, nok⟩ := ok.nms
  obtain ⟨e, he, sim⟩ := find_sim B nnd hd
  obtain ⟨mnd, mk, _⟩ := drawn_moves ok hd
  obtain ⟨t, ht⟩ := next_of_mem hs
  have hte : e.next (stOf rb) = some t := by rw [next_sim sim mnd, ← R.st]; exact ht
  have hmk : r = none → d.kind = "make" := fun z => mk (by rw [z] at hs; exact hs)
  refine ⟨⟨e, t, he, hte, wok_sim B sim ew vok, fun z => by rw [sim.kind]; exact hmk (R.no.mp z)⟩, t, ht, hmk, fun r' h1 h2 h3 => ?_⟩
  have est : rowStep b rb (some (d.name, wt)) = if t = "" then none else some (newRow b rb wt t) := by
    show (match (b.find d.name).bind (fun d => d.next (stOf rb)) with | none => none | some t => if t = "" then none else some (newRow b rb wt t)) = _
    rw [he]
    show (match e.next (stOf rb) with | none => none | some t => if t = "" then none else some (newRow b rb wt t)) = _
    rw [hte]
  rw [est]
  by_cases z : t = ""
  · rw [if_pos z]
    exact ⟨h1, by rw [h2, z]; rfl, ⟨fun _ => h3.mpr z, fun _ => rfl⟩⟩
  · rw [if_neg z]
    exact ⟨h1, h2, ⟨fun q => (by cases q), fun q => absurd (h3.mp q) z⟩⟩
end Pn

-- PnN10
set_option maxHeartbeats 8000000
namespace Pn
open PySem PySem.Spec L2 PyProof.Rows StX ClX
section
variable {P : Program} {w : World} {K : PySem.W.Frag}
      {mg : Str → Option Value} {base : Heap}
def setC (wt : Cols) (c : Str) (i : Int) : Cols := wt.map fun p => if p.1 = c then (p.1, i) else p
theorem setC_keys (wt : Cols) (c : Str) (i : Int) : (setC wt c i).map (·.1) = wt.map (·.1) := by
  unfold setC
  rw [List.map_map]
  refine List.map_congr_left fun p _ =>
        ?_
  show (if p.1 = c then (p.1, i) else p).1 = p.1
  split <;> rfl
theorem putK_setC {wt : Cols} {c : Str} (i : Int) (h : c ∈ wt.map (·.1)) : putK (colKV wt) (.inr c) (.int i) = colKV (setC wt c i) := by
  unfold putK
  rw [if_pos]
  · unfold colKV setC
    rw [List.map_map,
          List.map_map]
    refine List.map_congr_left fun p _ =>
          ?_
    show (if (Sum.inr p.1 : Key) = Sum.inr c then ((Sum.inr p.1 : Key), V.int i) else (Sum.inr p.1, V.int p.2)) = (Sum.inr (if p.1 = c then (p.1, i) else p).1, V.int (if p.1 = c then (p.1, i) else p).2)
    by_cases e : p.1 = c
    · rw [if_pos (by rw [e]), if_pos e]
    · rw [if_neg (fun z => e (by cases z; rfl)), if_neg e]
  · obtain ⟨p, hp, e⟩ := List.mem_map.mp h
    unfold colKV
    rw [List.any_map]
    refine List.any_eq_true.mpr ⟨p, hp, ?_⟩
    show decide ((Sum.inr p.1 : Key) = Sum.inr c) = true
    rw [e]
    exact decide_eq_true rfl
theorem setC_ok {wt : Cols} {c : Str} {i : Int} (h : ∀ p ∈ wt, ValOk p.2) (hi : ValOk i) : ∀ p ∈ setC wt c i, ValOk p.2 := fun p hp => by
  unfold setC at hp
  obtain ⟨q, hq, rfl⟩ :=
        List.mem_map.mp hp
  split
  · exact hi
  · exact h q hq
def StVal : Step → Prop
  | none => True
  | some s => ∀ p ∈ s.2, ValOk p.2
theorem stv_snoc {ss : List Step} {st : Step} (h : ∀ x ∈ ss, StVal x) (h1 : StVal st) : ∀ x ∈ ss ++ [st], StVal x := fun x hx => by
  rcases List.mem_append.mp hx with z | z
  · exact h x z
  · rw [List.mem_singleton.mp z]; exact h1
def r_lsteps : RC := fun vs _ H Q => ∃ (b : Addr) (dv : V) (n : Nat) (D bk : DataD) (marks : List Str), vs = [.ref b, dv, .int n] ∧ IsBag H b ∧ IsData H dv D ∧ DataOk D marks ∧ BookSim D bk ∧ n ≤ 12 ∧
  ∀ (q : Addr) (xs : List V) (ss : List Step) (H' : Hp), Keep H H' → IsBag H' b → H' q = some (.lst xs) → Paired (IsStep H') xs ss → ss.length = n → StepsOk bk ss → (∀ st ∈ ss, StVal st) → Q (.ref q) H'
/-- the worths, some taken over from the row -/
def tMix (b qw : Addr) (rv : V) (r : Row) (D : DataD) (wt : Cols) (H4 : Hp) : TS := fun E σ H5 => ∃ (s1 s2 s4 s5 s6 s7 z9 : Option V), σ = [some (.ref b), s1, s2, some rv, s4, s5, s6, s7, some (.ref qw), z9] ∧ IsBag H5 b ∧ H5 qw = some (.dK (colKV wt)) ∧ IsRow H4 rv r ∧ LRowOk D r ∧ (∀ c ∈ wt.map (·.1), c ∈ D.cols) ∧ ("state" : Str) ∉ D.cols ∧ wt.length ≤ 3 ∧ (∀ p ∈ wt, ValOk p.2) ∧
  Keep H4 H5 ∧ H4 qw = none ∧ ∀ (wt' : Cols) (H6 : Hp) (z9' : Option V), Keep H4 H6 → IsBag H6 b → H6 qw = some (.dK (colKV wt')) → wt'.map (·.1) = wt.map (·.1) → (∀ p ∈ wt', ValOk p.2) → E.nx [some (.ref b), s1, s2, some rv, s4, s5, s6, s7, some (.ref qw), z9'] H6
theorem ok_l_steps (T : Tx K mg) : Cal P w K mg base false 5 "_law_steps" r_lsteps := by
  refine cal_at T.d_l_steps T.g_l_steps sc_l_steps (fun vs H Q h => by obtain ⟨_, _, _, _, _, _, rfl, _⟩ := h; rfl) (fun _ _ _ _ _ _ us hl => match us, hl with | [_, _, _], _ => rfl) fun cdv A outer s H vs Q hr _ h => ?_
  have G_l_fits := ok_l_fits (P := P) (w := w) (base := base) T
  have G_l_of := ok_l_of (P := P) (w := w) (base := base) T
  have G_l_row := ok_l_row (P := P) (w := w) (base := base) T
  have G_l_take := ok_l_take (P := P) (w := w) (base := base) T
  have G_l_worths := ok_l_worths (P := P) (w := w) (base := base) T
  obtain ⟨b, dv, n, D, bk, marks, rfl, hb, hd, ok, B, n12, k⟩ := h
  refine ⟨_, (pss_cons (ps_par (i := 3) (j := 4) rfl sc_l_steps.nd rfl rfl (by decide) rfl rfl (pa_cons pe_non (pa_cons (pe_lst pa_nil) pa_nil)) rfl)
    (pss_cons (ps_for PassesOwn.never rfl (pi_range1 rfl T.f_range (pa_cons (pv 2) pa_nil)) (pg_name (i := 5) sc_l_steps.nd rfl (Or.inl rfl)) (pss_cons (ps_set (i := 6) sc_l_steps.nd rfl (Or.inl rfl) (pe_cl G_l_fits hr (by decide) Gd.no rfl (pa_cons (pv 1) (pa_cons (pv 3) pa_nil))))
    (pss_one (ps_if (pt_weak (t' := fun σ H Q => ∃ q ys, σ[0]? = some (some (.ref b)) ∧ σ[6]? = some (some (.ref q)) ∧ H q = some (.lst ys) ∧ IsBag H b ∧ ∀ (bb : Bool) (H' : Hp), Keep H H' → IsBag H' b → (bb = false → ys ≠ []) → Q bb H') (PW.pt (pw_or (pt_cmpR (op_eqNil hr.units) (pv 6) (pe_lst pa_nil) (nomark _)) (pw_or1 (pt_cmpR op_eq (pe_cl G_l_take hr (by decide) Gd.no rfl (pa_cons (pv 0) (pa_cons pe_int pa_nil))) pe_int (nomark _))))) fun σ H Q h => ?tst) (pss_one (ps_expr (pe_bm PySem.F.plainAttrs_list PySem.F.slot_list_append PySem.F.type_list_append mt_append (pv 4) (pa_cons pe_non pa_nil)))) (pss_cons (ps_set (i := 7) sc_l_steps.nd rfl (Or.inl rfl) (pe_cl G_l_of hr (by decide) Gd.no rfl (pa_cons (pv 0) (pa_cons (pv 6) pa_nil))))
    (pss_cons (ps_set (i := 8) sc_l_steps.nd rfl (Or.inl rfl) (pe_cl G_l_worths hr (by decide) Gd.no rfl (pa_cons (pv 0) (pa_cons (pv 1) (pa_cons (pv 7) pa_nil)))))
    (pss_cons (ps_weak (t' := fun E σ H5 => ∃ qw rv r wt H4, tMix b qw rv r D wt H4 E σ H5) (ps_if (PW.pt (pw_and (pt_cmp (pc_notN (pv 3))) (pw_and1 (pt_cmpR op_eq (pe_cl G_l_take hr (by decide) Gd.no rfl (pa_cons (pv 0) (pa_cons pe_int pa_nil))) pe_int (nomark _))))) (pss_one (ps_for PassesOwn.never rfl (pi_list (pe_callTy (call_listD rfl) rfl T.f_list boot_list (pa_cons (pv 8) pa_nil))) (pg_name (i := 9) sc_l_steps.nd rfl (Or.inl rfl)) (pss_one (ps_dput (hu_of hr) (pv 8) (pv 9) (pe_dget (hu_of hr) (pv 3) (pv 9) (fun _ _ => rfl)) rfl)))) pss_nil) fun E σ H5 h => ?mix)
    (pss_cons (ps_expr (pe_bm PySem.F.plainAttrs_list PySem.F.slot_list_append PySem.F.type_list_append mt_append (pv 4) (pa_cons (pe_tup (pa_cons (pe_ix ix_tup (pv 7) pe_int (fun _ _ => rfl)) (pa_cons (pv 8) pa_nil))) pa_nil)))
    (pss_one (ps_set (i := 3) sc_l_steps.nd rfl (Or.inl rfl) (pe_cl G_l_row hr (by decide) Gd.no rfl (pa_cons (pv 1) (pa_cons (pv 3) (pa_cons (pv 7) (pa_cons (pv 8) pa_nil)))))))))))))))
    (pss_one (ps_ret (pv 4))))), ?_⟩
  case tst =>
    obtain ⟨q, ys, h0, h6, hq, hb, k⟩ := h
    refine ⟨_, h6, Nat.zero_le _, fun p hp => ⟨q, p, ys, rfl, rfl, SqL.of (Same.new hp _ _ hq), SqL.of upd_same, ys.isEmpty, rfl, ?_⟩⟩
    cases e : ys.isEmpty with
    | true => exact k true _ (Keep.of (Same.new hp)) (hb.same (Same.new hp)) fun z => by cases z
    | false =>
      refine ⟨_, h0, b, 6, rfl, hb.same (Same.new hp), by decide, by decide, fun d H3 k3 hb3 _ _ => ⟨rfl, decide (V.int d = V.int 0), rfl, ?_⟩⟩
      have ne : ys ≠ [] := fun z => by rw [z] at e; cases e
      exact k _ _ ((Keep.of (Same.new hp)).trans k3) hb3 fun _ => ne
  case mix =>
    obtain ⟨qw, rv, r, wt, H4, s1, s2, s4, s5, s6, s7, z9, rfl, hb, hqw, hrow, lro, wsub, stc, w3, vok, k45, qn, k⟩ := h
    cases r with
    | none =>
      obtain rfl : rv = .non := hrow
      exact ⟨_, rfl, false, rfl, k wt H5 z9 k45 hb hqw rfl vok⟩
    | some q =>
      obtain ⟨ra, rfl, hra⟩ := hrow
      refine ⟨_, rfl, true, rfl, _, rfl, b, 3, rfl, hb, by decide, by decide, fun d H6 k6 hb6 _ _ => ⟨rfl, decide (V.int d = V.int 0), rfl, ?_⟩⟩
      have hqw6 := k6 _ _ hqw fun i j z => by cases z
      by_cases e : V.int d = V.int 0
      · rw [decide_eq_true e]
        have exs : (colKV wt).map (fun kv => kV kv.1) = (wt.map (·.1)).map V.str := by
          unfold colKV
          rw [List.map_map,
                List.map_map]
          rfl
        refine ⟨_, rfl, qw, _, rfl, .inl hqw6, fun p hp => ⟨p, rfl, ⟨_, SqL.of upd_same⟩, ?_⟩⟩
        rw [exs]
        have s7' : Same H6 (upd H6 p (.lst ((wt.map (·.1)).map V.str))) := Same.new hp
        have pq : p ≠ qw := fun z => by rw [z, hqw6] at hp; cases hp
        refine for_list (xs := (wt.map (·.1)).map V.str) (fun i σ H' => Keep H4 H' ∧ IsBag H' b ∧ H' p = some (.lst ((wt.map (·.1)).map V.str)) ∧ ∃ wt' : Cols, H' qw = some (.dK (colKV wt')) ∧ wt'.map (·.1) = wt.map (·.1) ∧ (∀ x ∈ wt', ValOk x.2) ∧ ∃ z9', σ = [some (.ref b), s1, s2, some (.ref ra), s4, s5, s6, s7, some (.ref qw), z9']) ⟨(k45.trans k6).trans (Keep.of s7'), hb6.same s7', upd_same, wt, s7' _ _ hqw6, rfl, vok, _, rfl⟩ (fun i σ H' _ q => SqL.of q.2.2.1) (fun i x σ H' hx q => ?_) (fun σ H' q => ?_)
        · obtain ⟨k7, hb7, hp7, wt', hqw7, ek, vok', z, rfl⟩ := q
          obtain ⟨cc, hcc, rfl⟩ := strs_ix hx
          have hcw := List.mem_of_getElem? hcc
          have hcd := wsub cc hcw
          obtain ⟨e1, e2, _⟩ := lro q rfl
          obtain ⟨iv, hiv⟩ := colGet_some (w := q.2) (c := cc) (by rw [e1]; exact hcd)
          have hra7 := k7 _ _ hra fun i j z => by cases z
          have hdg := rowGet hra7 cc
          rw [valV_row _ _ (fun z => stc (z ▸ hcd)), hiv] at hdg
          refine ⟨_, rfl, _, rfl, ra, _, rfl, hdg, _, rfl, _, rfl, qw, _, rfl, DPut.k (k := .inr cc) hqw7 ?_, keep_mut k7 qn, hb7.off (fun z => ?_), by rw [upd_ne pq]; exact hp7, setC wt' cc iv, ?_, by rw [setC_keys, ek], setC_ok vok' (e2 _ (colGet_mem hiv)), _, rfl⟩
          · have := congrArg List.length ek
            rw [List.length_map, List.length_map] at this
            unfold colKV
            rw [List.length_map]
            exact Nat.lt_of_le_of_lt (by omega : _ ≤ 3) (by decide)
          · obtain ⟨i1, i2, hbb⟩ := hb7
            rw [z, hqw7] at hbb
            cases hbb
          · rw [upd_same, putK_setC iv (by rw [ek]; exact hcw)]
        · obtain ⟨k7, hb7, hp7, wt', hqw7, ek, vok', z, rfl⟩ := q
          exact k wt' H' z k7 hb7 hqw7 ek vok'
      · rw [decide_eq_false e]
        exact k wt H6 z9 (k45.trans k6) hb6 hqw6 rfl vok
  obtain ⟨nc, c3, cl, cnd, cok⟩ := ok.cls
  obtain ⟨nn, n6, nl, nnd, nok⟩ := ok.nms
  have dl : D.deeds.length ≤ 6 := by rw [List.length_map] at nl; omega
  have stc : ("state" : Str) ∉ D.cols := fun z => (cok _ z).2 (List.mem_cons_self ..)
  refine ⟨Nat.zero_le _, fun fa hfa => ⟨_, _, rfl, ?_⟩⟩
  have s0 : Same H (upd H fa (.lst [])) := Same.new hfa
  have bfa : b ≠ fa := hb.ne hfa
  refine ⟨_, rfl, n, rfl, by omega, by omega, for_range (n := (n : Int).toNat) (fun i σ H' => Keep H H' ∧ IsBag H' b ∧ ∃ (rv : V) (r : Row) (xs : List V) (ss : List Step) (z5 z6 z7 z8 z9 : Option V), σ = [some (.ref b), some dv, some (.int n), some rv, some (.ref fa), z5, z6, z7, z8, z9] ∧ H' fa = some (.lst xs) ∧ Paired (IsStep H') xs ss ∧ ss.length = i ∧ StepsOk bk ss ∧ (∀ st ∈ ss, StVal st) ∧ IsRow H' rv r ∧ RowSim D r (rowAt bk ss i))
    ⟨Keep.of s0, hb.same s0, .non, none, [], [], _, _, _, _, _, rfl, upd_same, .nil, rfl, (fun i hi => absurd hi (Nat.not_lt_zero _)), (fun st hs => by cases hs), rfl, ⟨fun q z => (by cases z), rfl, ⟨fun _ => rfl, fun _ => rfl⟩⟩⟩ (fun i σ H' hi p => ?_) (fun σ H' p => ?_)⟩
  · obtain ⟨kp, hb1, rv, r, xs, ss, z5, z6, z7, z8, z9, rfl, hxs, pr, sl, so, sv, hrow, R⟩ := p
    have i12 : i < 12 := by omega
    have hd1 := IsData.stays.mono hd kp.core
    have lx : xs.length ≤ 12 := by rw [paired_len pr]; omega
    have stepsK : ∀ {G G' : Hp}, Keep G G' → G fa = some (.lst xs) → Paired (IsStep G) xs ss → G' fa = some (.lst xs) ∧ Paired (IsStep G') xs ss := fun kk h p =>
      ⟨kk _ _ h fun i j z => by
        cases z
        cases p with
        | cons h _ => exact IsStep.stays.noint h i rfl, paired_mono IsStep.stays kk.core p⟩
    refine ⟨_, rfl, _, rfl, H, dv, rv, D, r, rfl, hd, kp.core, hrow, dl, fun d hdm => (drawn_moves ok hdm).2.2.1, fun q6 ys ds H1 s1 hq6 py dl6 al => ?_⟩
    refine ⟨q6, ys, rfl, rfl, hq6, hb1.same s1, fun bb H2 k2 hb2 hne => ?_⟩
    have k12 : Keep H' H2 := (Keep.of s1).trans k2
    obtain ⟨hxs2, pr2⟩ := stepsK k12 hxs pr
    cases bb with
    | true =>
      refine ⟨_, rfl, .inl ⟨rfl, _, SqL.of hxs2⟩, fa, _, _, rfl, rfl, hxs2, Nat.lt_of_le_of_lt lx (by decide), ?_⟩
      refine ⟨keep_mut (kp.trans k12) hfa, hb2.off bfa, rv, r, xs ++ [.non], ss ++ [none], _, _, _, _, _, rfl, upd_same, paired_snoc (paired_imp (fun _ _ h => IsStep.nl h (NL.mut hxs2)) pr2) (show IsStep _ .non none from rfl), by rw [List.length_append, sl]; rfl, ?_, stv_snoc sv True.intro, ?_, ?_⟩
      · exact steps_snoc so True.intro
      · exact IsRow.nl (IsRow.stays.mono hrow k12.core) (NL.mut hxs2)
      · subst sl
        rw [row_snoc]
        exact R
    | false =>
      have yne := hne rfl
      have ynb : ∀ i j, ys ≠ [.int i, .int j] := fun i j z => by
        subst z
        cases py with
        | cons h _ => exact IsDeedRow.stays.noint h i rfl
      have hq2 := k2 _ _ hq6 fun i j z => by cases z; exact ynb i j rfl
      refine ⟨_, rfl, _, rfl, b, q6, ys, rfl, hb2, hq2, yne, by rw [paired_len py]; omega, ynb, fun v H3 k3 hb3 hv => ?_⟩
      obtain ⟨j, hj, ej⟩ := List.mem_iff_getElem.mp hv
      obtain ⟨d, hdj, hdr⟩ := paired_at py (i := j) (x := v) (by rw [List.getElem?_eq_getElem hj, ej])
      obtain ⟨hdD, hst⟩ := al d (List.mem_of_getElem? hdj)
      obtain ⟨mnd, mk, m4, osub, ond, o3⟩ := drawn_moves ok hdD
      have k13 := k12.trans k3
      have hd3 := IsData.stays.mono hd1 k13.core
      have hdr3 := IsDeedRow.stays.mono hdr (kp.trans k13).core
      have wnd : (wrD D d).Nodup := by unfold wrD; split <;> assumption
      have w3 : (wrD D d).length ≤ 3 := by unfold wrD; split <;> omega
      refine ⟨_, rfl, _, rfl, _, rfl, b, dv, v, D, d, rfl, hb3, hd3, hdr3, wnd, w3, fun qw wt H4 k4 hb4 hqw qn ew vok => ?_⟩
      have hrow3 := IsRow.stays.mono hrow k13.core
      have wl : wt.length ≤ 3 := by
        have := congrArg List.length ew
        rw [List.length_map] at this
        omega
      refine ⟨qw, rv, r, wt, H3, _, _, _, _, _, _, _, rfl, hb4, hqw, hrow3, R.ok, fun c hc => ?_, stc, wl, vok, k4, qn, fun wt' H5 z9' k5 hb5 hqw5 ek vok' => ?_⟩
      · rw [ew] at hc
        unfold wrD at hc
        split at hc
        · exact hc
        · exact osub c hc
      · have ew' : wt'.map (·.1) = wrD D d := ek.trans ew
        obtain ⟨so1, t, ht, hmk, R'⟩ := step_sim ok B hdD R hst ew' vok'
        have k35 := k13.trans k5
        obtain ⟨hxs5, pr5⟩ := stepsK k35 hxs pr
        have hdr5 := IsDeedRow.stays.mono hdr3 k5.core
        have hdr50 := hdr5
        obtain ⟨et, mv, ow, nv, rfl, het, _⟩ := hdr5
        refine ⟨_, rfl, .inl ⟨rfl, _, SqL.of hxs5⟩, _, rfl, et, _, 1, _, rfl, rfl, SqT.of het, rfl, _, rfl, by show 2 ≤ sizeLine; decide, fun tp htp => ?_⟩
        have s6 : Same H5 (upd H5 tp (.tup [.str d.name, .ref qw])) := Same.new htp
        have htp6 : (upd H5 tp (.tup [.str d.name, .ref qw])) tp = some (.tup [.str d.name, .ref qw]) := upd_same
        revert s6 htp6
        generalize upd H5 tp (.tup [.str d.name, .ref qw]) = H6
        intro s6 htp6
        have hxs6 := s6 _ _ hxs5
        refine ⟨fa, _, _, rfl, rfl, hxs6, Nat.lt_of_le_of_lt lx (by decide), ?_⟩
        have nl7 : NL H6 (upd H6 fa (.lst (xs ++ [.ref tp]))) := NL.mut hxs6
        have k7 : Keep H (upd H6 fa (.lst (xs ++ [.ref tp]))) := keep_mut ((kp.trans k35).trans (Keep.of s6)) hfa
        have step7 : IsStep (upd H6 fa (.lst (xs ++ [.ref tp]))) (.ref tp) (some (d.name, wt')) := ⟨tp, .ref qw, rfl, nl7 _ _ htp6 True.intro, qw, rfl, nl7 _ _ (s6 _ _ hqw5) True.intro⟩
        have pr7 : Paired (IsStep (upd H6 fa (.lst (xs ++ [.ref tp])))) (xs ++ [.ref tp]) (ss ++ [some (d.name, wt')]) :=
          paired_snoc (paired_imp (fun _ _ h => IsStep.nl h ((NL.of s6).trans nl7)) pr5) step7
        have hfa7 : (upd H6 fa (.lst (xs ++ [.ref tp]))) fa = some (.lst (xs ++ [.ref tp])) := upd_same
        have hb7 : IsBag (upd H6 fa (.lst (xs ++ [.ref tp]))) b := (hb5.same s6).off bfa
        have hrow7 : IsRow (upd H6 fa (.lst (xs ++ [.ref tp]))) rv r := IsRow.nl (IsRow.stays.mono hrow3 k5.core) ((NL.of s6).trans nl7)
        have hw7 : IsW (upd H6 fa (.lst (xs ++ [.ref tp]))) (.ref qw) wt' := ⟨qw, rfl, nl7 _ _ (s6 _ _ hqw5) True.intro⟩
        have hd7 := IsData.stays.mono hd k7.core
        have hdr7 := IsDeedRow.stays.mono hdr k7.core
        have m4' := m4
        refine ⟨_, rfl, _, rfl, _, rfl, _, rfl, dv, rv, _, .ref qw, D, r, d, wt', t, rfl, hd7, hrow7, hdr7, hw7, m4, ht, cnd, stc, by omega, R.ok, vok', fun z c hc => ?_, fun rv' H8 r' s8 hrow8 lro' st' no' => ?_⟩
        · rw [ew']
          unfold wrD
          rw [if_pos (hmk z)]
          exact hc
        · refine ⟨k7.trans (Keep.of s8), hb7.same s8, rv', r', xs ++ [.ref tp], ss ++ [some (d.name, wt')], _, _, _, _, _, rfl, s8 _ _ hfa7, paired_mono IsStep.stays (Core.of s8) pr7, by rw [List.length_append, sl]; rfl, ?_, stv_snoc sv vok', hrow8, ?_⟩
          · subst sl; exact steps_snoc so so1
          · subst sl
            rw [row_snoc]
            exact R' r' lro' st' no'
  · obtain ⟨kp, hb1, rv, r, xs, ss, z5, z6, z7, z8, z9, rfl, hxs, pr, sl, so, sv, hrow, R⟩ := p
    have e : (n : Int).toNat = n := by omega
    exact ⟨_, rfl, k fa xs ss H' kp hb1 hxs pr (by omega) so sv⟩
end
end Pn

-- PnN11
set_option maxHeartbeats 8000000
namespace Pn
open PySem PySem.Spec L2 PyProof.Rows StX ClX
section
variable {P : Program} {w : World} {K : PySem.W.Frag}
      {mg : Str → Option Value} {base : Heap}
def r_lcopy : RC := fun vs _ H Q => ∃ (q : Addr) (xs : List V) (ss : List Step), vs = [.ref q] ∧ H q = some (.lst xs) ∧ Paired (IsStep H) xs ss ∧ ss.length ≤ 100 ∧ ∀ v' H', Same H H' → LOf IsStep H' v' ss → Q v' H'
theorem ok_l_copy (T : Tx K mg) : Cal P w K mg base false 1 "_law_copy" r_lcopy := by
  refine cal_at T.d_l_copy T.g_l_copy sc_l_copy (fun vs H Q h => by obtain ⟨_, _, _, rfl, _⟩ := h; rfl) (fun _ _ _ _ _ _ us hl => match us, hl with | [_], _ => rfl) fun cdv A outer s H vs Q hr _ h => ?_
  obtain ⟨q, xs, ss, rfl, hq, pr, l100, k⟩ := h
  refine ⟨_, (pss_one (ps_ret (pe_lc (own := [("_law_step", 1)]) rfl sc_l_copy.nd (pi_list (pv 0)) (blkOk_by rfl) (fun _ _ _ _ _ => pg_name (i := 1) sc_l_copy.nd rfl (Or.inl rfl)) (fun _ _ _ _ _ => pts_nil) (fun _ _ _ _ _ => (pe_ifExp (pt_cmp (pc_isN (pv 1))) pe_non (pe_tup (pa_cons (pe_ix (show IxR _ (rIxT K) from ix_tup) (pv 1) pe_int (fun _ _ => rfl)) (pa_cons (pe_callTy call_dictD rfl T.f_dict boot_dict (pa_cons (pe_ix (show IxR _ (rIxT K) from ix_tup) (pv 1) pe_int (fun _ _ => rfl)) pa_nil)) pa_nil)))))))), ?_⟩
  refine ⟨_, rfl, q, rfl, ⟨_, SqL.of hq⟩, fun E hE => lc_list (vs := [1]) (xs := xs) (fun i H' => Same H H' ∧ ∃ ys, H' E = some (.lst ys) ∧ Paired (IsStep H') ys (ss.take i) ∧ ys.length ≤ 100) ⟨Same.new hE, [], upd_same, .nil, Nat.zero_le _⟩ (fun i H' _ p => SqL.of (p.1 _ _ hq)) (fun i x H' hx p => ?_) (fun H' p => ?_)⟩
  · obtain ⟨sm, ys, hys, py, _⟩ := p
    obtain ⟨st, hst, hs⟩ := paired_at pr hx
    have il : i < ss.length := by
      rcases Nat.lt_or_ge i ss.length with h | h
      · exact h
      · rw [List.getElem?_eq_none h] at hst; cases hst
    have ly : ys.length = i := by rw [paired_len py, List.length_take]; omega
    have hlt : ys.length < sizeLine := Nat.lt_of_le_of_lt (by omega : _ ≤ 100) (by decide)
    cases st with
    | none =>
      obtain rfl : x = .non := hs
      refine ⟨rfl, _, rfl, true, rfl, _, hys, hlt, same_mut sm hE, ys ++ [.non], upd_same, ?_, by rw [List.length_append]; show ys.length + 1 ≤ 100; omega⟩
      rw [take_snoc hst]
      exact paired_snoc (paired_imp (fun _ _ h => IsStep.nl h (NL.mut hys)) py) (show IsStep _ .non none from rfl)
    | some st =>
      obtain ⟨nm, wt⟩ := st
      obtain ⟨t, y, rfl, ht, ya, rfl, hya⟩ := hs
      refine ⟨rfl, _, rfl, false, rfl, _, rfl, t, _, 0, _, rfl, rfl, SqT.of (sm _ _ ht), rfl, _, rfl, t, _, 1, _, rfl, rfl, SqT.of (sm _ _ ht), rfl, ya, _, rfl, .inl (sm _ _ hya), fun p hp => ⟨by show 2 ≤ sizeLine; decide, fun tp htp => ?_⟩⟩
      have s2 := (Same.new (o := .dK (colKV wt)) hp).trans (Same.new (o := .tup [.str nm, .ref p]) htp)
      have hys2 := s2 _ _ hys
      have nl : NL _ (upd (upd (upd H' p (.dK (colKV wt))) tp (.tup [.str nm, .ref p])) E (.lst (ys ++ [.ref tp]))) := NL.mut hys2
      refine ⟨_, hys2, hlt, same_mut (sm.trans s2) hE, ys ++ [.ref tp], upd_same, ?_, by rw [List.length_append]; show ys.length + 1 ≤ 100; omega⟩
      rw [take_snoc hst]
      exact paired_snoc (paired_imp (fun _ _ h => IsStep.nl h ((NL.of s2).trans nl)) py) ⟨tp, .ref p, rfl, nl _ _ upd_same True.intro, p, rfl, nl _ _ (Same.new htp _ _ upd_same) True.intro⟩
  · obtain ⟨sm, ys, hys, py, _⟩ := p
    rw [paired_len pr, List.take_length] at py
    exact k _ H' sm ⟨E, ys, rfl, hys, py⟩
def laterE (p : Int) (e : EntryD) : EntryD := { e with at_ := if e.at_ > p then e.at_ + 1 else e.at_ }
def r_llater (K : PySem.W.Frag) : RC := fun vs _ H Q => ∃ (ev : V) (es : List EntryD) (p : Int), vs = [ev, .int p] ∧ LOf (IsEntry K) H ev es ∧ es.length ≤ 500 ∧ ∀ v' H', Same H H' → LOf (IsEntry K) H' v' (es.map (laterE p)) → Q v' H'
theorem ok_l_later (T : Tx K mg) : Cal P w K mg base false 1 "_law_later" (r_llater K) := by
  refine cal_at T.d_l_later T.g_l_later sc_l_later (fun vs H Q h => by obtain ⟨_, _, _, rfl, _⟩ := h; rfl) (fun _ _ _ _ _ _ us hl => match us, hl with | [_, _], _ => rfl) fun cdv A outer s H vs Q hr _ h => ?_
  obtain ⟨ev, es, pl, rfl, ⟨a, xs, rfl, ha, pr⟩, l5, k⟩ := h
  refine ⟨_, (pss_cons (ps_set (i := 2) sc_l_later.nd rfl (Or.inl rfl) (pe_lst pa_nil))
    (pss_cons (ps_for PassesOwn.never rfl (pi_list (pv 0)) (pg_tup rfl (pgs_cons (pg_name (i := 3) sc_l_later.nd rfl (Or.inl rfl)) (pgs_cons (pg_name (i := 4) sc_l_later.nd rfl (Or.inl rfl)) (pgs_cons (pg_name (i := 5) sc_l_later.nd rfl (Or.inl rfl)) (pgs_cons (pg_name (i := 6) sc_l_later.nd rfl (Or.inl rfl)) pgs_nil))))) (pss_one (ps_expr (pe_bm PySem.F.plainAttrs_list PySem.F.slot_list_append PySem.F.type_list_append mt_append (pv 2) (pa_cons (pe_tup (pa_cons (pe_weak (t' := fun σ H Q => ∃ m : Int, σ[3]? = some (some (.int m)) ∧ σ[1]? = some (some (.int pl)) ∧ Q (.int (if m > pl then m + 1 else m)) H) (pe_ifExp (pt_cmpR op_gt (pv 3) (pv 1) (nomark _)) (pe_op op_add (pv 3) pe_int) (pv 3)) fun σ H Q h => ?mm) (pa_cons (pv 4) (pa_cons (pv 5) (pa_cons (pv 6) pa_nil))))) pa_nil)))))
    (pss_one (ps_ret (pv 2))))), ?_⟩
  case mm =>
    obtain ⟨m, h3, h1, k⟩ := h
    refine ⟨_, h3, _, h1, m, pl, rfl, rfl, decide (pl < m), rfl, ?_⟩
    by_cases e : pl < m
    · rw [decide_eq_true e]
      rw [if_pos e] at k
      exact ⟨_, h3, _, _, rfl, rfl, k⟩
    · rw [decide_eq_false e]
      rw [if_neg e] at k
      exact ⟨_, h3, k⟩
  refine ⟨Nat.zero_le _, fun E hE => ?_⟩
  have s0 : Same H (upd H E (.lst [])) := Same.new hE
  refine ⟨_, rfl, a, rfl, ⟨_, SqL.of (s0 _ _ ha)⟩, for_list (xs := xs) (fun i σ H' => Same H H' ∧ ∃ ys z3 z4 z5 z6, σ = [some (.ref a), some (.int pl), some (.ref E), z3, z4, z5, z6] ∧ H' E = some (.lst ys) ∧ Paired (IsEntry K H') ys ((es.take i).map (laterE pl)) ∧ ys.length ≤ 500) ⟨s0, [], _, _, _, _, rfl, upd_same, .nil, Nat.zero_le _⟩ (fun i σ H' _ q => SqL.of (q.1 _ _ ha)) (fun i x σ H' hx q => ?_) (fun σ H' q => ?_)⟩
  · obtain ⟨sm, ys, z3, z4, z5, z6, rfl, hys, py, _⟩ := q
    obtain ⟨e, he, hee⟩ := paired_at pr hx
    obtain ⟨t, x1, y1, rfl, ht, p1, p2⟩ := hee
    have il : i < es.length := by
      rcases Nat.lt_or_ge i es.length with h | h
      · exact h
      · rw [List.getElem?_eq_none h] at he; cases he
    have ly : ys.length = i := by rw [paired_len py, List.length_map, List.length_take]; omega
    refine ⟨t, _, rfl, SqT.of (sm _ _ ht), rfl, _, _, rfl, _, _, rfl, _, _, rfl, _, _, rfl, rfl, ?_⟩
    refine ⟨_, rfl, .inl ⟨rfl, _, SqL.of hys⟩, e.at_, rfl, rfl, _, rfl, _, rfl, _, rfl, by show 4 ≤ sizeLine; decide, fun tp htp => ?_⟩
    have s2 := Same.new (o := .tup [.int (if e.at_ > pl then e.at_ + 1 else e.at_), .str e.name, x1, y1]) htp
    have hys2 := s2 _ _ hys
    refine ⟨E, _, _, rfl, rfl, hys2, Nat.lt_of_le_of_lt (by omega : _ ≤ 500) (by decide), same_mut (sm.trans s2) hE, ys ++ [.ref tp], _, _, _, _, rfl, upd_same, ?_, by rw [List.length_append]; show ys.length + 1 ≤ 500; omega⟩
    have nl : NL _ (upd (upd H' tp (.tup [.int (if e.at_ > pl then e.at_ + 1 else e.at_), .str e.name, x1, y1])) E (.lst (ys ++ [.ref tp]))) := NL.mut hys2
    have nl2 : NL H' (upd (upd H' tp (.tup [.int (if e.at_ > pl then e.at_ + 1 else e.at_), .str e.name, x1, y1])) E (.lst (ys ++ [.ref tp]))) := (NL.of s2).trans nl
    have nlH : NL H (upd (upd H' tp (.tup [.int (if e.at_ > pl then e.at_ + 1 else e.at_), .str e.name, x1, y1])) E (.lst (ys ++ [.ref tp]))) := (NL.of sm).trans nl2
    rw [take_snoc he, List.map_append]
    exact paired_snoc (paired_imp (fun _ _ h => IsEntry.nl h nl2) py) ⟨tp, x1, y1, rfl, nl _ _ upd_same True.intro, IsPairs.nl p1 nlH, IsPairs.nl p2 nlH⟩
  · obtain ⟨sm, ys, z3, z4, z5, z6, rfl, hys, py, _⟩ := q
    rw [paired_len pr, List.take_length] at py
    exact ⟨_, rfl, k _ H' sm ⟨E, ys, rfl, hys, py⟩⟩
theorem cut_drop (xs : List V) (i : Nat) : cutV xs (some (i : Int)) none = xs.drop i := by
  unfold cutV
  rw [HT.sIx_none, HT.sIx_nat]
  rcases Nat.le_total i xs.length with h | h
  · rw [Nat.min_eq_left h, List.take_of_length_le (by rw [List.length_drop]; omega)]
  · rw [Nat.min_eq_right h, Nat.sub_self, List.take_zero, List.drop_eq_nil_of_le h]
def r_llonger : RC := fun vs _ H Q => ∃ (a : Addr) (xs : List V) (p : Nat) (x : V), vs = [.ref a, .int p, x] ∧ H a = some (.lst xs) ∧ xs.length ≤ 1000 ∧ ∀ q H', Same H H' → H' q = some (.lst (xs.take (p + 1) ++ [x] ++ xs.drop (p + 1))) → Q (.ref q) H'
theorem ok_l_longer (T : Tx K mg) : Cal P w K mg base false 1 "_law_longer" r_llonger := by
  refine cal_at T.d_l_longer T.g_l_longer sc_l_longer (fun vs H Q h => by obtain ⟨_, _, _, _, rfl, _⟩ := h; rfl) (fun _ _ _ _ _ _ us hl => match us, hl with | [_, _, _], _ => rfl) fun cdv A outer s H vs Q hr _ h => ?_
  obtain ⟨a, xs, p, x, rfl, ha, l1, k⟩ := h
  refine ⟨_, (pss_one (ps_ret (pe_op op_cat (pe_op op_cat (pe_slice sl_list (pv 0) po_none (po_some (pe_op op_add (pv 1) pe_int))) (pe_lst (pa_cons (pv 2) pa_nil))) (pe_slice sl_list (pv 0) (po_some (pe_op op_add (pv 1) pe_int)) po_none)))), ?_⟩
  have e1 : ((p : Int) + 1) = ((p + 1 : Nat) : Int) := by omega
  refine ⟨_, rfl, _, rfl, _, _, rfl, rfl, _, rfl, a, xs, rfl, SqL.of ha, fun q1 hq1 => ?_⟩
  have s1 := Same.new (o := .lst (cutV xs none (some ((p : Int) + 1)))) hq1
  refine ⟨_, rfl, by show 1 ≤ sizeLine; decide, fun q2 hq2 => ?_⟩
  have s2 := Same.new (o := .lst [x]) hq2
  have lt : (cutV xs none (some ((p : Int) + 1))).length ≤ xs.length := cutV_length _ _ _
  refine ⟨q1, q2, _, _, rfl, rfl, s2 _ _ upd_same, upd_same, Nat.le_trans (by show _ + 1 ≤ 1001; omega) (by decide), fun q3 hq3 => ?_⟩
  have s3 := Same.new (o := .lst (cutV xs none (some ((p : Int) + 1)) ++ [x])) hq3
  have s123 := (s1.trans s2).trans s3
  refine ⟨_, rfl, _, rfl, _, _, rfl, rfl, _, rfl, a, xs, rfl, SqL.of (s123 _ _ ha), fun q4 hq4 => ?_⟩
  have s4 := Same.new (o := .lst (cutV xs (some ((p : Int) + 1)) none)) hq4
  have lt2 : (cutV xs (some ((p : Int) + 1)) none).length ≤ xs.length := cutV_length _ _ _
  refine ⟨q3, q4, _, _, rfl, rfl, s4 _ _ upd_same, upd_same, Nat.le_trans (by rw [List.length_append]; show _ + 1 + _ ≤ 2001; omega) (by decide), fun q5 hq5 => ?_⟩
  refine k q5 _ ((s123.trans s4).trans (Same.new hq5)) ?_
  rw [upd_same, e1, cut_take, cut_drop]
end
end Pn

-- PnP
set_option
      maxHeartbeats 4000000
namespace Pn
open PySem PySem.Spec L2 PyProof.Rows StX ClX
def ins {α : Type} (l : List α) (p : Nat) (x : α) : List α := l.take p ++ [x] ++ l.drop p
theorem ins_at {α : Type} {l : List α} {p : Nat} {x : α} (hp : p ≤ l.length) (i : Nat) : (ins l p x)[i]? = if i < p then l[i]? else if i = p then some x else l[i - 1]? := by
  unfold ins
  have lt : (l.take p).length = p := by rw [List.length_take]; omega
  rw [List.append_assoc, List.getElem?_append, lt]
  by_cases h : i < p
  · rw [if_pos h, if_pos h, List.getElem?_take, if_pos h]
  · rw [if_neg h, if_neg h]
    by_cases e : i = p
    · rw [if_pos e, e, Nat.sub_self]
      rfl
    · rw [if_neg e]
      obtain ⟨j, rfl⟩ : ∃ j, i = p + (j + 1) := ⟨i - p - 1, by omega⟩
      have e1 : p + (j + 1) - p = j + 1 := by omega
      have e2 : p + (j + 1) - 1 = p + j := by omega
      rw [e1, e2]
      show ([x] ++ l.drop p)[j + 1]? = _
      rw [List.singleton_append, List.getElem?_cons_succ, List.getElem?_drop]
theorem ins_length {α : Type} {l : List α} {p : Nat} {x : α} (hp : p ≤ l.length) : (ins l p x).length = l.length + 1 := by
  unfold ins
  rw [List.length_append, List.length_append, List.length_take, List.length_drop]
  show min p l.length + 1 + (l.length - p) = _
  omega
theorem range_ins {α : Type} {f f' : Nat → α} {x : α} {q m : Nat} (hq : q ≤ m) (h1 : ∀ i, i < q → f' i = f i) (h2 : f' q = x) (h3 : ∀ i, q < i → f' i = f (i - 1)) : (List.range (m + 1)).map f' = ins ((List.range m).map f) q x := by
  have hl : q ≤ ((List.range m).map f).length := by rw [List.length_map, List.length_range]; exact hq
  apply List.ext_getElem?
  intro i
  rw [ins_at hl, List.getElem?_map, List.getElem?_map, List.getElem?_map]
  by_cases c1 : i < q
  · rw [if_pos c1, List.getElem?_range (by omega), List.getElem?_range (by omega)]
    show some (f' i) = some (f i)
    rw [h1 i c1]
  · rw [if_neg c1]
    by_cases c2 : i = q
    · rw [if_pos c2, c2, List.getElem?_range (by omega)]
      show some (f' q) = some x
      rw [h2]
    · rw [if_neg c2]
      by_cases c3 : i < m + 1
      · rw [List.getElem?_range c3, List.getElem?_range (by omega)]
        show some (f' i) = some (f (i - 1))
        rw [h3 i (by omega)]
      · rw [List.getElem?_eq_none (by rw [List.length_range]; omega), List.getElem?_eq_none (by rw [List.length_range]; omega)]
        rfl
section
variable {b : DataD} {ss : List Step} {p : Nat}
theorem stepAt_ins (hp : p ≤ ss.length) (i : Nat) : stepAt (ins ss p none) i = if i < p then stepAt ss i else if i = p then none else stepAt ss (i - 1) := by
  unfold stepAt
  rw [ins_at hp]
  split
  · rfl
  · split <;> rfl
theorem rowAt_ins (hp : p ≤ ss.length) : ∀ i, rowAt b (ins ss p none) i = if i ≤ p then rowAt b ss i else rowAt b ss (i - 1)
  | 0 => by rw [if_pos (Nat.zero_le _)]; rfl
  | i + 1 => by
    show rowStep b (rowAt b (ins ss p none) i) (stepAt (ins ss p none) i) = _
    rw [rowAt_ins hp i, stepAt_ins hp i]
    rcases Nat.lt_trichotomy i p with h | h | h
    · rw [if_pos (Nat.le_of_lt h), if_pos h, if_pos (show i + 1 ≤ p from h)]; rfl
    · subst h
      rw [if_pos (Nat.le_refl _), if_neg (Nat.lt_irrefl _), if_pos rfl, if_neg (by omega)]
      rfl
    · rw [if_neg (by omega), if_neg (by omega), if_neg (by omega), if_neg (by omega)]
      obtain ⟨j, rfl⟩ : ∃ j, i = j + 1 := ⟨i - 1, by omega⟩
      rfl
theorem steps_ins (hp : p ≤ ss.length) (h : StepsOk b ss) : StepsOk b (ins ss p none) := fun i hi => by
  rw [ins_length hp] at hi
  rw [stepAt_ins hp]
  rcases Nat.lt_trichotomy i p with c | c | c
  · rw [if_pos c, rowAt_ins hp, if_pos (Nat.le_of_lt c)]
    exact h i (by omega)
  · rw [if_neg (by omega), if_pos c]
    exact True.intro
  · rw [if_neg (by omega), if_neg (by omega), rowAt_ins hp, if_neg (by omega)]
    exact h (i - 1) (by omega)
theorem stand_ins (hp : p ≤ ss.length) : standTo b (ins ss p none) (ss.length + 1) = ins (standTo b ss ss.length) (p + 1) (rowAt b ss p) := by
  unfold standTo
  refine range_ins (by omega) (fun i hi => ?_) ?_ fun i hi => ?_
  · rw [rowAt_ins hp, if_pos (by omega)]
  · rw [rowAt_ins hp, if_neg (by omega)]; rfl
  · rw [rowAt_ins hp, if_neg (by omega)]
theorem later_step (k : Int) (row : Row) (st : Step) (p : Int) : (stepEntry b k row st).map (laterE p) = if k > p then stepEntry b (k + 1) row st else stepEntry b k row st := by
  cases st with
  | none => unfold stepEntry; simp
  | some s =>
    obtain ⟨n, w⟩ := s
    unfold stepEntry entryOf
    show ((match (b.find n).bind (fun d => d.note) with
      | none => none
      | some nt => (noteEntry nt n row (rowStep b row (some (n, w)))).map fun e => (⟨k, e.1, e.2.1, e.2.2⟩ : EntryD)) : Option EntryD).toList.map (laterE p) = if k > p then ((match (b.find n).bind (fun d => d.note) with
      | none => none
      | some nt => (noteEntry nt n row (rowStep b row (some (n, w)))).map fun e => (⟨k + 1, e.1, e.2.1, e.2.2⟩ : EntryD)) : Option EntryD).toList else ((match (b.find n).bind (fun d => d.note) with
      | none => none
      | some nt => (noteEntry nt n row (rowStep b row (some (n, w)))).map fun e => (⟨k, e.1, e.2.1, e.2.2⟩ : EntryD)) : Option EntryD).toList
    generalize (b.find n).bind (fun d => d.note) = o
    cases o with
    | none => simp
    | some nt =>
      show ((noteEntry nt n row (rowStep b row (some (n, w)))).map fun e => (⟨k, e.1, e.2.1, e.2.2⟩ : EntryD)).toList.map (laterE p) = if k > p then ((noteEntry nt n row (rowStep b row (some (n, w)))).map fun e => (⟨k + 1, e.1, e.2.1, e.2.2⟩ : EntryD)).toList else ((noteEntry nt n row (rowStep b row (some (n, w)))).map fun e => (⟨k, e.1, e.2.1, e.2.2⟩ : EntryD)).toList
      cases noteEntry nt n row (rowStep b row (some (n, w))) with
      | none => simp
      | some e =>
        show [laterE p ⟨k, e.1, e.2.1, e.2.2⟩] = if k > p then [⟨k + 1, e.1, e.2.1, e.2.2⟩] else [⟨k, e.1, e.2.1, e.2.2⟩]
        unfold laterE
        by_cases c : k > p
        · rw [if_pos c]; simp [c]
        · rw [if_neg c]; simp [c]
theorem noted_ins (hp : p ≤ ss.length) : notedTo b (ins ss p none) (ss.length + 1) = (notedTo b ss ss.length).map (laterE p) := by
  have key : (List.range (ss.length + 1)).map (fun i : Nat => stepEntry b ((i : Int) + 1) (rowAt b (ins ss p none) i) (stepAt (ins ss p none) i)) =
      ins ((List.range ss.length).map fun i : Nat => (stepEntry b ((i : Int) + 1) (rowAt b ss i) (stepAt ss i)).map (laterE p)) p [] := by
    refine range_ins hp (fun i hi => ?_) ?_ fun i hi => ?_
    · show _ = (stepEntry b ((i : Int) + 1) (rowAt b ss i) (stepAt ss i)).map (laterE p)
      rw [later_step, if_neg (by omega), stepAt_ins hp, if_pos hi, rowAt_ins hp, if_pos (Nat.le_of_lt hi)]
    · show stepEntry b ((p : Int) + 1) (rowAt b (ins ss p none) p) (stepAt (ins ss p none) p) = []
      rw [stepAt_ins hp, if_neg (Nat.lt_irrefl _), if_pos rfl]
      rfl
    · show _ = (stepEntry b (((i - 1 : Nat) : Int) + 1) (rowAt b ss (i - 1)) (stepAt ss (i - 1))).map (laterE p)
      rw [later_step, if_pos (by omega), stepAt_ins hp, if_neg (by omega), if_neg (by omega), rowAt_ins hp, if_neg (by omega)]
      have e : (((i - 1 : Nat) : Int) + 1) + 1 = (i : Int) + 1 := by omega
      rw [e]
  unfold notedTo
  rw [key, List.map_flatten, List.map_map]
  unfold ins
  rw [List.flatten_append, List.flatten_append]
  show _ ++ ([] : List EntryD) ++ _ = _
  rw [List.append_nil, ← List.flatten_append, List.take_append_drop]
  rfl
theorem lastOnes_map {α β : Type} (f : α → β) (k : Option Int) (l : List α) : lastOnes k (l.map f) = (lastOnes k l).map f := by
  cases k with
  | none => rfl
  | some k => show (l.map f).drop ((l.map f).length - k.toNat) = (l.drop (l.length - k.toNat)).map f; rw [List.length_map, List.map_drop]
end
end Pn

-- PnP2
set_option
      maxHeartbeats 4000000
namespace Pn
open PySem PySem.Spec L2 PyProof.Rows StX ClX
section
variable {b : DataD} {ss : List Step} {p : Nat}
theorem standTo_len (b : DataD) (ss : List Step) (n : Nat) : (standTo b ss n).length = n + 1 := by
  unfold standTo
  rw [List.length_map,
        List.length_range]
theorem standTo_at {n i : Nat} (h : i ≤ n) : (standTo b ss n)[i]? = some (rowAt b ss i) := by
  unfold standTo
  rw [List.getElem?_map, List.getElem?_range (by omega)]
  rfl
theorem hist_ins (hp : p ≤ ss.length) : (histOf b (ins ss p none)).stand = ins (histOf b ss).stand (p + 1) (rowAt b ss p) := by
  show standTo b (ins ss p none) (ins ss p none).length = ins (standTo b ss ss.length) (p + 1) (rowAt b ss p)
  rw [ins_length hp, stand_ins hp]
theorem hist_noted (hp : p ≤ ss.length) : (histOf b (ins ss p none)).noted = (histOf b ss).noted.map (laterE p) := by
  show notedTo b (ins ss p none) (ins ss p none).length = _
  rw [ins_length hp, noted_ins hp]
  rfl
theorem standD (hp : p ≤ ss.length) (i : Nat) : (((histOf b (ins ss p none)).stand)[i]?).getD none = if i ≤ p then (((histOf b ss).stand)[i]?).getD none else (((histOf b ss).stand)[i - 1]?).getD none := by
  rw [hist_ins hp, ins_at (by show p + 1 ≤ (standTo b ss ss.length).length; rw [standTo_len]; omega)]
  by_cases c : i ≤ p
  · rw [if_pos (by omega), if_pos c]
  · rw [if_neg (by omega), if_neg c]
    by_cases e : i = p + 1
    · rw [if_pos e, e]
      show (some (rowAt b ss p)).getD none = ((standTo b ss ss.length)[p]?).getD none
      rw [standTo_at hp]
    · rw [if_neg e]
theorem cell_ne {h : HistD} {tg : Str} {m : Nat} (n : tg ≠ "deed") : cell h tg m = if tg = "state" then .flat (.str (stOf ((h.stand[m]?).getD none))) else if tg = "row" then .row ((h.stand[m]?).getD none) else .flat (optV (colV ((h.stand[m]?).getD none) tg)) := by
  unfold cell
  rw [if_neg n]
theorem cell_deed {h : HistD} {m : Nat} : cell h "deed" m = .flat (deedV h.done m) := by
  unfold cell
  rw [if_neg (by decide), if_neg (by decide), if_pos rfl]
theorem cell_ins (hp : p ≤ ss.length) {tg : Str} (n : tg ≠ "deed") (i : Nat) : cell (histOf b (ins ss p none)) tg i = if i ≤ p then cell (histOf b ss) tg i else cell (histOf b ss) tg (i - 1) := by
  rw [cell_ne n, cell_ne n, cell_ne n, standD hp]
  by_cases c : i ≤ p
  · rw [if_pos c, if_pos c]
  · rw [if_neg c, if_neg c]
theorem cells_ins (hp : p ≤ ss.length) {tg : Str} (n : tg ≠ "deed") : cells (histOf b (ins ss p none)) tg = ins (cells (histOf b ss) tg) (p + 1) (cell (histOf b ss) tg p) := by
  unfold cells
  have e : (histOf b (ins ss p none)).stand.length = (histOf b ss).stand.length + 1 := by
    rw [hist_ins hp, ins_length (by show p + 1 ≤ (standTo b ss ss.length).length; rw [standTo_len]; omega)]
  rw [e]
  refine range_ins (by show p + 1 ≤ (standTo b ss ss.length).length; rw [standTo_len]; omega) (fun i hi => ?_) ?_ fun i hi => ?_
  · rw [cell_ins hp n, if_pos (by omega)]
  · rw [cell_ins hp n, if_neg (by omega)]; rfl
  · rw [cell_ins hp n, if_neg (by omega)]
theorem cells_at {h : HistD} {tg : Str} {m : Nat} (hm : m < h.stand.length) : (cells h tg)[m]? = some (cell h tg m) := by
  unfold cells
  rw [List.getElem?_map, List.getElem?_range hm]
  rfl
theorem deed_ins (hp : p ≤ ss.length) : cells (histOf b (ins ss p none)) "deed" = ins (cells (histOf b ss) "deed") (p + 1) (.flat .non) := by
  unfold cells
  have e : (histOf b (ins ss p none)).stand.length = (histOf b ss).stand.length + 1 := by
    rw [hist_ins hp, ins_length (by show p + 1 ≤ (standTo b ss ss.length).length; rw [standTo_len]; omega)]
  rw [e]
  have dv : ∀ m, deedV (ins ss p none) (m + 1) = if m < p then deedV ss (m + 1) else if m = p then .non else deedV ss m := fun m => by
    show (match stepAt (ins ss p none) m with | none => V.non | some q => .str q.1) = _
    rw [stepAt_ins hp]
    by_cases c : m < p
    · rw [if_pos c, if_pos c]; rfl
    · rw [if_neg c, if_neg c]
      by_cases d : m = p
      · rw [if_pos d, if_pos d]
      · rw [if_neg d, if_neg d]
        obtain ⟨j, rfl⟩ : ∃ j, m = j + 1 := ⟨m - 1, by omega⟩
        rfl
  refine range_ins (by show p + 1 ≤ (standTo b ss ss.length).length; rw [standTo_len]; omega) (fun i hi => ?_) ?_ fun i hi => ?_
  · rw [cell_deed, cell_deed]
    cases i with
    | zero => rfl
    | succ m =>
      show Cell.flat (deedV (ins ss p none) (m + 1)) = .flat (deedV ss (m + 1))
      rw [dv, if_pos (by omega)]
  · rw [cell_deed]
    show Cell.flat (deedV (ins ss p none) (p + 1)) = .flat .non
    rw [dv, if_neg (Nat.lt_irrefl _), if_pos rfl]
  · rw [cell_deed, cell_deed]
    obtain ⟨m, rfl⟩ : ∃ m, i = m + 1 := ⟨i - 1, by omega⟩
    show Cell.flat (deedV (ins ss p none) (m + 1)) = .flat (deedV ss m)
    rw [dv, if_neg (by omega), if_neg (by omega)]
theorem dd_twice (acc : List Int) (o : Option Int) : ddStep (ddStep acc o) o = ddStep acc o := by
  cases o with
  | none => rfl
  | some i =>
    rw [dd_some acc i]
    by_cases c : acc.getLast? = some i
    · rw [if_pos c, dd_some, if_pos c]
    · rw [if_neg c, dd_some, if_pos (by simp)]
theorem course_ins (hp : p ≤ ss.length) (c : Str) : course (histOf b (ins ss p none)) c = course (histOf b ss) c := by
  unfold course
  rw [hist_ins hp]
  have hat : ((histOf b ss).stand)[p]? = some (rowAt b ss p) := standTo_at hp
  have e1 := take_snoc hat
  have e2 : ((histOf b ss).stand.take (p + 1)).map (fun r => colV r c) = ((histOf b ss).stand.take p).map (fun r => colV r c) ++ [colV (rowAt b ss p) c] := by rw [e1, List.map_append]; rfl
  unfold ins dedup
  rw [List.map_append, List.map_append, List.foldl_append, List.foldl_append, e2, List.foldl_append]
  show List.foldl ddStep (ddStep (ddStep _ _) _) _ = _
  rw [dd_twice]
  conv => rhs; rw [← List.take_append_drop (p + 1) ((histOf b ss).stand), List.map_append, List.foldl_append, e2, List.foldl_append]
  rfl
theorem last_ins (hp : p ≤ ss.length) : rowAt b (ins ss p none) (ins ss p none).length = rowAt b ss ss.length := by
  rw [ins_length hp, rowAt_ins hp, if_neg (by omega)]
  rfl
end
end Pn

-- PnQ1
set_option
      maxHeartbeats 4000000
namespace Pn
open PySem PySem.Spec L2 PyProof.Rows StX ClX
section
variable {X : Cx}
def rReprD (K : PySem.W.Frag) : List V → Hp → VK → Prop := fun vs H Q => ∃ (a : Addr) (d : PyData), vs = [.ref a] ∧ Dp K H (.ref a) d ∧ d.showable = true ∧ d.hasDict = false ∧ d.depth ≤ 50 ∧ d.shown.length ≤ sizeLine ∧ Q (.str d.shown) H
theorem cr_reprD (hg : X.A.guards = some []) (hu : X.A.units + 64 < cLine) : CallR X (.builtin "repr") (rReprD X.K) := by
  intro pins s σ H vs us Q I rv h
  obtain ⟨a, d, rfl, hd, sh, nd, dp, sz, q⟩ := h
  obtain rfl := Vals.ref1 rv
  obtain ⟨as, r⟩ := Dp.reads I d (.ref a) (.ref a) hd rfl
  exact repr_of_reads' r sh (fun z => by rw [nd] at z; cases z) hg (by omega) (fun _ _ e => e) (fun h' u tk hk => ⟨.str d.shown, H, I.kept (t' := tk) hk, ⟨u, rfl⟩, q⟩) sz
end
end Pn

-- PnQ2
set_option
      maxHeartbeats 4000000
namespace Pn
open PySem PySem.Spec L2 PyProof.Rows StX ClX
def encV : V → PyData
  | .int i => .int i
  | .str s => .str s
  | _ => .none
def encP (q : Str × V) : PyData := .tuple [.str q.1, encV q.2]
def encE (e : EntryD) : PyData := .tuple [.int e.at_, .str e.name, .tuple (e.old.map encP), .tuple (e.new.map encP)]
def encL (es : List EntryD) : PyData := .list (es.map encE)
def ShortS (s : Str) : Prop := s.cps.size ≤ 8 ∧ ∀ c ∈ s.cps.toList, c < 16 ^ 8
def ValV : V → Prop
  | .int i => ValOk i
  | .str s => ShortS s
  | .non => True
  | _ => False
def PairOk (q : Str × V) : Prop := ShortS q.1 ∧ ValV q.2
structure EntOk (e : EntryD) : Prop where
  at1 : ValOk e.at_
  nm : ShortS e.name
  ol : e.old.length ≤ 4
  nl : e.new.length ≤ 4
  old : ∀ q ∈ e.old, PairOk q
  new : ∀ q ∈ e.new, PairOk q
theorem showAll_of : ∀ {xs : List PyData}, (∀ x ∈ xs, x.showable = true) → PyData.showableAll xs = true
  | [], _ => rfl
  | x :: xs, h => by
    show (x.showable && PyData.showableAll xs) = true
    rw [h x List.mem_cons_self, showAll_of fun y hy => h y (List.mem_cons_of_mem _ hy)]
    rfl
theorem dictAll_of : ∀ {xs : List PyData}, (∀ x ∈ xs, x.hasDict = false) → PyData.hasDictAll xs = false
  | [], _ => rfl
  | x :: xs, h => by
    show (x.hasDict || PyData.hasDictAll xs) = false
    rw [h x List.mem_cons_self, dictAll_of fun y hy => h y (List.mem_cons_of_mem _ hy)]
    rfl
theorem leavesAll_of {B : Nat} : ∀ {xs : List PyData}, (∀ x ∈ xs, x.leavesShort B = true) → PyData.leavesShortAll B xs = true
  | [], _ => rfl
  | x :: xs, h => by
    show (x.leavesShort B && PyData.leavesShortAll B xs) = true
    rw [h x List.mem_cons_self, leavesAll_of fun y hy => h y (List.mem_cons_of_mem _ hy)]
    rfl
theorem depthAll_of {n : Nat} : ∀ {xs : List PyData}, (∀ x ∈ xs, x.depth ≤ n) → PyData.depthAll xs ≤ n + 1
  | [], _ => by simp [PyData.depthAll]
  | x :: xs, h => by
    have h1 := h x List.mem_cons_self
    have h2 := depthAll_of (n := n) (xs := xs) fun y hy => h y (List.mem_cons_of_mem _ hy)
    simp only [PyData.depthAll]
    omega
theorem bulkAll_of {n : Nat} : ∀ {xs : List PyData}, (∀ x ∈ xs, x.bulk ≤ n) → PyData.bulkAll xs ≤ (n + 1) * xs.length
  | [], _ => by simp [PyData.bulkAll]
  | x :: xs, h => by
    have h1 := h x List.mem_cons_self
    have h2 := bulkAll_of (n := n) (xs := xs) fun y hy => h y (List.mem_cons_of_mem _ hy)
    simp only [PyData.bulkAll, List.length_cons, Nat.mul_succ]
    omega
/-- what can be shown, small -/
structure Nice (d : PyData) (dp bk : Nat) : Prop where
  sh : d.showable = true
  nd : d.hasDict = false
  dp : d.depth ≤ dp
  ls : d.leavesShort 40 = true
  bk : d.bulk ≤ bk
theorem nice_int {i : Int} (h : ValOk i) : Nice (.int i) 0 0 := by
  have hn : i.natAbs < 10 ^ 31 := by
    obtain ⟨h1, h2⟩ := h
    have : (10 : Nat) ^ 30 < 10 ^ 31 := by decide
    omega
  refine ⟨?_, rfl, by simp [PyData.depth], ?_, by simp [PyData.bulk]⟩
  · show decide (i.natAbs.log2 < 1920) = true
    refine decide_eq_true ?_
    have : i.natAbs < 2 ^ 1920 := Nat.lt_of_lt_of_le hn (by decide +kernel)
    rcases Nat.eq_zero_or_pos i.natAbs with z | z
    · rw [z]; decide
    · exact (Nat.log2_lt (by omega)).mpr this
  · show decide ((PyData.shown (.int i)).length ≤ 40) = true
    refine decide_eq_true ?_
    have := int_text_length_le10 (a := i) (k := 31) (by decide) hn
    show (Str.ofString (toString i)).length ≤ 40
    rw [PySem.ofString_length]
    omega
theorem nice_str {s : Str} (h : ShortS s) : Nice (.str s) 0 8 := ⟨rfl, rfl, by simp [PyData.depth], by
  show s.cps.toList.all (fun c => decide (c < 16 ^ 8)) = true
  rw [List.all_eq_true]
  exact fun c hc => decide_eq_true (h.2 c hc), h.1⟩
theorem nice_tup {xs : List PyData} {n m : Nat} (h : ∀ x ∈ xs, Nice x n m) : Nice (.tuple xs) (n + 2) ((m + 1) * xs.length) :=
  ⟨showAll_of fun x hx => (h x hx).sh, dictAll_of fun x hx => (h x hx).nd, by
    have := depthAll_of (n := n) fun x hx => (h x hx).dp
    simp only [PyData.depth]; omega, leavesAll_of fun x hx => (h x hx).ls, bulkAll_of fun x hx => (h x hx).bk⟩
theorem nice_lst {xs : List PyData} {n m : Nat} (h : ∀ x ∈ xs, Nice x n m) : Nice (.list xs) (n + 2) ((m + 1) * xs.length) :=
  ⟨showAll_of fun x hx => (h x hx).sh, dictAll_of fun x hx => (h x hx).nd, by
    have := depthAll_of (n := n) fun x hx => (h x hx).dp
    simp only [PyData.depth]; omega, leavesAll_of fun x hx => (h x hx).ls, bulkAll_of fun x hx => (h x hx).bk⟩
theorem Nice.up {d : PyData} {n m n' m' : Nat} (h : Nice d n m) (h1 : n ≤ n') (h2 : m ≤ m') : Nice d n' m' := ⟨h.sh, h.nd, Nat.le_trans h.dp h1, h.ls, Nat.le_trans h.bk h2⟩
theorem nice_V {v : V} (h : ValV v) : Nice (encV v) 0 8 := by
  cases v with
  | int i => exact (nice_int h).up (Nat.le_refl _) (Nat.zero_le _)
  | str s => exact nice_str h
  | _ => exact ⟨rfl, rfl, by simp [encV, PyData.depth], rfl, by simp [encV, PyData.bulk]⟩
theorem nice_P {q : Str × V} (h : PairOk q) : Nice (encP q) 2 18 := by
  have := nice_tup (xs := [.str q.1, encV q.2]) (n := 0) (m := 8) fun x hx => by
    rcases List.mem_cons.mp
          hx with e | hx
    · rw [e]; exact nice_str h.1
    · rw [List.mem_singleton.mp hx]; exact nice_V h.2
  exact this
theorem nice_Ps {l : List (Str × V)} (h : ∀ q ∈ l, PairOk q) (l4 : l.length ≤ 4) : Nice (.tuple (l.map encP)) 4 76 := by
  refine (nice_tup (n := 2) (m := 18) fun x hx => ?_).up (by omega) (by rw [List.length_map]; omega)
  obtain ⟨q, hq, rfl⟩ := List.mem_map.mp hx
  exact nice_P (h q hq)
theorem nice_E {e : EntryD} (h : EntOk e) : Nice (encE e) 6 308 := by
  refine (nice_tup (xs := [.int e.at_, .str e.name, .tuple (e.old.map encP), .tuple (e.new.map encP)]) (n := 4) (m := 76) fun x hx => ?_).up (Nat.le_refl _) (by show 77 * 4 ≤ 308; decide)
  simp only [List.mem_cons,
        List.not_mem_nil, or_false] at hx
  rcases hx with rfl | rfl | rfl | rfl
  · exact (nice_int h.at1).up (Nat.zero_le _) (Nat.zero_le _)
  · exact (nice_str h.nm).up (Nat.zero_le _) (by omega)
  · exact nice_Ps h.old h.ol
  · exact nice_Ps h.new h.nl
theorem nice_L {es : List EntryD} (h : ∀ e ∈ es, EntOk e) (l5 : es.length ≤ 500) : (encL es).showable = true ∧ (encL es).hasDict = false ∧ (encL es).depth ≤ 50 ∧ (encL es).shown.length ≤ sizeLine := by
  have n := nice_lst (xs := es.map encE) (n := 6) (m := 308) fun x hx => by
    obtain ⟨e, he, rfl⟩ := List.mem_map.mp hx
    exact nice_E (h e he)
  refine ⟨n.sh, n.nd, Nat.le_trans n.dp (by decide), ?_⟩
  have b := n.bk
  rw [List.length_map] at b
  have := PyData.shown_le_bulk 40 (by decide) (encL es) n.ls
  rw [sizeLine_eq]
  have b' : (encL es).bulk ≤ 309 * es.length := b
  omega
section
variable {K : PySem.W.Frag} {H : Hp}
theorem dp_V {v : V} (h : ValV v) : Dp K H v (encV v) := by
  cases v with
  | int i => exact .int i
  | str s => exact .str s
  | non => exact .non
  | _ => exact h.elim
theorem dp_P {v : V} {q : Str × V} (h : IsPair H v q) (ok : PairOk q) : Dp K H v (encP q) := by
  obtain ⟨a, rfl, ha⟩ := h
  exact .tup (SqT.of ha) (.cons (.str _) (.cons (dp_V ok.2) .nil))
theorem dp_Ps : ∀ {xs : List V} {l : List (Str × V)}, Paired (IsPair H) xs l → (∀ q ∈ l, PairOk q) → DpAll K H xs (l.map encP)
  | _, _, .nil, _ => .nil
  | _, _, .cons h t, ok => .cons (dp_P h (ok _ List.mem_cons_self)) (dp_Ps t fun q hq => ok q (List.mem_cons_of_mem _ hq))
theorem dp_E {v : V} {e : EntryD} (h : IsEntry K H v e) (ok : EntOk e) : Dp K H v (encE e) := by
  obtain ⟨a, x, y, rfl, ha, ⟨p1, xs1, rfl, h1, q1⟩, p2, xs2, rfl, h2, q2⟩ := h
  exact .tup (SqT.of ha) (.cons (.int _) (.cons (.str _) (.cons (.tup h1 (dp_Ps q1 ok.old)) (.cons (.tup h2 (dp_Ps q2 ok.new)) .nil))))
theorem dp_Es : ∀ {xs : List V} {l : List EntryD}, Paired (IsEntry K H) xs l → (∀ e ∈ l, EntOk e) → DpAll K H xs (l.map encE)
  | _, _, .nil, _ => .nil
  | _, _, .cons h t, ok => .cons (dp_E h (ok _ List.mem_cons_self)) (dp_Es t fun q hq => ok q (List.mem_cons_of_mem _ hq))
theorem dp_L {v : V} {es : List EntryD} (h : LOf (IsEntry K) H v es) (ok : ∀ e ∈ es, EntOk e) : ∃ a, v = .ref a ∧ Dp K H (.ref a) (encL es) := by
  obtain ⟨a, xs, rfl, ha, pr⟩ := h
  exact ⟨a, rfl, .lst (SqL.of ha) (dp_Es pr ok)⟩
end
end Pn

-- PnQ3
set_option
      maxHeartbeats 4000000
namespace Pn
open PySem PySem.Spec L2 PyProof.Rows StX ClX
structure BkFit (b : DataD) : Prop where
  bk : BkOk b
  cols : ∀ c ∈ b.cols, NameOk c ∧ c ≠ "state" ∧ c ≠ "row" ∧ c ≠ "deed"
  deeds : ∀ d ∈ b.deeds, NameOk d.name ∧ (∀ m ∈ d.moves, m.2 = "" ∨ NameOk m.2) ∧ ∀ n, d.note = some n → ∀ c ∈ n.old ++ n.new, NameOk c
  keep : ∀ k, b.keep = some k → 1 ≤ k
theorem NameOk.short {s : Str} (h : NameOk s) : ShortS s := ⟨h.2.1, fun c hc => by
  have := (h.2.2 c hc).2
  have e :
        (16 : Nat) ^ 8 = 4294967296 := by decide
  omega⟩
theorem short_nil : ShortS "" := ⟨by decide, by decide⟩
def RowFit (r : Row) : Prop := ∀ q, r = some q → ShortS q.1 ∧ ∀ p ∈ q.2, ValOk p.2
theorem colGet_val {w : Cols} {c : Str} {i : Int} (h : ∀ p ∈ w, ValOk p.2) (e : colGet w c = some i) : ValOk i := h _ (colGet_mem e)
theorem val_zero : ValOk 0 := ⟨by decide, by decide⟩
theorem find_mem2 {b : DataD} {n : Str} {d : DeedD} (h : b.find n = some d) : d ∈ b.deeds ∧ d.name = n := by
  unfold DataD.find at h
  exact ⟨List.mem_of_find?_eq_some h, by simpa using List.find?_some h⟩
theorem rowStep_fit {b : DataD} (F : BkFit b) {r : Row} {st : Step} (h : RowFit r) (hs : StVal st) : RowFit (rowStep b r st) := by
  cases st with
  | none => exact h
  | some s =>
    obtain ⟨n, w⟩ := s
    show RowFit (match (b.find n).bind (fun d => d.next (stOf r)) with | none => none | some t => if t = "" then none else some (newRow b r w t))
    cases hf : b.find n with
    | none => intro q hq; cases hq
    | some d =>
      show RowFit (match d.next (stOf r) with | none => none | some t => if t = "" then none else some (newRow b r w t))
      cases hn : d.next (stOf r) with
      | none => intro q hq; cases hq
      | some t =>
        show RowFit (if t = "" then none else some (newRow b r w t))
        by_cases e : t = ""
        · rw [if_pos e]; intro q hq; cases hq
        · rw [if_neg e]
          intro q hq
          cases hq
          obtain ⟨hd, _⟩ := find_mem2 hf
          refine ⟨?_, fun p hp => ?_⟩
          · unfold DeedD.next at hn
            cases q : d.moves.find? (fun m => decide (m.1 = stOf r)) with
            | none => rw [q] at hn; cases hn
            | some m =>
              rw [q] at hn
              cases hn
              exact (((F.deeds d hd).2.1 m (List.mem_of_find?_eq_some q)).resolve_left e).short
          · obtain ⟨c, hc, rfl⟩ := List.mem_map.mp hp
            show ValOk (newVal r w c)
            unfold newVal
            cases q : colGet w c with
            | some i => exact colGet_val hs q
            | none =>
              cases r with
              | none => exact val_zero
              | some r =>
                show ValOk ((colGet r.2 c).getD 0)
                cases q2 : colGet r.2 c with
                | none => exact val_zero
                | some i => exact colGet_val (h r rfl).2 q2
theorem rowAt_fit {b : DataD} (F : BkFit b) {ss : List Step} (hs : ∀ st ∈ ss, StVal st) : ∀ i, RowFit (rowAt b ss i)
  | 0 => fun q hq => by cases hq
  | i + 1 => by
    refine rowStep_fit F (rowAt_fit F hs i) ?_
    unfold stepAt
    cases q : ss[i]? with
    | none => exact True.intro
    | some st => exact hs st (List.mem_of_getElem? q)
theorem pairs_fit {r : Row} (h : RowFit r) {ws : List Str} (hw : ∀ c ∈ ws, NameOk c) : ∀ q ∈ pairsOf ws r, PairOk q := by
  cases r with
  | none => intro q hq; cases hq
  | some r =>
    intro q hq
    obtain ⟨c, hc, rfl⟩ := List.mem_map.mp hq
    refine ⟨(hw c hc).short, ?_⟩
    show ValV ((valV (rowKV r) (.inr c)).getD .non)
    obtain ⟨h1, h2⟩ := h r rfl
    by_cases e : c = "state"
    · subst e
      rw [valV_state]
      exact h1
    · rw [valV_row r c e]
      cases q : colGet r.2 c with
      | none => exact True.intro
      | some i => exact colGet_val h2 q
theorem pairs_len {r : Row} {ws : List Str} : (pairsOf ws r).length ≤ ws.length := by
  cases r with
  | none => exact Nat.zero_le _
  | some r => show (ws.map _).length ≤ _; rw [List.length_map]; exact Nat.le_refl _
theorem entry_fit {b : DataD} (F : BkFit b) {r : Row} {st : Step} {i : Int} (h : RowFit r) (hs : StVal st) (hi : ValOk i) : ∀ e ∈ stepEntry b i r st, EntOk e := by
  cases st with
  | none => intro e he; cases he
  | some s =>
    obtain ⟨n, w⟩ := s
    intro e he
    have h2 : RowFit (rowStep b r (some (n, w))) := rowStep_fit F h hs
    have he : e ∈ (entryOf b n i r (rowStep b r (some (n, w)))).toList := he
    unfold entryOf at he
    cases hf : b.find n with
    | none => rw [hf] at he; cases he
    | some d =>
      rw [hf] at he
      obtain ⟨hd, en⟩ := find_mem2 hf
      cases hn : d.note with
      | none =>
        have he : e ∈ ((match d.note with | none => none | some nt => (noteEntry nt n r (rowStep b r (some (n, w)))).map fun e => (⟨i, e.1, e.2.1, e.2.2⟩ : EntryD)) : Option EntryD).toList := he
        rw [hn] at he
        cases he
      | some nt =>
        have he : e ∈ ((match d.note with | none => none | some nt => (noteEntry nt n r (rowStep b r (some (n, w)))).map fun e => (⟨i, e.1, e.2.1, e.2.2⟩ : EntryD)) : Option EntryD).toList := he
        rw [hn] at he
        have he : e ∈ ((noteEntry nt n r (rowStep b r (some (n, w)))).map fun e => (⟨i, e.1, e.2.1, e.2.2⟩ : EntryD)).toList := he
        unfold noteEntry at he
        split at he
        · cases he
        · have he : e ∈ [(⟨i, if nt.named = true then n else "", pairsOf nt.old r, pairsOf nt.new (rowStep b r (some (n, w)))⟩ : EntryD)] := he
          rw [List.mem_singleton] at he
          subst he
          obtain ⟨_, _, l1, l2⟩ := F.bk.words d hd nt hn
          obtain ⟨nmk, _, nn⟩ := F.deeds d hd
          have nw := nn nt hn
          refine ⟨hi, ?_, Nat.le_trans pairs_len l1, Nat.le_trans pairs_len l2, pairs_fit h fun c hc => nw c (List.mem_append_left _ hc), pairs_fit h2 fun c hc => nw c (List.mem_append_right _ hc)⟩
          show ShortS (if nt.named = true then n else "")
          split
          · rw [← en]; exact nmk.short
          · exact short_nil
theorem noted_fit {b : DataD} (F : BkFit b) {ss : List Step} (hs : ∀ st ∈ ss, StVal st) {n : Nat} (hn : n ≤ 400) : ∀ e ∈ notedTo b ss n, EntOk e := fun e he => by
  unfold notedTo at he
  obtain ⟨l, hl, hel⟩ := List.mem_flatten.mp he
  obtain ⟨i, hi, rfl⟩ := List.mem_map.mp hl
  have hi := List.mem_range.mp hi
  refine entry_fit F (rowAt_fit F hs i) ?_ ⟨by omega, ?_⟩ e hel
  · unfold stepAt
    cases q : ss[i]? with
    | none => exact True.intro
    | some st => exact hs st (List.mem_of_getElem? q)
  · have : (401 : Int) ≤ 10 ^ 30 := by decide
    omega
theorem entry_one {b : DataD} {i : Int} {r : Row} {st : Step} : (stepEntry b i r st).length ≤ 1 := by
  cases st with
  | none => exact Nat.zero_le _
  | some s =>
    obtain ⟨n, w⟩ := s
    show ((entryOf b n i r (rowStep b r (some (n, w)))).toList).length ≤ 1
    cases entryOf b n i r (rowStep b r (some (n, w))) with
    | none => exact Nat.zero_le _
    | some e => exact Nat.le_refl _
theorem flat_len {α β : Type} {f : α → List β} (h : ∀ a, (f a).length ≤ 1) : ∀ l : List α, ((l.map f).flatten).length ≤ l.length
  | [] => Nat.le_refl _
  | a :: l => by
    have := flat_len h l
    have := h a
    rw [List.map_cons, List.flatten_cons, List.length_append, List.length_cons]
    omega
theorem noted_len {b : DataD} {ss : List Step} {n : Nat} : (notedTo b ss n).length ≤ n := by
  unfold notedTo
  have := flat_len (f := fun i : Nat => stepEntry b ((i : Int) + 1) (rowAt b ss i) (stepAt ss i)) (fun _ => entry_one) (List.range n)
  rwa [List.length_range] at this
theorem hist_ok {b : DataD} (F : BkFit b) {ss : List Step} (hl : ss.length ≤ 400) : HistOk (histOf b ss) where
  bk := F.bk
  rows := fun r hr => by
    have hr : r ∈ (List.range (ss.length + 1)).map (rowAt b ss) := hr
    obtain ⟨i, _, rfl⟩ := List.mem_map.mp hr
    exact rowAt_ok b ss i
  len := standTo_len b ss ss.length
  few := hl
  nfew := Nat.le_trans noted_len hl
  keep := F.keep
theorem bk_fit {D b : DataD} {marks : List Str} (ok : DataOk D marks) (B : BookSim D b) : BkFit b := by
  obtain ⟨nc, c3, cl, cnd, cok⟩ := ok.cls
  obtain ⟨nm, m4, ml, mnd, mok⟩ := ok.mks
  obtain ⟨nn, n6, nl, nnd, nok⟩ := ok.nms
  have stc : ("state" : Str) ∉ D.cols := fun z => (cok _ z).2 (List.mem_cons_self ..)
  obtain ⟨es, ps, pp⟩ := B.deeds
  have src : ∀ e ∈ b.deeds, ∃ d ∈ D.deeds, DeedSim d e := fun e he => by
    obtain ⟨j, hj, ej⟩ := List.mem_iff_getElem.mp (pp.mem_iff.mp he)
    obtain ⟨d, hd, sim⟩ := paired_at' ps (i := j) (y := e) (by rw [List.getElem?_eq_getElem hj, ej])
    exact ⟨d, List.mem_of_getElem? hd, sim⟩
  have wd : ∀ e ∈ b.deeds, WdOk D.cols e := fun e he => by
    obtain ⟨d, hd, sim⟩ := src e he
    exact sim_wd sim (drawn_fit ok hd).2.1
  refine ⟨⟨B.cols.nodup_iff.mpr cnd, fun z => stc (B.cols.mem_iff.mp z), by rw [B.cols.length_eq]; omega, fun e he n en => ?_, fun e he => ?_⟩, fun c hc => ?_, fun e he => ?_, fun k hk => ?_⟩
  · obtain ⟨_, w2⟩ := wd e he
    obtain ⟨a, l1, l2⟩ := w2 n en
    exact ⟨fun c hc => (a c (List.mem_append_left _ hc)).imp id fun z => B.cols.mem_iff.mpr z.1, fun c hc => (a c (List.mem_append_right _ hc)).imp id fun z => B.cols.mem_iff.mpr z.1, l1, l2⟩
  · obtain ⟨d, hd, sim⟩ := src e he
    rw [sim.own.length_eq]
    exact (drawn_moves ok hd).2.2.2.2.2
  · have h := cok c (B.cols.mem_iff.mp hc)
    simp only [List.mem_cons, List.not_mem_nil, or_false, not_or] at h
    exact h
  · obtain ⟨d, hd, sim⟩ := src e he
    obtain ⟨fit, _, mv⟩ := drawn_fit ok hd
    refine ⟨by rw [sim.name]; exact fit.nm, fun m hm => ((mv.2 m (sim.moves.mem_iff.mp hm)).2).imp id fun z => (mok _ z).1, fun n en c hc => ?_⟩
    obtain ⟨_, w2⟩ := wd e he
    rcases (w2 n en).1 c hc with z | z
    · rw [z]; exact state_name
    · exact (cok c z.1).1
  · have := ok.keep
    rw [B.keep] at hk
    rw [hk] at this
    exact this.1
end Pn

-- PnQ4
set_option maxHeartbeats 8000000
namespace Pn
open PySem PySem.Spec L2 PyProof.Rows StX ClX
section
variable {P : Program} {w : World} {K : PySem.W.Frag}
      {mg : Str → Option Value} {base : Heap}
abbrev tgSR : List Str := ["state", "row"]
def CellNice : Cell → Prop
  | .flat v => flatB v = true
  | .row r => RowNd r
theorem cells_eq {H : Hp} : ∀ {xs ys : List V} {cs : List Cell}, Paired (IsCell H) xs cs → Paired (IsCell H) ys cs → (∀ c ∈ cs, CellNice c) → Paired (EqV K H 3) xs ys
  | _, _, _, .nil, .nil, _ => .nil
  | x :: xs, y :: ys, c :: cs, .cons h t, .cons h2 t2, ok => by
    refine .cons ?_ (cells_eq t t2 fun x hx => ok x (List.mem_cons_of_mem _ hx))
    have n := ok _ List.mem_cons_self
    cases c with
    | flat v =>
      cases h
      cases h2
      exact eqV_flat n
    | row r => exact eqV_row n h h2
theorem cell_nice {b : DataD} (F : BkOk b) (ss : List Step) (tg : Str) (m : Nat) : CellNice (cell (histOf b ss) tg m) := by
  have rn : RowNd ((((histOf b ss).stand)[m]?).getD none) := by
    cases q : ((histOf b ss).stand)[m]? with
    | none => exact True.intro
    | some r =>
      have hr : r ∈ (List.range (ss.length + 1)).map (rowAt b ss) := List.mem_of_getElem? q
      obtain ⟨i, _, rfl⟩ := List.mem_map.mp hr
      have ro := rowAt_ok b ss i
      show RowNd (rowAt b ss i)
      cases hq : rowAt b ss i with
      | none => exact True.intro
      | some q =>
        rw [hq] at ro
        have e : q.2.map (·.1) = b.cols := ro
        exact ⟨by rw [e]; exact F.nd, by rw [e]; exact F.st⟩
  unfold cell
  split
  · rfl
  · split
    · exact rn
    · split
      · show flatB (deedV _ m) = true
        unfold deedV
        split
        · rfl
        · split <;> rfl
      · show flatB (optV _) = true
        cases colV ((((histOf b ss).stand)[m]?).getD none) tg <;> rfl
theorem paired_ins {α β : Type} {F : α → β → Prop} {xs : List α} {ys : List β} {x : α} {y : β} (p : Nat) (h : Paired F xs ys) (h1 : F x y) : Paired F (xs.take p ++ [x] ++ xs.drop p) (ins ys p y) :=
  paired_app (paired_snoc (paired_take p h) h1) (paired_drop p h)
def r_lmoved (K : PySem.W.Frag) : RC := fun vs _ H Q => ∃ (hv lv dv : V) (p : Nat) (b D : DataD) (ss : List Step), vs = [hv, lv, dv, .int p] ∧ IsHist K H hv (histOf b ss) ∧ IsHist K H lv (histOf b (ins ss p none)) ∧ IsData H dv D ∧ BkFit b ∧ b.cols.Perm D.cols ∧ (∀ st ∈ ss, StVal st) ∧
  p ≤ ss.length ∧ ss.length ≤ 100 ∧ ∀ H', Same H H' → Q (.bl true) H'
theorem ok_l_moved (T : Tx K mg) : Cal P w K mg base true 6 "_law_moved" (r_lmoved K) := by
  refine cal_at T.d_l_moved T.g_l_moved sc_l_moved (fun vs H Q h => by obtain ⟨_, _, _, _, _, _, _, rfl, _⟩ := h; rfl) (fun _ _ _ _ _ _ us hl => match us, hl with | [_, _, _, _], _ => rfl) fun cdv A outer s H vs Q hr hgd h => ?_
  have G_l_later := ok_l_later (P := P) (w := w) (base := base) T
  have G_l_longer := ok_l_longer (P := P) (w := w) (base := base) T
  have C_past := ok_past (P := P) (w := w) (base := base) T
  have C_course := ok_course (P := P) (w := w) (base := base) T
  have gd := (Gd.deeper hgd (envOfC "_law_moved" (defScope s_l_moved) s.heap.objs.size (He.ga K "_law_moved") cdv)) rfl
  obtain ⟨hv, lv, dv, p, b, D, ss, rfl, hh, hl, hd, F, pc, sv, hp, l1, k⟩ := h
  refine ⟨_, (pss_cons (ps_if (PW.pt (pw_or (pt_cmpR op_ne (pe_callB (cr_reprD gd hr.units) rfl T.f_repr boot_repr (pa_cons (pe_propP (ok_log T) (hr.mono (by decide)) Gd.no T.c_History T.p_History_log (pv 1)) pa_nil)) (pe_callB (cr_reprD gd hr.units) rfl T.f_repr boot_repr (pa_cons (pe_cl G_l_later hr (by decide) Gd.no rfl (pa_cons (pe_propP (ok_log T) (hr.mono (by decide)) Gd.no T.c_History T.p_History_log (pv 0)) (pa_cons (pv 3) pa_nil))) pa_nil)) (nomark _)) (pw_or1 (pt_cmpR op_ne (pe_callB (call_lenO (ok_hlen T) (hr.mono (by decide)) Gd.no T.m_History_ulenu) rfl T.f_len boot_len (pa_cons (pv 1) pa_nil)) (pe_op op_add (pe_callB (call_lenO (ok_hlen T) (hr.mono (by decide)) Gd.no T.m_History_ulenu) rfl T.f_len boot_len (pa_cons (pv 0) pa_nil)) pe_int) (nomark _))))) (pss_one (ps_ret pe_bl)) pss_nil)
    (pss_cons (ps_if (PW.pt (pw_or (pt_cmpR op_ne (pe_callB (cr_reprD gd hr.units) rfl T.f_repr boot_repr (pa_cons (pe_propP (ok_entries T) (hr.mono (by decide)) Gd.no T.c_History T.p_History_entries (pv 1)) pa_nil)) (pe_callB (cr_reprD gd hr.units) rfl T.f_repr boot_repr (pa_cons (pe_cl G_l_later hr (by decide) Gd.no rfl (pa_cons (pe_propP (ok_entries T) (hr.mono (by decide)) Gd.no T.c_History T.p_History_entries (pv 0)) (pa_cons (pv 3) pa_nil))) pa_nil)) (nomark _)) (pw_or1 (pt_cmpR (op_neRow hr.units) (pe_propP (ok_hrow T) (hr.mono (by decide)) Gd.no T.c_History T.p_History_row (pv 1)) (pe_propP (ok_hrow T) (hr.mono (by decide)) Gd.no T.c_History T.p_History_row (pv 0)) (nomark _))))) (pss_one (ps_ret pe_bl)) pss_nil)
    (pss_cons (ps_for PassesOwn.never rfl (pi_list (pe_op op_cat (pe_ix ix_tup (pv 2) pe_int (fun _ _ => rfl)) (pe_lst (pa_cons pe_str (pa_cons pe_str pa_nil))))) (pg_name (i := 4) sc_l_moved.nd rfl (Or.inl rfl)) (pss_cons (ps_set (i := 5) sc_l_moved.nd rfl (Or.inl rfl) (pe_methP C_past (hr.mono (by decide)) Gd.no T.c_History T.m_History_past (pv 0) (pa_cons (pv 4) pa_nil)))
    (pss_one (ps_if (pt_cmpR (op_neL hr.units) (pe_methP C_past (hr.mono (by decide)) Gd.no T.c_History T.m_History_past (pv 1) (pa_cons (pv 4) pa_nil)) (pe_cl G_l_longer hr (by decide) Gd.no rfl (pa_cons (pv 5) (pa_cons (pv 3) (pa_cons (pe_ix ix_list (pv 5) (pv 3) (fun _ _ => rfl)) pa_nil)))) (nomark _)) (pss_one (ps_ret pe_bl)) pss_nil))))
    (pss_cons (ps_if (pt_cmpR (op_neL hr.units) (pe_methP C_past (hr.mono (by decide)) Gd.no T.c_History T.m_History_past (pv 1) (pa_cons pe_str pa_nil)) (pe_cl G_l_longer hr (by decide) Gd.no rfl (pa_cons (pe_methP C_past (hr.mono (by decide)) Gd.no T.c_History T.m_History_past (pv 0) (pa_cons pe_str pa_nil)) (pa_cons (pv 3) (pa_cons pe_non pa_nil)))) (nomark _)) (pss_one (ps_ret pe_bl)) pss_nil)
    (pss_cons (ps_for PassesOwn.never rfl (pi_list (pe_ix ix_tup (pv 2) pe_int (fun _ _ => rfl))) (pg_name (i := 6) sc_l_moved.nd rfl (Or.inl rfl)) (pss_one (ps_if (pt_cmpR (op_neL hr.units) (pe_methP C_course (hr.mono (by decide)) Gd.no T.c_History T.m_History_course (pv 1) (pa_cons (pv 6) pa_nil)) (pe_methP C_course (hr.mono (by decide)) Gd.no T.c_History T.m_History_course (pv 0) (pa_cons (pv 6) pa_nil)) (nomark _)) (pss_one (ps_ret pe_bl)) pss_nil)))
    (pss_one (ps_ret pe_bl))))))), ?_⟩
  have hlen : (ins ss p none).length = ss.length + 1 := ins_length hp
  have sv' : ∀ st ∈ ins ss p none, StVal st := fun st hs => by
    unfold ins at hs
    rcases List.mem_append.mp hs with z | z
    · rcases List.mem_append.mp z with y | y
      · exact sv st (List.mem_of_mem_take y)
      · rw [List.mem_singleton.mp y]; exact True.intro
    · exact sv st (List.mem_of_mem_drop z)
  have ok1 := hist_ok F (ss := ss) (by omega)
  have ok2 := hist_ok F (ss := ins ss p none) (by omega)
  have entOk : ∀ e ∈ (histOf b (ins ss p none)).noted, EntOk e := noted_fit F sv' (by omega)
  have noteE : (histOf b (ins ss p none)).noted = (histOf b ss).noted.map (laterE p) := hist_noted hp
  have nl1 : (histOf b ss).noted.length ≤ 400 := ok1.nfew
  have nl2 : (histOf b (ins ss p none)).noted.length ≤ 400 := ok2.nfew
  have href : ∀ {G : Hp} {v : V} {h : HistD}, IsHist K G v h → ∃ a dx fs, v = .ref a ∧ G a = some (.ins (He.ga K "History") dx fs) ∧ fs.lookup ("past" : Str) = none ∧ fs.lookup ("course" : Str) = none := fun ⟨a, dx, _, _, _, _, e, q, _⟩ => ⟨a, dx, _, e, q, rfl, rfl⟩
  obtain ⟨ah, dxh, fsh, rfl, hah, lh1, lh2⟩ := href hh
  obtain ⟨al, dxl, fsl, rfl, hal, ll1, ll2⟩ := href hl
  -- the log
  refine ⟨_, rfl, al, dxl, fsl, rfl, hal, _, _, rfl, hl, fun v1 H1 s1 p1 => ?_⟩
  obtain ⟨a1, rfl, dp1⟩ := dp_L p1 entOk
  obtain ⟨n1, n2, n3, n4⟩ := nice_L entOk (by omega)
  refine ⟨a1, _, rfl, dp1, n1, n2, n3, n4, ?_⟩
  refine ⟨_, rfl, ah, dxh, fsh, rfl, s1 _ _ hah, _, _, rfl, hh.same s1, fun v2 H2 s2 p2 => ⟨_, rfl, v2, _, p, rfl, p2, by omega, fun v3 H3 s3 p3 => ?_⟩⟩
  rw [← noteE] at p3
  obtain ⟨a3, rfl, dp3⟩ := dp_L p3 entOk
  have s13 := (s1.trans s2).trans s3
  refine ⟨a3, _, rfl, dp3, n1, n2, n3, n4, ?_⟩
  refine ⟨rfl, _, rfl, ?_⟩
  rw [decide_eq_true rfl]
  -- the lengths
  refine ⟨_, rfl, al, dxl, fsl, rfl, s13 _ _ hal, _, _, rfl, hl.same s13, (ins ss p none).length, rfl, by omega, ?_⟩
  refine ⟨_, rfl, ah, dxh, fsh, rfl, s13 _ _ hah, _, _, rfl, hh.same s13, ss.length, rfl, by omega, _, _, rfl, rfl, ?_⟩
  refine ⟨rfl, _, rfl, ?_⟩
  rw [decide_eq_true (by rw [hlen]; rfl : V.int ((ins ss p none).length : Int) = V.int ((ss.length : Int) + 1))]
  -- the entries
  have okL : ∀ e ∈ lastOnes b.keep (histOf b (ins ss p none)).noted, EntOk e := fun e he => by
    cases hk : b.keep with
    | none => rw [hk] at he; exact entOk e he
    | some k0 => rw [hk] at he; exact entOk e (List.mem_of_mem_drop he)
  have lenL : (lastOnes b.keep (histOf b (ins ss p none)).noted).length ≤ 500 := by
    cases hk : b.keep with
    | none => show (histOf b (ins ss p none)).noted.length ≤ 500; omega
    | some k0 => show ((histOf b (ins ss p none)).noted.drop _).length ≤ 500; rw [List.length_drop]; omega
  have lenO : (lastOnes b.keep (histOf b ss).noted).length ≤ 500 := by
    cases hk : b.keep with
    | none => show (histOf b ss).noted.length ≤ 500; omega
    | some k0 => show ((histOf b ss).noted.drop _).length ≤ 500; rw [List.length_drop]; omega
  have lastE : lastOnes b.keep (histOf b (ins ss p none)).noted = (lastOnes b.keep (histOf b ss).noted).map (laterE p) := by rw [noteE, lastOnes_map]
  refine ⟨_, rfl, al, dxl, fsl, rfl, s13 _ _ hal, _, _, rfl, hl.same s13, ok2, fun v4 H4 s4 p4 => ?_⟩
  obtain ⟨a4, rfl, dp4⟩ := dp_L p4 okL
  obtain ⟨m1, m2, m3, m4⟩ := nice_L okL lenL
  refine ⟨a4, _, rfl, dp4, m1, m2, m3, m4, ?_⟩
  have s14 := s13.trans s4
  refine ⟨_, rfl, ah, dxh, fsh, rfl, s14 _ _ hah, _, _, rfl, hh.same s14, ok1, fun v5 H5 s5 p5 => ⟨_, rfl, v5, _, p, rfl, p5, lenO, fun v6 H6 s6 p6 => ?_⟩⟩
  have p6 : LOf (IsEntry K) H6 v6 ((lastOnes b.keep (histOf b ss).noted).map (laterE p)) := p6
  rw [← lastE] at p6
  obtain ⟨a6, rfl, dp6⟩ := dp_L p6 okL
  have s16 := (s14.trans s5).trans s6
  refine ⟨a6, _, rfl, dp6, m1, m2, m3, m4, ?_⟩
  refine ⟨rfl, false, congrArg V.bl (congrArg not (decide_eq_true rfl)), ?_⟩
  -- the last rows
  have r2 : (histOf b (ins ss p none)).stand[(histOf b (ins ss p none)).done.length]? = some (rowAt b ss ss.length) := by
    show (standTo b (ins ss p none) (ins ss p none).length)[(ins ss p none).length]? = _
    rw [standTo_at (Nat.le_refl _), last_ins hp]
  have r1 : (histOf b ss).stand[(histOf b ss).done.length]? = some (rowAt b ss ss.length) := standTo_at (Nat.le_refl _)
  refine ⟨_, rfl, al, dxl, fsl, rfl, s16 _ _ hal, _, _, _, rfl, hl.same s16, ok2, r2, fun v7 H7 s7 p7 => ?_⟩
  have s17 := s16.trans s7
  refine ⟨_, rfl, ah, dxh, fsh, rfl, s17 _ _ hah, _, _, _, rfl, hh.same s17, ok1, r1, fun v8 H8 s8 p8 => ?_⟩
  have s18 := s17.trans s8
  refine ⟨rowAt b ss ss.length, ?_, IsRow.stays.mono p7 (Core.of s8), p8, false, rfl, ?_⟩
  · have ro := rowAt_ok b ss ss.length
    cases hq : rowAt b ss ss.length with
    | none => exact True.intro
    | some q =>
      rw [hq] at ro
      have e : q.2.map (·.1) = b.cols := ro
      exact ⟨by rw [e]; exact F.bk.nd, by rw [e]; exact F.bk.st⟩
  -- the pasts
  obtain ⟨ad, x0, y0, rfl, had, ⟨ca, rfl, hca⟩, _⟩ := hd
  have hca8 := s18 _ _ hca
  have c3 : D.cols.length ≤ 3 := by rw [← pc.length_eq]; exact F.bk.few
  refine ⟨_, rfl, ad, _, 0, _, rfl, rfl, SqT.of (s18 _ _ had), rfl, by show 2 ≤ sizeLine; decide, fun q hq => ⟨ca, q, _, _, rfl, rfl, Same.new hq _ _ hca8, upd_same, ?_, fun q2 hq2 => ⟨q2, rfl, ⟨_, SqL.of upd_same⟩, ?_⟩⟩⟩
  · rw [List.length_map]
    exact Nat.le_trans (by show D.cols.length + 2 ≤ 5; omega) (by decide)
  have s19 := (s18.trans (Same.new (o := .lst [.str "state", .str "row"]) hq)).trans (Same.new (o := .lst (D.cols.map V.str ++ [.str "state", .str "row"])) hq2)
  have hq9 : (upd (upd H8 q (.lst [.str "state", .str "row"])) q2 (.lst (D.cols.map V.str ++ [.str "state", .str "row"]))) q2 = some (.lst ((D.cols ++ tgSR).map V.str)) := by rw [upd_same, List.map_append]; rfl
  revert s19 hq9
  generalize upd (upd H8 q (.lst [.str "state", .str "row"])) q2 (.lst (D.cols.map V.str ++ [.str "state", .str "row"])) = H9
  intro s19 hq9
  refine for_list (xs := (D.cols ++ tgSR).map V.str) (fun i σ H' => Same H H' ∧ H' q2 = some (.lst ((D.cols ++ tgSR).map V.str)) ∧ ∃ z4 z5, σ = [some (.ref ah), some (.ref al), some (.ref ad), some (.int p), z4, z5, none]) ⟨s19, hq9, _, _, rfl⟩ (fun i σ H' _ q => SqL.of q.2.1) (fun i x σ H' hx q => ?_) (fun σ H' q => ?_)
  · obtain ⟨sm, hq', z4, z5, rfl⟩ := q
    obtain ⟨tg, htg, rfl⟩ := strs_ix hx
    have tgm : tg ∈ b.cols ∨ tg = "state" ∨ tg = "row" ∨ tg = "deed" := by
      rcases List.mem_append.mp (List.mem_of_getElem? htg) with z | z
      · exact .inl (pc.mem_iff.mpr z)
      · simp only [List.mem_cons, List.not_mem_nil, or_false] at z
        exact z.elim (fun e => .inr (.inl e)) fun e => .inr (.inr (.inl e))
    have tgd : tg ≠ "deed" := fun e => by
      subst e
      rcases List.mem_append.mp (List.mem_of_getElem? htg) with z | z
      · exact (F.cols _ (pc.mem_iff.mpr z)).2.2.2 rfl
      · exact absurd z (by decide)
    refine ⟨_, rfl, ah, dxh, fsh, rfl, sm _ _ hah, lh1, _, rfl, _, _, tg, rfl, hh.same sm, ok1, tgm, fun v1 G1 t1 p1 => ?_⟩
    obtain ⟨pa, ps, rfl, hpa, pp⟩ := p1
    have sm1 := sm.trans t1
    refine ⟨_, rfl, al, dxl, fsl, rfl, sm1 _ _ hal, ll1, _, rfl, _, _, tg, rfl, hl.same sm1, ok2, tgm, fun v2 G2 t2 p2 => ?_⟩
    obtain ⟨la, ls, rfl, hla, pl⟩ := p2
    have hpa2 := t2 _ _ hpa
    have pp2 : Paired (IsCell G2) ps (cells (histOf b ss) tg) := paired_imp (fun _ _ h => IsCell.same h t2) pp
    have plen : p < (histOf b ss).stand.length := by show p < (standTo b ss ss.length).length; rw [standTo_len]; omega
    obtain ⟨xp, hxp, cxp⟩ := paired_at' pp2 (cells_at (tg := tg) plen)
    have psl : ps.length ≤ 1000 := by
      rw [paired_len pp2]
      unfold cells
      rw [List.length_map,
            List.length_range]
      show (standTo b ss ss.length).length ≤ 1000
      rw [standTo_len]; omega
    refine ⟨_, rfl, _, rfl, _, rfl, _, rfl, pa, ps, p, xp, rfl, rfl, SqL.of hpa2, atI_nat hxp, pa, ps, p, xp, rfl, hpa2, psl, fun q4 G4 t4 h4 => ?_⟩
    refine ⟨3, la, q4, ls, _, by decide, rfl, rfl, SqL.of (t4 _ _ hla), SqL.of h4, ?_, false, rfl, ?_⟩
    · rw [cells_ins hp tgd] at pl
      refine cells_eq (paired_imp (fun _ _ h => IsCell.same h t4) pl) (paired_ins (p + 1) (paired_imp (fun _ _ h => IsCell.same h t4) pp2) (IsCell.same cxp t4)) fun c hc => ?_
      rw [← cells_ins hp tgd] at hc
      unfold cells at hc
      obtain ⟨m, _, rfl⟩ := List.mem_map.mp hc
      exact cell_nice F.bk _ tg m
    · exact ⟨((sm1.trans t2).trans t4), t4 _ _ (t2 _ _ (t1 _ _ hq')), _, _, rfl⟩
  obtain ⟨sm, _, z4, z5, rfl⟩ := q
  have plen : p < (histOf b ss).stand.length := by show p < (standTo b ss ss.length).length; rw [standTo_len]; omega
  refine ⟨_, rfl, al, dxl, fsl, rfl, sm _ _ hal, ll1, _, _, "deed", rfl, hl.same sm, ok2, .inr (.inr (.inr rfl)), fun v2 G2 t2 p2 => ?_⟩
  obtain ⟨la, ls, rfl, hla, pl⟩ := p2
  have sm2 := sm.trans t2
  refine ⟨_, rfl, ah, dxh, fsh, rfl, sm2 _ _ hah, lh1, _, _, "deed", rfl, hh.same sm2, ok1, .inr (.inr (.inr rfl)), fun v1 G1 t1 p1 => ?_⟩
  obtain ⟨pa, ps, rfl, hpa, pp⟩ := p1
  have psl : ps.length ≤ 1000 := by
    rw [paired_len pp]
    unfold cells
    rw [List.length_map,
          List.length_range]
    show (standTo b ss ss.length).length ≤ 1000
    rw [standTo_len]; omega
  refine ⟨_, rfl, pa, ps, p, .non, rfl, hpa, psl, fun q4 G4 t4 h4 => ?_⟩
  refine ⟨3, la, q4, ls, _, by decide, rfl, rfl, SqL.of (t4 _ _ (t1 _ _ hla)), SqL.of h4, ?_, false, rfl, ?_⟩
  · rw [deed_ins hp] at pl
    refine cells_eq (paired_imp (fun _ _ h => IsCell.same (IsCell.same h t1) t4) pl) (paired_ins (p + 1) (paired_imp (fun _ _ h => IsCell.same h t4) pp) (show IsCell G4 .non (.flat .non) from rfl)) fun c hc => ?_
    rw [← deed_ins hp] at hc
    unfold cells at hc
    obtain ⟨m, _, rfl⟩ := List.mem_map.mp hc
    exact cell_nice F.bk _ "deed" m
  -- the courses
  have sm4 := (sm2.trans t1).trans t4
  refine ⟨_, rfl, ad, _, 0, _, rfl, rfl, SqT.of (sm4 _ _ had), rfl, ca, rfl, ⟨_, SqL.of (sm4 _ _ hca)⟩, for_list (xs := D.cols.map V.str) (fun i σ H5 => Same H H5 ∧ ∃ z4 z5 z6, σ = [some (.ref ah), some (.ref al), some (.ref ad), some (.int p), z4, z5, z6]) ⟨sm4, _, _, _, rfl⟩ (fun i σ H5 _ q => SqL.of (q.1 _ _ hca)) (fun i x σ H5 hx q => ?_) (fun σ H5 q => ?_)⟩
  · obtain ⟨sm5, z4, z5, z6, rfl⟩ := q
    obtain ⟨c, hc, rfl⟩ := strs_ix hx
    have hcb := pc.mem_iff.mpr (List.mem_of_getElem? hc)
    obtain ⟨_, _, c1, c2⟩ := F.cols c hcb
    refine ⟨_, rfl, al, dxl, fsl, rfl, sm5 _ _ hal, ll2, _, rfl, _, _, c, rfl, hl.same sm5, ok2, hcb, c1, c2, fun q5 G5 t5 h5 => ?_⟩
    have sm6 := sm5.trans t5
    refine ⟨_, rfl, ah, dxh, fsh, rfl, sm6 _ _ hah, lh2, _, rfl, _, _, c, rfl, hh.same sm6, ok1, hcb, c1, c2, fun q6 G6 t6 h6 => ?_⟩
    rw [course_ins hp] at h5
    exact ⟨1, q5, q6, _, _, by decide, rfl, rfl, SqL.of (t6 _ _ h5), SqL.of h6, paired_map (fun i => eqV_flat rfl) _, false, rfl, sm6.trans t6, _, _, _, rfl⟩
  · exact k H5 q.1
end
end Pn

-- PnQ5
set_option maxHeartbeats 8000000
namespace Pn
open PySem PySem.Spec L2 PyProof.Rows StX ClX LamX
section
variable {P : Program} {w : World} {K : PySem.W.Frag} {mg : Str → Option Value} {base : Heap} {TL : List (Addr × Str)}
theorem tabs_keep {H H' : Hp} (t : Tabs TL H) (k : Keep H H') : Tabs TL H' := fun p hp => by
  obtain ⟨ps, h1, h2, h3⟩ := t p hp
  refine ⟨ps, k _ _ h1 (fun i j z => by cases z), h2, fun pos cv hc => ?_⟩
  obtain ⟨c, e1, e2⟩ :=
        h3 pos cv hc
  exact ⟨c, e1, k _ _ e2 fun i j z => by unfold CodeO at z; cases z⟩
/-- all but two-int lists and tables stays -/
def KE (H H' : Hp) : Prop := ∀ a o, H a = some o → (∀ i j, o ≠ .lst [.int i, .int j]) → (∀ ps, o ≠ .tbl ps) → H' a = some o
theorem KE.refl (H : Hp) : KE H H := fun _ _ h _ _ => h
theorem KE.trans {H H1 H2 : Hp} (a : KE H H1) (b : KE H1 H2) : KE H H2 := fun c o h n m => b c o (a c o h n m) n m
/-- the script's ints -/
def Scr (K : PySem.W.Frag) (sa : Addr) (ns : List Int) (H : Hp) : Prop := ∀ H', KE H H' → SqL K H' sa (ns.map V.int)
def r_law (K : PySem.W.Frag) (TL : List (Addr × Str)) : RC := fun vs _ H Q => ∃ (sa : Addr) (ns : List Int), vs = [.ref sa] ∧ Scr K sa ns H ∧ Tabs TL H ∧ ∀ H', Q (.bl true) H'
theorem ok_law (T : Tx K mg) (Z : Tz K) (S : Ts P K) (L : Tl K mg base TL) : Cal P w K mg base true 12 "law" (r_law K TL) := by
  refine cal_at T.d_law T.g_law sc_law (fun vs H Q h => by obtain ⟨_, _, rfl, _⟩ := h; rfl) (fun _ _ _ _ _ _ us hl => match us, hl with | [_], _ => rfl) fun cdv A outer s H vs Q hr hgd h => ?_
  have G_l_bag := ok_l_bag (P := P) (w := w) (base := base) T
  have G_l_book := ok_l_book (P := P) (w := w) (base := base) T Z S L
  have G_l_copy := ok_l_copy (P := P) (w := w) (base := base) T
  have G_l_data := ok_l_data (P := P) (w := w) (base := base) T
  have G_l_moved := ok_l_moved (P := P) (w := w) (base := base) T
  have G_l_of := ok_l_of (P := P) (w := w) (base := base) T
  have G_l_steps := ok_l_steps (P := P) (w := w) (base := base) T
  have G_l_take := ok_l_take (P := P) (w := w) (base := base) T
  have gd := (Gd.deeper hgd (envOfC "law" (defScope s_law) s.heap.objs.size (He.ga K "law") cdv))
  obtain ⟨sa, ns, rfl, hsa, hT, k⟩ := h
  refine ⟨_, (pss_cons (ps_for PassesOwn.never rfl (pi_range1 rfl T.f_range (pa_cons (pe_callB (call_max2 rfl) rfl T.f_max boot_max (pa_cons pe_int (pa_cons (pe_callB (call_min2 rfl) rfl T.f_min boot_min (pa_cons pe_int (pa_cons (pe_callB call_len_seq rfl T.f_len boot_len (pa_cons (pv 0) pa_nil)) pa_nil))) pa_nil))) pa_nil)) (pg_name (i := 1) sc_law.nd rfl (Or.inl rfl)) (pss_cons (ps_set (i := 2) sc_law.nd rfl (Or.inl rfl) (pe_cl G_l_bag hr (by decide) Gd.no rfl (pa_cons (pv 0) (pa_cons (pv 1) pa_nil))))
    (pss_cons (ps_set (i := 3) sc_law.nd rfl (Or.inl rfl) (pe_cl G_l_data hr (by decide) Gd.no rfl (pa_cons (pv 2) (pa_cons pe_int (pa_cons pe_int (pa_cons pe_int pa_nil))))))
    (pss_cons (ps_set (i := 4) sc_law.nd rfl (Or.inl rfl) (pe_cl G_l_book hr (by decide) Gd.no rfl (pa_cons (pv 3) pa_nil)))
    (pss_cons (ps_set (i := 5) sc_law.nd rfl (Or.inl rfl) (pe_cl G_l_steps hr (by decide) Gd.no rfl (pa_cons (pv 2) (pa_cons (pv 3) (pa_cons (pe_cl G_l_of hr (by decide) Gd.no rfl (pa_cons (pv 2) (pa_cons (pe_lst (pa_cons pe_int (pa_cons pe_int (pa_cons pe_int (pa_cons pe_int pa_nil))))) pa_nil))) pa_nil)))))
    (pss_cons (ps_set (i := 6) sc_law.nd rfl (Or.inl rfl) (pe_cmP (ok_hof T Z) (hr.mono (by decide)) Gd.no T.r_History T.cm_History_of (pe_go T.g_History rfl) (pa_cons (pv 4) (pa_cons (pe_cl G_l_copy hr (by decide) Gd.no rfl (pa_cons (pv 5) pa_nil)) pa_nil)) pk_nil))
    (pss_one (ps_for PassesOwn.never rfl (pi_range1 rfl T.f_range (pa_cons (pe_op op_add pe_int (pe_cl G_l_take hr (by decide) Gd.no rfl (pa_cons (pv 2) (pa_cons pe_int pa_nil)))) pa_nil)) (pg_name (i := 7) sc_law.nd rfl (Or.inl rfl)) (pss_cons (ps_set (i := 8) sc_law.nd rfl (Or.inl rfl) (pe_cl G_l_take hr (by decide) Gd.no rfl (pa_cons (pv 2) (pa_cons (pe_op op_add (pe_callB call_len_seq rfl T.f_len boot_len (pa_cons (pv 5) pa_nil)) pe_int) pa_nil))))
    (pss_cons (ps_set (i := 5) sc_law.nd rfl (Or.inl rfl) (pe_op op_cat (pe_op op_cat (pe_slice sl_list (pv 5) po_none (po_some (pv 8))) (pe_lst (pa_cons pe_non pa_nil))) (pe_slice sl_list (pv 5) (po_some (pv 8)) po_none)))
    (pss_cons (ps_set (i := 9) sc_law.nd rfl (Or.inl rfl) (pe_cmP (ok_hof T Z) (hr.mono (by decide)) Gd.no T.r_History T.cm_History_of (pe_go T.g_History rfl) (pa_cons (pv 4) (pa_cons (pe_cl G_l_copy hr (by decide) Gd.no rfl (pa_cons (pv 5) pa_nil)) pa_nil)) pk_nil))
    (pss_cons (ps_set (i := 10) sc_law.nd rfl (Or.inl rfl) (pe_callB (cr_reprD (gd rfl) hr.units) rfl T.f_repr boot_repr (pa_cons (pe_propP (ok_log T) (hr.mono (by decide)) Gd.no T.c_History T.p_History_log (pv 6)) pa_nil)))
    (pss_cons (ps_if (PW.pt (pw_or (pt_not (pt_val (pe_cl G_l_moved hr (by decide) gd rfl (pa_cons (pv 6) (pa_cons (pv 9) (pa_cons (pv 3) (pa_cons (pv 8) pa_nil))))))) (pw_or1 (pt_cmpR op_ne (pe_callB (cr_reprD (gd rfl) hr.units) rfl T.f_repr boot_repr (pa_cons (pe_propP (ok_log T) (hr.mono (by decide)) Gd.no T.c_History T.p_History_log (pv 6)) pa_nil)) (pv 10) (nomark _))))) (pss_one (ps_ret pe_bl)) pss_nil)
    (pss_one (ps_set (i := 6) sc_law.nd rfl (Or.inl rfl) (pv 9))))))))))))))))
    (pss_one (ps_ret pe_bl))),
          ?_⟩
  have frz : ∀ {G G' : Hp}, Keep G G' → Scr K sa ns G → Scr K sa ns G' := fun kk e G2 g2 => e G2 (KE.trans (fun a u h n _ => kk _ _ h n) g2)
  refine ⟨_, rfl, sa, _, rfl, .inl (hsa H (KE.refl H)), _, _, rfl, _, _, rfl, _, rfl, ?_, ?_, for_range (fun _ σ H' => Scr K sa ns H' ∧ Tabs TL H' ∧ ∃ z1 z2 z3 z4 z5 z6 z7 z8 z9 z10, σ = [some (.ref sa), z1, z2, z3, z4, z5, z6, z7, z8, z9, z10]) ⟨hsa, hT, _, _, _, _, _, _, _, _, _, _, rfl⟩ (fun i σ H' hi p => ?_) (fun σ H' p => k H')⟩
  · split <;> split <;> omega
  · split <;> split <;> omega
  obtain ⟨hsa1, hT1, z1, z2, z3, z4, z5, z6, z7, z8, z9, z10, rfl⟩ := p
  refine ⟨_, rfl, _, rfl, sa, ns, i, by rw [Int.zero_add], hsa1 H' (KE.refl H'), fun b H1 s1 hb1 _ => ?_⟩
  have k1 := Keep.of s1
  refine ⟨_, rfl, b, rfl, hb1, fun dv D marks H2 k2 hb2 hd2 ok => ?_⟩
  have k12 := k1.trans k2
  refine ⟨_, rfl, dv, D, marks, rfl, hd2, ok, tabs_keep hT1 k12, fun bv H3 bk e3 hT3 hbk B => ?_⟩
  have F := bk_fit ok B
  have c3 : Core H2 H3 := Core.ext e3
  have hsa3 : Scr K sa ns H3 := fun G2 g2 => frz k12 hsa1 G2 (KE.trans (fun a u h _ m => e3 _ _ h m) g2)
  have hb3 : IsBag H3 b := by
    obtain ⟨i1, i2, e⟩ := hb2
    exact ⟨i1, i2, e3 _ _ e fun ps z => by cases z⟩
  have hd3 := IsData.stays.mono hd2 c3
  -- how many steps
  refine ⟨_, rfl, _, rfl, _, rfl, by show 4 ≤ sizeLine; decide, fun q0 hq0 => ⟨b, q0, _, rfl, hb3.same (Same.new hq0), upd_same, List.cons_ne_nil _ _, by show 4 ≤ 1000; decide, (fun i j z => by cases z), fun v H4 k4 hb4 hv => ?_⟩⟩
  obtain ⟨n, rfl, n12⟩ : ∃ n : Nat, v = .int n ∧ n ≤ 12 := by
    simp only [List.mem_cons, List.not_mem_nil, or_false] at hv
    rcases hv with rfl | rfl | rfl | rfl
    · exact ⟨0, rfl, by decide⟩
    · exact ⟨1, rfl, by decide⟩
    · exact ⟨4, rfl, by decide⟩
    · exact ⟨12, rfl, by decide⟩
  have k34 := (Keep.of (Same.new (o := .lst [.int 0, .int 1, .int 4, .int 12]) hq0)).trans k4
  have hd4 := IsData.stays.mono hd3 k34.core
  refine ⟨b, dv, n, D, bk, marks, rfl, hb4, hd4, ok, B, n12, fun qs xs ss H5 k5 hb5 hqs prs ssl so sv => ?_⟩
  have k35 := k34.trans k5
  have hbk5 := IsBook.stays.mono hbk k35.core
  have hd5 := IsData.stays.mono hd4 k5.core
  refine ⟨rfl, _, rfl, _, rfl, qs, xs, ss, rfl, hqs, prs, by omega, fun cv H6 s6 hcv => ?_⟩
  refine ⟨rfl, bv, cv, bk, ss, rfl, IsBook.stays.mono hbk5 (Core.of s6), F.bk, hcv, by omega, so, fun hv H7 s7 hh7 => ?_⟩
  have k57 := (Keep.of s6).trans (Keep.of s7)
  have k37 := k35.trans k57
  have hb7 := (hb5.same s6).same s7
  refine ⟨_, rfl, b, 3, rfl, hb7, by decide, by decide, fun d H8 k8 hb8 d0 d3 => ⟨_, _, rfl, rfl, _, rfl, by omega, by omega, ?_⟩⟩
  have k38 := k37.trans k8
  have k58 := k57.trans k8
  have stepsK : ∀ {G G' : Hp} {q : Addr} {xs : List V} {ss : List Step}, Keep G G' → G q = some (.lst xs) → Paired (IsStep G) xs ss → G' q = some (.lst xs) ∧ Paired (IsStep G') xs ss := fun kk h p =>
    ⟨kk _ _ h fun i j z => by
      cases z
      cases p with
      | cons h _ => exact IsStep.stays.noint h i rfl, paired_mono IsStep.stays kk.core p⟩
  obtain ⟨hqs8, prs8⟩ := stepsK k58 hqs prs
  have hT8 := tabs_keep hT3 k38
  have hsa8 := frz k38 hsa3
  have hd8 := IsData.stays.mono hd3 k38.core
  have hbk8 := IsBook.stays.mono hbk k38.core
  have hh8 := IsHist.stays.mono hh7 k8.core
  clear hh7 hbk5 hd5 hqs prs hbk hd4 hd3 hb3 hsa3 hd2 hT1 hsa1 hb7 hb5 hb4
  refine for_range (fun i σ G => Scr K sa ns G ∧ Tabs TL G ∧ IsBag G b ∧ IsData G dv D ∧ IsBook K G bv bk ∧ i ≤ 4 ∧ ∃ (qs : Addr) (xs : List V) (ss : List Step) (hv : V) (y1 y7 y8 y9 y10 : Option V), G qs = some (.lst xs) ∧ Paired (IsStep G) xs ss ∧ StepsOk bk ss ∧ (∀ st ∈ ss, StVal st) ∧ ss.length ≤ 12 + i ∧ IsHist K G hv (histOf bk ss) ∧
      σ = [some (.ref sa), y1, some (.ref b), some dv, some bv, some (.ref qs), some hv, y7, y8, y9, y10])
    ⟨hsa8, hT8, hb8, hd8, hbk8, Nat.zero_le _, qs, xs, ss, hv, _, _, _, _, _, hqs8, prs8, so, sv, by omega, hh8, rfl⟩ (fun i2 σ G hi2 p => ?_) (fun σ G p => ?_)
  · obtain ⟨gsa, gT, gb, gd', gbk, i4, qs, xs, ss, hv, y1, y7, y8, y9, y10, gqs, gpr, so, sv, sl, gh, rfl⟩ := p
    have xl : xs.length = ss.length := paired_len gpr
    refine ⟨_, rfl, _, rfl, qs, xs, rfl, .inl (SqL.of gqs), _, _, rfl, rfl, b, _, rfl, gb, by omega, ?_, fun d2 G1 g1 gb1 e0 e1 => ?_⟩
    · have : ((xs.length : Int) + 1).natAbs.log2 ≤ xs.length + 1 := by
        have e : ((xs.length : Int) + 1).natAbs = xs.length + 1 := by omega
        rw [e]
        exact Nat.log2_le_self _
      omega
    obtain ⟨p, rfl⟩ := Int.eq_ofNat_of_zero_le e0
    have hp : p ≤ ss.length := by omega
    obtain ⟨gqs1, gpr1⟩ := stepsK g1 gqs gpr
    refine ⟨_, rfl, _, rfl, p, rfl, qs, xs, rfl, SqL.of gqs1, fun q1 hq1 => ?_⟩
    have t1 := Same.new (o := .lst (cutV xs none (some (p : Int)))) hq1
    refine ⟨by show 1 ≤ sizeLine; decide, fun q2 hq2 => ?_⟩
    have t2 := Same.new (o := .lst [.non]) hq2
    have lt : (cutV xs none (some (p : Int))).length ≤ xs.length := cutV_length _ _ _
    refine ⟨q1, q2, _, _, rfl, rfl, t2 _ _ upd_same, upd_same, Nat.le_trans (by show _ + 1 ≤ 1001; omega) (by decide), fun q3 hq3 => ?_⟩
    have t3 := Same.new (o := .lst (cutV xs none (some (p : Int)) ++ [.non])) hq3
    have t13 := (t1.trans t2).trans t3
    refine ⟨_, rfl, _, rfl, p, rfl, qs, xs, rfl, SqL.of (t13 _ _ gqs1), fun q4 hq4 => ?_⟩
    have t4 := Same.new (o := .lst (cutV xs (some (p : Int)) none)) hq4
    have lt2 : (cutV xs (some (p : Int)) none).length ≤ xs.length := cutV_length _ _ _
    refine ⟨q3, q4, _, _, rfl, rfl, t4 _ _ upd_same, upd_same, Nat.le_trans (by rw [List.length_append]; show _ + 1 + _ ≤ 2001; omega) (by decide), fun q5 hq5 => ?_⟩
    have t5 := (t13.trans t4).trans (Same.new (o := .lst (cutV xs none (some (p : Int)) ++ [.non] ++ cutV xs (some (p : Int)) none)) hq5)
    have gq5 : (upd (upd (upd (upd (upd G1 q1 (.lst (cutV xs none (some (p : Int))))) q2 (.lst [.non])) q3 (.lst (cutV xs none (some (p : Int)) ++ [.non]))) q4 (.lst (cutV xs (some (p : Int)) none))) q5 (.lst (cutV xs none (some (p : Int)) ++ [.non] ++ cutV xs (some (p : Int)) none))) q5 = some (.lst (xs.take p ++ [.non] ++ xs.drop p)) := by
      rw [upd_same, cut_take, cut_drop]
    revert t5 gq5
    generalize upd (upd (upd (upd (upd G1 q1 (.lst (cutV xs none (some (p : Int))))) q2 (.lst [.non])) q3 (.lst (cutV xs none (some (p : Int)) ++ [.non]))) q4 (.lst (cutV xs (some (p : Int)) none))) q5 (.lst (cutV xs none (some (p : Int)) ++ [.non] ++ cutV xs (some (p : Int)) none)) = G5
    intro t5 gq5
    have g5 : Keep G G5 := g1.trans (Keep.of t5)
    have pr5 : Paired (IsStep G5) (xs.take p ++ [.non] ++ xs.drop p) (ins ss p none) := paired_ins p (paired_mono IsStep.stays (Core.of t5) gpr1) (show IsStep G5 .non none from rfl)
    have il : (ins ss p none).length = ss.length + 1 := ins_length hp
    have so5 := steps_ins (b := bk) hp so
    have sv5 : ∀ st ∈ ins ss p none, StVal st := fun st hs => by
      unfold ins at hs
      rcases List.mem_append.mp hs with z | z
      · rcases List.mem_append.mp z with y | y
        · exact sv st (List.mem_of_mem_take y)
        · rw [List.mem_singleton.mp y]; exact True.intro
      · exact sv st (List.mem_of_mem_drop z)
    -- the longer history
    refine ⟨rfl, _, rfl, _, rfl, q5, _, ins ss p none, rfl, gq5, pr5, by omega, fun cv G6 t6 hcv => ?_⟩
    refine ⟨rfl, bv, cv, bk, ins ss p none, rfl, IsBook.stays.mono gbk ((g5.trans (Keep.of t6)).core), F.bk, hcv, by omega, so5, fun lv G7 t7 hl7 => ?_⟩
    have g7 : Keep G G7 := (g5.trans (Keep.of t6)).trans (Keep.of t7)
    have gh7 := IsHist.stays.mono gh g7.core
    have gh70 := gh7
    obtain ⟨ah, dxh, b1, d1, st1, n1, rfl, hah, _⟩ := gh70
    have entOk : ∀ e ∈ (histOf bk ss).noted, EntOk e := noted_fit F sv (by omega)
    have nl1 : (histOf bk ss).noted.length ≤ 400 := (hist_ok F (ss := ss) (by omega)).nfew
    obtain ⟨e1, e2, e3, e4⟩ := nice_L entOk (by omega)
    refine ⟨_, rfl, ah, dxh, _, rfl, hah, _, _, rfl, gh7, fun v8 G8 t8 p8 => ?_⟩
    obtain ⟨a8, rfl, dp8⟩ := dp_L p8 entOk
    refine ⟨a8, _, rfl, dp8, e1, e2, e3, e4, ?_⟩
    have g8 : Keep G G8 := g7.trans (Keep.of t8)
    refine ⟨_, rfl, _, rfl, _, rfl, _, rfl, _, lv, dv, p, bk, D, ss, rfl, gh7.same t8, hl7.same t8, IsData.stays.mono gd' g8.core, F, B.cols, sv, hp, by omega, fun G9 t9 => ?_⟩
    have g9 : Keep G G9 := g8.trans (Keep.of t9)
    refine ⟨true, rfl, ?_⟩
    have t79 := t8.trans t9
    refine ⟨_, rfl, ah, dxh, _, rfl, t79 _ _ hah, _, _, rfl, gh7.same t79, fun v10 G10 t10 p10 => ?_⟩
    obtain ⟨a10, rfl, dp10⟩ := dp_L p10 entOk
    refine ⟨a10, _, rfl, dp10, e1, e2, e3, e4, ?_⟩
    refine ⟨_, rfl, rfl, false, congrArg V.bl (congrArg not (decide_eq_true rfl)), ?_⟩
    have g10 : Keep G G10 := g9.trans (Keep.of t10)
    have t510 : Same G5 G10 := ((t6.trans t7).trans t79).trans t10
    refine ⟨_, rfl, frz g10 gsa, tabs_keep gT g10, gb1.same (t5.trans t510), IsData.stays.mono gd' g10.core, IsBook.stays.mono gbk g10.core, by omega, q5, _, ins ss p none, lv, _, _, _, _, _, t510 _ _ gq5, paired_mono IsStep.stays (Core.of t510) pr5, so5, sv5, by omega, hl7.same (t79.trans t10), rfl⟩
  · obtain ⟨gsa, gT, gb, gd', gbk, i4, qs, xs, ss, hv, y1, y7, y8, y9, y10, gqs, gpr, so, sv, sl, gh, rfl⟩ := p
    exact ⟨gsa, gT, _, _, _, _, _, _, _, _, _, _, rfl⟩
end
end Pn

-- PnR1
set_option
      maxHeartbeats 4000000
namespace Pn
open PySem PySem.Spec L2 PyProof.Rows StX ClX
open He (eqO eqO_ok ba ga ma)
theorem propB_ok {K : PySem.W.Frag} {C : Addr} {f : Str} {p g : Addr} (h : propB K C f p g = true) : PropOf K C f p g := by
  obtain ⟨h1, h⟩ := ba h
  obtain ⟨h2, h⟩ := ba h
  obtain ⟨h3, h4⟩ := ba h
  refine ⟨eqO_ok h1, eqO_ok h2, of_decide_eq_true h3, ?_⟩
  split at h4
  · rename_i a r e
    rw [e, of_decide_eq_true h4]
    exact ⟨r, rfl⟩
  · cases h4
theorem creadB_ok {K : PySem.W.Frag} {C : Addr} (h : creadB K C = true) : CRead K C (.type "type") := ⟨(ba h).1, eqO_ok (ba h).2⟩
theorem insB_ok {K : PySem.W.Frag} {C : Addr} (h : insB K C = true) : InsOk K C := by
  obtain ⟨h1, h⟩ := ba h
  obtain ⟨h2, h⟩ := ba h
  obtain ⟨h3, h4⟩ := ba h
  exact ⟨eqO_ok h1, eqO_ok h2, of_decide_eq_true h3, of_decide_eq_true h4⟩
theorem kitB2_ok {K : PySem.W.Frag} {x y : Str} {b : Bool} (h : kitB2 K (x, y, b) = true) : PySem.W.kitOne K (.ref (ga K x)) (.ref (ga K y)) = some b := of_decide_eq_true h
theorem tzB_ok {K : PySem.W.Frag} (h : tzB K = true) : Tz K := by
  obtain ⟨h1, h⟩ := ba h
  obtain ⟨h2, h3⟩ := ba h
  have k := fun q hq => List.all_eq_true.mp h1 q hq
  have i := fun x hx => insB_ok (List.all_eq_true.mp h2 x hx)
  refine ⟨kitB2_ok (k _ ?_), kitB2_ok (k _ ?_), kitB2_ok (k _ ?_), kitB2_ok (k _ ?_), kitB2_ok (k _ ?_), kitB2_ok (k _ ?_), kitB2_ok (k _ ?_), kitB2_ok (k _ ?_), kitB2_ok (k _ ?_), kitB2_ok (k _ ?_), i _ ?_, i _ ?_, i _ ?_, i _ ?_, h3⟩
  all_goals simp
end Pn

-- PnV
set_option
      maxHeartbeats 4000000
namespace Pn
open PySem PySem.Spec L2 PyProof.Rows StX ClX LamX
open He (eqO eqO_ok ba ga ma Fa frT)
/-! ### addresses -/
/-! ### closures over a class's cell -/
theorem fileB_ok {K : PySem.W.Frag} {c : Addr} {F : Str} (h : fileB K c F = true) : ∃ (ccl : Value) (cdd : Option Addr) (vs : Array Value) (ccs : Array (Option Value)) (file : Str) (tf : Tok), K.lookup c = some ⟨ccl, cdd, .fields vs, ccs⟩ ∧ vs[2]? = some (.str file tf) ∧ (F == file) = true := by
  unfold fileB at h
  split at h
  · rename_i a b vs d e
    split at h
    · rename_i f t e2
      exact ⟨_, _, _, _, _, _, e, e2, h⟩
    · cases h
  · cases h
theorem cellB_ok {K : PySem.W.Frag} {c D : Addr} (h : cellB K c D = true) : ∃ (cl : Value) (cld : Option Addr) (csl : Array (Option Value)), K.lookup c = some ⟨cl, cld, .cell (some (.ref D)), csl⟩ := by
  unfold cellB at h
  split at h
  · rename_i a b x y e
    rw [of_decide_eq_true h] at e
    exact ⟨_, _, _, e⟩
  · cases h
theorem supB_ok {P : Program} {K : PySem.W.Frag} {c : CloD} (h : supB P.main.file K c = true) (e : fnC K (c.adr K) = c.val) (ht : (P.main.scope.names.lookup ("super" : Str)).isSome = false) :
    ∃ cda cc, SupF P K "__init__" c.qual c.st (c.adr K) (ga K c.cl) cda cc (ma K (ga K "Deed") "__init__") := by
  obtain ⟨h0, h⟩ := ba h
  obtain ⟨h1, h⟩ := ba h
  obtain ⟨h2, h⟩ := ba h
  obtain ⟨h3, h⟩ := ba h
  obtain ⟨h4, h⟩ := ba h
  obtain ⟨h5, h6⟩ := ba h
  unfold fnC at e
  cases q : K.lookup (c.adr K) with
  | none =>
    rw [q] at h0
    cases h0
  | some o =>
    obtain ⟨oc, od, dt, osl⟩ := o
    rw [q] at h0 e
    cases dt with
    | func fd =>
      obtain ⟨n1, n2, n3, n4, n5, n6, n7, n8, n9, n10, n11, n12, n13, n14, n15⟩ :=
            fd
      have e2 : (some (n1, n2, n3, n4, n5, n6, n7.map (·.1), n15) : FnC) = (some (("__init__" : Str), c.qual, defArgs c.st, FuncBody.stmts (defBody c.st), defScope c.st, mainGlobals, (["__class__"] : List Str), builtinsNs) : FnC) := e
      simp only [Option.some.injEq,
            Prod.mk.injEq] at e2
      obtain ⟨g1, g2, g3, g4, g5, g6, g7, g8⟩ := e2
      subst g1 g2 g3 g4 g5 g6 g8
      cases n13 with
      | ref cda =>
        cases n7 with
        | nil => cases h0
        | cons a r =>
          cases r with
          | cons b r2 => cases h0
          | nil =>
            obtain ⟨a1, a2⟩ := a
            obtain ⟨k1, k⟩ := ba (show (PySem.W.codeIn K (.ref cda) c.qual && (fileB K cda P.main.file && (cellB K a2 (ga K c.cl) && decide (n8 = .none)))) = true from h0)
            obtain ⟨k2, k⟩ := ba k
            obtain ⟨k3, k4⟩ := ba k
            have ea : a1 = "__class__" := by
              have z : [a1] = (["__class__"] : List Str) := g7
              injection z
            subst ea
            have ed := of_decide_eq_true k4
            subst ed
            exact ⟨cda, a2, ⟨oc, od, n9, n10, n11, n12, n14, osl, q⟩, k1, fileB_ok k2, ht, cellB_ok k3, Option.isSome_iff_exists.mp h1, of_decide_eq_true h2, eqO_ok h3, eqO_ok h4, of_decide_eq_true h5, h6⟩
      | _ => cases h0
    | _ => cases h0
/-! ### what is told -/
abbrev AlP : Type := (Bool × List He5.FnW) × List FnC
def obsK (fa : List Fa) (fn : List He5.DefA) (cl : List CloD) (tf : List He.Defn) (ex : PySem.W.Frag → Bool) (g : Addr → Option Obj) (K : PySem.W.Frag) : AlP :=
  (((fa.all fun f => f.ok K) && ((fn.all fun d => d.ok K) && (ex K && He.tabsB g tf K)), fn.map fun d => He5.fnA K (d.at_ K)), cl.map fun c => fnC K (c.adr K))
def obsP (fa : List Fa) (fn : List He5.DefA) (cl : List CloD) (tf : List He.Defn) (ex : PySem.W.Frag → Bool) (g : Addr → Option Obj) : AlP := obsK fa fn cl tf ex g (frT g (asP g))
def valP (fn : List He5.DefA) (cl : List CloD) : AlP := ((true, fn.map He5.DefA.val), cl.map CloD.val)
structure SaysP (fa : List Fa) (fn : List He5.DefA) (cl : List CloD) (tf : List He.Defn) (ex : PySem.W.Frag → Bool) (h : Heap) (K : PySem.W.Frag) : Prop where
  fact : ∀ f ∈ fa, f.ok K = true
  def_ : ∀ d ∈ fn, ∃ fd, FunD K d.name d.qual d.params d.body d.scope (d.dvs K) (d.kws K) (d.at_ K) fd
  clo : ∀ c ∈ cl, fnC K (c.adr K) = c.val
  more : ex K = true
  hd : ∀ p ∈ tf, PySem.W.codeHdIn K (He.cT K p).1 (He.cT K p).2 = true
  out : ∀ p ∈ tf, K.lookup (He.cT K p).2 = none
  empty : ∀ p ∈ tf, h.get? (He.cT K p).2 = some { cls := .none, data := .fields #[] }
section
variable {fa : List Fa} {fn : List He5.DefA} {cl : List CloD} {tf : List He.Defn} {ex : PySem.W.Frag → Bool}
theorem map_at {α β : Type} {f g : α → β} {l : List α} (e : l.map f = l.map g) {x : α} (h : x ∈ l) : f x = g x := List.map_inj_left.mp e x h
theorem saysP_of {h : Heap} (e : obsP fa fn cl tf ex h.get? = valP fn cl) : SaysP fa fn cl tf ex h (frT h.get? (asP h.get?)) := by
  unfold obsP at e
  have hK : ∀ a o, (frT h.get? (asP h.get?)).lookup a = some o → h.get? a = some o ∧ He.emptyTab o = false := fun a o z => He.frT_mem z
  have hN : ∀ a o, h.get? a = some o → He.emptyTab o = true → (frT h.get? (asP h.get?)).lookup a = none := fun a o z y => He.frT_none z y
  generalize frT h.get? (asP h.get?) = K at e hK hN ⊢
  have e1 : ((fa.all fun f => f.ok K) && ((fn.all fun d => d.ok K) && (ex K && He.tabsB h.get? tf K))) = true := congrArg (fun z : AlP => z.1.1) e
  have e2 : fn.map (fun d => He5.fnA K (d.at_ K)) = fn.map He5.DefA.val := congrArg (fun z : AlP => z.1.2) e
  have e3 : cl.map (fun c => fnC K (c.adr K)) = cl.map CloD.val := congrArg (fun z : AlP => z.2) e
  obtain ⟨h1, e1⟩ := ba e1
  obtain ⟨h2, e1⟩ := ba e1
  obtain ⟨h3, h4⟩ := ba e1
  have key : ∀ p ∈ tf, PySem.W.codeHdIn K (He.cT K p).1 (He.cT K p).2 = true ∧ ∃ o, h.get? (He.cT K p).2 = some o ∧ He.emptyTab o = true := fun p hp => by
    obtain ⟨h5, h6⟩ := ba (List.all_eq_true.mp h4 p hp)
    refine ⟨h5, ?_⟩
    cases q : h.get? (He.cT K p).2 with
    | none =>
      rw [q] at h6
      cases h6
    | some o =>
      rw [q] at h6
      exact ⟨o, rfl, h6⟩
  exact ⟨fun f hf => List.all_eq_true.mp h1 f hf, fun d hd => He5.DefA.funD (map_at e2 hd) (List.all_eq_true.mp h2 d hd), fun c hc => map_at e3 hc, h3, fun p hp => (key p hp).1, fun p hp => by
    obtain ⟨_, o, q, z⟩ :=
          key p hp
    exact hN _ _ q z, fun p hp => by
    obtain ⟨_, o, q, z⟩ :=
          key p hp
    rw [q, He.emptyTab_eq z]⟩
def hookP (fa : List Fa) (fn : List He5.DefA) (cl : List CloD) (tf : List He.Defn) (ex : PySem.W.Frag → Bool) : PySem.W.Hook where
  α := AlP
  obs := fun s => obsP fa fn cl tf ex s.heap.get?
  val := fun _ => valP fn cl
  says := fun _ h => ∃ K : PySem.W.Frag, K.In h ∧ SaysP fa fn cl tf ex h K
  of := fun _ _ e => ⟨_, He.frT_in, saysP_of e⟩
  keeps := fun _ _ _ ⟨K, hK, c⟩ k => ⟨K, PySem.W.Frag.In.keeps hK k, ⟨c.fact, c.def_, c.clo, c.more, c.hd, c.out, fun p hp => k _ _ (c.empty p hp)⟩⟩
end
end Pn

-- PnW
set_option
      maxHeartbeats 4000000
namespace Pn
open PySem PySem.Spec L2 PyProof.Rows StX ClX LamX
open He (eqO eqO_ok ba ga ma Fa frT)
theorem cmB_ok {K : PySem.W.Frag} {c : Str} (h : cmB K c = true) : CMet K (ga K c) (.type "type") "of" (ma K (ga K c) "of") (He5.wf K (ga K c) "classmethod" "of") := He5.cmet_of (ba h).1 (ba h).2
theorem maB_ok {K : PySem.W.Frag} {c : Str} (h : maB K c = true) : ma K (ga K c) "after" = ma K (ga K "Deed") "after" := of_decide_eq_true h
section
variable {K : PySem.W.Frag}
theorem exI (h : ex0 K = true) (i : Nat) {l : List Bool} (e : (exs K)[i]? = some l) : ∀ b ∈ l, b = true := fun b hb => List.all_eq_true.mp (List.all_eq_true.mp h l (List.mem_of_getElem? e)) b hb
theorem exR {c : Str} (h : ex0 K = true) (m : c ∈ (["History", "Change", "End", "Book"] : List Str)) : creadB K (ga K c) = true := exI h 0 rfl _ (List.mem_map.mpr ⟨c, m, rfl⟩)
theorem exC {c : Str} (h : ex0 K = true) (m : c ∈ (["History", "Change", "End", "Book"] : List Str)) : cmB K c = true := exI h 1 rfl _ (List.mem_map.mpr ⟨c, m, rfl⟩)
theorem exP {m : Str} (h : ex0 K = true) (z : m ∈ (["row", "log", "entries"] : List Str)) : propB K (ga K "History") m (ma K (ga K "History") m) (He5.wf K (ga K "History") "property" m) = true := exI h 2 rfl _ (List.mem_map.mpr ⟨m, z, rfl⟩)
theorem exA {c : Str} (h : ex0 K = true) (m : c ∈ (["Make", "Change", "End"] : List Str)) : maB K c = true := exI h 3 rfl _ (List.mem_map.mpr ⟨c, m, rfl⟩)
theorem exT (h : ex0 K = true) : tzB K = true := exI h 4 rfl _ (List.mem_singleton.mpr rfl)
theorem exS {c : CloD} (h : ex0 K = true) (m : c ∈ cl0) : supB R.prog.main.file K c = true := exI h 5 rfl _ (List.mem_map.mpr ⟨c, m, rfl⟩)
end
abbrev Says (h : Heap) (K : PySem.W.Frag) : Prop := SaysP fa0 fn0 cl0 tf0 ex0 h K
section
variable {K : PySem.W.Frag}
      {h : Heap} {mg : Str → Option Value}
theorem SaysP.fa_ (c : Says h K) (i : Nat) {f : Fa} (e : fa0[i]? = some f := by rfl) : f.ok K = true := c.fact f (List.mem_of_getElem? e)
theorem SaysP.df_ (c : Says h K) (i : Nat) {d : He5.DefA} (e : fn0[i]? = some d := by rfl) : ∃ fd, FunD K d.name d.qual d.params d.body d.scope (d.dvs K) (d.kws K) (d.at_ K) fd := c.def_ d (List.mem_of_getElem? e)
theorem tx_of (X : K.In h) (G : h.Ns mainGlobals mg) (c : Says h K) : Tx K mg where
  f_isinstance := He.free_ok X G (c.fa_ 0)
  f_int := He.free_ok X G (c.fa_ 1)
  f_bool := He.free_ok X G (c.fa_ 2)
  f_str := He.free_ok X G (c.fa_ 3)
  f_len := He.free_ok X G (c.fa_ 4)
  f_all := He.free_ok X G (c.fa_ 5)
  f_enumerate := He.free_ok X G (c.fa_ 6)
  f_tuple := He.free_ok X G (c.fa_ 7)
  f_sorted := He.free_ok X G (c.fa_ 8)
  f_dict := He.free_ok X G (c.fa_ 9)
  f_list := He.free_ok X G (c.fa_ 10)
  f_range := He.free_ok X G (c.fa_ 11)
  f_max := He.free_ok X G (c.fa_ 12)
  f_min := He.free_ok X G (c.fa_ 13)
  f_abs := He.free_ok X G (c.fa_ 14)
  f_repr := He.free_ok X G (c.fa_ 15)
  f_super := He.free_ok X G (c.fa_ 16)
  i_MOST_LETTERS := He.int_ok X G (c.fa_ 17)
  i_MOST_MOMENTS := He.int_ok X G (c.fa_ 18)
  i_MOST_WORDS := He.int_ok X G (c.fa_ 19)
  i_MOST_MOVES := He.int_ok X G (c.fa_ 20)
  i_MOST_COLUMNS := He.int_ok X G (c.fa_ 21)
  i_MOST_DEEDS := He.int_ok X G (c.fa_ 22)
  i_MOST_STATES := He.int_ok X G (c.fa_ 23)
  i_MOST_KEPT := He.int_ok X G (c.fa_ 24)
  i_MOST_VALUE := He.int_ok X G (c.fa_ 25)
  s_LETTERS := He.str_ok X G (c.fa_ 26)
  g_is_integer := He.glo_ok X G (c.fa_ 27)
  d_is_integer := c.df_ 0
  g_is_name := He.glo_ok X G (c.fa_ 28)
  d_is_name := c.df_ 1
  g_is_value := He.glo_ok X G (c.fa_ 29)
  d_is_value := c.df_ 2
  g_is_between := He.glo_ok X G (c.fa_ 30)
  d_is_between := c.df_ 3
  g_check_name := He.glo_ok X G (c.fa_ 31)
  d_check_name := c.df_ 4
  g_check_once := He.glo_ok X G (c.fa_ 32)
  d_check_once := c.df_ 5
  g_check_names := He.glo_ok X G (c.fa_ 33)
  d_check_names := c.df_ 6
  g_state_of := He.glo_ok X G (c.fa_ 34)
  d_state_of := c.df_ 7
  g_copy_row := He.glo_ok X G (c.fa_ 35)
  d_copy_row := c.df_ 8
  g_is_target := He.glo_ok X G (c.fa_ 36)
  d_is_target := c.df_ 9
  g_check_target := He.glo_ok X G (c.fa_ 37)
  d_check_target := c.df_ 10
  g_check_column := He.glo_ok X G (c.fa_ 38)
  d_check_column := c.df_ 11
  g_check_worths := He.glo_ok X G (c.fa_ 39)
  d_check_worths := c.df_ 12
  g_row_after := He.glo_ok X G (c.fa_ 40)
  d_row_after := c.df_ 13
  g_entry_of := He.glo_ok X G (c.fa_ 41)
  d_entry_of := c.df_ 14
  g_entry_list := He.glo_ok X G (c.fa_ 42)
  d_entry_list := c.df_ 15
  g_last_ones := He.glo_ok X G (c.fa_ 43)
  d_last_ones := c.df_ 16
  g_without_repeats := He.glo_ok X G (c.fa_ 44)
  d_without_repeats := c.df_ 17
  g_check_step := He.glo_ok X G (c.fa_ 45)
  d_check_step := c.df_ 18
  g_played := He.glo_ok X G (c.fa_ 46)
  d_played := c.df_ 19
  d_Historyu_initu := c.df_ 20
  d_History_of := c.df_ 21
  d_History_row := c.df_ 22
  d_History_log := c.df_ 23
  d_History_entries := c.df_ 24
  d_Historyu_lenu := c.df_ 25
  d_History_told := c.df_ 26
  d_History_past := c.df_ 27
  d_History_course := c.df_ 28
  d_Noteu_initu := c.df_ 29
  d_Note_entry := c.df_ 30
  g_pairs_of := He.glo_ok X G (c.fa_ 47)
  d_pairs_of := c.df_ 31
  g_check_note := He.glo_ok X G (c.fa_ 48)
  d_check_note := c.df_ 32
  d_Deedu_initu := c.df_ 33
  d_Deed_after := c.df_ 34
  d_Change_of := c.df_ 35
  d_End_of := c.df_ 36
  g_check_columns := He.glo_ok X G (c.fa_ 49)
  d_check_columns := c.df_ 37
  g_check_words := He.glo_ok X G (c.fa_ 50)
  d_check_words := c.df_ 38
  d_Booku_initu := c.df_ 39
  d_Book_of := c.df_ 40
  d_Booku_containsu := c.df_ 41
  d_Booku_getitemu := c.df_ 42
  d_Book_writes := c.df_ 43
  g_l_bag := He.glo_ok X G (c.fa_ 51)
  d_l_bag := c.df_ 44
  g_l_take := He.glo_ok X G (c.fa_ 52)
  d_l_take := c.df_ 45
  g_l_of := He.glo_ok X G (c.fa_ 53)
  d_l_of := c.df_ 46
  g_l_names := He.glo_ok X G (c.fa_ 54)
  d_l_names := c.df_ 47
  g_l_value := He.glo_ok X G (c.fa_ 55)
  d_l_value := c.df_ 48
  g_l_note := He.glo_ok X G (c.fa_ 56)
  d_l_note := c.df_ 49
  g_l_deed := He.glo_ok X G (c.fa_ 57)
  d_l_deed := c.df_ 50
  g_l_data := He.glo_ok X G (c.fa_ 58)
  d_l_data := c.df_ 51
  g_l_note_of := He.glo_ok X G (c.fa_ 59)
  d_l_note_of := c.df_ 52
  g_l_deed_of := He.glo_ok X G (c.fa_ 60)
  d_l_deed_of := c.df_ 53
  g_l_book := He.glo_ok X G (c.fa_ 61)
  d_l_book := c.df_ 54
  g_l_state := He.glo_ok X G (c.fa_ 62)
  d_l_state := c.df_ 55
  g_l_fits := He.glo_ok X G (c.fa_ 63)
  d_l_fits := c.df_ 56
  g_l_worths := He.glo_ok X G (c.fa_ 64)
  d_l_worths := c.df_ 57
  g_l_row := He.glo_ok X G (c.fa_ 65)
  d_l_row := c.df_ 58
  g_l_steps := He.glo_ok X G (c.fa_ 66)
  d_l_steps := c.df_ 59
  g_l_copy := He.glo_ok X G (c.fa_ 67)
  d_l_copy := c.df_ 60
  g_l_later := He.glo_ok X G (c.fa_ 68)
  d_l_later := c.df_ 61
  g_l_longer := He.glo_ok X G (c.fa_ 69)
  d_l_longer := c.df_ 62
  g_l_moved := He.glo_ok X G (c.fa_ 70)
  d_l_moved := c.df_ 63
  g_law := He.glo_ok X G (c.fa_ 71)
  d_law := c.df_ 64
  g_History := He.glo_ok X G (c.fa_ 72)
  c_History := He.cls_ok (c.fa_ 73)
  g_Note := He.glo_ok X G (c.fa_ 74)
  c_Note := He.cls_ok (c.fa_ 75)
  g_Deed := He.glo_ok X G (c.fa_ 76)
  g_Make := He.glo_ok X G (c.fa_ 77)
  c_Make := He.cls_ok (c.fa_ 78)
  g_Change := He.glo_ok X G (c.fa_ 79)
  c_Change := He.cls_ok (c.fa_ 80)
  g_End := He.glo_ok X G (c.fa_ 81)
  c_End := He.cls_ok (c.fa_ 82)
  g_Book := He.glo_ok X G (c.fa_ 83)
  c_Book := He.cls_ok (c.fa_ 84)
  n_History_book := He.noat_ok (c.fa_ 85)
  n_History_done := He.noat_ok (c.fa_ 86)
  n_History_stand := He.noat_ok (c.fa_ 87)
  n_History_noted := He.noat_ok (c.fa_ 88)
  n_Note_old := He.noat_ok (c.fa_ 89)
  n_Note_new := He.noat_ok (c.fa_ 90)
  n_Note_named := He.noat_ok (c.fa_ 91)
  n_Note_changed := He.noat_ok (c.fa_ 92)
  n_Make_name := He.noat_ok (c.fa_ 93)
  n_Make_moves := He.noat_ok (c.fa_ 94)
  n_Make_columns := He.noat_ok (c.fa_ 95)
  n_Make_note := He.noat_ok (c.fa_ 96)
  n_Change_name := He.noat_ok (c.fa_ 97)
  n_Change_moves := He.noat_ok (c.fa_ 98)
  n_Change_columns := He.noat_ok (c.fa_ 99)
  n_Change_note := He.noat_ok (c.fa_ 100)
  n_End_name := He.noat_ok (c.fa_ 101)
  n_End_moves := He.noat_ok (c.fa_ 102)
  n_End_columns := He.noat_ok (c.fa_ 103)
  n_End_note := He.noat_ok (c.fa_ 104)
  n_Book_columns := He.noat_ok (c.fa_ 105)
  n_Book_states := He.noat_ok (c.fa_ 106)
  n_Book_deeds := He.noat_ok (c.fa_ 107)
  n_Book_names := He.noat_ok (c.fa_ 108)
  n_Book_keep := He.noat_ok (c.fa_ 109)
  m_History_ulenu := He.meth_ok (c.fa_ 110)
  m_History_told := He.meth_ok (c.fa_ 111)
  m_History_past := He.meth_ok (c.fa_ 112)
  m_History_course := He.meth_ok (c.fa_ 113)
  m_Note_entry := He.meth_ok (c.fa_ 114)
  m_Make_after := (maB_ok (exA (c := "Make") c.more (by simp))) ▸ He.meth_ok (c.fa_ 115)
  m_Change_after := (maB_ok (exA (c := "Change") c.more (by simp))) ▸ He.meth_ok (c.fa_ 116)
  m_End_after := (maB_ok (exA (c := "End") c.more (by simp))) ▸ He.meth_ok (c.fa_ 117)
  m_Book_ucontainsu := He.meth_ok (c.fa_ 118)
  m_Book_ugetitemu := He.meth_ok (c.fa_ 119)
  m_Book_writes := He.meth_ok (c.fa_ 120)
  k_History := He.mkr_ok (c.fa_ 121)
  k_Note := He.mkr_ok (c.fa_ 122)
  k_Book := He.mkr_ok (c.fa_ 123)
  k_Make := He.mkr_ok (c.fa_ 124)
  k_Change := He.mkr_ok (c.fa_ 125)
  k_End := He.mkr_ok (c.fa_ 126)
  r_History := creadB_ok (exR (c := "History") c.more (by simp))
  cm_History_of := cmB_ok (exC (c := "History") c.more (by simp))
  r_Change := creadB_ok (exR (c := "Change") c.more (by simp))
  cm_Change_of := cmB_ok (exC (c := "Change") c.more (by simp))
  r_End := creadB_ok (exR (c := "End") c.more (by simp))
  cm_End_of := cmB_ok (exC (c := "End") c.more (by simp))
  r_Book := creadB_ok (exR (c := "Book") c.more (by simp))
  cm_Book_of := cmB_ok (exC (c := "Book") c.more (by simp))
  p_History_row := propB_ok (exP (m := "row") c.more (by simp))
  p_History_log := propB_ok (exP (m := "log") c.more (by simp))
  p_History_entries := propB_ok (exP (m := "entries") c.more (by simp))
theorem tz_of (c : Says h K) : Tz K := tzB_ok (exT c.more)
theorem ts_of (c : Says h K) (ht : (R.prog.main.scope.names.lookup ("super" : Str)).isSome = false) : Ts R.prog K :=
  ⟨supB_ok (c := ⟨"Make", "Make.__init__", s_Makeu_initu⟩) (exS c.more (by simp [cl0])) (c.clo _ (by simp [cl0])) ht,
   supB_ok (c := ⟨"Change", "Change.__init__", s_Changeu_initu⟩) (exS c.more (by simp [cl0])) (c.clo _ (by simp [cl0])) ht,
   supB_ok (c := ⟨"End", "End.__init__", s_Endu_initu⟩) (exS c.more (by simp [cl0])) (c.clo _ (by simp [cl0])) ht⟩
end
end Pn

-- PnX
set_option
      maxHeartbeats 4000000
namespace Pn
open PySem PySem.Spec L2 PyProof.Rows StX ClX LamX
abbrev emptyT : Obj := { cls := .none, data := .fields #[] }
/-- what the abstract heap at the start holds: the table and perhaps the script, a list that no one writes -/
def Bare0 (Pt : Addr) (H : Hp) : Prop := ∀ b, H b = none ∨ b = Pt ∨ ∃ o xs, H b = some (.frz o (.lst xs))
abbrev Done0 (h : Heap) (os : OsState) (r : Except Value Flow) (s' : Shared) : Prop := r = .ok (.ret (.bool true)) ∧ OldK h s'.heap ∧ s'.os = os ∧ AllBare s'.gens
section
variable {P : Program} {w : World} {K : PySem.W.Frag} {mg mb : Str → Option Value} {k : Nat} {fa a c Pt : Addr} {sh : Shared} {vs : List Value} {ns : List Int} {r : RC}
theorem law_core (KX : K.In sh.heap) (gm : sh.heap.Ns mainGlobals mg) (gb : sh.heap.Ns builtinsNs mb) (gbb : ∀ y : Str, y ≠ "__name__" → mb y = bootBuiltins y) (nl : sh.heap.NoLimit) (gn : sh.gens = #[])
    (tE : sh.heap.get? Pt = some emptyT) (tK : K.lookup Pt = none) (C : PySem.W.CodeHd sh.heap c Pt)
    (bmod : ∃ (bm : Addr) (ob : Obj), mg "__builtins__" = some (.ref bm) ∧ bm ≠ builtinsNs ∧ sh.heap.get? bm = some ob ∧ ob.cls = .type "module" ∧ ob.dict = some builtinsNs ∧ ob.data = .plain)
    (aL : sh.heap.get? a = some { cls := .type "list", data := .seq vs.toArray }) (rm : Room k callerA)
    (F : ∀ base : Heap, K.In base → base.Ns mainGlobals mg → TabB base mg c Pt → CallP P w K mg base true k fa [] r)
    (H : Hp) (hP : H Pt = some (.tbl #[])) (hB : Bare0 Pt H) (hA : ∀ b, H b ≠ none → b = a ∨ b = Pt) (hK : H a ≠ none → K.lookup a = none) (hok : HOk P w H sh.heap)
    (hr : ∀ Q : VK, (∀ H', Q (.bl true) H') → r [.ref a] [] H Q) :
    codeAny (model P w) callerA (.call (.ref fa) ⟨[.ref a], []⟩) (Done0 sh.heap sh.os) sh := by
  have at0 : ∀ {b : Addr} {o : Obj}, sh.heap.get? b = some o → H b = none → (hidT sh.heap H).get? b = some o := fun e n => hidT_get e n
  -- no object but the script's list and the table is tracked
  have free : ∀ {b : Addr} {o : Obj}, sh.heap.get? b = some o → (∀ ys m, o.data ≠ .seq ys m) → o.data ≠ .fields #[] → H b = none := fun {b o} e d1 d2 => by
    cases q : H b with
    | none => rfl
    | some u =>
      rcases hA b (by rw [q]; exact fun z => nomatch z) with z | z
      · rw [z, aL] at e
        cases e
        exact absurd rfl (d1 _ _)
      · rw [z, tE] at e
        cases e
        exact absurd rfl d2
  have dfree : ∀ {b : Addr} {o : Obj} {es : Array DictEntry} {ep : Nat}, sh.heap.get? b = some o → o.data = .dict es ep → H b = none := fun e d =>
    free e (fun ys m z => by rw [d] at z; cases z) fun z => by rw [d] at z; cases z
  have nsAt : ∀ {b : Addr} {m : Str → Option Value}, sh.heap.Ns b m → (hidT sh.heap H).Ns b m := fun ⟨o, es, ep, e, d, z⟩ => ⟨o, es, ep, at0 e (dfree e d), d, z⟩
  have hKb : K.In (hidT sh.heap H) := fun b o e => at0 (KX b o e) (by
    cases q : H b with
    | none => rfl
    | some u =>
      rcases hA b (by rw [q]; exact fun z => nomatch z) with z | z
      · rw [z] at e q
        rw [hK (by rw [q]; exact fun z => nomatch z)] at e
        cases e
      · rw [z, tK] at e
        cases e)
  obtain ⟨mo, mes, mep, me, md, mz⟩ := id gm
  have TB : TabB (hidT sh.heap H) mg c Pt := by
    refine ⟨?_, ?_, fun z => ?_⟩
    · obtain ⟨o, us, file, tf, flags, tg, inF, text, tt, e1, r1, r2, r3, rest⟩ := C
      refine ⟨o, us, file, tf, flags, tg, inF, text, tt, at0 e1 (free e1 (fun ys m z => ?_) fun z => ?_), r1, r2, r3, rest⟩
      · rw [r2] at z
        cases z
      · rw [r2] at z
        cases z
        simp at r3
    · obtain ⟨bm, ob, b1, b2, b3, b4, b5, b6⟩ := bmod
      refine ⟨bm, ob, b1, b2, fun q => ?_, fun q => ?_, at0 b3 (free b3 (fun ys m z => ?_) fun z => ?_), b4, b5, b6⟩
      · rw [q, me] at b3
        cases b3
        rw [md] at b6
        cases b6
      · rw [q, tE] at b3
        cases b3
        cases b6
      · rw [b6] at z
        cases z
      · rw [b6] at z
        cases z
    · rw [z, tE] at me
      cases me
      cases md
  have hM : L2.Mod K mg (hidT sh.heap H) := ⟨hKb, nsAt gm, ⟨mb, nsAt gb, gbb⟩, let ⟨mc, n1, n2⟩ := nl; ⟨mc, nsAt n1, n2⟩⟩
  have e0 : Env0 P w K mg (hidT sh.heap H) callerA [] sh H := ⟨rfl, hM, fun b o e => of_hidT e, Nat.le_of_eq (hidT_size _ _), trivial, fun b z => absurd (show b ∈ ([] : List Addr) from z) (by simp), hok, .of_eq gn⟩
  refine codeAny_mono (F _ hKb (nsAt gm) TB callerA [] sh H [.ref a] [] [.ref a] [] (fun v _ => v = .bl true) rm (fun _ => rfl) e0 (.cons rfl .nil) .nil rfl (hr _ fun _ => rfl)) fun out s' h => ?_
  cases out with
  | error e => exact False.elim h
  | ok fl =>
    cases fl with
    | next => exact False.elim h
    | brk => exact False.elim h
    | cont => exact False.elim h
    | ret u =>
      obtain ⟨v, H', os, bare, un, hok', rv, q⟩ := h
      have q2 : v = .bl true := q
      subst q2
      obtain rfl : u = Value.bool true := rv
      have old : ∀ b o, b ≠ Pt → sh.heap.get? b = some o → s'.heap.get? b = some o := fun b o nb e => by
        rcases hB b with z | z | ⟨ob, xs, z⟩
        · exact un.keep b o e z (fun y => absurd (show b ∈ ([] : List Addr) from y) (by simp)) (by simp)
        · exact absurd z nb
        · have z2 := un.frzs b ob _ z
          obtain ⟨e1, _⟩ := hok b _ z
          obtain ⟨e2, _⟩ := hok' b _ z2
          rw [e] at e1
          cases e1
          exact e2
      obtain ⟨more, zm⟩ := un.tbls Pt #[] hP
      have gr := hok' Pt _ zm
      refine ⟨rfl,
            ⟨fun b o e => ?_, fun b o e => ?_⟩, os, bare⟩
      · by_cases nb : b = Pt
        · subst nb
          rw [tE] at e
          cases e
          exact .inr (.inl ⟨(C.tab tE).isCodeTable, rfl, #[], more, rfl, gr⟩)
        · exact .inl (old b o nb e)
      · by_cases nb : b = Pt
        · subst nb
          exact ⟨_, gr⟩
        · exact ⟨o, old b o nb e⟩
/-- the law called with the script at a -/
theorem law_end (KX : K.In sh.heap) (gm : sh.heap.Ns mainGlobals mg) (gb : sh.heap.Ns builtinsNs mb) (gbb : ∀ y : Str, y ≠ "__name__" → mb y = bootBuiltins y) (nl : sh.heap.NoLimit) (gn : sh.gens = #[])
    (tE : sh.heap.get? Pt = some emptyT) (tK : K.lookup Pt = none) (C : PySem.W.CodeHd sh.heap c Pt)
    (bmod : ∃ (bm : Addr) (ob : Obj), mg "__builtins__" = some (.ref bm) ∧ bm ≠ builtinsNs ∧ sh.heap.get? bm = some ob ∧ ob.cls = .type "module" ∧ ob.dict = some builtinsNs ∧ ob.data = .plain)
    (aL : sh.heap.get? a = some { cls := .type "list", data := .seq vs.toArray }) (ii : IntsAre vs ns) (ll : ns.length ≤ sizeLine) (rm : Room k callerA)
    (F : ∀ base : Heap, K.In base → base.Ns mainGlobals mg → TabB base mg c Pt → CallP P w K mg base true k fa [] r)
    (hr : ∀ (H : Hp) (Q : VK), H Pt = some (.tbl #[]) → Bare0 Pt H → SqL K H a (ns.map V.int) → (∀ H', Q (.bl true) H') → r [.ref a] [] H Q) :
    codeAny (model P w) callerA (.call (.ref fa) ⟨[.ref a], []⟩) (Done0 sh.heap sh.os) sh := by
  have rv := vals_ints ii
  have lv := ii.length
  have aP : a ≠ Pt := fun z => by
    rw [z, tE] at aL
    have y : Data.fields #[] = Data.seq vs.toArray _ := congrArg Obj.data (Option.some.inj aL)
    cases y
  cases hk : K.lookup a with
  | some o =>
    have e := KX a o hk
    rw [aL] at e
    cases e
    have h0 : ∀ b, b ≠ Pt → (upd (fun _ => none) Pt (.tbl #[]) : Hp) b = none := fun b n => upd_ne n
    have h1 : (upd (fun _ => none) Pt (.tbl #[]) : Hp) Pt = some (.tbl #[]) := upd_same
    have hB : Bare0 Pt (upd (fun _ => none) Pt (.tbl #[])) := fun b => if z : b = Pt then .inr (.inl z) else .inl (h0 b z)
    refine law_core KX gm gb gbb nl gn tE tK C bmod aL rm F _ h1 hB (fun b z => if y : b = Pt then .inr y else absurd (h0 b y) z) (fun z => absurd (h0 a aP) z) (fun b u z => ?_) fun Q q => hr _ Q h1 hB (.inr ⟨_, vs.toArray, _, hk, rfl, rfl, rfl, by rw [List.size_toArray, lv]; exact ll, by simpa using rv⟩) q
    by_cases y : b = Pt
    · subst y
      rw [h1] at z
      cases z
      exact tE
    · rw [h0 b y] at z
      cases z
  | none =>
    have h1 : (upd (upd (fun _ => none) Pt (.tbl #[])) a (.frz { cls := .type "list", data := .seq vs.toArray } (.lst (ns.map V.int))) : Hp) a = some (.frz { cls := .type "list", data := .seq vs.toArray } (.lst (ns.map V.int))) := upd_same
    have h2 : (upd (upd (fun _ => none) Pt (.tbl #[])) a (.frz { cls := .type "list", data := .seq vs.toArray } (.lst (ns.map V.int))) : Hp) Pt = some (.tbl #[]) := by rw [upd_ne (Ne.symm aP), upd_same]
    have h3 : ∀ b, b ≠ a → b ≠ Pt → (upd (upd (fun _ => none) Pt (.tbl #[])) a (.frz { cls := .type "list", data := .seq vs.toArray } (.lst (ns.map V.int))) : Hp) b = none := fun b n m => by rw [upd_ne n, upd_ne m]
    generalize (upd (upd (fun _ => none) Pt (.tbl #[])) a (.frz { cls := .type "list", data := .seq vs.toArray } (.lst (ns.map V.int))) : Hp) = H at h1 h2 h3
    have hB : Bare0 Pt H := fun b => if y : b = a then .inr (.inr (by rw [y]; exact ⟨_, _, h1⟩)) else if z : b = Pt then .inr (.inl z) else .inl (h3 b y z)
    refine law_core KX gm gb gbb nl gn tE tK C bmod aL rm F H h2 hB (fun b z => if y : b = a then .inl y else if x : b = Pt then .inr x else absurd (h3 b y x) z) (fun _ => hk) (fun b u z => ?_) fun Q q => hr _ Q h2 hB (.inl (.inr ⟨{ cls := .type "list", data := .seq vs.toArray }, h1⟩)) q
    by_cases y : b = a
    · subst y
      rw [h1] at z
      cases z
      exact ⟨aL, by rw [List.length_map]; exact ll, vs, _, rv, aL⟩
    · by_cases x : b = Pt
      · subst x
        rw [h2] at z
        cases z
        exact tE
      · rw [h3 b y x] at z
        cases z
/-- the script and the tables at the start are what the law asks -/
theorem r_law0 {TL : List (Addr × Str)} (hTL : ∀ p ∈ TL, p.1 = Pt) (H : Hp) (Q : VK) (h : H Pt = some (.tbl #[])) (hB : Bare0 Pt H) (hS : SqL K H a (ns.map V.int)) (hQ : ∀ H', Q (.bl true) H') : r_law K TL [.ref a] [] H Q := by
  refine ⟨a, ns, rfl, fun H' ke => ?_, fun p hp => TabS.nil (by rw [hTL p hp]; exact h), hQ⟩
  rcases hS with (z | ⟨o, z⟩) | z
  · rcases hB a with y | y | ⟨o, xs, y⟩
    · rw [y] at z
      cases z
    · rw [y, h] at z
      cases z
    · rw [y] at z
      cases z
  · exact .inl (.inr ⟨o, ke a _ z (fun _ _ y => nomatch y) fun _ y => nomatch y⟩)
  · exact .inr z
end
end Pn

-- PnY
set_option
      maxHeartbeats 4000000
namespace Pn
open PySem PySem.Spec L2 PyProof.Rows StX ClX LamX
abbrev hk0 : PySem.W.Hook := hookP fa0 fn0 cl0 tf0 ex0
abbrev bI : He.Defn := ("Book", some "__init__")
abbrev lamQ : Str := "Book.__init__.<locals>.<lambda>"
theorem room12 : Room 12 callerA := ⟨rfl, by decide, by decide⟩
section
variable {K : PySem.W.Frag}
      {h : Heap} {mg : Str → Option Value}
theorem tl_of {base : Heap} (T : Tx K mg) (tb : TabB base mg (He.cT K bI).1 (He.cT K bI).2) : Tl K mg base [((He.cT K bI).2, lamQ)] := by
  obtain ⟨fd, F⟩ := T.d_Booku_initu
  obtain ⟨oc, od, dV, kV, doc, pm, an, cdv, ct, osl, efd, lk, hcd, _, _⟩ := F.ex
  obtain ⟨c, ec⟩ := He.codeIn_ref hcd
  have e : fd.code = .ref c := by rw [efd]; exact ec
  have lk2 : K.lookup (He.fAd K bI) = some ⟨oc, od, .func fd, osl⟩ := lk
  have e2 : He.codeOf K bI = c := He.codeOf_eq lk2 e
  refine ⟨oc, od, fd, osl, lk2, c, (He.cT K bI).2, e, ?_, List.mem_singleton.mpr rfl, fun p hp _ => ?_⟩
  · have z : (He.cT K bI).1 = c := e2
    rw [← z]
    exact tb
  · rw
        [List.mem_singleton.mp hp]
end
theorem walk {q : Program} {loose : List Str} {XP : (Str → Option Value) → Heap → Prop} {d : DefRec} (hdf : d.params.defaults = []) (hn : d.name = "law") :
    PySem.W.WalkO q loose XP hk0.says (PySem.W.OpenLaw.row PySem.Challenge.rw_pastnotes_k29_whole_rests_put_in).toRowW d [] (fun f vs => PySem.call f vs) := by
  refine Att.attach_callB (l := PySem.Challenge.rw_pastnotes_k29_whole_rests_put_in) (n := 63) rfl hdf fun w s₀ s₁ mg mb fa o pm cd doc a vs ns G Y ho hd hcd hmg hobj hints hlen hbits hg => ?_
  obtain ⟨K, KX, c⟩ := Y
  rw [hn] at hmg
  have T : Tx K mg := tx_of KX G.T.g c
  have Z : Tz K := tz_of c
  have S : Ts R.prog K := ts_of c (by kernel_rfl)
  have m0 : bI ∈ tf0 := List.mem_singleton.mpr rfl
  refine law_end (r := r_law K [((He.cT K bI).2, lamQ)]) KX G.T.g G.T.b G.T.builtins G.T.nolimit hg (c.empty bI m0) (c.out bI m0) (PySem.W.codeHd_of_K KX (c.hd bI m0)) G.T.bmain hobj hints (Nat.le_trans hlen (by decide)) room12 (fun base kb gb tb => ?_) fun H Q hP hB hS hQ => r_law0 (fun p hp => ?_) H Q hP hB hS hQ
  · obtain ⟨f, cp, hm, _⟩ := (ok_law (P := R.prog) (w := w) T Z S (tl_of T tb)).ex
    have e := hm.symm.trans hmg
    cases e
    exact cp
  · rw
        [List.mem_singleton.mp hp]
end Pn

-- PnZ
set_option maxHeartbeats 0
namespace Pn
open PySem PySem.W
      PySem.Calls PyProof.Rows
def ob0 (s : SharedT) : hk0.α := obsP fa0 fn0 cl0 tf0 ex0 (HandSHeadRun.getT s)
theorem ob0_eq (s : SharedT) : ob0 s = hk0.obs s.abs := by
  have e : HandSHeadRun.getT s = s.abs.heap.get? := funext fun a => HandSHeadRun.getT_eq s a
  unfold ob0
  rw [e]
  rfl
theorem glue {α A B D E F : Type} {x : Option α} {a : α → A} {b : α → B} {c : α → Unit} {o : α → D} {va : A} {vb : B} {vc : Unit} {vd : D} {p : α → E} {q : α → F} {vp : E} {vq : F} (h1 : x.map (fun s => (a s, b s, c s)) = some (va, vb, vc)) (h2 : x.map p = some vp) (h3 : x.map q = some vq)
    (hh : ∀ s, p s = vp → q s = vq → o s = vd) : x.map (fun s => (a s, b s, o s)) = some (va, vb, vd) := by
  cases x with
  | none => cases h1
  | some s =>
    have e1 := Option.some.inj h1
    have ea : a s = va := congrArg (fun z => z.1) e1
    have eb : b s = vb := congrArg (fun z => z.2.1) e1
    have eo := hh s (Option.some.inj h2) (Option.some.inj h3)
    show some (a s, b s, o s) = some (va, vb, vd)
    rw [ea, eb, eo]
theorem obsK_of {fa : List He.Fa} {fn : List He5.DefA} {cl : List CloD} {tf : List He.Defn} {ex : Frag → Bool} {g : Addr → Option Obj} {K : Frag} (e2 : ((fa.all fun f => f.ok K) && (ex K && He.tabsB g tf K)) = true)
    (e3 : ((fn.all fun d => d.ok K), fn.map (fun d => He5.fnA K (d.at_ K)), cl.map (fun c => fnC K (c.adr K))) = (true, fn.map He5.DefA.val, cl.map CloD.val)) : obsK fa fn cl tf ex g K = valP fn cl := by
  obtain ⟨h1, h2⟩ := He.ba e2
  have h3 := congrArg (fun z => z.1) e3
  have h4 := congrArg (fun z => z.2.1) e3
  have h5 := congrArg (fun z => z.2.2) e3
  simp only at h3 h4 h5
  unfold obsK valP
  rw [h1, h2, h3, h4, h5]
  rfl
theorem run (w : World) : HandSHeadRun.RunEq R qv hk0 ob0 20000 names w := by
  intro os
  exact glue (run1 w os) (run2 w os) (run3 w os) fun s e2 e3 => obsK_of e2 e3
end Pn
open PySem PySem.W
      PySem.Calls PyProof.Rows
theorem PySem.Challenge.cw_pastnotes_k29_whole_rests_put_in_holds : PySem.Challenge.rw_pastnotes_k29_whole_rests_put_in.Holds := by
  w_on; o_law
  refine HandSHeadRun.head_any (r := Pn.R) (q := Pn.qv) (H := Pn.hk0) (ob := Pn.ob0) (M := 20000) (loose := Pn.names) (d := HandSHeadRun.topDef Pn.R.prog 89) (kwd := []) Pn.ob0_eq
    (by kernel_rfl) (fun s => by kernel_rfl) Pn.run (by kernel_rfl) (by kernel_rfl) (by kernel_rfl) (by rfl) (by first | assumption | decide +kernel) (by decide +kernel) ⟨rfl, rfl, rfl, rfl, rfl, by decide +kernel⟩ ?hw ?hc
  case hw => w_witness2
  case hc => exact Pn.walk (by kernel_rfl) (by kernel_rfl)

