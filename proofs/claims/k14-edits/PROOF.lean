import PyProof.Rows.All
import Wide.All
import OpenK.AllK
import Wide.FinOn
import HandS.ForMost
import HandS.Exc
import HandS.ExcField
import HandS.ExcInit
import HandS.ExcIs
import HandS.Defaults
import HandS.Words
import HandS.HeadHook1
import HandS.HeadHook2
import HandS.IsInst
import HandS.ExcValue
import HandS.Zip
import HandS.Dict
import HandS.Wide
import HandS.TupAny
import HandS.Codes
import HandS.TupMul
import HandS.Text
import HandS.TupLe
import HandS.Replace
import HandS.ExcOwn
import HandS.Flow
import HandS.SetFor
import HandS.Strs
import HandS.Conv
import HandS.WideBits
import HandS.Deep
import HandS.Style
import HandS.Head0
import HandS.Head1
import HandS.Head2
import HandS.HeadEnd
import PySem.Challenge.RW_builtahead_k14_edits_or_none
set_option Elab.async false
set_option linter.all false
set_option maxRecDepth 100000
set_option maxHeartbeats 0
namespace Bd
open PySem L2 PySem.Spec PyProof.Rows
/-! ### exceptions that stand as values -/
/-- at a: an exception of the class at C, its dict at d -/
def ExH (C d a : Addr) : HO := .ext fun h => ∃ (oe : Obj) (vs : Array Value), h.get? a = some oe ∧ Zc (.ref C) (some d) oe ∧ oe.data = .fields vs
theorem exH_ok {P : Program} {w : World} {H : Hp} {h : Heap} {C d a : Addr} {oe : Obj} {vs : Array Value} (e : h.get? a = some oe) (z : Zc (.ref C) (some d) oe) (q : oe.data = .fields vs) : ObjOk P w H h a (ExH C d a) :=
  ⟨⟨oe, vs, e, z, q⟩, ⟨_, e⟩, fun h1 h2 y k => by
    obtain ⟨o, v, q1, q2, q3⟩ := y
    exact ⟨o, v, k _ q1, q2, q3⟩⟩
theorem exH_at {P : Program} {w : World} {H : Hp} {h : Heap} {C d a : Addr} (ok : HOk P w H h) (e : H a = some (ExH C d a)) : ∃ (oe : Obj) (vs : Array Value), h.get? a = some oe ∧ Zc (.ref C) (some d) oe ∧ oe.data = .fields vs := by
  have x : ObjOk P w H h a (.ext fun h => ∃ (oe : Obj) (vs : Array Value), h.get? a = some oe ∧ Zc (.ref C) (some d) oe ∧ oe.data = .fields vs) := ok a _ e
  exact x.1
/-- an object that stands and is nobody's is told of -/
theorem inv_add {X : Cx} {pins : List (Addr × Obj)} {σ : L2.St} {H : Hp} {s : Shared} {a : Addr} {o : HO} (I : Inv X pins σ H s) (na : H a = none) (n0 : X.s_0.heap.get? a = none) (nL : a ≠ X.env.locals) (nC : ∀ x c, X.env.cells.lookup x = some c → c ≠ a) (nP : ∀ p ∈ X.pn ++ pins, p.1 ≠ a)
    (new : ObjOk X.prog X.w (upd H a o) s.heap a o) : Inv X pins σ (upd H a o) s := by
  have ho : ∀ {b : Addr} {x : HO}, H b = some x → upd H a o b = some x := fun {b x} q => by rw [upd_ne (ne_of_none q na)]; exact q
  refine ⟨I.ok, I.os, I.bare, ⟨I.base.keep, I.base.slot, fun b u q n hx => ?_, I.base.there, fun b xs q => ho (I.base.tups b xs q), fun b u v q => ho (I.base.frzs b u v q), fun b ps q => ?_⟩, I.loc, I.cell, ?_, fun x c e => ?_, fun p hp => ?_, fun b u q => ?_, I.len⟩
  · have hb : b ≠ a := by rintro rfl; rw [n0] at q; cases q
    rw [upd_ne hb]; exact I.base.free b u q n hx
  · obtain ⟨m, e⟩ := I.base.tbls b ps q
    exact ⟨m, ho e⟩
  · rw [upd_ne (Ne.symm nL)]; exact I.free
  · rw [upd_ne (nC x c e)]; exact I.freeC x c e
  · obtain ⟨e1, e2, e3⟩ := I.pin p hp
    exact ⟨e1, by rw [upd_ne (nP p hp)]; exact e2, e3⟩
  · by_cases hb : b = a
    · subst hb; rw [upd_same] at q; cases q; exact new
    · rw [upd_ne hb] at q
      exact (I.hok b u q).stay (fun _ _ _ z => z) (fun _ z => ho z) fun _ _ z => ho z
theorem toS {X : Cx} {pins : List (Addr × Obj)} {σ : L2.St} {H : Hp} {s : Shared} (I : Inv X pins σ H s) (a : Addr) : Inv (X.suite a (X.pn ++ pins)) [] σ H s :=
  ⟨I.ok.suite _ _, I.os, I.bare, I.base, I.loc, I.cell, I.free, I.freeC, fun p hp => I.pin p (by simpa using hp), I.hok, I.len⟩
theorem ofS {X : Cx} {pins pn : List (Addr × Obj)} {σ : L2.St} {H : Hp} {s : Shared} {a : Addr} (I : Inv (X.suite a (X.pn ++ pins)) pn σ H s) (ok : X.Ok) : Inv X pins σ H s :=
  ⟨ok, I.os, I.bare, I.base, I.loc, I.cell, I.free, I.freeC, fun p hp => I.pin p (List.mem_append_left _ hp), I.hok, I.len⟩
/-- what a clause wishes that keeps the exception as a value -/
def wV (K : PySem.W.Frag) (c : Value) (i : Nat) (t : TS) (D : Ends) : WX := fun cls d σ H => PySem.W.exmOne K cls c = some true ∧ ∃ C dd : Addr, cls = .ref C ∧ d = some dd ∧
  ∀ a, H a = none → t { nx := fun σ' H' => D.nx (σ'.set i none) H', rt := D.rt, bk := fun σ' H' => D.bk (σ'.set i none) H', ct := fun σ' H' => D.ct (σ'.set i none) H' } (σ.set i (some (.ref a))) (upd H a (ExH C dd a))
theorem ps_tryV {X : Cx} {x n : Str} {c : Value} {i : Nat} {bd su : List Stmt} {b0 : Stmt} {np pos pos' : Pos} {tb : WX → TS} {t : TS} (hs : X.stack = X.env :: X.outer) (hf : X.env.frame = some X.env.locals) (hex : X.ex = []) (hN : X.N.Nodup) (hi : X.N[i]? = some n) (hln : X.env.kindOf n = some .local) (hc : Names X x c)
    (hb : ∀ (W : WX) (pn : List (Addr × Obj)) (xe : Value → Shared → Prop), Takes (X.tr pn xe) W → PassesOwn (model X.prog X.w) X.A X.env xe → PSs (X.tr pn xe) bd (tb W)) (hsu : ∀ (a : Addr) (pn : List (Addr × Obj)), PSs (X.suite a pn) (b0 :: su) t) :
    PS X (.Try bd [.ExceptHandler (some (.Name x np)) (some n) (b0 :: su) pos'] [] [] pos) (fun D σ H => tb (wV X.K c i t D) D σ H) := by
  constructor
  intro pins s σ H D I h
  have ok := I.ok
  have fr : X.A.frames = some (X.env :: X.outer) := by rw [ok.frames, hs]
  refine wpAny_Try_except (wpAny_mono ((hb (wV X.K c i t D) (X.pn ++ pins) (fun e s1 => wpAny (model X.prog X.w) X.A (noteFrame e X.env) (fun _ s2 => wpAny (model X.prog X.w) X.A (setFlight e none) (fun _ s3 =>
    wpAny (model X.prog X.w) X.A (handleBy e X.env [.ExceptHandler (some (.Name x np)) (some n) (b0 :: su) pos']) (SP X pins D) X.xe s3) X.xe s2) X.xe s1) (fun u s' xx => ?_) PassesOwn.looking).run [] s σ H D (I.toTry _) h) (fun f s1 hsp => ?_) fun e s1 he => he)
  · obtain ⟨a, B, sI, pi, τ, G, cls, d, rfl, J0, nb, up, sky, na, os, ag, hm, C, dd, rfl, rfl, hy⟩ := xx
    have J : Inv X pins τ G sI := J0.ofTry ok
    have sk : Sky B (X.env :: X.outer) a (Zc (.ref C) (some dd)) X.env.locals s'.heap := hs ▸ sky
    refine Sky.land Zc.steady fr hf sk fun h3 f3 u3 => ?_
    have J3 : Inv X pins τ G { s' with heap := h3 } := J.landed nb f3.1 (up.trans u3) os ag
    obtain ⟨oe, vs, e3, z3, d3⟩ := f3.there
    have nfr : a ∉ frs (X.env :: X.outer) := fun hm => by
      obtain ⟨_, o, e, hn⟩ := f3.2.2.1.mem hm
      rw [e3] at e; cases e
      exact hn _ d3
    -- it was not there when the frame began
    have nI : sI.heap.get? a = none := by
      cases q : sI.heap.get? a with
      | none => rfl
      | some o =>
        have := nb a o q (by rw [hs]; exact nfr)
        rw [f3.2.1] at this; cases this
    have n0 : X.s_0.heap.get? a = none := by
      cases q : X.s_0.heap.get? a with
      | none => rfl
      | some o =>
        obtain ⟨o', e⟩ := J.base.there a o q (by rw [hex]; simp)
        rw [nI] at e; cases e
    have nL : a ≠ X.env.locals := by
      rintro rfl
      obtain ⟨m, ⟨o, _, _, e, _⟩, _⟩ := J.loc
      rw [nI] at e; cases e
    have nC : ∀ y z, X.env.cells.lookup y = some z → z ≠ a := fun y z e => by
      rintro rfl
      obtain ⟨v, o, e, _⟩ := J.cell y z e
      rw [nI] at e; cases e
    have nP : ∀ p ∈ X.pn ++ pins, p.1 ≠ a := fun p hp => by
      rintro rfl
      have := (J.pin p hp).1
      rw [nI] at this; cases this
    refine wpAny_handleBy_cons (codeAny_handlers_test ?_) (by intro q; cases q)
    have ty : PySem.W.Looks (model X.prog X.w) h3 (typeOf (.ref a)) (.ref C) := fun A Q E s k q => wpAny_typeOf_ref (k _ _ e3) (by rw [z3.1]; exact q)
    have lk := PySem.W.exm_one (M := model X.prog X.w) J3.kIn ty hm
    have S3 := toS J3 a
    have nm : ∀ {Q : Value → Shared → Prop} {E : Value → Shared → Prop}, Q c { s' with heap := h3 } → wpAny (model X.prog X.w) (X.A.mark (some (.ref a))) (eval (.Name x np) X.env) Q E { s' with heap := h3 } := fun {Q E} q => by
      obtain ⟨g1, g2, g3 | ⟨g3, g4, g5⟩⟩ := hc
      · exact ld_glob (X := X.suite a (X.pn ++ pins)) S3 g1 g3 q g2
      · exact ld_blt (X := X.suite a (X.pn ++ pins)) S3 g1 g3 g4 q g5 g2
    refine nm (lk.here (codeAny_handlers_suite_as (HandSPX.lands_againZ f3 fun h4 f4 u4 => ?_)))
    have J4 : Inv X pins τ G { s' with heap := h4 } := J.landed nb f4.1 ((up.trans u3).trans u4) os ag
    obtain ⟨o4, v4, e4, z4, d4⟩ := f4.there
    have J5 : Inv X pins τ (upd G a (ExH C dd a)) { s' with heap := h4 } := inv_add J4 na n0 nL nC nP (exH_ok e4 z4 d4)
    refine store_ok (X := X.suite a (X.pn ++ pins)) (v := .ref a) (toS J5 a) hN hi (.inl hln) rfl (fun s5 S5 => ?_) (.inr hln)
    refine wpAny_mono ((hsu a (X.pn ++ pins)).run [] s5 _ _ _ S5 (hy a na)) (fun f s6 hp => ?_) (fun _ _ z => False.elim z)
    have fin : ∀ {τ6 : L2.St} {G6 : Hp} {Q : Shared → Prop}, Inv (X.suite a (X.pn ++ pins)) [] τ6 G6 s6 → (∀ s7, Inv X pins (τ6.set i none) G6 s7 → Q s7) → wpAny (model X.prog X.w) X.A (do bindName X.env n .none; unbindBehindTheSuite X.env n pos') (fun _ s7 => Q s7) X.xe s6 := fun S6 hq => gone_ok (ofS S6 ok) hN hi hln hq
    cases f with
    | ret u => obtain ⟨v6, τ6, G6, S6, r6, q6⟩ := hp; exact fin S6 fun s7 J7 => ⟨_, _, _, J7, r6, q6⟩
    | next => obtain ⟨τ6, G6, S6, q6⟩ := hp; exact fin S6 fun s7 J7 => ⟨_, _, J7, q6⟩
    | brk => obtain ⟨τ6, G6, S6, q6⟩ := hp; exact fin S6 fun s7 J7 => ⟨_, _, J7, q6⟩
    | cont => obtain ⟨τ6, G6, S6, q6⟩ := hp; exact fin S6 fun s7 J7 => ⟨_, _, J7, q6⟩
  · cases f with
    | ret u => obtain ⟨v, τ, G, J, r, q⟩ := hsp; exact ⟨v, τ, G, J.ofTry ok, r, q⟩
    | next => obtain ⟨τ, G, J, q⟩ := hsp; exact wpAny_execs_nil ⟨τ, G, J.ofTry ok, q⟩
    | brk => obtain ⟨τ, G, J, q⟩ := hsp; exact ⟨τ, G, J.ofTry ok, q⟩
    | cont => obtain ⟨τ, G, J, q⟩ := hsp; exact ⟨τ, G, J.ofTry ok, q⟩
/-! ### a field of such an exception, read anywhere -/
def tFld (C : Addr) (f : Str) (te : TE) : TE := fun σ H Q => te σ H fun x H1 => ∃ (a dd : Addr) (fs : List (Str × V)) (v : V), x = .ref a ∧ H1 a = some (ExH C dd a) ∧ H1 dd = some (.xd fs) ∧ fs.lookup f = some v ∧ Q v H1
theorem pe_fld {X : Cx} {C : Addr} {e : Expr} {te : TE} {pos : Pos} {n : Str} (T : XfC X.K C) (hno : PySem.W.findIn X.K (.ref C) n = some none) (he : PE X e te) (hb : attributeBase e n X.env (eval e X.env) = eval e X.env) : PE X (.Attribute e n pos) (tFld C n te) := by
  constructor
  intro pins s σ H Q I h
  refine attr_of hb (thn (he.run pins s σ H _ I h) fun u s1 hh => ?_)
  obtain ⟨x, H1, I1, rx, a, dd, fs, v, rfl, ea, ed, l, q⟩ := hh
  obtain rfl : u = Value.ref a := rx
  obtain ⟨oe, vs, ha, hz, hd⟩ := exH_at I1.hok ea
  obtain ⟨mA, hns, hr⟩ := (show ObjOk X.prog X.w H1 s1.heap dd (.xd fs) from I1.hok dd _ ed)
  obtain ⟨od, ho, hl⟩ := lookIn_ns hns
  obtain ⟨u, hu, ru⟩ := RelO.some_of (v := v) (o := mA n) (l ▸ hr n)
  have J : PySem.W.InstAt s1.heap a oe C (some od) := ⟨ha, hz.1, by unfold PySem.W.notCls; rw [hd] <;> rfl, by rw [hz.2]; exact ho⟩
  exact HandSPX.exc_get I1.kIn J T.ga T.gg T.exC (PySem.W.findObj_own T.hdC hno rfl ((hl n).trans (congrArg some hu))) (handed_of ru) ⟨v, H1, I1.tok _, ru, q⟩
end Bd

namespace Bd
open PySem L2 PySem.Spec PyProof.Rows
/-! ### what the head tells of an exception's class -/
def oexB (K : PySem.W.Frag) (C : Addr) : Bool := (match K.lookup C with
  | some ⟨.type "type", _, .cls cd, sl⟩ => (match cd.mro, sl.toList with
    | .ref D :: bm, [_, _, _, _, some (.builtin n), _] => decide (D = C) && (decide (n = "ValueError.__new__") && (!cd.hasDel && (cd.hasDict && PySem.HandSPX.refsVE bm)))
    | _, _ => false)
  | _ => false) && (decide (PySem.W.findIn K (.ref C) "__setattr__" = some (some (.builtin "object.__setattr__"))) && (decide (PySem.W.subIn K (.ref C) (.type "BaseException") = some true) && (decide (PySem.W.typeIn K (.ref C) = some (.type "type")) && PySem.W.keepIn K (.ref C))))
theorem oexB_ok {K : PySem.W.Frag} {C : Addr} (h : oexB K C = true) : OexC K C := by
  obtain ⟨h1, h2⟩ := Bool.and_eq_true_iff.mp h
  obtain ⟨h3, h4⟩ := Bool.and_eq_true_iff.mp h2
  obtain ⟨h5, h6⟩ := Bool.and_eq_true_iff.mp h4
  obtain ⟨h7, h8⟩ := Bool.and_eq_true_iff.mp h6
  refine ⟨?_, of_decide_eq_true h3, of_decide_eq_true h5, of_decide_eq_true h7, h8⟩
  split at h1
  · rename_i dd cd sl ho
    split at h1
    · rename_i D bm k0 k1 k2 k3 n k5 hm hs
      simp only [Bool.and_eq_true, decide_eq_true_eq, Bool.not_eq_true'] at h1
      obtain ⟨rfl, rfl, hdel, hdct, hr⟩ := h1
      obtain ⟨nm, bs, mro, ns, qn, hd, sn, sub, ab, col, del⟩ := cd
      dsimp only at hm hdel hdct
      subst hm hdel hdct
      have hsl : sl = #[k0, k1, k2, k3, some (.builtin "ValueError.__new__"), k5] := by
        obtain ⟨l⟩ := sl
        dsimp only at hs
        rw [hs]
      subst hsl
      exact ⟨nm, qn, ns, bs, bm, sn, sub, ab, col, dd, k0, k1, k2, k3, k5, ho, hr⟩
    · cases h1
  · cases h1
/-! ### its __init__ that stores one value -/
def spI (K : PySem.W.Frag) (f : Str) : Sp := fun vs H Q _ => ∃ (a C : Addr) (y : V), vs = [.ref a, y] ∧ OexC K C ∧ PySem.W.findIn K (.ref C) f = some none ∧ H a = some (exo a C none) ∧ ∀ dx, H dx = none → dx ≠ a → Q .non (upd (upd H dx (exd dx [(f, y)])) a (exo a C (some dx)))
/-- the text of such an __init__ -/
def isInit (f q : Str) : List Stmt → Bool
  | [.Assign [.Attribute (.Name s _) g _] (.Name r _) _] => decide (s = "self") && (decide (g = f) && decide (r = q))
  | _ => false
theorem init_ok {P : Program} {w : World} {K : PySem.W.Frag} {mg : Str → Option Value} {base : Heap} {CX : CXT} {x qual f q : Str} {params : Arguments} {body : List Stmt} {scope : Scope} {kws : List (Str × V)} {fI : Addr} {fd : FuncData} {k : Nat} (F : FunD K x qual params body scope [] kws fI fd) (S : FnScope ["self", q] ["self", q] scope) (hb : isInit f q body = true)
    (hq : (q == ("__debug__" : Str)) = false ∧ (q == ("__classdict__" : Str)) = false) : FnOk P w K mg base CX (k + 1) fI fd ["self", q] (spI K f) := by
  refine F.ok S (fun vs H Q E h => ?_) fun cdv A outer s H vs Q E hr h => ?_
  · obtain ⟨a, C, y, rfl, _⟩ := h; rfl
  · unfold isInit at hb
    split at hb
    · rename_i sn p1 g p2 r p3 p4
      obtain ⟨h1, h2⟩ := Bool.and_eq_true_iff.mp hb
      obtain ⟨h3, h4⟩ := Bool.and_eq_true_iff.mp h2
      obtain rfl := of_decide_eq_true h1
      obtain rfl := of_decide_eq_true h3
      obtain rfl := of_decide_eq_true h4
      obtain ⟨a, C, y, rfl, T, hno, ha, k⟩ := h
      have par : ∀ z ∈ [("self" : Str), r], Vis scope z := fun z hz => (S.par z hz).elim .inl fun e => .inr (.inl e)
      refine ⟨_, pss_cons (ps_ost (pe_var (i := 0) rfl (par "self" (by simp)) (by decide +kernel) (by decide +kernel)) (pe_var (i := 1) rfl (par r (by simp)) hq.1 hq.2)) pss_nil, y, rfl, .ref a, rfl, a, C, rfl, T, hno, .inl ⟨ha, fun dx n ne => k dx n ne⟩⟩
    · cases hb
/-- what is known of an exception's class that is raised with one value -/
structure ExcOk (P : Program) (w : World) (K : PySem.W.Frag) (mg : Str → Option Value) (base : Heap) (cls f : Str) : Prop where
  ex : ∃ (C fI : Addr) (fd : FuncData) (q : Str), mg cls = some (.ref C) ∧ OexC K C ∧ XfC K C ∧ PySem.W.findIn K (.ref C) f = some none ∧ PySem.W.findIn K (.ref C) "__init__" = some (some (.ref fI)) ∧ PySem.W.typeIn K (.ref fI) = some (.type "function") ∧ Binds K fd ["self", q] [] ∧
    FnOk P w K mg base (L2.CX P w) 1 fI fd ["self", q] (spI K f)
theorem _root_.L2.PA.weak {X : Cx} {es : List Expr} {t : TA} (h : PA X es t) : PA X es (fun σ H Q => ∃ Q0 : List V → Hp → Prop, t σ H Q0 ∧ ∀ x H', Q0 x H' → Q x H') :=
  ⟨fun pos pins s σ H Q I q => by
    obtain ⟨Q0, q0, k⟩ := q
    exact thn (h.run pos pins s σ H Q0 I q0) fun v s1 ⟨x, H1, I1, r1, q1⟩ => ⟨x, H1, I1, r1, k _ _ q1⟩⟩
/-- raise cls(e) -/
theorem ps_raise1 {X : Cx} {W : WX} {cls f : Str} {e : Expr} {te : TA} {p pos pos' : Pos} (hc : X.calm = true) (hu : Room 2 X.A) (tk : Takes X W) (T : ExcOk X.prog X.w X.K X.mg X.base cls f) (hg : Gl X cls) (hdb : (cls == ("__debug__" : Str)) = false) (ha : PA X [e] te) (he : starEach [e] X.env = (false, eval e X.env) :: starEach [] X.env) :
    PS X (.Raise (some (.Call (.Name cls p) [e] [] pos)) none pos') (fun _ σ H => te σ H fun vs H1 => ∃ v C, vs = [v] ∧ X.mg cls = some (.ref C) ∧ ∀ dx, H1 dx = none → W (.ref C) (some dx) σ (upd H1 dx (.xd [(f, v)]))) := by
  obtain ⟨C, fI, fd, q, hm, oc, xc, hno, hi, ht, hb, F⟩ := T.ex
  have mk := pmk_oex (p := p) (pos := pos) oc hi ht F hu hb .nil (fun pins σ H s er s' I c => passes_call (E := fun _ _ _ => False) tk (fun _ _ _ _ z => z.elim) pins σ H s er s' I c) hg hm (L2.PA.weak ha) hdb he rfl
  refine ⟨fun pins s σ H D I h => (ps_raise hc tk mk).run pins s σ H D I ?_⟩
  -- the reading
  have go : ∀ (vs : List V) (H1 : Hp), (∃ v C, vs = [v] ∧ X.mg cls = some (.ref C) ∧ ∀ dx, H1 dx = none → W (.ref C) (some dx) σ (upd H1 dx (.xd [(f, v)]))) → (vs.length ≤ 1000 ∧ ∀ a, H1 a = none → spI X.K f (.ref a :: (vs ++ [])) (upd H1 a (exo a C none))
      (fun v H2 => v = .non ∧ ∃ (d : Addr) (fs : List (Str × V)), H2 a = some (exo a C (some d)) ∧ H2 d = some (exd d fs) ∧ H1 d = none ∧ W (.ref C) (some d) σ (upd (del H2 a) d (.xd fs))) fun _ _ _ => False) := by
    rintro vs H1 ⟨v, C', rfl, hm', k⟩
    rw [hm] at hm'; cases hm'
    refine ⟨by simp, fun a na => ⟨a, C, v, rfl, oc, hno, upd_same, fun dx n ne => ⟨rfl, dx, [(f, v)], upd_same, ?_, ?_, ?_⟩⟩⟩
    · rw [upd_ne ne, upd_same]
    · rw [upd_ne ne] at n; exact n
    · have n' : H1 dx = none := by rw [upd_ne ne] at n; exact n
      have e2 : upd (del (upd (upd (upd H1 a (exo a C none)) dx (exd dx [(f, v)])) a (exo a C (some dx))) a) dx (.xd [(f, v)]) = upd H1 dx (.xd [(f, v)]) := by
        funext b
        by_cases h1 : b = dx
        · subst h1; rw [upd_same, upd_same]
        · rw [upd_ne h1, upd_ne h1]
          by_cases h2 : b = a
          · subst h2; rw [del_same, na]
          · rw [del_ne h2, upd_ne h2, upd_ne h1, upd_ne h2]
      rw [e2]; exact k dx n'
  exact ⟨_, h, go⟩
end Bd

namespace Bd
open PySem L2 PySem.Spec PySem.HandSPX PySem.W PySem.Calls
section
open Builtin Builtin.ObjectAttr
variable {prog : Program} {w : World} {A : Around} {E : Value → Shared → Prop} {R : Result → Shared → Prop} {h : Heap} {g : Array GenState} {d : Drawn} {t : Nat} {os : OsState}
variable {nm q : Str} {C N : Addr} {bs bm bmB : List Value} {hdct : Bool} {sn : List Str} {sub : List Value} {ab : Bool} {col : Option Bool} {dd : Option Addr} {k0 k1 k2 k3 k5 : Option Value} {B newId initId : String}
theorem vary_args (f sh full short : String) (r : Manifest.Receiver) (n : Nat) (ks : List Str) : Bind.check ⟨.any, f, sh, r, [⟨"args", .varPos, false⟩, ⟨"kwargs", .varKw, false⟩]⟩ full short n ks = pure () := by
  unfold Bind.check
  rfl
theorem newK_check {vs : List Value} {kw : List (Str × Value)} {Q : Unit → Shared → Prop} (F : ExcBaseFacts B newId initId bmB) (hT : ∀ Y : String, bm.contains (.type Y) = bmB.contains (.type Y))
    (hC : h.get? C = some (excClassObj nm q C N bs bm hdct sn sub ab col dd k0 k1 k2 k3 k5 newId)) (k : Q () ⟨h, g, d, t, os⟩) : wpAny (model prog w) A (checkBuiltinCall newId ⟨.ref C :: vs, kw⟩) Q E ⟨h, g, d, t, os⟩ := by
  have e1 : (Value.ref C :: bm).contains (.type B) = true := by
    rw [List.contains_cons, hT B]
    exact Bool.or_eq_true_iff.mpr (.inr F.hasB)
  have e2 := F.noStar
  simp only [checkBuiltinCall, F.newKind, F.newSplit, F.newRow]
  repeat (first
    | refine wpAny_loadPart_at hC ?_
    | (refine wpAny_isSubtype_exc hC ?_
       rw [e1])
    | refine wpAny_staticBase_exc hC ?_
    | refine wpAny_madeBy_exc hC ?_
    | simp only [bne_self_eq_false, Bool.false_eq_true, if_false]
    | wp_step)
  exact k
theorem newK_own {vs : List Value} {kw : List (Str × Value)} (F : ExcBaseFacts B newId initId bmB) (hT : ∀ Y : String, bm.contains (.type Y) = bmB.contains (.type Y))
    (hC : h.get? C = some (excClassObj nm q C N bs bm hdct sn sub ab col dd k0 k1 k2 k3 k5 newId)) (hl : vs.length ≤ sizeLine)
    (k : R (.ok (.ret (.ref (h.objs.size + 1)))) ⟨(h.push (W.kdv_tup vs)).push (excO C h.objs.size), g, d, t, os⟩) : codeAny (model prog w) A (.builtin newId ⟨.ref C :: vs, kw⟩) R ⟨h, g, d, t, os⟩ := by
  have z0 := F.ends
  have z1 : (Value.ref C :: bm).contains (.type B) = true := by
    rw [List.contains_cons, hT B]
    exact Bool.or_eq_true_iff.mpr (.inr F.hasB)
  have z2 : (Value.ref C :: bm).contains (.type "AttributeError") = false := by
    rw [List.contains_cons, hT, F.noAttr]
    rfl
  have z3 : (Value.ref C :: bm).contains (.type "NameError") = false := by
    rw [List.contains_cons, hT, F.noName]
    rfl
  refine codeAny_builtinAt F.entry ?_
  unfold Builtin.«BaseException.__new__»
  refine wpAt_bind ?_
  show wpAt _ _ _ (stack >>= _) _ _ _
  refine wpAt_bind (wpAt_stack fun p below => wpAt_of_wpAny ?_)
  wp_walk
  refine wpAt_of_wpAny ?_
  rw [F.owner]
  repeat (first
    | with_reducible refine wpAny_madeHere_exc F.canon hC ?_
    | with_reducible refine wpAny_loadPart_at hC ?_
    | (with_reducible refine wpAny_isSubtype_exc hC ?_
       first | rw [z1] | rw [z2] | rw [z3])
    | wp_step)
  show R _ _
  rw [Heap.size_push]
  exact k
theorem typeK_call {vs : List Value} {kw : List (Str × Value)} {fI : Addr} {Q : PySem.Fin → Shared → Prop} (F : ExcBaseFacts B newId initId bmB) (hT : ∀ Y : String, bm.contains (.type Y) = bmB.contains (.type Y))
    (hC : h.get? C = some (excClassObj nm q C N bs bm hdct sn sub ab col dd k0 k1 k2 k3 k5 newId)) (hl : vs.length ≤ sizeLine)
    (y1 : W.Looks (model prog w) h (typeLookup (.ref C) "__init__") (some (.ref fI))) (y2 : ∀ self, W.Looks (model prog w) h (bindSpecial (.ref fI) self) (.ref fI, [self]))
    (k : codeAny (model prog w) A (.call (.ref fI) ⟨.ref (h.objs.size + 1) :: vs, kw⟩)
      (fun r s' => match r with | .ok (.ret v) => v = .none ∧ Q (.done (.ret (.ref (h.objs.size + 1)))) s' | .ok _ => False | .error e => E e s') ⟨(h.push (W.kdv_tup vs)).push (excO C h.objs.size), g, d, t, os⟩) :
    wpAny (model prog w) A (Builtin.«type.__call__» ⟨.ref C :: vs, kw⟩) Q E ⟨h, g, d, t, os⟩ := by
  repeat (first
    | with_reducible refine wpAny_loadPart_at hC ?_
    | with_reducible refine wpAny_madeBy_exc hC ?_
    | wp_step)
  refine codeAny_call_builtin_code (Code.quiet_builtin _ F.quiet) (newK_check F hT hC ?_)
  refine newK_own F hT hC hl ?_
  show wpAny _ _ _ _ _ _
  have st : ∀ b o, h.get? b = some o → ((h.push (W.kdv_tup vs)).push (excO C h.objs.size)).get? b = some o := fun b o e => Heap.get?_push_of_some _ (Heap.get?_push_of_some _ e)
  have a1 := st _ _ hC
  have a2 : ((h.push (W.kdv_tup vs)).push (excO C h.objs.size)).get? (h.objs.size + 1) = some (excO C h.objs.size) := by heap_get
  have a3 : (Value.ref C :: bm).contains (.ref C) = true := by simp
  have a4 := y1.keeps st
  have a5 := (y2 (.ref (h.objs.size + 1))).keeps st
  unfold isInstance
  repeat (first
    | with_reducible refine wpAny_loadPart_at a2 ?_
    | (with_reducible refine wpAny_isSubtype_exc a1 ?_
       rw [a3])
    | wp_step)
  show wpAny _ _ (typeLookup (.ref C) _) _ _ _
  refine a4.at ?_
  refine wpAny_holding (wpAny_bind (a5.at ?_))
  refine wpAny_bind (wpAny_call (codeAny_mono k fun r s' z => ?_))
  rcases r with e | (v | _ | _ | _) <;> first | exact z | exact z.elim | skip
  obtain ⟨rfl, z⟩ := z
  first
    | exact wpAny_pure (wpAny_pure z)
    | (wp_walk; exact z)
theorem callK_own {vs : List Value} {kw : List (Str × Value)} {fI : Addr} (F : ExcBaseFacts B newId initId bmB) (hT : ∀ Y : String, bm.contains (.type Y) = bmB.contains (.type Y))
    (hC : h.get? C = some (excClassObj nm q C N bs bm hdct sn sub ab col dd k0 k1 k2 k3 k5 newId)) (hl : vs.length ≤ sizeLine)
    (y1 : W.Looks (model prog w) h (typeLookup (.ref C) "__init__") (some (.ref fI))) (y2 : ∀ self, W.Looks (model prog w) h (bindSpecial (.ref fI) self) (.ref fI, [self]))
    (k : codeAny (model prog w) (A.under (.builtin "type.__call__" ⟨.ref C :: vs, kw⟩)) (.call (.ref fI) ⟨.ref (h.objs.size + 1) :: vs, kw⟩) (W.InitBack (h.objs.size + 1) R)
      ⟨(h.push (W.kdv_tup vs)).push (excO C h.objs.size), g, d, t, os⟩) : codeAny (model prog w) A (.call (.ref C) ⟨vs, kw⟩) R ⟨h, g, d, t, os⟩ := by
  have u1 := tc_lookup
  have u2 := tc_bind (.ref C)
  have u3 : (⟨h, g, d, t, os⟩ : Shared).TypeIs (.ref C) "type" := ⟨_, hC, rfl⟩
  refine codeAny_of_tree ?_
  show wpAny _ _ (callAny (.ref C) _) _ _ _
  repeat (any_goals (first
    | assumption
    | with_reducible refine wpAny_loadPart_at hC ?_
    | wp_step))
  refine ⟨rfl, ?_⟩
  refine codeAny_call_builtin_at (Code.quiet_builtin _ (by decide +kernel)) entry_typeCall (wpAny_check_type_call_sub hC (typeK_call F hT hC hl y1 y2 ?_))
  refine codeAny_mono k fun r s' z => ?_
  rcases r with e | (v | _ | _ | _) <;> exact z
end
end Bd

namespace Bd
open PySem L2 PySem.Spec PySem.HandSPX PySem.W PySem.Calls
/-! ### an exception made as a value -/
section
variable {X : Cx} {pins : List (Addr × Obj)} {σ : L2.St} {H : Hp} {s : Shared} {C fI : Addr} {k : Nat} {fd : FuncData} {ps : List Str} {sp : Sp} {us gs : List Value} {zs : List V} {kw : List (Str × Value)} {Q : VK}
theorem run_exv (T : OexC X.K C) (y1 : PySem.W.findIn X.K (.ref C) "__init__" = some (some (.ref fI))) (y2 : PySem.W.typeIn X.K (.ref fI) = some (.type "function")) (F1 : FnOk X.prog X.w X.K X.mg X.base (L2.CX X.prog X.w) k fI fd ps sp) (hr : Room (k + 1) X.A) (hl : us.length ≤ sizeLine)
    (hb : ∀ (z : Shared) (self : Value), X.K.In z.heap → BindsTo z fd ⟨self :: us, kw⟩ (ps.zip (self :: gs))) (r : Vals zs gs) (hx : Passes (L2.CX X.prog X.w) X (fun _ _ _ => False)) (I : Inv X pins σ H s)
    (h : ∀ a, H a = none → sp (.ref a :: zs) (upd H a (exo a C none)) (fun v H2 => v = .non ∧ ∃ (d : Addr) (fs : List (Str × V)), H2 a = some (exo a C (some d)) ∧ H2 d = some (exd d fs) ∧ H d = none ∧ Q (.ref a) (upd (upd (L2.del H2 a) d (.xd fs)) a (ExH C d a))) fun _ _ _ => False) :
    wpAny (model X.prog X.w) X.A (call (.ref C) us kw) (EP X pins σ Q) X.xe s := by
  obtain ⟨nm, q, N, bs, bm, sn, sub, ab, col, dd, k0, k1, k2, k3, k5, hC, hbm⟩ := T.cls
  obtain ⟨hp, g, dr, tk, os⟩ := s
  have hsz : hp.objs.size ≤ hp.objs.size + 1 := Nat.le_succ _
  have hn : H (hp.objs.size + 1) = none := I.hok.fresh hsz
  have hq := h (hp.objs.size + 1) hn
  have kk : ∀ b o, hp.get? b = some o → ((hp.push (PySem.W.kdv_tup us)).push (excO C hp.objs.size)).get? b = some o := fun b o e => Heap.get?_push_of_some _ (Heap.get?_push_of_some _ e)
  have hget : ((hp.push (PySem.W.kdv_tup us)).push (excO C hp.objs.size)).get? (hp.objs.size + 1) = some (excO C hp.objs.size) := by heap_get
  have I2 : Inv X pins σ (upd H (hp.objs.size + 1) (exo (hp.objs.size + 1) C none)) ⟨(hp.push (PySem.W.kdv_tup us)).push (excO C hp.objs.size), g, dr, tk, os⟩ :=
    I.laid (t' := tk) (a := hp.objs.size + 1) (o := exo (hp.objs.size + 1) C none) (h' := (hp.push (PySem.W.kdv_tup us)).push (excO C hp.objs.size)) kk hsz (exo_ok hget)
  have r2 : Vals (V.ref (hp.objs.size + 1) :: zs) (Value.ref (hp.objs.size + 1) :: gs) := .cons rfl r
  refine wpAny_call (callK_own F.excBase_ValueError (fun Y => refsVE_contains Y bm hbm) (I.kIn _ _ hC) hl (PySem.W.looks_findIn I.kIn y1) (fun self => PySem.W.bind_fn I.kIn self y2)
    (codeAny_mono (F1.run _ X.stack _ _ ⟨Value.ref (hp.objs.size + 1) :: us, kw⟩ (Value.ref (hp.objs.size + 1) :: gs) _ _ (fun _ _ _ => False) (hr.make C us kw) (I2.env0.make C us kw) (hb _ _ I2.kIn) r2 hq) fun r s' hq' => ?_))
  cases r with
  | error er => exact hx pins σ _ _ er s' I2 hq'
  | ok fl =>
    cases fl with
    | ret u =>
      obtain ⟨v, H2, os2, bare2, un2, hok2, rv, ev, d, fs, ea, ed, hd1, q2⟩ := hq'
      subst ev
      obtain ⟨h2, g2, d2, t2, os'⟩ := s'
      obtain ⟨t0, G, J, kG, ge, hoe, na⟩ := mk_end0 (d2 := d2) (t2 := t2) I hsz kk un2 hok2 os2 bare2 ea ed hd1
      have hne : hp.objs.size + 1 ≠ d := fun z => by
        have e1 : H2 d = some (exo d C (some d)) := by rw [← z] at ea ⊢; exact ea
        rw [ed] at e1
        obtain ⟨mA, hns, _⟩ := exd_at hok2 ed
        rw [z] at hoe
        obtain ⟨o, es, ep, o1, o2, _⟩ := hns
        rw [hoe] at o1
        cases o1
        cases o2
      exact ⟨rv, .ref (hp.objs.size + 1), _, J.laidN (t' := t2) kG ge na (exH_ok (oe := ⟨.ref C, some d, .fields #[.ref t0, .none, .none, .none, .bool false, .none], #[]⟩) hoe ⟨rfl, rfl⟩ rfl), rfl, q2⟩
    | next => exact False.elim hq'
    | brk => exact False.elim hq'
    | cont => exact False.elim hq'
end
end Bd

namespace Bd
open PySem L2 PySem.Spec PySem.HandSPX PySem.W PySem.Calls
/-! ### isinstance of an exception that stands as a value -/
section
variable {prog : Program} {w : World} {A : Around} {E : Value → Shared → Prop} {s : Shared} {K : Frag} {x D : Addr} {ox : Obj} {od : Option Obj}
theorem objD {C : Addr} {name : Str} {a g : Value} (c1 : (clsIn K C).isSome = true) (c2 : findIn K (.ref C) name = some (some a)) (c3 : specialIn K a "__get__" = some (some g)) (c4 : takesIn K a = some true) : findObj K C od name = some (.bind g a) := by
  obtain ⟨cd, e⟩ := Option.isSome_iff_exists.mp c1
  unfold findObj
  rw [e, Option.bind_some, c2, Option.bind_some]
  simp [c3, c4]
theorem clsD {Q : Option Value → Shared → Prop} (T : ExcC K D) (X : K.In s.heap) (I : InstAt s.heap x ox D od) (k : Q (some (.ref D)) { s with toks := s.toks + 1 }) : wpAny (model prog w) A (getAttr? (.ref x) "__class__") Q E s := by
  have e0 : findObj K D od "__class__" = some (.bind (.builtin "getset_descriptor.__get__") (.builtin "object.__class__")) :=
    objD (by
      obtain ⟨cd, q, _⟩ := any_some T.hd
      rw [q]
      rfl) T.ha T.hn T.ht
  obtain ⟨hp, g, d, t, os⟩ := s
  have l0 := I.type (M := model prog w)
  have l1 := looks_findIn (M := model prog w) X T.hg
  have l2 := looks_findIn (M := model prog w) X T.hk
  have l3 := looks_find (M := model prog w) X I e0
  have l4 : Looks (model prog w) hp (isInstance (.ref x) (.type "BaseException")) true := l0.andThen (looks_subIn X T.hs)
  have b0 : (false && onTheHeap (Value.builtin "BaseException.__getattribute__")) = false := rfl
  have b2 : (Value.builtin "BaseException.__getattribute__" == Value.builtin "object.__getattribute__") = false := by decide +kernel
  have b1 : (onTheHeap (Value.ref D) && Value.builtin "BaseException.__getattribute__" == Value.builtin "object.__getattribute__") = false := by
    rw [b2]
    rfl
  unfold getAttr? getAttrBy? getAttrBy
  refine wpAny_bind (wpAny_mkText (wpAny_bind (wpAny_attempt (wpAny_holding (wpAny_bind (l0.at (wpAny_bind (l1.at ?_))))))))
  show wpAny _ _ (if (onTheHeap (Value.ref D) && Value.builtin "BaseException.__getattribute__" == Value.builtin "object.__getattribute__") = true then _ else _) _ _ _
  rw [b1, if_neg Bool.false_ne_true]
  unfold getAttrByItsOwn hookBefore
  refine wpAny_bind ?_
  rw [if_pos (show onTheHeap (Value.ref D) = true from rfl)]
  refine l2.at ?_
  refine wpAny_bind (wpAny_attempt (wpAny_holding ?_))
  unfold callGetattribute
  rw [b0, if_neg Bool.false_ne_true]
  unfold boundAndCalled
  rw [PySem.F.excAttr_ValueError.ga.bind (.ref x)]
  refine wpAny_bind (wpAny_pure ?_)
  show wpAny _ _ (call (.builtin "BaseException.__getattribute__") [.ref x, .str "__class__" t]) _ _ _
  refine wpAny_call (codeAny_call_builtin PySem.F.excAttr_ValueError.ga.plain PySem.F.entry_bexc_ga ?_)
  refine @check_slot (model prog w) _ _ ⟨hp, g, d, t + 1, os⟩ "BaseException.__getattribute__" "BaseException" "__getattribute__" (.ref x) [.str "__class__" t] [] _ (by decide +kernel) (by decide +kernel) l4 (PySem.F.args_bexc_ga (.ref x) (.str "__class__" t)) ?_
  unfold Builtin.«object.__getattribute__»
  refine wpAny_bind (wpAny_of_eq (a := ((Value.ref x : Value), [Value.str "__class__" t])) (by first | rfl | (simp only [slotArgs]; rfl)) ?_)
  refine wpAny_bind (wpAny_pure (wpAny_bind (l0.at (wpAny_bind (l3.at ?_)))))
  show wpAny _ _ (holding [Value.builtin "object.__class__"] (call (.builtin "getset_descriptor.__get__") [.builtin "object.__class__", .ref x, .ref D]) >>= ret) _ _ _
  refine wpAny_bind (wpAny_holding (wpAny_call (class_get (s := ⟨hp, g, d, t + 1, os⟩) (ox := ox) (od := od) X I T.hm ?_)))
  refine wpAny_pure ?_
  show wpAny _ _ (handedOut (.ref D)) _ _ _
  rw [handedOut_of (v := .ref D) rfl]
  first
    | exact wpAny_pure (wpAny_pure k)
    | exact wpAny_pure k
    | exact wpAny_pure (wpAny_bind (wpAny_pure (wpAny_pure k)))
theorem kitD (T : ExcC K D) : KitX K (.ref x) (.ref D) (fun h => ∃ ox od, InstAt h x ox D od) where
  ty := fun _ _ _ y => y.elim fun _ z => z.elim fun _ I => I.type
  it := fun _ _ X _ => by
    obtain ⟨cd, hc, _⟩ := any_some T.hd
    unfold clsIn at hc
    split at hc
    · rename_i c' d' cd' sl' ho
      intro A' Q' E' s' k q
      unfold isType loadHead
      exact wpAny_bind (wpAny_loadPart (k _ _ (X _ _ ho)) (wpAny_pure q))
    · cases hc
  ne := fun h tp dd its n sl X htp => by
    obtain ⟨cd, hc, _⟩ := any_some T.hd
    refine Bool.eq_false_iff.mpr fun q => ?_
    obtain rfl : D = tp := Value.ref.inj (beq_iff_eq.mp q)
    unfold clsIn at hc
    split at hc
    · rename_i c' d' cd' sl' ho
      cases (X _ _ ho).symm.trans htp
    · cases hc
  ca := fun X y k => y.elim fun _ z => z.elim fun _ I => clsD T X I k
end
/-- isinstance(e, c), e an exception that stands -/
def rIsV (K : PySem.W.Frag) : List V → Hp → VK → Prop := fun xs H Q => ∃ (a D dd : Addr) (fs : List (Str × V)) (c : V) (cv : Value) (b : Bool), xs = [.ref a, c] ∧ ExcC K D ∧ (∀ u, RelV c u → u = cv) ∧ PySem.W.kitOne K (.ref D) cv = some b ∧ H a = some (ExH D dd a) ∧ H dd = some (.xd fs) ∧ Q (.bl b) H
theorem call_isV {X : Cx} : CallR X (.builtin "isinstance") (rIsV X.K) := by
  intro pins s σ H xs us Q I r h
  obtain ⟨a, D, dd, fs, c, cv, b, rfl, T, hcv, e, ea, ed, q⟩ := h
  cases r with
  | cons rx rr =>
    cases rr with
    | cons rt rr =>
      cases rr
      cases rx
      obtain rfl := hcv _ rt
      obtain ⟨oe, vs, ha, hz, hd⟩ := exH_at I.hok ea
      obtain ⟨mA, hns, hr⟩ := (show ObjOk X.prog X.w H s.heap dd (.xd fs) from I.hok dd _ ed)
      obtain ⟨od, ho, hl⟩ := lookIn_ns hns
      have J : PySem.W.InstAt s.heap a oe D (some od) := ⟨ha, hz.1, by unfold PySem.W.notCls; rw [hd] <;> rfl, by rw [hz.2]; exact ho⟩
      exact PySem.W.kia_one (kitD T) I.kIn ⟨oe, some od, J⟩ e (fun z => nomatch z) fun tk => ⟨.bl b, H, I.kept (t' := tk) fun _ _ z => z, rfl, q⟩
end Bd

namespace Bd
open PySem L2 PySem.Spec
/-! ### BadText(e), BadText(piece=e), Stuck() as values -/
def tMk (f : Str) (C : Addr) (te : TE) : TE := fun σ H Q => te σ H fun v H1 => ∀ a dx, H1 a = none → H1 dx = none → a ≠ dx → Q (.ref a) (upd (upd H1 dx (.xd [(f, v)])) a (ExH C dx a))
theorem mk_go {K : PySem.W.Frag} {H1 : Hp} {a C : Addr} {f : Str} {v : V} {Q : VK} (oc : OexC K C) (hno : PySem.W.findIn K (.ref C) f = some none) (na : H1 a = none) (k : ∀ dx, H1 dx = none → a ≠ dx → Q (.ref a) (upd (upd H1 dx (.xd [(f, v)])) a (ExH C dx a))) :
    spI K f (.ref a :: [v]) (upd H1 a (exo a C none)) (fun r H2 => r = .non ∧ ∃ (d : Addr) (fs : List (Str × V)), H2 a = some (exo a C (some d)) ∧ H2 d = some (exd d fs) ∧ H1 d = none ∧ Q (.ref a) (upd (upd (L2.del H2 a) d (.xd fs)) a (ExH C d a))) fun _ _ _ => False := by
  refine ⟨a, C, v, rfl, oc, hno, upd_same, fun dx n ne => ⟨rfl, dx, [(f, v)], upd_same, ?_, ?_, ?_⟩⟩
  · rw [upd_ne ne, upd_same]
  · rw [upd_ne ne] at n; exact n
  · have n' : H1 dx = none := by rw [upd_ne ne] at n; exact n
    have e2 : upd (upd (L2.del (upd (upd (upd H1 a (exo a C none)) dx (exd dx [(f, v)])) a (exo a C (some dx))) a) dx (.xd [(f, v)])) a (ExH C dx a) = upd (upd H1 dx (.xd [(f, v)])) a (ExH C dx a) := by
      funext b
      by_cases h0 : b = a
      · subst h0; rw [upd_same, upd_same]
      · rw [upd_ne h0, upd_ne h0]
        by_cases h1 : b = dx
        · subst h1; rw [upd_same, upd_same]
        · rw [upd_ne h1, upd_ne h1, del_ne h0, upd_ne h0, upd_ne h1, upd_ne h0]
    rw [e2]
    exact k dx n' (Ne.symm ne)
/-- one field, its parameter's name -/
structure ExcK (P : Program) (w : World) (K : PySem.W.Frag) (mg : Str → Option Value) (base : Heap) (cls f q : Str) : Prop where
  ex : ∃ (C fI : Addr) (fd : FuncData), mg cls = some (.ref C) ∧ OexC K C ∧ XfC K C ∧ PySem.W.findIn K (.ref C) f = some none ∧ PySem.W.findIn K (.ref C) "__init__" = some (some (.ref fI)) ∧ PySem.W.typeIn K (.ref fI) = some (.type "function") ∧ Binds K fd ["self", q] [] ∧
    (∀ u w : Value, ∀ s : Shared, K.In s.heap → BindsTo s fd ⟨[u], [(q, w)]⟩ (List.zip ["self", q] [u, w])) ∧ FnOk P w K mg base (L2.CX P w) 1 fI fd ["self", q] (spI K f)
theorem ExcK.ok {P : Program} {w : World} {K : PySem.W.Frag} {mg : Str → Option Value} {base : Heap} {cls f q : Str} (T : ExcK P w K mg base cls f q) : ExcOk P w K mg base cls f := by
  obtain ⟨C, fI, fd, hm, oc, xc, hno, hi, ht, hb, _, F⟩ := T.ex
  exact ⟨C, fI, fd, q, hm, oc, xc, hno, hi, ht, hb, F⟩
section
variable {X : Cx} {cls f q : Str} {e : Expr} {te : TE} {p pos kpos : Pos} {C : Addr}
def mkQ (f : Str) (C : Addr) (Q : VK) : List V → Hp → Prop := fun vs H1 => match vs with
  | [v] => ∀ a dx, H1 a = none → H1 dx = none → a ≠ dx → Q (.ref a) (upd (upd H1 dx (.xd [(f, v)])) a (ExH C dx a))
  | _ => False
theorem mkQ_ok {f : Str} {C : Addr} {Q : VK} {vs : List V} {H1 : Hp} (h : mkQ f C Q vs H1) : ∃ v, vs = [v] ∧ ∀ a dx, H1 a = none → H1 dx = none → a ≠ dx → Q (.ref a) (upd (upd H1 dx (.xd [(f, v)])) a (ExH C dx a)) := by
  match vs, h with
  | [v], h => exact ⟨v, rfl, h⟩
theorem pe_mk1 (hu : Room 2 X.A) (hx : Passes (L2.CX X.prog X.w) X (fun _ _ _ => False)) (T : ExcK X.prog X.w X.K X.mg X.base cls f q) (hm : X.mg cls = some (.ref C)) (hg : Gl X cls) (hdb : (cls == ("__debug__" : Str)) = false) (ha : PE X e te) (he : starEach [e] X.env = (false, eval e X.env) :: starEach [] X.env) :
    PE X (.Call (.Name cls p) [e] [] pos) (tMk f C te) := by
  obtain ⟨C', fI, fd, hm', oc, xc, hno, hi, ht, hb, hk, F⟩ := T.ex
  rw [hm] at hm'
  obtain rfl : C = C' := by cases hm'; rfl
  refine ⟨fun pins s σ H Q I h => ?_⟩
  refine wpAny_Call_Name_kw (ld_glob I hg hm ?_ hdb)
  refine PySem.W.callWith_K (h₀ := X.base) I.ok.mod.kin oc.kC (thn ((pa_cons ha pa_nil he).run pos pins s σ H (mkQ f C Q) I h) fun us s1 hh => ?_) he rfl
  obtain ⟨vs, H1, I1, r, q1⟩ := hh
  obtain ⟨v, rfl, k⟩ := mkQ_ok q1
  cases r with
  | cons r1 r2 =>
    rename_i u us
    cases r2
    refine ⟨I1.kIn, ?_⟩
    exact run_exv (us := [u]) (kw := []) (gs := [u]) (zs := [v]) oc hi ht F hu (by show 1 ≤ sizeLine; rw [sizeLine_eq]; omega) (fun z self X => hb z [self, u] X rfl) (.cons r1 .nil) hx I1 fun a na => mk_go oc hno na fun dx n ne => k a dx na n ne
theorem pe_mk1k (hu : Room 2 X.A) (hx : Passes (L2.CX X.prog X.w) X (fun _ _ _ => False)) (T : ExcK X.prog X.w X.K X.mg X.base cls f q) (hm : X.mg cls = some (.ref C)) (hg : Gl X cls) (hdb : (cls == ("__debug__" : Str)) = false) (ha : PE X e te) :
    PE X (.Call (.Name cls p) [] [⟨some q, e, kpos⟩] pos) (tMk f C te) := by
  obtain ⟨C', fI, fd, hm', oc, xc, hno, hi, ht, hb, hk, F⟩ := T.ex
  rw [hm] at hm'
  obtain rfl : C = C' := by cases hm'; rfl
  refine ⟨fun pins s σ H Q I h => ?_⟩
  refine wpAny_Call_Name_kw (ld_glob I hg hm ?_ hdb)
  refine PySem.W.callWith_KW0 (h₀ := X.base) (kws := [⟨some q, e, kpos⟩]) I.ok.mod.kin oc.kC rfl (thn ((pk_cons ha pk_nil).run pos pins s σ H (mkQ f C Q) I h) fun us s1 hh => ?_) rfl
  obtain ⟨vs, H1, I1, r, q1⟩ := hh
  obtain ⟨v, rfl, k⟩ := mkQ_ok q1
  cases r with
  | cons r1 r2 =>
    rename_i u us
    cases r2
    refine ⟨I1.kIn, ?_⟩
    exact run_exv (us := []) (kw := [(q, u)]) (gs := [u]) (zs := [v]) oc hi ht F hu (by show 0 ≤ sizeLine; omega) (fun z self X => hk self u z X) (.cons r1 .nil) hx I1 fun a na => mk_go oc hno na fun dx n ne => k a dx na n ne
end
/-! ### a class whose __init__ stores () -/
def sp0 (K : PySem.W.Frag) (f : Str) : Sp := fun vs H Q _ => ∃ (a C : Addr), vs = [.ref a] ∧ OexC K C ∧ PySem.W.findIn K (.ref C) f = some none ∧ H a = some (exo a C none) ∧ ∀ t, H t = none → ∀ dx, upd H t (.tup []) dx = none → dx ≠ a → Q .non (upd (upd (upd H t (.tup [])) dx (exd dx [(f, .ref t)])) a (exo a C (some dx)))
def isInit0 (f : Str) : List Stmt → Bool
  | [.Assign [.Attribute (.Name s _) g _] (.Tuple [] _ _) _] => decide (s = "self") && decide (g = f)
  | _ => false
theorem init0_ok {P : Program} {w : World} {K : PySem.W.Frag} {mg : Str → Option Value} {base : Heap} {CX : CXT} {x qual f : Str} {params : Arguments} {body : List Stmt} {scope : Scope} {kws : List (Str × V)} {fI : Addr} {fd : FuncData} {k : Nat} (F : FunD K x qual params body scope [] kws fI fd) (S : FnScope ["self"] ["self"] scope) (hb : isInit0 f body = true) : FnOk P w K mg base CX (k + 1) fI fd ["self"] (sp0 K f) := by
  refine F.ok S (fun vs H Q E h => ?_) fun cdv A outer s H vs Q E hr h => ?_
  · obtain ⟨a, C, rfl, _⟩ := h; rfl
  · unfold isInit0 at hb
    split at hb
    · rename_i sn p1 g p2 p3 p4 p5
      obtain ⟨h1, h2⟩ := Bool.and_eq_true_iff.mp hb
      obtain rfl := of_decide_eq_true h1
      obtain rfl := of_decide_eq_true h2
      obtain ⟨a, C, rfl, T, hno, ha, k⟩ := h
      have par : ∀ z ∈ [("self" : Str)], Vis scope z := fun z hz => (S.par z hz).elim .inl fun e => .inr (.inl e)
      refine ⟨_, pss_cons (ps_ost (pe_var (i := 0) rfl (par "self" (by simp)) (by decide +kernel) (by decide +kernel)) (pe_tup pa_nil)) pss_nil, Nat.zero_le _, fun t nt => ⟨.ref a, rfl, a, C, rfl, T, hno, .inl ⟨?_, fun dx n ne => k t nt dx n ne⟩⟩⟩
      rw [upd_ne (ne_of_none ha nt)]
      exact ha
    · cases hb
structure Exc0 (P : Program) (w : World) (K : PySem.W.Frag) (mg : Str → Option Value) (base : Heap) (cls f : Str) : Prop where
  ex : ∃ (C fI : Addr) (fd : FuncData), mg cls = some (.ref C) ∧ OexC K C ∧ XfC K C ∧ PySem.W.findIn K (.ref C) f = some none ∧ PySem.W.findIn K (.ref C) "__init__" = some (some (.ref fI)) ∧ PySem.W.typeIn K (.ref fI) = some (.type "function") ∧ Binds K fd ["self"] [] ∧ FnOk P w K mg base (L2.CX P w) 1 fI fd ["self"] (sp0 K f)
theorem mk_go0 {K : PySem.W.Frag} {H1 : Hp} {a C : Addr} {f : Str} {R : V → List (Str × V) → Addr → Hp → Prop} (oc : OexC K C) (hno : PySem.W.findIn K (.ref C) f = some none) (na : H1 a = none)
    (hR : ∀ d fs H2, H2 a = some (exo a C (some d)) → ∀ t, H1 t = none → t ≠ a → H1 d = none → d ≠ a → d ≠ t → fs = [(f, .ref t)] → (∀ b, b ≠ a → b ≠ d → H2 b = upd H1 t (.tup []) b) → R (.ref a) fs d H2) :
    sp0 K f (.ref a :: []) (upd H1 a (exo a C none)) (fun r H2 => r = .non ∧ ∃ (d : Addr) (fs : List (Str × V)), H2 a = some (exo a C (some d)) ∧ H2 d = some (exd d fs) ∧ H1 d = none ∧ R (.ref a) fs d H2) fun _ _ _ => False := by
  refine ⟨a, C, rfl, oc, hno, upd_same, fun t nt dx n ne => ⟨rfl, dx, [(f, .ref t)], upd_same, ?_, ?_, ?_⟩⟩
  · rw [upd_ne ne, upd_same]
  · have hdt : dx ≠ t := fun z => by rw [z, upd_same] at n; cases n
    rw [upd_ne hdt, upd_ne ne] at n; exact n
  · have hta : t ≠ a := fun z => by rw [z, upd_same] at nt; cases nt
    have hdt : dx ≠ t := fun z => by rw [z, upd_same] at n; cases n
    refine hR dx _ _ upd_same t (by rw [upd_ne hta] at nt; exact nt) hta (by rw [upd_ne hdt, upd_ne ne] at n; exact n) ne hdt rfl fun b b1 b2 => ?_
    rw [upd_ne b1, upd_ne b2]
    by_cases h0 : b = t
    · subst h0; rw [upd_same, upd_same]
    · rw [upd_ne h0, upd_ne h0, upd_ne b1]
section
variable {X : Cx} {cls f : Str} {p pos pos' : Pos} {C : Addr}
theorem pe_mk0 (hu : Room 2 X.A) (hx : Passes (L2.CX X.prog X.w) X (fun _ _ _ => False)) (T : Exc0 X.prog X.w X.K X.mg X.base cls f) (hm : X.mg cls = some (.ref C)) (hg : Gl X cls) (hdb : (cls == ("__debug__" : Str)) = false) :
    PE X (.Call (.Name cls p) [] [] pos) (fun σ H Q => ∀ a t dx, H a = none → H t = none → H dx = none → t ≠ a → dx ≠ a → dx ≠ t → Q (.ref a) (upd (upd (upd H t (.tup [])) dx (.xd [(f, .ref t)])) a (ExH C dx a))) := by
  obtain ⟨C', fI, fd, hm', oc, xc, hno, hi, ht, hb, F⟩ := T.ex
  rw [hm] at hm'
  obtain rfl : C = C' := by cases hm'; rfl
  refine ⟨fun pins s σ H Q I h => ?_⟩
  refine wpAny_Call_Name_kw (ld_glob I hg hm ?_ hdb)
  refine PySem.W.callWith_K0 I.kIn oc.kC ?_
  refine run_exv (us := []) (kw := []) (gs := []) (zs := []) oc hi ht F hu (by show 0 ≤ sizeLine; omega) (fun z self X => hb z [self] X rfl) .nil hx I fun a na => mk_go0 (R := fun x fs d H2 => Q x (upd (upd (L2.del H2 a) d (.xd fs)) a (ExH C d a))) oc hno na fun d fs H2 e1 t nt hta nd hda hdt efs hb2 => ?_
  subst efs
  have e2 : upd (upd (L2.del H2 a) d (.xd [(f, .ref t)])) a (ExH C d a) = upd (upd (upd H t (.tup [])) d (.xd [(f, .ref t)])) a (ExH C d a) := by
    funext b
    by_cases h0 : b = a
    · subst h0; rw [upd_same, upd_same]
    · rw [upd_ne h0, upd_ne h0]
      by_cases h1 : b = d
      · subst h1; rw [upd_same, upd_same]
      · rw [upd_ne h1, upd_ne h1, del_ne h0, hb2 b h0 h1]
  rw [e2]
  exact h a t d na nt nd hta hda hdt
/-- raise Stuck() -/
theorem pmk0 (hu : Room 2 X.A) (hx : Passes (L2.CX X.prog X.w) X (fun _ _ _ => False)) (T : Exc0 X.prog X.w X.K X.mg X.base cls f) (hm : X.mg cls = some (.ref C)) (hg : Gl X cls) (hdb : (cls == ("__debug__" : Str)) = false) :
    PMk X (.Call (.Name cls p) [] [] pos) (fun σ H Q => ∀ t dx, H t = none → H dx = none → dx ≠ t → Q (.ref C) (some dx) (upd (upd H t (.tup [])) dx (.xd [(f, .ref t)]))) := by
  obtain ⟨C', fI, fd, hm', oc, xc, hno, y1, y2, hb, F1⟩ := T.ex
  rw [hm] at hm'
  obtain rfl : C = C' := by cases hm'; rfl
  intro pins s σ H Q I h
  refine wpAny_Call_Name_kw (ld_glob I hg hm ?_ hdb)
  refine PySem.W.callWith_K0 I.kIn oc.kC ?_
  obtain ⟨nm, q, N, bs, bm, sn, sub, ab, col, dd, k0, k1, k2, k3, k5, hC, hbm⟩ := oc.cls
  obtain ⟨hp, g, dr, tk, os⟩ := s
  have hsz : hp.objs.size ≤ hp.objs.size + 1 := Nat.le_succ _
  have hn : H (hp.objs.size + 1) = none := I.hok.fresh hsz
  have kk : ∀ b o, hp.get? b = some o → ((hp.push (PySem.W.kdv_tup [])).push (PySem.HandSPX.excO C hp.objs.size)).get? b = some o := fun b o e => Heap.get?_push_of_some _ (Heap.get?_push_of_some _ e)
  have hget : ((hp.push (PySem.W.kdv_tup [])).push (PySem.HandSPX.excO C hp.objs.size)).get? (hp.objs.size + 1) = some (PySem.HandSPX.excO C hp.objs.size) := by heap_get
  have I2 : Inv X pins σ (upd H (hp.objs.size + 1) (exo (hp.objs.size + 1) C none)) ⟨(hp.push (PySem.W.kdv_tup [])).push (PySem.HandSPX.excO C hp.objs.size), g, dr, tk, os⟩ :=
    I.laid (t' := tk) (a := hp.objs.size + 1) (o := exo (hp.objs.size + 1) C none) (h' := (hp.push (PySem.W.kdv_tup [])).push (PySem.HandSPX.excO C hp.objs.size)) kk hsz (exo_ok hget)
  have hq := mk_go0 (R := fun _ fs d H2 => Q (.ref C) (some d) (upd (L2.del H2 (hp.objs.size + 1)) d (.xd fs))) oc hno hn fun d fs H2 e1 t nt hta nd hda hdt efs hb2 => by
    subst efs
    have e2 : upd (L2.del H2 (hp.objs.size + 1)) d (.xd [(f, .ref t)]) = upd (upd H t (.tup [])) d (.xd [(f, .ref t)]) := by
      funext b
      by_cases h1 : b = d
      · subst h1; rw [upd_same, upd_same]
      · rw [upd_ne h1, upd_ne h1]
        by_cases h0 : b = hp.objs.size + 1
        · subst h0
          rw [del_same, upd_ne (Ne.symm hta), hn]
        · rw [del_ne h0, hb2 b h0 h1]
    rw [e2]
    exact h t d nt nd hdt
  have r2 : Vals [V.ref (hp.objs.size + 1)] [Value.ref (hp.objs.size + 1)] := .cons rfl .nil
  refine wpAny_call (PySem.HandSPX.call_own F.excBase_ValueError (fun Y => PySem.HandSPX.refsVE_contains Y bm hbm) (I.kIn _ _ hC) (PySem.W.looks_findIn I.kIn y1) (fun self => PySem.W.bind_fn I.kIn self y2) (Nat.zero_le _)
    (codeAny_mono (F1.run _ X.stack _ _ ⟨[Value.ref (hp.objs.size + 1)], []⟩ [Value.ref (hp.objs.size + 1)] _ _ (fun _ _ _ => False) (hu.make C [] []) (I2.env0.make C [] []) (hb _ _ I2.kIn rfl) r2 hq) fun r s' hq' => ?_))
  cases r with
  | error er => exact hx pins σ _ _ er s' I2 hq'
  | ok fl =>
    cases fl with
    | ret u =>
      obtain ⟨v, H2, os2, bare2, un2, hok2, rv, ev, d, fs, ea, ed, hd1, q2⟩ := hq'
      subst ev
      obtain ⟨h2, g2, d2, t2, os'⟩ := s'
      exact ⟨rv, mk_end (raises_own oc.exC oc.tyC) I hsz kk un2 hok2 os2 bare2 ea ed hd1 q2⟩
    | next => exact False.elim hq'
    | brk => exact False.elim hq'
    | cont => exact False.elim hq'
end
end Bd

namespace Bd
open PySem L2
/-! ### zip of a text and a tuple -/
section
variable {P : Program} {w : World} {A : Around} {E : Value → Shared → Prop} {s : Shared}
theorem nx_str {it : Addr} {x : Str} {u : Tok} {i c : Nat} {Q : Value → Shared → Prop} (hi : s.heap.IsStrIter it "str_ascii_iterator" x u i) (hx : x.cps[i]? = some c)
    (k : ∀ h', h'.IsStrIter it "str_ascii_iterator" x u (i + 1) → Heap.SameBut it s.heap h' → Q (.str ⟨#[c]⟩ s.toks) { s with heap := h', toks := s.toks + 1 }) : wpAny (model P w) A (Builtin.SmallTypes.nextOf (.ref it)) Q E s := by
  obtain ⟨o, ho, hc, hd⟩ := id hi
  unfold Builtin.SmallTypes.nextOf
  refine wpAny_bind (wpAny_callSpecial?_slot (name := Str.ofString "__next__") hi.typeIs F.slot_str_ascii_iterator_next (wpAny_call_entry F.slot_str_ascii_iterator_next hi.typeIs F.entry_str_ascii_iterator_next ?_ (F.args_str_ascii_iterator_next_1 _)))
  show wpAny _ _ (field (.ref it) 0 >>= _) _ _ s
  refine wpAny_bind (wpAny_field ho hd (x := .str x u) rfl ?_)
  show wpAny _ _ (field (.ref it) 1 >>= _) _ _ s
  refine wpAny_bind (wpAny_field ho hd (x := .int i 0) rfl ?_)
  simp only [Int.toNat_natCast, hx]
  refine wpAny_bind (wpAny_setField ho hd (by simp) (wpAny_bind (wpAny_mkStr (wpAny_pure ⟨_, rfl, wpAny_pure (k _ ⟨_, Heap.get?_update_self _ ho (Obj.isFreed_of_fields (Obj.data_mapFields hd _)), (Obj.cls_mapFields ..).trans hc, ?_⟩ (Heap.SameBut.update ..))⟩) (by show 1 ≤ sizeLine; decide))))
  rw [Obj.data_mapFields hd]
  simp [rawInt]
theorem nx_str_end {it : Addr} {x : Str} {u : Tok} {i : Nat} {Q : Value → Shared → Prop} (hh : A.handled = none) (hi : s.heap.IsStrIter it "str_ascii_iterator" x u i) (hx : x.cps[i]? = none)
    (k : ∀ h' e, Heap.ExtBut it s.heap h' → (∃ o, h'.get? e = some o ∧ o.cls = .type "StopIteration") → E (.ref e) { s with heap := h' }) : wpAny (model P w) A (Builtin.SmallTypes.nextOf (.ref it)) Q E s := by
  obtain ⟨o, ho, hc, hd⟩ := id hi
  unfold Builtin.SmallTypes.nextOf
  refine wpAny_bind (wpAny_callSpecial?_slot (name := Str.ofString "__next__") hi.typeIs F.slot_str_ascii_iterator_next (wpAny_call_entry F.slot_str_ascii_iterator_next hi.typeIs F.entry_str_ascii_iterator_next ?_ (F.args_str_ascii_iterator_next_1 _)))
  show wpAny _ _ (field (.ref it) 0 >>= _) _ _ s
  refine wpAny_bind (wpAny_field ho hd (x := .str x u) rfl ?_)
  show wpAny _ _ (field (.ref it) 1 >>= _) _ _ s
  refine wpAny_bind (wpAny_field ho hd (x := .int i 0) rfl ?_)
  simp only [Int.toNat_natCast, hx]
  refine wpAny_bind (wpAny_rule (wpAny_bind (wpAny_setField ho hd (by simp) (wpAny_bind (wpAny_letGo ?_)))))
  show wpAny _ _ (newExc (.type "StopIteration") [] >>= _) _ _ _
  refine wpAny_bind ?_
  simp only [newExc, newTuple]
  refine wpAny_bind (wpAny_newObj_type ?_ (by size_fits))
  refine wpAny_bind (m := firstArgMember _ _) (wpAny_of_eq (a := Value.none) (by first | rfl | (simp only [firstArgMember]; rfl)) ?_)
  refine wpAny_newObj_type ?_ (by size_fits)
  simp only [raiseNew]
  refine wpAny_bind (wpAny_handled ?_)
  first | rw [show A.in1.handled = none from hh] | rw [hh]
  refine wpAny_bind (wpAny_pure (wpAny_throw ?_))
  exact k _ _ (((Heap.SameBut.update ..).extBut.push _).push _) ⟨_, Heap.get?_push_size _ rfl, rfl⟩
end
end Bd

namespace Bd
open PySem L2
section
variable {P : Program} {w : World} {A : Around} {E : Value → Shared → Prop} {s : Shared}
/-- what a step leaves of other things -/
def Rest4 (z TO i1 i2 : Addr) (h h' : Heap) : Prop := ∀ c o, c ≠ z → c ≠ TO → c ≠ i1 → c ≠ i2 → h.get? c = some o → h'.get? c = some o
theorem zs_item {z TI TO i1 i2 l : Addr} {t : Str} {u : Tok} {k c : Nat} {ys : Array Value} {y a b : Value} {Q : Value → Shared → Prop} (D : ZipApart z TI TO i1 i2 l l)
    (hz : IsZip s.heap z TI TO .none) (hTI : IsPair s.heap TI (.ref i1) (.ref i2)) (hTO : IsPair s.heap TO a b) (h1 : s.heap.IsStrIter i1 "str_ascii_iterator" t u k) (h2 : s.heap.IsTupleIter i2 l k) (hl : s.heap.IsTuple l ys) (hx : t.cps[k]? = some c) (hy : ys[k]? = some y)
    (q : ∀ h' v, v = s.toks → IsZip h' z TI TO (rawInt s.heap.objs.size) → IsPair h' TO (.str ⟨#[c]⟩ v) y → h'.IsStrIter i1 "str_ascii_iterator" t u (k + 1) → h'.IsTupleIter i2 l (k + 1) → IsPair h' s.heap.objs.size (.str ⟨#[c]⟩ v) y → h'.objs.size = s.heap.objs.size + 1 → Rest4 z TO i1 i2 s.heap h' → Q (.ref s.heap.objs.size) { s with heap := h', toks := s.toks + 1 }) :
    wpAny (model P w) A (Builtin.«zip.__next__» ⟨[.ref z], []⟩) (fun fin s' => ∃ v, fin = .done (.ret v) ∧ Q v s') E s := by
  obtain ⟨hp, g, dr, tk, os⟩ := s
  dsimp only at hz hTI hTO h1 h2 hl q
  show wpAny _ _ (field (.ref z) 2 >>= _) _ _ _
  refine wpAny_bind (wpAny_field hz rfl (x := .bool false) rfl ?_)
  show wpAny _ _ (field (.ref z) 3 >>= _) _ _ _
  refine wpAny_bind (wpAny_field hz rfl (x := .ref TI) rfl (wpAny_bind (wpAny_seqItems hTI rfl ?_)))
  show wpAny _ _ (Builtin.SmallTypes.ownedTupleIsFree (.ref z) >>= _) _ _ _
  refine wpAny_bind ?_
  unfold Builtin.SmallTypes.ownedTupleIsFree
  refine wpAny_bind (wpAny_field hz rfl (x := .none) rfl (wpAny_pure ?_))
  simp only [if_true]
  refine wpAny_bind (wpAny_rule (wpAny_bind (wpAny_field hz rfl (x := .ref TO) rfl (wpAny_bind (wpAny_setField_rec hz (by simp) fun ha za sa => ?_)))))
  have za : IsZip ha z TI TO .ellipsis := za
  refine wpAny_bind ?_
  simp only [List.zipIdx_cons, List.zipIdx_nil, List.forIn_cons, List.forIn_nil]
  refine wpAny_bind (wpAny_bind (wpAny_onRaise ?_))
  show wpAny _ _ (Builtin.SmallTypes.nextOf (.ref i1) >>= _) _ _ _
  refine wpAny_bind (nx_str (h1.extBut sa.extBut D.i1z) hx fun hb h1b sb => wpAny_pure ?_)
  have Tb : IsPair hb TO a b := sb.extBut _ _ D.TOi1 (sa.extBut _ _ D.TOz hTO)
  refine wpAny_bind (wpAny_seqItems Tb rfl (wpAny_bind (wpAny_updateSeq_pair Tb fun hc Tc sc => ?_)))
  have Tc : IsPair hc TO (.str ⟨#[c]⟩ tk) b := Tc
  refine wpAny_bind (wpAny_letGo (wpAny_pure (wpAny_bind (wpAny_bind (wpAny_onRaise ?_)))))
  show wpAny _ _ (Builtin.SmallTypes.nextOf (.ref i2) >>= _) _ _ _
  have h2c : hc.IsTupleIter i2 l k := ((h2.extBut sa.extBut D.i2z).extBut sb.extBut D.i12.symm).extBut sc.extBut D.TOi2.symm
  have hlc : hc.IsTuple l ys := ((hl.extBut sa.extBut D.l2z).extBut sb.extBut D.l2i1).extBut sc.extBut D.l2TO
  refine wpAny_bind (RZ.nextOf_tuple_item h2c hlc hy fun hd h2d sd => wpAny_pure ?_)
  have Td : IsPair hd TO (.str ⟨#[c]⟩ tk) b := sd.extBut _ _ D.TOi2 Tc
  refine wpAny_bind (wpAny_seqItems Td rfl (wpAny_bind (wpAny_updateSeq_pair Td fun he Te se => ?_)))
  have Te : IsPair he TO (.str ⟨#[c]⟩ tk) y := Te
  refine wpAny_bind (wpAny_letGo (wpAny_pure (wpAny_pure (wpAny_bind (wpAny_seqItems Te rfl (wpAny_bind (wpAny_newTuple ?_)))))))
  have sz : he.objs.size = hp.objs.size := by rw [se.1, sd.1, sc.1, sb.1, sa.1]
  have ze : IsZip he z TI TO .ellipsis := se.extBut _ _ D.TOz.symm (sd.extBut _ _ D.i2z.symm (sc.extBut _ _ D.TOz.symm (sb.extBut _ _ D.i1z.symm za)))
  have ke : Rest4 z TO i1 i2 hp he := fun c o c1 c2 c3 c4 e => se.extBut _ _ c2 (sd.extBut _ _ c4 (sc.extBut _ _ c2 (sb.extBut _ _ c3 (sa.extBut _ _ c1 e))))
  have i1e : he.IsStrIter i1 "str_ascii_iterator" t u (k + 1) := ((h1b.extBut sc.extBut D.TOi1.symm).extBut sd.extBut D.i12).extBut se.extBut D.TOi1.symm
  have i2e : he.IsTupleIter i2 l (k + 1) := h2d.extBut se.extBut D.TOi2.symm
  have lz : z < he.objs.size := Heap.lt_size ze
  show wpAny _ _ (Builtin.SmallTypes.ownedTupleHandOut (.ref z) (.ref he.objs.size) >>= _) _ _ _
  refine wpAny_bind ?_
  unfold Builtin.SmallTypes.ownedTupleHandOut
  have zf : IsZip (he.push { cls := .type "tuple", data := .seq #[.str ⟨#[c]⟩ tk, y] }) z TI TO .ellipsis := Heap.get?_push_of_some _ ze
  refine wpAny_bind (wpAny_setField_rec zf (by simp) fun hg zg sg => ?_)
  have zg : IsZip hg z TI TO (rawInt he.objs.size) := zg
  refine wpAny_setField_rec zg (by simp) fun hh zh sh => ?_
  have zh : IsZip hh z TI TO (rawInt he.objs.size) := zh
  have up : ∀ c o, c ≠ z → he.get? c = some o → hh.get? c = some o := fun c o c1 e => sh.extBut _ _ c1 (sg.extBut _ _ c1 (Heap.get?_push_of_some _ e))
  have pr : IsPair hh he.objs.size (.str ⟨#[c]⟩ tk) y := sh.extBut _ _ (Nat.ne_of_gt lz) (sg.extBut _ _ (Nat.ne_of_gt lz) (Heap.get?_push_size _ rfl))
  have szh : hh.objs.size = he.objs.size + 1 := by rw [sh.1, sg.1, Heap.size_push]
  rw [sz] at zh pr szh
  refine wpAny_pure ⟨_, rfl, ?_⟩
  show Q (.ref he.objs.size) _
  rw [sz]
  exact q hh tk rfl zh (up _ _ D.TOz Te) (let ⟨o, e, r⟩ := i1e; ⟨o, up _ o D.i1z e, r⟩) (i2e.at fun o e => up _ o D.i2z e) pr szh fun c o c1 c2 c3 c4 e => up c o c1 (ke c o c1 c2 c3 c4 e)
theorem zs_end {z TI TO i1 i2 l : Addr} {t : Str} {u : Tok} {k : Nat} {ys : Array Value} {a b : Value} {Q : PySem.Fin → Shared → Prop} (hh : A.handled = none) (D : ZipApart z TI TO i1 i2 l l)
    (hz : IsZip s.heap z TI TO .none) (hTI : IsPair s.heap TI (.ref i1) (.ref i2)) (hTO : IsPair s.heap TO a b) (h1 : s.heap.IsStrIter i1 "str_ascii_iterator" t u k) (h2 : s.heap.IsTupleIter i2 l k) (hl : s.heap.IsTuple l ys) (hend : t.cps[k]? = none ∨ ys[k]? = none)
    (q : ∀ h' e tk, Rest4 z TO i1 i2 s.heap h' → (∃ o, h'.get? e = some o ∧ o.cls = .type "StopIteration") → E (.ref e) { s with heap := h', toks := tk }) : wpAny (model P w) A (Builtin.«zip.__next__» ⟨[.ref z], []⟩) Q E s := by
  obtain ⟨hp, g, dr, tk, os⟩ := s
  dsimp only at hz hTI hTO h1 h2 hl q
  show wpAny _ _ (field (.ref z) 2 >>= _) _ _ _
  refine wpAny_bind (wpAny_field hz rfl (x := .bool false) rfl ?_)
  show wpAny _ _ (field (.ref z) 3 >>= _) _ _ _
  refine wpAny_bind (wpAny_field hz rfl (x := .ref TI) rfl (wpAny_bind (wpAny_seqItems hTI rfl ?_)))
  show wpAny _ _ (Builtin.SmallTypes.ownedTupleIsFree (.ref z) >>= _) _ _ _
  refine wpAny_bind ?_
  unfold Builtin.SmallTypes.ownedTupleIsFree
  refine wpAny_bind (wpAny_field hz rfl (x := .none) rfl (wpAny_pure ?_))
  simp only [if_true]
  refine wpAny_bind (wpAny_rule (wpAny_bind (wpAny_field hz rfl (x := .ref TO) rfl (wpAny_bind (wpAny_setField_rec hz (by simp) fun ha za sa => ?_)))))
  have za : IsZip ha z TI TO .ellipsis := za
  refine wpAny_bind ?_
  simp only [List.zipIdx_cons, List.zipIdx_nil, List.forIn_cons, List.forIn_nil]
  refine wpAny_bind (wpAny_bind (wpAny_onRaise ?_))
  show wpAny _ _ (Builtin.SmallTypes.nextOf (.ref i1) >>= _) _ _ _
  cases hx : t.cps[k]? with
  | none =>
    refine wpAny_bind (nx_str_end hh (h1.extBut sa.extBut D.i1z) hx fun hb e sb st => ?_)
    obtain ⟨oe, oe1, oe2⟩ := st
    have zb : IsZip hb z TI TO .ellipsis := sb _ _ D.i1z.symm za
    have ne : e ≠ z := fun x => by
      subst x
      rw [zb] at oe1
      cases oe1
      simp at oe2
    exact wpAny_setField_rec zb (by simp) fun hc _ sc => q hc e tk (fun c o c1 _ c3 _ x => sc.extBut _ _ c1 (sb _ _ c3 (sa.extBut _ _ c1 x))) ⟨oe, sc.extBut _ _ ne oe1, oe2⟩
  | some c =>
    have hy : ys[k]? = none := hend.elim (fun h => by rw [hx] at h; cases h) id
    refine wpAny_bind (nx_str (h1.extBut sa.extBut D.i1z) hx fun hb h1b sb => wpAny_pure ?_)
    have Tb : IsPair hb TO a b := sb.extBut _ _ D.TOi1 (sa.extBut _ _ D.TOz hTO)
    refine wpAny_bind (wpAny_seqItems Tb rfl (wpAny_bind (wpAny_updateSeq_pair Tb fun hc Tc sc => ?_)))
    refine wpAny_bind (wpAny_letGo (wpAny_pure (wpAny_bind (wpAny_bind (wpAny_onRaise ?_)))))
    show wpAny _ _ (Builtin.SmallTypes.nextOf (.ref i2) >>= _) _ _ _
    have h2c : hc.IsTupleIter i2 l k := ((h2.extBut sa.extBut D.i2z).extBut sb.extBut D.i12.symm).extBut sc.extBut D.TOi2.symm
    have hlc : hc.IsTuple l ys := ((hl.extBut sa.extBut D.l2z).extBut sb.extBut D.l2i1).extBut sc.extBut D.l2TO
    refine wpAny_bind (RZ.nextOf_tuple_end hh h2c hlc hy fun hd e sd st => ?_)
    obtain ⟨oe, oe1, oe2⟩ := st
    have zd : IsZip hd z TI TO .ellipsis := sd _ _ D.i2z.symm (sc.extBut _ _ D.TOz.symm (sb.extBut _ _ D.i1z.symm za))
    have ne : e ≠ z := fun x => by
      subst x
      rw [zd] at oe1
      cases oe1
      simp at oe2
    exact wpAny_setField_rec zd (by simp) fun he _ se => q he e _ (fun c o c1 c2 c3 c4 x => se.extBut _ _ c1 (sd _ _ c4 (sc.extBut _ _ c2 (sb.extBut _ _ c3 (sa.extBut _ _ c1 x))))) ⟨oe, se.extBut _ _ ne oe1, oe2⟩
end
end Bd

namespace Bd
open PySem L2
abbrev zs1 (h : Heap) (t : Str) (u : Tok) : Heap := h.push { cls := .type "str_ascii_iterator", data := .fields #[.str t u, .int 0 0] }
abbrev zs2 (h : Heap) (t : Str) (u : Tok) (l : Addr) : Heap := (zs1 h t u).push { cls := .type "tuple_iterator", data := .fields #[.ref l, .int 0 0] }
abbrev zs3 (h : Heap) (t : Str) (u : Tok) (l : Addr) : Heap := (zs2 h t u l).push { cls := .type "tuple", data := .seq #[.ref h.objs.size, .ref (zs1 h t u).objs.size] }
abbrev zs4 (h : Heap) (t : Str) (u : Tok) (l : Addr) : Heap := (zs3 h t u l).push { cls := .type "tuple", data := .seq #[.none, .none] }
abbrev zs5 (h : Heap) (t : Str) (u : Tok) (l : Addr) : Heap := (zs4 h t u l).push { cls := .type "zip", data := .fields #[.none, .bool false, .bool false, .ref (zs2 h t u l).objs.size, .ref (zs3 h t u l).objs.size] }
theorem zs_new (t : Str) (u : Tok) (l : Addr) (ys : Array Value) (ha : t.cps.all (· < 128) = true) : Meets (Builtin.«zip.__new__» ⟨[.type "zip", .str t u, .ref l], []⟩) (fun _ R s => s.heap.IsTuple l ys ∧ R (.ok (.ret (.ref (zs4 s.heap t u l).objs.size))) { s with heap := zs5 s.heap t u l }) :=
  .of_wp fun prog w A R s h => by
    obtain ⟨hp, g, d, tk, os⟩ := s
    obtain ⟨hl, h⟩ := h
    have e0 := sub_zip
    have e1 : Heap.IsTuple (Shared.heap ⟨hp.push { cls := .type "str_ascii_iterator", data := .fields #[.str t u, .int 0 0] }, g, d, tk, os⟩) l ys := Heap.IsTuple.push hl _
    wp_walk using wpAny_pyIter_ascii ha, wpAny_pyIter_tuple e1
    exact ⟨_, rfl, h⟩
section
variable {P : Program} {w : World} {A : Around} {E : Value → Shared → Prop} {s : Shared}
theorem zs_call {t : Str} {u : Tok} {l : Addr} {ys : Array Value} {Q : Value → Shared → Prop} (ha : t.cps.all (· < 128) = true) (hl : s.heap.IsTuple l ys)
    (q : ∀ h', IsZip h' (s.heap.objs.size + 4) (s.heap.objs.size + 2) (s.heap.objs.size + 3) .none → IsPair h' (s.heap.objs.size + 2) (.ref s.heap.objs.size) (.ref (s.heap.objs.size + 1)) → IsPair h' (s.heap.objs.size + 3) .none .none →
      h'.IsStrIter s.heap.objs.size "str_ascii_iterator" t u 0 → h'.IsTupleIter (s.heap.objs.size + 1) l 0 → (∀ c o, s.heap.get? c = some o → h'.get? c = some o) → Q (.ref (s.heap.objs.size + 4)) { s with heap := h' }) : wpAny (model P w) A (call (.type "zip") [.str t u, .ref l]) Q E s := by
  refine callType_new F.called_zip (by decide) (F.typeCall_zip_2 _ _) (F.newCall_zip_2 _ _) (fun obj => F.args_object_init_3 obj _ _) F.entry_zip_new (zs_new t u l ys ha) ⟨hl, ?_⟩
  have z1 : (zs1 s.heap t u).objs.size = s.heap.objs.size + 1 := Heap.size_push ..
  have z2 : (zs2 s.heap t u l).objs.size = s.heap.objs.size + 2 := by rw [Heap.size_push, z1]
  have z3 : (zs3 s.heap t u l).objs.size = s.heap.objs.size + 3 := by rw [Heap.size_push, z2]
  have z4 : (zs4 s.heap t u l).objs.size = s.heap.objs.size + 4 := by rw [Heap.size_push, z3]
  have g5 : (zs5 s.heap t u l).get? (zs4 s.heap t u l).objs.size = some _ := Heap.get?_push_size _ rfl
  have g4 : (zs5 s.heap t u l).get? (zs3 s.heap t u l).objs.size = some _ := Heap.get?_push_of_some _ (Heap.get?_push_size _ rfl)
  have g3 : (zs5 s.heap t u l).get? (zs2 s.heap t u l).objs.size = some _ := Heap.get?_push_of_some _ (Heap.get?_push_of_some _ (Heap.get?_push_size _ rfl))
  have g2 : (zs5 s.heap t u l).get? (zs1 s.heap t u).objs.size = some _ := Heap.get?_push_of_some _ (Heap.get?_push_of_some _ (Heap.get?_push_of_some _ (Heap.get?_push_size _ rfl)))
  have g1 : (zs5 s.heap t u l).get? s.heap.objs.size = some _ := Heap.get?_push_of_some _ (Heap.get?_push_of_some _ (Heap.get?_push_of_some _ (Heap.get?_push_of_some _ (Heap.get?_push_size _ rfl))))
  show _ ∧ _
  rw [z2, z3, z4] at g5
  rw [z1, z2] at g3
  rw [z3] at g4
  rw [z1] at g2
  rw [z4]
  exact ⟨⟨_, g5, rfl⟩, q _ g5 g3 g4 ⟨_, g1, rfl, rfl⟩ ⟨_, g2, rfl, rfl⟩ fun c o x => Heap.get?_push_of_some _ (Heap.get?_push_of_some _ (Heap.get?_push_of_some _ (Heap.get?_push_of_some _ (Heap.get?_push_of_some _ x))))⟩
theorem zs_py {z TI TO i1 i2 l : Addr} {t : Str} {u : Tok} {k c : Nat} {ys : Array Value} {y a b : Value} {Q : Option Value → Shared → Prop} (D : ZipApart z TI TO i1 i2 l l)
    (hz : IsZip s.heap z TI TO .none) (hTI : IsPair s.heap TI (.ref i1) (.ref i2)) (hTO : IsPair s.heap TO a b) (h1 : s.heap.IsStrIter i1 "str_ascii_iterator" t u k) (h2 : s.heap.IsTupleIter i2 l k) (hl : s.heap.IsTuple l ys) (hx : t.cps[k]? = some c) (hy : ys[k]? = some y)
    (q : ∀ h' v, v = s.toks → IsZip h' z TI TO (rawInt s.heap.objs.size) → IsPair h' TO (.str ⟨#[c]⟩ v) y → h'.IsStrIter i1 "str_ascii_iterator" t u (k + 1) → h'.IsTupleIter i2 l (k + 1) → IsPair h' s.heap.objs.size (.str ⟨#[c]⟩ v) y → h'.objs.size = s.heap.objs.size + 1 → Rest4 z TO i1 i2 s.heap h' → Q (some (.ref s.heap.objs.size)) { s with heap := h', toks := s.toks + 1 }) :
    wpAny (model P w) A (pyNext (.ref z)) Q E s := by
  have hT : s.TypeIs (.ref z) "zip" := ⟨_, hz, rfl⟩
  unfold pyNext
  exact wpAny_bind (wpAny_attempt (wpAny_callSpecial?_slot (name := Str.ofString "__next__") hT F.slot_zip_next (wpAny_call_entry F.slot_zip_next hT F.entry_zip_next
    (zs_item D hz hTI hTO h1 h2 hl hx hy fun h' v a0 a1 a2 a3 a4 a5 a6 a7 => wpAny_pure (q h' v a0 a1 a2 a3 a4 a5 a6 a7)) (F.args_zip_next_1 _))))
theorem zs_py_end {z TI TO i1 i2 l : Addr} {t : Str} {u : Tok} {k : Nat} {ys : Array Value} {a b : Value} {Q : Option Value → Shared → Prop} (hh : A.handled = none) (D : ZipApart z TI TO i1 i2 l l)
    (hz : IsZip s.heap z TI TO .none) (hTI : IsPair s.heap TI (.ref i1) (.ref i2)) (hTO : IsPair s.heap TO a b) (h1 : s.heap.IsStrIter i1 "str_ascii_iterator" t u k) (h2 : s.heap.IsTupleIter i2 l k) (hl : s.heap.IsTuple l ys) (hend : t.cps[k]? = none ∨ ys[k]? = none)
    (q : ∀ h' tk, Rest4 z TO i1 i2 s.heap h' → Q none { s with heap := h', toks := tk }) : wpAny (model P w) A (pyNext (.ref z)) Q E s := by
  have hT : s.TypeIs (.ref z) "zip" := ⟨_, hz, rfl⟩
  unfold pyNext
  refine wpAny_bind (wpAny_attempt (wpAny_callSpecial?_slot (name := Str.ofString "__next__") hT F.slot_zip_next (wpAny_call_entry F.slot_zip_next hT F.entry_zip_next (zs_end hh D hz hTI hTO h1 h2 hl hend fun h' e tk hk he => ?_) (F.args_zip_next_1 _))))
  obtain ⟨o, ho, hc⟩ := he
  exact wpAny_bind (wpAny_isInstance (T := "StopIteration") (b := true) ⟨o, ho, hc⟩ isSubtype_stop (wpAny_pure (q _ _ hk)))
end
/-- the signs of a text and the items of the tuple at b, in new pairs -/
def ItS (K : PySem.W.Frag) (t : Str) (b : Addr) : It :=
  ⟨fun i H => ∃ (ys : List V) (c : Nat) (y : V), SqT K H b ys ∧ t.cps[i]? = some c ∧ ys[i]? = some y,
    fun i H v H' => ∃ T c y, v = .ref T ∧ H T = none ∧ H' = upd H T (.tup [.str ⟨#[c]⟩, y]) ∧ t.cps[i]? = some c ∧ ∀ ys, SqT K H b ys → ys[i]? = some y,
    fun i H => ∃ ys : List V, SqT K H b ys ∧ (t.cps.size ≤ i ∨ ys.length ≤ i)⟩
theorem turn_zs {P : Program} {w : World} {K : PySem.W.Frag} {elts : List Expr} {kk : Nat} {tpos : Pos} {b z TI TO i1 i2 : Addr} {t : Str} {u : Tok} (D : ZipApart z TI TO i1 i2 b b) :
    Turn P w K (.Tuple elts kk tpos) (ItS K t b) [z, TI, TO, i1, i2] z (fun i h => IsZip h z TI TO .none ∧ IsPair h TI (.ref i1) (.ref i2) ∧ (∃ x y, IsPair h TO x y) ∧ h.IsStrIter i1 "str_ascii_iterator" t u i ∧ h.IsTupleIter i2 b i) where
  mem := by simp
  obj := fun i h st c hc => by
    obtain ⟨a1, a2, ⟨x, y, a3⟩, ⟨o1, e1, _, d1⟩, ⟨o2, e2, _, d2⟩⟩ := st
    have e' : c = z ∨ c = TI ∨ c = TO ∨ c = i1 ∨ c = i2 := by simpa using hc
    rcases e' with rfl | rfl | rfl | rfl | rfl
    · exact ⟨_, a1, fun v q => nomatch q⟩
    · exact ⟨_, a2, fun v q => nomatch q⟩
    · exact ⟨_, a3, fun v q => nomatch q⟩
    · exact ⟨o1, e1, fun v q => by rw [d1] at q; cases q⟩
    · exact ⟨o2, e2, fun v q => by rw [d2] at q; cases q⟩
  keep := fun i h h' st k => by
    obtain ⟨a1, a2, ⟨x, y, a3⟩, ⟨o1, e1, r1⟩, a5⟩ := st
    exact ⟨k z (by simp) _ a1, k TI (by simp) _ a2, ⟨x, y, k TO (by simp) _ a3⟩, ⟨o1, k i1 (by simp) _ e1, r1⟩, a5.at fun o q => k i2 (by simp) o q⟩
  item := by
    intro X hP hw hK hc i pins s σ H E I hf st hg
    subst hP hw hK
    obtain ⟨hz, hTI, ⟨x0, y0, hTO⟩, h1, h2⟩ := st
    obtain ⟨ys, c, y, hq, hx, hy⟩ := hg
    obtain ⟨its, rv, p, _⟩ := I.tuple hq
    obtain ⟨w1, hw1, rw1⟩ := rv.get hy
    have hzl : z < s.heap.objs.size := Heap.lt_size hz
    refine zs_py D hz hTI hTO h1 h2 p hx (by simpa using hw1) fun h' v ev z' TO' h1' h2' hT hsz hk => ?_
    refine ⟨_, rfl, wpAny_letOwnedTupleGo_zip (s := { s with heap := h', toks := s.toks + 1 }) z' fun h'' z'' sb => ?_⟩
    have hT2 : h''.get? s.heap.objs.size = some { cls := .type "tuple", data := .seq #[.str ⟨#[c]⟩ v, w1] } := (sb.2 _ (Nat.ne_of_gt hzl)).trans hT
    have new : ObjOk X.prog X.w (upd H s.heap.objs.size (.tup [.str ⟨#[c]⟩, y])) h'' s.heap.objs.size (.tup [.str ⟨#[c]⟩, y]) :=
      ⟨by show 2 ≤ sizeLine; decide, [.str ⟨#[c]⟩ v, w1], .cons ⟨v, rfl⟩ (.cons rw1 .nil), ⟨_, hT2, rfl, _, rfl⟩⟩
    have I1 : Inv X pins σ (upd H s.heap.objs.size (.tup [.str ⟨#[c]⟩, y])) { s with heap := h'', toks := s.toks + 1 } :=
      I.turnedNew (t' := s.toks + 1) (ch := [z, TI, TO, i1, i2]) (fun c o hb q => (sb.2 c (fun q' => hb (by simp [q']))).trans (hk c o (fun q' => hb (by simp [q'])) (fun q' => hb (by simp [q'])) (fun q' => hb (by simp [q'])) (fun q' => hb (by simp [q'])) q)) hf (Nat.le_refl _) new
    refine ⟨.ref s.heap.objs.size, _, I1, rfl, ⟨_, c, y, rfl, I.hok.fresh (Nat.le_refl _), rfl, hx, fun l hl => by rw [I.tuple_inj hl hq]; exact hy⟩, ⟨z'', (sb.2 _ D.TIz).trans (hk _ _ D.TIz D.TITO D.TIi1 D.TIi2 hTI), ⟨_, w1, (sb.2 _ D.TOz).trans TO'⟩, ?_, h2'.at fun o q => (sb.2 _ D.i2z).trans q⟩, fun c hcm => ?_⟩
    · obtain ⟨o, e, r⟩ := h1'
      exact ⟨o, (sb.2 _ D.i1z).trans e, r⟩
    · have hlt : c < s.heap.objs.size := by
        have e' : c = z ∨ c = TI ∨ c = TO ∨ c = i1 ∨ c = i2 := by simpa using hcm
        rcases e' with rfl | rfl | rfl | rfl | rfl
        · exact hzl
        · exact Heap.lt_size hTI
        · exact Heap.lt_size hTO
        · obtain ⟨_, e1, _⟩ := h1; exact Heap.lt_size e1
        · obtain ⟨_, e2, _⟩ := h2; exact Heap.lt_size e2
      rw [upd_ne (Nat.ne_of_lt hlt)]
      exact (hf c hcm).1
  done := by
    intro X hP hw hK hc i pins s σ H E I hf st hg
    subst hP hw hK
    obtain ⟨hz, hTI, ⟨x0, y0, hTO⟩, h1, h2⟩ := st
    obtain ⟨ys, hq, hend⟩ := hg
    obtain ⟨its, rv, p, _⟩ := I.tuple hq
    have l2 := rv.length
    have he : t.cps[i]? = none ∨ its.toArray[i]? = none := hend.imp (fun q => Array.getElem?_eq_none q) fun q => by simp; omega
    exact zs_py_end (I.ok.hd hc) D hz hTI hTO h1 h2 p he fun h' tk hk => ⟨rfl, I.turnedL (t' := tk) (ch := [z, TI, TO, i1, i2]) (fun c o hb q => hk c o (fun q' => hb (by simp [q'])) (fun q' => hb (by simp [q'])) (fun q' => hb (by simp [q'])) (fun q' => hb (by simp [q'])) q) hf⟩
  self := fun A i s Q E st h => wpAny_pyIter_zip st.1 h
/-- two things that are walked side by side -/
def iZipS (K : PySem.W.Frag) (ta : TA) : TI := fun σ H R => ta σ H fun vs H1 => ∃ (t : Str) (b : Addr) (ys : List V), vs = [.str t, .ref b] ∧ t.cps.all (· < 128) = true ∧ SqT K H1 b ys ∧ R (ItS K t b) H1
theorem pi_zs {X : Cx} {e e2 : Expr} {ta : TA} {p pos tpos : Pos} {elts : List Expr} {kk : Nat} (hg : Gl X "zip") (hm : X.mg "zip" = none) (ha : PA X [e, e2] ta)
    (hs : starEach [e, e2] X.env = (false, eval e X.env) :: starEach [e2] X.env) (hpl : (backTo pos (starEach [e2] X.env)).any (·.1) = false) : PI X (.Tuple elts kk tpos) (.Call (.Name "zip" p) [e, e2] [] pos) (iZipS X.K ta) := by
  refine ⟨fun pins s σ H R I h => ?_⟩
  refine PyProof.Rows.Call_ (ld_blt I hg hm PyProof.Rows.boot_zip (PyProof.Rows.callWith_type1 (thn (ha.run pos pins s σ H _ I h) fun us s1 ⟨vs, H1, I1, r1, q1⟩ => ?_) hs hpl))
  obtain ⟨t, b, ys, rfl, hasc, hq, q⟩ := q1
  cases r1 with
  | cons r rr =>
    cases rr with
    | cons r' rr =>
      cases rr
      obtain ⟨u, rfl⟩ := r
      cases r'
      obtain ⟨its, rv, p1, _⟩ := I1.tuple hq
      have lb : b < s1.heap.objs.size := let ⟨_, e, _⟩ := p1; Heap.lt_size e
      refine zs_call hasc p1 fun h' hz hTI hTO h1 h2 hk => wpAny_pyIter_zip hz ?_
      have I2 : Inv X pins σ H1 { s1 with heap := h' } := I1.kept (t' := s1.toks) hk
      refine ⟨s1.heap.objs.size + 4, [s1.heap.objs.size + 4, s1.heap.objs.size + 2, s1.heap.objs.size + 3, s1.heap.objs.size, s1.heap.objs.size + 1], _, _, H1, rfl, I2, turn_zs (PySem.W.ktu_apart s1.heap.objs.size b b lb lb), ⟨hz, hTI, ⟨_, _, hTO⟩, h1, h2⟩, fun c hcm => ?_, q⟩
      have e' : c = s1.heap.objs.size + 4 ∨ c = s1.heap.objs.size + 2 ∨ c = s1.heap.objs.size + 3 ∨ c = s1.heap.objs.size ∨ c = s1.heap.objs.size + 1 := by simpa using hcm
      have hle : s1.heap.objs.size ≤ c := by rcases e' with rfl | rfl | rfl | rfl | rfl <;> first | exact Nat.le_add_right _ _ | exact Nat.le_refl _
      exact I1.fpOk hle (I1.hok.fresh hle)
end Bd

namespace Bd
open PySem L2

inductive TyN where
  | none | bool | int | str | tuple | list | dict | set
  deriving DecidableEq
def TyN.name : TyN → String
  | .none => "NoneType"
  | .bool => "bool"
  | .int => "int"
  | .str => "str"
  | .tuple => "tuple"
  | .list => "list"
  | .dict => "dict"
  | .set => "set"
/-- pure values -/
inductive PV where
  | non | bl (b : Bool) | int (i : Int) | str (x : Str) | tup (xs : List PV) | lst (xs : List PV)
  | fn (x : Str) | ty (n : TyN) | scr (xs : List PV)
  | exv (c : Str) (fs : List Str) (xs : List PV)
  | ktp (xs : List PV)
  | dk (ks : List Key) (xs : List PV) | dt (ks : List (List Key)) (xs : List PV)
  deriving Inhabited

/-- what is fixed of the module -/
structure Gx where
  K : PySem.W.Frag
  mg : Str → Option Value

mutual
def Rep (g : Gx) (F : Hp) : PV → V → Prop
  | .non, v => v = .non
  | .bl b, v => v = .bl b
  | .int i, v => v = .int i
  | .str x, v => v = .str x
  | .tup xs, v => ∃ a vs, v = .ref a ∧ F a = some (.tup vs) ∧ Reps g F xs vs
  | .ktp xs, v => ∃ a vs, v = .ref a ∧ SqT g.K F a vs ∧ Reps g F xs vs
  | .dk ks xs, v => ∃ a ws, v = .ref a ∧ F a = some (.dK (ks.zip ws)) ∧ ks.length = xs.length ∧ Reps g F xs ws
  | .dt ks xs, v => ∃ a ws, v = .ref a ∧ F a = some (.dT (ks.zip ws)) ∧ ks.length = xs.length ∧ Reps g F xs ws
  | .lst xs, v => ∃ a vs, v = .ref a ∧ F a = some (.lst vs) ∧ Reps g F xs vs
  | .scr xs, v => ∃ a vs, v = .ref a ∧ SqL g.K F a vs ∧ Reps g F xs vs
  | .fn x, v => ∃ f, v = .ref f ∧ g.mg x = some (.ref f)
  | .ty n, v => v = .ty n.name
  | .exv c fs xs, v => ∃ a C d ws, v = .ref a ∧ g.mg c = some (.ref C) ∧ F a = some (ExH C d a) ∧ F d = some (.xd (fs.zip ws)) ∧ Reps g F xs ws
def Reps (g : Gx) (F : Hp) : List PV → List V → Prop
  | [], vs => vs = []
  | x :: xs, vs => ∃ v r, vs = v :: r ∧ Rep g F x v ∧ Reps g F xs r
end

theorem Same.tseq {K : PySem.W.Frag} {H H' : Hp} {a : Addr} {xs : List V} (e : Same H H') (h : H a = some (.tup xs)) : SqT K H' a xs := .inl (.inl (e _ _ h))
theorem Same.kseq {K : PySem.W.Frag} {H H' : Hp} {a : Addr} {xs : List V} (e : Same H H') (h : SqT K H a xs) : SqT K H' a xs := by
  rcases h with (h | ⟨o, h⟩) | h
  · exact .inl (.inl (e _ _ h))
  · exact .inl (.inr ⟨o, e _ _ h⟩)
  · exact .inr h

mutual
theorem Rep.mono {g : Gx} {F F' : Hp} (e : Same F F') : ∀ (p : PV) {v : V}, Rep g F p v → Rep g F' p v
  | .non, _, h => h
  | .bl _, _, h => h
  | .int _, _, h => h
  | .str _, _, h => h
  | .fn _, _, h => h
  | .ty _, _, h => h
  | .tup xs, _, h => by
    obtain ⟨a, vs, e1, h1, h2⟩ := h
    exact ⟨a, vs, e1, e _ _ h1, Reps.mono e xs h2⟩
  | .ktp xs, _, h => by
    obtain ⟨a, vs, e1, h1, h2⟩ := h
    exact ⟨a, vs, e1, Same.kseq e h1, Reps.mono e xs h2⟩
  | .dk ks xs, _, h => by
    obtain ⟨a, vs, e1, h1, h2, h3⟩ := h
    exact ⟨a, vs, e1, e _ _ h1, h2, Reps.mono e xs h3⟩
  | .dt ks xs, _, h => by
    obtain ⟨a, vs, e1, h1, h2, h3⟩ := h
    exact ⟨a, vs, e1, e _ _ h1, h2, Reps.mono e xs h3⟩
  | .lst xs, _, h => by
    obtain ⟨a, vs, e1, h1, h2⟩ := h
    exact ⟨a, vs, e1, e _ _ h1, Reps.mono e xs h2⟩
  | .scr xs, _, h => by
    obtain ⟨a, vs, e1, h1, h2⟩ := h
    exact ⟨a, vs, e1, Same.seq e h1, Reps.mono e xs h2⟩
  | .exv c fs xs, _, h => by
    obtain ⟨a, C, d, ws, e1, h1, h2, h3, h4⟩ := h
    exact ⟨a, C, d, ws, e1, h1, e _ _ h2, e _ _ h3, Reps.mono e xs h4⟩
theorem Reps.mono {g : Gx} {F F' : Hp} (e : Same F F') : ∀ (ps : List PV) {vs : List V}, Reps g F ps vs → Reps g F' ps vs
  | [], _, h => h
  | x :: xs, _, h => by
    obtain ⟨v, r, e1, h1, h2⟩ := h
    exact ⟨v, r, e1, Rep.mono e x h1, Reps.mono e xs h2⟩
end

section
variable {g : Gx} {F H : Hp}
theorem Reps.length : ∀ {ps : List PV} {vs : List V}, Reps g F ps vs → vs.length = ps.length
  | [], _, h => by cases h; rfl
  | x :: xs, _, h => by
    obtain ⟨v, r, rfl, _, h2⟩ := h
    simp [Reps.length h2]
theorem Reps.get : ∀ {ps : List PV} {vs : List V} {i : Nat} {p : PV}, Reps g F ps vs → ps[i]? = some p → ∃ v, vs[i]? = some v ∧ Rep g F p v
  | [], _, _, _, _, e => by simp at e
  | x :: xs, _, 0, p, h, e => by
    obtain ⟨v, r, rfl, h1, _⟩ := h
    simp at e; subst e
    exact ⟨v, rfl, h1⟩
  | x :: xs, _, i + 1, p, h, e => by
    obtain ⟨v, r, rfl, _, h2⟩ := h
    obtain ⟨w, e1, e2⟩ := Reps.get (i := i) h2 (by simpa using e)
    exact ⟨w, by simpa using e1, e2⟩
theorem Reps.get' : ∀ {ps : List PV} {vs : List V} {i : Nat} {v : V}, Reps g F ps vs → vs[i]? = some v → ∃ p, ps[i]? = some p ∧ Rep g F p v := fun {ps vs i v} h e => by
  have hl := h.length
  have hi : i < vs.length := (List.getElem?_eq_some_iff.mp e).1
  have hp : ps[i]? = some ps[i] := List.getElem?_eq_getElem (by omega)
  obtain ⟨w, e1, e2⟩ := h.get hp
  rw [e] at e1; cases e1
  exact ⟨_, hp, e2⟩
theorem Reps.append : ∀ {ps qs : List PV} {vs ws : List V}, Reps g F ps vs → Reps g F qs ws → Reps g F (ps ++ qs) (vs ++ ws)
  | [], _, _, _, h, h' => by cases h; exact h'
  | x :: xs, _, _, _, h, h' => by
    obtain ⟨v, r, rfl, h1, h2⟩ := h
    exact ⟨v, r ++ _, rfl, h1, Reps.append h2 h'⟩
theorem Reps.take : ∀ {ps : List PV} {vs : List V} (n : Nat), Reps g F ps vs → Reps g F (ps.take n) (vs.take n)
  | _, _, 0, _ => by simp [Reps]
  | [], _, n + 1, h => by cases h; rfl
  | x :: xs, _, n + 1, h => by
    obtain ⟨v, r, rfl, h1, h2⟩ := h
    exact ⟨v, r.take n, rfl, h1, Reps.take n h2⟩
theorem Reps.drop : ∀ {ps : List PV} {vs : List V} (n : Nat), Reps g F ps vs → Reps g F (ps.drop n) (vs.drop n)
  | _, _, 0, h => h
  | [], _, n + 1, h => by cases h; rfl
  | x :: xs, _, n + 1, h => by
    obtain ⟨v, r, rfl, h1, h2⟩ := h
    exact Reps.drop n h2
theorem Reps.set : ∀ {ps : List PV} {vs : List V} (n : Nat) {p : PV} {v : V}, Reps g F ps vs → Rep g F p v → Reps g F (ps.set n p) (vs.set n v)
  | [], _, n, p, v, h, _ => by cases h; rfl
  | x :: xs, _, 0, p, v, h, hp => by
    obtain ⟨v', r, rfl, h1, h2⟩ := h
    exact ⟨v, r, rfl, hp, h2⟩
  | x :: xs, _, n + 1, p, v, h, hp => by
    obtain ⟨v', r, rfl, h1, h2⟩ := h
    exact ⟨v', r.set n v, rfl, h1, Reps.set n h2 hp⟩
theorem Reps.nil : Reps g F [] [] := rfl
theorem Reps.cons {p : PV} {ps : List PV} {v : V} {vs : List V} (h1 : Rep g F p v) (h2 : Reps g F ps vs) : Reps g F (p :: ps) (v :: vs) := ⟨v, vs, rfl, h1, h2⟩
theorem Reps.snoc {p : PV} {ps : List PV} {v : V} {vs : List V} (h2 : Reps g F ps vs) (h1 : Rep g F p v) : Reps g F (ps ++ [p]) (vs ++ [v]) := h2.append (.cons h1 .nil)
end

/-! ### slots -/
inductive Fl where
  | fz | own | bor
  deriving DecidableEq
abbrev En := List (Option (PV × Fl))

/-- an object that may be changed, by its value; what lies in it is fixed -/
def OwnR (g : Gx) (F H : Hp) : PV → Addr → Prop
  | .lst xs, a => ∃ vs, H a = some (.lst vs) ∧ Reps g F xs vs
  | .dk ks xs, a => ∃ ws, H a = some (.dK (ks.zip ws)) ∧ ks.length = xs.length ∧ Reps g F xs ws
  | .dt ks xs, a => ∃ ws, H a = some (.dT (ks.zip ws)) ∧ ks.length = xs.length ∧ Reps g F xs ws
  | _, _ => False
theorem OwnR.here {g : Gx} {F H : Hp} {p : PV} {a : Addr} (h : OwnR g F H p a) : ∃ o, H a = some o := by
  cases p <;> first | exact h.elim | (obtain ⟨vs, e, _⟩ := h; exact ⟨_, e⟩)
theorem OwnR.mono {g : Gx} {F F' H H' : Hp} {p : PV} {a : Addr} (h : OwnR g F H p a) (e : Same F F') (k : ∀ o, H a = some o → H' a = some o) : OwnR g F' H' p a := by
  cases p with
  | lst xs => obtain ⟨vs, e1, h1⟩ := h; exact ⟨vs, k _ e1, Reps.mono e _ h1⟩
  | dk ks xs => obtain ⟨vs, e1, h1, h2⟩ := h; exact ⟨vs, k _ e1, h1, Reps.mono e _ h2⟩
  | dt ks xs => obtain ⟨vs, e1, h1, h2⟩ := h; exact ⟨vs, k _ e1, h1, Reps.mono e _ h2⟩
  | _ => exact h.elim
/-- what a fixed copy of it is -/
theorem OwnR.rep {g : Gx} {F H : Hp} {p : PV} {a : Addr} (h : OwnR g F H p a) {o : HO} (e : H a = some o) (n : F a = none) : Rep g (upd F a o) p (.ref a) := by
  have sm : Same F (upd F a o) := fun b x q => by rw [upd_ne (ne_of_none q n)]; exact q
  cases p with
  | lst xs =>
    obtain ⟨vs, e1, h1⟩ := h
    rw [e] at e1; cases e1
    exact ⟨a, vs, rfl, upd_same, Reps.mono sm _ h1⟩
  | dk ks xs =>
    obtain ⟨vs, e1, h1, h2⟩ := h
    rw [e] at e1; cases e1
    exact ⟨a, vs, rfl, upd_same, h1, Reps.mono sm _ h2⟩
  | dt ks xs =>
    obtain ⟨vs, e1, h1, h2⟩ := h
    rw [e] at e1; cases e1
    exact ⟨a, vs, rfl, upd_same, h1, Reps.mono sm _ h2⟩
  | _ => exact h.elim

/-- an entry: what was fixed, what stood, what may be changed, what may be fixed -/
structure Ent where
  F : Hp
  H : Hp
  M : Addr → Prop
  Z : Addr → Prop
  S0 : L2.St
  B : Nat → Prop

structure Sx (g : Gx) (G : Ent) (env : En) (σ : St) (F H : Hp) : Prop where
  sub : Same F H
  f0 : Same G.F F
  h0 : ∀ a o, G.H a = some o → ¬ G.M a → H a = some o
  nf : ∀ a o, G.H a = some o → G.F a = none → ¬ G.Z a → F a = none
  th : ∀ a o, G.H a = some o → ∃ o', H a = some o'
  len : env.length = σ.length
  fz : ∀ (i : Nat) pv, env[i]? = some (some (pv, .fz)) → ∃ v, σ[i]? = some (some v) ∧ Rep g F pv v
  own : ∀ (i : Nat) pv fl, env[i]? = some (some (pv, fl)) → fl ≠ .fz → ∃ a, σ[i]? = some (some (.ref a)) ∧ F a = none ∧ OwnR g F H pv a ∧ (G.M a ∨ G.H a = none) ∧ (fl = .own → G.Z a ∨ G.H a = none)
  inj : ∀ (i j : Nat) p q a, env[i]? = some (some p) → p.2 ≠ .fz → env[j]? = some (some q) → q.2 ≠ .fz → σ[i]? = some (some (.ref a)) → σ[j]? = some (some (.ref a)) → i = j
  bo : ∀ (i : Nat) pv, env[i]? = some (some (pv, .bor)) → G.B i ∧ σ[i]? = G.S0[i]?

/-- an address that no slot owns -/
def Apart (env : En) (σ : St) (a : Addr) : Prop := ∀ (i : Nat) p, env[i]? = some (some p) → p.2 ≠ .fz → σ[i]? ≠ some (some (.ref a))

/-- what an expression hands on -/
def VR (g : Gx) (G : Ent) (env : En) (σ : St) (F H : Hp) (r : PV × Fl) (v : V) : Prop :=
  match r.2 with
  | .fz => Rep g F r.1 v
  | .own => ∃ a, v = .ref a ∧ F a = none ∧ OwnR g F H r.1 a ∧ G.H a = none ∧ Apart env σ a
  | .bor => False

section
variable {g : Gx} {G : Ent} {env : En} {σ : St} {F H F' H' : Hp}

theorem same_upd {a : Addr} {o : HO} (n : F a = none) : Same F (upd F a o) := fun b x q => by rw [upd_ne (ne_of_none q n)]; exact q

/-- an object that no slot owns is fixed -/
theorem Sx.freeze (S : Sx g G env σ F H) {a : Addr} {o : HO} (e : H a = some o) (n : F a = none) (z : G.H a = none ∨ G.Z a) (ap : Apart env σ a) : Sx g G env σ (upd F a o) H := by
  have sm : Same F (upd F a o) := same_upd n
  refine ⟨fun b x q => ?_, S.f0.trans sm, S.h0, fun b x h1 h2 h3 => ?_, S.th, S.len, fun i pv h => ?_, fun i pv fl h hf => ?_, S.inj, S.bo⟩
  · by_cases hb : b = a
    · subst hb; rw [upd_same] at q; cases q; exact e
    · rw [upd_ne hb] at q; exact S.sub b x q
  · have hb : b ≠ a := by
      rintro rfl
      rcases z with z | z
      · rw [h1] at z; cases z
      · exact h3 z
    rw [upd_ne hb]; exact S.nf b x h1 h2 h3
  · obtain ⟨v, e1, r⟩ := S.fz i pv h
    exact ⟨v, e1, r.mono sm⟩
  · obtain ⟨b, e1, e2, e3, e4, e5⟩ := S.own i pv fl h hf
    have hb : b ≠ a := by rintro rfl; exact ap i _ h hf e1
    exact ⟨b, e1, by rw [upd_ne hb]; exact e2, e3.mono sm fun _ q => q, e4, e5⟩

/-- heap and fixed part grow -/
theorem Sx.grow (S : Sx g G env σ F H) (sF : Same F F') (sH : Same H H') (sub : Same F' H') (nf : ∀ a o, H a = some o → F a = none → F' a = none) : Sx g G env σ F' H' := by
  refine ⟨sub, S.f0.trans sF, fun a o h1 h2 => sH a o (S.h0 a o h1 h2), fun a o h1 h2 h3 => ?_, fun a o h1 => ?_, S.len, fun i pv h => ?_, fun i pv fl h hf => ?_, S.inj, S.bo⟩
  · obtain ⟨x, q⟩ := S.th a o h1
    exact nf a x q (S.nf a o h1 h2 h3)
  · obtain ⟨x, q⟩ := S.th a o h1
    exact ⟨x, sH a x q⟩
  · obtain ⟨v, e1, r⟩ := S.fz i pv h
    exact ⟨v, e1, r.mono sF⟩
  · obtain ⟨b, e1, e2, e3, e4, e5⟩ := S.own i pv fl h hf
    obtain ⟨o, eo⟩ := e3.here
    exact ⟨b, e1, nf b o eo e2, e3.mono sF fun o q => sH b o q, e4, e5⟩
end
end Bd

namespace Bd
open PySem L2

/-! ### operations on pure values -/
mutual
def plainP : PV → Bool
  | .fn _ => false
  | .ty _ => false
  | .tup xs => plainPs xs
  | .lst xs => plainPs xs
  | .scr _ => false
  | .exv _ _ _ => false
  | .ktp _ => false
  | .dk _ _ => false
  | .dt _ _ => false
  | _ => true
def plainPs : List PV → Bool
  | [] => true
  | x :: xs => plainP x && plainPs xs
end
mutual
def depP : PV → Nat
  | .tup xs => depPs xs + 1
  | .lst xs => depPs xs + 1
  | _ => 0
def depPs : List PV → Nat
  | [] => 0
  | x :: xs => max (depP x) (depPs xs)
end
mutual
def eqP : PV → PV → Bool
  | .non, .non => true
  | .bl a, .bl b => a == b
  | .bl a, .int j => (if a then 1 else 0) == j
  | .int i, .bl b => i == (if b then 1 else 0)
  | .int i, .int j => i == j
  | .str x, .str y => x == y
  | .lst xs, .lst ys => eqPs xs ys
  | .tup xs, .tup ys => eqPs xs ys
  | _, _ => false
def eqPs : List PV → List PV → Bool
  | [], [] => true
  | x :: xs, y :: ys => eqP x y && eqPs xs ys
  | _, _ => false
end
def cmpOk (p q : PV) : Bool := plainP p && plainP q && decide (min (depP p) (depP q) ≤ 60)

/-- less, by Python's comparison -/
def ltP : PV → PV → Option Bool
  | .int i, .int j => some (decide (i < j))
  | .str x, .str y => some (decide (x.cps.toList < y.cps.toList))
  | _, _ => none

/-- the ends of two rows that are alike so far -/
def ordEnd : CmpOp → Bool → Bool → Option Bool
  | .Lt, a, b => some (a && !b)
  | .LtE, a, _ => some a
  | .Gt, a, b => some (!a && b)
  | .GtE, _, b => some b
  | _, _, _ => none
def ordI (op : CmpOp) (i j : Int) : Option Bool := match op with
  | .Lt => some (decide (i < j))
  | .LtE => some (decide (i ≤ j))
  | .Gt => some (decide (j < i))
  | .GtE => some (decide (j ≤ i))
  | _ => none
def ordS (op : CmpOp) (x y : Str) : Option Bool := match op with
  | .Lt => some (decide (x.cps.toList < y.cps.toList))
  | .LtE => some (!decide (y.cps.toList < x.cps.toList))
  | .Gt => some (decide (y.cps.toList < x.cps.toList))
  | .GtE => some (!decide (x.cps.toList < y.cps.toList))
  | _ => none
mutual
/-- order: what stands at the same places must be told, too -/
def ordP (op : CmpOp) : PV → PV → Option Bool
  | .int i, .int j => ordI op i j
  | .str x, .str y => ordS op x y
  | .tup xs, .tup ys => ordPs op xs ys
  | _, _ => none
def ordPs (op : CmpOp) : List PV → List PV → Option Bool
  | [], ys => ordEnd op true ys.isEmpty
  | _ :: _, [] => ordEnd op false true
  | x :: xs, y :: ys => (ordPs op xs ys).bind fun b => if eqP x y then some b else ordP op x y
end
def ordT (op : CmpOp) (xs ys : List PV) : Option Bool := if cmpOk (.tup xs) (.tup ys) then ordPs op xs ys else none

def truth : PV → Option Bool
  | .non => some false
  | .bl b => some b
  | .int i => some (i != 0)
  | .str x => if x.length ≤ sizeLine then some ((x.length : Int) != 0) else none
  | .tup xs => some (!xs.isEmpty)
  | .lst xs => some (!xs.isEmpty)
  | _ => none

def smallI (i : Int) : Bool := decide (-(2 ^ 64) < i) && decide (i < 2 ^ 64)
def powOk (i j : Int) : Bool := decide (0 ≤ j) && decide (j ≤ 1000000) && decide (i.natAbs < 2 ^ 64)

def binP : Operator → PV → PV → Option PV
  | .Add, .int i, .int j => some (.int (i + j))
  | .Add, .str x, .str y => if x.length + y.length ≤ sizeLine then some (.str (x ++ y)) else none
  | .Add, .lst xs, .lst ys => if xs.length + ys.length ≤ sizeLine then some (.lst (xs ++ ys)) else none
  | .Add, .tup xs, .tup ys => if xs.length + ys.length ≤ sizeLine then some (.tup (xs ++ ys)) else none
  | .Sub, .int i, .int j => some (.int (i - j))
  | .Mult, .int i, .int j => if smallI i || smallI j then some (.int (i * j)) else if i.natAbs.log2 + j.natAbs.log2 < 1000000 then some (.int (i * j)) else none
  | .Mult, .lst xs, .int k => if -(2 ^ 63) ≤ k ∧ k < 2 ^ 63 ∧ xs.length * k.toNat ≤ sizeLine then some (.lst (List.replicate k.toNat xs).flatten) else none
  | .Mult, .tup xs, .int k => if xs.isEmpty = false ∧ 2 ≤ k ∧ k ≤ 1000 ∧ xs.length ≤ 1000 then some (.tup (List.replicate k.toNat xs).flatten) else none
  | .FloorDiv, .int i, .int j => if 0 < j ∧ j < 1073741824 then some (.int (i / j)) else if 0 < j ∧ j.natAbs.log2 < 9000 then some (.int (i / j)) else none
  | .Mod, .int i, .int j => if 0 < j then some (.int (i % j)) else none
  | .Pow, .int i, .int j => if powOk i j then some (.int (i ^ j.toNat)) else none
  | .LShift, .int i, .int j => if powOk i j then some (.int (i * 2 ^ j.toNat)) else none
  | .RShift, .int i, .int j => if 0 ≤ j then some (.int (i / 2 ^ j.toNat)) else none
  | _, _, _ => none

def unP : UnaryOp → PV → Option PV
  | .USub, .int i => some (.int (-i))
  | _, _ => none

def isNonP : PV → Bool
  | .non => true
  | _ => false

def anyEq (q : PV) : List PV → Bool
  | [] => false
  | x :: xs => eqP x q || anyEq q xs

/-- a text of one sign -/
def sign1 (x : Str) : Option Nat := match x.cps.toList with
  | [c] => some c
  | _ => none
def signP : PV → Option Nat
  | .str x => sign1 x
  | _ => none
def keyOf : PV → Option Key
  | .int i => some (.inl i)
  | .str x => some (.inr x)
  | _ => none
def keysOf : List PV → Option (List Key)
  | [] => some []
  | x :: r => (keyOf x).bind fun k => (keysOf r).map (k :: ·)
def tkeyOf : PV → Option (List Key)
  | .tup xs => keysOf xs
  | _ => none
/-- tables by two lists -/
def dGet {κ α : Type} [DecidableEq κ] (ks : List κ) (xs : List α) (k : κ) : Option α := ((ks.zip xs).find? fun p => decide (p.1 = k)).map (·.2)
def dSet {κ α : Type} [DecidableEq κ] (ks : List κ) (xs : List α) (k : κ) (v : α) : List α := (ks.zip xs).map fun p => if p.1 = k then v else p.2
def dPutX {κ α : Type} [DecidableEq κ] (ks : List κ) (xs : List α) (k : κ) (v : α) : List α := if ks.any (fun j => decide (j = k)) then dSet ks xs k v else xs ++ [v]
def dPutK {κ : Type} [DecidableEq κ] (ks : List κ) (k : κ) : List κ := if ks.any (fun j => decide (j = k)) then ks else ks ++ [k]
def inP (p : PV) : PV → Option Bool
  | .ktp xs => if cmpOk p p && plainPs xs && decide (min (depP p) (depPs xs) ≤ 59) then some (anyEq p xs) else none
  | .dk ks xs => (keyOf p).map fun k => (dGet ks xs k).isSome
  | .dt ks xs => (tkeyOf p).map fun k => (dGet ks xs k).isSome
  | .lst xs => if cmpOk p p && plainPs xs && decide (min (depP p) (depPs xs) ≤ 59) then some (anyEq p xs) else none
  | .tup xs => if cmpOk p p && plainPs xs && decide (min (depP p) (depPs xs) ≤ 59) then some (anyEq p xs) else none
  | .str y => (signP p).map fun c => decide (c ∈ y.cps.toList)
  | _ => none

def cmpP : CmpOp → PV → PV → Option Bool
  | .Lt, .tup xs, .tup ys => ordT .Lt xs ys
  | .Gt, .tup xs, .tup ys => ordT .Gt xs ys
  | .LtE, .tup xs, .tup ys => ordT .LtE xs ys
  | .GtE, .tup xs, .tup ys => ordT .GtE xs ys
  | .Eq, p, q => if cmpOk p q then some (eqP p q) else none
  | .NotEq, p, q => if cmpOk p q then some (!eqP p q) else none
  | .Lt, p, q => ltP p q
  | .Gt, p, q => ltP q p
  | .LtE, .int i, .int j => some (decide (i ≤ j))
  | .GtE, .int i, .int j => some (decide (j ≤ i))
  | .LtE, .str x, .str y => some (!decide (y.cps.toList < x.cps.toList))
  | .GtE, .str x, .str y => some (!decide (x.cps.toList < y.cps.toList))
  | .Is, p, .non => some (isNonP p)
  | .IsNot, p, .non => some (!isNonP p)
  | .In, p, q => inP p q
  | .NotIn, p, q => (inP p q).map (!·)
  | _, _, _ => none

def ixP : PV → PV → Option PV
  | .lst xs, .int i => atI xs i
  | .tup xs, .int i => atI xs i
  | .dk ks xs, q => (keyOf q).bind (dGet ks xs)
  | .dt ks xs, q => (tkeyOf q).bind (dGet ks xs)
  | .str z, .int i => if z.length ≤ sizeLine then (atI z.cps.toList i).map (fun c => .str ⟨#[c]⟩) else none
  | _, _ => none

def cutP (xs : List PV) (lo hi : Option Int) : List PV := (xs.drop (HT.sIx xs.length 0 lo)).take (HT.sIx xs.length xs.length hi - HT.sIx xs.length 0 lo)
def slP : PV → Option Int → Option Int → Option PV
  | .lst xs, lo, hi => some (.lst (cutP xs lo hi))
  | .scr xs, lo, hi => some (.lst (cutP xs lo hi))
  | .tup xs, lo, hi => some (.tup (cutP xs lo hi))
  | .str z, lo, hi => if z.length ≤ sizeLine then some (.str (cutS z lo hi)) else none
  | _, _, _ => none

def tyName : PV → Option TyN
  | .non => some .none
  | .bl _ => some .bool
  | .int _ => some .int
  | .str _ => some .str
  | .tup _ => some .tuple
  | .lst _ => some .list
  | _ => none
/-- is a thing of the type T one of the type c? -/
def isSub (T c : TyN) : Bool := decide (T = c) || (decide (T = .bool) && decide (c = .int))
def isiAny (T : TyN) : List PV → Option Bool
  | [] => some false
  | .ty c :: r => (isiAny T r).map (isSub T c || ·)
  | _ => none
def isiP (p : PV) : PV → Option Bool
  | .ty c => (tyName p).map fun T => isSub T c
  | .tup xs => (tyName p).bind fun T => isiAny T xs
  | _ => none

def allInts : List PV → Option (List Int)
  | [] => some []
  | .int i :: r => (allInts r).map (i :: ·)
  | _ => none
def allStrs : List PV → Option (List Str)
  | [] => some []
  | .str i :: r => (allStrs r).map (i :: ·)
  | _ => none
def allBls : List PV → Option (List Bool)
  | [] => some []
  | .bl i :: r => (allBls r).map (i :: ·)
  | _ => none
def seqOf : PV → Option (List PV)
  | .lst xs => some xs
  | .tup xs => some xs
  | _ => none

inductive Blt where
  | len | abs | max | min | int | str | all | any | list | tuple | isinstance | sum | sorted | set | dict
  deriving DecidableEq
def Blt.name : Blt → Str
  | .len => "len"
  | .abs => "abs"
  | .max => "max"
  | .min => "min"
  | .int => "int"
  | .str => "str"
  | .all => "all"
  | .any => "any"
  | .list => "list"
  | .tuple => "tuple"
  | .isinstance => "isinstance"
  | .sum => "sum"
  | .sorted => "sorted"
  | .set => "set"
  | .dict => "dict"
/-- a built-in function -/
def bltP : Blt → List PV → Option PV
  | .len, [.lst xs] => some (.int xs.length)
  | .len, [.tup xs] => some (.int xs.length)
  | .len, [.str x] => if x.length ≤ sizeLine then some (.int x.length) else none
  | .abs, [.int i] => some (.int (if i < 0 then -i else i))
  | .max, [.int i, .int j] => some (.int (if j > i then j else i))
  | .min, [.int i, .int j] => some (.int (if j < i then j else i))
  | .int, [.int i] => some (.int i)
  | .int, [.bl b] => some (.int (if b then 1 else 0))
  | .int, [.str a] => if a.length ≤ 640 then (PySem.intText? a).map .int else none
  | .str, [.int i] => if i.natAbs.log2 < 1920 then some (.str (toString i)) else none
  | .all, [.lst xs] => (allBls xs).map fun bs => .bl (bs.all id)
  | .any, [.lst xs] => (allBls xs).map fun bs => .bl (bs.any id)
  | .sum, [.lst xs] => (allInts xs).map fun ns => .int ns.sum
  | .list, [p] => (seqOf p).map .lst
  | .tuple, [p] => (seqOf p).map .tup
  | .isinstance, [p, q] => (isiP p q).map .bl
  | _, _ => none

inductive Mth where
  | split | join | append | index | count | replace
  deriving DecidableEq
def Mth.name : Mth → Str
  | .split => "split"
  | .join => "join"
  | .append => "append"
  | .index => "index"
  | .count => "count"
  | .replace => "replace"
/-- of which kind the thing is whose method it is -/
def kindO : Mth → Option PV → Bool
  | .split, some (.str _) => true
  | .join, some (.str _) => true
  | .replace, some (.str _) => true
  | .index, some (.str _) => true
  | .count, some (.lst _) => true
  | _, _ => false
/-- the first place of a text in a text -/
def indexP : PV → List PV → Option PV
  | .str a, [.str b] => (match Builtin.Str.occurrences a b 0 a.length 1 with
    | i :: _ => some (.int (i : Nat))
    | [] => none)
  | _, _ => none
def mthP : Mth → PV → List PV → Option PV
  | .split, .str a, [.str b] => if b.length = 0 ∨ sizeLine < a.length + 2 then none else some (.lst ((Txt.split a b).map .str))
  | .join, .str a, [p] => (seqOf p).bind fun xs => (allStrs xs).bind fun ys =>
      if (ys.map (·.length)).sum + ys.length * a.length ≤ 16777216 then some (.str (Txt.join a ys)) else none
  | .index, p, ps => indexP p ps
  | _, _, _ => none

/-! ### the small language -/
/-- slots that a comprehension or a for stores in -/
inductive IG where
  | nm (i : Nat)
  | tup (is : List Nat)

inductive IE where
  | var (i : Nat)
  | int (i : Int) | str (x : Str) | bl (b : Bool) | non
  | cst (x : Str)
  | fnv (x : Str)
  | tyv (t : TyN)
  | bin (op : Operator) (a b : IE)
  | un (op : UnaryOp) (a : IE)
  | not (a : IE)
  | cmp (op : CmpOp) (a b : IE)
  | chn (op op' : CmpOp) (a b c : IE)
  | and (a b : IE) | or (a b : IE)
  | ife (c a b : IE)
  | tup (as : IE) | lst (as : IE)
  | nil | cons (a r : IE)
  | sub (a b : IE)
  | no
  | slc (a lo hi : IE)
  | call (f : Str) (as : IE)
  | callk (f : Str) (n : Nat) (ks : List Str) (ap ak : IE)
  | blt (f : Blt) (as : IE)
  | mth (m : Mth) (o : IE) (as : IE)
  | comp (own : List Nat) (g : IG) (it : IE) (cond : IE) (elt : IE)
  | rng (as : IE) | enm (a : IE) | zip (a b : IE) | seq (a : IE)
  | dnew (t : Bool) | ddis (ks : List Key) (xs : List PV)
  | mk0 (c : Str) | mk1 (c : Str) (a : IE) | mkk (c q : Str) (a : IE) | isx (a : IE) (c : Str)
  | fld (a : IE) (f : Str) | callv (f as : IE) | lidx (o a : IE)
  | bits (a : IE) | lrn1 (a : IE) | lrng (a b : IE) | sset (a : IE)
  deriving Inhabited

structure PX where
  cls : Str
  fs : List Str
  vs : List PV
def excV (x : PX) : PV := .exv x.cls x.fs x.vs

inductive Out (α : Type) where
  | ok (a : α) (e : En)
  | exc (x : PX) (e : En)
  | bad
def Out.bind {α β : Type} (m : Out α) (k : α → En → Out β) : Out β :=
  match m with
  | .ok a e => k a e
  | .exc x e => .exc x e
  | .bad => .bad
/-- an operand: a value, or a slot that is read when the operation is done -/
inductive Opd where
  | val (p : PV)
  | slot (i : Nat)
def rsO (e : En) : Opd → Option PV
  | .val p => some p
  | .slot i => match e[i]? with
    | some (some (p, _)) => some p
    | _ => none
def rsOs (e : En) : List Opd → Option (List PV)
  | [] => some []
  | o :: r => (rsO e o).bind fun p => (rsOs e r).map (p :: ·)

/-- a fresh list may still be changed -/
def flOf : PV → Fl
  | .lst _ => .own
  | .dk _ _ => .own
  | .dt _ _ => .own
  | _ => .fz
def liftO (o : Option PV) (e : En) : Out (PV × Fl) :=
  match o with
  | some p => .ok (p, flOf p) e
  | none => .bad
def liftB (o : Option Bool) (e : En) : Out Bool :=
  match o with
  | some p => .ok p e
  | none => .bad

/-- what a call hands back: the value, and what the lists that it may change are then -/
inductive CRes where
  | ok (r : PV × Fl) (outs : List PV)
  | exc (x : PX) (outs : List PV)
  | bad
/-- a callee: which parameters it may change, and what it does -/
structure Cal where
  cst : Str → Option PV
  sig : Str → Option (List Bool)
  run : Str → List PV → CRes
  kw : Str → Nat → List Str → Option (List Nat)
  exf : Str → Option Str
  exq : Str → Option Str
  ex0 : Str → Option Str
  icl : Str → Bool
  isx : Str → Str → Option Bool
  und : Str → Str → Bool
/-- what is at these places -/
def pick {α : Type} (l : List α) : List Nat → List α
  | [] => []
  | i :: r => match l[i]? with
    | some x => x :: pick l r
    | none => pick l r

inductive Arg where
  | val (p : PV)
  | slot (i : Nat)
  | tmp (p : PV)
def argV (e : En) : Arg → Option PV
  | .val p => some p
  | .tmp p => some p
  | .slot i => match e[i]? with
    | some (some (p, .own)) => some p
    | some (some (p, .bor)) => some p
    | _ => none
def isNil : IE → Bool
  | .nil => true
  | _ => false
def argVs (e : En) : List Arg → Option (List PV)
  | [] => some []
  | a :: r => (argV e a).bind fun p => (argVs e r).map (p :: ·)
/-- a slot's value is another one -/
def setP (e : En) (i : Nat) (p : PV) : En := match e[i]? with
  | some (some (_, fl)) => e.set i (some (p, fl))
  | _ => e
/-- the slots that were handed in, as they are behind the call -/
def argBack : List Arg → List PV → En → En
  | .slot i :: r, p :: ps, e => argBack r ps (setP e i p)
  | .tmp _ :: r, _ :: ps, e => argBack r ps e
  | .val _ :: r, ps, e => argBack r ps e
  | _, _, e => e
def slotsOf : List Arg → List Nat
  | [] => []
  | .slot i :: r => i :: slotsOf r
  | _ :: r => slotsOf r

def setG : IG → PV → En → Option En
  | .nm i, p, e => some (e.set i (some (p, .fz)))
  | .tup is, p, e => match p with
    | .tup xs => if is.length = xs.length then some ((is.zip xs).foldl (fun e q => e.set q.1 (some (q.2, .fz))) e) else none
    | .lst xs => if is.length = xs.length then some ((is.zip xs).foldl (fun e q => e.set q.1 (some (q.2, .fz))) e) else none
    | _ => none

def rngItems (lo hi : Int) : List PV := (List.range (hi - lo).toNat).map fun (k : Nat) => PV.int (lo + (k : Int))
def rngP : List PV → Option (List PV)
  | [.int j] => if -(2 ^ 62) ≤ j ∧ j < 2 ^ 62 then some (rngItems 0 j) else none
  | [.int i, .int j] => if -(2 ^ 62) ≤ i ∧ i < 2 ^ 62 ∧ -(2 ^ 62) ≤ j ∧ j < 2 ^ 62 then some (rngItems i j) else none
  | _ => none
def enmItems : Nat → List PV → List PV
  | _, [] => []
  | n, x :: r => .tup [.int n, x] :: enmItems (n + 1) r
def zipItems : List PV → List PV → List PV
  | x :: xs, y :: ys => .tup [x, y] :: zipItems xs ys
  | _, _ => []
/-- two things that are walked side by side: of one kind -/
def zipP : PV → PV → Option (List PV)
  | .lst xs, .lst ys => some (zipItems xs ys)
  | .tup xs, .tup ys => some (zipItems xs ys)
  | .str z, .tup ys => if z.cps.all (· < 128) then some (zipItems (z.cps.toList.map fun c => .str ⟨#[c]⟩) ys) else none
  | _, _ => none
def itemsP : PV → Option (List PV)
  | .lst xs => some xs
  | .tup xs => some xs
  | .ktp xs => some xs
  | .str z => some (z.cps.toList.map fun c => .str ⟨#[c]⟩)
  | _ => none

def consO : Option PV → List PV → List PV
  | some y, ys => y :: ys
  | none, ys => ys
/-- the turns of a comprehension -/
def compLoop (f : PV → En → Out (Option PV)) : List PV → En → Out (List PV)
  | [], e => .ok [] e
  | x :: r, e => (f x e).bind fun y e1 => (compLoop f r e1).bind fun ys e2 => .ok (consO y ys) e2
def wipeE (e : En) : List Nat → En
  | [] => e
  | i :: r => (wipeE e r).set i none
/-- the slots own of e come back -/
def unwipe (e0 : En) : List Nat → En → En
  | [], e => e
  | i :: r, e => (unwipe e0 r e).set i (match e0[i]? with
    | some x => x
    | none => none)

def frzE (m : Out (PV × Fl)) : Out PV := m.bind fun r e => .ok r.1 e

/-- what an expression gives: as a value, as a test -/
abbrev EvR := (En → Out (PV × Fl)) × (En → Out Bool)
/-- a value whose test is its truth -/
def vt (v : En → Out (PV × Fl)) : EvR := (v, fun e => (v e).bind fun r e1 => liftB (truth r.1) e1)
/-- a test whose value is a bool -/
def tv (t : En → Out Bool) : EvR := (fun e => (t e).bind fun b e1 => .ok (.bl b, .fz) e1, t)
/-- an operand: a slot is read later -/
def opd (a : IE) (v : En → Out (PV × Fl)) (e : En) : Out Opd :=
  match a with
  | .var i => (match e[i]? with
    | some (some _) => .ok (.slot i) e
    | _ => .bad)
  | _ => (v e).bind fun r e1 => .ok (.val r.1) e1
/-- a bound of a slice -/
def part (a : IE) (v : En → Out (PV × Fl)) (e : En) : Out (Option Int) :=
  match a with
  | .no => .ok none e
  | _ => (opd a v e).bind fun x e1 => match rsO e1 x with
    | some (.int i) => .ok (some i) e1
    | _ => .bad
def evVar (i : Nat) (e : En) : Out (PV × Fl) :=
  match e[i]? with
  | some (some (p, .fz)) => .ok (p, .fz) e
  | some (some (p, .own)) => .ok (p, .fz) (e.set i (some (p, .fz)))
  | _ => .bad
def tsVar (i : Nat) (e : En) : Out Bool :=
  match e[i]? with
  | some (some (p, _)) => liftB (truth p) e
  | _ => .bad
def cmp2 (op : CmpOp) (x y : Opd) (e : En) : Out Bool := liftB ((rsO e x).bind fun p => (rsO e y).bind fun q => cmpP op p q) e
def okIf (k : Bool) (r : PV × Fl) (e : En) : Out (PV × Fl) := if k then .ok r e else .bad
def fzO (o : Option PV) (e : En) : Out (PV × Fl) :=
  match o with
  | some p => .ok (p, .fz) e
  | none => .bad
def doCall (C : Cal) (f : Str) (gs : List Arg) (e : En) : Out (PV × Fl) :=
  match argVs e gs with
  | none => .bad
  | some ps => if (slotsOf gs).Nodup then (match C.run f ps with
    | .ok r outs => .ok r (argBack gs outs e)
    | .exc x outs => .exc x (argBack gs outs e)
    | .bad => .bad) else .bad
def kwCall (C : Cal) (f : Str) (sg : List Bool) (n : Nat) (ks : List Str) (pm : List Nat) (us ws : List PV) (e : En) : Out (PV × Fl) :=
  if sg = (pick (us ++ ws) pm).map (fun _ => false) ∧ us.length = n ∧ ws.length = ks.length then doCall C f ((pick (us ++ ws) pm).map .val) e else .bad
/-- the comprehension's own slots hold nothing that may be changed -/
def ownFz (own : List Nat) (e : En) : Bool := own.all fun i => match e[i]? with
  | some (some (_, .fz)) => true
  | some none => true
  | _ => false
def compEnd (own : List Nat) (e1 : En) (m : Out (List PV)) : Out (PV × Fl) :=
  match m with
  | .ok ys e2 => if ys.length ≤ sizeLine then .ok (.lst ys, .own) (unwipe e1 own e2) else .bad
  | _ => .bad
def compTurnE (own : List Nat) (g : IG) (cond : En → Out Bool) (elt : En → Out (PV × Fl)) (x : PV) (e : En) : Out (Option PV) :=
  match setG g x e with
  | none => .bad
  | some e3 => (cond e3).bind fun k e4 => if k then (elt e4).bind fun p e5 => .ok (some p.1) (wipeE e5 own) else .ok none (wipeE e4 own)
def enmP : PV → Option PV
  | .lst xs => some (.lst (enmItems 0 xs))
  | _ => none

def bitsP : PV → Option PV
  | .int i => some (.int (Builtin.Int.intBits i : Nat))
  | _ => none
/-- list(range(..)) -/
def lrngP (ps : List PV) : Option PV := (rngP ps).bind fun xs => if xs.length ≤ 16777216 then some (.lst xs) else none
/-- an int put into an ascending list -/
def insI (i : Int) : List Int → List Int
  | [] => [i]
  | j :: r => if i < j then i :: j :: r else if i = j then j :: r else j :: insI i r
def sortI : List Int → List Int
  | [] => []
  | i :: r => insI i (sortI r)
/-- sorted(set(xs)) -/
def ssetP : PV → Option PV
  | .lst xs => (allInts xs).bind fun ns => if ns.length < 64 then some (.lst ((sortI ns).map .int)) else none
  | .tup xs => (allInts xs).bind fun ns => if ns.length < 64 then some (.lst ((sortI ns).map .int)) else none
  | _ => none

/-- a field of an exception -/
def fldP (C : Cal) (f : Str) : PV → Option PV
  | .exv c fs xs => if C.exf c = some f then (fs.zip xs).lookup f else none
  | _ => none
/-- isinstance of an exception -/
def isxP (C : Cal) (c : Str) : PV → Option PV
  | .exv d _ _ => (C.isx d c).map .bl
  | _ => none
/-- values that are compared at once -/
def flatB : PV → Bool
  | .non => true
  | .bl _ => true
  | .int _ => true
  | _ => false
/-- the first place -/
def idxP (p : PV) : List PV → Option Nat
  | [] => none
  | x :: r => if eqP x p then some 0 else (idxP p r).map (· + 1)
def lidxP (p q : PV) : Option PV := match p with
  | .lst xs => if xs.all flatB && flatB q then (idxP q xs).map fun (j : Nat) => .int (j : Int) else none
  | _ => none
def isLst : Option PV → Bool
  | some (.lst _) => true
  | _ => false
def callV (C : Cal) (x : Str) (ps : List PV) (e : En) : Out (PV × Fl) := if C.sig x = some (ps.map fun _ => false) then doCall C x (ps.map .val) e else .bad
def fnOf? : PV → Option Str
  | .fn x => some x
  | _ => none

mutual
def ev (C : Cal) : IE → EvR
  | .var i => (evVar i, tsVar i)
  | .int i => vt fun e => .ok (.int i, .fz) e
  | .str x => vt fun e => .ok (.str x, .fz) e
  | .bl b => vt fun e => .ok (.bl b, .fz) e
  | .non => vt fun e => .ok (.non, .fz) e
  | .cst x => vt fun e => fzO (C.cst x) e
  | .fnv x => vt fun e => okIf (C.sig x).isSome (.fn x, .fz) e
  | .tyv t => vt fun e => .ok (.ty t, .fz) e
  | .bin op a b => vt fun e => (opd a (ev C a).1 e).bind fun x e1 => (opd b (ev C b).1 e1).bind fun y e2 => liftO ((rsO e2 x).bind fun p => (rsO e2 y).bind fun q => binP op p q) e2
  | .un op a => vt fun e => (opd a (ev C a).1 e).bind fun x e1 => liftO ((rsO e1 x).bind fun p => unP op p) e1
  | .not a => (fun e => (opd a (ev C a).1 e).bind fun x e1 => (liftB ((rsO e1 x).bind truth) e1).bind fun b e2 => .ok (.bl (!b), .fz) e2,
    fun e => ((ev C a).2 e).bind fun b e1 => .ok (!b) e1)
  | .cmp op a b => tv fun e => (opd a (ev C a).1 e).bind fun x e1 => (opd b (ev C b).1 e1).bind fun y e2 => cmp2 op x y e2
  | .chn op op' a b c => tv fun e => (opd a (ev C a).1 e).bind fun x e1 => (opd b (ev C b).1 e1).bind fun y e2 => (cmp2 op x y e2).bind fun k e3 =>
      if k then (opd c (ev C c).1 e3).bind fun z e4 => cmp2 op' y z e4 else .ok false e3
  | .and a b => (fun e => ((ev C a).1 e).bind fun r e1 => match truth r.1 with
      | some true => (ev C b).1 e1
      | some false => .ok r e1
      | none => .bad,
    fun e => ((ev C a).2 e).bind fun k e1 => if k then (ev C b).2 e1 else .ok false e1)
  | .or a b => (fun e => ((ev C a).1 e).bind fun r e1 => match truth r.1 with
      | some false => (ev C b).1 e1
      | some true => .ok r e1
      | none => .bad,
    fun e => ((ev C a).2 e).bind fun k e1 => if k then .ok true e1 else (ev C b).2 e1)
  | .ife c a b => (fun e => ((ev C c).2 e).bind fun k e1 => if k then (ev C a).1 e1 else (ev C b).1 e1,
    fun e => ((ev C c).2 e).bind fun k e1 => if k then (ev C a).2 e1 else (ev C b).2 e1)
  | .tup as => vt fun e => (evF C as e).bind fun ps e1 => okIf (decide (ps.length ≤ sizeLine)) (.tup ps, .fz) e1
  | .lst as => vt fun e => (evF C as e).bind fun ps e1 => okIf (decide (ps.length ≤ sizeLine)) (.lst ps, .own) e1
  | .sub a b => vt fun e => (opd a (ev C a).1 e).bind fun x e1 => (opd b (ev C b).1 e1).bind fun y e2 => fzO ((rsO e2 x).bind fun p => (rsO e2 y).bind fun q => ixP p q) e2
  | .slc a lo hi => vt fun e => (opd a (ev C a).1 e).bind fun x e1 => (part lo (ev C lo).1 e1).bind fun l e2 => (part hi (ev C hi).1 e2).bind fun h e3 => liftO ((rsO e3 x).bind fun p => slP p l h) e3
  | .call f as => vt fun e => match C.sig f with
    | none => .bad
    | some sg => (evArg C as sg e).bind fun gs e1 => doCall C f gs e1
  | .callk f n ks ap ak => vt fun e => match C.sig f, C.kw f n ks with
    | some sg, some pm => (evF C ap e).bind fun us e1 => (evF C ak e1).bind fun ws e2 => kwCall C f sg n ks pm us ws e2
    | _, _ => .bad
  | .blt f as => vt fun e => (evOs C as e).bind fun os e1 => liftO ((rsOs e1 os).bind fun ps => bltP f ps) e1
  | .mth m o as => vt fun e => (opd o (ev C o).1 e).bind fun x e1 => if kindO m (rsO e1 x) then (evOs C as e1).bind fun os e2 => liftO ((rsO e2 x).bind fun p => (rsOs e2 os).bind fun ps => mthP m p ps) e2 else .bad
  | .comp own g it cond elt => vt fun e => ((ev C it).1 e).bind fun r e1 => match itemsP r.1 with
    | none => .bad
    | some xs => if ownFz own e1 then compEnd own e1 (compLoop (compTurnE own g (ev C cond).2 (ev C elt).1) xs (wipeE e1 own)) else .bad
  | .rng as => vt fun e => (evOs C as e).bind fun os e1 => fzO ((rsOs e1 os).bind fun ps => (rngP ps).map .lst) e1
  | .enm a => vt fun e => ((ev C a).1 e).bind fun r e1 => fzO (enmP r.1) e1
  | .zip a b => vt fun e => ((ev C a).1 e).bind fun r e1 => ((ev C b).1 e1).bind fun q e2 => fzO ((zipP r.1 q.1).map .lst) e2
  | .seq a => ev C a
  | .dnew t => vt fun e => liftO (some (if t then .dt [] [] else .dk [] [])) e
  | .ddis ks xs => vt fun e => liftO (some (.dk ks xs)) e
  | .mk0 c => vt fun e => (match C.ex0 c with
    | none => .bad
    | some f => liftO (some (.exv c [f] [.tup []])) e)
  | .mk1 c a => vt fun e => (match C.exf c with
    | none => .bad
    | some f => ((ev C a).1 e).bind fun r e1 => liftO (some (.exv c [f] [r.1])) e1)
  | .mkk c q a => vt fun e => (match C.exf c with
    | none => .bad
    | some f => if C.exq c = some q then ((ev C a).1 e).bind fun r e1 => liftO (some (.exv c [f] [r.1])) e1 else .bad)
  | .isx a c => vt fun e => if C.icl c = true then ((ev C a).1 e).bind fun r e1 => fzO (isxP C c r.1) e1 else .bad
  | .fld a f => vt fun e => ((ev C a).1 e).bind fun r e1 => fzO (fldP C f r.1) e1
  | .callv f as => vt fun e => ((ev C f).1 e).bind fun r e1 => match fnOf? r.1 with
    | some x => if (C.sig x).isSome then (evF C as e1).bind fun ps e2 => callV C x ps e2 else .bad
    | none => .bad
  | .lidx o a => vt fun e => (opd o (ev C o).1 e).bind fun x e1 => if isLst (rsO e1 x) then (opd a (ev C a).1 e1).bind fun y e2 => liftO ((rsO e2 x).bind fun p => (rsO e2 y).bind fun q => lidxP p q) e2 else .bad
  | .bits a => vt fun e => (opd a (ev C a).1 e).bind fun x e1 => liftO ((rsO e1 x).bind bitsP) e1
  | .lrn1 a => vt fun e => (opd a (ev C a).1 e).bind fun x e1 => liftO ((rsO e1 x).bind fun p => lrngP [p]) e1
  | .lrng a b => vt fun e => (opd a (ev C a).1 e).bind fun x e1 => (opd b (ev C b).1 e1).bind fun y e2 => liftO ((rsO e2 x).bind fun p => (rsO e2 y).bind fun q => lrngP [p, q]) e2
  | .sset a => vt fun e => (opd a (ev C a).1 e).bind fun x e1 => liftO ((rsO e1 x).bind ssetP) e1
  | .no => (fun _ => .bad, fun e => .ok true e)
  | .nil => (fun _ => .bad, fun _ => .bad)
  | .cons _ _ => (fun _ => .bad, fun _ => .bad)
/-- operands -/
def evOs (C : Cal) : IE → En → Out (List Opd)
  | .nil, e => .ok [] e
  | .cons a r, e => (opd a (ev C a).1 e).bind fun x e1 => (evOs C r e1).bind fun xs e2 => .ok (x :: xs) e2
  | _, _ => .bad
/-- items of a display: fixed values -/
def evF (C : Cal) : IE → En → Out (List PV)
  | .nil, e => .ok [] e
  | .cons a r, e => ((ev C a).1 e).bind fun x e1 => (evF C r e1).bind fun xs e2 => .ok (x.1 :: xs) e2
  | _, _ => .bad
/-- the arguments of a call -/
def evArg (C : Cal) : IE → List Bool → En → Out (List Arg)
  | .nil, sg, e => if sg.isEmpty then .ok [] e else .bad
  | .cons a r, sg, e => match sg with
    | [] => .bad
    | false :: sg => ((ev C a).1 e).bind fun x e1 => (evArg C r sg e1).bind fun xs e2 => .ok (.val x.1 :: xs) e2
    | true :: sg => match a with
      | .var i => (match e[i]? with
        | some (some (_, .fz)) => .bad
        | some (some (_, _)) => (evArg C r sg e).bind fun xs e2 => .ok (.slot i :: xs) e2
        | _ => .bad)
      | a => if sg.isEmpty && isNil r then ((ev C a).1 e).bind fun x e1 => match x.2 with
        | .own => .ok [.tmp x.1] e1
        | _ => .bad else .bad
  | _, _, _ => .bad
end
abbrev evE (C : Cal) (a : IE) : En → Out (PV × Fl) := (ev C a).1
abbrev evT (C : Cal) (a : IE) : En → Out Bool := (ev C a).2
end Bd

namespace Bd
open PySem L2

/-! ### operations: what they need and give -/
def PR (g : Gx) (F H : Hp) : PV → V → Prop
  | .lst xs, v => ∃ a vs, v = .ref a ∧ H a = some (.lst vs) ∧ Reps g F xs vs
  | .dk ks xs, v => ∃ a ws, v = .ref a ∧ H a = some (.dK (ks.zip ws)) ∧ ks.length = xs.length ∧ Reps g F xs ws
  | .dt ks xs, v => ∃ a ws, v = .ref a ∧ H a = some (.dT (ks.zip ws)) ∧ ks.length = xs.length ∧ Reps g F xs ws
  | p, v => Rep g F p v
theorem Rep.pr {g : Gx} {F H : Hp} (sub : Same F H) {p : PV} {v : V} (h : Rep g F p v) : PR g F H p v := by
  cases p with
  | lst xs => obtain ⟨a, vs, e, h1, h2⟩ := h; exact ⟨a, vs, e, sub _ _ h1, h2⟩
  | dk ks xs => obtain ⟨a, vs, e, h1, h2⟩ := h; exact ⟨a, vs, e, sub _ _ h1, h2⟩
  | dt ks xs => obtain ⟨a, vs, e, h1, h2⟩ := h; exact ⟨a, vs, e, sub _ _ h1, h2⟩
  | _ => exact h
theorem OwnR.pr {g : Gx} {F H : Hp} {p : PV} {a : Addr} (h : OwnR g F H p a) : PR g F H p (.ref a) := by
  cases p with
  | lst xs => obtain ⟨vs, e, h⟩ := h; exact ⟨a, vs, rfl, e, h⟩
  | dk ks xs => obtain ⟨vs, e, h⟩ := h; exact ⟨a, vs, rfl, e, h⟩
  | dt ks xs => obtain ⟨vs, e, h⟩ := h; exact ⟨a, vs, rfl, e, h⟩
  | _ => exact h.elim
/-- heap and fixed part grow; nothing that stood is fixed -/
structure New (F H F' H' : Hp) : Prop where
  sF : Same F F'
  sH : Same H H'
  sub : Same F' H'
  nf : ∀ a o, H a = some o → F a = none → F' a = none
theorem New.refl {F H : Hp} (sub : Same F H) : New F H F H := ⟨.refl _, .refl _, sub, fun _ _ _ h => h⟩
theorem New.trans {F H F1 H1 F2 H2 : Hp} (a : New F H F1 H1) (b : New F1 H1 F2 H2) : New F H F2 H2 :=
  ⟨a.sF.trans b.sF, a.sH.trans b.sH, b.sub, fun x o h1 h2 => b.nf x o (a.sH x o h1) (a.nf x o h1 h2)⟩
/-- a new object that stays changeable -/
theorem New.obj {F H : Hp} (sub : Same F H) {p : Addr} {o : HO} (n : H p = none) : New F H F (upd H p o) :=
  ⟨.refl _, same_upd n, sub.trans (same_upd n), fun _ _ _ h => h⟩
/-- a new object that is fixed at once -/
theorem New.fix {F H : Hp} (sub : Same F H) {p : Addr} {o : HO} (n : H p = none) : New F H (upd F p o) (upd H p o) := by
  have nF : F p = none := Same.free sub n
  refine ⟨same_upd nF, same_upd n, fun b x q => ?_, fun b x h1 h2 => ?_⟩
  · by_cases hb : b = p
    · subst hb; rw [upd_same] at q ⊢; exact q
    · rw [upd_ne hb] at q ⊢; exact sub b x q
  · rw [upd_ne (ne_of_none h1 n)]; exact h2
/-- the value of an operation -/
def NewV (g : Gx) (F H F' H' : Hp) (r : PV) (v : V) : Prop :=
  New F H F' H' ∧ match flOf r with
    | .own => ∃ a, v = .ref a ∧ H a = none ∧ F' a = none ∧ OwnR g F' H' r a
    | _ => Rep g F' r v
theorem NewV.flat {g : Gx} {F H : Hp} (sub : Same F H) {r : PV} {v : V} (hf : flOf r = .fz) (h : Rep g F r v) : NewV g F H F H r v := by
  refine ⟨.refl sub, ?_⟩
  rw [hf]; exact h
theorem NewV.lst {g : Gx} {F H : Hp} (sub : Same F H) {p : Addr} {xs : List PV} {vs : List V} (n : H p = none) (h : Reps g F xs vs) : NewV g F H F (upd H p (.lst vs)) (.lst xs) (.ref p) :=
  ⟨.obj sub n, p, rfl, n, Same.free sub n, vs, upd_same, h⟩
theorem NewV.tup {g : Gx} {F H : Hp} (sub : Same F H) {p : Addr} {xs : List PV} {vs : List V} (n : H p = none) (h : Reps g F xs vs) : NewV g F H (upd F p (.tup vs)) (upd H p (.tup vs)) (.tup xs) (.ref p) :=
  ⟨.fix sub n, p, vs, rfl, upd_same, Reps.mono (same_upd (Same.free sub n)) _ h⟩

theorem NewV.dk {g : Gx} {F H : Hp} (sub : Same F H) {p : Addr} {ks : List Key} {xs : List PV} {ws : List V} (n : H p = none) (hl : ks.length = xs.length) (h : Reps g F xs ws) : NewV g F H F (upd H p (.dK (ks.zip ws))) (.dk ks xs) (.ref p) :=
  ⟨.obj sub n, p, rfl, n, Same.free sub n, ws, upd_same, hl, h⟩
theorem NewV.dt {g : Gx} {F H : Hp} (sub : Same F H) {p : Addr} {ks : List (List Key)} {xs : List PV} {ws : List V} (n : H p = none) (hl : ks.length = xs.length) (h : Reps g F xs ws) : NewV g F H F (upd H p (.dT (ks.zip ws))) (.dt ks xs) (.ref p) :=
  ⟨.obj sub n, p, rfl, n, Same.free sub n, ws, upd_same, hl, h⟩
/-! ### tables -/
theorem putK_zip {κ : Type} [DecidableEq κ] {ks : List κ} {ws : List V} (hl : ks.length = ws.length) (k : κ) (w : V) : putK (ks.zip ws) k w = (dPutK ks k).zip (dPutX ks ws k w) := by
  have h1 : ∀ (ks : List κ) (ws : List V), ks.length = ws.length → ((ks.zip ws).any fun kv => decide (kv.1 = k)) = ks.any fun j => decide (j = k) := by
    intro ks
    induction ks with
    | nil => intro ws h; rfl
    | cons a ks ih =>
      intro ws h
      cases ws with
      | nil => cases h
      | cons b ws =>
        rw [List.zip_cons_cons, List.any_cons, List.any_cons, ih ws (by simpa using h)]
  have h2 : ∀ (ks : List κ) (ws : List V), ks.length = ws.length → ((ks.zip ws).map fun kv => if kv.1 = k then (kv.1, w) else kv) = ks.zip (dSet ks ws k w) := by
    intro ks
    induction ks with
    | nil => intro ws h; rfl
    | cons a ks ih =>
      intro ws h
      cases ws with
      | nil => cases h
      | cons b ws =>
        have e := ih ws (by simpa using h)
        unfold dSet at e ⊢
        rw [List.zip_cons_cons, List.map_cons, List.map_cons, List.zip_cons_cons, e]
        congr 1
        by_cases q : a = k
        · simp [q]
        · simp [q]
  unfold putK dPutK dPutX
  rw [h1 ks ws hl]
  split
  · exact h2 ks ws hl
  · rw [List.zip_append hl]; rfl
theorem dPut_len {κ α : Type} [DecidableEq κ] {ks : List κ} {xs : List α} (hl : ks.length = xs.length) (k : κ) (v : α) : (dPutK ks k).length = (dPutX ks xs k v).length := by
  unfold dPutK dPutX dSet
  split
  · rw [List.length_map, List.length_zip]; omega
  · rw [List.length_append, List.length_append, hl]; rfl
theorem dGet_reps {κ : Type} [DecidableEq κ] {g : Gx} {F : Hp} (k : κ) : ∀ {ks : List κ} {xs : List PV} {ws : List V}, Reps g F xs ws → match dGet ks xs k with
    | some p => ∃ w, dGet ks ws k = some w ∧ Rep g F p w
    | none => dGet ks ws k = none
  | [], _, _, _ => rfl
  | a :: ks, [], _, h => by cases h; rfl
  | a :: ks, x :: xs, _, h => by
    obtain ⟨w, r, rfl, h1, h2⟩ := h
    have ih := dGet_reps k (ks := ks) h2
    unfold dGet at ih ⊢
    rw [List.zip_cons_cons, List.zip_cons_cons, List.find?_cons, List.find?_cons]
    by_cases q : a = k
    · rw [decide_eq_true q]
      exact ⟨w, rfl, h1⟩
    · rw [decide_eq_false q]
      exact ih
theorem dPut_reps {κ : Type} [DecidableEq κ] {g : Gx} {F : Hp} {ks : List κ} {xs : List PV} {ws : List V} (h : Reps g F xs ws) (k : κ) {p : PV} {w : V} (r : Rep g F p w) : Reps g F (dPutX ks xs k p) (dPutX ks ws k w) := by
  have h1 : ∀ (ks : List κ) (xs : List PV) (ws : List V), Reps g F xs ws → Reps g F (dSet ks xs k p) (dSet ks ws k w) := by
    intro ks
    induction ks with
    | nil => intro xs ws h; exact rfl
    | cons a ks ih =>
      intro xs ws h
      cases xs with
      | nil => cases h; exact rfl
      | cons x xs =>
        obtain ⟨v, vr, rfl, h1, h2⟩ := h
        have e := ih xs vr h2
        unfold dSet at e ⊢
        rw [List.zip_cons_cons, List.zip_cons_cons, List.map_cons, List.map_cons]
        refine Reps.cons ?_ e
        by_cases q : a = k
        · simp only [q, if_true]; exact r
        · simp only [q, if_false]; exact h1
  unfold dPutX
  split
  · exact h1 ks xs ws h
  · exact h.snoc r
theorem keyOf_rep {g : Gx} {F H : Hp} {p : PV} {k : Key} {v : V} (h : keyOf p = some k) (r : PR g F H p v) : v = kV k := by
  cases p with
  | int i => cases h; cases r; rfl
  | str x => cases h; cases r; rfl
  | _ => cases h
theorem keysOf_reps {g : Gx} {F : Hp} : ∀ {xs : List PV} {ks : List Key} {vs : List V}, keysOf xs = some ks → Reps g F xs vs → vs = ks.map kV
  | [], ks, vs, h, r => by cases h; cases r; rfl
  | x :: xs, ks, vs, h, r => by
    obtain ⟨k, e1, e2⟩ := Option.bind_eq_some_iff.mp (show (keyOf x).bind (fun k => (keysOf xs).map (k :: ·)) = some ks from h)
    obtain ⟨ks', e3, rfl⟩ := Option.map_eq_some_iff.mp e2
    obtain ⟨v, vr, rfl, r1, r2⟩ := r
    have e4 : v = kV k := by
      cases x with
      | int i => cases e1; cases r1; rfl
      | str z => cases e1; cases r1; rfl
      | _ => cases e1
    rw [e4, keysOf_reps e3 r2]
    rfl
theorem tkeyOf_rep {g : Gx} {F H : Hp} {p : PV} {k : List Key} {v : V} (h : tkeyOf p = some k) (r : PR g F H p v) : ∃ b, v = .ref b ∧ F b = some (.tup (k.map kV)) := by
  cases p with
  | tup xs =>
    obtain ⟨b, vs, rfl, r1, r2⟩ := r
    exact ⟨b, rfl, by rw [r1, keysOf_reps h r2]⟩
  | _ => cases h
abbrev gx (X : Cx) : Gx := ⟨X.K, X.mg⟩
def rP1 (g : Gx) (f : PV → Option PV) : V → Hp → VK → Prop := fun x H Q => ∃ F p r, Same F H ∧ PR g F H p x ∧ f p = some r ∧ ∀ v F' H', NewV g F H F' H' r v → Q v H'
def rP2 (g : Gx) (f : PV → PV → Option PV) : R2 := fun x y H Q => ∃ F p q r, Same F H ∧ PR g F H p x ∧ PR g F H q y ∧ f p q = some r ∧ ∀ v F' H', NewV g F H F' H' r v → Q v H'
/-- a comparison: nothing new -/
def rB2 (g : Gx) (f : PV → PV → Option Bool) : R2 := fun x y H Q => ∃ F p q b, Same F H ∧ PR g F H p x ∧ PR g F H q y ∧ f p q = some b ∧ Q (.bl b) H
def PRs (g : Gx) (F H : Hp) : List PV → List V → Prop
  | [], vs => vs = []
  | p :: ps, vs => ∃ v r, vs = v :: r ∧ PR g F H p v ∧ PRs g F H ps r
def rPs (g : Gx) (f : List PV → Option PV) : List V → Hp → VK → Prop := fun xs H Q => ∃ F ps r, Same F H ∧ PRs g F H ps xs ∧ f ps = some r ∧ ∀ v F' H', NewV g F H F' H' r v → Q v H'

section
variable {X : Cx}

theorem cutP_reps {g : Gx} {F : Hp} {xs : List PV} {vs : List V} (h : Reps g F xs vs) (lo hi : Option Int) : Reps g F (cutP xs lo hi) (cutV vs lo hi) := by
  have hl := h.length
  unfold cutP cutV
  rw [hl]
  exact (h.drop _).take _
theorem smallI_ok {i : Int} (h : smallI i = true) : -(2 ^ 64) < i ∧ i < 2 ^ 64 := by
  unfold smallI at h
  simp only [Bool.and_eq_true, decide_eq_true_eq] at h
  exact h
theorem powOk_ok {i j : Int} (h : powOk i j = true) : CPow i j := by
  unfold powOk at h
  simp only [Bool.and_eq_true, decide_eq_true_eq] at h
  exact ⟨h.1.1, h.1.2, h.2⟩
theorem reps_rep {g : Gx} {F : Hp} {ps : List PV} {vs : List V} (h : Reps g F ps vs) : ∀ n : Nat, Reps g F (List.replicate n ps).flatten (List.replicate n vs).flatten
  | 0 => rfl
  | n + 1 => by
    rw [List.replicate_succ, List.replicate_succ, List.flatten_cons, List.flatten_cons]
    exact h.append (reps_rep h n)
theorem op_bin (op : Operator) : OpR X (binaryOp op) (rP2 (gx X) (binP op)) := by
  intro pins s σ H x y v u Q I rx ry h
  obtain ⟨F, p, q, r, sub, hp, hq, e, k⟩ := h
  have fl : ∀ {r : PV} {v : V}, flOf r = .fz → Rep (gx X) F r v → NewV (gx X) F H F H r v := fun h1 h2 => NewV.flat sub h1 h2
  unfold binP at e
  split at e
  · cases e; cases hp; cases hq
    exact op_add pins s σ H _ _ v u Q I rx ry ⟨_, _, rfl, rfl, k _ F H (fl rfl rfl)⟩
  · split at e
    · rename_i hz
      cases e; cases hp; cases hq
      exact op_add_str pins s σ H _ _ v u Q I rx ry ⟨_, _, rfl, rfl, hz, k _ F H (fl rfl rfl)⟩
    · cases e
  · split at e
    · rename_i hz
      cases e
      obtain ⟨a, vs, rfl, h1, h2⟩ := hp
      obtain ⟨b, ws, rfl, h3, h4⟩ := hq
      have l1 := h2.length
      have l2 := h4.length
      exact op_cat pins s σ H _ _ v u Q I rx ry ⟨a, b, vs, ws, rfl, rfl, h1, h3, by omega, fun p n => k _ _ _ (NewV.lst sub n (h2.append h4))⟩
    · cases e
  · split at e
    · rename_i xs ys hz
      cases e
      obtain ⟨a, vs, rfl, h1, h2⟩ := hp
      obtain ⟨b, ws, rfl, h3, h4⟩ := hq
      have l1 := h2.length
      have l2 := h4.length
      refine op_catA pins s σ H _ _ v u Q I rx ry ⟨a, b, vs, ws, rfl, rfl, Same.tseq sub h1, Same.tseq sub h3, by omega, fun e1 => ?_, fun e1 e2 => ?_, fun e1 e2 p n => ?_⟩
      · subst e1
        have e3 : xs = [] := List.eq_nil_of_length_eq_zero l1.symm
        subst e3
        exact k _ F H (fl rfl ⟨b, ws, rfl, h3, h4⟩)
      · subst e2
        have e3 : ys = [] := List.eq_nil_of_length_eq_zero l2.symm
        subst e3
        refine k _ F H (fl rfl ⟨a, vs, rfl, h1, ?_⟩)
        rw [List.append_nil]; exact h2
      · exact k _ _ _ (NewV.tup sub n (h2.append h4))
    · cases e
  · cases e; cases hp; cases hq
    exact op_sub pins s σ H _ _ v u Q I rx ry ⟨_, _, rfl, rfl, k _ F H (fl rfl rfl)⟩
  · split at e
    · rename_i i j hz
      cases e; cases hp; cases hq
      have hc : CMul i j := by
        rcases Bool.or_eq_true_iff.mp hz with h1 | h1
        · exact .inl (smallI_ok h1)
        · exact .inr (smallI_ok h1)
      exact op_mul pins s σ H _ _ v u Q I rx ry ⟨_, _, rfl, rfl, hc, k _ F H (fl rfl rfl)⟩
    · split at e
      · rename_i hz
        cases e; cases hp; cases hq
        exact op_mulW pins s σ H _ _ v u Q I rx ry ⟨_, _, rfl, rfl, hz, k _ F H (fl rfl rfl)⟩
      · cases e
  · split at e
    · rename_i xs j hz
      cases e; cases hq
      obtain ⟨a, vs, rfl, h1, h2⟩ := hp
      obtain ⟨z1, z2, z3⟩ := hz
      have l1 := h2.length
      refine op_rep pins s σ H _ _ v u Q I rx ry ⟨a, j, vs, rfl, rfl, h1, z1, z2, by rw [l1]; exact z3, fun p n => k _ _ _ (NewV.lst sub n (reps_rep h2 j.toNat))⟩
    · cases e
  · split at e
    · rename_i xs j hz
      cases e; cases hq
      obtain ⟨a, vs, rfl, h1, h2⟩ := hp
      obtain ⟨z0, z1, z2, z3⟩ := hz
      have l1 := h2.length
      have nn : vs ≠ [] := by
        rintro rfl
        have : xs = [] := List.eq_nil_of_length_eq_zero l1.symm
        subst this
        cases z0
      refine op_repT pins s σ H _ _ v u Q I rx ry ⟨a, j, vs, rfl, rfl, Same.tseq sub h1, nn, z1, z2, by omega, fun p n => k _ _ _ (NewV.tup sub n (reps_rep h2 j.toNat))⟩
    · cases e
  · split at e
    · rename_i hz
      cases e; cases hp; cases hq
      exact op_fdiv pins s σ H _ _ v u Q I rx ry ⟨_, _, rfl, rfl, hz, k _ F H (fl rfl rfl)⟩
    · split at e
      · rename_i hz
        cases e; cases hp; cases hq
        exact op_fdivW pins s σ H _ _ v u Q I rx ry ⟨_, _, rfl, rfl, hz, k _ F H (fl rfl rfl)⟩
      · cases e
  · split at e
    · rename_i hz
      cases e; cases hp; cases hq
      exact op_mod pins s σ H _ _ v u Q I rx ry ⟨_, _, rfl, rfl, hz, k _ F H (fl rfl rfl)⟩
    · cases e
  · split at e
    · rename_i hz
      cases e; cases hp; cases hq
      exact op_pow pins s σ H _ _ v u Q I rx ry ⟨_, _, rfl, rfl, powOk_ok hz, k _ F H (fl rfl rfl)⟩
    · cases e
  · split at e
    · rename_i hz
      cases e; cases hp; cases hq
      exact op_shl pins s σ H _ _ v u Q I rx ry ⟨_, _, rfl, rfl, powOk_ok hz, k _ F H (fl rfl rfl)⟩
    · cases e
  · split at e
    · rename_i hz
      cases e; cases hp; cases hq
      exact op_shr pins s σ H _ _ v u Q I rx ry ⟨_, _, rfl, rfl, hz, k _ F H (fl rfl rfl)⟩
    · cases e
  · cases e
theorem op_un (op : UnaryOp) : UnR X (unaryOp op) (rP1 (gx X) (unP op)) := by
  intro pins s σ H x v Q I rx h
  obtain ⟨F, p, r, sub, hp, e, k⟩ := h
  unfold unP at e
  split at e
  · cases e; cases hp
    exact un_neg pins s σ H _ v Q I rx ⟨_, rfl, k _ F H (NewV.flat sub rfl rfl)⟩
  · cases e
end
end Bd

namespace Bd
open PySem L2

/-! ### pure values in a heap -/
mutual
def HR (h : Heap) : PV → Value → Prop
  | .non, u => u = .none
  | .bl b, u => u = .bool b
  | .int i, u => ∃ t, u = .int i t
  | .str x, u => ∃ t, u = .str x t
  | .tup xs, u => ∃ a its, u = .ref a ∧ h.IsTuple a its.toArray ∧ HRs h xs its
  | .lst xs, u => ∃ a its, u = .ref a ∧ h.IsList a its.toArray ∧ HRs h xs its
  | _, _ => False
def HRs (h : Heap) : List PV → List Value → Prop
  | [], us => us = []
  | x :: xs, us => ∃ u r, us = u :: r ∧ HR h x u ∧ HRs h xs r
end
section
variable {X : Cx} {pins : List (Addr × Obj)} {σ : L2.St} {H F : Hp} {s : Shared}
mutual
theorem Rep.hr (I : Inv X pins σ H s) (sub : Same F H) : ∀ (p : PV) {v : V} {u : Value}, plainP p = true → Rep (gx X) F p v → RelV v u → HR s.heap p u
  | .non, _, _, _, h, r => by cases h; exact r
  | .bl _, _, _, _, h, r => by cases h; exact r
  | .int _, _, _, _, h, r => by cases h; exact r
  | .str _, _, _, _, h, r => by cases h; exact r
  | .fn _, _, _, hp, _, _ => by cases hp
  | .ty _, _, _, hp, _, _ => by cases hp
  | .scr _, _, _, hp, _, _ => by cases hp
  | .exv _ _ _, _, _, hp, _, _ => by cases hp
  | .ktp _, _, _, hp, _, _ => by cases hp
  | .dk _ _, _, _, hp, _, _ => by cases hp
  | .dt _ _, _, _, hp, _, _ => by cases hp
  | .tup xs, _, _, hp, h, r => by
    obtain ⟨a, vs, rfl, h1, h2⟩ := h
    cases r
    obtain ⟨its, rv, ht, _⟩ := I.tuple (Same.tseq sub h1)
    exact ⟨a, its, rfl, ht, Reps.hr I sub xs hp h2 rv⟩
  | .lst xs, _, _, hp, h, r => by
    obtain ⟨a, vs, rfl, h1, h2⟩ := h
    cases r
    obtain ⟨its, rv, ht, _⟩ := I.list (.inl (.inl (sub _ _ h1)))
    exact ⟨a, its, rfl, ht.isList, Reps.hr I sub xs hp h2 rv⟩
theorem Reps.hr (I : Inv X pins σ H s) (sub : Same F H) : ∀ (ps : List PV) {vs : List V} {us : List Value}, plainPs ps = true → Reps (gx X) F ps vs → Vals vs us → HRs s.heap ps us
  | [], _, _, _, h, r => by cases h; cases r; rfl
  | x :: xs, _, _, hp, h, r => by
    obtain ⟨v, vr, rfl, h1, h2⟩ := h
    have hp' : (plainP x && plainPs xs) = true := hp
    obtain ⟨p1, p2⟩ := Bool.and_eq_true_iff.mp hp'
    cases r with
    | cons r1 r2 => exact ⟨_, _, rfl, Rep.hr I sub x p1 h1 r1, Reps.hr I sub xs p2 h2 r2⟩
end
theorem PR.hr (I : Inv X pins σ H s) (sub : Same F H) {p : PV} {v : V} {u : Value} (hp : plainP p = true) (h : PR (gx X) F H p v) (r : RelV v u) : HR s.heap p u := by
  cases p with
  | lst xs =>
    obtain ⟨a, vs, rfl, h1, h2⟩ := h
    cases r
    obtain ⟨its, rv, ht, _⟩ := I.list (.inl (.inl h1))
    exact ⟨a, its, rfl, ht.isList, Reps.hr I sub xs hp h2 rv⟩
  | dk ks xs => cases hp
  | dt ks xs => cases hp
  | _ => exact Rep.hr I sub _ hp h r
end
theorem HRs.length {h : Heap} : ∀ {ps : List PV} {us : List Value}, HRs h ps us → us.length = ps.length
  | [], _, e => by cases e; rfl
  | x :: xs, _, e => by
    obtain ⟨u, r, rfl, _, e2⟩ := e
    simp [HRs.length e2]
theorem HRs.get {h : Heap} : ∀ {ps : List PV} {us : List Value} (j : Nat) (h1 : j < us.length) (h2 : j < ps.length), HRs h ps us → HR h ps[j] us[j]
  | [], _, _, _, h2, _ => by simp at h2
  | x :: xs, _, 0, _, _, e => by obtain ⟨u, r, rfl, e1, _⟩ := e; exact e1
  | x :: xs, _, j + 1, h1, h2, e => by
    obtain ⟨u, r, rfl, _, e2⟩ := e
    exact HRs.get (ps := xs) (us := r) j (by simpa using h1) (by simpa using h2) e2
theorem isList_inj {h : Heap} {a : Addr} {x y : List Value} (h1 : h.IsList a x.toArray) (h2 : h.IsList a y.toArray) : x = y := by
  obtain ⟨o, e, _, n, d⟩ := h1
  obtain ⟨o', e', _, n', d'⟩ := h2
  rw [e] at e'; cases e'
  rw [d] at d'
  injection d' with d1 _
  simpa using congrArg Array.toList d1
theorem isTuple_inj {h : Heap} {a : Addr} {x y : List Value} (h1 : h.IsTuple a x.toArray) (h2 : h.IsTuple a y.toArray) : x = y := by
  obtain ⟨o, e, _, n, d⟩ := h1
  obtain ⟨o', e', _, n', d'⟩ := h2
  rw [e] at e'; cases e'
  rw [d] at d'
  injection d' with d1 _
  simpa using congrArg Array.toList d1
mutual
theorem HR.inj {h : Heap} : ∀ (p q : PV) {u : Value}, HR h p u → HR h q u → p = q
  | .non, q, _, e, e' => by cases e; cases q <;> first | rfl | (obtain ⟨_, _, z, _⟩ := e'; cases z) | (obtain ⟨_, z⟩ := e'; cases z) | cases e'
  | .bl _, q, _, e, e' => by cases e; cases q <;> first | (obtain ⟨_, _, z, _⟩ := e'; cases z) | (obtain ⟨_, z⟩ := e'; cases z) | (cases e'; rfl) | cases e'
  | .int _, q, _, e, e' => by obtain ⟨t, rfl⟩ := e; cases q <;> first | (obtain ⟨_, _, z, _⟩ := e'; cases z) | (obtain ⟨_, z⟩ := e'; cases z; rfl) | (obtain ⟨_, z⟩ := e'; cases z) | cases e'
  | .str _, q, _, e, e' => by obtain ⟨t, rfl⟩ := e; cases q <;> first | (obtain ⟨_, _, z, _⟩ := e'; cases z) | (obtain ⟨_, z⟩ := e'; cases z; rfl) | (obtain ⟨_, z⟩ := e'; cases z) | cases e'
  | .fn _, _, _, e, _ => e.elim
  | .ty _, _, _, e, _ => e.elim
  | .scr _, _, _, e, _ => e.elim
  | .exv _ _ _, _, _, e, _ => e.elim
  | .tup xs, q, _, e, e' => by
    obtain ⟨a, its, rfl, h1, h2⟩ := e
    cases q with
    | tup ys =>
      obtain ⟨a', its', z, h3, h4⟩ := e'
      cases z
      have := isTuple_inj h1 h3
      subst this
      rw [HRs.inj xs ys h2 h4]
    | lst ys =>
      obtain ⟨a', its', z, ⟨o', e2, c2, _⟩, h4⟩ := e'
      cases z
      obtain ⟨o, e1, c1, _⟩ := h1
      rw [e1] at e2; cases e2
      rw [c1] at c2; injection c2 with c3; exact absurd c3 (by decide)
    | non => cases e'
    | bl _ => cases e'
    | int _ => obtain ⟨_, z⟩ := e'; cases z
    | str _ => obtain ⟨_, z⟩ := e'; cases z
    | _ => exact e'.elim
  | .lst xs, q, _, e, e' => by
    obtain ⟨a, its, rfl, h1, h2⟩ := e
    cases q with
    | lst ys =>
      obtain ⟨a', its', z, h3, h4⟩ := e'
      cases z
      have := isList_inj h1 h3
      subst this
      rw [HRs.inj xs ys h2 h4]
    | tup ys =>
      obtain ⟨a', its', z, ⟨o', e2, c2, _⟩, h4⟩ := e'
      cases z
      obtain ⟨o, e1, c1, _⟩ := h1
      rw [e1] at e2; cases e2
      rw [c1] at c2; injection c2 with c3; exact absurd c3 (by decide)
    | non => cases e'
    | bl _ => cases e'
    | int _ => obtain ⟨_, z⟩ := e'; cases z
    | str _ => obtain ⟨_, z⟩ := e'; cases z
    | _ => exact e'.elim
theorem HRs.inj {h : Heap} : ∀ (ps qs : List PV) {us : List Value}, HRs h ps us → HRs h qs us → ps = qs
  | [], [], _, _, _ => rfl
  | [], y :: ys, _, e, e' => by cases e; obtain ⟨_, _, z, _⟩ := e'; cases z
  | x :: xs, [], _, e, e' => by cases e'; obtain ⟨_, _, z, _⟩ := e; cases z
  | x :: xs, y :: ys, _, e, e' => by
    obtain ⟨u, r, rfl, h1, h2⟩ := e
    obtain ⟨u', r', z, h3, h4⟩ := e'
    cases z
    rw [HR.inj x y h1 h3, HRs.inj xs ys h2 h4]
end
mutual
theorem eqP_refl : ∀ p : PV, plainP p = true → eqP p p = true
  | .non, _ => rfl
  | .bl b, _ => by simp [eqP]
  | .int _, _ => by simp [eqP]
  | .str _, _ => by simp [eqP]
  | .fn _, h => by cases h
  | .ty _, h => by cases h
  | .scr _, h => by cases h
  | .exv _ _ _, h => by cases h
  | .tup xs, h => eqPs_refl xs h
  | .lst xs, h => eqPs_refl xs h
theorem eqPs_refl : ∀ ps : List PV, plainPs ps = true → eqPs ps ps = true
  | [], _ => rfl
  | x :: xs, h => by
    obtain ⟨h1, h2⟩ := Bool.and_eq_true_iff.mp (show (plainP x && plainPs xs) = true from h)
    show (eqP x x && eqPs xs xs) = true
    rw [eqP_refl x h1, eqPs_refl xs h2]; rfl
end
/-- place by place -/
def eqAtJ (xs ys : List PV) (j : Nat) : Bool := match xs[j]?, ys[j]? with
  | some x, some y => eqP x y
  | _, _ => false
theorem eqPs_all : ∀ xs ys : List PV, ((List.range (min xs.length ys.length)).all (eqAtJ xs ys) && xs.length == ys.length) = eqPs xs ys
  | [], [] => rfl
  | [], _ :: _ => by simp [eqPs]
  | _ :: _, [] => by simp [eqPs]
  | x :: xs, y :: ys => by
    have ih := eqPs_all xs ys
    have e : (List.range (min (x :: xs).length (y :: ys).length)).all (eqAtJ (x :: xs) (y :: ys)) = (eqP x y && (List.range (min xs.length ys.length)).all (eqAtJ xs ys)) := by
      have hm : min (x :: xs).length (y :: ys).length = min xs.length ys.length + 1 := by simp only [List.length_cons]; omega
      rw [hm, List.range_succ_eq_map, List.all_cons, List.all_map]
      rfl
    rw [e]
    have e2 : ((x :: xs).length == (y :: ys).length) = (xs.length == ys.length) := by simp [List.length_cons]
    rw [e2, Bool.and_assoc, ih]
    rfl
theorem plain_get : ∀ {ps : List PV} (j : Nat) (h : j < ps.length), plainPs ps = true → plainP ps[j] = true
  | [], _, h, _ => by simp at h
  | x :: xs, 0, _, hp => (Bool.and_eq_true_iff.mp (show (plainP x && plainPs xs) = true from hp)).1
  | x :: xs, j + 1, h, hp => plain_get (ps := xs) j (by simpa using h) (Bool.and_eq_true_iff.mp (show (plainP x && plainPs xs) = true from hp)).2
theorem dep_get : ∀ {ps : List PV} (j : Nat) (h : j < ps.length), depP ps[j] ≤ depPs ps
  | [], _, h => by simp at h
  | x :: xs, 0, _ => Nat.le_max_left _ _
  | x :: xs, j + 1, h => Nat.le_trans (dep_get (ps := xs) j (by simpa using h)) (Nat.le_max_right _ _)
section
open SeqAt
variable {s : Shared}
theorem in1_units (A : Around) : A.in1.units = A.units + 1 := rfl
/-- two pure values are compared -/
theorem rcAt_pv : ∀ (n : Nat) (p q : PV) (A : Around) {u w : Value}, min (depP p) (depP q) ≤ n → HR s.heap p u → HR s.heap q w → plainP p = true → plainP q = true → A.units + min (depP p) (depP q) < cLine → RcAt A s u w (eqP p q) ∧ EqAt A s u w (eqP p q) := by
  intro n
  induction n with
  | zero =>
    intro p q A u w hn hp hq pp pq hu
    have hu0 : A.units < cLine := by omega
    cases p with
    | non =>
      cases hp
      cases q with
      | non => cases hq; exact ⟨RcAt.none_none, EqAt.same _⟩
      | bl b => cases hq; exact ⟨RcAt.none_bool _, EqAt.none_bool _⟩
      | int b => obtain ⟨t, rfl⟩ := hq; exact ⟨RcAt.none_int _ _, EqAt.none_int _ _⟩
      | str b => obtain ⟨t, rfl⟩ := hq; exact ⟨RcAt.none_str _ _, EqAt.none_str _ _⟩
      | tup xs => obtain ⟨a, its, rfl, h1, h2⟩ := hq; exact ⟨RcAt.none_tuple h1 hu0, EqAt.none_tuple h1 hu0⟩
      | lst xs => obtain ⟨a, its, rfl, h1, h2⟩ := hq; exact ⟨RcAt.none_list h1 hu0, EqAt.none_list h1 hu0⟩
      | _ => exact hq.elim
    | bl c =>
      cases hp
      cases q with
      | non => cases hq; exact ⟨RcAt.bool_none _, EqAt.bool_none _⟩
      | bl b => cases hq; exact ⟨RcAt.bool_bool _ _, EqAt.bool_bool _ _⟩
      | int b => obtain ⟨t, rfl⟩ := hq; exact ⟨RcAt.bool_int _ _ _, EqAt.bool_int _ _ _⟩
      | str b => obtain ⟨t, rfl⟩ := hq; exact ⟨RcAt.bool_str _ _ _, EqAt.bool_str _ _ _⟩
      | tup xs => obtain ⟨a, its, rfl, h1, h2⟩ := hq; exact ⟨RcAt.bool_tuple _ h1 hu0, EqAt.bool_tuple _ h1 hu0⟩
      | lst xs => obtain ⟨a, its, rfl, h1, h2⟩ := hq; exact ⟨RcAt.bool_list _ h1 hu0, EqAt.bool_list _ h1 hu0⟩
      | _ => exact hq.elim
    | int c =>
      obtain ⟨t', rfl⟩ := hp
      cases q with
      | non => cases hq; exact ⟨RcAt.int_none _ _, EqAt.int_none _ _⟩
      | bl b => cases hq; exact ⟨RcAt.int_bool _ _ _, EqAt.int_bool _ _ _⟩
      | int b => obtain ⟨t, rfl⟩ := hq; exact ⟨RcAt.int_int _ _ _ _, EqAt.int_int _ _ _ _⟩
      | str b => obtain ⟨t, rfl⟩ := hq; exact ⟨RcAt.int_str _ _ _ _, EqAt.int_str _ _ _ _⟩
      | tup xs => obtain ⟨a, its, rfl, h1, h2⟩ := hq; exact ⟨RcAt.int_tuple _ _ h1 hu0, EqAt.int_tuple _ _ h1 hu0⟩
      | lst xs => obtain ⟨a, its, rfl, h1, h2⟩ := hq; exact ⟨RcAt.int_list _ _ h1 hu0, EqAt.int_list _ _ h1 hu0⟩
      | _ => exact hq.elim
    | str c =>
      obtain ⟨t', rfl⟩ := hp
      cases q with
      | non => cases hq; exact ⟨RcAt.str_none _ _, EqAt.str_none _ _⟩
      | bl b => cases hq; exact ⟨RcAt.str_bool _ _ _, EqAt.str_bool _ _ _⟩
      | int b => obtain ⟨t, rfl⟩ := hq; exact ⟨RcAt.str_int _ _ _ _, EqAt.str_int _ _ _ _⟩
      | str b => obtain ⟨t, rfl⟩ := hq; exact ⟨RcAt.str_str _ _ _ _, EqAt.str_str _ _ _ _⟩
      | tup xs => obtain ⟨a, its, rfl, h1, h2⟩ := hq; exact ⟨RcAt.str_tuple _ _ h1 hu0, EqAt.str_tuple _ _ h1 hu0⟩
      | lst xs => obtain ⟨a, its, rfl, h1, h2⟩ := hq; exact ⟨RcAt.str_list _ _ h1 hu0, EqAt.str_list _ _ h1 hu0⟩
      | _ => exact hq.elim
    | tup xs =>
      obtain ⟨a, its, rfl, h1, h2⟩ := hp
      cases q with
      | non => cases hq; exact ⟨RcAt.tuple_none h1 hu0, EqAt.tuple_none h1 hu0⟩
      | bl b => cases hq; exact ⟨RcAt.tuple_bool _ h1 hu0, EqAt.tuple_bool _ h1 hu0⟩
      | int b => obtain ⟨t, rfl⟩ := hq; exact ⟨RcAt.tuple_int _ _ h1 hu0, EqAt.tuple_int _ _ h1 hu0⟩
      | str b => obtain ⟨t, rfl⟩ := hq; exact ⟨RcAt.tuple_str _ _ h1 hu0, EqAt.tuple_str _ _ h1 hu0⟩
      | tup ys => exact absurd hn (by show ¬ min (depPs xs + 1) (depPs ys + 1) ≤ 0; omega)
      | lst ys => exact absurd hn (by show ¬ min (depPs xs + 1) (depPs ys + 1) ≤ 0; omega)
      | _ => exact hq.elim
    | lst xs =>
      obtain ⟨a, its, rfl, h1, h2⟩ := hp
      cases q with
      | non => cases hq; exact ⟨RcAt.list_none h1 hu0, EqAt.list_none h1 hu0⟩
      | bl b => cases hq; exact ⟨RcAt.list_bool _ h1 hu0, EqAt.list_bool _ h1 hu0⟩
      | int b => obtain ⟨t, rfl⟩ := hq; exact ⟨RcAt.list_int _ _ h1 hu0, EqAt.list_int _ _ h1 hu0⟩
      | str b => obtain ⟨t, rfl⟩ := hq; exact ⟨RcAt.list_str _ _ h1 hu0, EqAt.list_str _ _ h1 hu0⟩
      | tup ys => exact absurd hn (by show ¬ min (depPs xs + 1) (depPs ys + 1) ≤ 0; omega)
      | lst ys => exact absurd hn (by show ¬ min (depPs xs + 1) (depPs ys + 1) ≤ 0; omega)
      | _ => exact hq.elim
    | _ => exact hp.elim
  | succ n ih =>
    intro p q A u w hn hp hq pp pq hu
    by_cases h0 : min (depP p) (depP q) ≤ n
    · exact ih p q A h0 hp hq pp pq hu
    have hu0 : A.units < cLine := by omega
    have items : ∀ (xs ys : List PV) (its its2 : List Value), HRs s.heap xs its → HRs s.heap ys its2 → plainPs xs = true → plainPs ys = true → min (depPs xs) (depPs ys) ≤ n → A.units + 1 + min (depPs xs) (depPs ys) < cLine →
        ∀ j (h1 : j < its.toArray.size) (h2 : j < its2.toArray.size), EqAt A.in1 s its.toArray[j] its2.toArray[j] (eqAtJ xs ys j) := by
      intro xs ys its its2 g1 g2 px py hd hz j h1 h2
      have l1 := g1.length
      have l2 := g2.length
      have j1 : j < xs.length := by simp at h1; omega
      have j2 : j < ys.length := by simp at h2; omega
      have e : eqAtJ xs ys j = eqP xs[j] ys[j] := by unfold eqAtJ; rw [List.getElem?_eq_getElem j1, List.getElem?_eq_getElem j2]
      rw [e]
      have d1 := dep_get j j1
      have d2 := dep_get j j2
      exact (ih xs[j] ys[j] A.in1 (by omega) (g1.get j (by simpa using h1) j1) (g2.get j (by simpa using h2) j2) (plain_get j j1 px) (plain_get j j2 py) (by rw [in1_units]; omega)).2
    cases p with
    | tup xs =>
      obtain ⟨a, its, rfl, h1, h2⟩ := hp
      cases q with
      | tup ys =>
        obtain ⟨b, its2, rfl, h3, h4⟩ := hq
        have hd : min (depPs xs + 1) (depPs ys + 1) ≤ n + 1 := hn
        have hv : A.units + min (depPs xs + 1) (depPs ys + 1) < cLine := hu
        have l1 := h2.length
        have l2 := h4.length
        have rc : RcAt A s (.ref a) (.ref b) (eqPs xs ys) := by
          have := RcAt.tuples h1 h3 hu0 (items xs ys its its2 h2 h4 pp pq (by omega) (by omega))
          rw [← eqPs_all xs ys]
          simpa [l1, l2] using this
        refine ⟨rc, ?_⟩
        by_cases hab : a = b
        · subst hab
          have e1 : its = its2 := isTuple_inj h1 h3
          subst e1
          have e2 := HRs.inj xs ys h2 h4
          subst e2
          show EqAt A s _ _ (eqPs xs xs)
          rw [eqPs_refl xs pp]
          exact EqAt.same _
        · exact EqAt.of_refs hab rc
      | lst ys =>
        obtain ⟨b, its2, rfl, h3, h4⟩ := hq
        exact ⟨RcAt.tuple_list h1 h3 hu0, EqAt.tuple_list h1 h3 hu0⟩
      | _ => exact absurd (show min (depPs xs + 1) 0 ≤ n by omega) h0
    | lst xs =>
      obtain ⟨a, its, rfl, h1, h2⟩ := hp
      cases q with
      | lst ys =>
        obtain ⟨b, its2, rfl, h3, h4⟩ := hq
        have hd : min (depPs xs + 1) (depPs ys + 1) ≤ n + 1 := hn
        have hv : A.units + min (depPs xs + 1) (depPs ys + 1) < cLine := hu
        have l1 := h2.length
        have l2 := h4.length
        have rc : RcAt A s (.ref a) (.ref b) (eqPs xs ys) := by
          by_cases hl : xs.length = ys.length
          · have := RcAt.lists h1 h3 (by simp; omega) hu0 (items xs ys its its2 h2 h4 pp pq (by omega) (by omega))
            rw [← eqPs_all xs ys]
            simpa [l1, l2, hl] using this
          · have := RcAt.lists_lengths h1 h3 (by simp; omega) hu0
            rw [← eqPs_all xs ys]
            have e : (xs.length == ys.length) = false := by simpa using hl
            rw [e, Bool.and_false]; exact this
        refine ⟨rc, ?_⟩
        by_cases hab : a = b
        · subst hab
          have e1 : its = its2 := isList_inj h1 h3
          subst e1
          have e2 := HRs.inj xs ys h2 h4
          subst e2
          show EqAt A s _ _ (eqPs xs xs)
          rw [eqPs_refl xs pp]
          exact EqAt.same _
        · exact EqAt.of_refs hab rc
      | tup ys =>
        obtain ⟨b, its2, rfl, h3, h4⟩ := hq
        exact ⟨RcAt.list_tuple h1 h3 hu0, EqAt.list_tuple h1 h3 hu0⟩
      | _ => exact absurd (show min (depPs xs + 1) 0 ≤ n by omega) h0
    | _ => exact absurd (show min 0 _ ≤ n by omega) h0
end
end Bd

namespace Bd
open PySem L2
section
open SeqAt
variable {s : Shared}
theorem itemsEq {A : Around} {xs ys : List PV} {its its2 : List Value} (g1 : HRs s.heap xs its) (g2 : HRs s.heap ys its2) (px : plainPs xs = true) (py : plainPs ys = true) (hz : A.units + min (depPs xs + 1) (depPs ys + 1) < cLine) :
    ∀ j (h1 : j < its.toArray.size) (h2 : j < its2.toArray.size), EqAt A.in1 s its.toArray[j] its2.toArray[j] (eqAtJ xs ys j) := by
  intro j h1 h2
  have l1 := g1.length
  have l2 := g2.length
  have j1 : j < xs.length := by simp at h1; omega
  have j2 : j < ys.length := by simp at h2; omega
  have e : eqAtJ xs ys j = eqP xs[j] ys[j] := by unfold eqAtJ; rw [List.getElem?_eq_getElem j1, List.getElem?_eq_getElem j2]
  rw [e]
  have d1 := dep_get j j1
  have d2 := dep_get j j2
  exact (rcAt_pv _ xs[j] ys[j] A.in1 (Nat.le_refl _) (g1.get j (by simpa using h1) j1) (g2.get j (by simpa using h2) j2) (plain_get j j1 px) (plain_get j j2 py) (by rw [in1_units]; omega)).2
theorem same_tup {A : Around} {w : Value} (xs ys : List PV) (a : Addr) (its : List Value) (h1 : s.heap.IsTuple a its.toArray) (h2 : HRs s.heap xs its) (hq : HR s.heap (.tup ys) w) (pp : plainP (.tup xs) = true) (pq : plainP (.tup ys) = true)
    (hu : A.units + min (depP (.tup xs)) (depP (.tup ys)) < cLine) : RcNeAt A s (.ref a) w (!eqP (.tup xs) (.tup ys)) := by
  obtain ⟨b, its2, rfl, h3, h4⟩ := hq
  have l1 := h2.length
  have l2 := h4.length
  have := RcNeAt.tuples h1 h3 (show A.units < cLine by omega) (itemsEq (A := A) h2 h4 pp pq hu)
  show RcNeAt A s _ _ (!eqPs xs ys)
  rw [← eqPs_all xs ys]
  simpa [l1, l2] using this
theorem same_lst {A : Around} {w : Value} (xs ys : List PV) (a : Addr) (its : List Value) (h1 : s.heap.IsList a its.toArray) (h2 : HRs s.heap xs its) (hq : HR s.heap (.lst ys) w) (pp : plainP (.lst xs) = true) (pq : plainP (.lst ys) = true)
    (hu : A.units + min (depP (.lst xs)) (depP (.lst ys)) < cLine) : RcNeAt A s (.ref a) w (!eqP (.lst xs) (.lst ys)) := by
  obtain ⟨b, its2, rfl, h3, h4⟩ := hq
  have l1 := h2.length
  have l2 := h4.length
  show RcNeAt A s _ _ (!eqPs xs ys)
  rw [← eqPs_all xs ys]
  by_cases hl : xs.length = ys.length
  · have := RcNeAt.lists h1 h3 (by simp; omega) (show A.units < cLine by omega) (itemsEq (A := A) h2 h4 pp pq hu)
    simpa [l1, l2, hl] using this
  · have := RcNeAt.lists_lengths h1 h3 (by simp; omega) (show A.units < cLine by omega)
    have e : (xs.length == ys.length) = false := by simpa using hl
    rw [e, Bool.and_false]; exact this
theorem rcNe_pv (p q : PV) (A : Around) {u w : Value} (hp : HR s.heap p u) (hq : HR s.heap q w) (pp : plainP p = true) (pq : plainP q = true) (hu : A.units + min (depP p) (depP q) < cLine) : RcNeAt A s u w (!eqP p q) := by
  have hu0 : A.units < cLine := by omega
  cases p with
  | non =>
    cases hp
    cases q with
    | non => cases hq; exact RcNeAt.none_none 
    | bl d => cases hq; exact RcNeAt.none_bool _
    | int d => obtain ⟨t, rfl⟩ := hq; exact RcNeAt.none_int _ _
    | str d => obtain ⟨t, rfl⟩ := hq; exact RcNeAt.none_str _ _
    | tup ys => obtain ⟨b, its2, rfl, h3, h4⟩ := hq; exact RcNeAt.none_tuple  h3 hu0
    | lst ys => obtain ⟨b, its2, rfl, h3, h4⟩ := hq; exact RcNeAt.none_list  h3 hu0
    | _ => exact hq.elim
  | bl c =>
    cases hp
    cases q with
    | non => cases hq; exact RcNeAt.bool_none _
    | bl d => cases hq; exact RcNeAt.bool_bool _ _
    | int d => obtain ⟨t, rfl⟩ := hq; exact RcNeAt.bool_int _ _ _
    | str d => obtain ⟨t, rfl⟩ := hq; exact RcNeAt.bool_str _ _ _
    | tup ys => obtain ⟨b, its2, rfl, h3, h4⟩ := hq; exact RcNeAt.bool_tuple _ h3 hu0
    | lst ys => obtain ⟨b, its2, rfl, h3, h4⟩ := hq; exact RcNeAt.bool_list _ h3 hu0
    | _ => exact hq.elim
  | int c =>
    obtain ⟨t', rfl⟩ := hp
    cases q with
    | non => cases hq; exact RcNeAt.int_none _ _
    | bl d => cases hq; exact RcNeAt.int_bool _ _ _
    | int d => obtain ⟨t, rfl⟩ := hq; exact RcNeAt.int_int _ _ _ _
    | str d => obtain ⟨t, rfl⟩ := hq; exact RcNeAt.int_str _ _ _ _
    | tup ys => obtain ⟨b, its2, rfl, h3, h4⟩ := hq; exact RcNeAt.int_tuple _ _ h3 hu0
    | lst ys => obtain ⟨b, its2, rfl, h3, h4⟩ := hq; exact RcNeAt.int_list _ _ h3 hu0
    | _ => exact hq.elim
  | str c =>
    obtain ⟨t', rfl⟩ := hp
    cases q with
    | non => cases hq; exact RcNeAt.str_none _ _
    | bl d => cases hq; exact RcNeAt.str_bool _ _ _
    | int d => obtain ⟨t, rfl⟩ := hq; exact RcNeAt.str_int _ _ _ _
    | str d => obtain ⟨t, rfl⟩ := hq; exact RcNeAt.str_str _ _ _ _
    | tup ys => obtain ⟨b, its2, rfl, h3, h4⟩ := hq; exact RcNeAt.str_tuple _ _ h3 hu0
    | lst ys => obtain ⟨b, its2, rfl, h3, h4⟩ := hq; exact RcNeAt.str_list _ _ h3 hu0
    | _ => exact hq.elim
  | tup xs =>
    obtain ⟨a, its, rfl, h1, h2⟩ := hp
    cases q with
    | non => cases hq; exact RcNeAt.tuple_none  h1 hu0
    | bl d => cases hq; exact RcNeAt.tuple_bool _ h1 hu0
    | int d => obtain ⟨t, rfl⟩ := hq; exact RcNeAt.tuple_int _ _ h1 hu0
    | str d => obtain ⟨t, rfl⟩ := hq; exact RcNeAt.tuple_str _ _ h1 hu0
    | tup ys => exact same_tup xs ys a its h1 h2 hq pp pq hu
    | lst ys => obtain ⟨b, its2, rfl, h3, h4⟩ := hq; exact RcNeAt.tuple_list h1 h3 hu0
    | _ => exact hq.elim
  | lst xs =>
    obtain ⟨a, its, rfl, h1, h2⟩ := hp
    cases q with
    | non => cases hq; exact RcNeAt.list_none  h1 hu0
    | bl d => cases hq; exact RcNeAt.list_bool _ h1 hu0
    | int d => obtain ⟨t, rfl⟩ := hq; exact RcNeAt.list_int _ _ h1 hu0
    | str d => obtain ⟨t, rfl⟩ := hq; exact RcNeAt.list_str _ _ h1 hu0
    | tup ys => obtain ⟨b, its2, rfl, h3, h4⟩ := hq; exact RcNeAt.list_tuple h1 h3 hu0
    | lst ys => exact same_lst xs ys a its h1 h2 hq pp pq hu
    | _ => exact hq.elim
  | _ => exact hp.elim
/-! ### order -/
theorem ordI_ok {A : Around} {op : CmpOp} {i j : Int} {t u : Tok} {b : Bool} (h : ordI op i j = some b) : Ob.RcOp op A s (.int i t) (.int j u) b := by
  unfold ordI at h
  split at h
  · cases h; exact Ob.RcOp.lt_int _ _ _ _
  · cases h; exact Ob.RcOp.le_int _ _ _ _
  · cases h; exact Ob.RcOp.gt_int _ _ _ _
  · cases h; exact Ob.RcOp.ge_int _ _ _ _
  · cases h
theorem ordS_ok {A : Around} {op : CmpOp} {x y : Str} {t u : Tok} {b : Bool} (h : ordS op x y = some b) : Ob.RcOp op A s (.str x t) (.str y u) b := by
  unfold ordS at h
  split at h
  · cases h; exact fun _ _ _ _ q => PyProof.Rows.lt_str q
  · cases h; exact fun _ _ _ _ q => PySem.P.le_str q
  · cases h; exact fun _ _ _ _ q => PySem.P.gt_str q
  · cases h; exact fun _ _ _ _ q => PySem.P.ge_str q
  · cases h
/-- what the first unequal pair tells -/
def ordAtJ (op : CmpOp) (xs ys : List PV) (j : Nat) : Bool := match xs[j]?, ys[j]? with
  | some x, some y => (ordP op x y).getD false
  | _, _ => false
theorem ordPs_at {op : CmpOp} : ∀ {xs ys : List PV} {b : Bool}, ordPs op xs ys = some b → ∀ (j : Nat) (h1 : j < xs.length) (h2 : j < ys.length), eqP xs[j] ys[j] = false → ∃ c, ordP op xs[j] ys[j] = some c
  | [], _, _, _, j, h1, _, _ => by simp at h1
  | _ :: _, [], _, _, j, _, h2, _ => by simp at h2
  | x :: xs, y :: ys, b, h, 0, h1, h2, he => by
    obtain ⟨c, e1, e2⟩ := Option.bind_eq_some_iff.mp (show (ordPs op xs ys).bind (fun b => if eqP x y then some b else ordP op x y) = some b from h)
    have he' : eqP x y = false := he
    rw [he'] at e2
    exact ⟨b, e2⟩
  | x :: xs, y :: ys, b, h, j + 1, h1, h2, he => by
    obtain ⟨c, e1, e2⟩ := Option.bind_eq_some_iff.mp (show (ordPs op xs ys).bind (fun b => if eqP x y then some b else ordP op x y) = some b from h)
    exact ordPs_at e1 j (by simpa using h1) (by simpa using h2) he
theorem lex_shift (e r e' r' : Nat → Bool) (z : Bool) (he : ∀ j, e (j + 1) = e' j) (hr : ∀ j, r (j + 1) = r' j) : ∀ (k i : Nat), Ob.lexAt e r z (i + 1) k = Ob.lexAt e' r' z i k
  | 0, _ => rfl
  | k + 1, i => by
    rw [Ob.lexAt_succ, Ob.lexAt_succ, he, hr, lex_shift e r e' r' z he hr k (i + 1)]
/-- the end by the lengths -/
def lenEnd : CmpOp → Nat → Nat → Bool
  | .Lt, a, b => decide (a < b)
  | .LtE, a, b => decide (a ≤ b)
  | .Gt, a, b => decide (b < a)
  | .GtE, a, b => decide (b ≤ a)
  | _, _, _ => false
theorem len_succ (op : CmpOp) (a b : Nat) : lenEnd op (a + 1) (b + 1) = lenEnd op a b := by
  cases op <;> simp [lenEnd]
theorem ordPs_lex {op : CmpOp} : ∀ {xs ys : List PV} {b : Bool}, ordPs op xs ys = some b → Ob.lexAt (eqAtJ xs ys) (ordAtJ op xs ys) (lenEnd op xs.length ys.length) 0 (min xs.length ys.length) = b
  | [], ys, b, h => by
    have e : ordEnd op true ys.isEmpty = some b := by simpa [ordPs] using h
    rw [List.length_nil, Nat.zero_min]
    show lenEnd op 0 ys.length = b
    cases op <;> cases ys <;> simp [ordEnd] at e <;> simp [lenEnd, ← e]
  | x :: xs, [], b, h => by
    have e : ordEnd op false true = some b := by simpa [ordPs] using h
    rw [List.length_nil, Nat.min_zero]
    show lenEnd op (xs.length + 1) 0 = b
    cases op <;> simp [ordEnd] at e <;> simp [lenEnd, ← e]
  | x :: xs, y :: ys, b, h => by
    obtain ⟨c, e1, e2⟩ := Option.bind_eq_some_iff.mp (show (ordPs op xs ys).bind (fun b => if eqP x y then some b else ordP op x y) = some b from h)
    have ih := ordPs_lex e1
    rw [List.length_cons, List.length_cons, len_succ, Nat.succ_min_succ, Ob.lexAt_succ, lex_shift _ _ (eqAtJ xs ys) (ordAtJ op xs ys) _ (fun _ => rfl) (fun _ => rfl), ih]
    show (if eqP x y = true then c else (ordP op x y).getD false) = b
    split at e2
    · rename_i hx; cases e2; rw [if_pos hx]
    · rename_i hx; rw [if_neg hx, e2]; rfl
theorem tups_ok {A : Around} {op : CmpOp} {l b : Addr} {its its2 : List Value} {e r : Nat → Bool} {z : Bool} (hop : ordEnd op true true ≠ none) (hl : s.heap.IsTuple l its.toArray) (hb : s.heap.IsTuple b its2.toArray) (hu : A.units < cLine)
    (he : ∀ j (h1 : j < its.toArray.size) (h2 : j < its2.toArray.size), EqAt A.in1 s its.toArray[j] its2.toArray[j] (e j)) (hr : ∀ j (h1 : j < its.toArray.size) (h2 : j < its2.toArray.size), e j = false → Ob.RcOp op A.in1 s its.toArray[j] its2.toArray[j] (r j))
    (hz : Ob.lexAt e r (lenEnd op its.length its2.length) 0 (min its.length its2.length) = z) : Ob.RcOp op A s (.ref l) (.ref b) z := by
  subst hz
  cases op <;> first
    | exact absurd rfl hop
    | (have := Ob.RcOp.tuples_lt hl hb hu he hr; simpa [lenEnd] using this)
    | (have := Ob.RcOp.tuples_le hl hb hu he hr; simpa [lenEnd] using this)
    | (have := Ob.RcOp.tuples_gt hl hb hu he hr; simpa [lenEnd] using this)
    | (have := Ob.RcOp.tuples_ge hl hb hu he hr; simpa [lenEnd] using this)
theorem ord_pv {op : CmpOp} (hop : ordEnd op true true ≠ none) : ∀ (n : Nat) (p q : PV) (A : Around) {u w : Value} {b : Bool}, min (depP p) (depP q) ≤ n → HR s.heap p u → HR s.heap q w → plainP p = true → plainP q = true → A.units + min (depP p) (depP q) < cLine → ordP op p q = some b → Ob.RcOp op A s u w b := by
  intro n
  induction n with
  | zero =>
    intro p q A u w b hn hp hq pp pq hu ho
    unfold ordP at ho
    split at ho
    · obtain ⟨t, rfl⟩ := hp; obtain ⟨t', rfl⟩ := hq; exact ordI_ok ho
    · obtain ⟨t, rfl⟩ := hp; obtain ⟨t', rfl⟩ := hq; exact ordS_ok ho
    · rename_i xs ys
      exact absurd hn (by show ¬ min (depPs xs + 1) (depPs ys + 1) ≤ 0; omega)
    · cases ho
  | succ n ih =>
    intro p q A u w b hn hp hq pp pq hu ho
    unfold ordP at ho
    split at ho
    · obtain ⟨t, rfl⟩ := hp; obtain ⟨t', rfl⟩ := hq; exact ordI_ok ho
    · obtain ⟨t, rfl⟩ := hp; obtain ⟨t', rfl⟩ := hq; exact ordS_ok ho
    · rename_i xs ys
      obtain ⟨a, its, rfl, h1, h2⟩ := hp
      obtain ⟨c, its2, rfl, h3, h4⟩ := hq
      have l1 := h2.length
      have l2 := h4.length
      have hd : min (depPs xs + 1) (depPs ys + 1) ≤ n + 1 := hn
      have hv : A.units + min (depPs xs + 1) (depPs ys + 1) < cLine := hu
      refine tups_ok hop h1 h3 (by omega) (itemsEq (A := A) h2 h4 pp pq hv) (r := ordAtJ op xs ys) (fun j j1 j2 hj => ?_) (by rw [l1, l2]; exact ordPs_lex ho)
      have k1 : j < xs.length := by simp at j1; omega
      have k2 : j < ys.length := by simp at j2; omega
      have e1 : eqAtJ xs ys j = eqP xs[j] ys[j] := by unfold eqAtJ; rw [List.getElem?_eq_getElem k1, List.getElem?_eq_getElem k2]
      rw [e1] at hj
      obtain ⟨d, hd2⟩ := ordPs_at ho j k1 k2 hj
      have e2 : ordAtJ op xs ys j = d := by unfold ordAtJ; rw [List.getElem?_eq_getElem k1, List.getElem?_eq_getElem k2]; show (ordP op xs[j] ys[j]).getD false = d; rw [hd2]; rfl
      rw [e2]
      have d1 := dep_get j k1
      have d2 := dep_get j k2
      exact ih xs[j] ys[j] A.in1 (by omega) (h2.get j (by simpa using j1) k1) (h4.get j (by simpa using j2) k2) (plain_get j k1 pp) (plain_get j k2 pq) (by rw [in1_units]; omega) hd2
    · cases ho
theorem anyEq_any {A : Around} {q : PV} {w : Value} (hq : HR s.heap q w) (pq : plainP q = true) : ∀ (xs : List PV) (its : List Value), HRs s.heap xs its → plainPs xs = true → A.units + min (depP q) (depPs xs) < cLine →
    ∃ e : Value → Bool, (∀ y ∈ its, EqAt A s y w (e y)) ∧ its.any e = anyEq q xs := by
  intro xs its h px hu
  -- e by the pure value that stands there
  have key : ∀ y ∈ its, ∃ x ∈ xs, HR s.heap x y := by
    induction xs generalizing its with
    | nil => intro y hy; cases h; simp at hy
    | cons x xs ih =>
      obtain ⟨u, r, rfl, h1, h2⟩ := h
      obtain ⟨p1, p2⟩ := Bool.and_eq_true_iff.mp (show (plainP x && plainPs xs) = true from px)
      intro y hy
      rcases List.mem_cons.mp hy with rfl | hy
      · exact ⟨x, by simp, h1⟩
      · obtain ⟨z, hz, hr⟩ := ih r h2 p2 (by have : depPs xs ≤ depPs (x :: xs) := Nat.le_max_right _ _; omega) y hy
        exact ⟨z, List.mem_cons_of_mem _ hz, hr⟩
  classical
  let e : Value → Bool := fun y => if hy : ∃ x, HR s.heap x y then eqP (Classical.choose hy) q else false
  have he : ∀ (x : PV) (y : Value), HR s.heap x y → e y = eqP x q := fun x y hr => by
    have hy : ∃ x, HR s.heap x y := ⟨x, hr⟩
    show (if hy : ∃ x, HR s.heap x y then eqP (Classical.choose hy) q else false) = _
    rw [dif_pos hy, HR.inj _ _ (Classical.choose_spec hy) hr]
  have plainM : ∀ x ∈ xs, plainP x = true ∧ depP x ≤ depPs xs := by
    clear key h hu
    induction xs with
    | nil => intro x hx; simp at hx
    | cons z zs ih =>
      obtain ⟨p1, p2⟩ := Bool.and_eq_true_iff.mp (show (plainP z && plainPs zs) = true from px)
      intro x hx
      rcases List.mem_cons.mp hx with rfl | hx
      · exact ⟨p1, Nat.le_max_left _ _⟩
      · obtain ⟨a1, a2⟩ := ih p2 x hx
        exact ⟨a1, Nat.le_trans a2 (Nat.le_max_right _ _)⟩
  refine ⟨e, fun y hy => ?_, ?_⟩
  · obtain ⟨x, hx, hr⟩ := key y hy
    rw [he x y hr]
    obtain ⟨p1, d1⟩ := plainM x hx
    exact (rcAt_pv _ x q A (Nat.le_refl _) hr hq p1 pq (by omega)).2
  · clear key plainM hu
    induction xs generalizing its with
    | nil => cases h; rfl
    | cons x xs ih =>
      obtain ⟨u, r, rfl, h1, h2⟩ := h
      obtain ⟨p1, p2⟩ := Bool.and_eq_true_iff.mp (show (plainP x && plainPs xs) = true from px)
      rw [List.any_cons, he x u h1, ih r h2 p2]
      rfl
end

section
variable {X : Cx}
theorem cmpOk_ok {p q : PV} (h : cmpOk p q = true) : plainP p = true ∧ plainP q = true ∧ min (depP p) (depP q) ≤ 60 := by
  unfold cmpOk at h
  simp only [Bool.and_eq_true, decide_eq_true_eq] at h
  exact ⟨h.1.1, h.1.2, h.2⟩
theorem inP_ok {p : PV} {xs : List PV} (h : (cmpOk p p && plainPs xs && decide (min (depP p) (depPs xs) ≤ 59)) = true) : plainP p = true ∧ plainPs xs = true ∧ min (depP p) (depPs xs) ≤ 59 := by
  simp only [Bool.and_eq_true, decide_eq_true_eq] at h
  exact ⟨(cmpOk_ok h.1.1).1, h.1.2, h.2⟩
theorem sign1_ok {x : Str} {c : Nat} (h : sign1 x = some c) : x = ⟨#[c]⟩ := by
  unfold sign1 at h
  split at h
  · rename_i d e
    cases h
    obtain ⟨a⟩ := x
    have e' : a.toList = [c] := e
    have : a = #[c] := by
      apply Array.ext'
      simpa using e'
    rw [this]
  · cases h
theorem signP_ok {p : PV} {c : Nat} (h : signP p = some c) : p = .str ⟨#[c]⟩ ∧ True := by
  cases p with
  | str x => exact ⟨by rw [sign1_ok h], trivial⟩
  | _ => cases h
theorem op_inP (hu : X.A.units + 64 < cLine) (neg : Bool) : OpR X (compareOp (if neg then .NotIn else .In)) (rB2 (gx X) fun p q => (inP p q).map fun b => if neg then !b else b) := by
  intro pins s σ H x y v u Q I rx ry h
  obtain ⟨F, p, q, b, sub, hp, hq, e, k⟩ := h
  obtain ⟨c, ec, rfl⟩ := Option.map_eq_some_iff.mp e
  have fin : ∀ {k' : Bool}, Q (.bl k') H → EP X pins σ Q (.bool k') s := fun {k'} q => ⟨.bl k', H, I, rfl, q⟩
  have din : ∀ {a : Addr} {o : Option V}, v = v → u = Value.ref a → DGet H a x o → o.isSome = c → wpAny (model X.prog X.w) X.A (compareOp (if neg then .NotIn else .In) v u) (EP X pins σ Q) X.xe s := by
    intro a o _ hu' g ho
    subst hu'
    cases neg with
    | true => exact d_notIn (by omega) I g rx fun s' I' => ⟨.bl _, H, I', rfl, by rw [ho]; exact k⟩
    | false => exact d_in (by omega) I g rx fun s' I' => ⟨.bl _, H, I', rfl, by rw [ho]; exact k⟩
  unfold inP at ec
  split at ec
  · split at ec
    · rename_i xs hz
      cases ec
      obtain ⟨pp, px, hd⟩ := inP_ok hz
      obtain ⟨a, vs, rfl, h1, h2⟩ := hq
      cases ry
      obtain ⟨its, rv, ht, _⟩ := I.tuple (Same.kseq sub h1)
      obtain ⟨e', he, ea⟩ := anyEq_any (A := X.A.in1) (PR.hr I sub pp hp rx) pp xs its (Reps.hr I sub xs px h2 rv) px (by rw [in1_units]; omega)
      cases neg with
      | true =>
        refine SeqAt.notIn_tupleAt e' ht (fun y hy => he y (by simpa using hy)) (fin ?_)
        rw [List.any_toArray, ea]; exact k
      | false =>
        refine SeqAt.in_tupleAt e' ht (fun y hy => he y (by simpa using hy)) (fin ?_)
        rw [List.any_toArray, ea]; exact k
    · cases ec
  · rename_i ks xs
    obtain ⟨kk, e1, e2⟩ := Option.map_eq_some_iff.mp ec
    obtain ⟨a, ws, rfl, h1, hl, h2⟩ := hq
    cases ry
    obtain rfl := keyOf_rep e1 hp
    have hg := dGet_reps kk (ks := ks) h2
    refine din rfl rfl (DGet.k h1) ?_
    rw [← e2]
    split at hg
    · rename_i w hw
      obtain ⟨w', e5, _⟩ := hg
      show (dGet ks ws kk).isSome = _
      rw [e5, hw]; rfl
    · rename_i hw
      show (dGet ks ws kk).isSome = _
      rw [hg, hw]; rfl
  · rename_i ks xs
    obtain ⟨kk, e1, e2⟩ := Option.map_eq_some_iff.mp ec
    obtain ⟨a, ws, rfl, h1, hl, h2⟩ := hq
    cases ry
    obtain ⟨b, rfl, hb⟩ := tkeyOf_rep e1 hp
    have hg := dGet_reps kk (ks := ks) h2
    refine din rfl rfl (DGet.t h1 (sub _ _ hb)) ?_
    rw [← e2]
    split at hg
    · rename_i w hw
      obtain ⟨w', e5, _⟩ := hg
      show (dGet ks ws kk).isSome = _
      rw [e5, hw]; rfl
    · rename_i hw
      show (dGet ks ws kk).isSome = _
      rw [hg, hw]; rfl
  · split at ec
    · rename_i xs hz
      cases ec
      obtain ⟨pp, px, hd⟩ := inP_ok hz
      obtain ⟨a, vs, rfl, h1, h2⟩ := hq
      cases ry
      obtain ⟨its, rv, ht, _⟩ := I.list (.inl (.inl h1))
      obtain ⟨e', he, ea⟩ := anyEq_any (A := X.A.in1) (PR.hr I sub pp hp rx) pp xs its (Reps.hr I sub xs px h2 rv) px (by rw [in1_units]; omega)
      cases neg with
      | true =>
        refine SeqAt.notIn_listAt e' ht.isList (fun y hy => he y (by simpa using hy)) (fin ?_)
        rw [List.any_toArray, ea]; exact k
      | false =>
        refine SeqAt.in_listAt e' ht.isList (fun y hy => he y (by simpa using hy)) (fin ?_)
        rw [List.any_toArray, ea]; exact k
    · cases ec
  · split at ec
    · rename_i xs hz
      cases ec
      obtain ⟨pp, px, hd⟩ := inP_ok hz
      obtain ⟨a, vs, rfl, h1, h2⟩ := hq
      cases ry
      obtain ⟨its, rv, ht, _⟩ := I.tuple (Same.tseq sub h1)
      obtain ⟨e', he, ea⟩ := anyEq_any (A := X.A.in1) (PR.hr I sub pp hp rx) pp xs its (Reps.hr I sub xs px h2 rv) px (by rw [in1_units]; omega)
      cases neg with
      | true =>
        refine SeqAt.notIn_tupleAt e' ht (fun y hy => he y (by simpa using hy)) (fin ?_)
        rw [List.any_toArray, ea]; exact k
      | false =>
        refine SeqAt.in_tupleAt e' ht (fun y hy => he y (by simpa using hy)) (fin ?_)
        rw [List.any_toArray, ea]; exact k
    · cases ec
  · obtain ⟨c1, e1, e2⟩ := Option.map_eq_some_iff.mp ec
    subst e2
    obtain ⟨e3, e4⟩ := signP_ok e1
    subst e3
    cases hp; cases hq
    cases neg with
    | true => exact op_notIn_sign pins s σ H _ _ v u Q I rx ry ⟨_, _, rfl, rfl, k⟩
    | false => exact op_in_sign pins s σ H _ _ v u Q I rx ry ⟨_, _, rfl, rfl, k⟩
  · cases ec
theorem PR.non_iff {g : Gx} {F H : Hp} {p : PV} {x : V} (h : PR g F H p x) : decide (x = .non) = isNonP p := by
  cases p with
  | non => cases h; rfl
  | bl b => cases h; rfl
  | int b => cases h; rfl
  | str b => cases h; rfl
  | ty b => cases h; rfl
  | tup xs => obtain ⟨a, _, rfl, _⟩ := h; rfl
  | lst xs => obtain ⟨a, _, rfl, _⟩ := h; rfl
  | scr xs => obtain ⟨a, _, rfl, _⟩ := h; rfl
  | ktp xs => obtain ⟨a, _, rfl, _⟩ := h; rfl
  | dk ks xs => obtain ⟨a, _, rfl, _⟩ := h; rfl
  | dt ks xs => obtain ⟨a, _, rfl, _⟩ := h; rfl
  | exv c fs xs => obtain ⟨a, _, _, _, rfl, _⟩ := h; rfl
  | fn xs => obtain ⟨a, rfl, _⟩ := h; rfl
theorem op_ordT (hu : X.A.units + 64 < cLine) {op : CmpOp} (hop : ordEnd op true true ≠ none) (hc : ∀ a b, compareOp op a b = richCompare op a b) {pins : List (Addr × Obj)} {s : Shared} {σ : L2.St} {H F : Hp} {x y : V} {v u : Value} {Q : VK} {xs ys : List PV} {b : Bool} (I : Inv X pins σ H s) (rx : RelV x v) (ry : RelV y u) (sub : Same F H)
    (hp : PR (gx X) F H (.tup xs) x) (hq : PR (gx X) F H (.tup ys) y) (e : ordT op xs ys = some b) (k : Q (.bl b) H) : wpAny (model X.prog X.w) X.A (compareOp op v u) (EP X pins σ Q) X.xe s := by
  unfold ordT at e
  split at e
  · rename_i hz
    obtain ⟨pp, pq, hd⟩ := cmpOk_ok hz
    rw [hc]
    exact ord_pv hop _ (.tup xs) (.tup ys) X.A (Nat.le_refl _) (PR.hr I sub pp hp rx) (PR.hr I sub pq hq ry) pp pq (by omega) e _ _ _ _ ⟨.bl b, H, I, rfl, k⟩
  · cases e
theorem op_cmp (hu : X.A.units + 64 < cLine) (op : CmpOp) : OpR X (compareOp op) (rB2 (gx X) (cmpP op)) := by
  intro pins s σ H x y v u Q I rx ry h
  obtain ⟨F, p, q, b, sub, hp, hq, e, k⟩ := h
  have fin : ∀ {k' : Bool}, Q (.bl k') H → EP X pins σ Q (.bool k') s := fun {k'} q => ⟨.bl k', H, I, rfl, q⟩
  unfold cmpP at e
  split at e
  · exact op_ordT hu (by simp [ordEnd]) (fun _ _ => rfl) I rx ry sub hp hq e k
  · exact op_ordT hu (by simp [ordEnd]) (fun _ _ => rfl) I rx ry sub hp hq e k
  · exact op_ordT hu (by simp [ordEnd]) (fun _ _ => rfl) I rx ry sub hp hq e k
  · exact op_ordT hu (by simp [ordEnd]) (fun _ _ => rfl) I rx ry sub hp hq e k
  · split at e
    · rename_i hz
      cases e
      obtain ⟨pp, pq, hd⟩ := cmpOk_ok hz
      exact (rcAt_pv _ p q X.A (Nat.le_refl _) (PR.hr I sub pp hp rx) (PR.hr I sub pq hq ry) pp pq (by omega)).1 _ _ _ _ (fin k)
    · cases e
  · split at e
    · rename_i hz
      cases e
      obtain ⟨pp, pq, hd⟩ := cmpOk_ok hz
      exact rcNe_pv p q X.A (PR.hr I sub pp hp rx) (PR.hr I sub pq hq ry) pp pq (by omega) _ _ _ _ (fin k)
    · cases e
  · unfold ltP at e
    split at e
    · cases e; cases hp; cases hq
      exact op_lt pins s σ H _ _ v u Q I rx ry ⟨_, _, rfl, rfl, k⟩
    · cases e; cases hp; cases hq
      exact op_lt_str pins s σ H _ _ v u Q I rx ry ⟨_, _, rfl, rfl, k⟩
    · cases e
  · unfold ltP at e
    split at e
    · cases e; cases hp; cases hq
      exact op_gt pins s σ H _ _ v u Q I rx ry ⟨_, _, rfl, rfl, k⟩
    · cases e; cases hp; cases hq
      exact op_gt_str pins s σ H _ _ v u Q I rx ry ⟨_, _, rfl, rfl, k⟩
    · cases e
  · cases e; cases hp; cases hq
    exact op_le pins s σ H _ _ v u Q I rx ry ⟨_, _, rfl, rfl, k⟩
  · cases e; cases hp; cases hq
    exact op_ge pins s σ H _ _ v u Q I rx ry ⟨_, _, rfl, rfl, k⟩
  · cases e; cases hp; cases hq
    exact op_le_str pins s σ H _ _ v u Q I rx ry ⟨_, _, rfl, rfl, k⟩
  · cases e; cases hp; cases hq
    exact op_ge_str pins s σ H _ _ v u Q I rx ry ⟨_, _, rfl, rfl, k⟩
  · cases e; cases hq
    exact op_isN pins s σ H _ _ v u Q I rx ry ⟨rfl, by rw [hp.non_iff]; exact k⟩
  · cases e; cases hq
    exact op_notN pins s σ H _ _ v u Q I rx ry ⟨rfl, by rw [hp.non_iff]; exact k⟩
  · exact op_inP hu false pins s σ H x y v u Q I rx ry ⟨F, p, q, b, sub, hp, hq, by show Option.map _ (inP p q) = _; rw [e]; rfl, k⟩
  · refine op_inP hu true pins s σ H x y v u Q I rx ry ⟨F, p, q, b, sub, hp, hq, ?_, k⟩
    exact e
  · cases e
end
end Bd

namespace Bd
open PySem L2 PyProof.Rows
section
variable {X : Cx}

theorem atI_rep {g : Gx} {F : Hp} {xs : List PV} {vs : List V} (h : Reps g F xs vs) {i : Int} {p : PV} (e : atI xs i = some p) : ∃ v, atI vs i = some v ∧ Rep g F p v := by
  unfold atI at e ⊢
  rw [h.length]
  cases q : ixN xs.length i with
  | none => rw [q] at e; cases e
  | some j =>
    rw [q] at e
    exact h.get (i := j) e
/-- an item: what lies in a thing is fixed -/
def rX2 (g : Gx) (f : PV → PV → Option PV) : R2 := fun x y H Q => ∃ F p q r, Same F H ∧ PR g F H p x ∧ PR g F H q y ∧ f p q = some r ∧ ∀ v, Rep g F r v → Q v H
/-- d[y] -/
theorem ix_dict (hu : X.A.units + 64 < cLine) : IxR X (fun x y H Q => ∃ (a : Addr) (w : V), x = .ref a ∧ DGet H a y (some w) ∧ Q w H) := by
  intro value slice pins s σ H x y v u Q I rx ry h hs
  obtain ⟨a, w, rfl, g, q⟩ := h
  obtain rfl : v = Value.ref a := rx
  have hT := dict_typeIs I g
  unfold subscriptTail
  refine wpAny_bind ?_
  rw [PySem.getitemInPython_of_ne hT.not_modules]
  refine wpAny_bind (wpAny_specialOf hT PySem.F.slot_dict_getitem.lookup ?_)
  have fin : wpAny (model X.prog X.w) X.A (subscripted slice false (.ref a) u) (fun r s3 => wpAny (model X.prog X.w) X.A (letTemporaryGo value (.ref a) r >>= fun _ => pure r) (EP X pins σ Q) X.xe s3) X.xe s := by
    rw [hs]
    exact wpAny_operating (d_getItem (by omega) I g ry fun w' s3 I3 rw' => wpAny_bind (wpAny_letTemporaryGo (wpAny_pure ⟨w, H, I3, rw', q⟩)))
  first
    | exact wpAny_pure (wpAny_bind fin)
    | exact wpAny_bind (wpAny_pure (wpAny_bind fin))
    | exact wpAny_bind fin
theorem ix_pv (hu : X.A.units + 64 < cLine) : IxR X (rX2 (gx X) ixP) := by
  intro value slice pins s σ H x y v u Q I rx ry h hs
  obtain ⟨F, p, q, r, sub, hp, hq, e, k⟩ := h
  have dg : ∀ {a : Addr} {w : V}, x = .ref a → DGet H a y (some w) → Q w H → wpAny (model X.prog X.w) X.A (subscriptTail value slice v u) (EP X pins σ Q) X.xe s := fun e1 g q => ix_dict hu value slice pins s σ H x y v u Q I rx ry ⟨_, _, e1, g, q⟩ hs
  unfold ixP at e
  split at e
  · obtain ⟨a, vs, rfl, h1, h2⟩ := hp
    cases hq
    obtain ⟨w, e1, e2⟩ := atI_rep h2 e
    exact ix_seq value slice pins s σ H _ _ v u Q I rx ry (.inl ⟨a, vs, _, w, rfl, rfl, .inl (.inl h1), e1, k _ e2⟩) hs
  · obtain ⟨a, vs, rfl, h1, h2⟩ := hp
    cases hq
    obtain ⟨w, e1, e2⟩ := atI_rep h2 e
    exact ix_seq value slice pins s σ H _ _ v u Q I rx ry (.inr (.inl ⟨a, vs, _, w, rfl, rfl, Same.tseq sub h1, e1, k _ e2⟩)) hs
  · rename_i ks xs
    obtain ⟨kk, e1, e2⟩ := Option.bind_eq_some_iff.mp e
    obtain ⟨a, ws, rfl, h1, hl, h2⟩ := hp
    obtain rfl := keyOf_rep e1 hq
    have hg := dGet_reps kk (ks := ks) h2
    rw [e2] at hg
    obtain ⟨w, e3, e4⟩ := hg
    exact dg rfl (by have z := DGet.k (k := kk) h1; unfold valV at z; exact (show dGet ks ws kk = some w from e3) ▸ z) (k _ e4)
  · rename_i ks xs
    obtain ⟨kk, e1, e2⟩ := Option.bind_eq_some_iff.mp e
    obtain ⟨a, ws, rfl, h1, hl, h2⟩ := hp
    obtain ⟨b, rfl, hb⟩ := tkeyOf_rep e1 hq
    have hg := dGet_reps kk (ks := ks) h2
    rw [e2] at hg
    obtain ⟨w, e3, e4⟩ := hg
    exact dg rfl (by have z := DGet.t (k := kk) h1 (sub _ _ hb); unfold valV at z; exact (show dGet ks ws kk = some w from e3) ▸ z) (k _ e4)
  · split at e
    · rename_i hz
      cases hp; cases hq
      obtain ⟨c, e1, e2⟩ := Option.map_eq_some_iff.mp e
      subst e2
      exact ix_seq value slice pins s σ H _ _ v u Q I rx ry (.inr (.inr ⟨_, _, c, rfl, rfl, hz, e1, k _ rfl⟩)) hs
    · cases e
  · cases e
def rS2 (g : Gx) : V → Option Int → Option Int → Hp → VK → Prop := fun x lo hi H Q => ∃ F p r, Same F H ∧ PR g F H p x ∧ slP p lo hi = some r ∧ ∀ v F' H', NewV g F H F' H' r v → Q v H'
theorem cutP_all {xs : List PV} {lo hi : Option Int} (h : HT.sIx xs.length 0 lo = 0 ∧ HT.sIx xs.length xs.length hi = xs.length) : cutP xs lo hi = xs := by
  unfold cutP
  rw [h.1, h.2]
  simp
theorem sl_pv : SlR X (rS2 (gx X)) := by
  intro pins s σ H x v vl vu lo hi sl Q I rx hs pl pu h
  obtain ⟨F, p, r, sub, hp, e, k⟩ := h
  unfold slP at e
  split at e
  · cases e
    obtain ⟨a, vs, rfl, h1, h2⟩ := hp
    exact sl_list pins s σ H _ v vl vu _ _ sl Q I rx hs pl pu ⟨a, vs, rfl, .inl (.inl h1), fun p n => k _ _ _ (NewV.lst sub n (cutP_reps h2 _ _))⟩
  · cases e
    obtain ⟨a, vs, rfl, h1, h2⟩ := hp
    exact sl_list pins s σ H _ v vl vu _ _ sl Q I rx hs pl pu ⟨a, vs, rfl, Same.seq sub h1, fun p n => k _ _ _ (NewV.lst sub n (cutP_reps h2 _ _))⟩
  · cases e
    obtain ⟨a, vs, rfl, h1, h2⟩ := hp
    have hl := h2.length
    refine sl_tupA pins s σ H _ v vl vu _ _ sl Q I rx hs pl pu ⟨a, vs, rfl, Same.tseq sub h1, fun hw => ?_, fun hw p n => ?_⟩
    · rw [hl] at hw
      refine k _ F H (NewV.flat sub rfl ⟨a, vs, rfl, h1, ?_⟩)
      rw [cutP_all hw]; exact h2
    · exact k _ _ _ (NewV.tup sub n (cutP_reps h2 _ _))
  · split at e
    · rename_i hz
      cases e
      cases hp
      exact sl_str pins s σ H _ v vl vu _ _ sl Q I rx hs pl pu ⟨_, rfl, hz, k _ F H (NewV.flat sub rfl rfl)⟩
    · cases e
  · cases e

/-! ### truth -/
theorem isEmpty_len {α β : Type} {xs : List α} {ys : List β} (h : ys.length = xs.length) : ys.isEmpty = xs.isEmpty := by
  cases xs <;> cases ys <;> simp_all
theorem truth_pv {g : Gx} {F H : Hp} {p : PV} {x : V} {k : Bool} (sub : Same F H) (h : PR g F H p x) (e : truth p = some k) : TruV g.K x H k := by
  unfold truth at e
  split at e
  · cases e; cases h; rfl
  · cases e; cases h; rfl
  · cases e; cases h; rfl
  · split at e
    · rename_i hz; cases e; cases h; exact ⟨hz, rfl⟩
    · cases e
  · cases e
    obtain ⟨a, vs, rfl, h1, h2⟩ := h
    exact .inr (.inl ⟨vs, Same.tseq sub h1, by rw [isEmpty_len h2.length]⟩)
  · cases e
    obtain ⟨a, vs, rfl, h1, h2⟩ := h
    exact .inl ⟨vs, .inl (.inl h1), by rw [isEmpty_len h2.length]⟩
  · cases e

/-! ### built-in functions -/
theorem allInts_reps {g : Gx} {F : Hp} : ∀ {xs : List PV} {vs : List V} {ns : List Int}, Reps g F xs vs → allInts xs = some ns → vs = ns.map V.int
  | [], _, _, h, e => by cases h; cases e; rfl
  | x :: xs, _, ns, h, e => by
    obtain ⟨v, r, rfl, h1, h2⟩ := h
    cases x with
    | int i =>
      obtain ⟨ms, e1, e2⟩ := Option.map_eq_some_iff.mp (show (allInts xs).map (i :: ·) = some ns from e)
      subst e2
      cases h1
      rw [allInts_reps h2 e1]; rfl
    | _ => cases e
theorem allBls_reps {g : Gx} {F : Hp} : ∀ {xs : List PV} {vs : List V} {ns : List Bool}, Reps g F xs vs → allBls xs = some ns → vs = ns.map V.bl
  | [], _, _, h, e => by cases h; cases e; rfl
  | x :: xs, _, ns, h, e => by
    obtain ⟨v, r, rfl, h1, h2⟩ := h
    cases x with
    | bl i =>
      obtain ⟨ms, e1, e2⟩ := Option.map_eq_some_iff.mp (show (allBls xs).map (i :: ·) = some ns from e)
      subst e2
      cases h1
      rw [allBls_reps h2 e1]; rfl
    | _ => cases e
theorem allStrs_reps {g : Gx} {F : Hp} : ∀ {xs : List PV} {vs : List V} {ns : List Str}, Reps g F xs vs → allStrs xs = some ns → vs = ns.map V.str
  | [], _, _, h, e => by cases h; cases e; rfl
  | x :: xs, _, ns, h, e => by
    obtain ⟨v, r, rfl, h1, h2⟩ := h
    cases x with
    | str i =>
      obtain ⟨ms, e1, e2⟩ := Option.map_eq_some_iff.mp (show (allStrs xs).map (i :: ·) = some ns from e)
      subst e2
      cases h1
      rw [allStrs_reps h2 e1]; rfl
    | _ => cases e
theorem PRs.one {g : Gx} {F H : Hp} {p : PV} {xs : List V} (h : PRs g F H [p] xs) : ∃ x, xs = [x] ∧ PR g F H p x := by
  obtain ⟨v, r, rfl, h1, h2⟩ := h
  cases h2
  exact ⟨v, rfl, h1⟩
theorem PRs.two {g : Gx} {F H : Hp} {p q : PV} {xs : List V} (h : PRs g F H [p, q] xs) : ∃ x y, xs = [x, y] ∧ PR g F H p x ∧ PR g F H q y := by
  obtain ⟨v, r, rfl, h1, h2⟩ := h
  obtain ⟨w, rfl, h3⟩ := h2.one
  exact ⟨v, w, rfl, h1, h3⟩
theorem tyName_ok {F H : Hp} {K : PySem.W.Frag} {mg : Str → Option Value} {p : PV} {x : V} {T : TyN} (sub : Same F H) (h : PR ⟨K, mg⟩ F H p x) (e : tyName p = some T) : TyX K H x (.type T.name) := by
  cases p with
  | non => cases e; cases h; exact .base .non
  | bl b => cases e; cases h; exact .base (.bl _)
  | int b => cases e; cases h; exact .base (.int _)
  | str b => cases e; cases h; exact .base (.str _)
  | lst xs => cases e; obtain ⟨a, vs, rfl, h1, _⟩ := h; exact .base (.lst h1)
  | tup xs =>
    cases e
    obtain ⟨a, vs, rfl, h1, _⟩ := h
    rcases Same.tseq sub h1 with (h2 | ⟨o, h2⟩) | ⟨o, its, n, h2, h3, _⟩
    · exact .base (.tup h2)
    · exact .fTuple h2
    · exact .kTuple h2 h3
  | _ => cases e
theorem kitB_sub (T c : TyN) : kitB T.name c.name = some (isSub T c) := by
  cases T <;> cases c <;> decide +kernel
theorem isiAny_ok {K : PySem.W.Frag} {T : TyN} {g : Gx} {F : Hp} : ∀ {xs : List PV} {vs : List V} {b : Bool}, Reps g F xs vs → isiAny T xs = some b → ∃ us, Paired ClsV vs us ∧ PySem.W.kitAny K (.type T.name) us = some b
  | [], _, b, h, e => by cases h; cases e; exact ⟨[], .nil, rfl⟩
  | x :: xs, _, b, h, e => by
    obtain ⟨v, r, rfl, h1, h2⟩ := h
    cases x with
    | ty c =>
      cases h1
      obtain ⟨b', e1, e2⟩ := Option.map_eq_some_iff.mp (show (isiAny T xs).map (isSub T c || ·) = some b from e)
      subst e2
      obtain ⟨us, p1, k1⟩ := isiAny_ok h2 e1
      refine ⟨.type c.name :: us, .cons (.ty _) p1, kitAny_cons (b := isSub T c) (kit_ty (kitB_sub T c)) (fun z => ?_) (fun z => ?_)⟩
      · rw [z, k1]; rfl
      · rw [z]; rfl
    | _ => cases e
theorem isi_tup : CallR X (.builtin "isinstance") (fun xs H Q => ∃ (x : V) (tp : Addr) (cs : List V) (t : Value) (ws : List Value) (b : Bool), xs = [x, .ref tp] ∧ SqT X.K H tp cs ∧ Paired ClsV cs ws ∧ TyX X.K H x t ∧ PySem.W.kitAny X.K t ws = some b ∧ Q (.bl b) H) := by
  intro pins s σ H xs us Q I r h
  obtain ⟨x, tp, cs, t, ws, b, rfl, hT, k, ty, e, q⟩ := h
  obtain ⟨u1, u2, rfl, r1, r2⟩ := vals2 r
  cases (show u2 = Value.ref tp from r2)
  obtain ⟨P, Z, p, hx⟩ := kit_of I r1 ty
  obtain ⟨its, rv, ⟨⟨oc, od, dt, sl⟩, h1, h2, n, h3⟩, _⟩ := I.tuple hT
  have e3 := ClsV.all k rv
  subst e3
  simp only at h2 h3
  subst h2 h3
  exact PySem.W.kia_tup Z I.kIn p h1 e hx fun tk => ⟨.bl b, H, I.tok tk, rfl, q⟩
def bltV : Blt → Value
  | .len => .builtin "len"
  | .abs => .builtin "abs"
  | .max => .builtin "max"
  | .min => .builtin "min"
  | .int => .type "int"
  | .str => .type "str"
  | .all => .builtin "all"
  | .any => .builtin "any"
  | .list => .type "list"
  | .tuple => .type "tuple"
  | .isinstance => .builtin "isinstance"
  | .sum => .builtin "sum"
  | .sorted => .builtin "sorted"
  | .set => .type "set"
  | .dict => .type "dict"
theorem call_blt (hc : X.calm = true) (f : Blt) : CallR X (bltV f) (rPs (gx X) (bltP f)) := by
  intro pins s σ H xs us Q I rv h
  obtain ⟨F, ps, r, sub, hp, e, k⟩ := h
  have fl : ∀ {r : PV} {v : V}, flOf r = .fz → Rep (gx X) F r v → NewV (gx X) F H F H r v := fun h1 h2 => NewV.flat sub h1 h2
  unfold bltP at e
  split at e
  · cases e
    obtain ⟨x, rfl, hx⟩ := hp.one
    obtain ⟨a, vs, rfl, h1, h2⟩ := hx
    refine call_len_seq pins s σ H _ us Q I rv ⟨a, vs, rfl, .inl (.inl (.inl h1)), ?_⟩
    rw [h2.length]; exact k _ F H (fl rfl rfl)
  · cases e
    obtain ⟨x, rfl, hx⟩ := hp.one
    obtain ⟨a, vs, rfl, h1, h2⟩ := hx
    refine call_len_seq pins s σ H _ us Q I rv ⟨a, vs, rfl, .inr (Same.tseq sub h1), ?_⟩
    rw [h2.length]; exact k _ F H (fl rfl rfl)
  · split at e
    · rename_i hz
      cases e
      obtain ⟨x, rfl, hx⟩ := hp.one
      cases hx
      exact call_len_str pins s σ H _ us Q I rv ⟨_, rfl, hz, k _ F H (fl rfl rfl)⟩
    · cases e
  · cases e
    obtain ⟨x, rfl, hx⟩ := hp.one
    cases hx
    exact call_abs pins s σ H _ us Q I rv ⟨_, rfl, k _ F H (fl rfl rfl)⟩
  · cases e
    obtain ⟨x, y, rfl, hx, hy⟩ := hp.two
    cases hx; cases hy
    exact call_max2 hc pins s σ H _ us Q I rv ⟨_, _, rfl, k _ F H (fl rfl rfl)⟩
  · cases e
    obtain ⟨x, y, rfl, hx, hy⟩ := hp.two
    cases hx; cases hy
    exact call_min2 hc pins s σ H _ us Q I rv ⟨_, _, rfl, k _ F H (fl rfl rfl)⟩
  · cases e
    obtain ⟨x, rfl, hx⟩ := hp.one
    cases hx
    exact call_int1 pins s σ H _ us Q I rv (.inl ⟨_, rfl, k _ F H (fl rfl rfl)⟩)
  · cases e
    obtain ⟨x, rfl, hx⟩ := hp.one
    cases hx
    exact call_int1 pins s σ H _ us Q I rv (.inr ⟨_, rfl, k _ F H (fl rfl rfl)⟩)
  · split at e
    · rename_i hz
      obtain ⟨n, e1, e2⟩ := Option.map_eq_some_iff.mp e
      subst e2
      obtain ⟨x, rfl, hx⟩ := hp.one
      cases hx
      exact call_int_str pins s σ H _ us Q I rv ⟨_, n, rfl, e1, hz, k _ F H (fl rfl rfl)⟩
    · cases e
  · split at e
    · rename_i hz
      cases e
      obtain ⟨x, rfl, hx⟩ := hp.one
      cases hx
      exact call_str_int pins s σ H _ us Q I rv ⟨_, rfl, hz, k _ F H (fl rfl rfl)⟩
    · cases e
  · obtain ⟨bs, e1, e2⟩ := Option.map_eq_some_iff.mp e
    subst e2
    obtain ⟨x, rfl, hx⟩ := hp.one
    obtain ⟨a, vs, rfl, h1, h2⟩ := hx
    refine cr_all hc pins s σ H _ us Q I rv ⟨a, bs, rfl, ?_, k _ F H (fl rfl rfl)⟩
    rw [← allBls_reps h2 e1]; exact .inl (.inl h1)
  · obtain ⟨bs, e1, e2⟩ := Option.map_eq_some_iff.mp e
    subst e2
    obtain ⟨x, rfl, hx⟩ := hp.one
    obtain ⟨a, vs, rfl, h1, h2⟩ := hx
    refine cr_any hc pins s σ H _ us Q I rv ⟨a, bs, rfl, ?_, k _ F H (fl rfl rfl)⟩
    rw [← allBls_reps h2 e1]; exact .inl (.inl h1)
  · obtain ⟨bs, e1, e2⟩ := Option.map_eq_some_iff.mp e
    subst e2
    obtain ⟨x, rfl, hx⟩ := hp.one
    obtain ⟨a, vs, rfl, h1, h2⟩ := hx
    refine cr_sum hc pins s σ H _ us Q I rv ⟨a, bs, rfl, ?_, k _ F H (fl rfl rfl)⟩
    rw [← allInts_reps h2 e1]; exact .inl (.inl h1)
  · obtain ⟨bs, e1, e2⟩ := Option.map_eq_some_iff.mp e
    subst e2
    obtain ⟨x, rfl, hx⟩ := hp.one
    unfold seqOf at e1
    split at e1
    · cases e1
      obtain ⟨a, vs, rfl, h1, h2⟩ := hx
      exact call_list_of pins s σ H _ us Q I rv ⟨a, vs, rfl, .inl (.inl (.inl h1)), fun l n => k _ _ _ (NewV.lst sub n h2)⟩
    · cases e1
      obtain ⟨a, vs, rfl, h1, h2⟩ := hx
      exact call_list_of pins s σ H _ us Q I rv ⟨a, vs, rfl, .inr (Same.tseq sub h1), fun l n => k _ _ _ (NewV.lst sub n h2)⟩
    · cases e1
  · obtain ⟨bs, e1, e2⟩ := Option.map_eq_some_iff.mp e
    subst e2
    obtain ⟨x, rfl, hx⟩ := hp.one
    unfold seqOf at e1
    split at e1
    · cases e1
      obtain ⟨a, vs, rfl, h1, h2⟩ := hx
      exact call_tuple_of pins s σ H _ us Q I rv ⟨a, vs, rfl, .inl ⟨.inl (.inl h1), fun l n => k _ _ _ (NewV.tup sub n h2)⟩⟩
    · cases e1
      obtain ⟨a, vs, rfl, h1, h2⟩ := hx
      exact call_tuple_of pins s σ H _ us Q I rv ⟨a, vs, rfl, .inr ⟨Same.tseq sub h1, k _ F H (fl rfl ⟨a, vs, rfl, h1, h2⟩)⟩⟩
    · cases e1
  · obtain ⟨b, e1, e2⟩ := Option.map_eq_some_iff.mp e
    subst e2
    obtain ⟨x, y, rfl, hx, hy⟩ := hp.two
    unfold isiP at e1
    split at e1
    · obtain ⟨T, e3, e4⟩ := Option.map_eq_some_iff.mp e1
      subst e4
      cases hy
      exact call_isi pins s σ H _ us Q I rv ⟨x, _, _, _, _, rfl, .ty _, tyName_ok sub hx e3, kit_ty (kitB_sub T _), k _ F H (fl rfl rfl)⟩
    · obtain ⟨T, e3, e4⟩ := Option.bind_eq_some_iff.mp e1
      obtain ⟨a, vs, rfl, h1, h2⟩ := hy
      obtain ⟨ws, p1, k1⟩ := isiAny_ok (K := X.K) h2 e4
      exact isi_tup pins s σ H _ us Q I rv ⟨x, a, vs, _, ws, _, rfl, Same.tseq sub h1, p1, tyName_ok sub hx e3, k1, k _ F H (fl rfl rfl)⟩
    · cases e1
  · cases e
/-! ### methods -/
def rM (g : Gx) (m : Mth) : V → List V → Hp → VK → Prop := fun x xs H Q => ∃ F p ps r, Same F H ∧ PR g F H p x ∧ PRs g F H ps xs ∧ mthP m p ps = some r ∧ ∀ v F' H', NewV g F H F' H' r v → Q v H'
theorem strs_reps {g : Gx} {F : Hp} : ∀ ys : List Str, Reps g F (ys.map PV.str) (ys.map V.str)
  | [] => rfl
  | y :: ys => ⟨_, _, rfl, rfl, strs_reps ys⟩
theorem mt_splitP : MtR X "str.split" (rM (gx X) .split) := by
  intro pins s σ H x xs v us Q I rx rv h
  obtain ⟨F, p, ps, r, sub, hp, hps, e, k⟩ := h
  unfold mthP at e
  split at e
  · split at e
    · cases e
    · rename_i hz
      cases e
      obtain ⟨y, rfl, hy⟩ := hps.one
      cases hp; cases hy
      refine mt_split pins s σ H _ _ v us Q I rx rv ⟨_, _, rfl, rfl, ?_, by omega, fun p n => k _ _ _ (NewV.lst sub n (strs_reps _))⟩
      have : ¬ _ := fun q => hz (.inl q)
      simpa using this
  · rename_i hm; cases hm
  · rename_i hm; cases hm
  · cases e
theorem mt_indexP : MtR X "str.index" (rM (gx X) .index) := by
  intro pins s σ H x xs v us Q I rx rv h
  obtain ⟨F, p, ps, r, sub, hp, hps, e, k⟩ := h
  have e : indexP p ps = some r := e
  unfold indexP at e
  split at e
  · split at e
    · rename_i a b i rest ho
      cases e
      obtain ⟨y, rfl, hy⟩ := hps.one
      cases hp
      cases hy
      exact mt_sindex pins s σ H _ _ v us Q I rx rv ⟨_, _, i, rest, rfl, rfl, ho, k _ F H (NewV.flat sub rfl rfl)⟩
    · cases e
  · cases e
theorem mt_joinP : MtR X "str.join" (rM (gx X) .join) := by
  intro pins s σ H x xs v us Q I rx rv h
  obtain ⟨F, p, ps, r, sub, hp, hps, e, k⟩ := h
  unfold mthP at e
  split at e
  · rename_i hm; cases hm
  · obtain ⟨zs, e1, e2⟩ := Option.bind_eq_some_iff.mp e
    obtain ⟨ys, e3, e4⟩ := Option.bind_eq_some_iff.mp e2
    split at e4
    · rename_i hz
      cases e4
      obtain ⟨y, rfl, hy⟩ := hps.one
      cases hp
      unfold seqOf at e1
      split at e1
      · cases e1
        obtain ⟨a, vs, rfl, h1, h2⟩ := hy
        refine mt_join pins s σ H _ _ v us Q I rx rv ⟨_, a, ys, rfl, rfl, .inl ?_, hz, k _ F H (NewV.flat sub rfl rfl)⟩
        rw [← allStrs_reps h2 e3]; exact .inl (.inl h1)
      · cases e1
        obtain ⟨a, vs, rfl, h1, h2⟩ := hy
        refine mt_join pins s σ H _ _ v us Q I rx rv ⟨_, a, ys, rfl, rfl, .inr ?_, hz, k _ F H (NewV.flat sub rfl rfl)⟩
        rw [← allStrs_reps h2 e3]; exact Same.tseq sub h1
      · cases e1
    · cases e4
  · rename_i hm; cases hm
  · cases e
end
end Bd

namespace Bd
open PySem L2

/-! ### readings -/
/-- an exception of the program's own -/
def XR (g : Gx) (F H : Hp) (x : PX) (cls : Value) (d : Option Addr) : Prop :=
  ∃ C a ws, g.mg x.cls = some (.ref C) ∧ cls = .ref C ∧ d = some a ∧ F a = some (.xd (x.fs.zip ws)) ∧ Reps g F x.vs ws
/-- what is known behind a step of the pure run: R a value and its form in the heap; the fixed part has only grown since F0 -/
def Rd {α β : Type} (g : Gx) (W : WX) (G : Ent) (σ : L2.St) (F0 : Hp) (R : α → En → β → Hp → Hp → Prop) (m : Out α) (Q : β → Hp → Prop) : Prop :=
  match m with
  | .ok a e => ∀ b F H, Same F0 F → Sx g G e σ F H → R a e b F H → Q b H
  | .exc x e => ∀ cls d F H, Same F0 F → Sx g G e σ F H → XR g F H x cls d → W cls d σ H
  | .bad => False
theorem Rd.at {α β : Type} {g : Gx} {W : WX} {G : Ent} {σ : L2.St} {F0 F1 : Hp} {R : α → En → β → Hp → Hp → Prop} {m : Out α} {Q : β → Hp → Prop} (h : Rd g W G σ F0 R m Q) (s : Same F0 F1) : Rd g W G σ F1 R m Q := by
  cases m with
  | ok a e => exact fun b F H s1 => h b F H (s.trans s1)
  | exc x e => exact fun c d F H s1 => h c d F H (s.trans s1)
  | bad => exact h
theorem Rd.bind {α β γ δ : Type} {g : Gx} {W : WX} {G : Ent} {σ : L2.St} {F0 : Hp} {R : α → En → β → Hp → Hp → Prop} {S : γ → En → δ → Hp → Hp → Prop} {m : Out α} {k : α → En → Out γ} {Q : δ → Hp → Prop} {Q' : β → Hp → Prop}
    (h : Rd g W G σ F0 S (m.bind k) Q) (f : ∀ a e b F H, Same F0 F → Sx g G e σ F H → R a e b F H → Rd g W G σ F S (k a e) Q → Q' b H) : Rd g W G σ F0 R m Q' := by
  cases m with
  | ok a e => exact fun b F H sm s r => f a e b F H sm s r (Rd.at h sm)
  | exc x e => exact h
  | bad => exact h
/-- the two ways a value is asked -/
abbrev RV (g : Gx) (G : Ent) (σ : L2.St) : PV × Fl → En → V → Hp → Hp → Prop := fun r e v F H => VR g G e σ F H r v
abbrev RB : Bool → En → Bool → Hp → Hp → Prop := fun b _ c _ _ => c = b
def OR (g : Gx) (σ : L2.St) (F : Hp) : Opd → V → Prop
  | .val p, v => Rep g F p v
  | .slot i, v => σ[i]? = some (some v)
abbrev RO (g : Gx) (σ : L2.St) : Opd → En → V → Hp → Hp → Prop := fun o _ v F _ => OR g σ F o v
def ORs (g : Gx) (σ : L2.St) (F : Hp) : List Opd → List V → Prop
  | [], vs => vs = []
  | o :: os, vs => ∃ v r, vs = v :: r ∧ OR g σ F o v ∧ ORs g σ F os r
abbrev ROs (g : Gx) (σ : L2.St) : List Opd → En → List V → Hp → Hp → Prop := fun o _ v F _ => ORs g σ F o v
abbrev RF (g : Gx) : List PV → En → List V → Hp → Hp → Prop := fun ps _ vs F _ => Reps g F ps vs
abbrev RP : Option Int → En → Option Int → Hp → Hp → Prop := fun b _ c _ _ => c = b

def tG {α β : Type} (g : Gx) (W : WX) (R : Ent → L2.St → α → En → β → Hp → Hp → Prop) (f : En → Out α) : L2.St → Hp → (β → Hp → Prop) → Prop :=
  fun σ H Q => ∃ G env F, Sx g G env σ F H ∧ Rd g W G σ F (R G σ) (f env) Q
abbrev tE (g : Gx) (W : WX) (f : En → Out (PV × Fl)) : TE := tG g W (fun G σ => RV g G σ) f
abbrev tT (g : Gx) (W : WX) (f : En → Out Bool) : TT := tG g W (fun _ _ => RB) f
abbrev tO (g : Gx) (W : WX) (f : En → Out Opd) : TE := tG g W (fun _ σ => RO g σ) f
abbrev tOs (g : Gx) (W : WX) (f : En → Out (List Opd)) : TA := tG g W (fun _ σ => ROs g σ) f
abbrev tF (g : Gx) (W : WX) (f : En → Out (List PV)) : TA := tG g W (fun _ _ => RF g) f
abbrev tP (g : Gx) (W : WX) (f : En → Out (Option Int)) : TO := tG g W (fun _ _ => RP) f

theorem _root_.L2.PE.imp {X : Cx} {e : Expr} {t t' : TE} (h : PE X e t) (k : ∀ σ H Q, t' σ H Q → t σ H Q) : PE X e t' := ⟨fun pins s σ H Q I q => h.run pins s σ H Q I (k σ H Q q)⟩
theorem _root_.L2.PE.weak {X : Cx} {e : Expr} {t : TE} (h : PE X e t) : PE X e (fun σ H Q => ∃ Q0 : VK, t σ H Q0 ∧ ∀ x H', Q0 x H' → Q x H') :=
  ⟨fun pins s σ H Q I q => by
    obtain ⟨Q0, q0, k⟩ := q
    exact thn (h.run pins s σ H Q0 I q0) fun v s1 ⟨x, H1, I1, r1, q1⟩ => ⟨x, H1, I1, r1, k _ _ q1⟩⟩
theorem _root_.L2.PT.imp {X : Cx} {e : Expr} {t t' : TT} (h : PT X e t) (k : ∀ σ H Q, t' σ H Q → t σ H Q) : PT X e t' := ⟨fun pins s σ H Q I q => h.run pins s σ H Q I (k σ H Q q)⟩
theorem _root_.L2.PW.imp {X : Cx} {e : Expr} {t t' : TT} (h : PW X e t) (k : ∀ σ H Q, t' σ H Q → t σ H Q) : PW X e t' := ⟨fun wh pins s σ H Q I q => h.run wh pins s σ H Q I (k σ H Q q)⟩
theorem _root_.L2.PA.imp {X : Cx} {e : List Expr} {t t' : TA} (h : PA X e t) (k : ∀ σ H Q, t' σ H Q → t σ H Q) : PA X e t' := ⟨fun pos pins s σ H Q I q => h.run pos pins s σ H Q I (k σ H Q q)⟩
theorem _root_.L2.PO.imp {X : Cx} {e : Option Expr} {t t' : TO} (h : PO X e t) (k : ∀ σ H Q, t' σ H Q → t σ H Q) : PO X e t' := ⟨fun pins s σ H Q I q => h.run pins s σ H Q I (k σ H Q q)⟩

section
variable {g : Gx} {G : Ent} {env : En} {σ : L2.St} {F H F' H' : Hp}
/-- a slot, read -/
theorem Sx.peek (S : Sx g G env σ F H) {i : Nat} {p : PV} {fl : Fl} (e : env[i]? = some (some (p, fl))) : ∃ v, σ[i]? = some (some v) ∧ PR g F H p v := by
  by_cases hf : fl = .fz
  · subst hf
    obtain ⟨v, e1, r⟩ := S.fz i p e
    exact ⟨v, e1, r.pr S.sub⟩
  · obtain ⟨a, e1, _, o, _⟩ := S.own i p fl e hf
    exact ⟨_, e1, o.pr⟩
theorem Sx.rs (S : Sx g G env σ F H) {o : Opd} {p : PV} {v : V} (e : rsO env o = some p) (r : OR g σ F o v) : PR g F H p v := by
  cases o with
  | val q => cases e; exact Rep.pr S.sub r
  | slot i =>
    have e0 : (match env[i]? with
      | some (some (p, _)) => some p
      | _ => none) = some p := e
    split at e0
    · rename_i q fl h
      cases e0
      obtain ⟨w, e1, e2⟩ := S.peek h
      have r' : σ[i]? = some (some v) := r
      rw [e1] at r'; cases r'
      exact e2
    · cases e0
theorem Sx.rss (S : Sx g G env σ F H) : ∀ {os : List Opd} {ps : List PV} {vs : List V}, rsOs env os = some ps → ORs g σ F os vs → PRs g F H ps vs
  | [], _, _, e, r => by cases e; cases r; rfl
  | o :: os, _, _, e, r => by
    obtain ⟨p, e1, e2⟩ := Option.bind_eq_some_iff.mp (show (rsO env o).bind (fun p => (rsOs env os).map (p :: ·)) = _ from e)
    obtain ⟨ps, e3, e4⟩ := Option.map_eq_some_iff.mp e2
    subst e4
    obtain ⟨v, vr, rfl, r1, r2⟩ := r
    exact ⟨v, vr, rfl, S.rs e1 r1, S.rss e3 r2⟩
theorem OR.mono (sF : Same F F') : ∀ {o : Opd} {v : V}, OR g σ F o v → OR g σ F' o v
  | .val p, _, h => Rep.mono sF p h
  | .slot _, _, h => h
theorem Sx.new (S : Sx g G env σ F H) {r : PV} {v : V} (h : NewV g F H F' H' r v) : Sx g G env σ F' H' ∧ VR g G env σ F' H' (r, flOf r) v := by
  obtain ⟨n, h⟩ := h
  refine ⟨S.grow n.sF n.sH n.sub n.nf, ?_⟩
  unfold VR
  cases q : flOf r with
  | fz => rw [q] at h; exact h
  | bor => cases r <;> cases q
  | own =>
    rw [q] at h
    obtain ⟨a, e1, e2, e3, e4⟩ := h
    refine ⟨a, e1, e3, e4, ?_, fun i p hi hf z => ?_⟩
    · cases w : G.H a with
      | none => rfl
      | some o =>
        obtain ⟨o', e⟩ := S.th a o w
        rw [e2] at e; cases e
    · obtain ⟨b, e5, _, o, _⟩ := S.own i p.1 p.2 hi hf
      rw [z] at e5; cases e5
      obtain ⟨ob, e6⟩ := o.here
      rw [e2] at e6; cases e6
/-- a value is fixed -/
theorem Sx.fix (S : Sx g G env σ F H) {r : PV × Fl} {v : V} (h : VR g G env σ F H r v) : ∃ F', Sx g G env σ F' H ∧ Rep g F' r.1 v ∧ Same F F' := by
  obtain ⟨p, fl⟩ := r
  cases fl with
  | fz => exact ⟨F, S, h, .refl _⟩
  | bor => exact h.elim
  | own =>
    obtain ⟨a, rfl, e2, e3, e4, e5⟩ := h
    obtain ⟨o, e⟩ := e3.here
    exact ⟨upd F a o, S.freeze e e2 (.inl e4) e5, e3.rep e e2, same_upd e2⟩
end

/-! ### the check that the small language is the text's -/
def isStar : Expr → Bool
  | .Starred .. => true
  | _ => false
def isSetX : Expr → Bool
  | .Set .. => true
  | _ => false
def isSliceX : Expr → Bool
  | .Slice .. => true
  | _ => false
def isLC : Expr → Bool
  | .ListComp .. => true
  | .SetComp .. => true
  | .DictComp .. => true
  | _ => false
/-- a test by its value's truth alone -/
def plainTest : Expr → Bool
  | .UnaryOp .. => false
  | .BoolOp .. => false
  | .IfExp .. => false
  | .Compare .. => false
  | _ => true
/-- super() is not there -/
def plainBase : Expr → Bool
  | .Call (.Name _ _) [] [] _ => false
  | _ => true
def visB (sc : Scope) (x : Str) : Bool :=
  (match sc.names.lookup x with
  | some .local => true
  | some .cell => true
  | some .free => true
  | _ => false) && !(x == ("__debug__" : Str)) && !(x == ("__classdict__" : Str))
def glB (sc : Scope) (x : Str) : Bool :=
  (match sc.names.lookup x with
  | some .globalImplicit => true
  | _ => false) && !(x == ("__debug__" : Str))
def tyStr : TyN → Str
  | .none => "NoneType"
  | .bool => "bool"
  | .int => "int"
  | .str => "str"
  | .tuple => "tuple"
  | .list => "list"
  | .dict => "dict"
  | .set => "set"
def locB (sc : Scope) (fnb : Str → Bool) (x : Str) : Bool :=
  (match sc.names.lookup x with
  | some .local => true
  | some .cell => fnb x
  | _ => false)
def chkNames (N : List Str) (sc : Scope) (fnb : Str → Bool) : List Nat → List Expr → Bool
  | [], [] => true
  | i :: is, .Name x _ :: es => decide (N[i]? = some x) && locB sc fnb x && chkNames N sc fnb is es
  | _, _ => false
def chkG (N : List Str) (sc : Scope) (fnb : Str → Bool) : IG → Expr → Bool
  | .nm i, .Name x _ => decide (N[i]? = some x) && locB sc fnb x
  | .tup is, .Tuple es _ _ => chkNames N sc fnb is es
  | _, _ => false
/-- the names that a comprehension's scope has of its own, with their slots -/
def ownOf (N : List Str) (own : List Nat) : List (Str × Nat) := own.filterMap fun i => (N[i]?).map fun x => (x, i)
def subSet (a b : List Nat) : Bool := a.all fun i => b.contains i
def slotsG : IG → List Nat
  | .nm i => [i]
  | .tup is => is

def mthOk : Mth → Bool
  | .split => true
  | .join => true
  | .index => true
  | _ => false
def isNo : IE → Bool
  | .no => true
  | _ => false
def isTup : Expr → Bool
  | .Tuple .. => true
  | _ => false
/-- f(..) of a built-in name, no keywords -/
def callOf (y : Str) (sc : Scope) : Expr → Option (List Expr)
  | .Call (.Name x _) es [] _ => if x = y ∧ glB sc x = true then some es else none
  | _ => none
def cKey (k : Key) : Expr → Bool
  | .Constant (.str y) _ _ => decide (k = .inr y)
  | .Constant (.int i) _ _ => decide (k = .inl i)
  | _ => false
def cPVe : PV → Expr → Bool
  | .str z, .Constant (.str y) _ _ => decide (z = y)
  | .int z, .Constant (.int y) _ _ => decide (z = y)
  | .bl z, .Constant (.bool y) _ _ => decide (z = y)
  | .non, .Constant .none _ _ => true
  | _, _ => false
def chkD : List Key → List PV → List (Option Expr) → List Expr → Bool
  | [], [], [], [] => true
  | k :: ks, x :: xs, some e :: es, v :: vs => cKey k e && cPVe x v && chkD ks xs es vs
  | _, _, _, _ => false
mutual
def chkM (N : List Str) : IE → Option Expr → Scope → Expr → Bool
  | .var i, none, sc, .Name x _ => decide (N[i]? = some x) && visB sc x
  | .int i, none, _, .Constant (.int j) _ _ => decide (i = j)
  | .str x, none, _, .Constant (.str y) _ _ => decide (x = y)
  | .bl b, none, _, .Constant (.bool c) _ _ => decide (b = c)
  | .non, none, _, .Constant .none _ _ => true
  | .cst x, none, sc, .Name y _ => decide (x = y) && glB sc x
  | .fnv x, none, sc, .Name y _ => decide (x = y) && glB sc x
  | .tyv t, none, sc, .Name y _ => decide (tyStr t = y) && glB sc y && !(decide (t = .none))
  | .bin op a b, none, sc, .BinOp l o r _ => decide (op = o) && chkM N a none sc l && chkM N b none sc r
  | .un op a, none, sc, .UnaryOp o l _ => decide (op = o) && chkM N a none sc l && !decide (op = .Not)
  | .not a, none, sc, .UnaryOp .Not l _ => chkM N a none sc l
  | .cmp op a b, none, sc, .Compare l [o] [r] _ => decide (op = o) && chkM N a none sc l && chkM N b none sc r && !isSetX r
  | .chn op op' a b c, none, sc, .Compare l [o, o'] [r, q] _ => decide (op = o) && decide (op' = o') && chkM N a none sc l && chkM N b none sc r && chkM N c none sc q && !isSetX r && !isSetX q
  | .and a b, none, sc, .BoolOp .And (x :: y :: r) p => chkM N a none sc x && (match r with
    | [] => chkM N b none sc y
    | z :: r => chkM N b none sc (.BoolOp .And (y :: z :: r) p))
  | .or a b, none, sc, .BoolOp .Or (x :: y :: r) p => chkM N a none sc x && (match r with
    | [] => chkM N b none sc y
    | z :: r => chkM N b none sc (.BoolOp .Or (y :: z :: r) p))
  | .ife c a b, none, sc, .IfExp t l r _ => chkM N c none sc t && chkM N a none sc l && chkM N b none sc r
  | .tup as, none, sc, .Tuple es _ _ => chkA N as sc es
  | .lst as, none, sc, .List es _ => chkA N as sc es
  | .sub a b, none, sc, .Subscript o i _ => chkM N a none sc o && chkM N b none sc i && !isSliceX i
  | .slc a lo hi, none, sc, .Subscript o (.Slice l h none _) _ => chkM N a none sc o && (match l with
    | none => isNo lo
    | some e => chkM N lo none sc e) && (match h with
    | none => isNo hi
    | some e => chkM N hi none sc e)
  | .call f as, none, sc, .Call (.Name x _) es [] _ => decide (f = x) && glB sc x && chkA N as sc es
  | .callk f n ks ap ak, none, sc, .Call (.Name x _) es (k :: kws) _ => decide (f = x) && glB sc x && chkA N ap sc es && chkK N ak sc ks (k :: kws)
  | .blt f as, none, sc, .Call (.Name x _) (e :: es) [] _ => decide (f.name = x) && glB sc x && chkA N as sc (e :: es)
  | .mth m o as, none, sc, .Call (.Attribute q x ap) [e] [] cp => mthOk m && decide (m.name = x) && chkM N o none sc q && chkA N as sc [e] && plainBase q && (ap.endLine == cp.line)
  | .comp own g it cond elt, none, sc, .ListComp e [⟨tg, iter, ifs, ay⟩] scope _ => decide (ay = 0) && chkM N it (some tg) sc iter && blkC N sc scope (ownOf N own) && decide ((ownOf N own).map (·.2) = own) && subSet (slotsG g) own
      && chkG N (relS scope sc) (fun x => scope.names.lookup x == some .cell) g tg && (match ifs with
        | [] => isNo cond
        | [c] => chkM N cond none (relS scope sc) c
        | _ => false) && chkM N elt none (relS scope sc) e && !isSetX iter
  | .dnew _, none, _, .Dict [] [] _ => true
  | .ddis ks xs, none, _, .Dict es vs _ => chkD ks xs es vs && decide ks.Nodup && decide (ks.length ≤ 15) && !ks.isEmpty
  | .mk0 c, none, sc, .Call (.Name x _) [] [] _ => decide (c = x) && glB sc x
  | .mk1 c a, none, sc, .Call (.Name x _) [e] [] _ => decide (c = x) && glB sc x && chkM N a none sc e && !isStar e
  | .mkk c q a, none, sc, .Call (.Name x _) [] [⟨some y, e, _⟩] _ => decide (c = x) && decide (q = y) && glB sc x && chkM N a none sc e
  | .isx a c, none, sc, .Call (.Name y _) [e, .Name x _] [] _ => decide (y = "isinstance") && decide (c = x) && glB sc y && glB sc x && chkM N a none sc e && !isStar e
  | .fld a f, none, sc, .Attribute q x _ => decide (f = x) && chkM N a none sc q && plainBase q
  | .callv f as, none, sc, .Call (.Subscript o i sp) es [] _ => chkM N f none sc (.Subscript o i sp) && chkA N as sc es && !es.isEmpty
  | .lidx o a, none, sc, .Call (.Attribute q x ap) [e] [] cp => decide (x = "index") && chkM N o none sc q && chkM N a none sc e && !isStar e && plainBase q && (ap.endLine == cp.line)
  | .bits a, none, sc, .Call (.Attribute q x ap) [] [] cp => decide (x = "bit_length") && chkM N a none sc q && plainBase q && (ap.endLine == cp.line)
  | .lrn1 a, none, sc, e => (match callOf "list" sc e with
      | some [f] => (match callOf "range" sc f with
        | some [x] => chkM N a none sc x && !isStar x && !isStar f
        | _ => false)
      | _ => false)
  | .lrng a b, none, sc, e => (match callOf "list" sc e with
      | some [f] => (match callOf "range" sc f with
        | some [x, y] => chkM N a none sc x && chkM N b none sc y && !isStar x && !isStar y && !isStar f
        | _ => false)
      | _ => false)
  | .sset a, none, sc, e => (match callOf "sorted" sc e with
      | some [f] => (match callOf "set" sc f with
        | some [g] => chkM N a none sc g && !isStar g && !isStar f
        | _ => false)
      | _ => false)
  | .seq a, some _, sc, iter => chkM N a none sc iter
  | .rng as, some _, sc, iter => (match callOf "range" sc iter with
      | some es => chkA N as sc es && decide (es.length ≤ 2)
      | none => false)
  | .enm a, some tg, sc, iter => (match callOf "enumerate" sc iter with
      | some [e] => chkM N a none sc e && !isStar e && isTup tg
      | _ => false)
  | .zip a b, some tg, sc, iter => (match callOf "zip" sc iter with
      | some [e, f] => chkM N a none sc e && chkM N b none sc f && !isStar e && !isStar f && isTup tg
      | _ => false)
  | _, _, _, _ => false
def chkA (N : List Str) : IE → Scope → List Expr → Bool
  | .nil, _, [] => true
  | .cons a r, sc, e :: es => chkM N a none sc e && !isStar e && chkA N r sc es
  | _, _, _ => false
def chkK (N : List Str) : IE → Scope → List Str → List Keyword → Bool
  | .nil, _, [], [] => true
  | .cons a r, sc, y :: ys, ⟨some x, e, _⟩ :: ks => decide (y = x) && chkM N a none sc e && chkK N r sc ys ks
  | _, _, _, _ => false
end
abbrev chkE (N : List Str) (a : IE) (sc : Scope) (e : Expr) : Bool := chkM N a none sc e
/-- what a for walks -/
abbrev chkI (N : List Str) (it : IE) (sc : Scope) (tg iter : Expr) : Bool := chkM N it (some tg) sc iter
end Bd

namespace Bd
open PySem L2

/-! ### calls -/
def AR (g : Gx) (F H : Hp) : List Bool → List PV → List V → Prop
  | [], ps, vs => ps = [] ∧ vs = []
  | m :: ms, ps, vs => ∃ p ps' v vs', ps = p :: ps' ∧ vs = v :: vs' ∧ (if m = true then ∃ a, v = .ref a ∧ F a = none ∧ OwnR g F H p a else Rep g F p v) ∧ AR g F H ms ps' vs'
/-- the addresses that a callee may change -/
def muts : List Bool → List V → List Addr
  | true :: ms, .ref a :: vs => a :: muts ms vs
  | _ :: ms, _ :: vs => muts ms vs
  | _, _ => []
def OutR (g : Gx) (F H : Hp) : List Addr → List PV → Prop
  | [], ps => ps = []
  | a :: as, ps => ∃ p r, ps = p :: r ∧ OwnR g F H p a ∧ OutR g F H as r
structure CPost (g : Gx) (F H : Hp) (as : List Addr) (outs : List PV) (F' H' : Hp) : Prop where
  sF : Same F F'
  sub : Same F' H'
  keep : ∀ a o, H a = some o → a ∉ as → H' a = some o
  th : ∀ a o, H a = some o → ∃ o', H' a = some o'
  nf : ∀ a o, H a = some o → F a = none → F' a = none
  outs : OutR g F' H' as outs
def CV (g : Gx) (H F' H' : Hp) (r : PV × Fl) (v : V) : Prop :=
  match r.2 with
  | .fz => Rep g F' r.1 v
  | .own => ∃ a, v = .ref a ∧ H a = none ∧ F' a = none ∧ OwnR g F' H' r.1 a
  | .bor => False
/-- what a def promises, by the pure run -/
def spF (g : Gx) (C : Cal) (f : Str) : Sp := fun vs H Q E => ∃ F ps ms, Same F H ∧ C.sig f = some ms ∧ AR g F H ms ps vs ∧ (muts ms vs).Nodup ∧
  (match C.run f ps with
  | .ok r outs => ∀ v F' H', CPost g F H (muts ms vs) outs F' H' → CV g H F' H' r v → Q v H'
  | .exc x outs => ∀ cls d F' H', CPost g F H (muts ms vs) outs F' H' → XR g F' H' x cls d → E cls d H'
  | .bad => False)
def CalOk (X : Cx) (C : Cal) (f : Str) : Prop := ∃ n fa fd ps, FnOk X.prog X.w X.K X.mg X.base (L2.CX X.prog X.w) n fa fd ps (spF (gx X) C f) ∧ Room n X.A ∧ X.mg f = some (.ref fa) ∧ PySem.W.keepIn X.K (.ref fa) = true ∧ Binds X.K fd ps [] ∧ ∀ n ks pm, C.kw f n ks = some pm → KBn X.K fd ps n ks (fun us ws => pick (us ++ ws) pm) (fun vs zs => pick (vs ++ zs) pm)

/-- a class by its name -/
def ClsAt (mg : Str → Option Value) (c : Str) (cv : Value) : Prop := (∃ B, mg c = some (.ref B) ∧ cv = .ref B) ∨ (mg c = none ∧ (∃ n, cv = .type n) ∧ bootBuiltins c = some cv ∧ c ≠ "__name__")
structure Cok (X : Cx) (C : Cal) (W : WX) (N : List Str) (sc : Scope) : Prop where
  hN : X.N = N
  nd : N.Nodup
  hsc : X.env.scope = sc
  calm : X.calm = true
  units : X.A.units + 64 < cLine
  un2 : X.A.units + 100 < cLine
  blt : ∀ f : Blt, X.mg f.name = none
  tys : ∀ t : TyN, t ≠ .none → X.mg (tyStr t) = none
  rng : X.mg "range" = none
  enm : X.mg "enumerate" = none
  zip : X.mg "zip" = none
  takes : Takes X W
  cst : ∀ x v, C.cst x = some v → ∃ w u, X.mg x = some u ∧ RelV w u ∧ Rep (gx X) (fun _ => none) v w
  cal : ∀ f sg, C.sig f = some sg → CalOk X C f
  exc : ∀ c f, C.exf c = some f → ∃ q, ExcK X.prog X.w X.K X.mg X.base c f q ∧ C.exq c = some q ∧ Room 2 X.A
  exz : ∀ c f, C.ex0 c = some f → Exc0 X.prog X.w X.K X.mg X.base c f ∧ Room 2 X.A
  icl : ∀ c, C.icl c = true → ∃ cv, ClsAt X.mg c cv
  isx : ∀ d c b, C.isx d c = some b → ∀ cv, ClsAt X.mg c cv → ∃ A, X.mg d = some (.ref A) ∧ ExcC X.K A ∧ PySem.W.kitOne X.K (.ref A) cv = some b
  und : ∀ a b, C.und a b = true → ∃ A B, X.mg a = some (.ref A) ∧ X.mg b = some (.ref B) ∧ PySem.W.exmOne X.K (.ref A) (.ref B) = some true

theorem band {a b : Bool} (h : (a && b) = true) : a = true ∧ b = true := Bool.and_eq_true_iff.mp h
theorem nott {a : Bool} (h : (!a) = true) : a = false := by cases a <;> simp_all

section
variable {X : Cx} {C : Cal} {W : WX} {N : List Str} {sc : Scope}

theorem Cok.vis (K : Cok X C W N sc) {x : Str} (h : visB sc x = true) : Vis X.env.scope x ∧ (x == ("__debug__" : Str)) = false ∧ (x == ("__classdict__" : Str)) = false := by
  obtain ⟨h12, h3⟩ := band h
  obtain ⟨h1, h2⟩ := band h12
  refine ⟨?_, nott h2, nott h3⟩
  rw [K.hsc]
  unfold Vis
  split at h1
  · exact .inl (by assumption)
  · exact .inr (.inl (by assumption))
  · exact .inr (.inr (by assumption))
  · cases h1
theorem Cok.gl (K : Cok X C W N sc) {x : Str} (h : glB sc x = true) : Gl X x ∧ (x == ("__debug__" : Str)) = false := by
  obtain ⟨h1, h2⟩ := band h
  refine ⟨?_, nott h2⟩
  unfold Gl Env.kindOf
  rw [K.hsc]
  split at h1
  · assumption
  · cases h1
abbrev CE (X : Cx) (C : Cal) (W : WX) (a : IE) (e : Expr) : Prop := PE X e (tE (gx X) W (ev C a).1) ∧ PT X e (tT (gx X) W (ev C a).2)

theorem star_cons (env : Env) {e : Expr} (es : List Expr) (h : isStar e = false) : starEach (e :: es) env = (false, eval e env) :: starEach es env := by
  cases e <;> first | rfl | cases h
theorem truth_plain {e : Expr} (env : Env) (h : plainTest e = true) : ∀ whole, isTrue e env whole = (do let v ← whole; standAt e.pos; holding [v] (truthy v)) := by
  intro whole
  cases e <;> first | rfl | cases h

/-- a value, then its truth -/
theorem pt_of {f : En → Out (PV × Fl)} {e : Expr} (he : plainTest e = true) (h : PE X e (tE (gx X) W f)) : PT X e (tT (gx X) W (vt f).2) := by
  refine (pt_truth h (truth_plain X.env he)).imp fun σ H Q q => ?_
  obtain ⟨G, env, F, S, r⟩ := q
  refine ⟨G, env, F, S, Rd.bind r fun a e1 b F1 H1 sm S1 r1 q1 => ?_⟩
  obtain ⟨F2, S2, r2, sm2⟩ := S1.fix r1
  unfold liftB at q1
  split at q1
  · rename_i k hk
    exact ⟨k, truth_pv S2.sub (r2.pr S2.sub) hk, q1 k F2 H1 sm2 S2 rfl⟩
  · exact q1.elim
theorem ce_vt {a : IE} {f : En → Out (PV × Fl)} {e : Expr} (ha : ev C a = vt f) (he : plainTest e = true) (h : PE X e (tE (gx X) W f)) : CE X C W a e := by
  unfold CE
  rw [ha]
  exact ⟨h, pt_of he h⟩
/-- a plain value -/
theorem tC_ok {v : V} {p : PV} {f : En → Out (PV × Fl)} (hf : ∀ e, f e = .ok (p, .fz) e) (hr : ∀ F, Rep (gx X) F p v) : ∀ σ H Q, tE (gx X) W f σ H Q → tC v σ H Q := fun σ H Q q => by
  obtain ⟨G, env, F, S, r⟩ := q
  rw [hf] at r
  exact r v F H (.refl _) S (hr F)

theorem ce_int {i : Int} {j : Nat} {pos : Pos} : CE X C W (.int i) (.Constant (.int i) j pos) := ce_vt rfl rfl (L2.PE.imp pe_int (tC_ok (fun _ => rfl) fun _ => rfl))
theorem ce_str {i : Str} {j : Nat} {pos : Pos} : CE X C W (.str i) (.Constant (.str i) j pos) := ce_vt rfl rfl (L2.PE.imp pe_str (tC_ok (fun _ => rfl) fun _ => rfl))
theorem ce_bl {i : Bool} {j : Nat} {pos : Pos} : CE X C W (.bl i) (.Constant (.bool i) j pos) := ce_vt rfl rfl (L2.PE.imp pe_bl (tC_ok (fun _ => rfl) fun _ => rfl))
theorem ce_non {j : Nat} {pos : Pos} : CE X C W .non (.Constant .none j pos) := ce_vt rfl rfl (L2.PE.imp pe_non (tC_ok (fun _ => rfl) fun _ => rfl))
theorem ce_cst (K : Cok X C W N sc) {x : Str} {pos : Pos} (hg : glB sc x = true) : CE X C W (.cst x) (.Name x pos) := by
  obtain ⟨h1, h2⟩ := K.gl hg
  cases q : C.cst x with
  | none =>
    have e : ∀ e, (ev C (.cst x)).1 e = .bad := fun e => by show fzO (C.cst x) e = _; rw [q]; rfl
    refine ce_vt (f := fun e => fzO (C.cst x) e) rfl rfl ⟨fun pins s σ H Q I h => ?_⟩
    obtain ⟨G, env, F, S, r⟩ := h
    rw [q] at r
    exact r.elim
  | some v =>
    obtain ⟨w, u, e1, e2, e3⟩ := K.cst x v q
    refine ce_vt (f := fun e => fzO (C.cst x) e) rfl rfl (L2.PE.imp (pe_glob h1 e1 e2 h2) (tC_ok (p := v) (fun e => by rw [q]; rfl) fun F => e3.mono fun _ _ z => by cases z))
theorem ce_fnv (K : Cok X C W N sc) {x : Str} {pos : Pos} (hg : glB sc x = true) : CE X C W (.fnv x) (.Name x pos) := by
  obtain ⟨h1, h2⟩ := K.gl hg
  cases q : C.sig x with
  | none =>
    refine ce_vt (f := fun e => okIf (C.sig x).isSome (.fn x, .fz) e) rfl rfl ⟨fun pins s σ H Q I h => ?_⟩
    obtain ⟨G, env, F, S, r⟩ := h
    rw [q] at r
    exact r.elim
  | some sg =>
    obtain ⟨n, fa, fd, ps, _, _, m, _⟩ := K.cal x sg q
    exact ce_vt (f := fun e => okIf (C.sig x).isSome (.fn x, .fz) e) rfl rfl (L2.PE.imp (pe_glob h1 m (v := .ref fa) rfl h2) (tC_ok (p := .fn x) (fun _ => by rw [q]; rfl) fun _ => ⟨fa, rfl, m⟩))
theorem ty_boot (t : TyN) (h : t ≠ .none) : bootBuiltins (tyStr t) = some (.type t.name) ∧ tyStr t ≠ "__name__" := by
  cases t <;> first | exact absurd rfl h | exact ⟨by decide +kernel, by decide +kernel⟩
theorem ce_tyv (K : Cok X C W N sc) {t : TyN} {pos : Pos} (hg : glB sc (tyStr t) = true) (ht : t ≠ .none) : CE X C W (.tyv t) (.Name (tyStr t) pos) := by
  obtain ⟨h1, h2⟩ := K.gl hg
  obtain ⟨b1, b2⟩ := ty_boot t ht
  exact ce_vt rfl rfl (L2.PE.imp (pe_bltn h1 (K.tys t ht) b1 (v := .ty t.name) rfl b2 h2) (tC_ok (fun _ => rfl) fun _ => rfl))

theorem Sx.freezeSlot {g : Gx} {G : Ent} {env : En} {σ : L2.St} {F H : Hp} (S : Sx g G env σ F H) {i : Nat} {p : PV} (e : env[i]? = some (some (p, .own))) :
    ∃ F' v, Sx g G (env.set i (some (p, .fz))) σ F' H ∧ σ[i]? = some (some v) ∧ Rep g F' p v ∧ Same F F' := by
  obtain ⟨a, e1, e2, e3, e4, e5⟩ := S.own i p .own e (by simp)
  obtain ⟨o, eo⟩ := e3.here
  have hi : i < env.length := (List.getElem?_eq_some_iff.mp e).1
  have rp := e3.rep eo e2
  have sm : Same F (upd F a o) := same_upd e2
  -- first the slot is forgotten, then the object is fixed
  have get : ∀ (j : Nat) q, (env.set i (some (p, .fz)))[j]? = some (some q) → (j = i ∧ q = (p, .fz)) ∨ (j ≠ i ∧ env[j]? = some (some q)) := fun j q h => by
    by_cases hj : i = j
    · subst hj
      rw [List.getElem?_set_self hi] at h
      cases h; exact .inl ⟨rfl, rfl⟩
    · rw [List.getElem?_set_ne hj] at h
      exact .inr ⟨fun z => hj z.symm, h⟩
  have S1 : Sx g G (env.set i (some (p, .fz))) σ (upd F a o) H := by
    refine ⟨fun b x q => ?_, S.f0.trans sm, S.h0, fun b x h1 h2 h3 => ?_, S.th, by simpa using S.len, fun j pv h => ?_, fun j pv fl h hf => ?_, fun j k q r b h1 f1 h2 f2 s1 s2 => ?_, fun j pv h => ?_⟩
    · by_cases hb : b = a
      · subst hb; rw [upd_same] at q; cases q; exact eo
      · rw [upd_ne hb] at q; exact S.sub b x q
    · have hb : b ≠ a := by
        rintro rfl
        rcases e5 rfl with z | z
        · exact h3 z
        · rw [h1] at z; cases z
      rw [upd_ne hb]; exact S.nf b x h1 h2 h3
    · rcases get j _ h with ⟨rfl, hq⟩ | ⟨hj, hq⟩
      · cases hq; exact ⟨_, e1, rp⟩
      · obtain ⟨v, e6, r⟩ := S.fz j pv hq
        exact ⟨v, e6, r.mono sm⟩
    · rcases get j _ h with ⟨rfl, hq⟩ | ⟨hj, hq⟩
      · cases hq; exact absurd rfl hf
      · obtain ⟨b, f1, f2, f3, f4, f5⟩ := S.own j pv fl hq hf
        have hb : b ≠ a := by
          rintro rfl
          exact hj (S.inj j i _ _ b hq hf e (by simp) f1 e1)
        exact ⟨b, f1, by rw [upd_ne hb]; exact f2, f3.mono sm fun _ z => z, f4, f5⟩
    · rcases get j _ h1 with ⟨rfl, hq⟩ | ⟨hj, hq⟩
      · subst hq; exact absurd rfl f1
      · rcases get k _ h2 with ⟨rfl, hr⟩ | ⟨hk, hr⟩
        · subst hr; exact absurd rfl f2
        · exact S.inj j k q r b hq f1 hr f2 s1 s2
    · rcases get j _ h with ⟨rfl, hq⟩ | ⟨hj, hq⟩
      · cases hq
      · exact S.bo j pv hq
  exact ⟨_, _, S1, e1, rp, sm⟩

theorem ce_var (K : Cok X C W N sc) {i : Nat} {x : Str} {pos : Pos} (hN : N[i]? = some x) (hv : visB sc x = true) : CE X C W (.var i) (.Name x pos) := by
  obtain ⟨v1, v2, v3⟩ := K.vis hv
  have hN' : X.N[i]? = some x := by rw [K.hN]; exact hN
  have pv : PE X (.Name x pos) (tVar i) := pe_var hN' v1 v2 v3
  constructor
  · refine pv.imp fun σ H Q q => ?_
    obtain ⟨G, env, F, S, r⟩ := q
    have r' : Rd (gx X) W G σ F (RV (gx X) G σ) (evVar i env) Q := r
    unfold evVar at r'
    split at r'
    · rename_i p h
      obtain ⟨v, e1, e2⟩ := S.fz i p h
      exact ⟨v, e1, r' v F H (.refl _) S e2⟩
    · rename_i p h
      obtain ⟨F', v, S', e1, e2, sm⟩ := S.freezeSlot h
      exact ⟨v, e1, r' v F' H sm S' e2⟩
    · exact r'.elim
  · refine (pt_truth pv (truth_plain X.env rfl)).imp fun σ H Q q => ?_
    obtain ⟨G, env, F, S, r⟩ := q
    have r' : Rd (gx X) W G σ F RB (tsVar i env) Q := r
    unfold tsVar at r'
    split at r'
    · rename_i p fl h
      obtain ⟨v, e1, e2⟩ := S.peek h
      unfold liftB at r'
      split at r'
      · rename_i k hk
        exact ⟨v, e1, k, truth_pv S.sub e2 hk, r' k F H (.refl _) S rfl⟩
      · exact r'.elim
    · exact r'.elim

/-- an operand -/
theorem ce_opd (K : Cok X C W N sc) {a : IE} {e : Expr} (hc : chkE N a sc e = true) (h : CE X C W a e) : PE X e (tO (gx X) W (opd a (ev C a).1)) := by
  have gen : (∀ i, a ≠ .var i) → PE X e (tO (gx X) W (opd a (ev C a).1)) := fun hn => by
    have eo : ∀ env, opd a (ev C a).1 env = ((ev C a).1 env).bind fun r e1 => .ok (.val r.1) e1 := fun env => by
      cases a <;> first | rfl | exact absurd rfl (hn _)
    refine h.1.imp fun σ H Q q => ?_
    obtain ⟨G, env, F, S, r⟩ := q
    rw [eo] at r
    refine ⟨G, env, F, S, Rd.bind r fun a e1 b F1 H1 sm S1 r1 q1 => ?_⟩
    obtain ⟨F2, S2, r2, sm2⟩ := S1.fix r1
    exact q1 b F2 H1 sm2 S2 r2
  cases a with
  | var i =>
    cases e <;> try (cases hc; done)
    rename_i x pos
    obtain ⟨h1, h2⟩ := band (show (decide (N[i]? = some x) && visB sc x) = true from hc)
    obtain ⟨v1, v2, v3⟩ := K.vis h2
    have hN' : X.N[i]? = some x := by rw [K.hN]; exact of_decide_eq_true h1
    refine (pe_var hN' v1 v2 v3).imp fun σ H Q q => ?_
    obtain ⟨G, env, F, S, r⟩ := q
    have r' : Rd (gx X) W G σ F (RO (gx X) σ) (match env[i]? with
      | some (some _) => .ok (.slot i) env
      | _ => .bad) Q := r
    split at r'
    · rename_i p h
      obtain ⟨v, e1, e2⟩ := S.peek (fl := p.2) h
      exact ⟨v, e1, r' v F H (.refl _) S e1⟩
    · exact r'.elim
  | _ => exact gen (fun i z => by cases z)

/-- two operands, then an operation -/
theorem two_of {α : Type} {fa fb : En → Out Opd} {R : R2} {R' : Ent → L2.St → α → En → V → Hp → Hp → Prop} {k : Opd → Opd → En → Out α}
    (hR : ∀ G σ x y e F H v w Q, Sx (gx X) G e σ F H → OR (gx X) σ F x v → OR (gx X) σ F y w → Rd (gx X) W G σ F (R' G σ) (k x y e) Q → R v w H Q) :
    ∀ σ H Q, tG (gx X) W R' (fun e => (fa e).bind fun x e1 => (fb e1).bind fun y e2 => k x y e2) σ H Q → tOp R (tO (gx X) W fa) (tO (gx X) W fb) σ H Q := fun σ H Q q => by
  obtain ⟨G, env, F, S, r⟩ := q
  refine ⟨G, env, F, S, Rd.bind r fun x e1 v F1 H1 sm1 S1 r1 q1 => ?_⟩
  refine ⟨G, e1, F1, S1, Rd.bind q1 fun y e2 w F2 H2 sm2 S2 r2 q2 => ?_⟩
  exact hR G σ x y e2 F2 H2 v w Q S2 (r1.mono sm2) r2 q2
theorem liftO_new {G : Ent} {σ : L2.St} {e : En} {F H : Hp} {o : Option PV} {Q : VK} (S : Sx (gx X) G e σ F H) (h : Rd (gx X) W G σ F (RV (gx X) G σ) (liftO o e) Q) :
    ∃ r, o = some r ∧ ∀ v F' H', NewV (gx X) F H F' H' r v → Q v H' := by
  cases o with
  | none => exact h.elim
  | some r =>
    refine ⟨r, rfl, fun v F' H' n => ?_⟩
    obtain ⟨S', v'⟩ := S.new n
    exact h v F' H' n.1.sF S' v'
theorem ce_bin (K : Cok X C W N sc) {a b : IE} {l r : Expr} {op : Operator} {pos : Pos} (ca : chkE N a sc l = true) (cb : chkE N b sc r = true) (ha : CE X C W a l) (hb : CE X C W b r) : CE X C W (.bin op a b) (.BinOp l op r pos) := by
  refine ce_vt rfl rfl ((pe_op (op_bin op) (ce_opd K ca ha) (ce_opd K cb hb)).imp (two_of fun G σ x y e F H v w Q S r1 r2 q => ?_))
  obtain ⟨r, e1, k⟩ := liftO_new S q
  obtain ⟨p, e2, e3⟩ := Option.bind_eq_some_iff.mp e1
  obtain ⟨q, e4, e5⟩ := Option.bind_eq_some_iff.mp e3
  exact ⟨F, p, q, r, S.sub, S.rs e2 r1, S.rs e4 r2, e5, k⟩
theorem ce_un (K : Cok X C W N sc) {a : IE} {l : Expr} {op : UnaryOp} {pos : Pos} (ca : chkE N a sc l = true) (ha : CE X C W a l) (hop : op ≠ .Not) : CE X C W (.un op a) (.UnaryOp op l pos) := by
  have h : PE X (.UnaryOp op l pos) (tE (gx X) W (ev C (.un op a)).1) := (pe_un (op_un op) (ce_opd K ca ha)).imp fun σ H Q q => by
    obtain ⟨G, env, F, S, r⟩ := q
    refine ⟨G, env, F, S, Rd.bind r fun x e1 v F1 H1 sm S1 r1 q1 => ?_⟩
    obtain ⟨r, e1, k⟩ := liftO_new S1 q1
    obtain ⟨p, e2, e3⟩ := Option.bind_eq_some_iff.mp e1
    exact ⟨F1, p, r, S1.sub, S1.rs e2 r1, e3, k⟩
  refine ⟨h, ?_⟩
  have he : ∀ whole, isTrue (.UnaryOp op l pos) X.env whole = (do let v ← whole; standAt (Expr.UnaryOp op l pos).pos; holding [v] (truthy v)) := fun whole => by
    cases op <;> first | rfl | exact absurd rfl hop
  refine (pt_truth h he).imp fun σ H Q q => ?_
  obtain ⟨G, env, F, S, r⟩ := q
  refine ⟨G, env, F, S, Rd.bind r fun a e1 b F1 H1 sm S1 r1 q1 => ?_⟩
  obtain ⟨F2, S2, r2, sm2⟩ := S1.fix r1
  unfold liftB at q1
  split at q1
  · rename_i k hk
    exact ⟨k, truth_pv S2.sub (r2.pr S2.sub) hk, q1 k F2 H1 sm2 S2 rfl⟩
  · exact q1.elim
/-- a test of a bool's kind -/
theorem ce_tv {a : IE} {f : En → Out Bool} {e : Expr} (ha : ev C a = tv f) (h1 : PE X e (tE (gx X) W (tv f).1)) (h2 : PT X e (tT (gx X) W f)) : CE X C W a e := by
  unfold CE
  rw [ha]
  exact ⟨h1, h2⟩
theorem cmp2_rd {G : Ent} {σ : L2.St} {e : En} {F H : Hp} {op : CmpOp} {x y : Opd} {v w : V} {Q : Bool → Hp → Prop} (S : Sx (gx X) G e σ F H) (r1 : OR (gx X) σ F x v) (r2 : OR (gx X) σ F y w)
    (h : Rd (gx X) W G σ F RB (cmp2 op x y e) Q) : rB2 (gx X) (cmpP op) v w H fun z H' => ∃ k, z = .bl k ∧ Q k H' := by
  unfold cmp2 liftB at h
  split at h
  · rename_i b hb
    obtain ⟨p, e2, e3⟩ := Option.bind_eq_some_iff.mp hb
    obtain ⟨q, e4, e5⟩ := Option.bind_eq_some_iff.mp e3
    exact ⟨F, p, q, b, S.sub, S.rs e2 r1, S.rs e4 r2, e5, b, rfl, h b F H (.refl _) S rfl⟩
  · exact h.elim
theorem ce_not (K : Cok X C W N sc) {a : IE} {l : Expr} {pos : Pos} (ca : chkE N a sc l = true) (ha : CE X C W a l) : CE X C W (.not a) (.UnaryOp .Not l pos) := by
  constructor
  · refine (pe_notT (ce_opd K ca ha)).imp fun σ H Q q => ?_
    obtain ⟨G, env, F, S, r⟩ := q
    refine ⟨G, env, F, S, Rd.bind r fun x e1 v F1 H1 sm S1 r1 q1 => ?_⟩
    unfold liftB at q1
    split at q1
    · rename_i k hk
      obtain ⟨p, e2, e3⟩ := Option.bind_eq_some_iff.mp hk
      exact ⟨k, truth_pv S1.sub (S1.rs e2 r1) e3, q1 (.bl (!k)) F1 H1 (.refl _) S1 rfl⟩
    · exact q1.elim
  · refine (pt_not ha.2).imp fun σ H Q q => ?_
    obtain ⟨G, env, F, S, r⟩ := q
    refine ⟨G, env, F, S, Rd.bind r fun b e1 c F1 H1 sm S1 r1 q1 => ?_⟩
    have e : c = b := r1
    subst e
    exact q1 (!c) F1 H1 (.refl _) S1 rfl
theorem noset (op : CmpOp) {b : Expr} (h : isSetX b = false) : behindInMarks op b = false := by
  cases b <;> first | rfl | cases h
theorem ce_cmp (K : Cok X C W N sc) {a b : IE} {l r : Expr} {op : CmpOp} {pos : Pos} (ca : chkE N a sc l = true) (cb : chkE N b sc r = true) (hs : isSetX r = false) (ha : CE X C W a l) (hb : CE X C W b r) :
    CE X C W (.cmp op a b) (.Compare l [op] [r] pos) := by
  refine ce_tv rfl ?_ ?_
  · refine (pe_cmpR (op_cmp K.units op) (ce_opd K ca ha) (ce_opd K cb hb) (noset op hs)).imp fun σ H Q q => ?_
    obtain ⟨G, env, F, S, r⟩ := q
    have r' : Rd (gx X) W G σ F (RV (gx X) G σ) ((opd a (ev C a).1 env).bind fun x e1 => ((opd b (ev C b).1 e1).bind fun y e2 => cmp2 op x y e2).bind fun b e1 => .ok (.bl b, .fz) e1) Q := by
      have e : ∀ {α β γ : Type} (m : Out α) (f : α → En → Out β) (k : β → En → Out γ), (m.bind f).bind k = m.bind fun x e => (f x e).bind k := fun m f k => by cases m <;> rfl
      rw [← e]; exact r
    refine ⟨G, env, F, S, Rd.bind r' fun x e1 v F1 H1 sm1 S1 r1 q1 => ?_⟩
    have q1' : Rd (gx X) W G σ F1 (RV (gx X) G σ) ((opd b (ev C b).1 e1).bind fun y e2 => (cmp2 op x y e2).bind fun b e1 => .ok (.bl b, .fz) e1) Q := by
      have e : ∀ {α β γ : Type} (m : Out α) (f : α → En → Out β) (k : β → En → Out γ), (m.bind f).bind k = m.bind fun x e => (f x e).bind k := fun m f k => by cases m <;> rfl
      rw [← e]; exact q1
    refine ⟨G, e1, F1, S1, Rd.bind q1' fun y e2 w F2 H2 sm2 S2 r2 q2 => ?_⟩
    obtain ⟨F3, p, q, b, h1, h2, h3, h4, k, h5, h6⟩ := cmp2_rd (Q := fun k H' => Q (.bl k) H') S2 (r1.mono sm2) r2 (Rd.bind q2 fun k e3 c F3 H3 sm3 S3 r3 q3 => by
      have e : c = k := r3
      subst e
      exact q3 (.bl c) F3 H3 (.refl _) S3 rfl)
    cases h5
    exact ⟨F3, p, q, b, h1, h2, h3, h4, h6⟩
  · refine (pt_cmpR (op_cmp K.units op) (ce_opd K ca ha) (ce_opd K cb hb) (noset op hs)).imp fun σ H Q q => ?_
    obtain ⟨G, env, F, S, r⟩ := q
    refine ⟨G, env, F, S, Rd.bind r fun x e1 v F1 H1 sm1 S1 r1 q1 => ?_⟩
    refine ⟨G, e1, F1, S1, Rd.bind q1 fun y e2 w F2 H2 sm2 S2 r2 q2 => ?_⟩
    exact cmp2_rd S2 (r1.mono sm2) r2 q2
end
end Bd

namespace Bd
open PySem L2
theorem Out.assoc {α β γ : Type} (m : Out α) (f : α → En → Out β) (k : β → En → Out γ) : (m.bind f).bind k = m.bind fun x e => (f x e).bind k := by cases m <;> rfl
section
variable {X : Cx} {C : Cal} {W : WX} {N : List Str} {sc : Scope}
/-- a test's run, its value a bool -/
theorem tv_pe {f : En → Out Bool} {G : Ent} {σ : L2.St} {F : Hp} {env : En} {Q : VK} (h : Rd (gx X) W G σ F (RV (gx X) G σ) ((f env).bind fun b e1 => .ok (.bl b, .fz) e1) Q) : Rd (gx X) W G σ F RB (f env) fun b H => Q (.bl b) H :=
  Rd.bind h fun b e1 c F1 H1 sm S1 r1 q1 => by
    have e : c = b := r1
    subst e
    exact q1 (.bl c) F1 H1 (.refl _) S1 rfl
theorem chn_rd {op op' : CmpOp} {fa fb fc : En → Out Opd} {G : Ent} {σ : L2.St} {F H : Hp} {env : En} {Q : Bool → Hp → Prop} (S : Sx (gx X) G env σ F H)
    (h : Rd (gx X) W G σ F RB ((fa env).bind fun x e1 => (fb e1).bind fun y e2 => (cmp2 op x y e2).bind fun k e3 => if k then (fc e3).bind fun z e4 => cmp2 op' y z e4 else .ok false e3) Q) :
    tChain (rB2 (gx X) (cmpP op)) (rB2 (gx X) (cmpP op')) (tO (gx X) W fa) (tO (gx X) W fb) (tO (gx X) W fc) σ H fun z H' => ∃ k, z = .bl k ∧ Q k H' := by
  refine ⟨G, env, F, S, Rd.bind h fun x e1 v F1 H1 sm1 S1 r1 q1 => ?_⟩
  refine ⟨G, e1, F1, S1, Rd.bind q1 fun y e2 w F2 H2 sm2 S2 r2 q2 => ?_⟩
  refine cmp2_rd S2 (r1.mono sm2) r2 (Rd.bind q2 fun k e3 c F3 H3 sm3 S3 r3 q3 => ?_)
  have e : c = k := r3
  subst e
  cases c with
  | false => exact ⟨false, rfl, q3 false F3 H3 (.refl _) S3 rfl⟩
  | true =>
    refine ⟨G, e3, F3, S3, Rd.bind q3 fun z e4 u F4 H4 sm4 S4 r4 q4 => ?_⟩
    exact cmp2_rd S4 ((r2.mono sm3).mono sm4) r4 q4
theorem ce_chn (K : Cok X C W N sc) {a b c : IE} {l r q : Expr} {op op' : CmpOp} {pos : Pos} (ca : chkE N a sc l = true) (cb : chkE N b sc r = true) (cc : chkE N c sc q = true) (hs : isSetX q = false) (ha : CE X C W a l) (hb : CE X C W b r) (hc : CE X C W c q) :
    CE X C W (.chn op op' a b c) (.Compare l [op, op'] [r, q] pos) := by
  have hm : lastMarks [op, op'] [r, q] = false := noset op' hs
  refine ce_tv rfl ?_ ?_
  · refine (L2.PE.weak (pe_chain (op_cmp K.units op) (op_cmp K.units op') (ce_opd K ca ha) (ce_opd K cb hb) (ce_opd K cc hc) hm)).imp fun σ H Q q => ?_
    obtain ⟨G, env, F, S, r⟩ := q
    refine ⟨fun z H' => ∃ k, z = .bl k ∧ Q (.bl k) H', chn_rd (Q := fun b H => Q (.bl b) H) S ?_, fun z H' ⟨k, e, q⟩ => by rw [e]; exact q⟩
    exact tv_pe (f := fun e => (opd a (ev C a).1 e).bind fun x e1 => (opd b (ev C b).1 e1).bind fun y e2 => (cmp2 op x y e2).bind fun k e3 => if k then (opd c (ev C c).1 e3).bind fun z e4 => cmp2 op' y z e4 else .ok false e3) r
  · refine (pt_chain (op_cmp K.units op) (op_cmp K.units op') (ce_opd K ca ha) (ce_opd K cb hb) (ce_opd K cc hc) hm).imp fun σ H Q q => ?_
    obtain ⟨G, env, F, S, r⟩ := q
    exact chn_rd S r

/-! ### and, or, if -/
/-- the rest of a row of and's: one expression stands for itself -/
def bx (op : BoolOp) (y : Expr) (r : List Expr) (p : Pos) : Expr := match r with
  | [] => y
  | z :: r => .BoolOp op (y :: z :: r) p
theorem pe_bx {op : BoolOp} {y : Expr} {r : List Expr} {p : Pos} {t : TE} (h : PE X (bx op y r p) t) : PE X (.BoolOp op (y :: r) p) t := by
  cases r with
  | nil => exact pe_one h
  | cons z r => exact h
theorem pt_and {a b : Expr} {rest : List Expr} {pos : Pos} {ta tb : TT} (ha : PT X a ta) (hb : PT X (bx .And b rest pos) tb) : PW X (.BoolOp .And (a :: b :: rest) pos) (tAnd ta tb) := by
  refine ⟨fun wh pins s σ H Q I h => ?_⟩
  refine PyProof.Rows.isTrue_and (thn (ha.run pins s σ H _ I h) fun c s1 ⟨H1, I1, q1⟩ => ?_)
  cases c with
  | false => exact ⟨H1, I1, q1⟩
  | true =>
    cases rest with
    | nil => exact (pw_and1 hb).run wh pins s1 σ H1 Q I1 q1
    | cons z r =>
      have hb' : PT X (.BoolOp .And (b :: z :: r) pos) tb := hb
      exact thn (hb'.run pins s1 σ H1 Q I1 q1) fun _ _ z => z
theorem pt_or {a b : Expr} {rest : List Expr} {pos : Pos} {ta tb : TT} (ha : PT X a ta) (hb : PT X (bx .Or b rest pos) tb) : PW X (.BoolOp .Or (a :: b :: rest) pos) (tOr ta tb) := by
  refine ⟨fun wh pins s σ H Q I h => ?_⟩
  refine PyProof.Rows.isTrue_or (thn (ha.run pins s σ H _ I h) fun c s1 ⟨H1, I1, q1⟩ => ?_)
  cases c with
  | true => exact ⟨H1, I1, q1⟩
  | false =>
    cases rest with
    | nil => exact (pw_or1 hb).run wh pins s1 σ H1 Q I1 q1
    | cons z r =>
      have hb' : PT X (.BoolOp .Or (b :: z :: r) pos) tb := hb
      exact thn (hb'.run pins s1 σ H1 Q I1 q1) fun _ _ z => z
theorem ce_and {a b : IE} {x y : Expr} {r : List Expr} {p : Pos} (ha : CE X C W a x) (hb : CE X C W b (bx .And y r p)) : CE X C W (.and a b) (.BoolOp .And (x :: y :: r) p) := by
  constructor
  · refine (pe_andT ha.1 (pe_bx hb.1)).imp fun σ H Q q => ?_
    obtain ⟨G, env, F, S, r⟩ := q
    refine ⟨G, env, F, S, Rd.bind r fun r1 e1 v F1 H1 sm1 S1 h1 q1 => ?_⟩
    split at q1
    · rename_i ht
      obtain ⟨F2, S2, r2, sm2⟩ := S1.fix h1
      refine ⟨true, truth_pv S2.sub (r2.pr S2.sub) ht, ?_⟩
      rw [if_pos rfl]
      exact ⟨G, e1, F2, S2, q1.at sm2⟩
    · rename_i ht
      obtain ⟨F2, S2, r2, sm2⟩ := S1.fix h1
      refine ⟨false, truth_pv S2.sub (r2.pr S2.sub) ht, ?_⟩
      rw [if_neg (by simp)]
      exact q1 v F1 H1 (.refl _) S1 h1
    · exact q1.elim
  · refine (PW.pt (pt_and ha.2 hb.2)).imp fun σ H Q q => ?_
    obtain ⟨G, env, F, S, r⟩ := q
    refine ⟨G, env, F, S, Rd.bind r fun k e1 c F1 H1 sm1 S1 h1 q1 => ?_⟩
    have e : c = k := h1
    subst e
    cases c with
    | true => exact ⟨G, e1, F1, S1, q1⟩
    | false => exact q1 false F1 H1 (.refl _) S1 rfl
theorem ce_or {a b : IE} {x y : Expr} {r : List Expr} {p : Pos} (ha : CE X C W a x) (hb : CE X C W b (bx .Or y r p)) : CE X C W (.or a b) (.BoolOp .Or (x :: y :: r) p) := by
  constructor
  · refine (pe_orT ha.1 (pe_bx hb.1)).imp fun σ H Q q => ?_
    obtain ⟨G, env, F, S, r⟩ := q
    refine ⟨G, env, F, S, Rd.bind r fun r1 e1 v F1 H1 sm1 S1 h1 q1 => ?_⟩
    split at q1
    · rename_i ht
      obtain ⟨F2, S2, r2, sm2⟩ := S1.fix h1
      refine ⟨false, truth_pv S2.sub (r2.pr S2.sub) ht, ?_⟩
      rw [if_neg (by simp)]
      exact ⟨G, e1, F2, S2, q1.at sm2⟩
    · rename_i ht
      obtain ⟨F2, S2, r2, sm2⟩ := S1.fix h1
      refine ⟨true, truth_pv S2.sub (r2.pr S2.sub) ht, ?_⟩
      rw [if_pos rfl]
      exact q1 v F1 H1 (.refl _) S1 h1
    · exact q1.elim
  · refine (PW.pt (pt_or ha.2 hb.2)).imp fun σ H Q q => ?_
    obtain ⟨G, env, F, S, r⟩ := q
    refine ⟨G, env, F, S, Rd.bind r fun k e1 c F1 H1 sm1 S1 h1 q1 => ?_⟩
    have e : c = k := h1
    subst e
    cases c with
    | true => exact q1 true F1 H1 (.refl _) S1 rfl
    | false => exact ⟨G, e1, F1, S1, q1⟩
theorem pt_ifExp {c a b : Expr} {tc ta tb : TT} {pos : Pos} (hc : PT X c tc) (ha : PT X a ta) (hb : PT X b tb) : PT X (.IfExp c a b pos) (fun σ H Q => tc σ H fun k H1 => if k = true then ta σ H1 Q else tb σ H1 Q) := by
  refine ⟨fun pins s σ H Q I h => ?_⟩
  show wpAny _ _ (do if ← isTrue c X.env (eval c X.env) then isTrue a X.env (eval a X.env) else isTrue b X.env (eval b X.env)) _ _ s
  refine wpAny_bind (thn (hc.run pins s σ H _ I h) fun d s1 ⟨H1, I1, q1⟩ => ?_)
  cases d with
  | true => exact ha.run pins s1 σ H1 Q I1 q1
  | false => exact hb.run pins s1 σ H1 Q I1 q1
theorem ce_ife {c a b : IE} {t l r : Expr} {p : Pos} (hc : CE X C W c t) (ha : CE X C W a l) (hb : CE X C W b r) : CE X C W (.ife c a b) (.IfExp t l r p) := by
  constructor
  · refine (pe_ifExp hc.2 ha.1 hb.1).imp fun σ H Q q => ?_
    obtain ⟨G, env, F, S, r⟩ := q
    refine ⟨G, env, F, S, Rd.bind r fun k e1 c F1 H1 sm1 S1 h1 q1 => ?_⟩
    have e : c = k := h1
    subst e
    cases c with
    | true => exact ⟨G, e1, F1, S1, q1⟩
    | false => exact ⟨G, e1, F1, S1, q1⟩
  · refine (pt_ifExp hc.2 ha.2 hb.2).imp fun σ H Q q => ?_
    obtain ⟨G, env, F, S, r⟩ := q
    refine ⟨G, env, F, S, Rd.bind r fun k e1 c F1 H1 sm1 S1 h1 q1 => ?_⟩
    have e : c = k := h1
    subst e
    cases c with
    | true => exact ⟨G, e1, F1, S1, q1⟩
    | false => exact ⟨G, e1, F1, S1, q1⟩

/-! ### displays, items, slices -/
theorem ca_nil {f : En → Out (List PV)} (hf : ∀ e, f e = .ok [] e) : PA X [] (tF (gx X) W f) := pa_nil.imp fun σ H Q q => by
  obtain ⟨G, env, F, S, r⟩ := q
  rw [hf] at r
  exact r [] F H (.refl _) S rfl
theorem any_star (env : Env) (pos : Pos) : ∀ es : List Expr, (es.all fun e => !isStar e) = true → (backTo pos (starEach es env)).any (·.1) = false
  | [], _ => rfl
  | e :: es, h => by
    obtain ⟨h1, h2⟩ := band (show (!isStar e && es.all fun e => !isStar e) = true from h)
    rw [star_cons env es (nott h1)]
    show (false || (backTo pos (starEach es env)).any (·.1)) = false
    rw [any_star env pos es h2]; rfl
theorem cf_cons {a : IE} {e : Expr} {es : List Expr} {fr : En → Out (List PV)} (hs : isStar e = false) (ha : CE X C W a e) (hr : PA X es (tF (gx X) W fr)) :
    PA X (e :: es) (tF (gx X) W fun env => ((ev C a).1 env).bind fun x e1 => (fr e1).bind fun xs e2 => .ok (x.1 :: xs) e2) := by
  refine (pa_cons ha.1 hr (star_cons X.env es hs)).imp fun σ H Q q => ?_
  obtain ⟨G, env, F, S, r⟩ := q
  refine ⟨G, env, F, S, Rd.bind r fun x e1 v F1 H1 sm1 S1 h1 q1 => ?_⟩
  obtain ⟨F2, S2, r2, sm2⟩ := S1.fix h1
  refine ⟨G, e1, F2, S2, Rd.bind (q1.at sm2) fun xs e2 vs F3 H3 sm3 S3 h3 q3 => ?_⟩
  exact q3 (v :: vs) F3 H3 (.refl _) S3 ⟨v, vs, rfl, r2.mono sm3, h3⟩
theorem co_nil {f : En → Out (List Opd)} (hf : ∀ e, f e = .ok [] e) : PA X [] (tOs (gx X) W f) := pa_nil.imp fun σ H Q q => by
  obtain ⟨G, env, F, S, r⟩ := q
  rw [hf] at r
  exact r [] F H (.refl _) S rfl
theorem co_cons {fa : En → Out Opd} {e : Expr} {es : List Expr} {fr : En → Out (List Opd)} (hs : isStar e = false) (ha : PE X e (tO (gx X) W fa)) (hr : PA X es (tOs (gx X) W fr)) :
    PA X (e :: es) (tOs (gx X) W fun env => (fa env).bind fun x e1 => (fr e1).bind fun xs e2 => .ok (x :: xs) e2) := by
  refine (pa_cons ha hr (star_cons X.env es hs)).imp fun σ H Q q => ?_
  obtain ⟨G, env, F, S, r⟩ := q
  refine ⟨G, env, F, S, Rd.bind r fun x e1 v F1 H1 sm1 S1 h1 q1 => ?_⟩
  refine ⟨G, e1, F1, S1, Rd.bind q1 fun xs e2 vs F3 H3 sm3 S3 h3 q3 => ?_⟩
  exact q3 (v :: vs) F3 H3 (.refl _) S3 ⟨v, vs, rfl, h1.mono sm3, h3⟩
theorem okIf_rd {G : Ent} {σ : L2.St} {F : Hp} {k : Bool} {r : PV × Fl} {e : En} {Q : VK} (h : Rd (gx X) W G σ F (RV (gx X) G σ) (okIf k r e) Q) : k = true ∧ Rd (gx X) W G σ F (RV (gx X) G σ) (.ok r e) Q := by
  unfold okIf at h
  split at h
  · rename_i hk; exact ⟨hk, h⟩
  · exact h.elim
theorem ce_tup {as : IE} {es : List Expr} {k : Nat} {p : Pos} (h : PA X es (tF (gx X) W (evF C as))) : CE X C W (.tup as) (.Tuple es k p) := by
  refine ce_vt rfl rfl ((pe_tup h).imp fun σ H Q q => ?_)
  obtain ⟨G, env, F, S, r⟩ := q
  refine ⟨G, env, F, S, Rd.bind r fun ps e1 vs F1 H1 sm1 S1 h1 q1 => ?_⟩
  obtain ⟨hk, q1⟩ := okIf_rd q1
  have hl := (show Reps (gx X) F1 ps vs from h1).length
  have hk' : ps.length ≤ sizeLine := of_decide_eq_true hk
  refine ⟨by omega, fun p n => ?_⟩
  obtain ⟨S2, v2⟩ := S1.new (NewV.tup (g := gx X) S1.sub n h1)
  exact q1 _ _ _ (same_upd (Same.free S1.sub n)) S2 v2
theorem ce_lst {as : IE} {es : List Expr} {p : Pos} (h : PA X es (tF (gx X) W (evF C as))) : CE X C W (.lst as) (.List es p) := by
  refine ce_vt rfl rfl ((pe_lst h).imp fun σ H Q q => ?_)
  obtain ⟨G, env, F, S, r⟩ := q
  refine ⟨G, env, F, S, Rd.bind r fun ps e1 vs F1 H1 sm1 S1 h1 q1 => ?_⟩
  obtain ⟨hk, q1⟩ := okIf_rd q1
  have hl := (show Reps (gx X) F1 ps vs from h1).length
  have hk' : ps.length ≤ sizeLine := of_decide_eq_true hk
  refine ⟨by omega, fun p n => ?_⟩
  obtain ⟨S2, v2⟩ := S1.new (NewV.lst (g := gx X) S1.sub n h1)
  exact q1 _ _ _ (.refl _) S2 v2
theorem plainIx {b : Expr} (h : isSliceX b = false) : PlainIx b := by
  intro o i
  cases b <;> first | rfl | cases h
theorem ce_sub (K : Cok X C W N sc) {a b : IE} {o i : Expr} {pos : Pos} (ca : chkE N a sc o = true) (cb : chkE N b sc i = true) (hs : isSliceX i = false) (ha : CE X C W a o) (hb : CE X C W b i) : CE X C W (.sub a b) (.Subscript o i pos) := by
  refine ce_vt rfl rfl ((pe_ix (ix_pv K.units) (ce_opd K ca ha) (ce_opd K cb hb) (plainIx hs)).imp (two_of fun G σ x y e F H v w Q S r1 r2 q => ?_))
  unfold fzO at q
  split at q
  · rename_i r e1
    obtain ⟨p, e2, e3⟩ := Option.bind_eq_some_iff.mp e1
    obtain ⟨z, e4, e5⟩ := Option.bind_eq_some_iff.mp e3
    exact ⟨F, p, z, r, S.sub, S.rs e2 r1, S.rs e4 r2, e5, fun u hu => q u F H (.refl _) S hu⟩
  · exact q.elim
theorem part_none : PO X none (tP (gx X) W (part .no (ev C .no).1)) := po_none.imp fun σ H Q q => by
  obtain ⟨G, env, F, S, r⟩ := q
  exact r none F H (.refl _) S rfl
theorem part_some (K : Cok X C W N sc) {a : IE} {e : Expr} (ca : chkE N a sc e = true) (ha : CE X C W a e) : PO X (some e) (tP (gx X) W (part a (ev C a).1)) := by
  refine (po_some (ce_opd K ca ha)).imp fun σ H Q q => ?_
  obtain ⟨G, env, F, S, r⟩ := q
  have r' : Rd (gx X) W G σ F RP ((opd a (ev C a).1 env).bind fun x e1 => match rsO e1 x with
    | some (.int i) => .ok (some i) e1
    | _ => .bad) Q := by
    cases a <;> first | exact r | (cases ca)
  refine ⟨G, env, F, S, Rd.bind r' fun x e1 v F1 H1 sm1 S1 h1 q1 => ?_⟩
  split at q1
  · rename_i i hi
    have := S1.rs hi h1
    cases this
    exact ⟨i, rfl, q1 (some i) F1 H1 (.refl _) S1 rfl⟩
  · exact q1.elim
theorem ce_slc (K : Cok X C W N sc) {a lo hi : IE} {o : Expr} {l h : Option Expr} {p2 pos : Pos} (ca : chkE N a sc o = true) (ha : CE X C W a o) (hl : PO X l (tP (gx X) W (part lo (ev C lo).1))) (hh : PO X h (tP (gx X) W (part hi (ev C hi).1))) :
    CE X C W (.slc a lo hi) (.Subscript o (.Slice l h none p2) pos) := by
  refine ce_vt rfl rfl ((pe_slice sl_pv (ce_opd K ca ha) hl hh).imp fun σ H Q q => ?_)
  obtain ⟨G, env, F, S, r⟩ := q
  refine ⟨G, env, F, S, Rd.bind r fun x e1 v F1 H1 sm1 S1 h1 q1 => ?_⟩
  refine ⟨G, e1, F1, S1, Rd.bind q1 fun y e2 w F2 H2 sm2 S2 h2 q2 => ?_⟩
  refine ⟨G, e2, F2, S2, Rd.bind q2 fun z e3 u F3 H3 sm3 S3 h3 q3 => ?_⟩
  have e4 : w = y := h2
  have e5 : u = z := h3
  subst e4 e5
  obtain ⟨r, e6, k⟩ := liftO_new S3 q3
  obtain ⟨p, e7, e8⟩ := Option.bind_eq_some_iff.mp e6
  exact ⟨F3, p, r, S3.sub, S3.rs e7 ((h1.mono sm2).mono sm3), e8, k⟩

/-! ### built-in functions and methods -/
theorem blt_boot (f : Blt) : bootBuiltins f.name = some (bltV f) ∧ f.name ≠ "__name__" := by
  cases f <;> exact ⟨by decide +kernel, by decide +kernel⟩
theorem pe_callV {x : Str} {v : Value} {e : Expr} {es : List Expr} {p pos : Pos} {r : List V → Hp → VK → Prop} {t : TA} (hv' : (∃ n, v = .builtin n) ∨ ∃ n, v = .type n) (hc : CallR X v r) (hg : Gl X x) (hm : X.mg x = none) (hv : bootBuiltins x = some v) (ha : PA X (e :: es) t)
    (hn : x ≠ "__name__") (hdb : (x == ("__debug__" : Str)) = false) (he : starEach (e :: es) X.env = (false, eval e X.env) :: starEach es X.env) (hpl : (backTo pos (starEach es X.env)).any (·.1) = false) :
    PE X (.Call (.Name x p) (e :: es) [] pos) (tCB r t) := by
  rcases hv' with ⟨n, rfl⟩ | ⟨n, rfl⟩
  · exact pe_callB hc hg hm hv ha hn hdb he hpl
  · exact pe_callTy hc hg hm hv ha hn hdb he hpl
theorem bltV_kind (f : Blt) : (∃ n, bltV f = .builtin n) ∨ ∃ n, bltV f = .type n := by
  cases f <;> first | exact .inl ⟨_, rfl⟩ | exact .inr ⟨_, rfl⟩
theorem ce_blt (K : Cok X C W N sc) {f : Blt} {as : IE} {e : Expr} {es : List Expr} {p pos : Pos} (hg : glB sc f.name = true) (hs : ((e :: es).all fun e => !isStar e) = true) (h : PA X (e :: es) (tOs (gx X) W (evOs C as))) :
    CE X C W (.blt f as) (.Call (.Name f.name p) (e :: es) [] pos) := by
  obtain ⟨h1, h2⟩ := K.gl hg
  obtain ⟨b1, b2⟩ := blt_boot f
  obtain ⟨s1, s2⟩ := band (show (!isStar e && es.all fun e => !isStar e) = true from hs)
  refine ce_vt rfl rfl ((pe_callV (bltV_kind f) (call_blt K.calm f) h1 (K.blt f) b1 h b2 h2 (star_cons _ _ (nott s1)) (any_star _ _ _ s2)).imp fun σ H Q q => ?_)
  obtain ⟨G, env, F, S, r⟩ := q
  refine ⟨G, env, F, S, Rd.bind r fun os e1 vs F1 H1 sm1 S1 h1 q1 => ?_⟩
  obtain ⟨r, e2, k⟩ := liftO_new S1 q1
  obtain ⟨ps, e3, e4⟩ := Option.bind_eq_some_iff.mp e2
  exact ⟨F1, ps, r, S1.sub, S1.rss e3 h1, e4, k⟩
end
end Bd

namespace Bd
open PySem L2
section
variable {X : Cx} {C : Cal} {W : WX} {N : List Str} {sc : Scope}
theorem base_plain {o : Expr} (h : plainBase o = true) (name : Str) (env : Env) (w : Sem Value) : attributeBase o name env w = w := by
  cases o with
  | Call f as ks p =>
    cases f <;> try rfl
    cases as with
    | cons _ _ => rfl
    | nil =>
      cases ks with
      | cons _ _ => rfl
      | nil => cases h
  | _ => rfl
/-- one operand as a list of one; a text's method -/
theorem ce_mth {m : Mth} {id : String} {o : IE} {as : IE} {q e : Expr} {ap cp : Pos} {fa : En → Out Opd} (slot : Slot "str" m.name id) (ty : typeOf (.builtin id) = pure (.type "method_descriptor")) (rule : MtR X id (rM (gx X) m)) (hstr : ∀ o, kindO m o = true → ∃ z, o = some (.str z))
    (hs : isStar e = false) (hb : plainBase q = true) (hl : (ap.endLine == cp.line) = true) (ho : PE X q (tO (gx X) W (opd o (ev C o).1))) (he : PE X e (tO (gx X) W fa)) (has : ∀ env, evOs C as env = (fa env).bind fun x e1 => .ok [x] e1) :
    CE X C W (.mth m o as) (.Call (.Attribute q m.name ap) [e] [] cp) := by
  refine ce_vt rfl rfl ((pe_m1 slot ty rule ho he (star_cons _ _ hs) (base_plain hb _ _ _) hl).imp fun σ H Q q => ?_)
  obtain ⟨G, env, F, S, r⟩ := q
  refine ⟨G, env, F, S, Rd.bind r fun x e1 v F1 H1 sm1 S1 h1 q1 => ?_⟩
  split at q1
  · rename_i hk
    obtain ⟨z, hz⟩ := hstr _ hk
    have hv := S1.rs hz h1
    cases hv
    refine ⟨⟨z, rfl⟩, ?_⟩
    have q1' : Rd (gx X) W G σ F1 (RV (gx X) G σ) ((fa e1).bind fun y e2 => liftO ((rsO e2 x).bind fun p => (rsOs e2 [y]).bind fun ps => mthP m p ps) e2) Q := by
      rw [has, Out.assoc] at q1; exact q1
    refine ⟨G, e1, F1, S1, Rd.bind q1' fun y e2 w F2 H2 sm2 S2 h2 q2 => ?_⟩
    obtain ⟨r, e3, k⟩ := liftO_new S2 q2
    obtain ⟨p, e4, e5⟩ := Option.bind_eq_some_iff.mp e3
    obtain ⟨ps, e6, e7⟩ := Option.bind_eq_some_iff.mp e5
    exact ⟨F2, p, ps, r, S2.sub, S2.rs e4 (h1.mono sm2), S2.rss e6 ⟨w, [], rfl, h2, rfl⟩, e7, k⟩
  · exact q1.elim

/-! ### calls of defs -/
def AgR (g : Gx) (G : Ent) (σ : L2.St) (e : En) (F H : Hp) : List Bool → List Arg → List V → Prop
  | [], gs, vs => gs = [] ∧ vs = []
  | m :: ms, gs, vs => ∃ a r v vr, gs = a :: r ∧ vs = v :: vr ∧ (match m, a with
      | false, .val p => Rep g F p v
      | true, .slot i => σ[i]? = some (some v)
      | true, .tmp p => ms = [] ∧ ∃ b, v = .ref b ∧ F b = none ∧ OwnR g F H p b ∧ G.H b = none ∧ Apart e σ b
      | _, _ => False) ∧ AgR g G σ e F H ms r vr
abbrev RA (g : Gx) (sg : List Bool) (G : Ent) (σ : L2.St) : List Arg → En → List V → Hp → Hp → Prop := fun gs e vs F H => AgR g G σ e F H sg gs vs
abbrev tA (g : Gx) (W : WX) (sg : List Bool) (f : En → Out (List Arg)) : TA := tG g W (fun G σ => RA g sg G σ) f
theorem cg_nil : PA X [] (tA (gx X) W [] (evArg C .nil [])) := pa_nil.imp fun σ H Q q => by
  obtain ⟨G, env, F, S, r⟩ := q
  exact r [] F H (.refl _) S ⟨rfl, rfl⟩
theorem cg_val {a r : IE} {e : Expr} {es : List Expr} {sg : List Bool} (hs : isStar e = false) (ha : CE X C W a e) (hr : PA X es (tA (gx X) W sg (evArg C r sg))) : PA X (e :: es) (tA (gx X) W (false :: sg) (evArg C (.cons a r) (false :: sg))) := by
  refine (pa_cons ha.1 hr (star_cons X.env es hs)).imp fun σ H Q q => ?_
  obtain ⟨G, env, F, S, r⟩ := q
  have r' : Rd (gx X) W G σ F (RA (gx X) (false :: sg) G σ) (((ev C a).1 env).bind fun x e1 => (evArg C _ sg e1).bind fun xs e2 => .ok (.val x.1 :: xs) e2) Q := r
  refine ⟨G, env, F, S, Rd.bind r' fun x e1 v F1 H1 sm1 S1 h1 q1 => ?_⟩
  obtain ⟨F2, S2, r2, sm2⟩ := S1.fix h1
  refine ⟨G, e1, F2, S2, Rd.bind (q1.at sm2) fun xs e2 vs F3 H3 sm3 S3 h3 q3 => ?_⟩
  exact q3 (v :: vs) F3 H3 (.refl _) S3 ⟨_, _, v, vs, rfl, rfl, r2.mono sm3, h3⟩
theorem cg_slot (K : Cok X C W N sc) {i : Nat} {r : IE} {x : Str} {pos : Pos} {es : List Expr} {sg : List Bool} (hN : N[i]? = some x) (hv : visB sc x = true) (hr : PA X es (tA (gx X) W sg (evArg C r sg))) :
    PA X (.Name x pos :: es) (tA (gx X) W (true :: sg) (evArg C (.cons (.var i) r) (true :: sg))) := by
  obtain ⟨v1, v2, v3⟩ := K.vis hv
  have hN' : X.N[i]? = some x := by rw [K.hN]; exact hN
  refine (pa_cons (pe_var hN' v1 v2 v3) hr (star_cons X.env es rfl)).imp fun σ H Q q => ?_
  obtain ⟨G, env, F, S, r⟩ := q
  have r' : Rd (gx X) W G σ F (RA (gx X) (true :: sg) G σ) (match env[i]? with
        | some (some (_, .fz)) => .bad
        | some (some (_, _)) => (evArg C _ sg env).bind fun xs e2 => .ok (.slot i :: xs) e2
        | _ => .bad) Q := r
  split at r'
  · exact r'.elim
  · rename_i p fl h1 h
    obtain ⟨v, e1, _⟩ := S.peek h
    refine ⟨v, e1, ⟨G, env, F, S, Rd.bind r' fun xs e2 vs F3 H3 sm3 S3 h3 q3 => ?_⟩⟩
    exact q3 (v :: vs) F3 H3 (.refl _) S3 ⟨_, _, v, vs, rfl, rfl, e1, h3⟩
  · exact r'.elim
theorem cg_tmp {a : IE} {e : Expr} (hn : ∀ i, a ≠ .var i) (hs : isStar e = false) (ha : CE X C W a e) : PA X [e] (tA (gx X) W [true] (evArg C (.cons a .nil) [true])) := by
  refine (pa_cons ha.1 pa_nil (star_cons X.env [] hs)).imp fun σ H Q q => ?_
  obtain ⟨G, env, F, S, r⟩ := q
  have r' : Rd (gx X) W G σ F (RA (gx X) [true] G σ) (((ev C a).1 env).bind fun x e1 => match x.2 with
        | .own => .ok [.tmp x.1] e1
        | _ => .bad) Q := by
    cases a <;> first | exact r | exact absurd rfl (hn _)
  refine ⟨G, env, F, S, Rd.bind r' fun x e1 v F1 H1 sm1 S1 h1 q1 => ?_⟩
  split at q1
  · rename_i hx
    refine q1 [v] F1 H1 (.refl _) S1 ⟨_, _, v, [], rfl, rfl, ⟨rfl, ?_⟩, rfl, rfl⟩
    have h1' : VR (gx X) G e1 σ F1 H1 x v := h1
    unfold VR at h1'
    rw [hx] at h1'
    exact h1'
  · exact q1.elim
theorem muts_false (ms : List Bool) (v : V) (vs : List V) : muts (false :: ms) (v :: vs) = muts ms vs := rfl
theorem muts_true (ms : List Bool) (a : Addr) (vs : List V) : muts (true :: ms) (.ref a :: vs) = a :: muts ms vs := rfl
/-- what the caller knows of the arguments -/
theorem args_ok {g : Gx} {G : Ent} {σ : L2.St} {e : En} {F H : Hp} (S : Sx g G e σ F H) : ∀ {sg : List Bool} {gs : List Arg} {vs : List V} {ps : List PV}, AgR g G σ e F H sg gs vs → argVs e gs = some ps → (slotsOf gs).Nodup →
    AR g F H sg ps vs ∧ (muts sg vs).Nodup ∧ ∀ a ∈ muts sg vs, F a = none ∧ (G.M a ∨ G.H a = none) ∧ ((∃ i ∈ slotsOf gs, ∃ p, e[i]? = some (some p) ∧ p.2 ≠ .fz ∧ σ[i]? = some (some (.ref a))) ∨ (G.H a = none ∧ Apart e σ a))
  | [], _, _, _, h, ev, _ => by
    obtain ⟨rfl, rfl⟩ := h
    cases ev
    exact ⟨⟨rfl, rfl⟩, .nil, fun a ha => by cases ha⟩
  | m :: ms, _, _, ps, h, ev, nd => by
    obtain ⟨a, r, v, vr, rfl, rfl, h1, h2⟩ := h
    obtain ⟨p, e1, e2⟩ := Option.bind_eq_some_iff.mp (show (argV e a).bind (fun p => (argVs e r).map (p :: ·)) = some ps from ev)
    obtain ⟨qs, e3, e4⟩ := Option.map_eq_some_iff.mp e2
    subst e4
    cases m with
    | false =>
      cases a with
      | val q =>
        cases e1
        obtain ⟨i1, i2, i3⟩ := args_ok S h2 e3 nd
        exact ⟨⟨_, _, v, vr, rfl, rfl, by rw [if_neg (by simp)]; exact h1, i1⟩, i2, i3⟩
      | slot i => exact h1.elim
      | tmp q => exact h1.elim
    | true =>
      cases a with
      | val q => exact h1.elim
      | slot i =>
        have nd' : (i :: slotsOf r).Nodup := nd
        obtain ⟨ni, nr⟩ := List.nodup_cons.mp nd'
        obtain ⟨i1, i2, i3⟩ := args_ok S h2 e3 nr
        have hsl : ∃ fl, e[i]? = some (some (p, fl)) ∧ fl ≠ .fz := by
          have e1' : (match e[i]? with
            | some (some (p, .own)) => some p
            | some (some (p, .bor)) => some p
            | _ => none) = some p := e1
          split at e1'
          · rename_i h; cases e1'; exact ⟨.own, h, by simp⟩
          · rename_i h; cases e1'; exact ⟨.bor, h, by simp⟩
          · cases e1'
        obtain ⟨fl, hi, hf⟩ := hsl
        obtain ⟨b, s1, s2, s3, s4, s5⟩ := S.own i p fl hi hf
        have h1' : σ[i]? = some (some v) := h1
        rw [s1] at h1'; cases h1'
        refine ⟨⟨_, _, _, vr, rfl, rfl, by rw [if_pos rfl]; exact ⟨b, rfl, s2, s3⟩, i1⟩, ?_, ?_⟩
        · rw [muts_true]
          refine List.nodup_cons.mpr ⟨fun hb => ?_, i2⟩
          rcases (i3 b hb).2.2 with ⟨j, hj, q, q1, q2, q3⟩ | ⟨_, ap⟩
          · have := S.inj i j (p, fl) q b hi hf q1 q2 s1 q3
            subst this
            exact ni hj
          · exact ap i (p, fl) hi hf s1
        · intro c hc
          rw [muts_true] at hc
          rcases List.mem_cons.mp hc with rfl | hc
          · exact ⟨s2, s4, .inl ⟨i, by simp [slotsOf], (p, fl), hi, hf, s1⟩⟩
          · obtain ⟨j1, j2, j3⟩ := i3 c hc
            refine ⟨j1, j2, ?_⟩
            rcases j3 with ⟨j, hj, w⟩ | w
            · exact .inl ⟨j, by show j ∈ i :: slotsOf r; exact List.mem_cons_of_mem _ hj, w⟩
            · exact .inr w
      | tmp q =>
        cases e1
        obtain ⟨rfl, b, rfl, t1, t2, t3, t4⟩ := h1
        obtain ⟨rfl, rfl⟩ := h2
        cases e3
        refine ⟨⟨_, _, _, _, rfl, rfl, by rw [if_pos rfl]; exact ⟨b, rfl, t1, t2⟩, rfl, rfl⟩, by simp [muts], fun c hc => ?_⟩
        have : c = b := by simpa [muts] using hc
        subst this
        exact ⟨t1, .inr t3, .inr ⟨t3, t4⟩⟩
end
end Bd

namespace Bd
open PySem L2
theorem setP_len (e : En) (i : Nat) (p : PV) : (setP e i p).length = e.length := by
  unfold setP
  split
  · simp
  · rfl
theorem setP_get {e : En} {i j : Nat} {p q : PV} {fl : Fl} (h : (setP e i p)[j]? = some (some (q, fl))) : (j = i ∧ q = p ∧ ∃ q', e[j]? = some (some (q', fl))) ∨ (j ≠ i ∧ e[j]? = some (some (q, fl))) := by
  unfold setP at h
  split at h
  · rename_i q' fl' hq
    by_cases hj : i = j
    · subst hj
      rw [List.getElem?_set_self (List.getElem?_eq_some_iff.mp hq).1] at h
      cases h
      exact .inl ⟨rfl, rfl, q', hq⟩
    · rw [List.getElem?_set_ne hj] at h
      exact .inr ⟨fun z => hj z.symm, h⟩
  · rename_i hn
    by_cases hj : i = j
    · subst hj
      exact absurd h (hn q fl)
    · exact .inr ⟨fun z => hj z.symm, h⟩
theorem argBack_len : ∀ (gs : List Arg) (ps : List PV) (e : En), (argBack gs ps e).length = e.length
  | [], _, _ => by simp [argBack]
  | .slot i :: r, [], e => by simp [argBack]
  | .slot i :: r, p :: ps, e => by
    show (argBack r ps (setP e i p)).length = _
    rw [argBack_len r ps, setP_len]
  | .tmp _ :: r, [], e => by simp [argBack]
  | .tmp _ :: r, p :: ps, e => argBack_len r ps e
  | .val _ :: r, ps, e => argBack_len r ps e
section
variable {g : Gx} {G : Ent} {σ : L2.St} {e0 : En} {F H F' H' : Hp}
theorem argBack_get : ∀ {sg : List Bool} {gs : List Arg} {vs : List V} {outs : List PV} {e : En}, AgR g G σ e0 F H sg gs vs → OutR g F' H' (muts sg vs) outs → (∀ i ∈ slotsOf gs, ∃ a, σ[i]? = some (some (.ref a))) →
    ∀ (j : Nat) (q : PV) (fl : Fl), (argBack gs outs e)[j]? = some (some (q, fl)) → ∃ p, e[j]? = some (some (p, fl)) ∧ ((j ∉ slotsOf gs ∧ q = p) ∨ (j ∈ slotsOf gs ∧ ∀ a, σ[j]? = some (some (.ref a)) → OwnR g F' H' q a))
  | [], _, _, _, e, h, o, hr => by
    obtain ⟨rfl, rfl⟩ := h
    intro j q fl hj
    exact ⟨q, by simpa [argBack] using hj, .inl ⟨by simp [slotsOf], rfl⟩⟩
  | m :: ms, _, _, outs, e, h, o, hr => by
    obtain ⟨a, r, v, vr, rfl, rfl, h1, h2⟩ := h
    cases m with
    | false =>
      cases a with
      | val p => exact fun j q fl hj => argBack_get (gs := r) h2 o hr j q fl hj
      | slot i => exact h1.elim
      | tmp q => exact h1.elim
    | true =>
      cases a with
      | val p => exact h1.elim
      | slot i =>
        have h1' : σ[i]? = some (some v) := h1
        obtain ⟨b, hb⟩ := hr i (by simp [slotsOf])
        rw [hb] at h1'; cases h1'
        obtain ⟨p0, ps, rfl, o1, o2⟩ := (show OutR g F' H' (b :: muts ms vr) outs from o)
        intro j q fl hj
        obtain ⟨p1, k1, k2⟩ := argBack_get (gs := r) (e := setP e i p0) h2 o2 (fun k hk => hr k (by show k ∈ i :: slotsOf r; exact List.mem_cons_of_mem _ hk)) j q fl hj
        rcases setP_get k1 with ⟨rfl, rfl, q', hq⟩ | ⟨hne, hq⟩
        · refine ⟨q', hq, .inr ⟨by simp [slotsOf], fun a ha => ?_⟩⟩
          rcases k2 with ⟨_, rfl⟩ | ⟨_, k3⟩
          · rw [hb] at ha; cases ha; exact o1
          · exact k3 a ha
        · refine ⟨p1, hq, ?_⟩
          rcases k2 with ⟨k3, k4⟩ | ⟨k3, k4⟩
          · exact .inl ⟨by show j ∉ i :: slotsOf r; simp [hne, k3], k4⟩
          · exact .inr ⟨by show j ∈ i :: slotsOf r; simp [k3], k4⟩
      | tmp p =>
        obtain ⟨rfl, b, rfl, _⟩ := h1
        obtain ⟨rfl, rfl⟩ := h2
        obtain ⟨p0, ps, rfl, o1, o2⟩ := (show OutR g F' H' [b] outs from o)
        intro j q fl hj
        exact ⟨q, by simpa [argBack] using hj, .inl ⟨by simp [slotsOf], rfl⟩⟩
theorem back_ok {e : En} (S : Sx g G e σ F H) {sg : List Bool} {gs : List Arg} {vs : List V} {ps outs : List PV} (ag : AgR g G σ e F H sg gs vs) (ea : argVs e gs = some ps) (nd : (slotsOf gs).Nodup) (P : CPost g F H (muts sg vs) outs F' H') :
    Sx g G (argBack gs outs e) σ F' H' := by
  obtain ⟨_, _, am⟩ := args_ok S ag ea nd
  -- each slot that is handed in owns its object
  have sl : ∀ {sg : List Bool} {gs : List Arg} {vs : List V} {ps : List PV}, AgR g G σ e F H sg gs vs → argVs e gs = some ps → ∀ i ∈ slotsOf gs, ∃ a p, σ[i]? = some (some (.ref a)) ∧ e[i]? = some (some p) ∧ p.2 ≠ .fz ∧ a ∈ muts sg vs := by
    intro sg
    induction sg with
    | nil => intro gs vs ps h _ i hi; obtain ⟨rfl, _⟩ := h; cases hi
    | cons m ms ih =>
      intro gs vs ps h ea i hi
      obtain ⟨a, r, v, vr, rfl, rfl, h1, h2⟩ := h
      obtain ⟨p, e1, e2⟩ := Option.bind_eq_some_iff.mp (show (argV e a).bind (fun p => (argVs e r).map (p :: ·)) = some ps from ea)
      obtain ⟨qs, e3, _⟩ := Option.map_eq_some_iff.mp e2
      have tail : i ∈ slotsOf r → ∃ a p, σ[i]? = some (some (.ref a)) ∧ e[i]? = some (some p) ∧ p.2 ≠ .fz ∧ a ∈ muts (m :: ms) (v :: vr) := fun hi => by
        obtain ⟨b, q, k1, k2, k3, k4⟩ := ih h2 e3 i hi
        refine ⟨b, q, k1, k2, k3, ?_⟩
        cases m with
        | false => exact k4
        | true => cases v <;> first | exact List.mem_cons_of_mem _ k4 | exact k4
      cases a with
      | val q => exact tail hi
      | tmp q => exact tail hi
      | slot k =>
        rcases List.mem_cons.mp (show i ∈ k :: slotsOf r from hi) with rfl | hi
        · have e1' : (match e[i]? with
            | some (some (p, .own)) => some p
            | some (some (p, .bor)) => some p
            | _ => none) = some p := e1
          cases m with
          | false => exact h1.elim
          | true =>
            have h1' : σ[i]? = some (some v) := h1
            split at e1'
            · rename_i h
              obtain ⟨b, s1, _⟩ := S.own i _ .own h (by simp)
              rw [s1] at h1'; cases h1'
              exact ⟨b, _, s1, h, by simp, by rw [muts_true]; simp⟩
            · rename_i h
              obtain ⟨b, s1, _⟩ := S.own i _ .bor h (by simp)
              rw [s1] at h1'; cases h1'
              exact ⟨b, _, s1, h, by simp, by rw [muts_true]; simp⟩
            · cases e1'
        · exact tail hi
  have get := argBack_get (F := F) (H := H) (e0 := e) (e := e) ag P.outs (fun i hi => by obtain ⟨a, _, h, _⟩ := sl ag ea i hi; exact ⟨a, h⟩)
  have notM : ∀ a o, G.H a = some o → ¬ G.M a → a ∉ muts sg vs := fun a o h1 h2 hm => by
    rcases (am a hm).2.1 with z | z
    · exact h2 z
    · rw [h1] at z; cases z
  refine ⟨P.sub, S.f0.trans P.sF, fun a o h1 h2 => P.keep a o (S.h0 a o h1 h2) (notM a o h1 h2), fun a o h1 h2 h3 => ?_, fun a o h1 => ?_, by rw [argBack_len]; exact S.len, fun i pv h => ?_, fun i pv fl h hf => ?_, fun i j p q a h1 f1 h2 f2 s1 s2 => ?_, fun i pv h => ?_⟩
  · obtain ⟨o', e1⟩ := S.th a o h1
    exact P.nf a o' e1 (S.nf a o h1 h2 h3)
  · obtain ⟨o', e1⟩ := S.th a o h1
    exact P.th a o' e1
  · obtain ⟨p, k1, k2⟩ := get i pv .fz h
    rcases k2 with ⟨_, rfl⟩ | ⟨k3, _⟩
    · obtain ⟨v, e1, r⟩ := S.fz i _ k1
      exact ⟨v, e1, r.mono P.sF⟩
    · obtain ⟨a, q, _, k4, k5, _⟩ := sl ag ea i k3
      rw [k1] at k4; cases k4
      exact absurd rfl k5
  · obtain ⟨p, k1, k2⟩ := get i pv fl h
    obtain ⟨a, s1, s2, s3, s4, s5⟩ := S.own i p fl k1 hf
    obtain ⟨o, eo⟩ := s3.here
    refine ⟨a, s1, P.nf a o eo s2, ?_, s4, s5⟩
    rcases k2 with ⟨k3, rfl⟩ | ⟨_, k4⟩
    · refine s3.mono P.sF fun o' q => P.keep a o' q fun hm => ?_
      rcases (am a hm).2.2 with ⟨j, hj, q', q1, q2, q3⟩ | ⟨_, ap⟩
      · have := S.inj i j _ q' a k1 hf q1 q2 s1 q3
        subst this
        exact k3 hj
      · exact ap i _ k1 hf s1
    · exact k4 a s1
  · obtain ⟨p', k1, _⟩ := get i p.1 p.2 h1
    obtain ⟨q', k2, _⟩ := get j q.1 q.2 h2
    exact S.inj i j (p', p.2) (q', q.2) a k1 f1 k2 f2 s1 s2
  · obtain ⟨p, k1, _⟩ := get i pv .bor h
    exact S.bo i p k1
theorem back_val {e : En} (S : Sx g G e σ F H) {sg : List Bool} {gs : List Arg} {vs : List V} {ps outs : List PV} (ag : AgR g G σ e F H sg gs vs) (ea : argVs e gs = some ps) (nd : (slotsOf gs).Nodup) (P : CPost g F H (muts sg vs) outs F' H') {r : PV × Fl} {v : V}
    (cv : CV g H F' H' r v) : VR g G (argBack gs outs e) σ F' H' r v := by
  have S' := back_ok S ag ea nd P
  obtain ⟨p, fl⟩ := r
  cases fl with
  | fz => exact cv
  | bor => exact cv
  | own =>
    obtain ⟨a, e1, e2, e3, e4⟩ := cv
    refine ⟨a, e1, e3, e4, ?_, fun i q hi hf z => ?_⟩
    · cases w : G.H a with
      | none => rfl
      | some o => obtain ⟨o', e5⟩ := S.th a o w; rw [e2] at e5; cases e5
    · -- an owner's object stood ahead of the call
      obtain ⟨b, s1, s2, s3, s4, s5⟩ := S'.own i q.1 q.2 hi hf
      rw [z] at s1; cases s1
      have get := argBack_len gs outs e
      have : ∃ q', e[i]? = some (some q') ∧ q'.2 ≠ .fz := by
        have sl : ∀ (gs : List Arg) (outs : List PV) (e : En) (i : Nat) (q : PV × Fl), (argBack gs outs e)[i]? = some (some q) → ∃ p, e[i]? = some (some (p, q.2)) := by
          intro gs
          induction gs with
          | nil => intro outs e i q h; exact ⟨q.1, by simpa [argBack] using h⟩
          | cons a r ih =>
            intro outs e i q h
            cases a with
            | val p => exact ih outs e i q h
            | tmp p =>
              cases outs with
              | nil => exact ⟨q.1, by simpa [argBack] using h⟩
              | cons _ _ => exact ih _ e i q h
            | slot k =>
              cases outs with
              | nil => exact ⟨q.1, by simpa [argBack] using h⟩
              | cons p0 ps =>
                obtain ⟨p1, h1⟩ := ih ps (setP e k p0) i q h
                rcases setP_get h1 with ⟨rfl, _, q', hq⟩ | ⟨_, hq⟩
                · exact ⟨q', hq⟩
                · exact ⟨p1, hq⟩
        obtain ⟨p, hp⟩ := sl gs outs e i q hi
        exact ⟨(p, q.2), hp, hf⟩
      obtain ⟨q', h1, h2⟩ := this
      obtain ⟨c, t1, _, t3, _⟩ := S.own i q'.1 q'.2 h1 h2
      rw [z] at t1; cases t1
      obtain ⟨o, eo⟩ := t3.here
      rw [e2] at eo; cases eo
end
section
variable {X : Cx} {C : Cal} {W : WX} {N : List Str} {sc : Scope}
theorem doCall_sp {f : Str} {sg : List Bool} {gs : List Arg} {e : En} {G : Ent} {σ : L2.St} {F H : Hp} {vs : List V} {Q : VK} (hsg : C.sig f = some sg) (S : Sx (gx X) G e σ F H) (ag : AgR (gx X) G σ e F H sg gs vs) (h : Rd (gx X) W G σ F (RV (gx X) G σ) (doCall C f gs e) Q) :
    spF (gx X) C f vs H Q (WE W σ) := by
  unfold doCall at h
  split at h
  · exact h.elim
  · rename_i ps ea
    split at h
    · rename_i nd
      obtain ⟨a1, a2, a3⟩ := args_ok S ag ea nd
      refine ⟨F, ps, sg, S.sub, hsg, a1, a2, ?_⟩
      cases q : C.run f ps with
      | ok r outs =>
        rw [q] at h
        exact fun v F' H' P cv => h v F' H' P.sF (back_ok S ag ea nd P) (back_val S ag ea nd P cv)
      | exc x outs =>
        rw [q] at h
        exact fun cls d F' H' P xr => h cls d F' H' P.sF (back_ok S ag ea nd P) xr
      | bad =>
        rw [q] at h
        exact h
    · exact h.elim
theorem ce_call (K : Cok X C W N sc) {f : Str} {as : IE} {es : List Expr} {p pos : Pos} (hg : glB sc f = true) (hs : (es.all fun e => !isStar e) = true) (hn : es = [] → as = .nil) (h : ∀ sg, C.sig f = some sg → PA X es (tA (gx X) W sg (evArg C as sg))) :
    CE X C W (.call f as) (.Call (.Name f p) es [] pos) := by
  obtain ⟨h1, h2⟩ := K.gl hg
  refine ce_vt (f := fun e => match C.sig f with
    | none => .bad
    | some sg => (evArg C as sg e).bind fun gs e1 => doCall C f gs e1) rfl rfl ?_
  cases q : C.sig f with
  | none =>
    refine ⟨fun pins s σ H Q I r => ?_⟩
    obtain ⟨G, env, F, S, r⟩ := r
    exact r.elim
  | some sg =>
    obtain ⟨n, fa, fd, ps, FO, hr, hm, hk, hb, _⟩ := K.cal f sg q
    have go : ∀ σ H Q, tE (gx X) W (fun e => (evArg C as sg e).bind fun gs e1 => doCall C f gs e1) σ H Q → tCallS (spF (gx X) C f) (WE W) (tA (gx X) W sg (evArg C as sg)) σ H Q := fun σ H Q r => by
      obtain ⟨G, env, F, S, r⟩ := r
      refine ⟨G, env, F, S, Rd.bind r fun gs e1 vs F1 H1 sm1 S1 h1 q1 => ?_⟩
      exact doCall_sp q S1 h1 q1
    cases es with
    | nil =>
      refine ⟨fun pins s σ H Q I r => ?_⟩
      have r' := go σ H Q r
      refine wpAny_Call_Name_kw (ld_glob I h1 hm ?_ h2)
      have pa : PA X [] (tA (gx X) W sg (evArg C as sg)) := h sg q
      refine PySem.W.callWith_K0 I.kIn hk ?_
      -- no arguments
      have z : spF (gx X) C f [] H Q (WE W σ) := by
        obtain ⟨G, env, F, S, r1⟩ := r
        rw [hn rfl] at r1
        cases sg with
        | nil => exact doCall_sp q S ⟨rfl, rfl⟩ r1
        | cons _ _ => exact r1.elim
      exact run_fnS (us := []) FO hr hb (passAt K.takes σ) I .nil z
    | cons e es =>
      obtain ⟨s1, s2⟩ := band (show (!isStar e && es.all fun e => !isStar e) = true from hs)
      exact (pe_callS FO hr h1 hm hk hb (fun σ => passAt K.takes σ) (h sg q) h2 (star_cons _ _ (nott s1)) (any_star _ _ _ s2)).imp go
/-- keywords -/
structure KwOk (X : Cx) (C : Cal) (W : WX) (r : IE) (ks : List Str) (kws : List Keyword) : Prop where
  f : PK X kws (tF (gx X) W (evF C r))
  all : ∀ pos, (backToKw pos (keywordEach kws X.env)).all (·.1.isSome) = true
  nm : ∀ pos, (backToKw pos (keywordEach kws X.env)).filterMap (·.1) = ks
  no : ∀ pos, (backToKw pos (keywordEach kws X.env)).any (·.1.isNone) = false
theorem kw_ok : ∀ (r : IE) (ks : List Str) (kws : List Keyword), chkK N r sc ks kws = true → (∀ a e, sizeOf a < sizeOf r → chkE N a sc e = true → CE X C W a e) → KwOk X C W r ks kws
  | .nil, [], [], _, _ => ⟨⟨fun pos pins s σ H Q I q => by
      obtain ⟨G, env, F, S, r⟩ := q
      exact pk_nil.run pos pins s σ H Q I (r [] F H (.refl _) S rfl)⟩, fun _ => rfl, fun _ => rfl, fun _ => rfl⟩
  | .cons a r, y :: ys, ⟨some x, e, kp⟩ :: kws, hc, ih => by
    obtain ⟨h12, h3⟩ := band (show (decide (y = x) && chkE N a sc e && chkK N r sc ys kws) = true from hc)
    obtain ⟨h1, h2⟩ := band h12
    have : y = x := of_decide_eq_true h1
    subst this
    have A := kw_ok r ys kws h3 fun b e hb he => ih b e (by simp; omega) he
    have B := ih a e (by simp; omega) h2
    refine ⟨⟨fun pos pins s σ H Q I q => (pk_cons B.1 A.f).run pos pins s σ H Q I ?_⟩, fun pos => A.all pos, fun pos => ?_, fun pos => A.no pos⟩
    · obtain ⟨G, env, F, S, r⟩ := q
      refine ⟨G, env, F, S, Rd.bind (show Rd (gx X) W G σ F (RF (gx X)) (((ev C a).1 env).bind fun x e1 => (evF C _ e1).bind fun xs e2 => .ok (x.1 :: xs) e2) Q from r) fun x e1 v F1 H1 sm1 S1 h1 q1 => ?_⟩
      obtain ⟨F2, S2, r2, sm2⟩ := S1.fix h1
      refine ⟨G, e1, F2, S2, Rd.bind (Rd.at q1 sm2) fun xs e2 vs F3 H3 sm3 S3 h3 q3 => ?_⟩
      exact q3 (v :: vs) F3 H3 (.refl _) S3 ⟨v, vs, rfl, r2.mono sm3, h3⟩
    · show y :: (backToKw pos (keywordEach kws X.env)).filterMap (·.1) = _
      rw [A.nm pos]
theorem reps_pick {g : Gx} {F : Hp} {ps : List PV} {vs : List V} (h : Reps g F ps vs) : ∀ pm : List Nat, Reps g F (pick ps pm) (pick vs pm)
  | [] => rfl
  | i :: r => by
    unfold pick
    have ih := reps_pick h r
    cases q : ps[i]? with
    | none =>
      have : vs[i]? = none := by
        rw [List.getElem?_eq_none_iff] at q ⊢
        rw [h.length]; exact q
      rw [this]; exact ih
    | some p =>
      obtain ⟨v, e1, e2⟩ := h.get q
      rw [e1]
      exact ⟨v, _, rfl, e2, ih⟩
theorem agr_vals {g : Gx} {G : Ent} {σ : L2.St} {e : En} {F H : Hp} : ∀ {ps : List PV} {vs : List V}, Reps g F ps vs → AgR g G σ e F H (ps.map fun _ => false) (ps.map Arg.val) vs
  | [], _, h => by cases h; exact ⟨rfl, rfl⟩
  | p :: ps, _, h => by
    obtain ⟨v, vr, rfl, h1, h2⟩ := h
    have ih := agr_vals (G := G) (σ := σ) (e := e) (H := H) h2
    first
      | exact ⟨_, _, _, _, rfl, rfl, h1, ih⟩
      | exact ⟨_, _, rfl, rfl, h1, ih⟩
theorem vals_pick {vs : List V} {us : List Value} (h : Vals vs us) : ∀ pm : List Nat, Vals (pick vs pm) (pick us pm) := by
  intro pm
  induction pm with
  | nil => exact .nil
  | cons i r ih =>
    unfold pick
    have hl := h.length
    cases q : vs[i]? with
    | none =>
      have : us[i]? = none := by
        rw [List.getElem?_eq_none_iff] at q ⊢
        omega
      rw [this]; exact ih
    | some p =>
      have hi : i < us.length := by
        have := (List.getElem?_eq_some_iff.mp q).1
        omega
      have e : us[i]? = some us[i] := List.getElem?_eq_getElem hi
      rw [e]
      refine .cons ?_ ih
      have key : ∀ {vs : List V} {us : List Value}, Vals vs us → ∀ (i : Nat) v u, vs[i]? = some v → us[i]? = some u → RelV v u := by
        intro vs us h
        induction h with
        | nil => intro i v u e; simp at e
        | cons r _ ih =>
          intro i v u e1 e2
          cases i with
          | zero => simp at e1 e2; subst e1 e2; exact r
          | succ i => exact ih i v u (by simpa using e1) (by simpa using e2)
      exact key h i _ _ q e
theorem run_kwS {k n : Nat} {f : Addr} {fd : FuncData} {ps ks : List Str} {sp : Sp} {E : XK} {ga : List Value → List Value → List Value} {gV : List V → List V → List V} {pins : List (Addr × Obj)} {σ : L2.St} {H : Hp} {s : Shared} {Q : VK} {us ws : List Value} {vs zs : List V} (F : FnOk X.prog X.w X.K X.mg X.base (L2.CX X.prog X.w) k f fd ps sp) (hr : Room k X.A) (hb : KBn X.K fd ps n ks ga gV) (hx : PassesAt (L2.CX X.prog X.w) X σ E)
    (I : Inv X pins σ H s) (r : Vals vs us) (rz : Vals zs ws) (l1 : vs.length = n) (l2 : zs.length = ks.length) (h : sp (gV vs zs) H Q E) : wpAny (model X.prog X.w) X.A (call (.ref f) us (ks.zip ws)) (EP X pins σ Q) X.xe s := by
  refine wpAny_call (codeAny_mono (F.run X.A X.stack s H ⟨us, ks.zip ws⟩ (ga us ws) (gV vs zs) Q E hr I.env0 (hb.to s us ws I.kIn (r.length.symm.trans l1) (rz.length.symm.trans l2)) (hb.rel r rz) h) fun r s' hq => ?_)
  cases r with
  | error e => exact hx pins H s e s' I hq
  | ok fl => cases fl <;> first | exact I.after hq | exact False.elim hq
theorem ce_callk (K : Cok X C W N sc) {f : Str} {n : Nat} {ks : List Str} {ap ak : IE} {es : List Expr} {kws : List Keyword} {p pos : Pos} (hg : glB sc f = true) (hs : (es.all fun e => !isStar e) = true) (hp : PA X es (tF (gx X) W (evF C ap))) (hn : es = [] → ap = .nil) (hk' : KwOk X C W ak ks kws) :
    CE X C W (.callk f n ks ap ak) (.Call (.Name f p) es kws pos) := by
  obtain ⟨h1, h2⟩ := K.gl hg
  refine ce_vt (f := fun e => match C.sig f, C.kw f n ks with
    | some sg, some pm => (evF C ap e).bind fun us e1 => (evF C ak e1).bind fun ws e2 => kwCall C f sg n ks pm us ws e2
    | _, _ => .bad) rfl rfl ?_
  cases q : C.sig f with
  | none =>
    refine ⟨fun pins s σ H Q I r => ?_⟩
    obtain ⟨G, env, F, S, r⟩ := r
    exact r.elim
  | some sg =>
    cases qk : C.kw f n ks with
    | none =>
      refine ⟨fun pins s σ H Q I r => ?_⟩
      obtain ⟨G, env, F, S, r⟩ := r
      exact r.elim
    | some pm =>
      obtain ⟨m, fa, fd, ps, FO, hr, hm, hk, hb, hkb⟩ := K.cal f sg q
      have B := hkb n ks pm qk
      have go : ∀ σ H Q, tE (gx X) W (fun e => (evF C ap e).bind fun us e1 => (evF C ak e1).bind fun ws e2 => kwCall C f sg n ks pm us ws e2) σ H Q →
          tF (gx X) W (evF C ap) σ H fun vs H1 => tF (gx X) W (evF C ak) σ H1 fun zs H2 => vs.length = n ∧ zs.length = ks.length ∧ spF (gx X) C f (pick (vs ++ zs) pm) H2 Q (WE W σ) := fun σ H Q r => by
        obtain ⟨G, env, F, S, r⟩ := r
        refine ⟨G, env, F, S, Rd.bind r fun us e1 vs F1 H1 sm1 S1 h1 q1 => ?_⟩
        refine ⟨G, e1, F1, S1, Rd.bind q1 fun ws e2 zs F2 H2 sm2 S2 h2 q2 => ?_⟩
        unfold kwCall at q2
        split at q2
        · rename_i hc
          obtain ⟨c1, c2, c3⟩ := hc
          have hv : Reps (gx X) F2 us vs := Reps.mono sm2 _ h1
          refine ⟨by rw [hv.length]; exact c2, by rw [Reps.length h2]; exact c3, ?_⟩
          have ag := agr_vals (G := G) (σ := σ) (e := e2) (H := H2) (reps_pick (hv.append h2) pm)
          rw [← c1] at ag
          exact doCall_sp q S2 ag q2
        · exact q2.elim
      refine ⟨fun pins s σ H Q I r => ?_⟩
      have r' := go σ H Q r
      refine wpAny_Call_Name_kw (ld_glob I h1 hm ?_ h2)
      cases es with
      | nil =>
        have st : ((backTo pos (starEach [] X.env)).any (·.1) || (backToKw pos (keywordEach kws X.env)).any (·.1.isNone)) = false := by rw [hk'.no pos]; rfl
        refine PySem.W.callWith_KW0 (h₀ := X.base) I.ok.mod.kin hk (hk'.all pos) ?_ st
        have r2 : tF (gx X) W (evF C ak) σ H fun zs H2 => ([] : List V).length = n ∧ zs.length = ks.length ∧ spF (gx X) C f (pick ([] ++ zs) pm) H2 Q (WE W σ) := by
          obtain ⟨G, env, F, S, r3⟩ := r'
          rw [hn rfl] at r3
          exact r3 [] F H (.refl _) S rfl
        refine thn (hk'.f.run pos pins s σ H _ I r2) fun ws s2 ⟨zs, H2, I2, rz, l1, l2, q2⟩ => ⟨I2.kIn, ?_⟩
        rw [hk'.nm pos]
        exact run_kwS (us := []) (vs := []) FO hr B (passAt K.takes σ) I2 .nil rz l1 l2 q2
      | cons e es =>
        obtain ⟨s1, s2⟩ := band (show (!isStar e && es.all fun e => !isStar e) = true from hs)
        have st : ((backTo pos (starEach (e :: es) X.env)).any (·.1) || (backToKw pos (keywordEach kws X.env)).any (·.1.isNone)) = false := by
          rw [hk'.no pos, any_star _ _ _ hs]; rfl
        refine PySem.W.callWith_KW (h₀ := X.base) I.ok.mod.kin hk (hk'.all pos) (thn (hp.run pos pins s σ H _ I r') fun us s1 ⟨vs, H1, I1, r, q⟩ => ?_) st (star_cons _ _ (nott s1))
        refine thn (hk'.f.run pos pins s1 σ H1 _ I1 q) fun ws s2 ⟨zs, H2, I2, rz, l1, l2, q2⟩ => ⟨I2.kIn, ?_⟩
        rw [hk'.nm pos]
        exact run_kwS FO hr B (passAt K.takes σ) I2 r rz l1 l2 q2
end
end Bd

namespace Bd
open PySem L2

/-! ### what is walked -/
/-- an iterator that hands on these values, whatever grows meanwhile -/
def RI (g : Gx) : List PV → En → It → Hp → Hp → Prop := fun xs _ J F _ => ∀ F1 H1, Same F F1 → Same F1 H1 →
  (∀ (i : Nat) p, xs[i]? = some p → J.go i H1 ∧ ∀ x H', J.yld i H1 x H' → ∃ F', New F1 H1 F' H' ∧ Rep g F' p x) ∧ J.stop xs.length H1
def itO (o : Option (List PV)) (e : En) : Out (List PV) := match o with
  | some xs => .ok xs e
  | none => .bad
def evIt (C : Cal) (it : IE) (e : En) : Out (List PV) := ((ev C it).1 e).bind fun r e1 => itO (itemsP r.1) e1
abbrev tI (g : Gx) (W : WX) (f : En → Out (List PV)) : TI := tG g W (fun _ _ => RI g) f
section
variable {X : Cx} {C : Cal} {W : WX} {N : List Str} {sc : Scope}
theorem ri_list {g : Gx} {F : Hp} {a : Addr} {xs : List PV} {vs : List V} {e : En} {H : Hp} (h : F a = some (.lst vs)) (r : Reps g F xs vs) : RI g xs e (Itl g.K a) F H := by
  intro F1 H1 s1 s2
  have hq : SqL g.K H1 a vs := .inl (.inl (s2 _ _ (s1 _ _ h)))
  refine ⟨fun i p hp => ?_, vs, hq, by rw [r.length]; exact Nat.le_refl _⟩
  obtain ⟨v, e1, e2⟩ := r.get hp
  refine ⟨⟨vs, v, hq, e1⟩, fun x H' y => ?_⟩
  obtain ⟨rfl, y⟩ := y
  have := y vs hq
  rw [e1] at this; cases this
  exact ⟨F1, .refl s2, e2.mono s1⟩
theorem ri_tup {g : Gx} {F : Hp} {a : Addr} {xs : List PV} {vs : List V} {e : En} {H : Hp} (h : SqT g.K F a vs) (r : Reps g F xs vs) : RI g xs e (Itt g.K a) F H := by
  intro F1 H1 s1 s2
  have hq : SqT g.K H1 a vs := Same.kseq s2 (Same.kseq s1 h)
  refine ⟨fun i p hp => ?_, vs, hq, by rw [r.length]; exact Nat.le_refl _⟩
  obtain ⟨v, e1, e2⟩ := r.get hp
  refine ⟨⟨vs, v, hq, e1⟩, fun x H' y => ?_⟩
  obtain ⟨rfl, y⟩ := y
  have := y vs hq
  rw [e1] at this; cases this
  exact ⟨F1, .refl s2, e2.mono s1⟩
theorem ri_str {g : Gx} {F : Hp} {z : Str} {e : En} {H : Hp} : RI g (z.cps.toList.map fun c => .str ⟨#[c]⟩) e (Its z) F H := by
  intro F1 H1 s1 s2
  refine ⟨fun i p hp => ?_, by show z.cps.size ≤ _; simp⟩
  rw [List.getElem?_map] at hp
  obtain ⟨c, e1, e2⟩ := Option.map_eq_some_iff.mp hp
  subst e2
  have e1' : z.cps[i]? = some c := by simpa using e1
  refine ⟨(Array.getElem?_eq_some_iff.mp e1').1, fun x H' y => ?_⟩
  obtain ⟨rfl, c', e3, rfl⟩ := y
  rw [e1'] at e3; cases e3
  exact ⟨F1, .refl s2, rfl⟩
theorem ri_rng {g : Gx} {F : Hp} {lo hi : Int} {e : En} {H : Hp} : RI g (rngItems lo hi) e (Itr lo (hi - lo).toNat) F H := by
  intro F1 H1 s1 s2
  unfold rngItems
  refine ⟨fun i p hp => ?_, by show (hi - lo).toNat ≤ _; simp⟩
  rw [List.getElem?_map] at hp
  obtain ⟨k, e1, e2⟩ := Option.map_eq_some_iff.mp hp
  subst e2
  obtain ⟨h1, h2⟩ := List.getElem?_eq_some_iff.mp e1
  have hi' : i < (hi - lo).toNat := by simpa using h1
  have hk : k = i := by simpa using h2.symm
  subst hk
  refine ⟨hi', fun x H' y => ?_⟩
  obtain ⟨rfl, rfl⟩ := y
  exact ⟨F1, .refl s2, rfl⟩
theorem enm_get : ∀ (xs : List PV) (n i : Nat) (p : PV), (enmItems n xs)[i]? = some p → ∃ q, xs[i]? = some q ∧ p = .tup [.int ((n + i : Nat) : Int), q]
  | [], _, _, _, h => by simp [enmItems] at h
  | x :: xs, n, 0, p, h => by
    have h' : some (PV.tup [.int n, x]) = some p := by simpa [enmItems] using h
    cases h'
    exact ⟨x, rfl, rfl⟩
  | x :: xs, n, i + 1, p, h => by
    obtain ⟨q, e1, e2⟩ := enm_get xs (n + 1) i p (by simpa [enmItems] using h)
    refine ⟨q, by simpa using e1, ?_⟩
    rw [e2, show n + 1 + i = n + (i + 1) by omega]
theorem enm_len : ∀ (xs : List PV) (n : Nat), (enmItems n xs).length = xs.length
  | [], _ => rfl
  | _ :: xs, n => by simp [enmItems, enm_len xs]
theorem ri_enm {g : Gx} {F : Hp} {a : Addr} {xs : List PV} {vs : List V} {e : En} {H : Hp} (h : F a = some (.lst vs)) (r : Reps g F xs vs) : RI g (enmItems 0 xs) e (Ite g.K a) F H := by
  intro F1 H1 s1 s2
  have hq : SqL g.K H1 a vs := .inl (.inl (s2 _ _ (s1 _ _ h)))
  refine ⟨fun i p hp => ?_, vs, hq, by rw [r.length, enm_len]; exact Nat.le_refl _⟩
  obtain ⟨q, e0, rfl⟩ := enm_get xs 0 i p hp
  obtain ⟨v, e1, e2⟩ := r.get e0
  refine ⟨⟨vs, v, hq, e1⟩, fun x H' y => ?_⟩
  obtain ⟨T, w, rfl, nT, rfl, y⟩ := y
  have := y vs hq
  rw [e1] at this; cases this
  refine ⟨upd F1 T (.tup [.int (i : Nat), v]), New.fix s2 nT, T, _, rfl, upd_same, ?_⟩
  have sm : Same F1 (upd F1 T (.tup [.int (i : Nat), v])) := same_upd (Same.free s2 nT)
  rw [Nat.zero_add]
  exact ⟨_, _, rfl, rfl, _, _, rfl, (e2.mono s1).mono sm, rfl⟩
theorem zip_get : ∀ (xs ys : List PV) (i : Nat) (p : PV), (zipItems xs ys)[i]? = some p → ∃ q r, xs[i]? = some q ∧ ys[i]? = some r ∧ p = .tup [q, r]
  | [], _, _, _, h => by simp [zipItems] at h
  | _ :: _, [], _, _, h => by simp [zipItems] at h
  | x :: xs, y :: ys, 0, p, h => by
    have h' : some (PV.tup [x, y]) = some p := by simpa [zipItems] using h
    cases h'
    exact ⟨x, y, rfl, rfl, rfl⟩
  | x :: xs, y :: ys, i + 1, p, h => by
    obtain ⟨q, r, e1, e2, e3⟩ := zip_get xs ys i p (by simpa [zipItems] using h)
    exact ⟨q, r, by simpa using e1, by simpa using e2, e3⟩
theorem zip_len : ∀ (xs ys : List PV), (zipItems xs ys).length = min xs.length ys.length
  | [], _ => by simp [zipItems]
  | _ :: _, [] => by simp [zipItems]
  | _ :: xs, _ :: ys => by simp only [zipItems, List.length_cons, zip_len xs ys]; omega
theorem ri_zipL {g : Gx} {F : Hp} {a b : Addr} {xs ys : List PV} {vs ws : List V} {e : En} {H : Hp} (h : F a = some (.lst vs)) (r : Reps g F xs vs) (h' : F b = some (.lst ws)) (r' : Reps g F ys ws) : RI g (zipItems xs ys) e (Itz g.K a b) F H := by
  intro F1 H1 s1 s2
  have hq : SqL g.K H1 a vs := .inl (.inl (s2 _ _ (s1 _ _ h)))
  have hq' : SqL g.K H1 b ws := .inl (.inl (s2 _ _ (s1 _ _ h')))
  refine ⟨fun i p hp => ?_, vs, ws, hq, hq', by rw [r.length, r'.length, zip_len]; omega⟩
  obtain ⟨q, q', e0, e0', rfl⟩ := zip_get xs ys i p hp
  obtain ⟨v, e1, e2⟩ := r.get e0
  obtain ⟨v', e1', e2'⟩ := r'.get e0'
  refine ⟨⟨vs, ws, v, v', hq, hq', e1, e1'⟩, fun x H' y => ?_⟩
  obtain ⟨T, w, w', rfl, nT, rfl, y1, y2⟩ := y
  have z1 := y1 vs hq
  have z2 := y2 ws hq'
  rw [e1] at z1; cases z1
  rw [e1'] at z2; cases z2
  have sm : Same F1 (upd F1 T (.tup [v, v'])) := same_upd (Same.free s2 nT)
  exact ⟨upd F1 T (.tup [v, v']), New.fix s2 nT, T, _, rfl, upd_same, _, _, rfl, (e2.mono s1).mono sm, _, _, rfl, (e2'.mono s1).mono sm, rfl⟩
theorem ri_zipT {g : Gx} {F : Hp} {a b : Addr} {xs ys : List PV} {vs ws : List V} {e : En} {H : Hp} (h : SqT g.K F a vs) (r : Reps g F xs vs) (h' : SqT g.K F b ws) (r' : Reps g F ys ws) : RI g (zipItems xs ys) e (RZ.ItzT g.K a b) F H := by
  intro F1 H1 s1 s2
  have hq : SqT g.K H1 a vs := Same.kseq s2 (Same.kseq s1 h)
  have hq' : SqT g.K H1 b ws := Same.kseq s2 (Same.kseq s1 h')
  refine ⟨fun i p hp => ?_, vs, ws, hq, hq', by rw [r.length, r'.length, zip_len]; omega⟩
  obtain ⟨q, q', e0, e0', rfl⟩ := zip_get xs ys i p hp
  obtain ⟨v, e1, e2⟩ := r.get e0
  obtain ⟨v', e1', e2'⟩ := r'.get e0'
  refine ⟨⟨vs, ws, v, v', hq, hq', e1, e1'⟩, fun x H' y => ?_⟩
  obtain ⟨T, w, w', rfl, nT, rfl, y1, y2⟩ := y
  have z1 := y1 vs hq
  have z2 := y2 ws hq'
  rw [e1] at z1; cases z1
  rw [e1'] at z2; cases z2
  have sm : Same F1 (upd F1 T (.tup [v, v'])) := same_upd (Same.free s2 nT)
  exact ⟨upd F1 T (.tup [v, v']), New.fix s2 nT, T, _, rfl, upd_same, _, _, rfl, (e2.mono s1).mono sm, _, _, rfl, (e2'.mono s1).mono sm, rfl⟩

theorem ri_zipS {g : Gx} {F : Hp} {t : Str} {b : Addr} {ys : List PV} {ws : List V} {e : En} {H : Hp} (h : F b = some (.tup ws)) (r : Reps g F ys ws) : RI g (zipItems (t.cps.toList.map fun c => .str ⟨#[c]⟩) ys) e (ItS g.K t b) F H := by
  intro F1 H1 s1 s2
  have hq : SqT g.K H1 b ws := .inl (.inl (s2 _ _ (s1 _ _ h)))
  refine ⟨fun i p hp => ?_, ws, hq, by rw [r.length, zip_len, List.length_map]; show t.cps.size ≤ _ ∨ _; rw [← Array.length_toList]; omega⟩
  obtain ⟨q, q', e0, e0', rfl⟩ := zip_get _ _ i p hp
  rw [List.getElem?_map] at e0
  obtain ⟨c, e1, rfl⟩ := Option.map_eq_some_iff.mp e0
  have e1' : t.cps[i]? = some c := by simpa using e1
  obtain ⟨v', e2, e2'⟩ := r.get e0'
  refine ⟨⟨ws, c, v', hq, e1', e2⟩, fun x H' y => ?_⟩
  obtain ⟨T, c2, w', rfl, nT, rfl, y1, y2⟩ := y
  rw [e1'] at y1; cases y1
  have z2 := y2 ws hq
  rw [e2] at z2; cases z2
  have sm : Same F1 (upd F1 T (.tup [.str ⟨#[c]⟩, v'])) := same_upd (Same.free s2 nT)
  exact ⟨upd F1 T (.tup [.str ⟨#[c]⟩, v']), New.fix s2 nT, T, _, rfl, upd_same, _, _, rfl, rfl, _, _, rfl, (e2'.mono s1).mono sm, rfl⟩
theorem _root_.L2.PI.or {X : Cx} {tg e : Expr} {t t' : TI} (h : PI X tg e t) (h' : PI X tg e t') : PI X tg e (fun σ H Q => t σ H Q ∨ t' σ H Q) := ⟨fun pins s σ H Q I q => q.elim (h.run pins s σ H Q I) (h'.run pins s σ H Q I)⟩
def isStrV : PV → Bool
  | .str _ => true
  | _ => false
def strRun : Out (PV × Fl) → Bool
  | .ok r _ => isStrV r.1
  | _ => false
theorem _root_.L2.PI.imp {X : Cx} {tg e : Expr} {t t' : TI} (h : PI X tg e t) (k : ∀ σ H Q, t' σ H Q → t σ H Q) : PI X tg e t' := ⟨fun pins s σ H Q I q => h.run pins s σ H Q I (k σ H Q q)⟩
/-- a list, a tuple or a text is walked -/
def iAny (K : PySem.W.Frag) (t : TE) : TI := fun σ H R => t σ H fun x H1 => (∃ a, x = .ref a ∧ (∃ xs, SqL K H1 a xs) ∧ R (Itl K a) H1) ∨ (∃ a, x = .ref a ∧ (∃ xs, SqT K H1 a xs) ∧ R (Itt K a) H1) ∨ ∃ z, x = .str z ∧ R (Its z) H1
theorem pi_any {tg l : Expr} {t : TE} (hl : PE X l t) : PI X tg l (iAny X.K t) := by
  constructor
  intro pins s σ H R I h
  refine thn (hl.run pins s σ H _ I h) ?_
  rintro v s1 ⟨x, H1, I1, r1, q⟩
  rcases q with ⟨a, rfl, ⟨xs, hq⟩, q⟩ | ⟨a, rfl, ⟨xs, hq⟩, q⟩ | ⟨z, rfl, q⟩
  · cases r1
    obtain ⟨its, rv, pl, _⟩ := I1.list hq
    exact wpAny_pyIter_list pl.isList (pi_one (tk := s1.toks) I1 _ (turn_list a _) ⟨_, Heap.get?_push_size _ rfl, rfl, rfl⟩ q)
  · cases r1
    obtain ⟨its, rv, pl, _⟩ := I1.tuple hq
    exact wpAny_pyIter_tuple (show s1.heap.IsTuple a its.toArray from pl) (pi_one (tk := s1.toks) I1 _ (turn_tuple a _) ⟨_, Heap.get?_push_size _ rfl, rfl, rfl⟩ q)
  · obtain ⟨t, rfl⟩ := r1
    by_cases ha : z.cps.all (· < 128) = true
    · exact wpAny_pyIter_ascii ha (pi_one (tk := s1.toks) I1 _ (turn_str _ z t _ (.inl rfl)) ⟨_, Heap.get?_push_size _ rfl, rfl, rfl⟩ q)
    · exact wpAny_pyIter_wide (by simpa using ha) (pi_one (tk := s1.toks) I1 _ (turn_str _ z t _ (.inr rfl)) ⟨_, Heap.get?_push_size _ rfl, rfl, rfl⟩ q)
theorem ci_any {it : IE} {tg e : Expr} (h : CE X C W it e) : PI X tg e (tI (gx X) W (evIt C it)) := by
  refine (pi_any h.1).imp fun σ H Q q => ?_
  obtain ⟨G, env, F, S, r⟩ := q
  refine ⟨G, env, F, S, Rd.bind r fun r1 e1 v F1 H1 sm1 S1 h1 q1 => ?_⟩
  obtain ⟨F2, S2, r2, sm2⟩ := S1.fix h1
  unfold itO at q1
  split at q1
  · rename_i xs hx
    have q2 := q1.at sm2
    obtain ⟨p, fl⟩ := r1
    unfold itemsP at hx
    split at hx
    · cases hx
      obtain ⟨a, vs, rfl, h3, h4⟩ := (show Rep (gx X) F2 (.lst xs) v by simp_all)
      exact .inl ⟨a, rfl, ⟨vs, .inl (.inl (S2.sub _ _ h3))⟩, q2 _ F2 H1 (.refl _) S2 (ri_list h3 h4)⟩
    · cases hx
      obtain ⟨a, vs, rfl, h3, h4⟩ := (show Rep (gx X) F2 (.tup xs) v by simp_all)
      exact .inr (.inl ⟨a, rfl, ⟨vs, Same.tseq S2.sub h3⟩, q2 _ F2 H1 (.refl _) S2 (ri_tup (.inl (.inl h3)) h4)⟩)
    · cases hx
      obtain ⟨a, vs, rfl, h3, h4⟩ := (show Rep (gx X) F2 (.ktp xs) v by simp_all)
      exact .inr (.inl ⟨a, rfl, ⟨vs, Same.kseq S2.sub h3⟩, q2 _ F2 H1 (.refl _) S2 (ri_tup h3 h4)⟩)
    · rename_i z hz
      cases hx
      have h3 : Rep (gx X) F2 (.str z) v := by simp_all
      cases h3
      exact .inr (.inr ⟨z, rfl, q2 _ F2 H1 (.refl _) S2 ri_str⟩)
    · cases hx
  · exact q1.elim
theorem fzO_it {G : Ent} {σ : L2.St} {F : Hp} {o : Option (List PV)} {e : En} {Q : It → Hp → Prop} (h : Rd (gx X) W G σ F (RI (gx X)) ((fzO (o.map .lst) e).bind fun r e1 => itO (itemsP r.1) e1) Q) : ∃ xs, o = some xs ∧ Rd (gx X) W G σ F (RI (gx X)) (.ok xs e) Q := by
  cases o with
  | none => exact h.elim
  | some xs => exact ⟨xs, rfl, h⟩
theorem rngP_one {p : PV} {xs : List PV} (h : rngP [p] = some xs) : ∃ j : Int, p = .int j ∧ -(2 ^ 62) ≤ j ∧ j < 2 ^ 62 ∧ xs = rngItems 0 j := by
  unfold rngP at h
  split at h
  · rename_i j hj
    cases hj
    split at h
    · rename_i hz; cases h; exact ⟨j, rfl, hz.1, hz.2, rfl⟩
    · cases h
  · rename_i hj; cases hj
  · cases h
theorem rngP_two {p q : PV} {xs : List PV} (h : rngP [p, q] = some xs) : ∃ i j : Int, p = .int i ∧ q = .int j ∧ (-(2 ^ 62) ≤ i ∧ i < 2 ^ 62 ∧ -(2 ^ 62) ≤ j ∧ j < 2 ^ 62) ∧ xs = rngItems i j := by
  unfold rngP at h
  split at h
  · rename_i hj; cases hj
  · rename_i i j hj
    cases hj
    split at h
    · rename_i hz; cases h; exact ⟨i, j, rfl, rfl, hz, rfl⟩
    · cases h
  · cases h
theorem rng_ev {as : IE} (env : En) : evIt C (.rng as) env = (evOs C as env).bind fun os e1 => (fzO (((rsOs e1 os).bind rngP).map .lst) e1).bind fun r e1 => itO (itemsP r.1) e1 := by
  unfold evIt
  rw [← Out.assoc]
  congr 1
  show (evOs C as env).bind _ = (evOs C as env).bind _
  congr 1
  funext os e1
  cases q : rsOs e1 os <;> rfl
theorem ci_rng1 (K : Cok X C W N sc) {as : IE} {tg e : Expr} {p pos : Pos} {fa : En → Out Opd} (hg : glB sc "range" = true) (hs : isStar e = false) (h : PE X e (tO (gx X) W fa)) (has : ∀ env, evOs C as env = (fa env).bind fun x e1 => .ok [x] e1) :
    PI X tg (.Call (.Name "range" p) [e] [] pos) (tI (gx X) W (evIt C (.rng as))) := by
  obtain ⟨h1, _⟩ := K.gl hg
  refine (pi_range1 h1 K.rng (pa_cons h pa_nil (star_cons _ _ hs)) (star_cons _ _ hs)).imp fun σ H Q q => ?_
  obtain ⟨G, env, F, S, r⟩ := q
  rw [rng_ev, has, Out.assoc] at r
  refine ⟨G, env, F, S, Rd.bind r fun x e1 v F1 H1 sm1 S1 h1 q1 => ?_⟩
  obtain ⟨xs, e2, q2⟩ := fzO_it q1
  obtain ⟨ps, e3, e4⟩ := Option.bind_eq_some_iff.mp e2
  obtain ⟨p0, e5, e6⟩ := Option.bind_eq_some_iff.mp (show (rsO e1 x).bind (fun p => (some []).map (p :: ·)) = some ps from e3)
  cases e6
  obtain ⟨j, rfl, h2, h3, rfl⟩ := rngP_one e4
  have hx := S1.rs e5 h1
  cases hx
  refine ⟨j, rfl, h2, h3, ?_⟩
  have := q2 (Itr 0 (j - 0).toNat) F1 H1 (.refl _) S1 ri_rng
  rwa [Int.sub_zero] at this
theorem ci_rng2 (K : Cok X C W N sc) {as : IE} {tg e f : Expr} {p pos : Pos} {fa fb : En → Out Opd} (hg : glB sc "range" = true) (hs : isStar e = false) (hs' : isStar f = false) (h : PE X e (tO (gx X) W fa)) (h' : PE X f (tO (gx X) W fb))
    (has : ∀ env, evOs C as env = (fa env).bind fun x e1 => (fb e1).bind fun y e2 => .ok [x, y] e2) :
    PI X tg (.Call (.Name "range" p) [e, f] [] pos) (tI (gx X) W (evIt C (.rng as))) := by
  obtain ⟨h1, _⟩ := K.gl hg
  refine (pi_range2 h1 K.rng (pa_cons h (pa_cons h' pa_nil (star_cons _ _ hs')) (star_cons _ _ hs)) (by rw [star_cons _ _ hs, star_cons _ _ hs']; rfl) (star_cons _ _ hs')).imp fun σ H Q q => ?_
  obtain ⟨G, env, F, S, r⟩ := q
  rw [rng_ev, has, Out.assoc] at r
  refine ⟨G, env, F, S, Rd.bind r fun x e1 v F1 H1 sm1 S1 h1 q1 => ?_⟩
  rw [Out.assoc] at q1
  refine ⟨G, e1, F1, S1, Rd.bind q1 fun y e2 w F2 H2 sm2 S2 h2 q2 => ?_⟩
  obtain ⟨xs, e3, q3⟩ := fzO_it q2
  obtain ⟨ps, e4, e5⟩ := Option.bind_eq_some_iff.mp e3
  obtain ⟨p0, e6, e7⟩ := Option.bind_eq_some_iff.mp (show (rsO e2 x).bind (fun p => (rsOs e2 [y]).map (p :: ·)) = some ps from e4)
  obtain ⟨qs, e8, e9⟩ := Option.map_eq_some_iff.mp e7
  subst e9
  obtain ⟨p1, e10, e11⟩ := Option.bind_eq_some_iff.mp (show (rsO e2 y).bind (fun p => (some []).map (p :: ·)) = some qs from e8)
  cases e11
  obtain ⟨i, j, rfl, rfl, h3, rfl⟩ := rngP_two e5
  have hx := S2.rs e6 (h1.mono sm2)
  cases hx
  have hy := S2.rs e10 h2
  cases hy
  exact ⟨i, j, rfl, h3, q3 _ F2 H2 (.refl _) S2 ri_rng⟩
theorem enmP_ok {p q : PV} (h : enmP p = some q) : ∃ xs, p = .lst xs ∧ q = .lst (enmItems 0 xs) := by
  cases p with
  | lst xs => cases h; exact ⟨xs, rfl, rfl⟩
  | _ => cases h
theorem ci_enm (K : Cok X C W N sc) {a : IE} {e : Expr} {elts : List Expr} {kk : Nat} {tpos p pos : Pos} (hg : glB sc "enumerate" = true) (hs : isStar e = false) (h : CE X C W a e) :
    PI X (.Tuple elts kk tpos) (.Call (.Name "enumerate" p) [e] [] pos) (tI (gx X) W (evIt C (.enm a))) := by
  obtain ⟨h1, _⟩ := K.gl hg
  refine (pi_enum h1 K.enm (pa_cons h.1 pa_nil (star_cons _ _ hs)) (star_cons _ _ hs)).imp fun σ H Q q => ?_
  obtain ⟨G, env, F, S, r⟩ := q
  have e0 : evIt C (.enm a) env = ((ev C a).1 env).bind fun r e1 => (fzO (enmP r.1) e1).bind fun r e1 => itO (itemsP r.1) e1 := by
    unfold evIt; rw [← Out.assoc]; rfl
  rw [e0] at r
  refine ⟨G, env, F, S, Rd.bind r fun r1 e1 v F1 H1 sm1 S1 h1 q1 => ?_⟩
  obtain ⟨F2, S2, r2, sm2⟩ := S1.fix h1
  unfold fzO at q1
  split at q1
  · rename_i p hp
    obtain ⟨xs, e2, rfl⟩ := enmP_ok hp
    rw [e2] at r2
    obtain ⟨b, vs, rfl, h3, h4⟩ := r2
    exact ⟨b, vs, rfl, .inl (.inl (S2.sub _ _ h3)), q1 _ F2 H1 sm2 S2 (ri_enm h3 h4)⟩
  · exact q1.elim
theorem ci_zip (K : Cok X C W N sc) {a b : IE} {e f : Expr} {elts : List Expr} {kk : Nat} {tpos p pos : Pos} (hg : glB sc "zip" = true) (hs : isStar e = false) (hs' : isStar f = false) (h : CE X C W a e) (h' : CE X C W b f) :
    PI X (.Tuple elts kk tpos) (.Call (.Name "zip" p) [e, f] [] pos) (tI (gx X) W (evIt C (.zip a b))) := by
  obtain ⟨h1, _⟩ := K.gl hg
  refine ((RZ.pi_zipA h1 K.zip (pa_cons h.1 (pa_cons h'.1 pa_nil (star_cons _ _ hs')) (star_cons _ _ hs)) (star_cons _ _ hs) (any_star _ _ [f] (by simp [hs']))).or (pi_zs h1 K.zip (pa_cons h.1 (pa_cons h'.1 pa_nil (star_cons _ _ hs')) (star_cons _ _ hs)) (star_cons _ _ hs) (any_star _ _ [f] (by simp [hs'])))).imp fun σ H Q q => ?_
  obtain ⟨G, env, F, S, r⟩ := q
  have e0 : evIt C (.zip a b) env = ((ev C a).1 env).bind fun r e1 => ((ev C b).1 e1).bind fun q e2 => (fzO ((zipP r.1 q.1).map .lst) e2).bind fun r e1 => itO (itemsP r.1) e1 := by
    unfold evIt
    show Out.bind (Out.bind _ _) _ = _
    rw [Out.assoc]
    congr 1
    funext r e1
    rw [Out.assoc]
  rw [e0] at r
  by_cases hst : strRun ((ev C a).1 env) = true
  · refine .inr ?_
    cases hrun : (ev C a).1 env with
    | ok r0 e0' =>
      rw [hrun] at hst r
      refine ⟨G, env, F, S, ?_⟩
      rw [hrun]
      intro v F1 H1 sm1 S1 h1
      have q1 := Rd.at (show Rd (gx X) W G σ F (RI (gx X)) (((ev C b).1 e0').bind fun q e2 => (fzO ((zipP r0.1 q.1).map .lst) e2).bind fun r e1 => itO (itemsP r.1) e1) Q from r) sm1
      obtain ⟨p0, fl0⟩ := r0
      obtain ⟨F2, S2, r2, sm2⟩ := S1.fix h1
      refine ⟨G, e0', F2, S2, Rd.bind (q1.at sm2) fun q1 e2 w F3 H3 sm3 S3 h3 q3 => ?_⟩
      obtain ⟨F4, S4, r4, sm4⟩ := S3.fix h3
      obtain ⟨xs, e5, q5⟩ := fzO_it (q3.at sm4)
      have r2' := (r2.mono sm3).mono sm4
      cases p0 with
      | str t =>
        unfold zipP at e5
        split at e5
        · rename_i h9 _; cases h9
        · rename_i h9 _; cases h9
        · rename_i t2 ys h9 e7
          cases h9
          split at e5
          · rename_i hasc
            cases e5
            rw [e7] at r4
            cases r2'
            obtain ⟨d, ws, rfl, k3, k4⟩ := r4
            exact ⟨t, d, ws, rfl, hasc, .inl (.inl (S4.sub _ _ k3)), q5 _ F4 H3 (.refl _) S4 (ri_zipS k3 k4)⟩
          · cases e5
        · cases e5
      | _ => cases hst
    | exc x e1 => rw [hrun] at hst; cases hst
    | bad => rw [hrun] at hst; cases hst
  refine .inl ?_
  cases hrun : (ev C a).1 env with
  | bad => rw [hrun] at r; exact r.elim
  | exc x e1 =>
    refine ⟨G, env, F, S, ?_⟩
    rw [hrun] at r ⊢
    exact r
  | ok r1 e1 =>
  rw [hrun] at hst r
  refine ⟨G, env, F, S, ?_⟩
  rw [hrun]
  intro v F1 H1 sm1 S1 h1
  have q1 := Rd.at (show Rd (gx X) W G σ F (RI (gx X)) (((ev C b).1 e1).bind fun q e2 => (fzO ((zipP r1.1 q.1).map .lst) e2).bind fun r e1 => itO (itemsP r.1) e1) Q from r) sm1
  obtain ⟨F2, S2, r2, sm2⟩ := S1.fix h1
  refine ⟨G, e1, F2, S2, Rd.bind (q1.at sm2) fun q1 e2 w F3 H3 sm3 S3 h3 q3 => ?_⟩
  obtain ⟨F4, S4, r4, sm4⟩ := S3.fix h3
  obtain ⟨xs, e5, q5⟩ := fzO_it (q3.at sm4)
  have r2' := (r2.mono sm3).mono sm4
  unfold zipP at e5
  split at e5
  · rename_i e6 e7
    cases e5
    rw [e6] at r2'
    rw [e7] at r4
    obtain ⟨c, vs, rfl, k1, k2⟩ := r2'
    obtain ⟨d, ws, rfl, k3, k4⟩ := r4
    exact ⟨c, d, vs, ws, rfl, .inl ⟨.inl (.inl (S4.sub _ _ k1)), .inl (.inl (S4.sub _ _ k3)), q5 _ F4 H3 (.refl _) S4 (ri_zipL k1 k2 k3 k4)⟩⟩
  · rename_i e6 e7
    cases e5
    rw [e6] at r2'
    rw [e7] at r4
    obtain ⟨c, vs, rfl, k1, k2⟩ := r2'
    obtain ⟨d, ws, rfl, k3, k4⟩ := r4
    exact ⟨c, d, vs, ws, rfl, .inr ⟨Same.tseq S4.sub k1, Same.tseq S4.sub k3, q5 _ F4 H3 (.refl _) S4 (ri_zipT (.inl (.inl k1)) k2 (.inl (.inl k3)) k4)⟩⟩
  · rename_i t2 ys e6 e7
    exact absurd (show isStrV r1.1 = true by rw [e6]; rfl) hst
  · cases e5
end
end Bd

namespace Bd
open PySem L2
section
variable {g : Gx} {G : Ent} {env : En} {σ : L2.St} {F H F' H' : Hp}
/-- a slot takes a fixed value -/
theorem Sx.setFz (S : Sx g G env σ F H) {i : Nat} {p : PV} {v : V} (hr : Rep g F p v) : Sx g G (env.set i (some (p, .fz))) (σ.set i (some v)) F H := by
  have ge : ∀ (j : Nat) q, (env.set i (some (p, .fz)))[j]? = some (some q) → (j = i ∧ q = (p, .fz) ∧ i < env.length) ∨ (j ≠ i ∧ env[j]? = some (some q)) := fun j q h => by
    by_cases hj : i = j
    · subst hj
      by_cases hl : i < env.length
      · rw [List.getElem?_set_self hl] at h
        cases h; exact .inl ⟨rfl, rfl, hl⟩
      · rw [List.getElem?_eq_none (by simpa using hl)] at h; cases h
    · rw [List.getElem?_set_ne hj] at h
      exact .inr ⟨fun z => hj z.symm, h⟩
  refine ⟨S.sub, S.f0, S.h0, S.nf, S.th, by simpa using S.len, fun j pv h => ?_, fun j pv fl h hf => ?_, fun j k q r a h1 f1 h2 f2 s1 s2 => ?_, fun j pv h => ?_⟩
  · rcases ge j _ h with ⟨rfl, hq, hl⟩ | ⟨hj, hq⟩
    · cases hq
      exact ⟨v, List.getElem?_set_self (by rw [← S.len]; exact hl), hr⟩
    · obtain ⟨w, e1, e2⟩ := S.fz j pv hq
      exact ⟨w, by rw [List.getElem?_set_ne (Ne.symm hj)]; exact e1, e2⟩
  · rcases ge j _ h with ⟨rfl, hq, hl⟩ | ⟨hj, hq⟩
    · cases hq; exact absurd rfl hf
    · obtain ⟨a, e1, e2⟩ := S.own j pv fl hq hf
      exact ⟨a, by rw [List.getElem?_set_ne (Ne.symm hj)]; exact e1, e2⟩
  · rcases ge j _ h1 with ⟨rfl, hq, hl⟩ | ⟨hj, hq⟩
    · subst hq; exact absurd rfl f1
    · rcases ge k _ h2 with ⟨rfl, hr', hl⟩ | ⟨hk, hr'⟩
      · subst hr'; exact absurd rfl f2
      · rw [List.getElem?_set_ne (Ne.symm hj)] at s1
        rw [List.getElem?_set_ne (Ne.symm hk)] at s2
        exact S.inj j k q r a hq f1 hr' f2 s1 s2
  · rcases ge j _ h with ⟨rfl, hq, hl⟩ | ⟨hj, hq⟩
    · cases hq
    · rw [List.getElem?_set_ne (Ne.symm hj)]; exact S.bo j pv hq
/-- an object of nobody's, made here, is changed -/
theorem Sx.wr (S : Sx g G env σ F H) {D : Addr} {o : HO} (hG : G.H D = none) (hF : F D = none) (ap : Apart env σ D) : Sx g G env σ F (upd H D o) := by
  refine ⟨fun b x q => ?_, S.f0, fun a x h1 h2 => ?_, S.nf, fun a x h1 => ?_, S.len, S.fz, fun i pv fl h hf => ?_, S.inj, S.bo⟩
  · rw [upd_ne (ne_of_none q hF)]; exact S.sub b x q
  · rw [upd_ne (ne_of_none h1 hG)]; exact S.h0 a x h1 h2
  · rw [upd_ne (ne_of_none h1 hG)]; exact S.th a x h1
  · obtain ⟨a, e1, e2, e3, e4⟩ := S.own i pv fl h hf
    have hne : a ≠ D := by rintro rfl; exact ap i _ h hf e1
    exact ⟨a, e1, e2, e3.mono (.refl _) fun o q => by rw [upd_ne hne]; exact q, e4⟩
/-- the entry of a part: only what a slot owns may be changed -/
def nar (env : En) (σ : L2.St) (F H : Hp) : Ent := ⟨F, H, fun a => ∃ (i : Nat) (p : PV × Fl), env[i]? = some (some p) ∧ p.2 ≠ .fz ∧ σ[i]? = some (some (.ref a)), fun a => ∃ (i : Nat) (p : PV × Fl), env[i]? = some (some p) ∧ p.2 = .own ∧ σ[i]? = some (some (.ref a)), σ, fun i => ∃ p, env[i]? = some (some (p, .bor))⟩
theorem Sx.narrow (S : Sx g G env σ F H) : Sx g (nar env σ F H) env σ F H := by
  refine ⟨S.sub, .refl _, fun a o h _ => h, fun a o _ h _ => h, fun a o h => ⟨o, h⟩, S.len, S.fz, fun i pv fl h hf => ?_, S.inj, fun i pv h => ⟨⟨pv, h⟩, rfl⟩⟩
  obtain ⟨a, e1, e2, e3, e4, e5⟩ := S.own i pv fl h hf
  exact ⟨a, e1, e2, e3, .inl ⟨i, _, h, hf, e1⟩, fun z => .inl ⟨i, _, h, z, e1⟩⟩
theorem Sx.widen {env' : En} {σ' : L2.St} (S : Sx g G env σ F H) (S' : Sx g (nar env σ F H) env' σ' F' H') : Sx g G env' σ' F' H' := by
  have own : ∀ a, (nar env σ F H).M a → G.M a ∨ G.H a = none := fun a ⟨i, p, h1, h2, h3⟩ => by
    obtain ⟨b, e1, _, _, e4, _⟩ := S.own i p.1 p.2 h1 h2
    rw [h3] at e1; cases e1
    exact e4
  have ownZ : ∀ a, (nar env σ F H).Z a → G.Z a ∨ G.H a = none := fun a ⟨i, p, h1, h2, h3⟩ => by
    obtain ⟨b, e1, _, _, _, e5⟩ := S.own i p.1 p.2 h1 (by rw [h2]; simp)
    rw [h3] at e1; cases e1
    exact e5 h2
  have gone : ∀ a, H a = none → G.H a = none := fun a h => by
    cases w : G.H a with
    | none => rfl
    | some o => obtain ⟨o', e⟩ := S.th a o w; rw [h] at e; cases e
  refine ⟨S'.sub, S.f0.trans S'.f0, fun a o h1 h2 => S'.h0 a o (S.h0 a o h1 h2) fun z => ?_, fun a o h1 h2 h3 => ?_, fun a o h1 => ?_, S'.len, S'.fz, fun i pv fl h hf => ?_, S'.inj, fun i pv h => ?_⟩
  · rcases own a z with z | z
    · exact h2 z
    · rw [h1] at z; cases z
  · obtain ⟨o', e⟩ := S.th a o h1
    refine S'.nf a o' e (S.nf a o h1 h2 h3) fun z => ?_
    rcases ownZ a z with z | z
    · exact h3 z
    · rw [h1] at z; cases z
  · obtain ⟨o', e⟩ := S.th a o h1
    exact S'.th a o' e
  · obtain ⟨a, e1, e2, e3, e4, e5⟩ := S'.own i pv fl h hf
    refine ⟨a, e1, e2, e3, ?_, fun z => ?_⟩
    · rcases e4 with z | z
      · exact own a z
      · exact .inr (gone a z)
    · rcases e5 z with z | z
      · exact ownZ a z
      · exact .inr (gone a z)
  · obtain ⟨⟨q, hq⟩, h2⟩ := S'.bo i pv h
    obtain ⟨h3, h4⟩ := S.bo i q hq
    exact ⟨h3, h2.trans h4⟩
/-- what nobody owns is as it was behind a part -/
theorem Sx.kept {env' : En} {σ' : L2.St} (S' : Sx g (nar env σ F H) env' σ' F' H') {D : Addr} {o : HO} (h : H D = some o) (ap : Apart env σ D) : H' D = some o ∧ (F D = none → F' D = none) ∧ Apart env' σ' D := by
  have nM : ¬ (nar env σ F H).M D := fun ⟨i, p, h1, h2, h3⟩ => ap i p h1 h2 h3
  refine ⟨S'.h0 D o h nM, fun hf => S'.nf D o h hf fun ⟨i, p, h1, h2, h3⟩ => ap i p h1 (by rw [h2]; simp) h3, fun i p h1 h2 h3 => ?_⟩
  obtain ⟨a, e1, _, _, e4, _⟩ := S'.own i p.1 p.2 h1 h2
  rw [h3] at e1; cases e1
  rcases e4 with z | z
  · exact nM z
  · rw [show (nar env σ F H).H = H from rfl, h] at z; cases z
end

/-! ### a list is unpacked -/
section
variable {prog : Program} {w : World} {A : Around} {E : Value → Shared → Prop} {s : Shared}
theorem draw_list {it t : Addr} {items : Array Value} (hne : t ≠ it) : ∀ (n i : Nat) (s : Shared) (Q : List Value → Shared → Prop), s.heap.IsListIter it t i → s.heap.IsList t items → i + n ≤ items.size →
    (∀ h' : Heap, h'.IsListIter it t (i + n) → Heap.SameBut it s.heap h' → Q ((items.toList.drop i).take n) { s with heap := h' }) → wpAny (model prog w) A (draw (.ref it) n) Q E s
  | 0, i, s, Q, hit, _, _, hQ => by
    show wpAny _ _ (pure []) Q E s
    have h0 := hQ s.heap hit (Heap.SameBut.refl ..)
    exact wpAny_pure (by simpa using h0)
  | n + 1, i, s, Q, hit, ht, hle, hQ => by
    have hlt : i < items.size := by omega
    show wpAny _ _ (pyNext (.ref it) >>= _) Q E s
    refine wpAny_bind (wpAny_pyNext_list_item hit ht (x := items[i]) (by simp [hlt]) fun h1 hit1 hs1 => ?_)
    refine wpAny_bind (wpAny_holding (draw_list hne n (i + 1) _ _ hit1 (ht.extBut hs1.extBut hne) (by omega) fun h2 hit2 hs2 => wpAny_pure ?_))
    have hd : items.toList.drop i = items[i] :: items.toList.drop (i + 1) := by simp [List.drop_eq_getElem_cons, hlt]
    have z := hQ h2 (by rw [show i + (n + 1) = i + 1 + n by omega]; exact hit2) (hs1.trans hs2)
    rw [hd, List.take_succ_cons] at z
    exact z
theorem unpackItems_list {t : Addr} {items : Array Value} {Q : List Value → Shared → Prop} (hh : A.handled = none) (ht : s.heap.IsList t items)
    (hQ : ∀ h' : Heap, Heap.ExtBut s.heap.objs.size s.heap h' → Q items.toList { s with heap := h' }) : wpAny (model prog w) A (unpackItems (.ref t) items.size none) Q E s := by
  have hlt : t ≠ s.heap.objs.size := by obtain ⟨o, ho, _⟩ := ht; exact Nat.ne_of_lt (Heap.lt_size ho)
  unfold unpackItems
  refine wpAny_bind ?_
  unfold notIterableAtAll
  refine wpAny_bind (wpAny_specialOf ht.typeIs F.slot_list_iter.lookup ?_)
  refine wpAny_pure ?_
  simp only [Bool.false_eq_true, if_false]
  refine wpAny_bind (wpAny_holding (wpAny_pyIter_list ht ?_))
  refine wpAny_bind (wpAny_holding (draw_list hlt items.size 0 _ _ ⟨_, Heap.get?_push_size _ rfl, rfl, rfl⟩ (ht.push _) (by omega) fun h1 hit1 hs1 => ?_))
  have hall : List.take items.size (List.drop 0 items.toList) = items.toList := by
    rw [List.drop_zero]; exact List.take_of_length_le (by simp)
  rw [hall]
  rw [if_neg (by simp)]
  have ht1 : h1.IsList t items := (ht.push _).extBut hs1.extBut hlt
  refine wpAny_bind (wpAny_holding (wpAny_pyNext_list_end hh hit1 ht1 (by simp) fun h2 he2 => ?_))
  simp only [Option.isSome_none, Bool.false_eq_true, if_false]
  exact wpAny_pure (hQ h2 fun b o hb e => he2 b o hb (hs1.extBut b o hb (Heap.get?_push_of_some _ e)))
theorem assign_Tuple_list {env : Env} {elts : List Expr} {k : Nat} {pos : Pos} {t : Addr} {items : Array Value} {Q : Unit → Shared → Prop} (hh : A.handled = none) (ht : s.heap.IsList t items)
    (hn : (assignEach elts env).length = items.size) (hstar : (assignEach elts env).findIdx? (·.1) = none)
    (h : ∀ h' : Heap, Heap.ExtBut s.heap.objs.size s.heap h' → wpAny (model prog w) A (assignInOrder ((assignEach elts env).map (·.2)) items.toList) Q E { s with heap := h' }) :
    wpAny (model prog w) A (assign (.Tuple elts k pos) env (.ref t)) Q E s := by
  rw [PyProof.Rows.assign_Tuple]
  refine wpAny_bind (wpAny_standAt ?_)
  unfold unpack
  rw [hn, hstar]
  exact wpAny_bind (wpAny_holding (unpackItems_list hh ht h))
end
def gLst (K : PySem.W.Frag) (n : Nat) (t : TGs) : TG := fun v σ H Q => ∃ a xs, v = .ref a ∧ SqL K H a xs ∧ xs.length = n ∧ t xs σ H Q
theorem pg_lst {X : Cx} {pos : Pos} {es : List Expr} {k : Nat} {t : TGs} {n : Nat} (hc : X.calm = true) (h : PGs X es t)
    (hn : (assignEach es X.env).length = n) (hst : (assignEach es X.env).findIdx? (·.1) = none) : PG X (.Tuple es k pos) (gLst X.K n t) := by
  refine ⟨fun pins s σ H v u Q I r hw => ?_⟩
  obtain ⟨a, xs, e1, hq, hl, hw⟩ := hw
  subst e1
  cases r
  obtain ⟨its, rv, ht, hz⟩ := I.list hq
  refine assign_Tuple_list (I.ok.hd hc) ht.isList (by simp [hn, ← hl, rv.length]) hst fun h' hx => ?_
  have I1 : Inv X pins σ H { s with heap := h' } := I.kept (t' := s.toks) fun b o e => hx b o (Nat.ne_of_lt (Heap.lt_size e)) e
  exact h.run pins _ σ H xs _ Q I1 (by simpa using rv) hw
theorem _root_.L2.PG.or {X : Cx} {e : Expr} {t t' : TG} (h : PG X e t) (h' : PG X e t') : PG X e (fun v σ H Q => t v σ H Q ∨ t' v σ H Q) := ⟨fun pins s σ H v u Q I r q => q.elim (h.run pins s σ H v u Q I r) (h'.run pins s σ H v u Q I r)⟩

/-! ### targets -/
abbrev RG (g : Gx) (ig : IG) : Ent → L2.St → Hp → Hp → En → (L2.St → Hp → Prop) → Prop := fun G σ F H e Q => ∀ σ', Sx g G e σ' F H → σ'.length = σ.length → (∀ j, j ∉ slotsG ig → σ'[j]? = σ[j]?) → Q σ' H
def tGt (g : Gx) (ig : IG) : TG := fun v σ H Q => ∃ G env F p e, Sx g G env σ F H ∧ Rep g F p v ∧ setG ig p env = some e ∧ RG g ig G σ F H e Q
theorem _root_.L2.PG.imp {X : Cx} {e : Expr} {t t' : TG} (h : PG X e t) (k : ∀ v σ H Q, t' v σ H Q → t v σ H Q) : PG X e t' := ⟨fun pins s σ H v u Q I r q => h.run pins s σ H v u Q I r (k v σ H Q q)⟩
def gNames : List Nat → TGs
  | [] => gNil
  | i :: is => gCons (gName i) (gNames is)
section
variable {X : Cx} {C : Cal} {W : WX} {N : List Str} {sc : Scope} {fnb : Str → Bool}
theorem locB_ok (K : Cok X C W N sc) (hf : ∀ x, fnb x = true → X.fn x = true) {x : Str} (h : locB sc fnb x = true) : Loc X.env.scope x ∧ (X.fn x = true ∨ X.env.scope.names.lookup x = some .local) := by
  unfold locB at h
  rw [K.hsc]
  split at h
  · rename_i e; exact ⟨.inl e, .inr e⟩
  · rename_i e; exact ⟨.inr e, .inl (hf x h)⟩
  · cases h
theorem pgs_names (K : Cok X C W N sc) (hf : ∀ x, fnb x = true → X.fn x = true) : ∀ {is : List Nat} {es : List Expr}, chkNames N sc fnb is es = true → PGs X es (gNames is) ∧ (assignEach es X.env).length = is.length ∧ (assignEach es X.env).findIdx? (·.1) = none
  | [], [], _ => ⟨pgs_nil, rfl, rfl⟩
  | [], _ :: _, h => by cases h
  | i :: is, [], h => by cases h
  | i :: is, e :: es, h => by
    cases e <;> try (cases h; done)
    rename_i x pos
    obtain ⟨h12, h3⟩ := band (show (decide (N[i]? = some x) && locB sc fnb x && chkNames N sc fnb is es) = true from h)
    obtain ⟨h1, h2⟩ := band h12
    obtain ⟨k1, k2, k3⟩ := pgs_names K hf h3
    obtain ⟨l1, l2⟩ := locB_ok K hf h2
    refine ⟨pgs_cons (pg_name (by rw [K.hN]; exact K.nd) (by rw [K.hN]; exact of_decide_eq_true h1) l1 l2) k1 rfl, ?_, ?_⟩
    · show (assignEach es X.env).length + 1 = _
      rw [k2]; rfl
    · show List.findIdx? (·.1) ((false, _) :: assignEach es X.env) = none
      rw [List.findIdx?_cons]
      simp [k3]
theorem gNames_ok {g : Gx} {G : Ent} {F H : Hp} : ∀ {is : List Nat} {ps : List PV} {vs : List V} {env : En} {σ : L2.St} {Q : L2.St → Hp → Prop}, is.length = ps.length → Reps g F ps vs → Sx g G env σ F H →
    (∀ σ', Sx g G ((is.zip ps).foldl (fun e q => e.set q.1 (some (q.2, .fz))) env) σ' F H → σ'.length = σ.length → (∀ j, j ∉ is → σ'[j]? = σ[j]?) → Q σ' H) → gNames is vs σ H Q
  | [], [], _, _, _, _, _, r, S, k => by
    cases r
    exact ⟨rfl, k _ S rfl fun _ _ => rfl⟩
  | [], _ :: _, _, _, _, _, hl, _, _, _ => by cases hl
  | _ :: _, [], _, _, _, _, hl, _, _, _ => by cases hl
  | i :: is, p :: ps, _, env, σ, Q, hl, r, S, k => by
    obtain ⟨v, vr, rfl, r1, r2⟩ := r
    refine ⟨v, vr, rfl, ?_⟩
    refine gNames_ok (is := is) (ps := ps) (by simpa using hl) r2 (S.setFz r1) fun σ' S' hl' hj => ?_
    refine k σ' S' (by rw [hl']; simp) fun j hn => ?_
    have hne : i ≠ j := by rintro rfl; simp at hn
    rw [hj j (fun z => hn (List.mem_cons_of_mem _ z)), List.getElem?_set_ne hne]
theorem cg_ok (K : Cok X C W N sc) (hf : ∀ x, fnb x = true → X.fn x = true) {ig : IG} {e : Expr} (h : chkG N sc fnb ig e = true) : PG X e (tGt (gx X) ig) := by
  cases ig with
  | nm i =>
    cases e <;> try (cases h; done)
    rename_i x pos
    obtain ⟨h1, h2⟩ := band (show (decide (N[i]? = some x) && locB sc fnb x) = true from h)
    obtain ⟨l1, l2⟩ := locB_ok K hf h2
    refine (pg_name (i := i) (by rw [K.hN]; exact K.nd) (by rw [K.hN]; exact of_decide_eq_true h1) l1 l2).imp fun v σ H Q q => ?_
    obtain ⟨G, env, F, p, e, S, r, hs, k⟩ := q
    cases hs
    refine k _ (S.setFz r) (by simp) fun j hj => ?_
    have hne : i ≠ j := by rintro rfl; simp [slotsG] at hj
    exact List.getElem?_set_ne hne
  | tup is =>
    cases e <;> try (cases h; done)
    rename_i es kk pos
    obtain ⟨k1, k2, k3⟩ := pgs_names K hf (show chkNames N sc fnb is es = true from h)
    refine ((pg_tup K.calm k1 k2 k3).or (pg_lst K.calm k1 k2 k3)).imp fun v σ H Q q => ?_
    obtain ⟨G, env, F, p, e, S, r, hs, k⟩ := q
    cases p with
    | tup xs =>
      have hs' : (if is.length = xs.length then some ((is.zip xs).foldl (fun e q => e.set q.1 (some (q.2, .fz))) env) else none) = some e := hs
      split at hs'
      · rename_i hl
        cases hs'
        obtain ⟨a, vs, rfl, h1, h2⟩ := r
        exact .inl ⟨a, vs, rfl, Same.tseq S.sub h1, by rw [h2.length]; exact hl.symm, gNames_ok hl h2 S k⟩
      · cases hs'
    | lst xs =>
      have hs' : (if is.length = xs.length then some ((is.zip xs).foldl (fun e q => e.set q.1 (some (q.2, .fz))) env) else none) = some e := hs
      split at hs'
      · rename_i hl
        cases hs'
        obtain ⟨a, vs, rfl, h1, h2⟩ := r
        exact .inr ⟨a, vs, rfl, .inl (.inl (S.sub _ _ h1)), by rw [h2.length]; exact hl.symm, gNames_ok hl h2 S k⟩
      · cases hs'
    | _ => cases hs
end
end Bd

namespace Bd
open PySem L2
theorem wipe_in {σ : L2.St} {j : Nat} : ∀ {vs : List Nat}, j ∈ vs → (L2.wipe σ vs)[j]? = if j < σ.length then some none else none
  | [], h => by cases h
  | v :: vs, h => by
    show ((L2.wipe σ vs).set v none)[j]? = _
    by_cases hj : v = j
    · subst hj
      by_cases hl : v < σ.length
      · rw [if_pos hl, List.getElem?_set_self (by rw [wipe_length]; exact hl)]
      · rw [if_neg hl, List.getElem?_eq_none (by rw [List.length_set, wipe_length]; omega)]
    · rw [List.getElem?_set_ne hj]
      rcases List.mem_cons.mp h with z | z
      · exact absurd z.symm hj
      · exact wipe_in z
theorem wipeE_len (e : En) : ∀ vs : List Nat, (wipeE e vs).length = e.length
  | [] => rfl
  | v :: vs => by show ((wipeE e vs).set v none).length = _; rw [List.length_set, wipeE_len e vs]
theorem wipeE_out {e : En} {j : Nat} : ∀ {vs : List Nat}, j ∉ vs → (wipeE e vs)[j]? = e[j]?
  | [], _ => rfl
  | v :: vs, h => by
    show ((wipeE e vs).set v none)[j]? = _
    have hj : v ≠ j := fun z => h (by simp [z])
    rw [List.getElem?_set_ne hj]
    exact wipeE_out fun z => h (List.mem_cons_of_mem _ z)
theorem wipeE_in {e : En} {j : Nat} {q : PV × Fl} : ∀ {vs : List Nat}, j ∈ vs → (wipeE e vs)[j]? ≠ some (some q)
  | [], h => by cases h
  | v :: vs, h => by
    show ((wipeE e vs).set v none)[j]? ≠ _
    by_cases hj : v = j
    · subst hj
      intro z
      by_cases hl : v < (wipeE e vs).length
      · rw [List.getElem?_set_self hl] at z; cases z
      · rw [List.getElem?_eq_none (by simpa using hl)] at z; cases z
    · rw [List.getElem?_set_ne hj]
      rcases List.mem_cons.mp h with z | z
      · exact absurd z.symm hj
      · exact wipeE_in z
theorem wipeE_get {e : En} {j : Nat} {q : PV × Fl} {vs : List Nat} (h : (wipeE e vs)[j]? = some (some q)) : j ∉ vs ∧ e[j]? = some (some q) := by
  by_cases hj : j ∈ vs
  · exact absurd h (wipeE_in hj)
  · rw [wipeE_out hj] at h; exact ⟨hj, h⟩
theorem wipe_eq {σ σ' : L2.St} {vs : List Nat} (hl : σ'.length = σ.length) (h : ∀ j, j ∉ vs → σ'[j]? = σ[j]?) : wipe σ' vs = wipe σ vs := by
  apply List.ext_getElem?
  intro j
  by_cases hj : j ∈ vs
  · rw [wipe_in hj, wipe_in hj, hl]
  · rw [wipe_out hj, wipe_out hj]; exact h j hj
theorem unwipe_len (e0 : En) : ∀ (vs : List Nat) (e : En), (unwipe e0 vs e).length = e.length
  | [], _ => rfl
  | v :: vs, e => by unfold unwipe; rw [List.length_set, unwipe_len e0 vs]
theorem unwipe_get {e0 : En} {j : Nat} {q : PV × Fl} : ∀ {vs : List Nat} {e : En}, e.length = e0.length → (unwipe e0 vs e)[j]? = some (some q) → (j ∈ vs ∧ e0[j]? = some (some q)) ∨ (j ∉ vs ∧ e[j]? = some (some q))
  | [], e, _, h => .inr ⟨by simp, h⟩
  | v :: vs, e, hl, h => by
    unfold unwipe at h
    by_cases hj : v = j
    · subst hj
      have hlt : v < (unwipe e0 vs e).length := by
        have h2 := (List.getElem?_eq_some_iff.mp h).1
        rwa [List.length_set] at h2
      rw [List.getElem?_set_self hlt] at h
      refine .inl ⟨by simp, ?_⟩
      split at h
      · rename_i x hx
        rw [hx]; exact congrArg some (Option.some.inj h)
      · cases h
    · rw [List.getElem?_set_ne hj] at h
      rcases unwipe_get (vs := vs) hl h with ⟨h1, h2⟩ | ⟨h1, h2⟩
      · exact .inl ⟨List.mem_cons_of_mem _ h1, h2⟩
      · exact .inr ⟨by simp only [List.mem_cons, not_or]; exact ⟨fun z => hj z.symm, h1⟩, h2⟩
section
variable {g : Gx} {G : Ent} {env : En} {σ : L2.St} {F H F' H' : Hp}
theorem Sx.wipe (S : Sx g G env σ F H) (vs : List Nat) : Sx g G (wipeE env vs) (L2.wipe σ vs) F H := by
  refine ⟨S.sub, S.f0, S.h0, S.nf, S.th, by rw [wipeE_len, wipe_length]; exact S.len, fun j pv h => ?_, fun j pv fl h hf => ?_, fun j k q r a h1 f1 h2 f2 s1 s2 => ?_, fun j pv h => ?_⟩
  · obtain ⟨h1, h2⟩ := wipeE_get h
    rw [wipe_out h1]; exact S.fz j pv h2
  · obtain ⟨h1, h2⟩ := wipeE_get h
    rw [wipe_out h1]; exact S.own j pv fl h2 hf
  · obtain ⟨h1, h1'⟩ := wipeE_get h1
    obtain ⟨h2, h2'⟩ := wipeE_get h2
    rw [wipe_out h1] at s1
    rw [wipe_out h2] at s2
    exact S.inj j k q r a h1' f1 h2' f2 s1 s2
  · obtain ⟨h1, h2⟩ := wipeE_get h
    rw [wipe_out h1]; exact S.bo j pv h2
theorem Apart.wipe {D : Addr} (h : Apart env σ D) (vs : List Nat) : Apart (wipeE env vs) (L2.wipe σ vs) D := fun i p hi hf z => by
  obtain ⟨h1, h2⟩ := wipeE_get hi
  rw [wipe_out h1] at z
  exact h i p h2 hf z
/-- the comprehension is through: its own slots are what they were -/
theorem Sx.unwipe {env' : En} {vs : List Nat} (S : Sx g G env σ F H) (S' : Sx g G env' (L2.wipe σ vs) F' H') (sm : Same F F') (hz : ownFz vs env = true) : Sx g G (unwipe env vs env') σ F' H' := by
  have hl : env'.length = env.length := by rw [S'.len, wipe_length, S.len]
  have fzs : ∀ j q, j ∈ vs → env[j]? = some (some q) → q.2 = .fz := fun j q hj h => by
    have := List.all_eq_true.mp hz j hj
    rw [h] at this
    obtain ⟨p, fl⟩ := q
    cases fl <;> first | rfl | cases this
  refine ⟨S'.sub, S'.f0, S'.h0, S'.nf, S'.th, by rw [unwipe_len, hl]; exact S.len, fun j pv h => ?_, fun j pv fl h hf => ?_, fun j k q r a h1 f1 h2 f2 s1 s2 => ?_, fun j pv h => ?_⟩
  · rcases unwipe_get hl h with ⟨h1, h2⟩ | ⟨h1, h2⟩
    · obtain ⟨v, e1, e2⟩ := S.fz j pv h2
      exact ⟨v, e1, e2.mono sm⟩
    · obtain ⟨v, e1, e2⟩ := S'.fz j pv h2
      rw [wipe_out h1] at e1
      exact ⟨v, e1, e2⟩
  · rcases unwipe_get hl h with ⟨h1, h2⟩ | ⟨h1, h2⟩
    · exact absurd (fzs j _ h1 h2) hf
    · obtain ⟨a, e1, e2⟩ := S'.own j pv fl h2 hf
      rw [wipe_out h1] at e1
      exact ⟨a, e1, e2⟩
  · rcases unwipe_get hl h1 with ⟨k1, k2⟩ | ⟨k1, k2⟩
    · exact absurd (fzs j _ k1 k2) f1
    · rcases unwipe_get hl h2 with ⟨k3, k4⟩ | ⟨k3, k4⟩
      · exact absurd (fzs k _ k3 k4) f2
      · exact S'.inj j k q r a k2 f1 k4 f2 (by rw [wipe_out k1]; exact s1) (by rw [wipe_out k3]; exact s2)
  · rcases unwipe_get hl h with ⟨h1, h2⟩ | ⟨h1, h2⟩
    · cases fzs j _ h1 h2
    · have := S'.bo j pv h2
      rwa [wipe_out h1] at this
theorem Apart.unwipe {env' : En} {vs : List Nat} {D : Addr} (hl : env'.length = env.length) (ap : Apart env' (L2.wipe σ vs) D) (hz : ownFz vs env = true) : Apart (unwipe env vs env') σ D := fun i p hi hf z => by
  rcases unwipe_get hl hi with ⟨h1, h2⟩ | ⟨h1, h2⟩
  · have := List.all_eq_true.mp hz i h1
    rw [h2] at this
    obtain ⟨q, fl⟩ := p
    cases fl <;> first | exact absurd rfl hf | cases this
  · exact ap i p h2 hf (by rw [wipe_out h1]; exact z)
end
abbrev W0 : WX := fun _ _ _ _ => False
theorem bind_ok {α β : Type} {m : Out α} {k : α → En → Out β} {b : β} {e : En} (h : m.bind k = .ok b e) : ∃ a e1, m = .ok a e1 ∧ k a e1 = .ok b e := by
  cases m with
  | ok a e1 => exact ⟨a, e1, rfl, h⟩
  | exc x e => cases h
  | bad => cases h
section
variable {X : Cx} {C : Cal} {W : WX} {N : List Str} {sc : Scope}
theorem comp_ev {own : List Nat} {ig : IG} {it cond elt : IE} (env : En) : (ev C (.comp own ig it cond elt)).1 env = (evIt C it env).bind fun xs e1 => if ownFz own e1 then compEnd own e1 (compLoop (compTurnE own ig (ev C cond).2 (ev C elt).1) xs (wipeE e1 own)) else .bad := by
  unfold evIt
  rw [Out.assoc]
  show Out.bind _ _ = _
  congr 1
  funext r e1
  cases itemsP r.1 <;> rfl
theorem lc_imp {own : List Nat} {ig : IG} {it cond elt : IE} (hsub : ∀ j, j ∈ slotsG ig → j ∈ own) : ∀ σ H Q, tE (gx X) W (ev C (.comp own ig it cond elt)).1 σ H Q → tLc (tI (gx X) W (evIt C it)) (tGt (gx X) ig) (tT (gx X) W0 (ev C cond).2) (tE (gx X) W0 (ev C elt).1) own σ H Q := fun σ H Q q => by
  obtain ⟨G, env, F, S, r⟩ := q
  rw [comp_ev] at r
  refine ⟨G, env, F, S, Rd.bind r fun xs e1 J F1 H1 sm1 S1 h1 q1 => fun D nD => ?_⟩
  split at q1
  case isFalse => exact q1.elim
  rename_i hz
  generalize hf : compTurnE own ig (ev C cond).2 (ev C elt).1 = f at q1
  unfold compEnd at q1
  split at q1
  case h_2 => exact q1.elim
  rename_i ys e2 hl
  split at q1
  case isFalse => exact q1.elim
  rename_i hlen
  have nF : F1 D = none := Same.free S1.sub nD
  have nG : G.H D = none := by
    cases w : G.H D with
    | none => rfl
    | some o => obtain ⟨o', z⟩ := S1.th D o w; rw [nD] at z; cases z
  have apD : Apart e1 σ D := fun i p h1 h2 h3 => by
    obtain ⟨b, s1, _, s3, _⟩ := S1.own i p.1 p.2 h1 h2
    rw [h3] at s1; cases s1
    obtain ⟨o, eo⟩ := s3.here
    rw [nD] at eo; cases eo
  have new0 : New F1 H1 F1 (upd H1 D (.lst [])) := New.obj S1.sub nD
  have S2 : Sx (gx X) G (wipeE e1 own) (wipe σ own) F1 (upd H1 D (.lst [])) := (S1.wipe own).grow new0.sF new0.sH new0.sub new0.nf
  let Iv : Nat → Hp → Prop := fun i H => ∃ e F acc vs ys', Sx (gx X) G e (wipe σ own) F H ∧ Same F1 F ∧ F D = none ∧ H D = some (.lst vs) ∧ Reps (gx X) F acc vs ∧ Apart e (wipe σ own) D ∧ compLoop f (xs.drop i) e = .ok ys' e2 ∧ acc ++ ys' = ys
  refine ⟨fun i m H => m = xs.length - i ∧ i ≤ xs.length ∧ Iv i H, ⟨xs.length, by simp, Nat.zero_le _, wipeE e1 own, F1, [], [], ys, S2, .refl _, nF, upd_same, rfl, apD.wipe own, by simpa using hl, rfl⟩, ?_⟩
  rintro i m H3 ⟨rfl, hle, e, F3, acc, vs, ys', S3, sm3, nF3, hD, hacc, ap3, hlp, hys⟩
  by_cases hlt : i < xs.length
  · have hx : xs[i]? = some xs[i] := List.getElem?_eq_getElem hlt
    obtain ⟨hgo, hyl⟩ := (h1 F3 H3 sm3 S3.sub).1 i _ hx
    rw [List.drop_eq_getElem_cons hlt] at hlp
    obtain ⟨y, e3, hy, hlp⟩ := bind_ok hlp
    obtain ⟨ys2, e4, hlp2, hlp3⟩ := bind_ok hlp
    have e24 : e4 = e2 ∧ consO y ys2 = ys' := by
      have := hlp3
      injection this with z1 z2
      exact ⟨z2, z1⟩
    obtain ⟨rfl, hys2⟩ := e24
    refine .inr ⟨hgo, Iv (i + 1), fun H' hI => ⟨xs.length - (i + 1), by omega, rfl, hlt, hI⟩, fun x H' hx' => ?_⟩
    obtain ⟨F4, n4, r4⟩ := hyl x H' hx'
    have S4 := S3.grow n4.sF n4.sH n4.sub n4.nf
    have hD4 := n4.sH D _ hD
    have nF4 := n4.nf D _ hD nF3
    rw [← hf] at hy
    unfold compTurnE at hy
    split at hy
    case h_1 => cases hy
    rename_i e5 hset
    obtain ⟨k, e6, hk, hy⟩ := bind_ok hy
    refine ⟨nar e (wipe σ own) F4 H', e, F4, _, e5, S4.narrow, r4, hset, fun σ2 S5 hl2 hj2 => ?_⟩
    have hw : wipe σ2 own = wipe σ own := by
      have : wipe σ2 own = wipe (wipe σ own) own := wipe_eq hl2 fun j hj => hj2 j fun z => hj (hsub j z)
      rw [this]
      exact wipe_eq (wipe_length _ _) fun j hj => wipe_out hj
    refine ⟨hw, nar e (wipe σ own) F4 H', e5, F4, S5, ?_⟩
    rw [hk]
    intro b F6 H6 sm6 S6 hb
    have hb' : b = k := hb
    subst hb'
    cases b with
    | false =>
      have hy' : Out.ok none (wipeE e6 own) = Out.ok y e3 := hy
      injection hy' with z1 z2
      subst z1 z2
      obtain ⟨k1, k2, k3⟩ := S6.kept hD4 (show Apart e (wipe σ own) D from ap3)
      rw [if_neg (by simp)]
      refine ⟨wipeE e6 own, F6, acc, vs, ys2, ?_, (sm3.trans n4.sF).trans sm6, k2 nF4, k1, Reps.mono (n4.sF.trans sm6) _ hacc, ?_, hlp2, ?_⟩
      · have := (S4.widen S6).wipe own
        rwa [hw] at this
      · have := k3.wipe own
        rwa [hw] at this
      · rw [← hys, ← hys2]; rfl
    | true =>
      rw [if_pos rfl]
      obtain ⟨r, e7, hr, hy⟩ := bind_ok hy
      have hy' : Out.ok (some r.1) (wipeE e7 own) = Out.ok y e3 := hy
      injection hy' with z1 z2
      subst z1 z2
      refine ⟨nar e (wipe σ own) F4 H', e6, F6, S6, ?_⟩
      rw [hr]
      intro v F7 H7 sm7 S7 hv
      obtain ⟨F8, S8, r8, sm8⟩ := S7.fix hv
      obtain ⟨k1, k2, k3⟩ := S8.kept hD4 (show Apart e (wipe σ own) D from ap3)
      have hvl := hacc.length
      have hyl : acc.length + (ys2.length + 1) = ys.length := by
        rw [← hys, ← hys2]; simp [consO]
      refine ⟨vs, k1, by omega, wipeE e7 own, F8, acc ++ [r.1], vs ++ [v], ys2, ?_, (((sm3.trans n4.sF).trans sm6).trans sm7).trans sm8, k2 nF4, upd_same, ?_, ?_, hlp2, ?_⟩
      · have h9 : Sx (gx X) G (wipeE e7 own) (wipe σ own) F8 H7 := by
          have := (S4.widen S8).wipe own
          rwa [hw] at this
        have ap9 : Apart (wipeE e7 own) (wipe σ own) D := by
          have := k3.wipe own
          rwa [hw] at this
        exact h9.wr nG (k2 nF4) ap9
      · exact (Reps.mono (((n4.sF.trans sm6).trans sm7).trans sm8) _ hacc).snoc r8
      · have := k3.wipe own
        rwa [hw] at this
      · rw [← hys, ← hys2]; simp [consO]
  · have hi' : i = xs.length := by omega
    subst hi'
    rw [List.drop_length] at hlp
    have hlp' : Out.ok [] e = Out.ok ys' e2 := hlp
    injection hlp' with z1 z2
    subst z1 z2
    rw [List.append_nil] at hys
    subst hys
    refine .inl ⟨(h1 F3 H3 sm3 S3.sub).2, ?_⟩
    have SU := S1.unwipe S3 sm3 hz
    refine q1 (.ref D) F3 H3 sm3 SU ⟨D, rfl, nF3, ⟨vs, hD, hacc⟩, nG, ?_⟩
    exact ap3.unwipe (by rw [S3.len, wipe_length, S1.len]) hz
theorem ce_comp (K : Cok X C W N sc) {own : List Nat} {ig : IG} {it cond elt : IE} {tg iter e : Expr} {ifs : List Expr} {scope : Scope} {pos : Pos} (hi : PI X tg iter (tI (gx X) W (evIt C it))) (hb : blkC N sc scope (ownOf N own) = true) (ho : (ownOf N own).map (·.2) = own)
    (hsub : ∀ j, j ∈ slotsG ig → j ∈ own) (hg : ∀ (s : Shared) (H : Hp) (D : Addr) (cl : List (Str × Addr)) (fp : List Addr), PG (X.blk s H scope (compEnvC scope cl D X.env) fp) tg (tGt (gx X) ig))
    (ht : ∀ (s : Shared) (H : Hp) (D : Addr) (cl : List (Str × Addr)) (fp : List Addr), PTs (X.blk s H scope (compEnvC scope cl D X.env) fp) ifs (tT (gx X) W0 (ev C cond).2))
    (he : ∀ (s : Shared) (H : Hp) (D : Addr) (cl : List (Str × Addr)) (fp : List Addr), PE (X.blk s H scope (compEnvC scope cl D X.env) fp) e (tE (gx X) W0 (ev C elt).1))
    (hs : isSetX iter = false) : PE X (.ListComp e [⟨tg, iter, ifs, 0⟩] scope pos) (tE (gx X) W (ev C (.comp own ig it cond elt)).1) := by
  have hs' : ∀ x, foldedSetIterable iter X.env x = pure x := fun x => by cases iter <;> first | rfl | cases hs
  refine (pe_lc K.calm (by rw [K.hN]; exact K.nd) hi (blkOk_by (by rw [K.hN, K.hsc]; exact hb)) hg ht he hs').imp fun σ H Q q => ?_
  rw [ho]
  exact lc_imp hsub σ H Q q
end
end Bd

namespace Bd
open PySem PySem.Spec PyProof.Rows L2
/-- a set that has nothing yet -/
def newSet (w : World) : Obj := { cls := .type "set", dict := none, data := .set #[] 0 (.fresh 0 0 (!w.params.followText "set-order")) }
def newLI (l : Addr) : Obj := { cls := .type "list_iterator", data := .fields #[.ref l, .int 0 0] }
section
variable {P : Program} {w : World} {A : Around} {E : Value → Shared → Prop} {s : Shared}
/-- set(xs), xs a list: what its loop leaves -/
theorem set_shell {l : Addr} {its : Array Value} {Good : Heap → Prop} {Q : Value → Shared → Prop} (hh : A.handled = none) (hl : s.heap.IsList l its)
    (lp : ∀ (R : Result → Shared → Prop), (∀ (h' : Heap) (tk : Nat), Good h' → (∀ b o, s.heap.get? b = some o → h'.get? b = some o) → R (.ok (.ret .none)) { s with heap := h', toks := tk }) →
      codeAny (model P w) A.in1.in1 (.builtin "set.update.loop" ⟨[.ref s.heap.objs.size, .ref (s.heap.push (newSet w)).objs.size], []⟩) R { s with heap := (s.heap.push (newSet w)).push (newLI l) })
    (h : ∀ (h' : Heap) (tk : Nat), Good h' → (∀ b o, s.heap.get? b = some o → h'.get? b = some o) → Q (.ref s.heap.objs.size) { s with heap := h', toks := tk }) :
    wpAny (model P w) A (call (.type "set") [.ref l]) Q E s := by
  obtain ⟨c0, tl0, hm0⟩ := F.called_set.mro
  have k1 := F.called_set.made
  have k2 := F.called_set.sub
  refine wpAny_call (codeAny_of_tree ?_)
  show wpAny _ _ (callAny (.type "set") _) _ _ _
  refine wpAny_pure ⟨Code.quiet_builtin _ (by decide +kernel), codeAny_builtin F.entry_type_call ?_⟩
  rw [Around.under_plain (weight_type_call_type "set" [.ref l] []) rfl]
  have k3 := F.called_set.notType
  have k4 := F.called_set.canCreate
  have k5 := F.typeCall_set_1 (.ref l)
  repeat (any_goals (first | assumption | wp_step))
  refine codeAny_mono (code_set_led1 (.ref l) (E := E) (Q₁ := fun u s1 => u = .ref s.heap.objs.size ∧ s1 = { s with heap := s.heap.push (newSet w) }) ⟨rfl, rfl⟩) fun r s1 hr => ?_
  cases r with
  | error e => exact hr
  | ok fl =>
    cases fl with
    | ret u =>
      obtain ⟨rfl, rfl⟩ := hr
      have g0 : (s.heap.push (newSet w)).get? s.heap.objs.size = some (newSet w) := Heap.get?_push_size _ rfl
      have gt : Shared.TypeIs { s with heap := s.heap.push (newSet w) } (.ref s.heap.objs.size) "set" := ⟨_, g0, rfl⟩
      have k6 := F.called_set.init.lookup
      have k7 := F.called_set.init.bind (.ref s.heap.objs.size)
      repeat (any_goals (first | assumption | wp_step))
      refine codeAny_mono (codeAny_call_builtin (R := wants (fun r s2 => r = .none ∧ ∃ h' tk, s2 = { s with heap := h', toks := tk } ∧ Good h' ∧ (∀ b o, s.heap.get? b = some o → h'.get? b = some o)) E)
        F.called_set.init.plain F.entry_set_init (check_set_init_1 gt ?_)) fun r s2 hr2 => ?_
      · obtain ⟨ol, hol, hcl, nl, hdl⟩ := hl
        obtain ⟨ocls, odict, odata, oslots⟩ := ol
        simp only at hcl hdl
        subst hcl; subst hdl
        have hol' : (s.heap.push (newSet w)).get? l = some { cls := .type "list", dict := odict, data := .seq its nl, slots := oslots } := Heap.get?_push_of_some _ hol
        have m1 := F.sub_list_set
        have m2 := F.sub_list_frozenset
        have m3 : (Value.type "list" == Value.type "dict") = false := by decide
        have m4 : (s.heap.push (newSet w)).IsList l its := ⟨_, hol', rfl, nl, rfl⟩
        unfold Builtin.«set.__init__» noKeywords Builtin.Frozenset.updateFrom
        generalize hPI : pyIter = PI
        wp_walk
        subst hPI
        refine wpAny_pyIter_list m4 ?_
        refine wpAny_bind (wpAny_runValue ?_)
        refine lp _ fun h' tk hg hk => ?_
        show wpAny _ _ _ _ _ _
        refine wpAny_pure ?_
        show wpAny _ _ (ret Value.none) _ _ _
        exact wpAny_pure ⟨rfl, h', tk, rfl, hg, hk⟩
      · cases r with
        | error e => exact hr2
        | ok f2 =>
          cases f2 with
          | ret r =>
            obtain ⟨rfl, h', tk, rfl, hS', hk'⟩ := hr2
            repeat (any_goals (first | assumption | wp_step))
            exact h _ _ hS' hk'
          | _ => exact hr2.elim
    | _ => exact hr.elim
end
end Bd

namespace Bd
open PySem PySem.Spec PyProof.Rows L2
section
variable {P : Program} {w : World} {A : Around} {E : Value → Shared → Prop} {s : Shared}
theorem set_list_ints {l : Addr} {its : Array Value} (ns : List Int) {Q : Value → Shared → Prop} (hh : A.handled = none) (hl : s.heap.IsList l its) (hit : IntsAre its.toList ns) (hb : ns.length + 1 < scanBound)
    (h : ∀ (h' : Heap) (tk : Nat), (∃ c, c ≤ ns.length ∧ SetR w h' s.heap.objs.size (fun j => decide (j ∈ ns)) c) → (∀ b o, s.heap.get? b = some o → h'.get? b = some o) → Q (.ref s.heap.objs.size) { s with heap := h', toks := tk }) :
    wpAny (model P w) A (call (.type "set") [.ref l]) Q E s := by
  have sz : its.size = ns.length := by
    have q := IntsAre.length hit
    rw [Array.length_toList] at q
    exact q
  refine set_shell (Good := fun h' => ∃ c, c ≤ ns.length ∧ SetR w h' s.heap.objs.size (fun j => decide (j ∈ ns)) c) hh hl (fun R hR => ?_) h
  have lt : l < s.heap.objs.size := by
    obtain ⟨o, ho, _⟩ := hl
    exact Heap.lt_size ho
  have z1 : (s.heap.push (newSet w)).objs.size = s.heap.objs.size + 1 := Heap.size_push ..
  have n1 : l ≠ (s.heap.push (newSet w)).objs.size := by rw [z1]; exact Nat.ne_of_lt (Nat.lt_succ_of_lt lt)
  have n2 : s.heap.objs.size ∉ [(s.heap.push (newSet w)).objs.size, l] := by
    rw [z1]
    intro z
    rcases List.mem_cons.mp z with z | z
    · exact Nat.ne_of_lt (Nat.lt_succ_self _) z
    · exact Nat.ne_of_gt lt (List.mem_singleton.mp z)
  have hv : ∀ (i : Nat) (v : Value), its[i]? = some v → ∃ k t, ns[i]? = some k ∧ v = .int k t := fun i v q => by
    have hi : i < ns.length := by rw [← sz]; exact (Array.getElem?_eq_some_iff.mp q).1
    obtain ⟨t, e⟩ := PyProof.Rows.IntsAre.int_at hit i v (by rw [Array.getElem?_toList]; exact q)
    refine ⟨ns[i], t, List.getElem?_eq_getElem hi, ?_⟩
    rw [e, List.getD_eq_getElem?_getD, List.getElem?_eq_getElem hi] <;> rfl
  have hl1 : (s.heap.push (newSet w)).IsList l its := hl.push _
  have fresh : ((s.heap.push (newSet w)).push (newLI l)).get? s.heap.objs.size = some (newSet w) := Heap.get?_push_of_some _ (Heap.get?_push_size _ rfl)
  refine set_update_ints ((Walks.list (A := A.in1.in1.in1) (by simp [hh]) _ l n1 its).toS) s.heap.objs.size n2 ns sz hb hv (its.size - 0) 0 _ (by omega) (Nat.zero_le _)
    ⟨⟨_, Heap.get?_push_size _ rfl, rfl, rfl⟩, hl1.push _⟩ ⟨0, Nat.le_refl 0, setR_new_at fresh⟩ fun s' c m hc hS => ?_
  obtain ⟨h', g2, d', tk', os'⟩ := s'
  have eg : g2 = s.gens := m.gens
  have ed : d' = s.drawn := m.drawn
  have eo : os' = s.os := m.os
  subst eg; subst ed; subst eo
  refine hR h' tk' ⟨c, by rw [← sz]; exact hc, hS⟩ fun b o e => ?_
  have b0 : b < s.heap.objs.size := Heap.lt_size e
  refine m.heap b o (fun z => ?_) (Heap.get?_push_of_some _ (Heap.get?_push_of_some _ e))
  rcases List.mem_cons.mp z with z | z
  · exact Nat.ne_of_lt b0 z
  · rw [z1] at z
    exact Nat.ne_of_lt (Nat.lt_succ_of_lt b0) (List.mem_singleton.mp z)
end
section
variable {X : Cx}
def rSetI (K : PySem.W.Frag) (w : World) : List V → Hp → VK → Prop := fun xs H Q => ∃ (l : Addr) (ns : List Int), xs = [V.ref l] ∧ (SqL K H l (ns.map V.int) ∨ SqT K H l (ns.map V.int)) ∧ ns.length < 64 ∧
  ∀ a c, H a = none → c ≤ ns.length → Q (.ref a) (upd H a (SetO w a (fun j => decide (j ∈ ns)) c))
theorem cr_setI (hc : X.calm = true) : CallR X (.type "set") (rSetI X.K X.w) := by
  intro pins s σ H xs us Q I r h
  obtain ⟨l, ns, rfl, hl, hf, q⟩ := h
  rw [Vals.ref1 r]
  have hn : H s.heap.objs.size = none := I.hok.fresh (Nat.le_refl _)
  rcases hl with hl | hl
  · obtain ⟨its, rv, pl, hz⟩ := I.list hl
    refine set_list_ints (P := X.prog) (w := X.w) ns (I.ok.hd hc) pl.isList (by simpa using ints_of_vals rv) (by unfold scanBound; omega) fun h' tk ⟨c, hc, R⟩ k => ?_
    exact ⟨.ref s.heap.objs.size, upd H s.heap.objs.size (SetO X.w s.heap.objs.size _ c), I.laid (t' := tk) k (Nat.le_refl _) (setO_new R), rfl, q _ c hn hc⟩
  · obtain ⟨its, rv, pl, hz⟩ := I.tuple hl
    refine call_set_tupI (P := X.prog) (w := X.w) ns (I.ok.hd hc) pl (by simpa using ints_of_vals rv) (by unfold scanBound; omega) fun h' tk c R hc k => ?_
    exact ⟨.ref s.heap.objs.size, upd H s.heap.objs.size (SetO X.w s.heap.objs.size _ c), I.laid (t' := tk) k (Nat.le_refl _) (setO_new R), rfl, q _ c hn hc⟩
end
end Bd

namespace Bd
open PySem L2
/-! ### ascending lists of ints -/
theorem mem_insI (i k : Int) : ∀ l : List Int, k ∈ insI i l ↔ k = i ∨ k ∈ l
  | [] => by simp [insI]
  | j :: r => by
    unfold insI
    split
    · simp
    · split
      · rename_i h; subst h; simp
      · rw [List.mem_cons, mem_insI i k r, List.mem_cons]
        constructor
        · rintro (h | h | h)
          · exact .inr (.inl h)
          · exact .inl h
          · exact .inr (.inr h)
        · rintro (h | h | h)
          · exact .inr (.inl h)
          · exact .inl h
          · exact .inr (.inr h)
theorem insI_asc (i : Int) : ∀ l : List Int, l.Pairwise (· < ·) → (insI i l).Pairwise (· < ·)
  | [], _ => by simp [insI]
  | j :: r, h => by
    obtain ⟨h1, h2⟩ := List.pairwise_cons.mp h
    unfold insI
    split
    · rename_i hij
      refine List.pairwise_cons.mpr ⟨fun k hk => ?_, h⟩
      rcases List.mem_cons.mp hk with rfl | hk
      · exact hij
      · have := h1 k hk; omega
    · split
      · exact h
      · refine List.pairwise_cons.mpr ⟨fun k hk => ?_, insI_asc i r h2⟩
        rcases (mem_insI i k r).mp hk with rfl | hk
        · omega
        · exact h1 k hk
theorem mem_sortI (k : Int) : ∀ l : List Int, k ∈ sortI l ↔ k ∈ l
  | [] => by simp [sortI]
  | i :: r => by rw [sortI, mem_insI, mem_sortI k r, List.mem_cons]
theorem sortI_asc : ∀ l : List Int, (sortI l).Pairwise (· < ·)
  | [] => List.Pairwise.nil
  | i :: r => insI_asc i _ (sortI_asc r)
theorem asc_eq : ∀ {l m : List Int}, l.Pairwise (· < ·) → m.Pairwise (· < ·) → (∀ k, k ∈ l ↔ k ∈ m) → l = m
  | [], [], _, _, _ => rfl
  | [], y :: m, _, _, h => by have := (h y).mpr (by simp); simp at this
  | x :: l, [], _, _, h => by have := (h x).mp (by simp); simp at this
  | x :: l, y :: m, hl, hm, h => by
    obtain ⟨l1, l2⟩ := List.pairwise_cons.mp hl
    obtain ⟨m1, m2⟩ := List.pairwise_cons.mp hm
    have e : x = y := by
      rcases List.mem_cons.mp ((h x).mp (by simp)) with e | e
      · exact e
      · rcases List.mem_cons.mp ((h y).mpr (by simp)) with e' | e'
        · exact e'.symm
        · have := m1 x e; have := l1 y e'; omega
    subst e
    congr 1
    refine asc_eq l2 m2 fun k => ⟨fun hk => ?_, fun hk => ?_⟩
    · rcases List.mem_cons.mp ((h k).mp (List.mem_cons_of_mem _ hk)) with e | e
      · subst e; have := l1 k hk; omega
      · exact e
    · rcases List.mem_cons.mp ((h k).mpr (List.mem_cons_of_mem _ hk)) with e | e
      · subst e; have := m1 k hk; omega
      · exact e
section
variable {X : Cx} {C : Cal} {W : WX} {N : List Str} {sc : Scope}
theorem ce_bits (K : Cok X C W N sc) {a : IE} {q : Expr} {ap cp : Pos} (ca : chkE N a sc q = true) (ha : CE X C W a q) (hb : plainBase q = true) (hl : (ap.endLine == cp.line) = true) : CE X C W (.bits a) (.Call (.Attribute q "bit_length" ap) [] [] cp) := by
  refine ce_vt rfl rfl ((pe_bits (ce_opd K ca ha) (base_plain hb _ _ _) hl).imp fun σ H Q q => ?_)
  obtain ⟨G, env, F, S, r⟩ := q
  refine ⟨G, env, F, S, Rd.bind r fun x e1 v F1 H1 sm S1 r1 q1 => ?_⟩
  obtain ⟨r, e1, k⟩ := liftO_new S1 q1
  obtain ⟨p, e2, e3⟩ := Option.bind_eq_some_iff.mp e1
  have hp := S1.rs e2 r1
  cases p with
  | int i =>
    cases e3
    exact ⟨i, hp, k _ F1 H1 (NewV.flat S1.sub rfl rfl)⟩
  | _ => cases e3
theorem lrngP_ok {ps : List PV} {r : PV} (h : lrngP ps = some r) : ∃ xs, rngP ps = some xs ∧ xs.length ≤ 16777216 ∧ r = .lst xs := by
  unfold lrngP at h
  obtain ⟨xs, h1, h2⟩ := Option.bind_eq_some_iff.mp h
  split at h2
  · cases h2; exact ⟨xs, h1, by assumption, rfl⟩
  · cases h2
theorem reps_rng {g : Gx} {F : Hp} (lo hi : Int) : Reps g F (rngItems lo hi) (rgV lo hi) := by
  unfold rngItems rgV
  have : ∀ l : List Nat, Reps g F (l.map fun (k : Nat) => PV.int (lo + (k : Int))) (l.map fun i => V.int (lo + (i : Nat))) := fun l => by
    induction l with
    | nil => rfl
    | cons x l ih => exact ⟨_, _, rfl, rfl, ih⟩
  exact this _
theorem rng_len (lo hi : Int) : (rngItems lo hi).length = (hi - lo).toNat := by
  unfold rngItems; rw [List.length_map, List.length_range]
theorem ce_lrn1 (K : Cok X C W N sc) {a : IE} {x : Expr} {p p2 pos pos2 : Pos} (gl : glB sc "list" = true) (gr : glB sc "range" = true) (ca : chkE N a sc x = true) (ha : CE X C W a x) (hs : isStar x = false) :
    CE X C W (.lrn1 a) (.Call (.Name "list" p) [.Call (.Name "range" p2) [x] [] pos2] [] pos) := by
  obtain ⟨g1, _⟩ := K.gl gl
  obtain ⟨g2, _⟩ := K.gl gr
  refine ce_vt rfl rfl ((pe_listRg K.calm g1 (K.blt .list) (prg_1 g2 K.rng (ce_opd K ca ha) (star_cons _ _ hs)) (star_cons _ _ rfl)).imp fun σ H Q q => ?_)
  obtain ⟨G, env, F, S, r⟩ := q
  refine ⟨G, env, F, S, Rd.bind r fun x e1 v F1 H1 sm S1 r1 q1 => ?_⟩
  obtain ⟨r, e1, k⟩ := liftO_new S1 q1
  obtain ⟨p, e2, e3⟩ := Option.bind_eq_some_iff.mp e1
  obtain ⟨xs, e4, e5, rfl⟩ := lrngP_ok e3
  obtain ⟨j, rfl, h2, h3, rfl⟩ := rngP_one e4
  have hp := S1.rs e2 r1
  rw [rng_len] at e5
  refine ⟨j, hp, ⟨by omega, by omega, h2, h3, by simpa using e5⟩, fun q hq => k _ F1 _ (NewV.lst S1.sub hq (reps_rng _ _))⟩
theorem ce_lrng (K : Cok X C W N sc) {a b : IE} {x y : Expr} {p p2 pos pos2 : Pos} (gl : glB sc "list" = true) (gr : glB sc "range" = true) (ca : chkE N a sc x = true) (cb : chkE N b sc y = true) (ha : CE X C W a x) (hb : CE X C W b y) (hs : isStar x = false) (hs' : isStar y = false) :
    CE X C W (.lrng a b) (.Call (.Name "list" p) [.Call (.Name "range" p2) [x, y] [] pos2] [] pos) := by
  obtain ⟨g1, _⟩ := K.gl gl
  obtain ⟨g2, _⟩ := K.gl gr
  refine ce_vt rfl rfl ((pe_listRg K.calm g1 (K.blt .list) (prg_2 g2 K.rng (ce_opd K ca ha) (ce_opd K cb hb) (star_cons _ _ hs) (star_cons _ _ hs') (any_star _ _ _ (by simp [hs']))) (star_cons _ _ rfl)).imp fun σ H Q q => ?_)
  obtain ⟨G, env, F, S, r⟩ := q
  refine ⟨G, env, F, S, Rd.bind r fun x e1 v F1 H1 sm S1 r1 q1 => ?_⟩
  refine ⟨G, e1, F1, S1, Rd.bind q1 fun y e2 w F2 H2 sm2 S2 r2 q2 => ?_⟩
  obtain ⟨r, e1, k⟩ := liftO_new S2 q2
  obtain ⟨p, e2, e3⟩ := Option.bind_eq_some_iff.mp e1
  obtain ⟨q, e4, e5⟩ := Option.bind_eq_some_iff.mp e3
  obtain ⟨xs, e6, e7, rfl⟩ := lrngP_ok e5
  obtain ⟨i, j, rfl, rfl, h3, rfl⟩ := rngP_two e6
  have hp := S2.rs e2 (r1.mono sm2)
  have hq := S2.rs e4 r2
  rw [rng_len] at e7
  exact ⟨i, j, hp, hq, ⟨h3.1, h3.2.1, h3.2.2.1, h3.2.2.2, e7⟩, fun q hq => k _ F2 _ (NewV.lst S2.sub hq (reps_rng _ _))⟩
theorem ce_sset (K : Cok X C W N sc) {a : IE} {x : Expr} {p p2 pos pos2 : Pos} (gl : glB sc "sorted" = true) (gr : glB sc "set" = true) (ca : chkE N a sc x = true) (ha : CE X C W a x) (hs : isStar x = false) :
    CE X C W (.sset a) (.Call (.Name "sorted" p) [.Call (.Name "set" p2) [x] [] pos2] [] pos) := by
  obtain ⟨g1, d1⟩ := K.gl gl
  obtain ⟨g2, d2⟩ := K.gl gr
  have in1 := pe_callV (.inr ⟨_, rfl⟩) (cr_setI K.calm) g2 (K.blt .set) (blt_boot .set).1 (pa_cons (ce_opd K ca ha) pa_nil (star_cons _ _ hs)) (blt_boot .set).2 d2 (star_cons _ _ hs) (any_star _ _ _ rfl) (p := p2) (pos := pos2)
  refine ce_vt rfl rfl ((pe_callV (.inl ⟨_, rfl⟩) (cr_sortedSet K.calm) g1 (K.blt .sorted) (blt_boot .sorted).1 (pa_cons in1 pa_nil (star_cons _ _ rfl)) (blt_boot .sorted).2 d1 (star_cons _ _ rfl) (any_star _ _ _ rfl)).imp fun σ H Q q => ?_)
  obtain ⟨G, env, F, S, r⟩ := q
  refine ⟨G, env, F, S, Rd.bind r fun x e1 v F1 H1 sm S1 r1 q1 => ?_⟩
  obtain ⟨r, e1, k⟩ := liftO_new S1 q1
  obtain ⟨p, e2, e3⟩ := Option.bind_eq_some_iff.mp e1
  have hp := S1.rs e2 r1
  cases p with
  | lst xs =>
    obtain ⟨ns, e4, e5⟩ := Option.bind_eq_some_iff.mp (show ((allInts xs).bind fun ns => if ns.length < 64 then some (PV.lst ((sortI ns).map .int)) else none) = some r from e3)
    split at e5
    · cases e5
      obtain ⟨l, vs, rfl, h1, h2⟩ := hp
      have := allInts_reps h2 e4
      subst this
      refine ⟨l, ns, rfl, .inl (.inl (.inl h1)), by assumption, fun a c na hc => ⟨a, _, c, rfl, upd_same, by omega, fun ms q asc mem hl hq => ?_⟩⟩
      have e : sortI ns = ms := asc_eq (sortI_asc ns) asc fun k => by rw [mem_sortI, mem]; simp
      rw [e] at k
      have na' : H1 q = none := by
        by_cases z : q = a
        · subst z; rw [upd_same] at hq; cases hq
        · rwa [upd_ne z] at hq
      have rs : ∀ l : List Int, Reps (gx X) F1 (l.map PV.int) (l.map V.int) := fun l => by
        induction l with
        | nil => rfl
        | cons x l ih => exact ⟨_, _, rfl, rfl, ih⟩
      have n1 := New.obj (o := SetO X.w a (fun j => decide (j ∈ ns)) c) S1.sub na
      exact k _ F1 _ ⟨n1.trans (New.obj n1.sub hq), q, rfl, na', Same.free n1.sub hq, ms.map V.int, upd_same, rs ms⟩
    · cases e5
  | tup xs =>
    obtain ⟨ns, e4, e5⟩ := Option.bind_eq_some_iff.mp (show ((allInts xs).bind fun ns => if ns.length < 64 then some (PV.lst ((sortI ns).map .int)) else none) = some r from e3)
    split at e5
    · cases e5
      obtain ⟨l, vs, rfl, h1, h2⟩ := hp
      have := allInts_reps h2 e4
      subst this
      refine ⟨l, ns, rfl, .inr (Same.tseq S1.sub h1), by assumption, fun a c na hc => ⟨a, _, c, rfl, upd_same, by omega, fun ms q asc mem hl hq => ?_⟩⟩
      have e : sortI ns = ms := asc_eq (sortI_asc ns) asc fun k => by rw [mem_sortI, mem]; simp
      rw [e] at k
      have na' : H1 q = none := by
        by_cases z : q = a
        · subst z; rw [upd_same] at hq; cases hq
        · rwa [upd_ne z] at hq
      have rs : ∀ l : List Int, Reps (gx X) F1 (l.map PV.int) (l.map V.int) := fun l => by
        induction l with
        | nil => rfl
        | cons x l ih => exact ⟨_, _, rfl, rfl, ih⟩
      have n1 := New.obj (o := SetO X.w a (fun j => decide (j ∈ ns)) c) S1.sub na
      exact k _ F1 _ ⟨n1.trans (New.obj n1.sub hq), q, rfl, na', Same.free n1.sub hq, ms.map V.int, upd_same, rs ms⟩
    · cases e5
  | _ => cases e3
end
end Bd

namespace Bd
open PySem L2
/-! ### a field -/
def tFldA (K : PySem.W.Frag) (f : Str) (te : TE) : TE := fun σ H Q => te σ H fun x H1 => ∃ (C a dd : Addr) (fs : List (Str × V)) (v : V), XfC K C ∧ PySem.W.findIn K (.ref C) f = some none ∧ x = .ref a ∧ H1 a = some (ExH C dd a) ∧ H1 dd = some (.xd fs) ∧ fs.lookup f = some v ∧ Q v H1
theorem pe_fldA {X : Cx} {e : Expr} {te : TE} {pos : Pos} {n : Str} (he : PE X e te) (hb : attributeBase e n X.env (eval e X.env) = eval e X.env) : PE X (.Attribute e n pos) (tFldA X.K n te) := by
  constructor
  intro pins s σ H Q I h
  refine attr_of hb (thn (he.run pins s σ H _ I h) fun u s1 hh => ?_)
  obtain ⟨x, H1, I1, rx, C, a, dd, fs, v, T, hno, rfl, ea, ed, l, q⟩ := hh
  obtain rfl : u = Value.ref a := rx
  obtain ⟨oe, vs, ha, hz, hd⟩ := exH_at I1.hok ea
  obtain ⟨mA, hns, hr⟩ := (show ObjOk X.prog X.w H1 s1.heap dd (.xd fs) from I1.hok dd _ ed)
  obtain ⟨od, ho, hl⟩ := lookIn_ns hns
  obtain ⟨u, hu, ru⟩ := RelO.some_of (v := v) (o := mA n) (l ▸ hr n)
  have J : PySem.W.InstAt s1.heap a oe C (some od) := ⟨ha, hz.1, by unfold PySem.W.notCls; rw [hd] <;> rfl, by rw [hz.2]; exact ho⟩
  exact HandSPX.exc_get I1.kIn J T.ga T.gg T.exC (PySem.W.findObj_own T.hdC hno rfl ((hl n).trans (congrArg some hu))) (handed_of ru) ⟨v, H1, I1.tok _, ru, q⟩
theorem zip_lookup {g : Gx} {F : Hp} (f : Str) : ∀ {fs : List Str} {xs : List PV} {ws : List V} {p : PV}, Reps g F xs ws → (fs.zip xs).lookup f = some p → ∃ w, (fs.zip ws).lookup f = some w ∧ Rep g F p w
  | [], _, _, _, _, h => by simp at h
  | y :: fs, [], _, _, _, h => by simp at h
  | y :: fs, x :: xs, _, p, r, h => by
    obtain ⟨w, wr, rfl, r1, r2⟩ := r
    rw [List.zip_cons_cons, List.lookup_cons] at h
    rw [List.zip_cons_cons, List.lookup_cons]
    cases q : (f == y) with
    | true =>
      rw [q] at h
      cases h
      exact ⟨w, rfl, r1⟩
    | false =>
      rw [q] at h
      exact zip_lookup f r2 h
/-! ### the first place in a list of plain values -/
def dOf : PV → PyData
  | .bl b => .bool b
  | .int i => .int i
  | _ => .none
theorem flat_dp {g : Gx} {F H : Hp} {p : PV} {v : V} (h : flatB p = true) (r : Rep g F p v) : Dp g.K H v (dOf p) := by
  cases p <;> first | (cases h; done) | (cases r; constructor)
theorem flat_dps {g : Gx} {F H : Hp} : ∀ {xs : List PV} {vs : List V}, xs.all flatB = true → Reps g F xs vs → DpAll g.K H vs (xs.map dOf)
  | [], _, _, r => by cases r; exact .nil
  | x :: xs, _, h, r => by
    obtain ⟨h1, h2⟩ := band (show (flatB x && xs.all flatB) = true from h)
    obtain ⟨v, vr, rfl, r1, r2⟩ := r
    exact .cons (flat_dp h1 r1) (flat_dps h2 r2)
theorem eqv_flat {p q : PV} (h : flatB p = true) (h' : flatB q = true) : PyData.eqv (dOf p) (dOf q) = eqP p q := by
  cases p <;> first | (cases h; done) | (cases q <;> first | (cases h'; done) | rfl)
theorem lay_flat : ∀ xs : List PV, PyData.canLayAll0 (xs.map dOf) = true ∧ PyData.depthAll (xs.map dOf) = 0
  | [] => ⟨rfl, rfl⟩
  | x :: xs => by
    obtain ⟨h1, h2⟩ := lay_flat xs
    constructor
    · show (PyData.canLay0 (dOf x) && PyData.canLayAll0 (xs.map dOf)) = true
      rw [h1]
      cases x <;> rfl
    · show max (PyData.depth (dOf x)) (PyData.depthAll (xs.map dOf)) = 0
      rw [h2]
      cases x <;> rfl
theorem idx_ok {q : PV} : ∀ {xs : List PV} {j : Nat}, idxP q xs = some j → (∃ x, xs[j]? = some x ∧ eqP x q = true) ∧ ∀ (m : Nat) x, m < j → xs[m]? = some x → eqP x q = false
  | [], j, h => by cases h
  | x :: xs, j, h => by
    have h' : (if eqP x q = true then some 0 else (idxP q xs).map (· + 1)) = some j := h
    split at h'
    · rename_i hx
      cases h'
      exact ⟨⟨x, rfl, hx⟩, fun m y hm => by omega⟩
    · rename_i hx
      obtain ⟨k, e1, rfl⟩ := Option.map_eq_some_iff.mp h'
      obtain ⟨⟨y, e2, e3⟩, i2⟩ := idx_ok e1
      refine ⟨⟨y, by simpa using e2, e3⟩, fun m z hm hz => ?_⟩
      cases m with
      | zero =>
        simp at hz
        subst hz
        simpa using hx
      | succ m => exact i2 m z (by omega) (by simpa using hz)
section
variable {X : Cx} {C : Cal} {W : WX} {N : List Str} {sc : Scope}
theorem fnOf_ok {p : PV} {x : Str} (h : fnOf? p = some x) : p = .fn x := by
  cases p <;> first | (cases h; done) | (cases h; rfl)
theorem fld_ok {f : Str} {p q : PV} (h : fldP C f p = some q) : ∃ c fs xs, p = .exv c fs xs ∧ C.exf c = some f ∧ (fs.zip xs).lookup f = some q := by
  cases p with
  | exv c fs xs =>
    have h' : (if C.exf c = some f then (fs.zip xs).lookup f else none) = some q := h
    split at h'
    · rename_i hx; exact ⟨c, fs, xs, rfl, hx, h'⟩
    · cases h'
  | _ => cases h
theorem ce_fld (K : Cok X C W N sc) {a : IE} {f : Str} {q : Expr} {pos : Pos} (hb : plainBase q = true) (ha : CE X C W a q) : CE X C W (.fld a f) (.Attribute q f pos) := by
  refine ce_vt rfl rfl ((pe_fldA ha.1 (base_plain hb _ _ _)).imp fun σ H Q r => ?_)
  obtain ⟨G, env, F, S, r⟩ := r
  refine ⟨G, env, F, S, Rd.bind r fun r1 e1 v F1 H1 sm1 S1 h1 q1 => ?_⟩
  obtain ⟨F2, S2, r2, sm2⟩ := S1.fix h1
  unfold fzO at q1
  split at q1
  · rename_i p hp
    obtain ⟨c, fs, xs, heq, hx, hp⟩ := fld_ok hp
    rw [heq] at r2
    obtain ⟨a, D, d, ws, rfl, hm, ea, ed, rs⟩ := r2
    obtain ⟨_, T, _⟩ := K.exc c f hx
    obtain ⟨D2, fI, fd, hm2, oc, xc, hno, _⟩ := T.ex
    have e : D2 = D := by
      have hm' : X.mg c = some (.ref D) := hm
      rw [hm2] at hm'
      cases hm'
      rfl
    subst e
    obtain ⟨w, hw, rw'⟩ := zip_lookup f rs hp
    exact ⟨D2, a, d, _, w, xc, hno, rfl, S2.sub _ _ ea, S2.sub _ _ ed, hw, (Rd.at q1 sm2) w F2 H1 (.refl _) S2 rw'⟩
  · exact q1.elim
theorem ce_callv (K : Cok X C W N sc) {f as : IE} {o i : Expr} {es : List Expr} {sp pos : Pos} (hf : CE X C W f (.Subscript o i sp)) (hs : (es.all fun e => !isStar e) = true) (hne : es ≠ []) (ha : PA X es (tF (gx X) W (evF C as))) : CE X C W (.callv f as) (.Call (.Subscript o i sp) es [] pos) := by
  refine ce_vt (f := (ev C (.callv f as)).1) rfl rfl ⟨fun pins s σ H Q I r => ?_⟩
  obtain ⟨G, env, F, S, r⟩ := r
  cases es with
  | nil => exact absurd rfl hne
  | cons e es =>
  show wpAny _ _ (do callWith pos (← eval (.Subscript o i sp) X.env) [] (backTo pos (starEach (e :: es) X.env)) (backToKw pos (keywordEach [] X.env))) _ _ _
  refine wpAny_bind (thn (hf.1.run pins s σ H (fun x H1 => ∃ (y : Str) (sg : List Bool) (fa : Addr), C.sig y = some sg ∧ x = .ref fa ∧ X.mg y = some (.ref fa) ∧ tF (gx X) W (evF C as) σ H1 fun vs H2 => spF (gx X) C y vs H2 Q (WE W σ)) I ⟨G, env, F, S, Rd.bind r fun r1 e1 v F1 H1 sm1 S1 h1 q1 => ?_⟩) fun u s1 hh => ?_)
  · obtain ⟨F2, S2, r2, sm2⟩ := S1.fix h1
    split at q1
    · rename_i y hy
      split at q1
      · rename_i hsg
        obtain ⟨sg, hsg⟩ := Option.isSome_iff_exists.mp hsg
        rw [fnOf_ok hy] at r2
        obtain ⟨fa, rfl, hm⟩ := r2
        refine ⟨y, sg, fa, hsg, rfl, hm, G, e1, F2, S2, Rd.bind (Rd.at q1 sm2) fun ps e2 vs F3 H3 sm3 S3 h3 q3 => ?_⟩
        unfold callV at q3
        split at q3
        · rename_i hq
          exact doCall_sp hq S3 (agr_vals h3) q3
        · exact q3.elim
      · exact q1.elim
    · exact q1.elim
  · obtain ⟨x, H1, I1, rx, y, sg, fa, hsg, rfl, hm, q⟩ := hh
    obtain rfl : u = Value.ref fa := rx
    obtain ⟨n, fa', fd, ps, FO, hr, hm', hk, hb, _⟩ := K.cal y sg hsg
    rw [hm] at hm'
    cases hm'
    obtain ⟨s1', s2⟩ := band (show (!isStar e && es.all fun e => !isStar e) = true from hs)
    refine PySem.W.callWith_K (h₀ := X.base) I1.ok.mod.kin hk (thn (ha.run pos pins s1 σ H1 _ I1 q) fun us s2 ⟨vs, H2, I2, r, q⟩ => ⟨I2.kIn, ?_⟩) (star_cons _ _ (nott s1')) (any_star _ _ _ s2)
    exact run_fnS FO hr hb (passAt K.takes σ) I2 r q
theorem ce_lidx (K : Cok X C W N sc) (hu : X.A.units + 65 < cLine) {o a : IE} {q e : Expr} {ap cp : Pos} (co : chkE N o sc q = true) (ca : chkE N a sc e = true) (hs : isStar e = false) (hb : plainBase q = true) (hl : (ap.endLine == cp.line) = true) (ho : CE X C W o q) (ha : CE X C W a e) :
    CE X C W (.lidx o a) (.Call (.Attribute q "index" ap) [e] [] cp) := by
  have st := star_cons X.env (e := e) [] hs
  have hfew : ((backTo cp (starEach [e] X.env)).all (fun x => !x.1) && (backToKw cp (keywordEach [] X.env)).all (fun x => x.1.isSome) && decide ([e].length + ([] : List Keyword).length + (if ([] : List Keyword).isEmpty then 0 else 1) < 30)) = true := by
    rw [st]; rfl
  refine ce_vt rfl rfl ((pe_bm F.plainAttrs_list F.slot_list_index F.type_list_index (mt_indexD hu) (ce_opd K co ho) (pa_cons (ce_opd K ca ha) pa_nil st) (base_plain hb _ _ _) hfew hl st rfl).imp fun σ H Q r => ?_)
  obtain ⟨G, env, F, S, r⟩ := r
  refine ⟨G, env, F, S, Rd.bind r fun x e1 v F1 H1 sm1 S1 h1 q1 => ?_⟩
  split at q1
  · rename_i hk
    obtain ⟨xs, hx⟩ : ∃ xs, rsO e1 x = some (.lst xs) := by
      unfold isLst at hk
      split at hk
      · rename_i xs h; exact ⟨xs, h⟩
      · cases hk
    obtain ⟨c, vs, rfl, hc, rs⟩ := S1.rs hx h1
    refine ⟨.inl ⟨rfl, vs, .inl (.inl hc)⟩, G, e1, F1, S1, Rd.bind q1 fun y e2 w F2 H2 sm2 S2 h2 q2 => ?_⟩
    obtain ⟨r, e3, k⟩ := liftO_new S2 q2
    obtain ⟨p, e4, e5⟩ := Option.bind_eq_some_iff.mp e3
    obtain ⟨z, e6, e7⟩ := Option.bind_eq_some_iff.mp e5
    have hp := S2.rs e4 (h1.mono sm2)
    have hq := S2.rs e6 h2
    unfold lidxP at e7
    split at e7
    · rename_i ys
      split at e7
      · rename_i hfl
        obtain ⟨f1, f2⟩ := band hfl
        obtain ⟨j, e8, rfl⟩ := Option.map_eq_some_iff.mp e7
        obtain ⟨c', ws, e9, hc', rs'⟩ := hp
        cases e9
        obtain ⟨⟨t, t1, t2⟩, t3⟩ := idx_ok e8
        have ft : ∀ (m : Nat) y, ys[m]? = some y → flatB y = true := fun m y h => List.all_eq_true.mp f1 y (List.mem_of_getElem? h)
        obtain ⟨l1, l2⟩ := lay_flat ys
        have sh : SeqAt.shaped (.list (ys.map dOf)) = true := by
          show (PyData.canLayAll0 (ys.map dOf) && decide (PyData.depthAll (ys.map dOf) + 1 ≤ 64)) = true
          rw [l1, l2]; rfl
        have sd : SeqAt.shaped (dOf z) = true := by cases z <;> first | (cases f2; done) | rfl
        have dz : Dp X.K H2 w (dOf z) := by
          have hr : Rep (gx X) F2 z w := by cases z <;> first | (cases f2; done) | exact hq
          exact flat_dp (g := gx X) f2 hr
        refine ⟨c, w, dOf z, ys.map dOf, j, dOf t, rfl, rfl, .lst (.inl (.inl hc')) (flat_dps (g := gx X) f1 rs'), dz, sh, sd, by rw [List.getElem?_map, t1]; rfl, ?_, fun m z' hm hz => ?_, k _ F2 H2 (NewV.flat S2.sub rfl rfl)⟩
        · rw [eqv_flat (ft j t t1) f2]; exact t2
        · rw [List.getElem?_map] at hz
          obtain ⟨y, y1, rfl⟩ := Option.map_eq_some_iff.mp hz
          rw [eqv_flat (ft m y y1) f2]
          exact t3 m y hm y1
      · cases e7
    · cases e7
  · exact q1.elim
end
end Bd

namespace Bd
open PySem L2
/-! ### exceptions made as values; isinstance of them -/
theorem New.two {F H : Hp} (sub : Same F H) {a b : Addr} {o u : HO} (na : H a = none) (nb : H b = none) (ne : a ≠ b) : New F H (upd (upd F b u) a o) (upd (upd H b u) a o) :=
  (New.fix sub nb).trans (New.fix (New.fix sub nb).sub (by rw [upd_ne ne]; exact na))
theorem exv_rep1 {g : Gx} {F : Hp} {c f : Str} {C a dx : Addr} {p : PV} {v : V} (hm : g.mg c = some (.ref C)) (na : F a = none) (nd : F dx = none) (ne : a ≠ dx) (r : Rep g F p v) : Rep g (upd (upd F dx (.xd [(f, v)])) a (ExH C dx a)) (.exv c [f] [p]) (.ref a) := by
  have s1 : Same F (upd F dx (.xd [(f, v)])) := same_upd nd
  have s2 : Same (upd F dx (.xd [(f, v)])) (upd (upd F dx (.xd [(f, v)])) a (ExH C dx a)) := same_upd (by rw [upd_ne ne]; exact na)
  exact ⟨a, C, dx, [v], rfl, hm, upd_same, by rw [upd_ne (Ne.symm ne), upd_same]; rfl, v, [], rfl, r.mono (s1.trans s2), rfl⟩
section
variable {X : Cx} {C : Cal} {W : WX} {N : List Str} {sc : Scope}
theorem Cok.pf (K : Cok X C W N sc) : Passes (L2.CX X.prog X.w) X (fun _ _ _ => False) := fun pins σ H s er s' I c => passes_call (E := fun _ _ _ => False) K.takes (fun _ _ _ _ z => z.elim) pins σ H s er s' I c
theorem no_pe {e : Expr} {f : En → Out (PV × Fl)} (h : ∀ e, f e = .bad) : PE X e (tE (gx X) W f) := ⟨fun pins s σ H Q I r => by
  obtain ⟨G, env, F, S, r⟩ := r
  rw [h] at r
  exact r.elim⟩
theorem mk_rd {σ : L2.St} {G : Ent} {e1 : En} {F1 H1 : Hp} {Q : VK} {c f : Str} {r1 : PV × Fl} {v : V} {D : Addr} (hm : X.mg c = some (.ref D)) (S1 : Sx (gx X) G e1 σ F1 H1) (h1 : VR (gx X) G e1 σ F1 H1 r1 v)
    (q1 : Rd (gx X) W G σ F1 (RV (gx X) G σ) (liftO (some (.exv c [f] [r1.1])) e1) Q) : ∀ a dx, H1 a = none → H1 dx = none → a ≠ dx → Q (.ref a) (upd (upd H1 dx (.xd [(f, v)])) a (ExH D dx a)) := by
  intro a dx na nd ne
  obtain ⟨F2, S2, r2, sm2⟩ := S1.fix h1
  obtain ⟨p, e2, k⟩ := liftO_new S2 (Rd.at q1 sm2)
  cases e2
  exact k _ _ _ ⟨New.two S2.sub na nd ne, exv_rep1 (g := gx X) hm (Same.free S2.sub na) (Same.free S2.sub nd) ne r2⟩
theorem ce_mk1 (K : Cok X C W N sc) {c : Str} {a : IE} {e : Expr} {p pos : Pos} (hg : glB sc c = true) (hs : isStar e = false) (ha : CE X C W a e) : CE X C W (.mk1 c a) (.Call (.Name c p) [e] [] pos) := by
  obtain ⟨g1, g2⟩ := K.gl hg
  refine ce_vt rfl rfl ?_
  cases hx : C.exf c with
  | none => exact no_pe fun e => rfl
  | some f =>
    obtain ⟨q, T, hq, hr⟩ := K.exc c f hx
    obtain ⟨D, _, _, hm, _⟩ := T.ex
    refine (pe_mk1 hr K.pf T hm g1 g2 ha.1 (star_cons X.env (e := e) [] hs)).imp fun σ H Q r => ?_
    obtain ⟨G, env, F, S, r⟩ := r
    exact ⟨G, env, F, S, Rd.bind r fun r1 e1 v F1 H1 sm1 S1 h1 q1 => mk_rd hm S1 h1 q1⟩
theorem ce_mkk (K : Cok X C W N sc) {c q : Str} {a : IE} {e : Expr} {p pos kpos : Pos} (hg : glB sc c = true) (ha : CE X C W a e) : CE X C W (.mkk c q a) (.Call (.Name c p) [] [⟨some q, e, kpos⟩] pos) := by
  obtain ⟨g1, g2⟩ := K.gl hg
  refine ce_vt rfl rfl ?_
  cases hx : C.exf c with
  | none => exact no_pe fun e => rfl
  | some f =>
    obtain ⟨q', T, hq, hr⟩ := K.exc c f hx
    by_cases hqq : C.exq c = some q
    · rw [hq] at hqq
      cases hqq
      obtain ⟨D, _, _, hm, _⟩ := T.ex
      refine (pe_mk1k hr K.pf T hm g1 g2 ha.1).imp fun σ H Q r => ?_
      obtain ⟨G, env, F, S, r⟩ := r
      have r : Rd (gx X) W G σ F (RV (gx X) G σ) (if C.exq c = some q then ((ev C a).1 env).bind fun r e1 => liftO (some (.exv c [f] [r.1])) e1 else .bad) Q := r
      rw [if_pos hq] at r
      exact ⟨G, env, F, S, Rd.bind r fun r1 e1 v F1 H1 sm1 S1 h1 q1 => mk_rd hm S1 h1 q1⟩
    · exact no_pe fun e => if_neg hqq
theorem ce_mk0 (K : Cok X C W N sc) {c : Str} {p pos : Pos} (hg : glB sc c = true) : CE X C W (.mk0 c) (.Call (.Name c p) [] [] pos) := by
  obtain ⟨g1, g2⟩ := K.gl hg
  refine ce_vt rfl rfl ?_
  cases hx : C.ex0 c with
  | none => exact no_pe fun e => rfl
  | some f =>
    obtain ⟨T, hr⟩ := K.exz c f hx
    obtain ⟨D, _, _, hm, _⟩ := T.ex
    refine (pe_mk0 hr K.pf T hm g1 g2).imp fun σ H Q r => ?_
    obtain ⟨G, env, F, S, r⟩ := r
    intro a t dx na nt nd hta hda hdt
    obtain ⟨p, e2, k⟩ := liftO_new S r
    cases e2
    have n1 := New.fix S.sub (o := .tup []) nt
    have na1 : upd H t (.tup []) a = none := by rw [upd_ne (Ne.symm hta)]; exact na
    have nd1 : upd H t (.tup []) dx = none := by rw [upd_ne hdt]; exact nd
    exact k _ _ _ ⟨n1.trans (New.two n1.sub na1 nd1 (Ne.symm hda)), exv_rep1 (g := gx X) (p := .tup []) hm (Same.free n1.sub na1) (Same.free n1.sub nd1) (Ne.symm hda) ⟨t, [], rfl, upd_same, rfl⟩⟩
theorem isx_ok {c : Str} {p q : PV} (h : isxP C c p = some q) : ∃ d fs xs b, p = .exv d fs xs ∧ C.isx d c = some b ∧ q = .bl b := by
  cases p with
  | exv d fs xs =>
    obtain ⟨b, e1, e2⟩ := Option.map_eq_some_iff.mp h
    exact ⟨d, fs, xs, b, rfl, e1, e2.symm⟩
  | _ => cases h
theorem cls_pe (K : Cok X C W N sc) {c : Str} {p : Pos} {cv : Value} (hg : glB sc c = true) (hc : ClsAt X.mg c cv) : ∃ w : V, PE X (.Name c p) (tC w) ∧ ∀ u, RelV w u → u = cv := by
  obtain ⟨g1, g2⟩ := K.gl hg
  rcases hc with ⟨B, hB, rfl⟩ | ⟨hn, ⟨n, rfl⟩, hb, hnm⟩
  · exact ⟨.ref B, pe_glob g1 hB rfl g2, fun u h => h⟩
  · exact ⟨.ty _, pe_bltn g1 hn hb rfl hnm g2, fun u h => h⟩
theorem ce_isx (K : Cok X C W N sc) {c : Str} {a : IE} {e : Expr} {p p2 pos : Pos} (h0 : glB sc "isinstance" = true) (hg : glB sc c = true) (hs : isStar e = false) (ha : CE X C W a e) : CE X C W (.isx a c) (.Call (.Name "isinstance" p) [e, .Name c p2] [] pos) := by
  obtain ⟨i1, i2⟩ := K.gl h0
  refine ce_vt rfl rfl ?_
  by_cases hx : C.icl c = true
  · obtain ⟨cv, hc⟩ := K.icl c hx
    obtain ⟨w, hw, hw2⟩ := cls_pe (p := p2) K hg hc
    have st := star_cons X.env (e := e) [.Name c p2] hs
    refine (pe_callB (call_isV (X := X)) i1 (K.blt .isinstance) (by rfl) (pa_cons ha.1 (pa_cons hw pa_nil (by rfl)) st) (by decide) i2 st (by rfl)).imp fun σ H Q r => ?_
    obtain ⟨G, env, F, S, r⟩ := r
    have r : Rd (gx X) W G σ F (RV (gx X) G σ) (if C.icl c = true then ((ev C a).1 env).bind fun r e1 => fzO (isxP C c r.1) e1 else .bad) Q := r
    rw [if_pos hx] at r
    refine ⟨G, env, F, S, Rd.bind r fun r1 e1 v F1 H1 sm1 S1 h1 q1 => ?_⟩
    obtain ⟨F2, S2, r2, sm2⟩ := S1.fix h1
    have q2 := Rd.at q1 sm2
    unfold fzO at q2
    split at q2
    · rename_i q hq
      obtain ⟨d, fs, xs, b, heq, hb, rfl⟩ := isx_ok hq
      rw [heq] at r2
      obtain ⟨a, D, dd, ws, rfl, hm, ea, ed, rs⟩ := r2
      obtain ⟨A, hA, hE, hk⟩ := K.isx d c b hb cv hc
      have e1 : A = D := by
        have hm' : X.mg d = some (.ref D) := hm
        rw [hA] at hm'
        cases hm'
        rfl
      subst e1
      exact ⟨a, A, dd, _, w, cv, b, rfl, hE, hw2, hk, S2.sub _ _ ea, S2.sub _ _ ed, q2 (.bl b) F2 H1 (.refl _) S2 rfl⟩
    · exact q2.elim
  · exact no_pe fun e => if_neg hx
end
end Bd

namespace Bd
open PySem L2
/-! ### tables written out -/
theorem chkD_len : ∀ {ks : List Key} {xs : List PV} {es : List (Option Expr)} {vs : List Expr}, chkD ks xs es vs = true → xs.length = ks.length ∧ es.length = ks.length ∧ vs.length = ks.length ∧ es.all (·.isSome) = true
  | [], [], [], [], _ => ⟨rfl, rfl, rfl, rfl⟩
  | k :: ks, x :: xs, some e :: es, v :: vs, h => by
    obtain ⟨h12, h3⟩ := band (show (cKey k e && cPVe x v && chkD ks xs es vs) = true from h)
    obtain ⟨a, b, c, d⟩ := chkD_len h3
    refine ⟨by simp [a], by simp [b], by simp [c], ?_⟩
    rw [List.all_cons, d]; rfl
theorem merge_nodup : ∀ (more acc : List (Key × V)), ((acc ++ more).map (·.1)).Nodup → mergeK acc more = acc ++ more
  | [], acc, _ => by rw [List.append_nil]; rfl
  | kv :: more, acc, h => by
    have e : valV acc kv.1 = none := by
      have hn : kv.1 ∉ acc.map (·.1) := by
        rw [List.map_append, List.map_cons] at h
        have := (List.nodup_append.mp h).2.2
        exact fun hm => this _ hm _ (List.mem_cons_self ..) rfl
      unfold valV
      rw [Option.map_eq_none_iff, List.find?_eq_none]
      intro x hx hq
      exact hn (List.mem_map.mpr ⟨x, hx, of_decide_eq_true hq⟩)
    show mergeK (putK acc kv.1 kv.2) more = _
    rw [putK_new _ e, merge_nodup more (acc ++ [(kv.1, kv.2)]) (by simpa using h)]
    simp
section
variable {X : Cx} {C : Cal} {W : WX} {N : List Str} {sc : Scope}
theorem key_pe {k : Key} {e : Expr} (h : cKey k e = true) : PE X e (tC (kV k)) := by
  unfold cKey at h
  split at h
  · rw [of_decide_eq_true h]; exact pe_str
  · rw [of_decide_eq_true h]; exact pe_int
  · cases h
theorem val_pe {x : PV} {e : Expr} (h : cPVe x e = true) : ∃ w : V, PE X e (tC w) ∧ ∀ F, Rep (gx X) F x w := by
  unfold cPVe at h
  split at h
  · rw [of_decide_eq_true h]; exact ⟨.str _, pe_str, fun F => rfl⟩
  · rw [of_decide_eq_true h]; exact ⟨.int _, pe_int, fun F => rfl⟩
  · rw [of_decide_eq_true h]; exact ⟨.bl _, pe_bl, fun F => rfl⟩
  · exact ⟨.non, pe_non, fun F => rfl⟩
  · cases h
theorem pps_const {pos : Pos} : ∀ {ks : List Key} {xs : List PV} {es : List (Option Expr)} {vs : List Expr}, chkD ks xs es vs = true → ∃ (trs : List (TE × TE)) (ws : List V), PPs X pos es vs trs ∧ (∀ F, Reps (gx X) F xs ws) ∧ ∀ σ H Q, Q ((ks.zip ws).map fun kv => (kV kv.1, kv.2)) H → tPairs trs σ H Q
  | [], [], [], [], _ => ⟨[], [], pps_nil, fun _ => rfl, fun _ _ _ q => q⟩
  | k :: ks, x :: xs, some e :: es, v :: vs, h => by
    obtain ⟨h12, h3⟩ := band (show (cKey k e && cPVe x v && chkD ks xs es vs) = true from h)
    obtain ⟨h1, h2⟩ := band h12
    obtain ⟨trs, ws, a1, a2, a3⟩ := pps_const (pos := pos) h3
    obtain ⟨w, b1, b2⟩ := val_pe (X := X) h2
    exact ⟨(tC (kV k), tC w) :: trs, w :: ws, pps_cons (key_pe h1) b1 a1, fun F => Reps.cons (b2 F) (a2 F), fun σ H Q q => a3 σ H _ q⟩
theorem ce_ddis (K : Cok X C W N sc) {ks : List Key} {xs : List PV} {es : List (Option Expr)} {vs : List Expr} {pos : Pos} (h : chkD ks xs es vs = true) (hn : ks.Nodup) (hl : ks.length ≤ 15) (h0 : ks ≠ []) : CE X C W (.ddis ks xs) (.Dict es vs pos) := by
  obtain ⟨l1, l2, l3, l4⟩ := chkD_len h
  obtain ⟨trs, ws, a1, a2, a3⟩ := pps_const (X := X) (pos := pos) h
  have lw := (a2 (fun _ => none)).length
  refine ce_vt rfl rfl ((pe_disp a1 l4 (by omega) (by
    intro z
    rw [z] at l2
    exact h0 (List.eq_nil_of_length_eq_zero l2.symm)) (by omega)).imp fun σ H Q r => ?_)
  obtain ⟨G, env, F, S, r⟩ := r
  intro p hp
  refine a3 σ _ _ ⟨upd_same, ks.zip ws, rfl, by rw [List.length_zip]; omega, ?_⟩
  obtain ⟨r', e1, k⟩ := liftO_new S r
  cases e1
  have e2 : mergeK [] (ks.zip ws) = ks.zip ws := by
    rw [merge_nodup (ks.zip ws) [] (by
      rw [List.nil_append, List.map_fst_zip (by omega)]; exact hn), List.nil_append]
  rw [e2]
  have e3 : upd (upd H p (.dK [])) p (.dK (ks.zip ws)) = upd H p (.dK (ks.zip ws)) := by
    funext b
    by_cases hb : b = p
    · subst hb; rw [upd_same, upd_same]
    · rw [upd_ne hb, upd_ne hb, upd_ne hb]
  rw [e3]
  exact k _ F _ (NewV.dk S.sub hp (by omega) (a2 F))
theorem ce_dnew (K : Cok X C W N sc) {t : Bool} {pos : Pos} : CE X C W (.dnew t) (.Dict [] [] pos) := by
  cases t with
  | true =>
    refine ce_vt rfl rfl (pe_dnewT.imp fun σ H Q r => ?_)
    obtain ⟨G, env, F, S, r⟩ := r
    intro p hp
    obtain ⟨r', e1, k⟩ := liftO_new S r
    cases e1
    exact k _ F _ (NewV.dt (ks := []) (xs := []) (ws := []) S.sub hp rfl rfl)
  | false =>
    refine ce_vt rfl rfl (pe_dnewK.imp fun σ H Q r => ?_)
    obtain ⟨G, env, F, S, r⟩ := r
    intro p hp
    obtain ⟨r', e1, k⟩ := liftO_new S r
    cases e1
    exact k _ F _ (NewV.dk (ks := []) (xs := []) (ws := []) S.sub hp rfl rfl)
end
end Bd

namespace Bd
open PySem L2
section
variable {X : Cx} {C : Cal} {W : WX} {N : List Str} {sc : Scope}
theorem takes0 {X : Cx} : Takes X W0 := fun u s' ⟨_, _, _, _, _, _, _, _, _, _, _, _, _, _, _, _, w⟩ => w.elim
theorem Cok.blk (K : Cok X C W N sc) (s : Shared) (H : Hp) (scope : Scope) (cl : List (Str × Addr)) (D : Addr) (fp : List Addr) : Cok (X.blk s H scope (compEnvC scope cl D X.env) fp) C W0 N (relS scope sc) where
  hN := K.hN
  nd := K.nd
  hsc := by rw [← K.hsc]; rfl
  calm := K.calm
  units := K.units
  un2 := K.un2
  blt := K.blt
  tys := K.tys
  rng := K.rng
  enm := K.enm
  zip := K.zip
  takes := takes0
  cst := K.cst
  cal := K.cal
  exc := K.exc
  exz := K.exz
  icl := K.icl
  isx := K.isx
  und := K.und
/-- what the check of a row of arguments tells -/
structure ArgsOk (X : Cx) (C : Cal) (W : WX) (r : IE) (es : List Expr) : Prop where
  f : PA X es (tF (gx X) W (evF C r))
  o : PA X es (tOs (gx X) W (evOs C r))
  a : ∀ sg, PA X es (tA (gx X) W sg (evArg C r sg))
  star : (es.all fun e => !isStar e) = true
  nil : es = [] → r = .nil
  nil2 : r = .nil → es = []
theorem pa_bad {α β : Type} {R : Ent → L2.St → List α → En → List V → Hp → Hp → Prop} {es : List Expr} {f : En → Out (List α)} (h : ∀ e, f e = .bad) : PA X es (tG (gx X) W R f) :=
  ⟨fun pos pins s σ H Q I q => by
    obtain ⟨G, env, F, S, r⟩ := q
    rw [h] at r
    exact r.elim⟩
theorem args_nil : ArgsOk X C W .nil [] where
  f := ca_nil fun _ => rfl
  o := co_nil fun _ => rfl
  a := fun sg => by
    cases sg with
    | nil => exact cg_nil
    | cons _ _ => exact pa_bad (β := Unit) fun e => rfl
  star := rfl
  nil := fun _ => rfl
  nil2 := fun _ => rfl
theorem args_cons (K : Cok X C W N sc) {a r : IE} {e : Expr} {es : List Expr} (ca : chkE N a sc e = true) (hs : isStar e = false) (ha : CE X C W a e) (hr : ArgsOk X C W r es) : ArgsOk X C W (.cons a r) (e :: es) where
  f := cf_cons hs ha hr.f
  o := co_cons hs (ce_opd K ca ha) hr.o
  a := fun sg => by
    cases sg with
    | nil => exact pa_bad (β := Unit) fun e => rfl
    | cons m sg =>
      cases m with
      | false => exact cg_val hs ha (hr.a sg)
      | true =>
        by_cases hv : ∃ i, a = .var i
        · obtain ⟨i, rfl⟩ := hv
          cases e <;> try (cases ca; done)
          rename_i x pos
          obtain ⟨h1, h2⟩ := band (show (decide (N[i]? = some x) && visB sc x) = true from ca)
          exact cg_slot K (of_decide_eq_true h1) h2 (hr.a sg)
        · have hn : ∀ i, a ≠ .var i := fun i z => hv ⟨i, z⟩
          cases sg with
          | cons _ _ =>
            refine pa_bad (β := Unit) fun e => ?_
            cases a <;> first | rfl | exact absurd rfl (hn _)
          | nil =>
            by_cases hr0 : r = .nil
            · subst hr0
              cases es with
              | nil => exact cg_tmp hn hs ha
              | cons e2 es2 => exact absurd (hr.nil2 rfl) (by simp)
            · refine pa_bad (β := Unit) fun e => ?_
              have h0 : isNil r = false := by cases r <;> first | rfl | exact absurd rfl hr0
              have go : (if (([] : List Bool).isEmpty && isNil r) = true then ((ev C a).1 e).bind (fun x e1 => match x.2 with
                | .own => Out.ok [Arg.tmp x.1] e1
                | _ => .bad) else .bad) = (.bad : Out (List Arg)) := by rw [h0]; rfl
              cases a <;> first | exact go | exact absurd rfl (hn _)
  star := by
    show (!isStar e && es.all fun e => !isStar e) = true
    rw [hs, hr.star]; rfl
  nil := fun z => by cases z
  nil2 := fun z => by cases z
theorem subSet_ok {a b : List Nat} (h : subSet a b = true) : ∀ j, j ∈ a → j ∈ b := fun j hj => by
  have := List.all_eq_true.mp h j hj
  simpa using this
theorem callOf_ok {y : Str} {iter : Expr} {es : List Expr} (h : callOf y sc iter = some es) : ∃ p pos, iter = .Call (.Name y p) es [] pos ∧ glB sc y = true := by
  unfold callOf at h
  split at h
  · rename_i x p es' pos
    split at h
    · rename_i hc
      cases h
      obtain ⟨rfl, h2⟩ := hc
      exact ⟨p, pos, rfl, h2⟩
    · cases h
  · cases h
theorem rng_any (K : Cok X C W N sc) {as : IE} {tg : Expr} {es : List Expr} {p pos : Pos} (hg : glB sc "range" = true) (hc : chkA N as sc es = true) (hlen : es.length ≤ 2) (hE : ∀ a e, chkE N a sc e = true → (∃ r, as = .cons a r) ∨ (∃ b r, as = .cons b (.cons a r)) → CE X C W a e) :
    PI X tg (.Call (.Name "range" p) es [] pos) (tI (gx X) W (evIt C (.rng as))) := by
  have bad : ∀ {es : List Expr}, (∀ env, evIt C (.rng as) env = .bad) → PI X tg (.Call (.Name "range" p) es [] pos) (tI (gx X) W (evIt C (.rng as))) := fun h => ⟨fun pins s σ H Q I q => by
    obtain ⟨G, env, F, S, r⟩ := q
    rw [h] at r; exact r.elim⟩
  cases as <;> try (cases es <;> cases hc; done)
  · cases es with
    | cons _ _ => cases hc
    | nil => exact bad fun env => rfl
  · rename_i a r
    cases es with
    | nil => cases hc
    | cons e es =>
      obtain ⟨h12, h3⟩ := band (show (chkE N a sc e && !isStar e && chkA N r sc es) = true from hc)
      obtain ⟨h1, h2⟩ := band h12
      have ha := hE a e h1 (.inl ⟨r, rfl⟩)
      cases r <;> try (cases es <;> cases h3; done)
      · cases es with
        | cons _ _ => cases h3
        | nil => exact ci_rng1 K hg (nott h2) (ce_opd K h1 ha) fun env => rfl
      · rename_i b r
        cases es with
        | nil => cases h3
        | cons f es =>
          obtain ⟨h45, h6⟩ := band (show (chkE N b sc f && !isStar f && chkA N r sc es) = true from h3)
          obtain ⟨h4, h5⟩ := band h45
          have hb := hE b f h4 (.inr ⟨a, r, rfl⟩)
          cases r <;> try (cases es <;> cases h6; done)
          · cases es with
            | cons _ _ => cases h6
            | nil =>
              refine ci_rng2 K hg (nott h2) (nott h5) (ce_opd K h1 ha) (ce_opd K h4 hb) fun env => ?_
              show Out.bind _ _ = _
              congr 1
              funext x e1
              show Out.bind (Out.bind _ _) _ = _
              rw [Out.assoc]; rfl
          · exfalso
            cases es with
            | nil => cases h6
            | cons _ _ => simp only [List.length_cons] at hlen; omega
theorem ci_all (K : Cok X C W N sc) {it : IE} {tg iter : Expr} (hc : chkI N it sc tg iter = true) (hE : ∀ a e, chkE N a sc e = true → sizeOf a < sizeOf it + 1 → CE X C W a e) : PI X tg iter (tI (gx X) W (evIt C it)) := by
  cases it with
  | rng as =>
    have hc' : (match callOf "range" sc iter with
      | some es => chkA N as sc es && decide (es.length ≤ 2)
      | none => false) = true := hc
    split at hc'
    · rename_i es he
      obtain ⟨p, pos, rfl, hg⟩ := callOf_ok he
      obtain ⟨h1, h2⟩ := band hc'
      refine rng_any K hg h1 (of_decide_eq_true h2) fun a e ha hs => hE a e ha ?_
      rcases hs with ⟨r, rfl⟩ | ⟨b, r, rfl⟩
      · simp; omega
      · simp; omega
    · cases hc'
  | enm a =>
    have hc' : (match callOf "enumerate" sc iter with
      | some [e] => chkE N a sc e && !isStar e && isTup tg
      | _ => false) = true := hc
    split at hc'
    · rename_i e he
      obtain ⟨p, pos, rfl, hg⟩ := callOf_ok he
      obtain ⟨h12, h3⟩ := band hc'
      obtain ⟨h1, h2⟩ := band h12
      cases tg <;> try (cases h3; done)
      exact ci_enm K hg (nott h2) (hE a e h1 (by simp; omega))
    · cases hc'
  | zip a b =>
    have hc' : (match callOf "zip" sc iter with
      | some [e, f] => chkE N a sc e && chkE N b sc f && !isStar e && !isStar f && isTup tg
      | _ => false) = true := hc
    split at hc'
    · rename_i e f he
      obtain ⟨p, pos, rfl, hg⟩ := callOf_ok he
      obtain ⟨h1234, h5⟩ := band hc'
      obtain ⟨h123, h4⟩ := band h1234
      obtain ⟨h12, h3⟩ := band h123
      obtain ⟨h1, h2⟩ := band h12
      cases tg <;> try (cases h5; done)
      exact ci_zip K hg (nott h3) (nott h4) (hE a e h1 (by simp; omega)) (hE b f h2 (by simp; omega))
    · cases hc'
  | seq a => exact ci_any (hE a iter hc (by simp; omega))
  | _ => cases hc
theorem pts_of (K : Cok X C W N sc) {cond : IE} {ifs : List Expr} (hc : (match ifs with
        | [] => isNo cond
        | [c] => chkE N cond sc c
        | _ => false) = true) (hE : ∀ e, chkE N cond sc e = true → CE X C W cond e) : PTs X ifs (tT (gx X) W (ev C cond).2) := by
  split at hc
  · have e : cond = .no := by cases cond <;> first | rfl | cases hc
    subst e
    refine ⟨fun pins s σ H Q I q => pts_nil.run pins s σ H Q I ?_⟩
    obtain ⟨G, env, F, S, r⟩ := q
    exact r true F H (.refl _) S rfl
  · exact pts_one (hE _ hc).2
  · cases hc
/-- the small language's run is the text's: by its size -/
theorem snd_all : ∀ (n : Nat), (∀ (a : IE), sizeOf a < n → ∀ (N : List Str) (sc : Scope) (e : Expr), chkE N a sc e = true → ∀ (X : Cx) (C : Cal) (W : WX), Cok X C W N sc → CE X C W a e) ∧
    (∀ (r : IE), sizeOf r < n → ∀ (N : List Str) (sc : Scope) (es : List Expr), chkA N r sc es = true → ∀ (X : Cx) (C : Cal) (W : WX), Cok X C W N sc → ArgsOk X C W r es) := by
  intro n
  induction n with
  | zero => exact ⟨fun a h => by omega, fun a h => by omega⟩
  | succ n ih =>
    obtain ⟨ihE, ihA⟩ := ih
    refine ⟨fun a hn N sc e hc X C W K => ?_, fun r hn N sc es hc X C W K => ?_⟩
    · cases a with
      | var i =>
        cases e <;> try (cases hc; done)
        obtain ⟨h1, h2⟩ := band hc
        exact ce_var K (of_decide_eq_true h1) h2
      | int i =>
        cases e <;> try (cases hc; done)
        rename_i c k p
        cases c <;> try (cases hc; done)
        have : i = _ := of_decide_eq_true hc
        subst this
        exact ce_int
      | str i =>
        cases e <;> try (cases hc; done)
        rename_i c k p
        cases c <;> try (cases hc; done)
        have : i = _ := of_decide_eq_true hc
        subst this
        exact ce_str
      | bl i =>
        cases e <;> try (cases hc; done)
        rename_i c k p
        cases c <;> try (cases hc; done)
        have : i = _ := of_decide_eq_true hc
        subst this
        exact ce_bl
      | non =>
        cases e <;> try (cases hc; done)
        rename_i c k p
        cases c <;> try (cases hc; done)
        exact ce_non
      | cst x =>
        cases e <;> try (cases hc; done)
        obtain ⟨h1, h2⟩ := band hc
        have : x = _ := of_decide_eq_true h1
        subst this
        exact ce_cst K h2
      | fnv x =>
        cases e <;> try (cases hc; done)
        obtain ⟨h1, h2⟩ := band hc
        have : x = _ := of_decide_eq_true h1
        subst this
        exact ce_fnv K h2
      | tyv t =>
        cases e <;> try (cases hc; done)
        obtain ⟨h12, h3⟩ := band hc
        obtain ⟨h1, h2⟩ := band h12
        have : tyStr t = _ := of_decide_eq_true h1
        subst this
        exact ce_tyv K h2 (by simpa using h3)
      | bin op a b =>
        cases e <;> try (cases hc; done)
        obtain ⟨h12, h3⟩ := band hc
        obtain ⟨h1, h2⟩ := band h12
        have : op = _ := of_decide_eq_true h1
        subst this
        exact ce_bin K h2 h3 (ihE a (by simp at hn; omega) N sc _ h2 X C W K) (ihE b (by simp at hn; omega) N sc _ h3 X C W K)
      | un op a =>
        cases e <;> try (cases hc; done)
        obtain ⟨h12, h3⟩ := band hc
        obtain ⟨h1, h2⟩ := band h12
        have : op = _ := of_decide_eq_true h1
        subst this
        exact ce_un K h2 (ihE a (by simp at hn; omega) N sc _ h2 X C W K) (by simpa using h3)
      | not a =>
        cases e <;> try (cases hc; done)
        rename_i o l p
        cases o <;> try (cases hc; done)
        exact ce_not K hc (ihE a (by simp at hn; omega) N sc _ hc X C W K)
      | cmp op a b =>
        cases e <;> try (cases hc; done)
        rename_i l ops rs p
        match ops, rs, hc with
        | [o], [r], hc =>
          obtain ⟨h123, h4⟩ := band (show (decide (op = o) && chkE N a sc l && chkE N b sc r && !isSetX r) = true from hc)
          obtain ⟨h12, h3⟩ := band h123
          obtain ⟨h1, h2⟩ := band h12
          have : op = _ := of_decide_eq_true h1
          subst this
          exact ce_cmp K h2 h3 (nott h4) (ihE a (by simp at hn; omega) N sc _ h2 X C W K) (ihE b (by simp at hn; omega) N sc _ h3 X C W K)
      | chn op op' a b c =>
        cases e <;> try (cases hc; done)
        rename_i l ops rs p
        match ops, rs, hc with
        | [o, o'], [r, q], hc =>
          obtain ⟨h123456, h7⟩ := band (show (decide (op = o) && decide (op' = o') && chkE N a sc l && chkE N b sc r && chkE N c sc q && !isSetX r && !isSetX q) = true from hc)
          obtain ⟨h12345, h6⟩ := band h123456
          obtain ⟨h1234, h5⟩ := band h12345
          obtain ⟨h123, h4⟩ := band h1234
          obtain ⟨h12, h3⟩ := band h123
          obtain ⟨h1, h2⟩ := band h12
          have e1 : op = _ := of_decide_eq_true h1
          have e2 : op' = _ := of_decide_eq_true h2
          subst e1 e2
          exact ce_chn K h3 h4 h5 (nott h7) (ihE a (by simp at hn; omega) N sc _ h3 X C W K) (ihE b (by simp at hn; omega) N sc _ h4 X C W K) (ihE c (by simp at hn; omega) N sc _ h5 X C W K)
      | and a b =>
        cases e <;> try (cases hc; done)
        rename_i o vs p
        match o, vs, hc with
        | .And, x :: y :: r, hc =>
          obtain ⟨h1, h2⟩ := band hc
          have h2' : chkE N b sc (bx .And y r p) = true := by cases r <;> exact h2
          exact ce_and (ihE a (by simp at hn; omega) N sc _ h1 X C W K) (ihE b (by simp at hn; omega) N sc _ h2' X C W K)
      | or a b =>
        cases e <;> try (cases hc; done)
        rename_i o vs p
        match o, vs, hc with
        | .Or, x :: y :: r, hc =>
          obtain ⟨h1, h2⟩ := band hc
          have h2' : chkE N b sc (bx .Or y r p) = true := by cases r <;> exact h2
          exact ce_or (ihE a (by simp at hn; omega) N sc _ h1 X C W K) (ihE b (by simp at hn; omega) N sc _ h2' X C W K)
      | ife c a b =>
        cases e <;> try (cases hc; done)
        obtain ⟨h12, h3⟩ := band hc
        obtain ⟨h1, h2⟩ := band h12
        exact ce_ife (ihE c (by simp at hn; omega) N sc _ h1 X C W K) (ihE a (by simp at hn; omega) N sc _ h2 X C W K) (ihE b (by simp at hn; omega) N sc _ h3 X C W K)
      | tup as =>
        cases e <;> try (cases hc; done)
        exact ce_tup (ihA as (by simp at hn; omega) N sc _ hc X C W K).f
      | lst as =>
        cases e <;> try (cases hc; done)
        exact ce_lst (ihA as (by simp at hn; omega) N sc _ hc X C W K).f
      | nil => cases e <;> cases hc
      | cons a r => cases e <;> cases hc
      | no => cases e <;> cases hc
      | rng as => cases e <;> cases hc
      | enm a => cases e <;> cases hc
      | zip a b => cases e <;> cases hc
      | seq a => cases e <;> cases hc
      | dnew t =>
        cases e <;> try (cases hc; done)
        rename_i es vs pos
        match es, vs, hc with
        | [], [], hc => exact ce_dnew K
      | ddis ks xs =>
        cases e <;> try (cases hc; done)
        obtain ⟨h123, h4⟩ := band hc
        obtain ⟨h12, h3⟩ := band h123
        obtain ⟨h1, h2⟩ := band h12
        exact ce_ddis K h1 (of_decide_eq_true h2) (of_decide_eq_true h3) (fun z => by rw [z] at h4; cases h4)
      | mk0 c =>
        cases e <;> try (cases hc; done)
        rename_i g es ks cp
        cases g <;> try (cases hc; done)
        match es, ks, hc with
        | [], [], hc =>
          obtain ⟨h1, h2⟩ := band hc
          have := of_decide_eq_true h1
          subst this
          exact ce_mk0 K h2
      | mk1 c a =>
        cases e <;> try (cases hc; done)
        rename_i g es ks cp
        cases g <;> try (cases hc; done)
        match es, ks, hc with
        | [e], [], hc =>
          obtain ⟨h123, h4⟩ := band hc
          obtain ⟨h12, h3⟩ := band h123
          obtain ⟨h1, h2⟩ := band h12
          have := of_decide_eq_true h1
          subst this
          exact ce_mk1 K h2 (nott h4) (ihE a (by simp at hn; omega) N sc _ h3 X C W K)
      | mkk c q a =>
        cases e <;> try (cases hc; done)
        rename_i g es ks cp
        cases g <;> try (cases hc; done)
        match es, ks, hc with
        | [], [⟨some y, e, _⟩], hc =>
          obtain ⟨h123, h4⟩ := band hc
          obtain ⟨h12, h3⟩ := band h123
          obtain ⟨h1, h2⟩ := band h12
          have := of_decide_eq_true h1
          subst this
          have := of_decide_eq_true h2
          subst this
          exact ce_mkk K h3 (ihE a (by simp at hn; omega) N sc _ h4 X C W K)
      | isx a c =>
        cases e <;> try (cases hc; done)
        rename_i g es ks cp
        cases g <;> try (cases hc; done)
        match es, ks, hc with
        | [e, .Name x _], [], hc =>
          obtain ⟨h12345, h6⟩ := band hc
          obtain ⟨h1234, h5⟩ := band h12345
          obtain ⟨h123, h4⟩ := band h1234
          obtain ⟨h12, h3⟩ := band h123
          obtain ⟨h1, h2⟩ := band h12
          have := of_decide_eq_true h1
          subst this
          have := of_decide_eq_true h2
          subst this
          exact ce_isx K h3 h4 (nott h6) (ihE a (by simp at hn; omega) N sc _ h5 X C W K)
      | fld a f =>
        cases e <;> try (cases hc; done)
        obtain ⟨h12, h3⟩ := band hc
        obtain ⟨h1, h2⟩ := band h12
        have : f = _ := of_decide_eq_true h1
        subst this
        exact ce_fld K h3 (ihE a (by simp at hn; omega) N sc _ h2 X C W K)
      | callv f as =>
        cases e <;> try (cases hc; done)
        rename_i g es ks cp
        cases g <;> try (cases hc; done)
        rename_i o i sp
        match ks, hc with
        | [], hc =>
          obtain ⟨h12, h3⟩ := band hc
          obtain ⟨h1, h2⟩ := band h12
          have A := ihA as (by simp at hn; omega) N sc _ h2 X C W K
          refine ce_callv K (ihE f (by simp at hn; omega) N sc _ h1 X C W K) A.star (fun z => ?_) A.f
          rw [z] at h3
          cases h3
      | lidx o a =>
        cases e <;> try (cases hc; done)
        rename_i g es ks cp
        cases g <;> try (cases hc; done)
        rename_i q x ap
        match es, ks, hc with
        | [e], [], hc =>
          obtain ⟨h12345, h6⟩ := band (show (decide (x = "index") && chkE N o sc q && chkE N a sc e && !isStar e && plainBase q && (ap.endLine == cp.line)) = true from hc)
          obtain ⟨h1234, h5⟩ := band h12345
          obtain ⟨h123, h4⟩ := band h1234
          obtain ⟨h12, h3⟩ := band h123
          obtain ⟨h1, h2⟩ := band h12
          have := of_decide_eq_true h1
          subst this
          exact ce_lidx K (by have := K.un2; omega) h2 h3 (nott h4) h5 h6 (ihE o (by simp at hn; omega) N sc _ h2 X C W K) (ihE a (by simp at hn; omega) N sc _ h3 X C W K)
      | bits a =>
        cases e <;> try (cases hc; done)
        rename_i f es ks cp
        cases f <;> try (cases hc; done)
        rename_i q x ap
        match es, ks, hc with
        | [], [], hc =>
          obtain ⟨h123, h4⟩ := band (show (decide (x = "bit_length") && chkE N a sc q && plainBase q && (ap.endLine == cp.line)) = true from hc)
          obtain ⟨h12, h3⟩ := band h123
          obtain ⟨h1, h2⟩ := band h12
          have := of_decide_eq_true h1
          subst this
          exact ce_bits K h2 (ihE a (by simp at hn; omega) N sc _ h2 X C W K) h3 h4
      | lrn1 a =>
        rw [chkE, chkM] at hc
        split at hc
        · rename_i f h1
          split at hc
          · rename_i x h2
            obtain ⟨h34, h5⟩ := band hc
            obtain ⟨h3, h4⟩ := band h34
            obtain ⟨p, pos, rfl, g1⟩ := callOf_ok h1
            obtain ⟨p2, pos2, rfl, g2⟩ := callOf_ok h2
            exact ce_lrn1 K g1 g2 h3 (ihE a (by simp at hn; omega) N sc _ h3 X C W K) (nott h4)
          · cases hc
        · cases hc
      | lrng a b =>
        rw [chkE, chkM] at hc
        split at hc
        · rename_i f h1
          split at hc
          · rename_i x y h2
            obtain ⟨h3456, h7⟩ := band hc
            obtain ⟨h345, h6⟩ := band h3456
            obtain ⟨h34, h5⟩ := band h345
            obtain ⟨h3, h4⟩ := band h34
            obtain ⟨p, pos, rfl, g1⟩ := callOf_ok h1
            obtain ⟨p2, pos2, rfl, g2⟩ := callOf_ok h2
            exact ce_lrng K g1 g2 h3 h4 (ihE a (by simp at hn; omega) N sc _ h3 X C W K) (ihE b (by simp at hn; omega) N sc _ h4 X C W K) (nott h5) (nott h6)
          · cases hc
        · cases hc
      | sset a =>
        rw [chkE, chkM] at hc
        split at hc
        · rename_i f h1
          split at hc
          · rename_i x h2
            obtain ⟨h34, h5⟩ := band hc
            obtain ⟨h3, h4⟩ := band h34
            obtain ⟨p, pos, rfl, g1⟩ := callOf_ok h1
            obtain ⟨p2, pos2, rfl, g2⟩ := callOf_ok h2
            exact ce_sset K g1 g2 h3 (ihE a (by simp at hn; omega) N sc _ h3 X C W K) (nott h4)
          · cases hc
        · cases hc
      | sub a b =>
        cases e <;> try (cases hc; done)
        obtain ⟨h12, h3⟩ := band hc
        obtain ⟨h1, h2⟩ := band h12
        exact ce_sub K h1 h2 (nott h3) (ihE a (by simp at hn; omega) N sc _ h1 X C W K) (ihE b (by simp at hn; omega) N sc _ h2 X C W K)
      | slc a lo hi =>
        cases e <;> try (cases hc; done)
        rename_i o i p
        cases i <;> try (cases hc; done)
        rename_i l h st p2
        cases st <;> try (cases hc; done)
        obtain ⟨h12, h3⟩ := band hc
        obtain ⟨h1, h2⟩ := band h12
        have po0 : ∀ (lo : IE), isNo lo = true → PO X none (tP (gx X) W (part lo (ev C lo).1)) := fun lo hl => by
          have e : lo = .no := by cases lo <;> first | rfl | cases hl
          subst e
          exact part_none
        have pl : PO X l (tP (gx X) W (part lo (ev C lo).1)) := by
          cases l with
          | none => exact po0 lo h2
          | some e => exact part_some K h2 (ihE lo (by simp at hn; omega) N sc _ h2 X C W K)
        have ph : PO X h (tP (gx X) W (part hi (ev C hi).1)) := by
          cases h with
          | none => exact po0 hi h3
          | some e => exact part_some K h3 (ihE hi (by simp at hn; omega) N sc _ h3 X C W K)
        exact ce_slc K h1 (ihE a (by simp at hn; omega) N sc _ h1 X C W K) pl ph
      | call f as =>
        cases e <;> try (cases hc; done)
        rename_i fn es ks p
        cases fn <;> try (cases hc; done)
        cases ks <;> try (cases hc; done)
        obtain ⟨h12, h3⟩ := band hc
        obtain ⟨h1, h2⟩ := band h12
        have : f = _ := of_decide_eq_true h1
        subst this
        have A := ihA as (by simp at hn; omega) N sc _ h3 X C W K
        exact ce_call K h2 A.star A.nil fun sg _ => A.a sg
      | callk f m ks ap ak =>
        cases e <;> try (cases hc; done)
        rename_i fn es kws p
        cases fn <;> try (cases hc; done)
        cases kws <;> try (cases hc; done)
        rename_i k kws
        obtain ⟨h123, h4⟩ := band hc
        obtain ⟨h12, h3⟩ := band h123
        obtain ⟨h1, h2⟩ := band h12
        have : f = _ := of_decide_eq_true h1
        subst this
        have A := ihA ap (by simp at hn; omega) N sc _ h3 X C W K
        exact ce_callk K h2 A.star A.f A.nil (kw_ok ak ks _ h4 fun a e ha he => ihE a (by simp at hn; omega) N sc e he X C W K)
      | blt f as =>
        cases e <;> try (cases hc; done)
        rename_i fn es ks p
        cases fn <;> try (cases hc; done)
        cases ks <;> try (cases es <;> cases hc; done)
        cases es <;> try (cases hc; done)
        obtain ⟨h12, h3⟩ := band hc
        obtain ⟨h1, h2⟩ := band h12
        have : f.name = _ := of_decide_eq_true h1
        subst this
        have A := ihA as (by simp at hn; omega) N sc _ h3 X C W K
        exact ce_blt K h2 A.star A.o
      | mth m o as =>
        cases e <;> try (cases hc; done)
        rename_i fn es ks p
        cases fn <;> try (cases hc; done)
        rename_i q x ap
        match es, ks, hc with
        | [e], [], hc =>
          obtain ⟨h1234, h5⟩ := band (show (mthOk m && decide (m.name = x) && chkE N o sc q && chkA N as sc [e] && plainBase q && (ap.endLine == p.line)) = true from hc)
          obtain ⟨h123, h4⟩ := band h1234
          obtain ⟨h12, h3⟩ := band h123
          obtain ⟨h01, h2⟩ := band h12
          obtain ⟨h0, h1⟩ := band h01
          have : m.name = _ := of_decide_eq_true h1
          subst this
          obtain ⟨a, rfl⟩ : ∃ a, as = .cons a .nil := by
            cases as with
            | cons a r =>
              obtain ⟨_, h8⟩ := band (show (chkE N a sc e && !isStar e && chkA N r sc []) = true from h3)
              cases r with
              | nil => exact ⟨a, rfl⟩
              | _ => cases h8
            | _ => cases h3
          obtain ⟨h67, h8⟩ := band (show (chkE N a sc e && !isStar e && chkA N .nil sc []) = true from h3)
          obtain ⟨h6, h7⟩ := band h67
          have ho := ce_opd K h2 (ihE o (by simp at hn; omega) N sc _ h2 X C W K)
          have ha := ce_opd K h6 (ihE a (by simp at hn; omega) N sc _ h6 X C W K)
          have kd : ∀ {m : Mth} {id : String}, Slot "str" m.name id → typeOf (.builtin id) = pure (.type "method_descriptor") → MtR X id (rM (gx X) m) → (∀ o, kindO m o = true → ∃ z, o = some (.str z)) → CE X C W (.mth m o (.cons a .nil)) (.Call (.Attribute q m.name ap) [e] [] p) :=
            fun sl ty ru hk => ce_mth sl ty ru hk (nott h7) h4 h5 ho ha fun env => rfl
          have str : ∀ {m : Mth}, (m = .split ∨ m = .join ∨ m = .replace) → ∀ o, kindO m o = true → ∃ z, o = some (.str z) := fun hm o hk => by
            rcases hm with rfl | rfl | rfl <;> (cases o with
              | none => cases hk
              | some p => cases p <;> first | exact ⟨_, rfl⟩ | cases hk)
          cases m with
          | split => exact kd F.slot_str_split F.type_str_split mt_splitP (str (.inl rfl))
          | join => exact kd F.slot_str_join F.type_str_join mt_joinP (str (.inr (.inl rfl)))
          | index => exact kd F.slot_str_index F.type_str_index mt_indexP (fun o hk => by
              cases o with
              | none => cases hk
              | some p => cases p <;> first | exact ⟨_, rfl⟩ | cases hk)
          | _ => cases h0
      | comp own g it cond elt =>
        cases e <;> try (cases hc; done)
        rename_i e gens scope pos
        match gens, hc with
        | [⟨tg, iter, ifs, ay⟩], hc =>
          obtain ⟨c1, h8⟩ := band hc
          obtain ⟨c2, h7⟩ := band c1
          obtain ⟨c3, h6⟩ := band c2
          obtain ⟨c4, h5⟩ := band c3
          obtain ⟨c5, h4⟩ := band c4
          obtain ⟨c6, h3⟩ := band c5
          obtain ⟨c7, h2⟩ := band c6
          obtain ⟨h0, h1⟩ := band c7
          have h0' : ay = 0 := of_decide_eq_true h0
          subst h0'
          have hI : chkI N it sc tg iter = true := h1
          refine ce_vt (a := .comp own g it cond elt) (f := (ev C (.comp own g it cond elt)).1) rfl rfl ?_
          refine ce_comp K (ci_all K hI fun a e ha hs => ihE a (by simp at hn; omega) N sc e ha X C W K) h2 (of_decide_eq_true h3) (subSet_ok h4) (fun s H D cl fp => ?_) (fun s H D cl fp => ?_) (fun s H D cl fp => ?_) (nott h8)
          · exact cg_ok (K.blk s H scope cl D fp) (fun x hx => hx) h5
          · exact pts_of (K.blk s H scope cl D fp) h6 fun e he => ihE cond (by simp at hn; omega) N _ e he _ C W0 (K.blk s H scope cl D fp)
          · exact (ihE elt (by simp at hn; omega) N _ e h7 _ C W0 (K.blk s H scope cl D fp)).1
    · cases r <;> try (cases es <;> cases hc; done)
      · cases es <;> try (cases hc; done)
        exact args_nil
      · rename_i a r
        cases es <;> try (cases hc; done)
        rename_i e es
        obtain ⟨h12, h3⟩ := band (show (chkE N a sc e && !isStar e && chkA N r sc es) = true from hc)
        obtain ⟨h1, h2⟩ := band h12
        exact args_cons K h1 (nott h2) (ihE a (by simp at hn; omega) N sc _ h1 X C W K) (ihA r (by simp at hn; omega) N sc _ h3 X C W K)
end
end Bd

namespace Bd
open PySem L2
/-! ### statements -/
inductive IS where
  | nil
  | seq (a b : IS)
  | asg (i : Nat) (e : IE)
  | unp (is : List Nat) (e : IE)
  | par (is : List Nat) (es : IE)
  | seti (i : Nat) (ix e : IE)
  | app (i : Nat) (e : IE)
  | expr (e : IE)
  | ret (e : IE)
  | retN
  | ife (c : IE) (a b : IS)
  | loop (g : IG) (it : IE) (b : IS)
  | whl (fuel : Nat) (c : IE) (b : IS)
  | brk | cnt | pass
  | boom
  | drop (is : List Nat)
  | putc (i : Nat) (k1 : Key) (x1 : PV) (k2 : Key) (x2 : PV)
  | raise (c : Str) (a : IE)
  | raise0 (c : Str)
  | tryS (b : IS) (c : Str) (i j : Nat)
  deriving Inhabited
inductive Fo where
  | nx (e : En)
  | ret (r : PV × Fl) (e : En)
  | brk (e : En)
  | cnt (e : En)
  | exc (x : PX) (e : En)
  | bad
def Out.fo {α : Type} (m : Out α) (k : α → En → Fo) : Fo :=
  match m with
  | .ok a e => k a e
  | .exc x e => .exc x e
  | .bad => .bad
def Fo.andThen (f : Fo) (k : En → Fo) : Fo :=
  match f with
  | .nx e => k e
  | f => f
/-- a turn of a loop -/
def turnK (k : En → Fo) : Fo → Fo
  | .nx e => k e
  | .cnt e => k e
  | .brk e => .nx e
  | f => f
/-- the turns of a for -/
def forLoop (g : IG) (b : En → Fo) : List PV → En → Fo
  | [], e => .nx e
  | x :: r, e => match setG g x e with
    | none => .bad
    | some e1 => turnK (forLoop g b r) (b e1)
def whileLoop (c : En → Out Bool) (b : En → Fo) : Nat → En → Fo
  | 0, _ => .bad
  | n + 1, e => (c e).fo fun k e1 => if k then turnK (whileLoop c b n) (b e1) else .nx e1
/-- stores, all at once -/
def setPar : List Nat → List PV → En → En
  | i :: is, p :: ps, e => setPar is ps (e.set i (some (p, .fz)))
  | _, _, e => e
/-- the list that a slot may change -/
def lstAt (e : En) (i : Nat) : Option (List PV × Fl) := match e[i]? with
  | some (some (.lst xs, .own)) => some (xs, .own)
  | some (some (.lst xs, .bor)) => some (xs, .bor)
  | _ => none
def setItemE (i : Nat) (x : Opd) (p : PV) (e : En) : Fo :=
  match lstAt e i with
  | none => .bad
  | some (xs, fl) => match rsO e x with
    | some (.int k) => (match ixN xs.length k with
      | some j => .nx (e.set i (some (.lst (xs.set j p), fl)))
      | none => .bad)
    | _ => .bad
def dctAt (e : En) (i : Nat) : Option (PV × Fl) := match e[i]? with
  | some (some (.dk ks xs, .own)) => some (.dk ks xs, .own)
  | some (some (.dk ks xs, .bor)) => some (.dk ks xs, .bor)
  | some (some (.dt ks xs, .own)) => some (.dt ks xs, .own)
  | some (some (.dt ks xs, .bor)) => some (.dt ks xs, .bor)
  | _ => none
def dPutP (d k v : PV) : Option PV := match d with
  | .dk ks xs => (keyOf k).bind fun k => if ks.length < sizeLine then some (.dk (dPutK ks k) (dPutX ks xs k v)) else none
  | .dt ks xs => (tkeyOf k).bind fun k => if ks.length < sizeLine then some (.dt (dPutK ks k) (dPutX ks xs k v)) else none
  | _ => none
def setDctE (i : Nat) (x : Opd) (p : PV) (e : En) : Fo :=
  match dctAt e i with
  | none => .bad
  | some (d, fl) => match (rsO e x).bind fun k => dPutP d k p with
    | some d' => .nx (e.set i (some (d', fl)))
    | none => .bad
def appE (i : Nat) (p : PV) (e : En) : Fo :=
  match lstAt e i with
  | none => .bad
  | some (xs, fl) => if xs.length < sizeLine then .nx (e.set i (some (.lst (xs ++ [p]), fl))) else .bad
/-- a value is handed back: a list of one's own stays one that may be changed -/
def retE (C : Cal) (a : IE) (e : En) : Fo :=
  match a with
  | .var i => (match e[i]? with
    | some (some (p, .own)) => .ret (p, .own) (e.set i none)
    | _ => ((ev C a).1 e).fo fun r e1 => .ret r e1)
  | _ => ((ev C a).1 e).fo fun r e1 => .ret r e1
/-- what a caught exception leaves: slot j is it, the clause's name is gone -/
def tryK (C : Cal) (c : Str) (i j : Nat) : Fo → Fo
  | .exc x e => if C.und x.cls c && (e[i]?).isSome then .nx (((e.set i none).set j (some (excV x, .fz))).set i none) else .bad
  | f => f
def exec (C : Cal) : IS → En → Fo
  | .nil, e => .nx e
  | .seq a b, e => (exec C a e).andThen (exec C b)
  | .asg i a, e => ((ev C a).1 e).fo fun r e1 => .nx (e1.set i (some r))
  | .unp is a, e => ((ev C a).1 e).fo fun r e1 => match setG (.tup is) r.1 e1 with
    | some e2 => .nx e2
    | none => .bad
  | .par is as, e => (evF C as e).fo fun ps e1 => if is.length = ps.length then .nx (setPar is ps e1) else .bad
  | .seti i ix a, e => ((ev C a).1 e).fo fun r e1 => if (lstAt e1 i).isSome then (opd ix (ev C ix).1 e1).fo fun x e2 => setItemE i x r.1 e2 else if (dctAt e1 i).isSome then (opd ix (ev C ix).1 e1).fo fun x e2 => setDctE i x r.1 e2 else .bad
  | .app i a, e => if (lstAt e i).isSome then ((ev C a).1 e).fo fun r e1 => appE i r.1 e1 else .bad
  | .expr a, e => ((ev C a).1 e).fo fun _ e1 => .nx e1
  | .ret a, e => retE C a e
  | .retN, e => .ret (.non, .fz) e
  | .ife c a b, e => ((ev C c).2 e).fo fun k e1 => if k then exec C a e1 else exec C b e1
  | .loop g it b, e => (evIt C it e).fo fun xs e1 => forLoop g (exec C b) xs e1
  | .whl n c b, e => whileLoop (ev C c).2 (exec C b) n e
  | .brk, e => .brk e
  | .cnt, e => .cnt e
  | .pass, e => .nx e
  | .boom, _ => .bad
  | .raise c a, e => (match C.exf c with
    | none => .bad
    | some f => ((ev C a).1 e).fo fun r e1 => .exc ⟨c, [f], [r.1]⟩ e1)
  | .putc i k1 x1 k2 x2, e => (match dctAt e i with
    | some (.dk ks xs, fl) => if ks.length + 1 < sizeLine then .nx ((e.set i (some (.dk (dPutK ks k1) (dPutX ks xs k1 x1), fl))).set i (some (.dk (dPutK (dPutK ks k1) k2) (dPutX (dPutK ks k1) (dPutX ks xs k1 x1) k2 x2), fl))) else .bad
    | _ => .bad)
  | .raise0 c, e => (match C.ex0 c with
    | none => .bad
    | some f => .exc ⟨c, [f], [.tup []]⟩ e)
  | .tryS b c i j, e => if C.und c c then tryK C c i j (exec C b e) else .bad
  | .drop is, e => .nx (wipeE e is)

/-! ### the check -/
def nameOf (sc : Scope) (line : Nat) : Expr → Option Str
  | .Name id pos => if sc.names.lookup id == some .local && pos.line == line then some id else none
  | _ => none
/-- would the stores be made from the right? (none: the model does not say) -/
def swapOf (sc : Scope) (ts : List Expr) (value : Expr) : Option (Option (List Str)) :=
  match value with
  | .Tuple vs _ _ =>
    if (!(ts.length == 2 || ts.length == 3) || vs.length != ts.length) = true then some none
    else if (vs.any isStar) = true then some none
    else
      let line := (ts.head?.map (·.pos.line)).getD 0
      let names := ts.filterMap (nameOf sc line)
      if (names.length != ts.length || names.eraseDups.length != names.length) = true then some none
      else if (vs.all (foldedForSure 8)) = true then some none
      else if (vs.all (constantsAlone 8)) = true then none
      else some (some names)
  | _ => some none
theorem swap_eq {sc : Scope} {env : Env} (hsc : env.scope = sc) (hk : sc.kind = .function) {ts : List Expr} {kt : Nat} {pt : Pos} {value : Expr} {r : Option (List Str)} (h : swapOf sc ts value = some r) : swappedStores [.Tuple ts kt pt] value env = pure r := by
  have hb : env.blockKind = .function := by unfold Env.blockKind; rw [hsc, hk]; rfl
  have hko : ∀ id, env.kindOf id = sc.names.lookup id := fun id => by unfold Env.kindOf; rw [hsc]
  cases value with
  | Tuple vs k2 p2 =>
    unfold swappedStores
    simp only [hb, hko]
    have e0 : ∀ (c : Bool), (c || (ScopeKind.function != ScopeKind.function)) = c := fun c => by cases c <;> rfl
    rw [e0]
    have es : ∀ (f : Expr → Bool), (∀ e, f e = isStar e) → vs.any f = vs.any isStar := fun f hf => by
      congr 1
      funext e
      exact hf e
    have en : ∀ (f : Expr → Option Str) (line : Nat), (∀ e, f e = nameOf sc line e) → ts.filterMap f = ts.filterMap (nameOf sc line) := fun f line hf => by
      congr 1
      funext e
      exact hf e
    rw [es _ (fun e => by cases e <;> rfl), en _ _ (fun e => by cases e <;> rfl)]
    unfold swapOf at h
    simp only at h
    split at h
    · rename_i h1; cases h; rw [if_pos h1]
    · rename_i h1
      rw [if_neg h1]
      split at h
      · rename_i h2; cases h; rw [if_pos h2]
      · rename_i h2
        rw [if_neg h2]
        split at h
        · rename_i h3; cases h; rw [if_pos h3]
        · rename_i h3
          rw [if_neg h3]
          split at h
          · rename_i h4; cases h; rw [if_pos h4]
          · rename_i h4
            rw [if_neg h4]
            split at h
            · cases h
            · rename_i h5
              cases h
              rw [if_neg h5]
  | _ => cases h; rfl
/-- a comprehension whose stores are exchanged with its name's -/
def swapLC (sc : Scope) (x : Str) (p : Pos) : Expr → Bool
  | .ListComp e gs scope pos => (match sc.names.lookup x with
      | some .local => true
      | _ => false) && (p.line == pos.line) && !(scope.names.any fun (n, k) => n == x && (k == .local || k == .cell))
  | _ => false
/-- a comprehension whose stores are not exchanged -/
def stayLC (sc : Scope) (x : Str) (p : Pos) : Expr → Bool
  | .ListComp e gs scope pos => !(swapLC sc x p (.ListComp e gs scope pos))
  | _ => false
inductive ParV where
  | two (x : Str) (px : Pos) (y : Str) (py : Pos) (a b : Expr) (k2 : Nat) (p2 : Pos)
  | thr (x : Str) (px : Pos) (y : Str) (py : Pos) (z : Str) (pz : Pos) (a b c : Expr) (k2 : Nat) (p2 : Pos)
  | no
def nmOf : Expr → Option (Str × Pos)
  | .Name x p => some (x, p)
  | _ => none
def parOf : Stmt → ParV
  | .Assign [.Tuple ts _ _] (.Tuple vs k2 p2) _ => (match ts, vs with
    | [s, t], [a, b] => (match nmOf s, nmOf t with
      | some (x, px), some (y, py) => .two x px y py a b k2 p2
      | _, _ => .no)
    | [s, t, u], [a, b, c] => (match nmOf s, nmOf t, nmOf u with
      | some (x, px), some (y, py), some (z, pz) => .thr x px y py z pz a b c k2 p2
      | _, _, _ => .no)
    | _, _ => .no)
  | _ => .no
theorem nmOf_eq {e : Expr} {x : Str} {p : Pos} (h : nmOf e = some (x, p)) : e = .Name x p := by
  unfold nmOf at h
  split at h
  · cases h; rfl
  · cases h
theorem parOf_two {st : Stmt} {x y : Str} {px py p2 : Pos} {a b : Expr} {k2 : Nat} (h : parOf st = .two x px y py a b k2 p2) : ∃ kt pt pos, st = .Assign [.Tuple [.Name x px, .Name y py] kt pt] (.Tuple [a, b] k2 p2) pos := by
  unfold parOf at h
  split at h
  · split at h
    · split at h
      · rename_i h1 h2
        cases h
        rw [nmOf_eq h1, nmOf_eq h2]
        exact ⟨_, _, _, rfl⟩
      · cases h
    · split at h <;> cases h
    · cases h
  · cases h
theorem parOf_thr {st : Stmt} {x y z : Str} {px py pz p2 : Pos} {a b c : Expr} {k2 : Nat} (h : parOf st = .thr x px y py z pz a b c k2 p2) : ∃ kt pt pos, st = .Assign [.Tuple [.Name x px, .Name y py, .Name z pz] kt pt] (.Tuple [a, b, c] k2 p2) pos := by
  unfold parOf at h
  split at h
  · split at h
    · split at h <;> cases h
    · split at h
      · rename_i h1 h2 h3
        cases h
        rw [nmOf_eq h1, nmOf_eq h2, nmOf_eq h3]
        exact ⟨_, _, _, rfl⟩
      · cases h
    · cases h
  · cases h
def chkPar (N : List Str) (sc : Scope) (is : List Nat) (es : IE) (st : Stmt) : Bool := match parOf st with
  | .two x px y py a b k2 p2 => (match is with
    | [i, j] => decide (swapOf sc [.Name x px, .Name y py] (.Tuple [a, b] k2 p2) = some (some [x, y])) && decide (N[i]? = some x) && decide (N[j]? = some y) && decide (i ≠ j) && decide (sc.names.lookup x = some .local) && decide (sc.names.lookup y = some .local) && chkA N es sc [a, b]
    | _ => false)
  | .thr x px y py z pz a b c k2 p2 => (match is with
    | [i, j, l] => decide (swapOf sc [.Name x px, .Name y py, .Name z pz] (.Tuple [a, b, c] k2 p2) = some (some [x, y, z])) && decide (N[i]? = some x) && decide (N[j]? = some y) && decide (N[l]? = some z) && decide (i ≠ j) && decide (i ≠ l) && decide (j ≠ l) && decide (sc.names.lookup x = some .local) && decide (sc.names.lookup y = some .local) && decide (sc.names.lookup z = some .local) && chkA N es sc [a, b, c]
    | _ => false)
  | .no => false
/-- raise x(e) -/
def raiseOf : Stmt → Option (Str × Expr)
  | .Raise (some (.Call (.Name x _) [e] [] _)) none _ => some (x, e)
  | _ => none
theorem raiseOf_ok {st : Stmt} {x : Str} {e : Expr} (h : raiseOf st = some (x, e)) : ∃ p pos pos', st = .Raise (some (.Call (.Name x p) [e] [] pos)) none pos' := by
  unfold raiseOf at h
  split at h
  · cases h; exact ⟨_, _, _, rfl⟩
  · cases h
/-- raise x() -/
def raise0Of : Stmt → Option Str
  | .Raise (some (.Call (.Name x _) [] [] _)) none _ => some x
  | _ => none
theorem raise0Of_ok {st : Stmt} {x : Str} (h : raise0Of st = some x) : ∃ p pos pos', st = .Raise (some (.Call (.Name x p) [] [] pos)) none pos' := by
  unfold raise0Of at h
  split at h
  · cases h; exact ⟨_, _, _, rfl⟩
  · cases h
structure PutC where
  x : Str
  e1 : Expr
  e2 : Expr
  v1 : Expr
  v2 : Expr
/-- x[k1], x[k2] = v1, v2 -/
def putcOf : Stmt → Option PutC
  | .Assign [.Tuple [.Subscript (.Name x _) e1 _, .Subscript (.Name y _) e2 _] _ _] (.Tuple [v1, v2] _ _) _ => if x = y then some ⟨x, e1, e2, v1, v2⟩ else none
  | _ => none
theorem putcOf_ok {st : Stmt} {t : PutC} (h : putcOf st = some t) : ∃ p1 p2 p3 p4 n p5 m p6 p7, st = .Assign [.Tuple [.Subscript (.Name t.x p1) t.e1 p2, .Subscript (.Name t.x p3) t.e2 p4] n p5] (.Tuple [t.v1, t.v2] m p6) p7 := by
  unfold putcOf at h
  split at h
  · split at h
    · rename_i hxy
      cases h
      subst hxy
      exact ⟨_, _, _, _, _, _, _, _, _, rfl⟩
    · cases h
  · cases h
structure TryV where
  body : List Stmt
  x : Str
  n : Str
  y : Str
  py : Pos
  z : Str
/-- try: body / except x as n: y = z -/
def tryOf : Stmt → Option TryV
  | .Try body [.ExceptHandler (some (.Name x _)) (some n) [.Assign [.Name y py] (.Name z _) _] _] [] [] _ => some ⟨body, x, n, y, py, z⟩
  | _ => none
theorem tryOf_ok {st : Stmt} {t : TryV} (h : tryOf st = some t) : ∃ np pz pa pos' pos, st = .Try t.body [.ExceptHandler (some (.Name t.x np)) (some t.n) [.Assign [.Name t.y t.py] (.Name t.z pz) pa] pos'] [] [] pos := by
  unfold tryOf at h
  split at h
  · cases h; exact ⟨_, _, _, _, _, rfl⟩
  · cases h
mutual
def chkS (N : List Str) (sc : Scope) : IS → List Stmt → Bool
  | .nil, [] => true
  | .seq (.drop _) b, sts => chkS N sc b sts
  | .seq a b, st :: sts => chkS N sc b sts && chkT N sc a st
  | _, _ => false
def chkT (N : List Str) (sc : Scope) : IS → Stmt → Bool
  | .asg i e, .Assign [.Name x p] v _ => decide (N[i]? = some x) && locB sc (fun _ => true) x && chkE N e sc v && (!isLC v || swapLC sc x p v || stayLC sc x p v)
  | .unp is e, .Assign [.Tuple ts _ _] v _ => chkNames N sc (fun _ => true) is ts && chkE N e sc v && decide (swapOf sc ts v = some none) && !isLC v
  | .par is es, st => chkPar N sc is es st
  | .seti i ix e, .Assign [.Subscript (.Name x _) j _] v _ => decide (N[i]? = some x) && visB sc x && chkE N ix sc j && !isSliceX j && chkE N e sc v && !isLC v
  | .app i e, .Expr (.Call (.Attribute (.Name x _) m ap) [v] [] cp) _ => decide (m = "append") && decide (N[i]? = some x) && visB sc x && chkE N e sc v && !isStar v && (ap.endLine == cp.line)
  | .expr e, .Expr v _ => chkE N e sc v && !isLC v
  | .ret e, .Return (some v) _ => chkE N e sc v
  | .retN, .Return none _ => true
  | .ife c a b, .If t x y _ => chkE N c sc t && chkS N sc a x && chkS N sc b y
  | .loop g it b, .For tg iter body [] _ => chkI N it sc tg iter && chkG N sc (fun _ => true) g tg && chkS N sc b body && !isSetX iter
  | .whl _ c b, .While t body [] _ => chkE N c sc t && chkS N sc b body
  | .brk, .Break _ => true
  | .cnt, .Continue _ => true
  | .pass, .Pass _ => true
  | .boom, _ => true
  | .raise c a, st => (match raiseOf st with
    | some (x, e) => decide (c = x) && glB sc x && chkE N a sc e && !isStar e
    | none => false)
  | .putc i k1 x1 k2 x2, st => (match putcOf st with
    | some t => decide (N[i]? = some t.x) && visB sc t.x && cKey k1 t.e1 && cKey k2 t.e2 && cPVe x1 t.v1 && cPVe x2 t.v2
    | none => false)
  | .raise0 c, st => (match raise0Of st with
    | some x => decide (c = x) && glB sc x
    | none => false)
  | .tryS b c i j, st => (match tryOf st with
    | some t => chkS N sc b t.body && (decide (c = t.x) && (glB sc t.x && (decide (N[i]? = some t.n) && (decide (sc.names.lookup t.n = some .local) && (decide (t.z = t.n) && (decide (N[j]? = some t.y) && (locB sc (fun _ => true) t.y && visB sc t.n)))))))
    | none => false)
  | _, _ => false
end
end Bd

namespace Bd
open PySem L2
section
variable {g : Gx} {G : Ent} {env : En} {σ : L2.St} {F H F' H' : Hp}
theorem set_get {i j : Nat} {env : En} {x : Option (PV × Fl)} {q : PV × Fl} (h : (env.set i x)[j]? = some (some q)) : (j = i ∧ x = some q ∧ i < env.length) ∨ (j ≠ i ∧ env[j]? = some (some q)) := by
  by_cases hj : i = j
  · subst hj
    by_cases hl : i < env.length
    · rw [List.getElem?_set_self hl] at h
      cases h; exact .inl ⟨rfl, rfl, hl⟩
    · rw [List.getElem?_eq_none (by simpa using hl)] at h; cases h
  · rw [List.getElem?_set_ne hj] at h
    exact .inr ⟨fun z => hj z.symm, h⟩
/-- a slot takes a list of one's own -/
theorem Sx.setOwn (S : Sx g G env σ F H) {i : Nat} {p : PV} {a : Addr} (hF : F a = none) (ho : OwnR g F H p a) (hG : G.H a = none) (ap : Apart env σ a) : Sx g G (env.set i (some (p, .own))) (σ.set i (some (.ref a))) F H := by
  refine ⟨S.sub, S.f0, S.h0, S.nf, S.th, by simpa using S.len, fun j pv h => ?_, fun j pv fl h hf => ?_, fun j k q r b h1 f1 h2 f2 s1 s2 => ?_, fun j pv h => ?_⟩
  · rcases set_get h with ⟨rfl, hq, hl⟩ | ⟨hj, hq⟩
    · cases hq
    · rw [List.getElem?_set_ne (Ne.symm hj)]; exact S.fz j pv hq
  · rcases set_get h with ⟨rfl, hq, hl⟩ | ⟨hj, hq⟩
    · cases hq
      exact ⟨a, List.getElem?_set_self (by rw [← S.len]; exact hl), hF, ho, .inr hG, fun _ => .inr hG⟩
    · rw [List.getElem?_set_ne (Ne.symm hj)]; exact S.own j pv fl hq hf
  · rcases set_get h1 with ⟨rfl, hq, hl⟩ | ⟨hj, hq⟩
    · rcases set_get h2 with ⟨rfl, hr, hl⟩ | ⟨hk, hr⟩
      · rfl
      · rw [List.getElem?_set_self (by rw [← S.len]; exact hl)] at s1
        cases s1
        rw [List.getElem?_set_ne (Ne.symm hk)] at s2
        exact absurd s2 (ap k _ hr f2)
    · rw [List.getElem?_set_ne (Ne.symm hj)] at s1
      rcases set_get h2 with ⟨rfl, hr, hl⟩ | ⟨hk, hr⟩
      · rw [List.getElem?_set_self (by rw [← S.len]; exact hl)] at s2
        cases s2
        exact absurd s1 (ap j _ hq f1)
      · rw [List.getElem?_set_ne (Ne.symm hk)] at s2
        exact S.inj j k q r b hq f1 hr f2 s1 s2
  · rcases set_get h with ⟨rfl, hq, hl⟩ | ⟨hj, hq⟩
    · cases hq
    · rw [List.getElem?_set_ne (Ne.symm hj)]; exact S.bo j pv hq
theorem Sx.setV (S : Sx g G env σ F H) {i : Nat} {r : PV × Fl} {v : V} (h : VR g G env σ F H r v) : Sx g G (env.set i (some r)) (σ.set i (some v)) F H := by
  obtain ⟨p, fl⟩ := r
  cases fl with
  | fz => exact S.setFz h
  | own =>
    obtain ⟨a, rfl, h1, h2, h3, h4⟩ := h
    exact S.setOwn h1 h2 h3 h4
  | bor => exact h.elim
/-- a slot is forgotten -/
theorem Sx.forget (S : Sx g G env σ F H) (i : Nat) : Sx g G (env.set i none) σ F H := by
  refine ⟨S.sub, S.f0, S.h0, S.nf, S.th, by simpa using S.len, fun j pv h => ?_, fun j pv fl h hf => ?_, fun j k q r b h1 f1 h2 f2 s1 s2 => ?_, fun j pv h => ?_⟩
  · rcases set_get h with ⟨_, hq, _⟩ | ⟨_, hq⟩
    · cases hq
    · exact S.fz j pv hq
  · rcases set_get h with ⟨_, hq, _⟩ | ⟨_, hq⟩
    · cases hq
    · exact S.own j pv fl hq hf
  · rcases set_get h1 with ⟨_, hq, _⟩ | ⟨_, hq⟩
    · cases hq
    · rcases set_get h2 with ⟨_, hr, _⟩ | ⟨_, hr⟩
      · cases hr
      · exact S.inj j k q r b hq f1 hr f2 s1 s2
  · rcases set_get h with ⟨_, hq, _⟩ | ⟨_, hq⟩
    · cases hq
    · exact S.bo j pv hq
/-- a slot's own list is changed -/
theorem Sx.chg (S : Sx g G env σ F H) {i : Nat} {p p' : PV} {fl : Fl} {a : Addr} {o : HO} (e : env[i]? = some (some (p, fl))) (hf : fl ≠ .fz) (ea : σ[i]? = some (some (.ref a))) (ho : OwnR g F (upd H a o) p' a) : Sx g G (env.set i (some (p', fl))) σ F (upd H a o) := by
  obtain ⟨b, e1, e2, e3, e4, e5⟩ := S.own i p fl e hf
  rw [ea] at e1; cases e1
  refine ⟨fun b x q => ?_, S.f0, fun b x h1 h2 => ?_, S.nf, fun b x h1 => ?_, by simpa using S.len, fun j pv h => ?_, fun j pv f2 h hf2 => ?_, fun j k q r b h1 f1 h2 f2 s1 s2 => ?_, fun j pv h => ?_⟩
  · rw [upd_ne (ne_of_none q e2)]; exact S.sub b x q
  · have hb : b ≠ a := by
      rintro rfl
      rcases e4 with z | z
      · exact h2 z
      · rw [h1] at z; cases z
    rw [upd_ne hb]; exact S.h0 b x h1 h2
  · by_cases hb : b = a
    · subst hb; exact ⟨o, upd_same⟩
    · rw [upd_ne hb]; exact S.th b x h1
  · rcases set_get h with ⟨rfl, hq, hl⟩ | ⟨hj, hq⟩
    · cases hq; exact absurd rfl hf
    · exact S.fz j pv hq
  · rcases set_get h with ⟨rfl, hq, hl⟩ | ⟨hj, hq⟩
    · cases hq
      exact ⟨a, ea, e2, ho, e4, e5⟩
    · obtain ⟨b, k1, k2, k3, k4⟩ := S.own j pv f2 hq hf2
      have hb : b ≠ a := by
        rintro rfl
        exact hj (S.inj j i _ _ b hq hf2 e hf k1 ea)
      exact ⟨b, k1, k2, k3.mono (.refl _) fun x z => by rw [upd_ne hb]; exact z, k4⟩
  · rcases set_get h1 with ⟨rfl, hq, hl⟩ | ⟨hj, hq⟩
    · cases hq
      rcases set_get h2 with ⟨rfl, hr, hl⟩ | ⟨hk, hr⟩
      · rfl
      · exact S.inj _ _ _ _ b e hf hr f2 s1 s2
    · rcases set_get h2 with ⟨rfl, hr, hl⟩ | ⟨hk, hr⟩
      · cases hr; exact S.inj _ _ _ _ b hq f1 e hf s1 s2
      · exact S.inj j k q r b hq f1 hr f2 s1 s2
  · rcases set_get h with ⟨rfl, hq, hl⟩ | ⟨hj, hq⟩
    · cases hq; exact S.bo _ _ e
    · exact S.bo j pv hq
theorem lstAt_ok {i : Nat} {xs : List PV} {fl : Fl} (h : lstAt env i = some (xs, fl)) : env[i]? = some (some (.lst xs, fl)) ∧ fl ≠ .fz := by
  unfold lstAt at h
  split at h
  · rename_i h1; cases h; exact ⟨h1, by simp⟩
  · rename_i h1; cases h; exact ⟨h1, by simp⟩
  · cases h

/-! ### what a statement leaves -/
def VRr (g : Gx) (G : Ent) (F H : Hp) (r : PV × Fl) (v : V) : Prop :=
  match r.2 with
  | .fz => Rep g F r.1 v
  | .own => ∃ a, v = .ref a ∧ F a = none ∧ OwnR g F H r.1 a ∧ (G.Z a ∨ G.H a = none)
  | .bor => False
theorem VR.r {r : PV × Fl} {v : V} (h : VR g G env σ F H r v) : VRr g G F H r v := by
  obtain ⟨p, fl⟩ := r
  cases fl with
  | fz => exact h
  | own => obtain ⟨a, h1, h2, h3, h4, _⟩ := h; exact ⟨a, h1, h2, h3, .inr h4⟩
  | bor => exact h
def RS (g : Gx) (W : WX) (G : Ent) (D : Ends) : Fo → Prop
  | .nx e => ∀ σ F H, Sx g G e σ F H → D.nx σ H
  | .brk e => ∀ σ F H, Sx g G e σ F H → D.bk σ H
  | .cnt e => ∀ σ F H, Sx g G e σ F H → D.ct σ H
  | .ret r e => ∀ v σ F H, Sx g G e σ F H → VRr g G F H r v → D.rt v H
  | .exc x e => ∀ cls d σ F H, Sx g G e σ F H → XR g F H x cls d → W cls d σ H
  | .bad => False
def tS (g : Gx) (W : WX) (f : En → Fo) : TS := fun D σ H => ∃ G env F, Sx g G env σ F H ∧ RS g W G D (f env)
theorem RS.fo {α β : Type} {W : WX} {D : Ends} {F0 : Hp} {R : α → En → β → Hp → Hp → Prop} {m : Out α} {k : α → En → Fo} {Q : β → Hp → Prop} (h : RS g W G D (m.fo k))
    (f : ∀ a e b F H, Same F0 F → Sx g G e σ F H → R a e b F H → RS g W G D (k a e) → Q b H) : Rd g W G σ F0 R m Q := by
  cases m with
  | ok a e => exact fun b F H sm s r => f a e b F H sm s r h
  | exc x e => exact fun cls d F H sm s r => h cls d σ F H s r
  | bad => exact h
theorem Sx.gone (S : Sx g G env σ F H) {a : Addr} (h : H a = none) : G.H a = none := by
  cases w : G.H a with
  | none => rfl
  | some o => obtain ⟨o', e⟩ := S.th a o w; rw [h] at e; cases e
theorem RS.nar {W : WX} {D : Ends} {f : Fo} (S : Sx g G env σ F H) (h : RS g W G D f) : RS g W (nar env σ F H) D f := by
  cases f with
  | nx e => exact fun σ' F' H' s => h σ' F' H' (S.widen s)
  | brk e => exact fun σ' F' H' s => h σ' F' H' (S.widen s)
  | cnt e => exact fun σ' F' H' s => h σ' F' H' (S.widen s)
  | exc x e => exact fun c d σ' F' H' s => h c d σ' F' H' (S.widen s)
  | bad => exact h
  | ret r e =>
    refine fun v σ' F' H' s q => h v σ' F' H' (S.widen s) ?_
    obtain ⟨p, fl⟩ := r
    cases fl with
    | fz => exact q
    | bor => exact q
    | own =>
      obtain ⟨a, h1, h2, h3, h4⟩ := q
      refine ⟨a, h1, h2, h3, ?_⟩
      rcases h4 with ⟨i, p, k1, k2, k3⟩ | z
      · obtain ⟨b, e1, _, _, _, e5⟩ := S.own i p.1 p.2 k1 (by rw [k2]; simp)
        rw [k3] at e1; cases e1
        exact e5 k2
      · exact .inr (S.gone z)
theorem RS.turn {W : WX} {D : Ends} {k : En → Fo} {f : Fo} {Nx : L2.St → Hp → Prop} (h : RS g W G D (turnK k f)) (hn : ∀ e σ F H, Sx g G e σ F H → RS g W G D (k e) → Nx σ H) : RS g W G { D with nx := Nx, ct := Nx, bk := D.nx } f := by
  cases f with
  | nx e => exact fun σ F H s => hn e σ F H s h
  | cnt e => exact fun σ F H s => hn e σ F H s h
  | _ => exact h
end
theorem _root_.L2.PS.imp {X : Cx} {st : Stmt} {t t' : TS} (h : PS X st t) (k : ∀ D σ H, t' D σ H → t D σ H) : PS X st t' := ⟨fun pins s σ H D I q => h.run pins s σ H D I (k D σ H q)⟩
theorem _root_.L2.PSs.imp {X : Cx} {st : List Stmt} {t t' : TS} (h : PSs X st t) (k : ∀ D σ H, t' D σ H → t D σ H) : PSs X st t' := ⟨fun pins s σ H D I q => h.run pins s σ H D I (k D σ H q)⟩
theorem _root_.L2.PS.or {X : Cx} {st : Stmt} {t t' : TS} (h : PS X st t) (h' : PS X st t') : PS X st (fun D σ H => t D σ H ∨ t' D σ H) := ⟨fun pins s σ H D I q => q.elim (h.run pins s σ H D I) (h'.run pins s σ H D I)⟩
theorem sole_plain {v : Expr} (h : isLC v = false) (t : Expr) (l : Nat) (env : Env) : swapsWithSole [t] v l env = pure false := by
  show swapsWith v (some t) l env = _
  cases v <;> first | rfl | cases h
theorem swaps_plain {v : Expr} (h : isLC v = false) (t : Option Expr) (l : Nat) (env : Env) : swapsWith v t l env = pure false := by
  cases v <;> first | rfl | cases h
section
variable {X : Cx} {C : Cal} {W : WX} {N : List Str} {sc : Scope}
theorem snd_e {a : IE} {e : Expr} (K : Cok X C W N sc) (h : chkE N a sc e = true) : CE X C W a e := (snd_all (sizeOf a + 1)).1 a (by omega) N sc e h X C W K
theorem snd_a {a : IE} {es : List Expr} (K : Cok X C W N sc) (h : chkA N a sc es = true) : ArgsOk X C W a es := (snd_all (sizeOf a + 1)).2 a (by omega) N sc es h X C W K
theorem snd_i {it : IE} {tg iter : Expr} (K : Cok X C W N sc) (h : chkI N it sc tg iter = true) : PI X tg iter (tI (gx X) W (evIt C it)) := ci_all K h fun a e ha _ => snd_e K ha

/-- what a def's body asks, beyond the expressions' -/
structure Sok (X : Cx) (C : Cal) (W : WX) (N : List Str) (sc : Scope) : Prop extends Cok X C W N sc where
  kind : sc.kind = .function
  fn : ∀ x, X.fn x = true
  pass : PassesOwn (model X.prog X.w) X.A X.env X.xe
  hs : X.stack = X.env :: X.outer
  hf : X.env.frame = some X.env.locals
  hex : X.ex = []
theorem Sok.tr {X : Cx} {C : Cal} {W W' : WX} {N : List Str} {sc : Scope} (K : Sok X C W N sc) (pn : List (Addr × Obj)) (xe : Value → Shared → Prop) (tk : Takes (X.tr pn xe) W') (ps : PassesOwn (model X.prog X.w) X.A X.env xe) : Sok (X.tr pn xe) C W' N sc where
  hN := K.hN
  nd := K.nd
  hsc := K.hsc
  calm := K.calm
  units := K.units
  un2 := K.un2
  blt := K.blt
  tys := K.tys
  rng := K.rng
  enm := K.enm
  zip := K.zip
  takes := tk
  cst := K.cst
  cal := K.cal
  exc := K.exc
  exz := K.exz
  icl := K.icl
  isx := K.isx
  und := K.und
  kind := K.kind
  fn := K.fn
  pass := ps
  hs := K.hs
  hf := K.hf
  hex := K.hex

theorem ss_asg0 (K : Sok X C W N sc) {i : Nat} {x : Str} {a : IE} {v : Expr} {p pos : Pos} (hN : N[i]? = some x) (hl : locB sc (fun _ => true) x = true) (hv : isLC v = false) (ha : CE X C W a v) : PS X (.Assign [.Name x p] v pos) (tS (gx X) W (exec C (.asg i a))) := by
  obtain ⟨l1, l2⟩ := locB_ok K.toCok (fun x _ => K.fn x) hl
  refine (ps_set (i := i) (by rw [K.hN]; exact K.nd) (by rw [K.hN]; exact hN) l1 ha.1 (swaps_plain hv _ _ _) l2).imp fun D σ H q => ?_
  obtain ⟨G, env, F, S, r⟩ := q
  exact ⟨G, env, F, S, RS.fo r fun r e1 v F1 H1 sm S1 h1 q1 => q1 _ F1 H1 (S1.setV h1)⟩
theorem swaps_stay {env : Env} (hsc : env.scope = sc) {v : Expr} {x : Str} {p : Pos} (l : Nat) (h : stayLC sc x p v = true) : swapsWith v (some (.Name x p)) l env = pure false := by
  cases v <;> try (cases h; done)
  rename_i e gs scope pos
  have h' : swapLC sc x p (.ListComp e gs scope pos) = false := nott h
  unfold swapsWith
  simp only
  have hko : env.kindOf x = sc.names.lookup x := by unfold Env.kindOf; rw [hsc]
  rw [hko]
  dsimp only [swapLC] at h'
  have e2 : (Expr.ListComp e gs scope pos).pos.line = pos.line := rfl
  rw [e2]
  generalize sc.names.lookup x = o at h' ⊢
  cases o with
  | none => rw [show ((none : Option NameKind) == some .local) = false from rfl, Bool.and_false, Bool.false_and, Bool.false_and]
  | some k =>
    cases k
    case «local» =>
      rw [show ((some NameKind.local) == some .local) = true from rfl, Bool.and_true, Bool.and_assoc]
      dsimp only at h'
      rw [Bool.true_and] at h'
      rw [h', Bool.and_false]
    all_goals (rw [show ((some _ : Option NameKind) == some .local) = false from rfl, Bool.and_false, Bool.false_and, Bool.false_and])
theorem ss_asgS (K : Sok X C W N sc) {i : Nat} {x : Str} {a : IE} {v : Expr} {p pos : Pos} (hN : N[i]? = some x) (hl : locB sc (fun _ => true) x = true) (hv : stayLC sc x p v = true) (ha : CE X C W a v) : PS X (.Assign [.Name x p] v pos) (tS (gx X) W (exec C (.asg i a))) := by
  obtain ⟨l1, l2⟩ := locB_ok K.toCok (fun x _ => K.fn x) hl
  refine (ps_set (i := i) (by rw [K.hN]; exact K.nd) (by rw [K.hN]; exact hN) l1 ha.1 (swaps_stay K.hsc _ hv) l2).imp fun D σ H q => ?_
  obtain ⟨G, env, F, S, r⟩ := q
  exact ⟨G, env, F, S, RS.fo r fun r e1 v F1 H1 sm S1 h1 q1 => q1 _ F1 H1 (S1.setV h1)⟩
theorem ss_asgL (K : Sok X C W N sc) {i : Nat} {x : Str} {a : IE} {v : Expr} {p pos : Pos} (hN : N[i]? = some x) (hl : locB sc (fun _ => true) x = true) (hv : swapLC sc x p v = true) (hc : chkE N a sc v = true) : PS X (.Assign [.Name x p] v pos) (tS (gx X) W (exec C (.asg i a))) := by
  cases v <;> try (cases hv; done)
  rename_i e gens scope lpos
  cases a <;> try (cases hc; done)
  rename_i own g it cond elt
  match gens, hc with
  | [⟨tg, iter, ifs, ay⟩], hc =>
    obtain ⟨c1, h8⟩ := band hc
    obtain ⟨c2, h7⟩ := band c1
    obtain ⟨c3, h6⟩ := band c2
    obtain ⟨c4, h5⟩ := band c3
    obtain ⟨c5, h4⟩ := band c4
    obtain ⟨c6, h3⟩ := band c5
    obtain ⟨c7, h2⟩ := band c6
    obtain ⟨h0, h1⟩ := band c7
    have h0' : ay = 0 := of_decide_eq_true h0
    subst h0'
    have hI : chkI N it sc tg iter = true := h1
    have ho : (ownOf N own).map (·.2) = own := of_decide_eq_true h3
    obtain ⟨v12, v3⟩ := band hv
    obtain ⟨v1, v2⟩ := band v12
    have hloc : sc.names.lookup x = some .local := by
      split at v1
      · assumption
      · cases v1
    have K' := K.toCok
    have hs' : ∀ x, foldedSetIterable iter X.env x = pure x := fun x => by
      have h8' := nott h8
      cases iter <;> first | rfl | cases h8'
    have te : ∀ (s : Shared) (H : Hp) (D : Addr) (cl : List (Str × Addr)) (fp : List Addr), PE (X.blk s H scope (compEnvC scope cl D X.env) fp) e (tE (gx X) W0 (ev C elt).1) := fun s H D cl fp => (snd_e (K'.blk s H scope cl D fp) h7).1
    have tt : ∀ (s : Shared) (H : Hp) (D : Addr) (cl : List (Str × Addr)) (fp : List Addr), PTs (X.blk s H scope (compEnvC scope cl D X.env) fp) ifs (tT (gx X) W0 (ev C cond).2) := fun s H D cl fp => pts_of (K'.blk s H scope cl D fp) h6 fun e he => snd_e (K'.blk s H scope cl D fp) he
    have tg' : ∀ (s : Shared) (H : Hp) (D : Addr) (cl : List (Str × Addr)) (fp : List Addr), PG (X.blk s H scope (compEnvC scope cl D X.env) fp) tg (tGt (gx X) g) := fun s H D cl fp => cg_ok (K'.blk s H scope cl D fp) (fun x hx => hx) h5
    refine (ps_setLc (i := i) (own := ownOf N own) K.calm (by rw [K.hN]; exact K.nd) (by rw [K.hN]; exact hN) (by rw [K.hsc]; exact hloc) (sw_true (by rw [K.hsc]; exact K.kind) (by rw [K.hsc]; exact hloc) v2 (nott v3)) (snd_i K' hI) (blkOk_by (by rw [K.hN, K.hsc]; exact h2))
      tg' tt te hs').imp fun D σ H q => ?_
    rw [ho]
    obtain ⟨G, env, F, S, r⟩ := q
    refine lc_imp (subSet_ok h4) σ H _ ⟨G, env, F, S, RS.fo r fun r e1 v F1 H1 sm S1 h1 q1 => q1 _ F1 H1 (S1.setV h1)⟩
theorem ss_unp (K : Sok X C W N sc) {is : List Nat} {ts : List Expr} {a : IE} {v : Expr} {k : Nat} {p pos : Pos} (hn : chkNames N sc (fun _ => true) is ts = true) (hw : swapOf sc ts v = some none) (hv : isLC v = false) (ha : CE X C W a v) : PS X (.Assign [.Tuple ts k p] v pos) (tS (gx X) W (exec C (.unp is a))) := by
  have pg : PG X (.Tuple ts k p) (tGt (gx X) (.tup is)) := cg_ok K.toCok (fnb := fun _ => true) (fun x _ => K.fn x) (ig := .tup is) hn
  refine (ps_asg ha.1 pg (sole_plain hv _ _ _) (swap_eq K.hsc K.kind hw)).imp fun D σ H q => ?_
  obtain ⟨G, env, F, S, r⟩ := q
  refine ⟨G, env, F, S, RS.fo r fun r e1 v F1 H1 sm S1 h1 q1 => ?_⟩
  obtain ⟨F2, S2, r2, sm2⟩ := S1.fix h1
  split at q1
  · rename_i e2 he
    exact ⟨G, e1, F2, _, e2, S2, r2, he, fun σ' S' _ _ => q1 σ' F2 H1 S'⟩
  · exact q1.elim
theorem ss_par2 (K : Sok X C W N sc) {i j : Nat} {x y : Str} {a b : Expr} {es : IE} {px py pt pos : Pos} {kt k2 : Nat} {p2 : Pos} (hi : N[i]? = some x) (hj : N[j]? = some y) (hij : i ≠ j) (hx : sc.names.lookup x = some .local) (hy : sc.names.lookup y = some .local)
    (hw : swapOf sc [.Name x px, .Name y py] (.Tuple [a, b] k2 p2) = some (some [x, y])) (ha : PA X [a, b] (tF (gx X) W (evF C es))) : PS X (.Assign [.Tuple [.Name x px, .Name y py] kt pt] (.Tuple [a, b] k2 p2) pos) (tS (gx X) W (exec C (.par [i, j] es))) := by
  refine (ps_par (i := i) (j := j) K.calm (by rw [K.hN]; exact K.nd) (by rw [K.hN]; exact hi) (by rw [K.hN]; exact hj) hij (by rw [K.hsc]; exact hx) (by rw [K.hsc]; exact hy) ha (swap_eq K.hsc K.kind hw)).imp fun D σ H q => ?_
  obtain ⟨G, env, F, S, r⟩ := q
  refine ⟨G, env, F, S, RS.fo r fun ps e1 vs F1 H1 sm S1 h1 q1 => ?_⟩
  split at q1
  · rename_i hl
    match ps, hl with
    | [p, q], _ =>
      obtain ⟨v, vr, rfl, r1, w, wr, rfl, r2, rfl⟩ := h1
      exact ⟨v, w, rfl, q1 _ F1 H1 ((S1.setFz r1).setFz r2)⟩
  · exact q1.elim
theorem ss_par3 (K : Sok X C W N sc) {i j l : Nat} {x y z : Str} {a b c : Expr} {es : IE} {px py pz pt pos : Pos} {kt k2 : Nat} {p2 : Pos} (hi : N[i]? = some x) (hj : N[j]? = some y) (hl : N[l]? = some z) (hij : i ≠ j) (hil : i ≠ l) (hjl : j ≠ l) (hx : sc.names.lookup x = some .local) (hy : sc.names.lookup y = some .local) (hz : sc.names.lookup z = some .local)
    (hw : swapOf sc [.Name x px, .Name y py, .Name z pz] (.Tuple [a, b, c] k2 p2) = some (some [x, y, z])) (ha : PA X [a, b, c] (tF (gx X) W (evF C es))) : PS X (.Assign [.Tuple [.Name x px, .Name y py, .Name z pz] kt pt] (.Tuple [a, b, c] k2 p2) pos) (tS (gx X) W (exec C (.par [i, j, l] es))) := by
  refine (ps_par3 (i := i) (j := j) (l := l) K.calm (by rw [K.hN]; exact K.nd) (by rw [K.hN]; exact hi) (by rw [K.hN]; exact hj) (by rw [K.hN]; exact hl) hij hil hjl (by rw [K.hsc]; exact hx) (by rw [K.hsc]; exact hy) (by rw [K.hsc]; exact hz) ha (swap_eq K.hsc K.kind hw)).imp fun D σ H q => ?_
  obtain ⟨G, env, F, S, r⟩ := q
  refine ⟨G, env, F, S, RS.fo r fun ps e1 vs F1 H1 sm S1 h1 q1 => ?_⟩
  split at q1
  · rename_i hl
    match ps, hl with
    | [p, q, o], _ =>
      obtain ⟨v, vr, rfl, r1, w, wr, rfl, r2, u, ur, rfl, r3, rfl⟩ := h1
      exact ⟨v, w, u, rfl, q1 _ F1 H1 (((S1.setFz r1).setFz r2).setFz r3)⟩
  · exact q1.elim
theorem dctAt_ok {i : Nat} {d : PV} {fl : Fl} (h : dctAt env i = some (d, fl)) : env[i]? = some (some (d, fl)) ∧ fl ≠ .fz ∧ lstAt env i = none := by
  unfold dctAt at h
  split at h
  all_goals first | (cases h; done) | (rename_i e; cases h; refine ⟨e, by decide, ?_⟩; unfold lstAt; rw [e])
theorem set_any {X : Cx} (hu : X.A.units + 1 < cLine) : PSet X (fun o i v H Q => rSetL o i v H Q ∨ ∃ (a : Addr) (H' : Hp), o = .ref a ∧ DPut H a i v H' ∧ Q H') := by
  intro pins s σ H o i v ov iv u Q I ro ri rv h
  rcases h with h | ⟨a, H', rfl, g, q⟩
  · exact set_list pins s σ H o i v ov iv u Q I ro ri rv h
  · obtain rfl : ov = Value.ref a := ro
    exact d_setItem hu I g ri rv fun s' I' => ⟨H', I', q⟩
theorem ss_seti (K : Sok X C W N sc) {i : Nat} {x : Str} {ix a : IE} {j v : Expr} {px p pos : Pos} (hN : N[i]? = some x) (hv : visB sc x = true) (hj : PE X j (tO (gx X) W (opd ix (ev C ix).1))) (hs : isSliceX j = false) (ha : CE X C W a v) (hlc : isLC v = false) :
    PS X (.Assign [.Subscript (.Name x px) j p] v pos) (tS (gx X) W (exec C (.seti i ix a))) := by
  obtain ⟨v1, v2, v3⟩ := K.vis hv
  have pv : PE X (.Name x px) (tVar i) := pe_var (by rw [K.hN]; exact hN) v1 v2 v3
  have pg : PG X (.Subscript (.Name x px) j p) (gSub (tVar i) (tO (gx X) W (opd ix (ev C ix).1)) (fun o i v H Q => rSetL o i v H Q ∨ ∃ (a : Addr) (H' : Hp), o = .ref a ∧ DPut H a i v H' ∧ Q H')) := pg_sub pv hj (set_any (by have := K.units; omega)) (by cases j <;> first | (intro _; rfl; done) | (cases hs; done))
  have hsw : swappedStores [.Subscript (.Name x px) j p] v X.env = pure none := by unfold swappedStores; rfl
  refine (ps_asg ha.1 pg (sole_plain hlc _ _ _) hsw).imp fun D σ H q => ?_
  obtain ⟨G, env, F, S, r⟩ := q
  refine ⟨G, env, F, S, RS.fo r fun r e1 v F1 H1 sm S1 h1 q1 => ?_⟩
  obtain ⟨F2, S2, r2, sm2⟩ := S1.fix h1
  split at q1
  case isFalse =>
    split at q1
    case isFalse => exact q1.elim
    rename_i hds
    obtain ⟨⟨d0, fl⟩, hds⟩ := Option.isSome_iff_exists.mp hds
    obtain ⟨l1, l2, _⟩ := dctAt_ok hds
    obtain ⟨c, k1, _⟩ := S2.own i _ fl l1 l2
    refine ⟨.ref c, k1, G, e1, F2, S2, RS.fo q1 fun o e2 u F3 H3 sm3 S3 h3 q3 => ?_⟩
    unfold setDctE at q3
    split at q3
    · exact q3.elim
    rename_i d1 fl2 hds2
    obtain ⟨m1, m2, _⟩ := dctAt_ok hds2
    split at q3
    case h_2 => exact q3.elim
    rename_i d2 hput
    obtain ⟨kp, hk1, hk2⟩ := Option.bind_eq_some_iff.mp hput
    have hu := S3.rs hk1 h3
    obtain ⟨d, n1, n2, ow, _⟩ := S3.own i _ fl2 m1 m2
    rw [k1] at n1; cases n1
    unfold dPutP at hk2
    split at hk2
    · rename_i ks xs
      obtain ⟨kk, e4, e5⟩ := Option.bind_eq_some_iff.mp hk2
      obtain ⟨ws, n3, n4, n5⟩ := ow
      have lw := n5.length
      split at e5
      case isFalse => cases e5
      rename_i hlen
      cases e5
      obtain rfl := keyOf_rep e4 hu
      refine .inr ⟨c, _, rfl, DPut.k n3 (by rw [List.length_zip]; omega), ?_⟩
      rw [putK_zip (by omega)]
      exact q3 σ F3 _ (S3.chg m1 m2 k1 ⟨dPutX ks ws kk v, upd_same, by rw [dPut_len n4], dPut_reps n5 kk (r2.mono sm3)⟩)
    · rename_i ks xs
      obtain ⟨kk, e4, e5⟩ := Option.bind_eq_some_iff.mp hk2
      obtain ⟨ws, n3, n4, n5⟩ := ow
      have lw := n5.length
      split at e5
      case isFalse => cases e5
      rename_i hlen
      cases e5
      obtain ⟨b, rfl, hb⟩ := tkeyOf_rep e4 hu
      refine .inr ⟨c, _, rfl, DPut.t n3 (S3.sub _ _ hb) (by rw [List.length_zip]; omega), ?_⟩
      rw [putK_zip (by omega)]
      exact q3 σ F3 _ (S3.chg m1 m2 k1 ⟨dPutX ks ws kk v, upd_same, by rw [dPut_len n4], dPut_reps n5 kk (r2.mono sm3)⟩)
    · cases hk2
  rename_i hls
  obtain ⟨⟨xs, fl⟩, hls⟩ := Option.isSome_iff_exists.mp hls
  obtain ⟨l1, l2⟩ := lstAt_ok hls
  obtain ⟨c, k1, _⟩ := S2.own i _ fl l1 l2
  refine ⟨.ref c, k1, G, e1, F2, S2, RS.fo q1 fun o e2 u F3 H3 sm3 S3 h3 q3 => ?_⟩
  unfold setItemE at q3
  split at q3
  · exact q3.elim
  rename_i ys fl2 hls2
  obtain ⟨m1, m2⟩ := lstAt_ok hls2
  split at q3
  case h_2 => exact q3.elim
  rename_i kk hkk
  split at q3
  case h_2 => exact q3.elim
  rename_i jj hjj
  have hu := S3.rs hkk h3
  obtain ⟨d, n1, n2, ⟨ws, n3, n4⟩, _⟩ := S3.own i _ fl2 m1 m2
  rw [k1] at n1; cases n1
  have hu' : u = .int kk := hu
  subst hu'
  refine .inl ⟨c, ws, kk, jj, rfl, rfl, n3, by rw [n4.length]; exact hjj, q3 σ F3 _ (S3.chg m1 m2 k1 ⟨ws.set jj v, upd_same, n4.set jj (r2.mono sm3)⟩)⟩
theorem swap_sub2 {a b c d v : Expr} {p q r : Pos} {n : Nat} {env : Env} : swappedStores [.Tuple [.Subscript a b p, .Subscript c d q] n r] v env = pure none := by
  unfold swappedStores
  cases v with
  | Tuple vs m pos =>
    dsimp only
    cases h1 : (vs.length != [Expr.Subscript a b p, Expr.Subscript c d q].length) <;> cases h2 : (env.blockKind != .function) <;> cases h3 : (vs.any fun | .Starred .. => true | _ => false) <;> first | rfl | (simp [h1, h2, h3]; done)
  | _ => rfl
theorem key_sub {k : Key} {e : Expr} (h : cKey k e = true) {pos : Pos} {o : Expr} (env : Env) : ∀ v, assign (.Subscript o e pos) env v = (do
      let ov ← holding [v] (eval o env)
      let iv ← holding [v, ov] (eval e env)
      standAt pos
      holding [v, ov, iv] (setItem ov iv v)
      release [v, ov, iv] []) := by
  cases e <;> first | (intro _; rfl; done) | (cases h; done)
theorem val_star {x : PV} {e : Expr} (h : cPVe x e = true) : isStar e = false := by
  cases e <;> first | rfl | (cases x <;> cases h; done)
theorem ss_putc (K : Sok X C W N sc) {i : Nat} {k1 k2 : Key} {x1 x2 : PV} {x : Str} {e1 e2 v1 v2 : Expr} {p1 p2 p3 p4 p5 p6 p7 : Pos} {n m : Nat} (hN : N[i]? = some x) (hv : visB sc x = true) (h1 : cKey k1 e1 = true) (h2 : cKey k2 e2 = true) (h3 : cPVe x1 v1 = true) (h4 : cPVe x2 v2 = true) :
    PS X (.Assign [.Tuple [.Subscript (.Name x p1) e1 p2, .Subscript (.Name x p3) e2 p4] n p5] (.Tuple [v1, v2] m p6) p7) (tS (gx X) W (exec C (.putc i k1 x1 k2 x2))) := by
  obtain ⟨u1, u2, u3⟩ := K.vis hv
  have pv : ∀ {p : Pos}, PE X (.Name x p) (tVar i) := pe_var (by rw [K.hN]; exact hN) u1 u2 u3
  obtain ⟨w1, a1, b1⟩ := val_pe (X := X) h3
  obtain ⟨w2, a2, b2⟩ := val_pe (X := X) h4
  have hu : X.A.units + 1 < cLine := by have := K.units; omega
  have g1 := pg_sub (pos := p2) (pv (p := p1)) (key_pe (X := X) h1) (set_any hu) (key_sub h1 X.env)
  have g2 := pg_sub (pos := p4) (pv (p := p3)) (key_pe (X := X) h2) (set_any hu) (key_sub h2 X.env)
  have pg := pg_tup (pos := p5) (k := n) K.calm (pgs_cons g1 (pgs_cons g2 pgs_nil))
  have pe := pe_tup (pos := p6) (x1 := m) (pa_cons a1 (pa_cons a2 pa_nil (star_cons X.env [] (val_star h4))) (star_cons X.env [v2] (val_star h3)))
  refine (ps_asg pe pg (sole_plain (by rfl) _ _ _) swap_sub2).imp fun D σ H q => ?_
  obtain ⟨G, env, F, S, r⟩ := q
  have r' : RS (gx X) W G D (match dctAt env i with
    | some (.dk ks xs, fl) => if ks.length + 1 < sizeLine then .nx ((env.set i (some (.dk (dPutK ks k1) (dPutX ks xs k1 x1), fl))).set i (some (.dk (dPutK (dPutK ks k1) k2) (dPutX (dPutK ks k1) (dPutX ks xs k1 x1) k2 x2), fl))) else .bad
    | _ => .bad) := r
  split at r'
  case h_2 => exact r'.elim
  rename_i ks xs fl hds
  split at r'
  case isFalse => exact r'.elim
  rename_i hlen
  obtain ⟨l1, l2, _⟩ := dctAt_ok hds
  obtain ⟨c, k1', hF, ⟨ws, n3, n4, n5⟩, _⟩ := S.own i _ fl l1 l2
  have lw := n5.length
  refine ⟨by show 2 ≤ sizeLine; decide, fun p hp => ⟨p, [w1, w2], rfl, .inl (.inl upd_same), rfl, ?_⟩⟩
  have hcp : c ≠ p := ne_of_none n3 hp
  have nw : New F H (upd F p (.tup [w1, w2])) (upd H p (.tup [w1, w2])) := New.fix S.sub hp
  have S1 := S.grow nw.sF nw.sH nw.sub nw.nf
  have n3' : upd H p (.tup [w1, w2]) c = some (.dK (ks.zip ws)) := by rw [upd_ne hcp]; exact n3
  have n5' := Reps.mono nw.sF xs n5
  refine ⟨w1, [w2], rfl, .ref c, k1', .inr ⟨c, _, rfl, DPut.k n3' (by rw [List.length_zip]; omega), ?_⟩⟩
  rw [putK_zip (by omega)]
  have S2 := S1.chg (o := .dK ((dPutK ks k1).zip (dPutX ks ws k1 w1))) (p' := .dk (dPutK ks k1) (dPutX ks xs k1 x1)) l1 l2 k1' ⟨dPutX ks ws k1 w1, upd_same, by rw [dPut_len n4], dPut_reps n5' k1 (b1 _)⟩
  have l3 : (env.set i (some (PV.dk (dPutK ks k1) (dPutX ks xs k1 x1), fl)))[i]? = some (some (PV.dk (dPutK ks k1) (dPutX ks xs k1 x1), fl)) := by
    rw [List.getElem?_set_self (List.getElem?_eq_some_iff.mp l1).1]
  have e1l := dPut_len (xs := xs) n4 k1 x1
  have e2l := dPut_len (ks := ks) (xs := ws) (by omega) k1 w1
  refine ⟨w2, [], rfl, .ref c, k1', .inr ⟨c, _, rfl, DPut.k upd_same ?_, ?_⟩⟩
  · rw [List.length_zip]
    have : (dPutK ks k1).length ≤ ks.length + 1 := by unfold dPutK; split <;> simp
    omega
  rw [putK_zip (by omega)]
  have n6' := Reps.mono nw.sF _ (dPut_reps (ks := ks) n5 k1 (b1 F))
  exact ⟨rfl, r' σ _ _ (S2.chg (o := .dK ((dPutK (dPutK ks k1) k2).zip (dPutX (dPutK ks k1) (dPutX ks ws k1 w1) k2 w2))) (p' := .dk (dPutK (dPutK ks k1) k2) (dPutX (dPutK ks k1) (dPutX ks xs k1 x1) k2 x2)) l3 l2 k1' ⟨dPutX (dPutK ks k1) (dPutX ks ws k1 w1) k2 w2, upd_same, by rw [dPut_len e1l], dPut_reps n6' k2 (b2 _)⟩)⟩
theorem ss_app (K : Sok X C W N sc) {i : Nat} {x m : Str} {a : IE} {v : Expr} {px ap cp pos : Pos} (hm : m = "append") (hN : N[i]? = some x) (hv : visB sc x = true) (hs : isStar v = false) (hl : (ap.endLine == cp.line) = true) (ha : CE X C W a v) :
    PS X (.Expr (.Call (.Attribute (.Name x px) m ap) [v] [] cp) pos) (tS (gx X) W (exec C (.app i a))) := by
  subst hm
  obtain ⟨v1, v2, v3⟩ := K.vis hv
  have pv : PE X (.Name x px) (tVar i) := pe_var (by rw [K.hN]; exact hN) v1 v2 v3
  have st := star_cons X.env (e := v) [] hs
  have pa : PA X [v] (tCons (tE (gx X) W (ev C a).1) tNil) := pa_cons ha.1 pa_nil st
  have hfew : ((backTo cp (starEach [v] X.env)).all (fun x => !x.1) && (backToKw cp (keywordEach [] X.env)).all (fun x => x.1.isSome) && decide ([v].length + ([] : List Keyword).length + (if ([] : List Keyword).isEmpty then 0 else 1) < 30)) = true := by
    rw [st]; rfl
  refine (ps_expr (pe_bm F.plainAttrs_list F.slot_list_append F.type_list_append mt_append pv pa rfl hfew hl st rfl)).imp fun D σ H q => ?_
  obtain ⟨G, env, F, S, r⟩ := q
  have r' : RS (gx X) W G D (if (lstAt env i).isSome then ((ev C a).1 env).fo fun r e1 => appE i r.1 e1 else .bad) := r
  split at r'
  case isFalse => exact r'.elim
  rename_i hls
  obtain ⟨⟨xs, fl⟩, hls⟩ := Option.isSome_iff_exists.mp hls
  obtain ⟨l1, l2⟩ := lstAt_ok hls
  obtain ⟨c, k1, _, ⟨vs, k3, _⟩, _⟩ := S.own i _ fl l1 l2
  refine ⟨.ref c, k1, .inl ⟨rfl, vs, .inl (.inl k3)⟩, G, env, F, S, RS.fo r' fun o e1 u F1 H1 sm S1 h1 q1 => ?_⟩
  obtain ⟨F2, S2, r2, sm2⟩ := S1.fix h1
  unfold appE at q1
  split at q1
  · exact q1.elim
  rename_i ys fl2 hls2
  obtain ⟨m1, m2⟩ := lstAt_ok hls2
  split at q1
  case isFalse => exact q1.elim
  rename_i hlen
  obtain ⟨d, n1, n2, ⟨ws, n3, n4⟩, _⟩ := S2.own i _ fl2 m1 m2
  rw [k1] at n1; cases n1
  exact ⟨c, ws, u, rfl, rfl, n3, by rw [n4.length]; exact hlen, q1 σ F2 _ (S2.chg m1 m2 k1 ⟨ws ++ [u], upd_same, n4.snoc r2⟩)⟩
theorem ss_expr (K : Sok X C W N sc) {a : IE} {v : Expr} {pos : Pos} (hv : isLC v = false) (ha : CE X C W a v) : PS X (.Expr v pos) (tS (gx X) W (exec C (.expr a))) := by
  refine (ps_expr ha.1 (swaps_plain hv _ _ _)).imp fun D σ H q => ?_
  obtain ⟨G, env, F, S, r⟩ := q
  exact ⟨G, env, F, S, RS.fo r fun r e1 v F1 H1 sm S1 h1 q1 => q1 σ F1 H1 S1⟩
theorem ss_ret0 {a : IE} {v : Expr} {pos : Pos} (ha : CE X C W a v) : PS X (.Return (some v) pos) (tS (gx X) W fun e => ((ev C a).1 e).fo fun r e1 => .ret r e1) := by
  refine (ps_ret ha.1).imp fun D σ H q => ?_
  obtain ⟨G, env, F, S, r⟩ := q
  exact ⟨G, env, F, S, RS.fo r fun r e1 v F1 H1 sm S1 h1 q1 => q1 v σ F1 H1 S1 h1.r⟩
theorem ss_ret (K : Sok X C W N sc) {a : IE} {v : Expr} {pos : Pos} (hc : chkE N a sc v = true) (ha : CE X C W a v) : PS X (.Return (some v) pos) (tS (gx X) W (exec C (.ret a))) := by
  by_cases hi : ∃ i, a = .var i
  · obtain ⟨i, rfl⟩ := hi
    cases v <;> try (cases hc; done)
    rename_i x px
    obtain ⟨h1, h2⟩ := band (show (decide (N[i]? = some x) && visB sc x) = true from hc)
    obtain ⟨v1, v2, v3⟩ := K.vis h2
    have pv : PE X (.Name x px) (tVar i) := pe_var (by rw [K.hN]; exact of_decide_eq_true h1) v1 v2 v3
    refine ((ps_ret pv).or (ss_ret0 ha)).imp fun D σ H q => ?_
    obtain ⟨G, env, F, S, r⟩ := q
    have r' : RS (gx X) W G D (match env[i]? with
      | some (some (p, .own)) => .ret (p, .own) (env.set i none)
      | _ => ((ev C (.var i)).1 env).fo fun r e1 => .ret r e1) := r
    split at r'
    · rename_i p hp
      obtain ⟨c, k1, k2, k3, k4, k5⟩ := S.own i _ _ hp (by simp)
      exact .inl ⟨.ref c, k1, r' _ σ F H (S.forget i) ⟨c, rfl, k2, k3, k5 rfl⟩⟩
    · exact .inr ⟨G, env, F, S, r'⟩
  · have e : exec C (.ret a) = fun e => ((ev C a).1 e).fo fun r e1 => .ret r e1 := by
      cases a <;> first | rfl | exact absurd ⟨_, rfl⟩ hi
    rw [e]
    exact ss_ret0 ha
theorem ss_if {c : IE} {a b : IS} {t : Expr} {x y : List Stmt} {pos : Pos} (hc : CE X C W c t) (ha : PSs X x (tS (gx X) W (exec C a))) (hb : PSs X y (tS (gx X) W (exec C b))) : PS X (.If t x y pos) (tS (gx X) W (exec C (.ife c a b))) := by
  refine (ps_if hc.2 ha hb).imp fun D σ H q => ?_
  obtain ⟨G, env, F, S, r⟩ := q
  refine ⟨G, env, F, S, RS.fo r fun k e1 k' F1 H1 sm S1 h1 q1 => ?_⟩
  have h1' : k' = k := h1
  subst h1'
  cases k' with
  | true => rw [if_pos rfl]; exact ⟨G, e1, F1, S1, q1⟩
  | false => rw [if_neg (by simp)]; exact ⟨G, e1, F1, S1, q1⟩
theorem ss_while (K : Sok X C W N sc) {n : Nat} {c : IE} {b : IS} {t : Expr} {body : List Stmt} {pos : Pos} (hc : CE X C W c t) (hb : PSs X body (tS (gx X) W (exec C b))) : PS X (.While t body [] pos) (tS (gx X) W (exec C (.whl n c b))) := by
  refine (ps_while K.pass hc.2 hb).imp fun D σ H q => ?_
  obtain ⟨G, env, F, S, r⟩ := q
  refine ⟨fun m σ H => ∃ e F, Sx (gx X) G e σ F H ∧ RS (gx X) W G D (whileLoop (ev C c).2 (exec C b) m e), ⟨n, env, F, S, r⟩, ?_⟩
  rintro m σ1 H1 ⟨e, F1, S1, r1⟩
  cases m with
  | zero => exact r1.elim
  | succ m =>
    refine ⟨G, e, F1, S1, RS.fo (show RS (gx X) W G D (((ev C c).2 e).fo fun k e1 => if k then turnK (whileLoop (ev C c).2 (exec C b) m) (exec C b e1) else .nx e1) from r1) fun k e2 k' F2 H2 sm S2 h2 q2 => ?_⟩
    have h2' : k' = k := h2
    subst h2'
    cases k' with
    | true =>
      rw [if_pos rfl]
      refine ⟨fun σ H => ∃ e F, Sx (gx X) G e σ F H ∧ RS (gx X) W G D (whileLoop (ev C c).2 (exec C b) m e), fun σ' H' h => ⟨m, by omega, h⟩, G, e2, F2, S2, ?_⟩
      exact RS.turn q2 fun e σ F H s r => ⟨e, F, s, r⟩
    | false => rw [if_neg (by simp)]; exact q2 σ1 F2 H2 S2
theorem ss_for (K : Sok X C W N sc) {ig : IG} {it : IE} {b : IS} {tg iter : Expr} {body : List Stmt} {pos : Pos} (hi : PI X tg iter (tI (gx X) W (evIt C it))) (hg : PG X tg (tGt (gx X) ig)) (hs : isSetX iter = false) (hb : PSs X body (tS (gx X) W (exec C b))) :
    PS X (.For tg iter body [] pos) (tS (gx X) W (exec C (.loop ig it b))) := by
  have hs' : ∀ x, foldedSetIterable iter X.env x = pure x := fun x => by cases iter <;> first | rfl | cases hs
  refine (ps_for K.pass K.calm hi hg hb hs').imp fun D σ H q => ?_
  obtain ⟨G, env, F, S, r⟩ := q
  refine ⟨G, env, F, S, RS.fo r fun xs e1 J F1 H1 sm1 S1 h1 q1 => ?_⟩
  have q1' := RS.nar S1 q1
  generalize hG : nar e1 σ F1 H1 = G1 at q1'
  have S1n : Sx (gx X) G1 e1 σ F1 H1 := by rw [← hG]; exact S1.narrow
  have f1 : G1.F = F1 := by rw [← hG]; rfl
  let Iv : Nat → L2.St → Hp → Prop := fun i σ H => ∃ e F, Sx (gx X) G1 e σ F H ∧ RS (gx X) W G1 D (forLoop ig (exec C b) (xs.drop i) e)
  refine ⟨fun i m σ H => m = xs.length - i ∧ i ≤ xs.length ∧ Iv i σ H, ⟨xs.length, by simp, Nat.zero_le _, e1, F1, S1n, by simpa using q1'⟩, ?_⟩
  rintro i m σ3 H3 ⟨rfl, hle, e, F3, S3, q3⟩
  have sm3 : Same F1 F3 := by rw [← f1]; exact S3.f0
  by_cases hlt : i < xs.length
  · have hx : xs[i]? = some xs[i] := List.getElem?_eq_getElem hlt
    obtain ⟨hgo, hyl⟩ := (h1 F3 H3 sm3 S3.sub).1 i _ hx
    rw [List.drop_eq_getElem_cons hlt] at q3
    refine .inr ⟨hgo, Iv (i + 1), fun σ' H' hI => ⟨xs.length - (i + 1), by omega, rfl, hlt, hI⟩, fun x H' hx' => ?_⟩
    obtain ⟨F4, n4, r4⟩ := hyl x H' hx'
    have S4 := S3.grow n4.sF n4.sH n4.sub n4.nf
    have q3' : RS (gx X) W G1 D (match setG ig xs[i] e with
      | none => .bad
      | some e1 => turnK (forLoop ig (exec C b) (xs.drop (i + 1))) (exec C b e1)) := q3
    split at q3'
    · exact q3'.elim
    · rename_i e5 hset
      refine ⟨G1, e, F4, _, e5, S4, r4, hset, fun σ2 S5 hl2 hj2 => ⟨G1, e5, F4, S5, ?_⟩⟩
      exact RS.turn q3' fun e σ F H s r => ⟨e, F, s, r⟩
  · have hi' : i = xs.length := by omega
    subst hi'
    rw [List.drop_length] at q3
    exact .inl ⟨(h1 F3 H3 sm3 S3.sub).2, q3 σ3 F3 H3 S3⟩
theorem ss_seq {a b : IS} {st : Stmt} {sts : List Stmt} (ha : PS X st (tS (gx X) W (exec C a))) (hb : PSs X sts (tS (gx X) W (exec C b))) : PSs X (st :: sts) (tS (gx X) W (exec C (.seq a b))) := by
  refine (pss_cons ha hb).imp fun D σ H q => ?_
  obtain ⟨G, env, F, S, r⟩ := q
  refine ⟨G, env, F, S, ?_⟩
  have r' : RS (gx X) W G D ((exec C a env).andThen (exec C b)) := r
  cases h : exec C a env with
  | nx e =>
    rw [h] at r'
    exact fun σ1 F1 H1 S1 => ⟨G, e, F1, S1, r'⟩
  | _ => rw [h] at r'; exact r'
theorem Sx.junk {g : Gx} {G : Ent} {env : En} {σ : L2.St} {F H : Hp} (S : Sx g G env σ F H) (i : Nat) (v : Option V) : Sx g G (env.set i none) (σ.set i v) F H := by
  have ne : ∀ {j : Nat} {q : PV × Fl}, (env.set i none)[j]? = some (some q) → j ≠ i ∧ env[j]? = some (some q) := fun {j q} h => by
    rcases set_get h with ⟨_, hq, _⟩ | ⟨hj, hq⟩
    · cases hq
    · exact ⟨hj, hq⟩
  have sg : ∀ {j : Nat}, j ≠ i → (σ.set i v)[j]? = σ[j]? := fun hj => List.getElem?_set_ne (Ne.symm hj)
  refine ⟨S.sub, S.f0, S.h0, S.nf, S.th, by simpa using S.len, fun j pv h => ?_, fun j pv fl h hf => ?_, fun j k q r b h1 f1 h2 f2 s1 s2 => ?_, fun j pv h => ?_⟩
  · obtain ⟨hj, hq⟩ := ne h; rw [sg hj]; exact S.fz j pv hq
  · obtain ⟨hj, hq⟩ := ne h; rw [sg hj]; exact S.own j pv fl hq hf
  · obtain ⟨hj, hq⟩ := ne h1
    obtain ⟨hk, hr⟩ := ne h2
    rw [sg hj] at s1; rw [sg hk] at s2
    exact S.inj j k q r b hq f1 hr f2 s1 s2
  · obtain ⟨hj, hq⟩ := ne h; rw [sg hj]; exact S.bo j pv hq
theorem ss_raise (K : Sok X C W N sc) {c : Str} {a : IE} {e : Expr} {p pos pos' : Pos} (hg : glB sc c = true) (hs : isStar e = false) (ha : CE X C W a e) : PS X (.Raise (some (.Call (.Name c p) [e] [] pos)) none pos') (tS (gx X) W (exec C (.raise c a))) := by
  obtain ⟨g1, g2⟩ := K.gl hg
  have st := star_cons X.env (e := e) [] hs
  cases hx : C.exf c with
  | none =>
    refine ⟨fun pins s σ H D I q => ?_⟩
    obtain ⟨G, env, F, S, r⟩ := q
    have r' : RS (gx X) W G D (match C.exf c with
      | none => .bad
      | some f => ((ev C a).1 env).fo fun r e1 => .exc ⟨c, [f], [r.1]⟩ e1) := r
    rw [hx] at r'
    exact r'.elim
  | some f =>
    obtain ⟨_, T0, _, hr⟩ := K.exc c f hx
    have T := T0.ok
    refine (ps_raise1 K.calm hr K.takes T g1 g2 (pa_cons ha.1 pa_nil st) st).imp fun D σ H q => ?_
    obtain ⟨G, env, F, S, r⟩ := q
    have r' : RS (gx X) W G D (match C.exf c with
      | none => .bad
      | some f => ((ev C a).1 env).fo fun r e1 => .exc ⟨c, [f], [r.1]⟩ e1) := r
    rw [hx] at r'
    refine ⟨G, env, F, S, RS.fo r' fun r1 e1 v F1 H1 sm S1 h1 q1 => ?_⟩
    obtain ⟨F2, S2, r2, sm2⟩ := S1.fix h1
    obtain ⟨D0, fI, fd, q, hm, _⟩ := T.ex
    refine ⟨v, D0, rfl, hm, fun dx n => ?_⟩
    have nw : New F2 H1 (upd F2 dx (.xd [(f, v)])) (upd H1 dx (.xd [(f, v)])) := New.fix S2.sub n
    exact q1 (.ref D0) (some dx) σ _ _ (S2.grow nw.sF nw.sH nw.sub nw.nf) ⟨D0, dx, [v], hm, rfl, rfl, upd_same, v, [], rfl, r2.mono nw.sF, rfl⟩
theorem ss_raise0 (K : Sok X C W N sc) {c : Str} {p pos pos' : Pos} (hg : glB sc c = true) : PS X (.Raise (some (.Call (.Name c p) [] [] pos)) none pos') (tS (gx X) W (exec C (.raise0 c))) := by
  obtain ⟨g1, g2⟩ := K.gl hg
  cases hx : C.ex0 c with
  | none =>
    refine ⟨fun pins s σ H D I q => ?_⟩
    obtain ⟨G, env, F, S, r⟩ := q
    have r' : RS (gx X) W G D (match C.ex0 c with
      | none => .bad
      | some f => .exc ⟨c, [f], [.tup []]⟩ env) := r
    rw [hx] at r'
    exact r'.elim
  | some f =>
    obtain ⟨T, hr⟩ := K.exz c f hx
    obtain ⟨D0, _, _, hm, _⟩ := T.ex
    refine (ps_raise K.calm K.takes (pmk0 hr (fun pins σ H s er s' I c => passes_call (E := fun _ _ _ => False) K.takes (fun _ _ _ _ z => z.elim) pins σ H s er s' I c) T hm g1 g2)).imp fun D σ H q => ?_
    obtain ⟨G, env, F, S, r⟩ := q
    have r' : RS (gx X) W G D (match C.ex0 c with
      | none => .bad
      | some f => .exc ⟨c, [f], [.tup []]⟩ env) := r
    rw [hx] at r'
    intro t dx nt nd hdt
    have n1 := New.fix S.sub (o := .tup []) nt
    have nd1 : upd H t (.tup []) dx = none := by rw [upd_ne hdt]; exact nd
    have n2 := n1.trans (New.fix n1.sub (o := .xd [(f, .ref t)]) nd1)
    exact r' (.ref D0) (some dx) σ _ _ (S.grow n2.sF n2.sH n2.sub n2.nf) ⟨D0, dx, [.ref t], hm, rfl, rfl, upd_same, .ref t, [], rfl, ⟨t, [], rfl, by rw [upd_ne (Ne.symm hdt), upd_same], rfl⟩, rfl⟩
theorem ss_try (K : Sok X C W N sc) {b : IS} {c n y z : Str} {i j : Nat} {bd : List Stmt} {np py pz pa pos' pos : Pos} (hg : glB sc c = true) (hi : N[i]? = some n) (hl : sc.names.lookup n = some .local) (hz : z = n) (hj : N[j]? = some y) (hy : locB sc (fun _ => true) y = true) (hv : visB sc n = true)
    (hb : ∀ (X : Cx) (W : WX), Sok X C W N sc → PSs X bd (tS (gx X) W (exec C b))) : PS X (.Try bd [.ExceptHandler (some (.Name c np)) (some n) [.Assign [.Name y py] (.Name z pz) pa] pos'] [] [] pos) (tS (gx X) W (exec C (.tryS b c i j))) := by
  subst hz
  obtain ⟨g1, g2⟩ := K.gl hg
  cases hu : C.und c c with
  | false =>
    refine ⟨fun pins s σ H D I q => ?_⟩
    obtain ⟨G, env, F, S, r⟩ := q
    have r' : RS (gx X) W G D (if C.und c c then tryK C c i j (exec C b env) else .bad) := r
    rw [hu] at r'
    exact r'.elim
  | true =>
    obtain ⟨_, B, _, mB, _⟩ := K.und c c hu
    obtain ⟨v1, v2, v3⟩ := K.vis hv
    obtain ⟨l1, l2⟩ := locB_ok K.toCok (fun x _ => K.fn x) hy
    have hN' : X.N.Nodup := by rw [K.hN]; exact K.nd
    have hi' : X.N[i]? = some z := by rw [K.hN]; exact hi
    have hj' : X.N[j]? = some y := by rw [K.hN]; exact hj
    have hk : X.env.kindOf z = some .local := by unfold Env.kindOf; rw [K.hsc]; exact hl
    have su : ∀ (a : Addr) (pn : List (Addr × Obj)), PSs (X.suite a pn) [.Assign [.Name y py] (.Name z pz) pa] (fun D σ H => ∃ v, σ[i]? = some (some v) ∧ D.nx (σ.set j (some v)) H) := fun a pn =>
      (pss_cons (ps_set (X := X.suite a pn) (i := j) hN' hj' l1 (pe_var (X := X.suite a pn) hi' v1 v2 v3) rfl l2) pss_nil).imp fun D σ H q => q
    refine (ps_tryV (c := .ref B) (tb := fun W1 => tS (gx X) W1 (exec C b)) K.hs K.hf K.hex hN' hi' hk ⟨g1, g2, .inl mB⟩ (fun W' pn xe tk ps => hb (X.tr pn xe) W' (K.tr pn xe tk ps)) su).imp fun D σ H q => ?_
    obtain ⟨G, env, F, S, r⟩ := q
    have r' : RS (gx X) W G D (if C.und c c then tryK C c i j (exec C b env) else .bad) := r
    rw [hu, if_pos rfl] at r'
    refine ⟨G, env, F, S, ?_⟩
    cases hx : exec C b env with
    | exc x e =>
      rw [hx] at r'
      have r2 : RS (gx X) W G D (if C.und x.cls c && (e[i]?).isSome then .nx (((e.set i none).set j (some (excV x, .fz))).set i none) else .bad) := r'
      split at r2
      · rename_i hux0
        obtain ⟨hux, hie⟩ := band hux0
        intro cls d σ1 F1 H1 S1 xr
        obtain ⟨A, dd, ws, hm, rfl, rfl, fd, rs⟩ := xr
        obtain ⟨A', B', m1, m2, ex⟩ := K.und x.cls c hux
        have e1 : A' = A := by
          have hm' : X.mg x.cls = some (.ref A) := hm
          rw [m1] at hm'
          cases hm'
          rfl
        have e2 : B' = B := by
          rw [m2] at mB
          cases mB
          rfl
        subst e1 e2
        have hlen : i < σ1.length := by
          rw [← S1.len]
          obtain ⟨w, hw⟩ := Option.isSome_iff_exists.mp hie
          exact (List.getElem?_eq_some_iff.mp hw).1
        refine ⟨ex, A', dd, rfl, rfl, fun a na => ?_⟩
        have nw : New F1 H1 (upd F1 a (ExH A' dd a)) (upd H1 a (ExH A' dd a)) := New.fix S1.sub na
        have S2 := S1.grow nw.sF nw.sH nw.sub nw.nf
        have S3 := (S2.junk i (some (.ref a))).setFz (i := j) (p := excV x) (v := .ref a) ⟨a, A', dd, ws, rfl, hm, upd_same, nw.sF _ _ fd, Reps.mono nw.sF _ rs⟩
        refine ⟨.ref a, ?_, r2 _ _ _ (S3.junk i none)⟩
        rw [List.getElem?_set_self hlen]
      · exact r2.elim
    | nx e => rw [hx] at r'; exact r'
    | brk e => rw [hx] at r'; exact r'
    | cnt e => rw [hx] at r'; exact r'
    | ret q e => rw [hx] at r'; exact r'
    | bad => rw [hx] at r'; exact r'
theorem wipe_sx {g : Gx} {G : Ent} {env : En} {σ : L2.St} {F H : Hp} (S : Sx g G env σ F H) : ∀ is : List Nat, Sx g G (wipeE env is) σ F H
  | [] => S
  | i :: is => (wipe_sx S is).forget i
theorem ss_drop {is : List Nat} {b : IS} {sts : List Stmt} (hb : PSs X sts (tS (gx X) W (exec C b))) : PSs X sts (tS (gx X) W (exec C (.seq (.drop is) b))) := by
  refine hb.imp fun D σ H q => ?_
  obtain ⟨G, env, F, S, r⟩ := q
  exact ⟨G, wipeE env is, F, wipe_sx S is, r⟩
end
/-- statements -/
theorem snd_s {C : Cal} {N : List Str} {sc : Scope} : ∀ (n : Nat) (a : IS), sizeOf a < n → ∀ sts, chkS N sc a sts = true → ∀ (X : Cx) (W : WX), Sok X C W N sc → PSs X sts (tS (gx X) W (exec C a)) := by
  intro n
  induction n with
  | zero => intro a h; omega
  | succ n ih =>
    intro a hn sts hc X W K
    have K' := K.toCok
    cases a <;> try (cases sts <;> cases hc; done)
    · -- nil
      cases sts <;> try (cases hc; done)
      exact pss_nil.imp fun D σ H q => by
        obtain ⟨G, env, F, S, r⟩ := q
        exact r σ F H S
    · rename_i a b
      by_cases hd : ∃ is, a = .drop is
      · obtain ⟨is, rfl⟩ := hd
        have hc' : chkS N sc b sts = true := by simpa [chkS] using hc
        exact ss_drop (ih b (by simp at hn; omega) sts hc' X W K)
      have hc0 : ∃ st sts', sts = st :: sts' ∧ chkS N sc b sts' = true ∧ chkT N sc a st = true := by
        cases sts with
        | nil => cases a <;> first | exact absurd ⟨_, rfl⟩ hd | cases hc
        | cons st sts' =>
          have hc' : (chkS N sc b sts' && chkT N sc a st) = true := by
            cases a <;> first | exact absurd ⟨_, rfl⟩ hd | exact hc
          obtain ⟨h1, h2⟩ := band hc'
          exact ⟨st, sts', rfl, h1, h2⟩
      obtain ⟨st, sts, rfl, hb, ha⟩ := hc0
      refine ss_seq ?_ (ih b (by simp at hn; omega) sts hb X W K)
      cases a <;> try (cases ha; done)
      case asg i e =>
        cases st <;> try (cases ha; done)
        rename_i tgs v pos
        match tgs, ha with
        | [.Name x p], ha =>
          obtain ⟨h123, h4⟩ := band ha
          obtain ⟨h12, h3⟩ := band h123
          obtain ⟨h1, h2⟩ := band h12
          cases hl : isLC v with
          | false => exact ss_asg0 K (of_decide_eq_true h1) h2 hl (snd_e K' h3)
          | true =>
            rw [hl] at h4
            rcases Bool.or_eq_true_iff.mp h4 with h4 | h4
            · exact ss_asgL K (of_decide_eq_true h1) h2 h4 h3
            · exact ss_asgS K (of_decide_eq_true h1) h2 h4 (snd_e K' h3)
      case unp is e =>
        cases st <;> try (cases ha; done)
        rename_i tgs v pos
        match tgs, ha with
        | [.Tuple ts k p], ha =>
          obtain ⟨h123, h4⟩ := band ha
          obtain ⟨h12, h3⟩ := band h123
          obtain ⟨h1, h2⟩ := band h12
          exact ss_unp K h1 (of_decide_eq_true h3) (nott h4) (snd_e K' h2)
      case par is es =>
        have ha' : chkPar N sc is es st = true := ha
        clear ha
        unfold chkPar at ha'
        split at ha'
        case h_1 =>
          rename_i x px y py a b k2 p2 hp
          obtain ⟨kt, pt, pos, rfl⟩ := parOf_two hp
          split at ha'
          case h_2 => cases ha'
          rename_i i j
          have ha := ha'
          obtain ⟨h6, h7⟩ := band ha
          obtain ⟨h5, h6⟩ := band h6
          obtain ⟨h4, h5⟩ := band h5
          obtain ⟨h3, h4⟩ := band h4
          obtain ⟨h2, h3⟩ := band h3
          obtain ⟨h1, h2⟩ := band h2
          exact ss_par2 K (of_decide_eq_true h2) (of_decide_eq_true h3) (of_decide_eq_true h4) (of_decide_eq_true h5) (of_decide_eq_true h6) (of_decide_eq_true h1) (snd_a K' h7).f
        case h_2 =>
          rename_i x px y py z pz a b c k2 p2 hp
          obtain ⟨kt, pt, pos, rfl⟩ := parOf_thr hp
          split at ha'
          case h_2 => cases ha'
          rename_i i j l
          have ha := ha'
          obtain ⟨h10, h11⟩ := band ha
          obtain ⟨h9, h10⟩ := band h10
          obtain ⟨h8, h9⟩ := band h9
          obtain ⟨h7, h8⟩ := band h8
          obtain ⟨h6, h7⟩ := band h7
          obtain ⟨h5, h6⟩ := band h6
          obtain ⟨h4, h5⟩ := band h5
          obtain ⟨h3, h4⟩ := band h4
          obtain ⟨h2, h3⟩ := band h3
          obtain ⟨h1, h2⟩ := band h2
          exact ss_par3 K (of_decide_eq_true h2) (of_decide_eq_true h3) (of_decide_eq_true h4) (of_decide_eq_true h5) (of_decide_eq_true h6) (of_decide_eq_true h7) (of_decide_eq_true h8) (of_decide_eq_true h9) (of_decide_eq_true h10) (of_decide_eq_true h1) (snd_a K' h11).f
        case h_3 => cases ha'
      case seti i ix e =>
        cases st <;> try (cases ha; done)
        rename_i tgs v pos
        match tgs, ha with
        | [.Subscript (.Name x p) j sp], ha =>
          obtain ⟨h5, h6⟩ := band ha
          obtain ⟨h4, h5⟩ := band h5
          obtain ⟨h3, h4⟩ := band h4
          obtain ⟨h2, h3⟩ := band h3
          obtain ⟨h1, h2⟩ := band h2
          exact ss_seti K (of_decide_eq_true h1) h2 (ce_opd K' h3 (snd_e K' h3)) (nott h4) (snd_e K' h5) (nott h6)
      case app i e =>
        cases st <;> try (cases ha; done)
        rename_i v pos
        match v, ha with
        | .Call (.Attribute (.Name x p) m ap) [v] [] cp, ha =>
          obtain ⟨h5, h6⟩ := band ha
          obtain ⟨h4, h5⟩ := band h5
          obtain ⟨h3, h4⟩ := band h4
          obtain ⟨h2, h3⟩ := band h3
          obtain ⟨h1, h2⟩ := band h2
          exact ss_app K (of_decide_eq_true h1) (of_decide_eq_true h2) h3 (nott h5) h6 (snd_e K' h4)
      case expr e =>
        cases st <;> try (cases ha; done)
        obtain ⟨h1, h2⟩ := band ha
        exact ss_expr K (nott h2) (snd_e K' h1)
      case ret e =>
        cases st <;> try (cases ha; done)
        rename_i v pos
        cases v <;> try (cases ha; done)
        exact ss_ret K ha (snd_e K' ha)
      case retN =>
        cases st <;> try (cases ha; done)
        rename_i v pos
        cases v <;> try (cases ha; done)
        exact ps_retN.imp fun D σ H q => by
          obtain ⟨G, env, F, S, r⟩ := q
          exact r _ σ F H S rfl
      case ife c a b =>
        cases st <;> try (cases ha; done)
        obtain ⟨h12, h3⟩ := band ha
        obtain ⟨h1, h2⟩ := band h12
        exact ss_if (snd_e K' h1) (ih a (by simp at hn; omega) _ h2 X W K) (ih b (by simp at hn; omega) _ h3 X W K)
      case loop g it b =>
        cases st <;> try (cases ha; done)
        rename_i tg iter body orelse pos
        match orelse, ha with
        | [], ha =>
          obtain ⟨h123, h4⟩ := band ha
          obtain ⟨h12, h3⟩ := band h123
          obtain ⟨h1, h2⟩ := band h12
          exact ss_for K (snd_i K' h1) (cg_ok K' (fnb := fun _ => true) (fun x _ => K.fn x) h2) (nott h4) (ih b (by simp at hn; omega) _ h3 X W K)
      case whl m c b =>
        cases st <;> try (cases ha; done)
        rename_i t body orelse pos
        match orelse, ha with
        | [], ha =>
          obtain ⟨h1, h2⟩ := band ha
          exact ss_while K (snd_e K' h1) (ih b (by simp at hn; omega) _ h2 X W K)
      case brk =>
        cases st <;> try (cases ha; done)
        exact ps_break.imp fun D σ H q => by
          obtain ⟨G, env, F, S, r⟩ := q
          exact r σ F H S
      case cnt =>
        cases st <;> try (cases ha; done)
        exact ps_continue.imp fun D σ H q => by
          obtain ⟨G, env, F, S, r⟩ := q
          exact r σ F H S
      case raise c e =>
        have ha' : (match raiseOf st with
          | some (x, v) => decide (c = x) && glB sc x && chkE N e sc v && !isStar v
          | none => false) = true := ha
        split at ha'
        · rename_i x v hr
          obtain ⟨p, pos, pos', rfl⟩ := raiseOf_ok hr
          obtain ⟨h123, h4⟩ := band ha'
          obtain ⟨h12, h3⟩ := band h123
          obtain ⟨h1, h2⟩ := band h12
          have := of_decide_eq_true h1
          subst this
          exact ss_raise K h2 (nott h4) (snd_e K' h3)
        · cases ha'
      case putc i k1 x1 k2 x2 =>
        have ha' : (match putcOf st with
          | some t => decide (N[i]? = some t.x) && visB sc t.x && cKey k1 t.e1 && cKey k2 t.e2 && cPVe x1 t.v1 && cPVe x2 t.v2
          | none => false) = true := ha
        split at ha'
        · rename_i t ht
          obtain ⟨p1, p2, p3, p4, n, p5, m, p6, p7, rfl⟩ := putcOf_ok ht
          obtain ⟨ha', h6⟩ := band ha'
          obtain ⟨ha', h5⟩ := band ha'
          obtain ⟨ha', h4⟩ := band ha'
          obtain ⟨ha', h3⟩ := band ha'
          obtain ⟨h1, h2⟩ := band ha'
          exact ss_putc K (of_decide_eq_true h1) h2 h3 h4 h5 h6
        · cases ha'
      case raise0 c =>
        have ha' : (match raise0Of st with
          | some x => decide (c = x) && glB sc x
          | none => false) = true := ha
        split at ha'
        · rename_i x hx
          obtain ⟨p, pos, pos', rfl⟩ := raise0Of_ok hx
          obtain ⟨h1, h2⟩ := band ha'
          have := of_decide_eq_true h1
          subst this
          exact ss_raise0 K h2
        · cases ha'
      case tryS b c i j =>
        have ha' : (match tryOf st with
          | some t => chkS N sc b t.body && (decide (c = t.x) && (glB sc t.x && (decide (N[i]? = some t.n) && (decide (sc.names.lookup t.n = some .local) && (decide (t.z = t.n) && (decide (N[j]? = some t.y) && (locB sc (fun _ => true) t.y && visB sc t.n)))))))
          | none => false) = true := ha
        split at ha'
        · rename_i t ht
          obtain ⟨np, pz, pa, pos', pos, rfl⟩ := tryOf_ok ht
          obtain ⟨h1, ha'⟩ := band ha'
          obtain ⟨h2, ha'⟩ := band ha'
          obtain ⟨h3, ha'⟩ := band ha'
          obtain ⟨h4, ha'⟩ := band ha'
          obtain ⟨h5, ha'⟩ := band ha'
          obtain ⟨h6, ha'⟩ := band ha'
          obtain ⟨h7, ha'⟩ := band ha'
          obtain ⟨h8, h9⟩ := band ha'
          have := of_decide_eq_true h2
          subst this
          exact ss_try K h3 (of_decide_eq_true h4) (of_decide_eq_true h5) (of_decide_eq_true h6) (of_decide_eq_true h7) h8 h9 fun X W K => ih b (by simp at hn; omega) _ h1 X W K
        · cases ha'
      case boom =>
        exact ⟨fun pins s σ H D I q => by
          obtain ⟨G, env, F, S, r⟩ := q
          exact r.elim⟩
      case pass =>
        cases st <;> try (cases ha; done)
        exact ps_pass.imp fun D σ H q => by
          obtain ⟨G, env, F, S, r⟩ := q
          exact r σ F H S
end Bd

namespace Bd
open PySem L2
/-! ### functions -/
structure FD where
  N : List Str
  sg : List Bool
  body : IS
  kw : List (Nat × List Str × List Nat) := []
def parE : List Bool → List PV → En
  | m :: ms, p :: ps => some (p, if m then .bor else .fz) :: parE ms ps
  | _, _ => []
def startE (d : FD) (ps : List PV) : En := parE d.sg ps ++ List.replicate (d.N.length - ps.length) none
def outsOf : List Bool → En → Option (List PV)
  | [], _ => some []
  | true :: ms, some (p, .bor) :: e => (outsOf ms e).map (p :: ·)
  | false :: ms, _ :: e => outsOf ms e
  | _, _ => none
def cres (o : Option (List PV)) (k : List PV → CRes) : CRes := match o with
  | some o => k o
  | none => .bad
def finish (ms : List Bool) : Fo → CRes
  | .nx e => cres (outsOf ms e) fun o => .ok (.non, .fz) o
  | .ret r e => cres (outsOf ms e) fun o => .ok r o
  | .exc x e => cres (outsOf ms e) fun o => .exc x o
  | _ => .bad
def runF (C : Cal) (d : Option FD) (ps : List PV) : CRes := match d with
  | some d => finish d.sg (exec C d.body (startE d ps))
  | none => .bad
def kwOf (l : List (Nat × List Str × List Nat)) (n : Nat) (ks : List Str) : Option (List Nat) := (l.find? fun x => x.1 == n && x.2.1 == ks).map (·.2.2)
/-- the module: constants, exceptions with their field, which class is under which -/
structure ModT where
  cst : Str → Option PV
  exf : Str → Option Str
  exq : Str → Option Str
  ex0 : Str → Option Str
  icl : Str → Bool
  isx : Str → Str → Option Bool
  und : Str → Str → Bool
def calN (cst : ModT) (T : Str → Option FD) : Nat → Cal
  | 0 => ⟨cst.cst, fun _ => none, fun _ _ => .bad, fun _ _ _ => none, fun _ => none, cst.exq, fun _ => none, cst.icl, cst.isx, cst.und⟩
  | n + 1 => ⟨cst.cst, fun f => (T f).map (·.sg), fun f ps => runF (calN cst T n) (T f) ps, fun f n ks => (T f).bind fun d => kwOf d.kw n ks, fun c => match n with
    | 0 => none
    | _ + 1 => cst.exf c, cst.exq, fun c => match n with
    | 0 => none
    | _ + 1 => cst.ex0 c, cst.icl, cst.isx, cst.und⟩

section
variable {g : Gx} {F H : Hp}
theorem AR.len : ∀ {ms : List Bool} {ps : List PV} {vs : List V}, AR g F H ms ps vs → ps.length = ms.length ∧ vs.length = ms.length
  | [], _, _, h => by obtain ⟨rfl, rfl⟩ := h; exact ⟨rfl, rfl⟩
  | m :: ms, _, _, h => by
    obtain ⟨p, ps', v, vs', rfl, rfl, _, h⟩ := h
    obtain ⟨h1, h2⟩ := AR.len h
    simp [h1, h2]
theorem parE_get : ∀ {ms : List Bool} {ps : List PV} {vs : List V} {i : Nat} {p : PV} {fl : Fl}, AR g F H ms ps vs → (parE ms ps)[i]? = some (some (p, fl)) →
    ∃ v, vs[i]? = some v ∧ ((fl = .fz ∧ Rep g F p v) ∨ (fl = .bor ∧ ms[i]? = some true ∧ ∃ a, v = .ref a ∧ F a = none ∧ OwnR g F H p a ∧ a ∈ muts ms vs))
  | [], _, _, i, p, fl, h, e => by
    obtain ⟨rfl, rfl⟩ := h
    simp [parE] at e
  | m :: ms, _, _, i, p, fl, h, e => by
    obtain ⟨q, ps', v, vs', rfl, rfl, hq, h⟩ := h
    cases i with
    | zero =>
      have e' : some (some (q, if m = true then Fl.bor else Fl.fz)) = some (some (p, fl)) := e
      cases m with
      | true =>
        cases e'
        rw [if_pos rfl] at hq
        obtain ⟨a, rfl, h1, h2⟩ := hq
        exact ⟨_, rfl, .inr ⟨rfl, rfl, a, rfl, h1, h2, by rw [muts_true]; exact List.mem_cons_self ..⟩⟩
      | false =>
        cases e'
        rw [if_neg (by simp)] at hq
        exact ⟨v, rfl, .inl ⟨rfl, hq⟩⟩
    | succ i =>
      obtain ⟨w, e1, e2⟩ := parE_get (i := i) h (by simpa [parE] using e)
      refine ⟨w, by simpa using e1, ?_⟩
      rcases e2 with e2 | ⟨e2, e3, a, e4, e5, e6, e7⟩
      · exact .inl e2
      · refine .inr ⟨e2, by simpa using e3, a, e4, e5, e6, ?_⟩
        cases m with
        | true =>
          rw [if_pos rfl] at hq
          obtain ⟨b, rfl, _⟩ := hq
          rw [muts_true]; exact List.mem_cons_of_mem _ e7
        | false => rw [muts_false]; exact e7
theorem parE_len : ∀ {ms : List Bool} {ps : List PV}, ps.length = ms.length → (parE ms ps).length = ps.length
  | [], [], _ => rfl
  | [], _ :: _, h => by cases h
  | _ :: _, [], h => by cases h
  | m :: ms, p :: ps, h => by
    show (parE ms ps).length + 1 = _
    rw [parE_len (by simpa using h)]; rfl
/-- two mutable ones at one address are one -/
theorem muts_inj : ∀ {ms : List Bool} {vs : List V} {i j : Nat} {a : Addr}, vs.length = ms.length → (muts ms vs).Nodup → ms[i]? = some true → ms[j]? = some true → vs[i]? = some (.ref a) → vs[j]? = some (.ref a) → i = j
  | [], vs, i, j, a, _, _, h, _, _, _ => by simp at h
  | m :: ms, [], i, j, a, hl, _, _, _, _, _ => by cases hl
  | m :: ms, v :: vs, i, j, a, hl, nd, h1, h2, h3, h4 => by
    have mem : ∀ {ms : List Bool} {vs : List V} {k : Nat}, vs.length = ms.length → ms[k]? = some true → vs[k]? = some (.ref a) → a ∈ muts ms vs := by
      intro ms
      induction ms with
      | nil => intro vs k _ h; simp at h
      | cons m ms ih =>
        intro vs k hl h h'
        cases vs with
        | nil => cases hl
        | cons v vs =>
          cases k with
          | zero =>
            simp at h h'
            subst h h'
            rw [muts_true]; exact List.mem_cons_self ..
          | succ k =>
            have := ih (vs := vs) (k := k) (by simpa using hl) (by simpa using h) (by simpa using h')
            cases m with
            | false => exact this
            | true =>
              cases v with
              | ref b => rw [muts_true]; exact List.mem_cons_of_mem _ this
              | _ => exact this
    have nd' : (muts ms vs).Nodup := by
      cases m with
      | false => exact nd
      | true =>
        cases v with
        | ref b => rw [muts_true] at nd; exact (List.nodup_cons.mp nd).2
        | _ => exact nd
    cases i with
    | zero =>
      simp at h1 h3
      subst h1 h3
      cases j with
      | zero => rfl
      | succ j =>
        rw [muts_true] at nd
        exact absurd (mem (k := j) (by simpa using hl) (by simpa using h2) (by simpa using h4)) (List.nodup_cons.mp nd).1
    | succ i =>
      cases j with
      | zero =>
        simp at h2 h4
        subst h2 h4
        rw [muts_true] at nd
        exact absurd (mem (k := i) (by simpa using hl) (by simpa using h1) (by simpa using h3)) (List.nodup_cons.mp nd).1
      | succ j =>
        exact congrArg Nat.succ (muts_inj (by simpa using hl) nd' (by simpa using h1) (by simpa using h2) (by simpa using h3) (by simpa using h4))
/-- the entry of a body -/
def entry (N : List Str) (ms : List Bool) (vs : List V) (F H : Hp) : Ent := ⟨F, H, fun a => a ∈ muts ms vs, fun _ => False, L2.start N vs, fun i => ms[i]? = some true⟩
theorem startE_get {d : FD} {ps : List PV} {i : Nat} {q : PV × Fl} (h : (startE d ps)[i]? = some (some q)) : (parE d.sg ps)[i]? = some (some q) := by
  unfold startE at h
  by_cases hi : i < (parE d.sg ps).length
  · rwa [List.getElem?_append_left hi] at h
  · rw [List.getElem?_append_right (by omega)] at h
    have := List.mem_of_getElem? h
    have := List.eq_of_mem_replicate this
    cases this
theorem start_get {N : List Str} {vs : List V} {i : Nat} {v : V} (h : vs[i]? = some v) : (L2.start N vs)[i]? = some (some v) := by
  unfold L2.start
  have hi : i < vs.length := (List.getElem?_eq_some_iff.mp h).1
  rw [List.getElem?_append_left (by simpa using hi), List.getElem?_map, h]; rfl
theorem start_sx {d : FD} {ps : List PV} {vs : List V} (sub : Same F H) (ar : AR g F H d.sg ps vs) (nd : (muts d.sg vs).Nodup) : Sx g (entry d.N d.sg vs F H) (startE d ps) (L2.start d.N vs) F H := by
  obtain ⟨l1, l2⟩ := ar.len
  refine ⟨sub, .refl _, fun a o h _ => h, fun a o _ h _ => h, fun a o h => ⟨o, h⟩, ?_, fun i pv h => ?_, fun i pv fl h hf => ?_, fun i j p q a h1 f1 h2 f2 s1 s2 => ?_, fun i pv h => ?_⟩
  · unfold startE L2.start
    rw [List.length_append, List.length_append, parE_len l1]
    simp [l1, l2]
  · obtain ⟨v, e1, e2⟩ := parE_get ar (startE_get h)
    rcases e2 with ⟨_, e2⟩ | ⟨e2, _⟩
    · exact ⟨v, start_get e1, e2⟩
    · cases e2
  · obtain ⟨v, e1, e2⟩ := parE_get ar (startE_get h)
    rcases e2 with ⟨e2, _⟩ | ⟨e2, e3, a, rfl, e5, e6, e7⟩
    · exact absurd e2 hf
    · exact ⟨a, start_get e1, e5, e6, .inl e7, fun z => by rw [e2] at z; cases z⟩
  · obtain ⟨p1, p2⟩ := p
    obtain ⟨q1, q2⟩ := q
    obtain ⟨v, e1, e2⟩ := parE_get ar (startE_get h1)
    obtain ⟨w, k1, k2⟩ := parE_get ar (startE_get h2)
    rcases e2 with ⟨e2, _⟩ | ⟨e2, e3, b, rfl, _⟩
    · exact absurd e2 f1
    rcases k2 with ⟨k2, _⟩ | ⟨k2, k3, c, rfl, _⟩
    · exact absurd k2 f2
    rw [start_get e1] at s1; cases s1
    rw [start_get k1] at s2; cases s2
    exact muts_inj l2 nd e3 k3 e1 k1
  · obtain ⟨v, e1, e2⟩ := parE_get ar (startE_get h)
    rcases e2 with ⟨e2, _⟩ | ⟨_, e3, _⟩
    · cases e2
    · exact ⟨e3, rfl⟩
theorem outs_ok {F' H' : Hp} : ∀ {ms : List Bool} {e : En} {vs : List V} {σ : L2.St} {outs : List PV}, vs.length = ms.length → (∀ i : Nat, ms[i]? = some true → ∃ a, vs[i]? = some (V.ref a)) →
    (∀ (i : Nat) p, e[i]? = some (some (p, .bor)) → ms[i]? = some true → ∃ a, vs[i]? = some (V.ref a) ∧ OwnR g F' H' p a) → outsOf ms e = some outs → OutR g F' H' (muts ms vs) outs
  | [], _, [], _, _, _, _, _, h => by cases h; rfl
  | [], _, _ :: _, _, _, hl, _, _, _ => by cases hl
  | _ :: _, _, [], _, _, hl, _, _, _ => by cases hl
  | false :: ms, [], v :: vs, σ, outs, hl, hm, ho, h => by cases h
  | false :: ms, x :: e, v :: vs, σ, outs, hl, hm, ho, h => by
    rw [muts_false]
    exact outs_ok (σ := σ) (by simpa using hl) (fun i hi => by simpa using hm (i + 1) (by simpa using hi)) (fun i p hi hj => by simpa using ho (i + 1) p (by simpa using hi) (by simpa using hj)) (show outsOf ms e = some outs from h)
  | true :: ms, [], v :: vs, σ, outs, hl, hm, ho, h => by cases h
  | true :: ms, none :: e, v :: vs, σ, outs, hl, hm, ho, h => by cases h
  | true :: ms, some (p, .fz) :: e, v :: vs, σ, outs, hl, hm, ho, h => by cases h
  | true :: ms, some (p, .own) :: e, v :: vs, σ, outs, hl, hm, ho, h => by cases h
  | true :: ms, some (p, .bor) :: e, v :: vs, σ, outs, hl, hm, ho, h => by
    obtain ⟨o, h1, rfl⟩ := Option.map_eq_some_iff.mp (show (outsOf ms e).map (p :: ·) = some outs from h)
    obtain ⟨a, e1, e2⟩ := ho 0 p rfl rfl
    simp at e1
    subst e1
    rw [muts_true]
    exact ⟨p, o, rfl, e2, outs_ok (σ := σ) (by simpa using hl) (fun i hi => by simpa using hm (i + 1) (by simpa using hi)) (fun i p hi hj => by simpa using ho (i + 1) p (by simpa using hi) (by simpa using hj)) h1⟩
theorem end_post {d : FD} {ps : List PV} {vs : List V} {e : En} {σ : L2.St} {F' H' : Hp} {outs : List PV} (ar : AR g F H d.sg ps vs) (S : Sx g (entry d.N d.sg vs F H) e σ F' H') (ho : outsOf d.sg e = some outs) : CPost g F H (muts d.sg vs) outs F' H' := by
  obtain ⟨l1, l2⟩ := ar.len
  refine ⟨S.f0, S.sub, fun a o h n => S.h0 a o h n, S.th, fun a o h1 h2 => S.nf a o h1 h2 fun z => z, ?_⟩
  have par : ∀ {ms : List Bool} {ps : List PV} {vs : List V}, AR g F H ms ps vs → ∀ i : Nat, ms[i]? = some true → ∃ a, vs[i]? = some (V.ref a) := by
    intro ms
    induction ms with
    | nil => intro ps vs _ i h; simp at h
    | cons m ms ih =>
      intro ps vs h i hi
      obtain ⟨p, ps', v, vs', rfl, rfl, hp, h⟩ := h
      cases i with
      | zero =>
        simp at hi
        subst hi
        rw [if_pos rfl] at hp
        obtain ⟨a, rfl, _⟩ := hp
        exact ⟨a, rfl⟩
      | succ i => simpa using ih h i (by simpa using hi)
  refine outs_ok (σ := σ) l2 (par ar) (fun i p hi hj => ?_) ho
  obtain ⟨a, e1⟩ := par ar i hj
  refine ⟨a, e1, ?_⟩
  obtain ⟨b, k1, _, k3, _⟩ := S.own i p .bor hi (by simp)
  obtain ⟨_, k2⟩ := S.bo i p hi
  have : (L2.start d.N vs)[i]? = some (some (.ref a)) := start_get e1
  rw [k2, show (entry d.N d.sg vs F H).S0 = L2.start d.N vs from rfl, this] at k1
  cases k1
  exact k3
end

/-! ### a table of functions -/
structure FnFact (K : PySem.W.Frag) (mg : Str → Option Value) (f : Str) (d : FD) : Prop where
  ex : ∃ (fa : Addr) (fd : FuncData) (ps : List Str) (qual : Str) (params : Arguments) (body : List Stmt) (scope : Scope) (kws : List (Str × V)), FunD K f qual params body scope [] kws fa fd ∧ FnScope d.N ps scope ∧ mg f = some (.ref fa) ∧ Binds K fd ps [] ∧ ps.length = d.sg.length ∧ chkS d.N scope d.body body = true ∧ ∀ n ks pm, kwOf d.kw n ks = some pm → KBn K fd ps n ks (fun us ws => pick (us ++ ws) pm) (fun vs zs => pick (vs ++ zs) pm)
/-- what the head tells of an exception's class with one field -/
def ExcFact (K : PySem.W.Frag) (mg : Str → Option Value) (cls f q : Str) : Prop := ∀ (P : Program) (w : World) (base : Heap), ExcK P w K mg base cls f q
def Exc0Fact (K : PySem.W.Frag) (mg : Str → Option Value) (cls f : Str) : Prop := ∀ (P : Program) (w : World) (base : Heap), Exc0 P w K mg base cls f
structure TabOk (K : PySem.W.Frag) (mg : Str → Option Value) (M : ModT) (T : Str → Option FD) : Prop where
  fn : ∀ f d, T f = some d → FnFact K mg f d
  blt : ∀ f : Blt, mg f.name = none
  tys : ∀ t : TyN, t ≠ .none → mg (tyStr t) = none
  rng : mg "range" = none
  enm : mg "enumerate" = none
  zip : mg "zip" = none
  cst : ∀ x v, M.cst x = some v → ∃ w u, mg x = some u ∧ RelV w u ∧ Rep ⟨K, mg⟩ (fun _ => none) v w
  exc : ∀ c f, M.exf c = some f → ∃ q, ExcFact K mg c f q ∧ M.exq c = some q
  exz : ∀ c f, M.ex0 c = some f → Exc0Fact K mg c f
  icl : ∀ c, M.icl c = true → ∃ cv, ClsAt mg c cv
  isx : ∀ d c b, M.isx d c = some b → ∀ cv, ClsAt mg c cv → ∃ A, mg d = some (.ref A) ∧ ExcC K A ∧ PySem.W.kitOne K (.ref A) cv = some b
  und : ∀ a b, M.und a b = true → ∃ A B, mg a = some (.ref A) ∧ mg b = some (.ref B) ∧ PySem.W.exmOne K (.ref A) (.ref B) = some true
theorem fn_all {P : Program} {w : World} {K : PySem.W.Frag} {mg : Str → Option Value} {base : Heap} {cst : ModT} {T : Str → Option FD} (TB : TabOk K mg cst T) : ∀ (n : Nat) (f : Str) (d : FD), T f = some d →
    ∀ (fa : Addr) (fd : FuncData) (ps : List Str) (qual : Str) (params : Arguments) (body : List Stmt) (scope : Scope) (kws : List (Str × V)), FunD K f qual params body scope [] kws fa fd → FnScope d.N ps scope → ps.length = d.sg.length → chkS d.N scope d.body body = true →
      FnOk P w K mg base (L2.CX P w) n fa fd ps (spF ⟨K, mg⟩ (calN cst T n) f) := by
  intro n
  induction n with
  | zero =>
    intro f d hT fa fd ps qual params body scope kws FU FS hl hc
    refine ⟨fun vs H Q E h => ?_, fun A outer s H args us vs Q E _ _ _ _ h => ?_⟩
    · obtain ⟨F, ps, ms, _, h2, _⟩ := h; cases h2
    · obtain ⟨F, ps, ms, _, h2, _⟩ := h; cases h2
  | succ n ih =>
    intro f d hT fa fd ps qual params body scope kws FU FS hl hc
    have hsig : ∀ ms, (calN cst T (n + 1)).sig f = some ms → ms = d.sg := fun ms h => by
      have h' : (T f).map (·.sg) = some ms := h
      rw [hT] at h'
      cases h'; rfl
    refine FU.ok FS (fun vs H Q E h => ?_) fun cdv A outer s H vs Q E hr h => ?_
    · obtain ⟨F, qs, ms, h1, h2, h3, _⟩ := h
      rw [hsig ms h2] at h3
      rw [h3.len.2, hl]
    · obtain ⟨F, qs, ms, h1, h2, h3, h4, h5⟩ := h
      have := hsig ms h2
      subst this
      have h5' : (match runF (calN cst T n) (some d) qs with
        | .ok r outs => ∀ v F' H', CPost ⟨K, mg⟩ F H (muts d.sg vs) outs F' H' → CV ⟨K, mg⟩ H F' H' r v → Q v H'
        | .exc x outs => ∀ cls c F' H', CPost ⟨K, mg⟩ F H (muts d.sg vs) outs F' H' → XR ⟨K, mg⟩ F' H' x cls c → E cls c H'
        | .bad => False) := by
        have e : (calN cst T (n + 1)).run f qs = runF (calN cst T n) (T f) qs := rfl
        rw [e, hT] at h5; exact h5
      let X := cxOf (L2.CX P w) P w K mg base d.N qual scope fa cdv A outer s H E
      have SK : Sok X (calN cst T n) (fun cls d _ H => E cls d H) d.N scope := by
        refine ⟨⟨rfl, FS.nd, rfl, rfl, hr.units, Nat.lt_of_le_of_lt (Nat.add_le_add_left (show 100 ≤ 16 * n + 200 by omega) _) (by have := hr.un; rwa [Nat.add_assoc] at this), TB.blt, TB.tys, TB.rng, TB.enm, TB.zip, takes_of (X := X) (E := E) rfl rfl rfl rfl, fun x v hx => ?_, fun f' sg hs => ?_, fun c f hx => ?_, fun c f hx => ?_, fun c hx => ?_, fun d c b hx => ?_, fun a b hx => ?_⟩, FS.kind, fun _ => rfl, passes_of (X := X) rfl, rfl, rfl, rfl⟩
        · refine TB.cst x v ?_
          cases n with
          | zero => exact hx
          | succ n => exact hx
        · cases n with
          | zero => cases hs
          | succ n =>
            have hs' : (T f').map (·.sg) = some sg := hs
            obtain ⟨d', hT', _⟩ := Option.map_eq_some_iff.mp hs'
            obtain ⟨fa', fd', ps', q', pr', bd', sc', kws', u1, u2, u3, u4, u5, u6, u7⟩ := (TB.fn f' d' hT').ex
            exact ⟨n + 1, fa', fd', ps', ih f' d' hT' fa' fd' ps' q' pr' bd' sc' kws' u1 u2 u5 u6, hr, u3, u1.kp, u4, fun m ks pm hk => u7 m ks pm (by
              have hk' : (T f').bind (fun d => kwOf d.kw m ks) = some pm := hk
              rw [hT'] at hk'; exact hk')⟩
        · cases n with
          | zero => cases hx
          | succ n =>
            cases n with
            | zero => cases hx
            | succ n =>
              obtain ⟨q, h1, h2⟩ := TB.exc c f hx
              exact ⟨q, h1 P w base, h2, hr.mono (by omega)⟩
        · cases n with
          | zero => cases hx
          | succ n =>
            cases n with
            | zero => cases hx
            | succ n => exact ⟨TB.exz c f hx P w base, hr.mono (by omega)⟩
        · refine TB.icl c ?_
          cases n with
          | zero => exact hx
          | succ n => exact hx
        · refine TB.isx d c b ?_
          cases n with
          | zero => exact hx
          | succ n => exact hx
        · refine TB.und a b ?_
          cases n with
          | zero => exact hx
          | succ n => exact hx
      refine ⟨_, snd_s (sizeOf d.body + 1) d.body (by omega) body hc X _ SK, entry d.N d.sg vs F H, startE d qs, F, start_sx h1 h3 h4, ?_⟩
      unfold runF at h5'
      simp only at h5'
      cases hx : exec (calN cst T n) d.body (startE d qs) with
      | nx e =>
        rw [hx] at h5'
        unfold finish cres at h5'
        cases ho : outsOf d.sg e with
        | none => simp only [ho] at h5'
        | some o =>
          simp only [ho] at h5'
          exact fun σ F' H' S => h5' _ F' H' (end_post h3 S ho) rfl
      | ret r e =>
        rw [hx] at h5'
        unfold finish cres at h5'
        cases ho : outsOf d.sg e with
        | none => simp only [ho] at h5'
        | some o =>
          simp only [ho] at h5'
          refine fun v σ F' H' S q => h5' v F' H' (end_post h3 S ho) ?_
          obtain ⟨p, fl⟩ := r
          cases fl with
          | fz => exact q
          | bor => exact q.elim
          | own =>
            obtain ⟨a, q1, q2, q3, q4⟩ := q
            rcases q4 with z | z
            · exact z.elim
            · exact ⟨a, q1, z, q2, q3⟩
      | exc x e =>
        rw [hx] at h5'
        unfold finish cres at h5'
        cases ho : outsOf d.sg e with
        | none => simp only [ho] at h5'
        | some o =>
          simp only [ho] at h5'
          exact fun cls c σ F' H' S q => h5' cls c F' H' (end_post h3 S ho) q
      | brk e => rw [hx] at h5'; exact h5'.elim
      | cnt e => rw [hx] at h5'; exact h5'.elim
      | bad => rw [hx] at h5'; exact h5'.elim
/-- the law's def: nothing is let out -/
theorem law_ok {P : Program} {w : World} {K : PySem.W.Frag} {mg : Str → Option Value} {base : Heap} {cst : ModT} {T : Str → Option FD} {n : Nat} {f : Str} {fa : Addr} {fd : FuncData} {ps : List Str}
    (F : FnOk P w K mg base (L2.CX P w) n fa fd ps (spF ⟨K, mg⟩ (calN cst T n) f)) : FnOk P w K mg base CX0 n fa fd ps (fun vs H Q _ => spF ⟨K, mg⟩ (calN cst T n) f vs H Q fun _ _ _ => False) :=
  ⟨fun vs H Q E h => F.len vs H Q _ h, fun A outer s H args us vs Q E r e b v h => codeAny_mono (F.run A outer s H args us vs Q (fun _ _ _ => False) r e b v h) fun r s' hq => by
    cases r with
    | ok fl => cases fl <;> exact hq
    | error u => obtain ⟨_, _, _, _, _, _, _, _, _, _, _, _, hE⟩ := hq; exact hE.elim⟩
theorem reps_ints {g : Gx} {F : Hp} : ∀ ns : List Int, Reps g F (ns.map PV.int) (ns.map V.int)
  | [] => rfl
  | n :: ns => ⟨_, _, rfl, rfl, reps_ints ns⟩
/-- what the end asks of the pure run -/
theorem law_sp {K : PySem.W.Frag} {mg : Str → Option Value} {C : Cal} {f : Str} {H : Hp} {a : Addr} {ns : List Int} (hsig : C.sig f = some [false]) (hS : SqL K H a (ns.map V.int)) (fl : Fl) (outs : List PV) (h : C.run f [.scr (ns.map PV.int)] = .ok (.bl true, fl) outs) :
    spF ⟨K, mg⟩ C f [.ref a] H (fun v _ => v = .bl true) fun _ _ _ => False := by
  refine ⟨H, [.scr (ns.map PV.int)], [false], .refl _, hsig, ⟨_, _, _, _, rfl, rfl, ?_, rfl, rfl⟩, .nil, ?_⟩
  · rw [if_neg (by simp)]
    exact ⟨a, _, rfl, hS, reps_ints ns⟩
  · rw [h]
    intro v F' H' _ cv
    cases fl with
    | fz => exact cv
    | own => obtain ⟨b, _, _, _, q⟩ := cv; exact q.elim
    | bor => exact cv.elim
theorem lookup_mem {α : Type} {x : Str} {v : α} : ∀ {l : List (Str × α)}, l.lookup x = some v → (x, v) ∈ l
  | [], h => by cases h
  | (y, w) :: l, h => by
    rw [List.lookup_cons] at h
    split at h
    · rename_i e
      cases h
      have : x = y := eq_of_beq e
      subst this
      exact List.mem_cons_self ..
    · exact List.mem_cons_of_mem _ (lookup_mem h)
theorem kwOf_mem {l : List (Nat × List Str × List Nat)} {n : Nat} {ks : List Str} {pm : List Nat} (h : kwOf l n ks = some pm) : (n, ks, pm) ∈ l := by
  obtain ⟨x, h1, h2⟩ := Option.map_eq_some_iff.mp h
  have hp := List.find?_some h1
  obtain ⟨e1, e2⟩ := band hp
  have e1' := eq_of_beq e1
  have e2' := eq_of_beq e2
  obtain ⟨a, b, c⟩ := x
  simp only at e1' e2' h2
  subst e1' e2' h2
  exact List.mem_of_find?_eq_some h1
theorem kbn_of {K : PySem.W.Frag} {x qual : Str} {params : Arguments} {body : List Stmt} {scope : Scope} {kws : List (Str × V)} {f : Addr} {fd : FuncData} {ps ks : List Str} {n : Nat} {pm : List Nat} (F : FunD K x qual params body scope [] kws f fd)
    (h : ∀ (kV doc p : Value) (an : Option Addr) (cdv ct : Value) (us ws : List Value), us.length = n → ws.length = ks.length → bindArgs (PySem.W.fnOf x qual params body scope .none kV doc p an cdv ct) ⟨us, ks.zip ws⟩ = pure (ps.zip (pick (us ++ ws) pm))) :
    KBn K fd ps n ks (fun us ws => pick (us ++ ws) pm) (fun vs zs => pick (vs ++ zs) pm) := by
  obtain ⟨oc, od, dV, kV, doc, p, an, cdv, ct, osl, rfl, lk, hcd, hD, hK⟩ := F.ex
  rcases hD with ⟨_, rfl⟩ | ⟨e, _⟩
  · exact ⟨fun s us ws _ l1 l2 => .of_eq (h kV doc p an cdv ct us ws l1 l2), fun r1 r2 => vals_pick (r1.append r2) pm⟩
  · exact absurd rfl e
end Bd

namespace Bd
open PySem L2
section
variable {α β : Type} {C : Cal} {e : En}
theorem bd_ok (a : α) (k : α → En → Out β) : (Out.ok a e).bind k = k a e := rfl
theorem bd_exc (x : PX) (k : α → En → Out β) : (Out.exc x e).bind k = .exc x e := rfl
theorem bd_bad (k : α → En → Out β) : (Out.bad : Out α).bind k = .bad := rfl
theorem fo_ok (a : α) (k : α → En → Fo) : (Out.ok a e).fo k = k a e := rfl
theorem fo_exc (x : PX) (k : α → En → Fo) : (Out.exc x e : Out α).fo k = .exc x e := rfl
theorem th_nx (k : En → Fo) : (Fo.nx e).andThen k = k e := rfl
theorem th_ret (r : PV × Fl) (k : En → Fo) : (Fo.ret r e).andThen k = .ret r e := rfl
theorem th_exc (r : PX) (k : En → Fo) : (Fo.exc r e).andThen k = .exc r e := rfl
theorem th_brk (k : En → Fo) : (Fo.brk e).andThen k = .brk e := rfl
theorem th_cnt (k : En → Fo) : (Fo.cnt e).andThen k = .cnt e := rfl
theorem tk_nx (k : En → Fo) : turnK k (.nx e) = k e := rfl
theorem tk_cnt (k : En → Fo) : turnK k (.cnt e) = k e := rfl
theorem tk_brk (k : En → Fo) : turnK k (.brk e) = .nx e := rfl
theorem tk_ret (r : PV × Fl) (k : En → Fo) : turnK k (.ret r e) = .ret r e := rfl
theorem tk_exc (r : PX) (k : En → Fo) : turnK k (.exc r e) = .exc r e := rfl
theorem x_nil : exec C .nil e = .nx e := rfl
theorem x_seq (a b : IS) : exec C (.seq a b) e = (exec C a e).andThen (exec C b) := rfl
def kAsg (i : Nat) (r : PV × Fl) (e1 : En) : Fo := .nx (e1.set i (some r))
theorem kAsg_eq (i : Nat) (r : PV × Fl) (e1 : En) : kAsg i r e1 = .nx (e1.set i (some r)) := rfl
theorem x_asg (i : Nat) (a : IE) : exec C (.asg i a) e = ((ev C a).1 e).fo (kAsg i) := rfl
def kUnp (is : List Nat) (r : PV × Fl) (e1 : En) : Fo := (match setG (.tup is) r.1 e1 with
    | some e2 => .nx e2
    | none => .bad)
theorem kUnp_eq (is : List Nat) (r : PV × Fl) (e1 : En) : kUnp is r e1 = (match setG (.tup is) r.1 e1 with
    | some e2 => .nx e2
    | none => .bad) := rfl
theorem x_unp (is : List Nat) (a : IE) : exec C (.unp is a) e = ((ev C a).1 e).fo (kUnp is) := rfl
def kPar (is : List Nat) (ps : List PV) (e1 : En) : Fo := if is.length = ps.length then .nx (setPar is ps e1) else .bad
theorem kPar_eq (is : List Nat) (ps : List PV) (e1 : En) : kPar is ps e1 = if is.length = ps.length then .nx (setPar is ps e1) else .bad := rfl
theorem x_par (is : List Nat) (a : IE) : exec C (.par is a) e = (evF C a e).fo (kPar is) := rfl
def kSet2 (i : Nat) (r : PV × Fl) (x : Opd) (e2 : En) : Fo := setItemE i x r.1 e2
theorem kSet2_eq (i : Nat) (r : PV × Fl) (x : Opd) (e2 : En) : kSet2 i r x e2 = setItemE i x r.1 e2 := rfl
def kDct2 (i : Nat) (r : PV × Fl) (x : Opd) (e2 : En) : Fo := setDctE i x r.1 e2
theorem kDct2_eq (i : Nat) (r : PV × Fl) (x : Opd) (e2 : En) : kDct2 i r x e2 = setDctE i x r.1 e2 := rfl
def kSet1 (C : Cal) (i : Nat) (ix : IE) (r : PV × Fl) (e1 : En) : Fo := if (lstAt e1 i).isSome then (opd ix (ev C ix).1 e1).fo (kSet2 i r) else if (dctAt e1 i).isSome then (opd ix (ev C ix).1 e1).fo (kDct2 i r) else .bad
theorem kSet1_eq (C : Cal) (i : Nat) (ix : IE) (r : PV × Fl) (e1 : En) : kSet1 C i ix r e1 = if (lstAt e1 i).isSome then (opd ix (ev C ix).1 e1).fo (kSet2 i r) else if (dctAt e1 i).isSome then (opd ix (ev C ix).1 e1).fo (kDct2 i r) else .bad := rfl
theorem x_seti (i : Nat) (ix a : IE) : exec C (.seti i ix a) e = ((ev C a).1 e).fo (kSet1 C i ix) := rfl
def kApp (i : Nat) (r : PV × Fl) (e1 : En) : Fo := appE i r.1 e1
theorem kApp_eq (i : Nat) (r : PV × Fl) (e1 : En) : kApp i r e1 = appE i r.1 e1 := rfl
theorem x_app (i : Nat) (a : IE) : exec C (.app i a) e = if (lstAt e i).isSome then ((ev C a).1 e).fo (kApp i) else .bad := rfl
def kExpr  (r : PV × Fl) (e1 : En) : Fo := .nx e1
theorem kExpr_eq  (r : PV × Fl) (e1 : En) : kExpr r e1 = .nx e1 := rfl
theorem x_expr (a : IE) : exec C (.expr a) e = ((ev C a).1 e).fo kExpr := rfl
theorem x_ret (a : IE) : exec C (.ret a) e = retE C a e := rfl
theorem x_retN : exec C .retN e = .ret (.non, .fz) e := rfl
def kIf (C : Cal) (a b : IS) (k : Bool) (e1 : En) : Fo := if k then exec C a e1 else exec C b e1
theorem kIf_eq (C : Cal) (a b : IS) (k : Bool) (e1 : En) : kIf C a b k e1 = if k then exec C a e1 else exec C b e1 := rfl
theorem x_ife (c : IE) (a b : IS) : exec C (.ife c a b) e = ((ev C c).2 e).fo (kIf C a b) := rfl
def kLoop (C : Cal) (g : IG) (b : IS) (xs : List PV) (e1 : En) : Fo := forLoop g (exec C b) xs e1
theorem kLoop_eq (C : Cal) (g : IG) (b : IS) (xs : List PV) (e1 : En) : kLoop C g b xs e1 = forLoop g (exec C b) xs e1 := rfl
theorem x_loop (g : IG) (it : IE) (b : IS) : exec C (.loop g it b) e = (evIt C it e).fo (kLoop C g b) := rfl
theorem x_whl (n : Nat) (c : IE) (b : IS) : exec C (.whl n c b) e = whileLoop (ev C c).2 (exec C b) n e := rfl
def kWh (c : En → Out Bool) (b : En → Fo) (n : Nat) (k : Bool) (e1 : En) : Fo := if k then turnK (whileLoop c b n) (b e1) else .nx e1
theorem kWh_eq (c : En → Out Bool) (b : En → Fo) (n : Nat) (k : Bool) (e1 : En) : kWh c b n k e1 = if k then turnK (whileLoop c b n) (b e1) else .nx e1 := rfl
theorem wl_succ (c : En → Out Bool) (b : En → Fo) (n : Nat) : whileLoop c b (n + 1) e = (c e).fo (kWh c b n) := rfl
theorem x_brk : exec C .brk e = .brk e := rfl
theorem x_cnt : exec C .cnt e = .cnt e := rfl
theorem x_pass : exec C .pass e = .nx e := rfl
theorem x_boom : exec C .boom e = .bad := rfl
theorem x_drop (is : List Nat) : exec C (.drop is) e = .nx (wipeE e is) := rfl
def kRa (c f : Str) (r : PV × Fl) (e1 : En) : Fo := .exc ⟨c, [f], [r.1]⟩ e1
theorem kRa_eq (c f : Str) (r : PV × Fl) (e1 : En) : kRa c f r e1 = .exc ⟨c, [f], [r.1]⟩ e1 := rfl
theorem x_raise (c : Str) (a : IE) : exec C (.raise c a) e = (match C.exf c with
    | none => .bad
    | some f => ((ev C a).1 e).fo (kRa c f)) := by rfl
theorem x_raise0 (c : Str) : exec C (.raise0 c) e = (match C.ex0 c with
    | none => .bad
    | some f => .exc ⟨c, [f], [.tup []]⟩ e) := by rfl
theorem x_putc (i : Nat) (k1 : Key) (x1 : PV) (k2 : Key) (x2 : PV) : exec C (.putc i k1 x1 k2 x2) e = (match dctAt e i with
    | some (.dk ks xs, fl) => if ks.length + 1 < sizeLine then .nx ((e.set i (some (.dk (dPutK ks k1) (dPutX ks xs k1 x1), fl))).set i (some (.dk (dPutK (dPutK ks k1) k2) (dPutX (dPutK ks k1) (dPutX ks xs k1 x1) k2 x2), fl))) else .bad
    | _ => .bad) := rfl
theorem x_try (b : IS) (c : Str) (i j : Nat) : exec C (.tryS b c i j) e = if C.und c c then tryK C c i j (exec C b e) else .bad := rfl
theorem ty_exc (c : Str) (i j : Nat) (x : PX) : tryK C c i j (.exc x e) = if C.und x.cls c && (e[i]?).isSome then .nx (((e.set i none).set j (some (excV x, .fz))).set i none) else .bad := rfl
theorem ty_nx (c : Str) (i j : Nat) : tryK C c i j (.nx e) = .nx e := rfl
theorem ty_ret (c : Str) (i j : Nat) (r : PV × Fl) : tryK C c i j (.ret r e) = .ret r e := rfl
theorem fl_nil (g : IG) (b : En → Fo) : forLoop g b [] e = .nx e := rfl
theorem fl_cons (g : IG) (b : En → Fo) (x : PV) (r : List PV) : forLoop g b (x :: r) e = match setG g x e with
    | none => .bad
    | some e1 => turnK (forLoop g b r) (b e1) := rfl
def kCl2 (y : Option PV) (ys : List PV) (e2 : En) : Out (List PV) := .ok (consO y ys) e2
theorem kCl2_eq (y : Option PV) (ys : List PV) (e2 : En) : kCl2 y ys e2 = .ok (consO y ys) e2 := rfl
def kCl1 (f : PV → En → Out (Option PV)) (r : List PV) (y : Option PV) (e1 : En) : Out (List PV) := (compLoop f r e1).bind (kCl2 y)
theorem kCl1_eq (f : PV → En → Out (Option PV)) (r : List PV) (y : Option PV) (e1 : En) : kCl1 f r y e1 = (compLoop f r e1).bind (kCl2 y) := rfl
theorem cl_nil (f : PV → En → Out (Option PV)) : compLoop f [] e = .ok [] e := rfl
theorem cl_cons (f : PV → En → Out (Option PV)) (x : PV) (r : List PV) : compLoop f (x :: r) e = (f x e).bind (kCl1 f r) := rfl
def kTr  (r : PV × Fl) (e1 : En) : Out Bool := liftB (truth r.1) e1
theorem kTr_eq  (r : PV × Fl) (e1 : En) : kTr r e1 = liftB (truth r.1) e1 := rfl
def kB2 (op : Operator) (x : Opd) (y : Opd) (e2 : En) : Out (PV × Fl) := liftO ((rsO e2 x).bind fun p => (rsO e2 y).bind fun q => binP op p q) e2
theorem kB2_eq (op : Operator) (x : Opd) (y : Opd) (e2 : En) : kB2 op x y e2 = liftO ((rsO e2 x).bind fun p => (rsO e2 y).bind fun q => binP op p q) e2 := rfl
def kB1 (C : Cal) (op : Operator) (b : IE) (x : Opd) (e1 : En) : Out (PV × Fl) := (opd b (ev C b).1 e1).bind (kB2 op x)
theorem kB1_eq (C : Cal) (op : Operator) (b : IE) (x : Opd) (e1 : En) : kB1 C op b x e1 = (opd b (ev C b).1 e1).bind (kB2 op x) := rfl
def kU (op : UnaryOp) (x : Opd) (e1 : En) : Out (PV × Fl) := liftO ((rsO e1 x).bind fun p => unP op p) e1
theorem kU_eq (op : UnaryOp) (x : Opd) (e1 : En) : kU op x e1 = liftO ((rsO e1 x).bind fun p => unP op p) e1 := rfl
def kTup  (ps : List PV) (e1 : En) : Out (PV × Fl) := okIf (decide (ps.length ≤ sizeLine)) (.tup ps, .fz) e1
theorem kTup_eq  (ps : List PV) (e1 : En) : kTup ps e1 = okIf (decide (ps.length ≤ sizeLine)) (.tup ps, .fz) e1 := rfl
def kLst  (ps : List PV) (e1 : En) : Out (PV × Fl) := okIf (decide (ps.length ≤ sizeLine)) (.lst ps, .own) e1
theorem kLst_eq  (ps : List PV) (e1 : En) : kLst ps e1 = okIf (decide (ps.length ≤ sizeLine)) (.lst ps, .own) e1 := rfl
def kS2 (x : Opd) (y : Opd) (e2 : En) : Out (PV × Fl) := fzO ((rsO e2 x).bind fun p => (rsO e2 y).bind fun q => ixP p q) e2
theorem kS2_eq (x : Opd) (y : Opd) (e2 : En) : kS2 x y e2 = fzO ((rsO e2 x).bind fun p => (rsO e2 y).bind fun q => ixP p q) e2 := rfl
def kS1 (C : Cal) (b : IE) (x : Opd) (e1 : En) : Out (PV × Fl) := (opd b (ev C b).1 e1).bind (kS2 x)
theorem kS1_eq (C : Cal) (b : IE) (x : Opd) (e1 : En) : kS1 C b x e1 = (opd b (ev C b).1 e1).bind (kS2 x) := rfl
def kC3 (x : Opd) (l : Option Int) (h : Option Int) (e3 : En) : Out (PV × Fl) := liftO ((rsO e3 x).bind fun p => slP p l h) e3
theorem kC3_eq (x : Opd) (l : Option Int) (h : Option Int) (e3 : En) : kC3 x l h e3 = liftO ((rsO e3 x).bind fun p => slP p l h) e3 := rfl
def kC2 (C : Cal) (hi : IE) (x : Opd) (l : Option Int) (e2 : En) : Out (PV × Fl) := (part hi (ev C hi).1 e2).bind (kC3 x l)
theorem kC2_eq (C : Cal) (hi : IE) (x : Opd) (l : Option Int) (e2 : En) : kC2 C hi x l e2 = (part hi (ev C hi).1 e2).bind (kC3 x l) := rfl
def kC1 (C : Cal) (lo hi : IE) (x : Opd) (e1 : En) : Out (PV × Fl) := (part lo (ev C lo).1 e1).bind (kC2 C hi x)
theorem kC1_eq (C : Cal) (lo hi : IE) (x : Opd) (e1 : En) : kC1 C lo hi x e1 = (part lo (ev C lo).1 e1).bind (kC2 C hi x) := rfl
def kCall (C : Cal) (f : Str) (gs : List Arg) (e1 : En) : Out (PV × Fl) := doCall C f gs e1
theorem kCall_eq (C : Cal) (f : Str) (gs : List Arg) (e1 : En) : kCall C f gs e1 = doCall C f gs e1 := rfl
def kK2 (C : Cal) (f : Str) (sg : List Bool) (n : Nat) (ks : List Str) (pm : List Nat) (us : List PV) (ws : List PV) (e2 : En) : Out (PV × Fl) := kwCall C f sg n ks pm us ws e2
theorem kK2_eq (C : Cal) (f : Str) (sg : List Bool) (n : Nat) (ks : List Str) (pm : List Nat) (us : List PV) (ws : List PV) (e2 : En) : kK2 C f sg n ks pm us ws e2 = kwCall C f sg n ks pm us ws e2 := rfl
def kK1 (C : Cal) (f : Str) (sg : List Bool) (n : Nat) (ks : List Str) (pm : List Nat) (ak : IE) (us : List PV) (e1 : En) : Out (PV × Fl) := (evF C ak e1).bind (kK2 C f sg n ks pm us)
theorem kK1_eq (C : Cal) (f : Str) (sg : List Bool) (n : Nat) (ks : List Str) (pm : List Nat) (ak : IE) (us : List PV) (e1 : En) : kK1 C f sg n ks pm ak us e1 = (evF C ak e1).bind (kK2 C f sg n ks pm us) := rfl
def kBl (f : Blt) (os : List Opd) (e1 : En) : Out (PV × Fl) := liftO ((rsOs e1 os).bind fun ps => bltP f ps) e1
theorem kBl_eq (f : Blt) (os : List Opd) (e1 : En) : kBl f os e1 = liftO ((rsOs e1 os).bind fun ps => bltP f ps) e1 := rfl
def kM2 (m : Mth) (x : Opd) (os : List Opd) (e2 : En) : Out (PV × Fl) := liftO ((rsO e2 x).bind fun p => (rsOs e2 os).bind fun ps => mthP m p ps) e2
theorem kM2_eq (m : Mth) (x : Opd) (os : List Opd) (e2 : En) : kM2 m x os e2 = liftO ((rsO e2 x).bind fun p => (rsOs e2 os).bind fun ps => mthP m p ps) e2 := rfl
def kM1 (C : Cal) (m : Mth) (as : IE) (x : Opd) (e1 : En) : Out (PV × Fl) := if kindO m (rsO e1 x) then (evOs C as e1).bind (kM2 m x) else .bad
theorem kM1_eq (C : Cal) (m : Mth) (as : IE) (x : Opd) (e1 : En) : kM1 C m as x e1 = if kindO m (rsO e1 x) then (evOs C as e1).bind (kM2 m x) else .bad := rfl
def kCo (C : Cal) (own : List Nat) (g : IG) (cond elt : IE) (xs : List PV) (e1 : En) : Out (PV × Fl) := if ownFz own e1 then compEnd own e1 (compLoop (compTurnE own g (ev C cond).2 (ev C elt).1) xs (wipeE e1 own)) else .bad
theorem kCo_eq (C : Cal) (own : List Nat) (g : IG) (cond elt : IE) (xs : List PV) (e1 : En) : kCo C own g cond elt xs e1 = if ownFz own e1 then compEnd own e1 (compLoop (compTurnE own g (ev C cond).2 (ev C elt).1) xs (wipeE e1 own)) else .bad := rfl
def kRg  (os : List Opd) (e1 : En) : Out (PV × Fl) := fzO ((rsOs e1 os).bind fun ps => (rngP ps).map .lst) e1
theorem kRg_eq  (os : List Opd) (e1 : En) : kRg os e1 = fzO ((rsOs e1 os).bind fun ps => (rngP ps).map .lst) e1 := rfl
def kEn  (r : PV × Fl) (e1 : En) : Out (PV × Fl) := fzO (enmP r.1) e1
theorem kEn_eq  (r : PV × Fl) (e1 : En) : kEn r e1 = fzO (enmP r.1) e1 := rfl
def kZ2 (r : PV × Fl) (q : PV × Fl) (e2 : En) : Out (PV × Fl) := fzO ((zipP r.1 q.1).map .lst) e2
theorem kZ2_eq (r : PV × Fl) (q : PV × Fl) (e2 : En) : kZ2 r q e2 = fzO ((zipP r.1 q.1).map .lst) e2 := rfl
def kZ1 (C : Cal) (b : IE) (r : PV × Fl) (e1 : En) : Out (PV × Fl) := ((ev C b).1 e1).bind (kZ2 r)
theorem kZ1_eq (C : Cal) (b : IE) (r : PV × Fl) (e1 : En) : kZ1 C b r e1 = ((ev C b).1 e1).bind (kZ2 r) := rfl
def kBi  (x : Opd) (e1 : En) : Out (PV × Fl) := liftO ((rsO e1 x).bind bitsP) e1
theorem kBi_eq  (x : Opd) (e1 : En) : kBi x e1 = liftO ((rsO e1 x).bind bitsP) e1 := rfl
def kMk (c f : Str) (r : PV × Fl) (e1 : En) : Out (PV × Fl) := liftO (some (.exv c [f] [r.1])) e1
theorem kMk_eq (c f : Str) (r : PV × Fl) (e1 : En) : kMk c f r e1 = liftO (some (.exv c [f] [r.1])) e1 := rfl
def kIx (C : Cal) (c : Str) (r : PV × Fl) (e1 : En) : Out (PV × Fl) := fzO (isxP C c r.1) e1
theorem kIx_eq (C : Cal) (c : Str) (r : PV × Fl) (e1 : En) : kIx C c r e1 = fzO (isxP C c r.1) e1 := rfl
def kFl (C : Cal) (f : Str) (r : PV × Fl) (e1 : En) : Out (PV × Fl) := fzO (fldP C f r.1) e1
theorem kFl_eq (C : Cal) (f : Str) (r : PV × Fl) (e1 : En) : kFl C f r e1 = fzO (fldP C f r.1) e1 := rfl
def kCv2 (C : Cal) (x : Str) (ps : List PV) (e2 : En) : Out (PV × Fl) := callV C x ps e2
theorem kCv2_eq (C : Cal) (x : Str) (ps : List PV) (e2 : En) : kCv2 C x ps e2 = callV C x ps e2 := rfl
def kCv1 (C : Cal) (as : IE) (r : PV × Fl) (e1 : En) : Out (PV × Fl) := (match fnOf? r.1 with
    | some x => if (C.sig x).isSome then (evF C as e1).bind (kCv2 C x) else .bad
    | none => .bad)
theorem kCv1_eq (C : Cal) (as : IE) (r : PV × Fl) (e1 : En) : kCv1 C as r e1 = (match fnOf? r.1 with
    | some x => if (C.sig x).isSome then (evF C as e1).bind (kCv2 C x) else .bad
    | none => .bad) := rfl
def kLi2 (x : Opd) (y : Opd) (e2 : En) : Out (PV × Fl) := liftO ((rsO e2 x).bind fun p => (rsO e2 y).bind fun q => lidxP p q) e2
theorem kLi2_eq (x : Opd) (y : Opd) (e2 : En) : kLi2 x y e2 = liftO ((rsO e2 x).bind fun p => (rsO e2 y).bind fun q => lidxP p q) e2 := rfl
def kLi1 (C : Cal) (a : IE) (x : Opd) (e1 : En) : Out (PV × Fl) := if isLst (rsO e1 x) then (opd a (ev C a).1 e1).bind (kLi2 x) else .bad
theorem kLi1_eq (C : Cal) (a : IE) (x : Opd) (e1 : En) : kLi1 C a x e1 = if isLst (rsO e1 x) then (opd a (ev C a).1 e1).bind (kLi2 x) else .bad := rfl
def kL1  (x : Opd) (e1 : En) : Out (PV × Fl) := liftO ((rsO e1 x).bind fun p => lrngP [p]) e1
theorem kL1_eq  (x : Opd) (e1 : En) : kL1 x e1 = liftO ((rsO e1 x).bind fun p => lrngP [p]) e1 := rfl
def kL3 (x : Opd) (y : Opd) (e2 : En) : Out (PV × Fl) := liftO ((rsO e2 x).bind fun p => (rsO e2 y).bind fun q => lrngP [p, q]) e2
theorem kL3_eq (x : Opd) (y : Opd) (e2 : En) : kL3 x y e2 = liftO ((rsO e2 x).bind fun p => (rsO e2 y).bind fun q => lrngP [p, q]) e2 := rfl
def kL2 (C : Cal) (b : IE) (x : Opd) (e1 : En) : Out (PV × Fl) := (opd b (ev C b).1 e1).bind (kL3 x)
theorem kL2_eq (C : Cal) (b : IE) (x : Opd) (e1 : En) : kL2 C b x e1 = (opd b (ev C b).1 e1).bind (kL3 x) := rfl
def kSs  (x : Opd) (e1 : En) : Out (PV × Fl) := liftO ((rsO e1 x).bind ssetP) e1
theorem kSs_eq  (x : Opd) (e1 : En) : kSs x e1 = liftO ((rsO e1 x).bind ssetP) e1 := rfl
theorem v_int (i : Int) : (ev C (.int i)).1 e = .ok (.int i, .fz) e := rfl
theorem t_int (i : Int) : (ev C (.int i)).2 e = ((ev C (.int i)).1 e).bind kTr := rfl
theorem v_str (x : Str) : (ev C (.str x)).1 e = .ok (.str x, .fz) e := rfl
theorem t_str (x : Str) : (ev C (.str x)).2 e = ((ev C (.str x)).1 e).bind kTr := rfl
theorem v_bl (b : Bool) : (ev C (.bl b)).1 e = .ok (.bl b, .fz) e := rfl
theorem t_bl (b : Bool) : (ev C (.bl b)).2 e = ((ev C (.bl b)).1 e).bind kTr := rfl
theorem v_non  : (ev C .non).1 e = .ok (.non, .fz) e := rfl
theorem t_non  : (ev C .non).2 e = ((ev C .non).1 e).bind kTr := rfl
theorem v_cst (x : Str) : (ev C (.cst x)).1 e = fzO (C.cst x) e := rfl
theorem t_cst (x : Str) : (ev C (.cst x)).2 e = ((ev C (.cst x)).1 e).bind kTr := rfl
theorem v_fnv (x : Str) : (ev C (.fnv x)).1 e = okIf (C.sig x).isSome (.fn x, .fz) e := rfl
theorem t_fnv (x : Str) : (ev C (.fnv x)).2 e = ((ev C (.fnv x)).1 e).bind kTr := rfl
theorem v_tyv (t : TyN) : (ev C (.tyv t)).1 e = .ok (.ty t, .fz) e := rfl
theorem t_tyv (t : TyN) : (ev C (.tyv t)).2 e = ((ev C (.tyv t)).1 e).bind kTr := rfl
theorem v_bin (op : Operator) (a b : IE) : (ev C (.bin op a b)).1 e = (opd a (ev C a).1 e).bind (kB1 C op b) := rfl
theorem t_bin (op : Operator) (a b : IE) : (ev C (.bin op a b)).2 e = ((ev C (.bin op a b)).1 e).bind kTr := rfl
theorem v_un (op : UnaryOp) (a : IE) : (ev C (.un op a)).1 e = (opd a (ev C a).1 e).bind (kU op) := rfl
theorem t_un (op : UnaryOp) (a : IE) : (ev C (.un op a)).2 e = ((ev C (.un op a)).1 e).bind kTr := rfl
theorem v_tup (as : IE) : (ev C (.tup as)).1 e = (evF C as e).bind kTup := rfl
theorem t_tup (as : IE) : (ev C (.tup as)).2 e = ((ev C (.tup as)).1 e).bind kTr := rfl
theorem v_lst (as : IE) : (ev C (.lst as)).1 e = (evF C as e).bind kLst := rfl
theorem t_lst (as : IE) : (ev C (.lst as)).2 e = ((ev C (.lst as)).1 e).bind kTr := rfl
theorem v_sub (a b : IE) : (ev C (.sub a b)).1 e = (opd a (ev C a).1 e).bind (kS1 C b) := rfl
theorem t_sub (a b : IE) : (ev C (.sub a b)).2 e = ((ev C (.sub a b)).1 e).bind kTr := rfl
theorem v_slc (a lo hi : IE) : (ev C (.slc a lo hi)).1 e = (opd a (ev C a).1 e).bind (kC1 C lo hi) := rfl
theorem t_slc (a lo hi : IE) : (ev C (.slc a lo hi)).2 e = ((ev C (.slc a lo hi)).1 e).bind kTr := rfl
theorem v_call (f : Str) (as : IE) : (ev C (.call f as)).1 e = (match C.sig f with
    | none => .bad
    | some sg => (evArg C as sg e).bind (kCall C f)) := rfl
theorem t_call (f : Str) (as : IE) : (ev C (.call f as)).2 e = ((ev C (.call f as)).1 e).bind kTr := rfl
theorem v_callk (f : Str) (n : Nat) (ks : List Str) (ap ak : IE) : (ev C (.callk f n ks ap ak)).1 e = (match C.sig f, C.kw f n ks with
    | some sg, some pm => (evF C ap e).bind (kK1 C f sg n ks pm ak)
    | _, _ => .bad) := rfl
theorem t_callk (f : Str) (n : Nat) (ks : List Str) (ap ak : IE) : (ev C (.callk f n ks ap ak)).2 e = ((ev C (.callk f n ks ap ak)).1 e).bind kTr := rfl
theorem v_blt (f : Blt) (as : IE) : (ev C (.blt f as)).1 e = (evOs C as e).bind (kBl f) := rfl
theorem t_blt (f : Blt) (as : IE) : (ev C (.blt f as)).2 e = ((ev C (.blt f as)).1 e).bind kTr := rfl
theorem v_mth (m : Mth) (o as : IE) : (ev C (.mth m o as)).1 e = (opd o (ev C o).1 e).bind (kM1 C m as) := rfl
theorem t_mth (m : Mth) (o as : IE) : (ev C (.mth m o as)).2 e = ((ev C (.mth m o as)).1 e).bind kTr := rfl
theorem v_comp (own : List Nat) (g : IG) (it cond elt : IE) : (ev C (.comp own g it cond elt)).1 e = (evIt C it e).bind (kCo C own g cond elt) := comp_ev e
theorem t_comp (own : List Nat) (g : IG) (it cond elt : IE) : (ev C (.comp own g it cond elt)).2 e = ((ev C (.comp own g it cond elt)).1 e).bind kTr := rfl
theorem v_rng (as : IE) : (ev C (.rng as)).1 e = (evOs C as e).bind kRg := rfl
theorem t_rng (as : IE) : (ev C (.rng as)).2 e = ((ev C (.rng as)).1 e).bind kTr := rfl
theorem v_enm (a : IE) : (ev C (.enm a)).1 e = ((ev C a).1 e).bind kEn := rfl
theorem t_enm (a : IE) : (ev C (.enm a)).2 e = ((ev C (.enm a)).1 e).bind kTr := rfl
theorem v_zip (a b : IE) : (ev C (.zip a b)).1 e = ((ev C a).1 e).bind (kZ1 C b) := rfl
theorem t_zip (a b : IE) : (ev C (.zip a b)).2 e = ((ev C (.zip a b)).1 e).bind kTr := rfl
theorem v_dnew (t : Bool) : (ev C (.dnew t)).1 e = liftO (some (if t then .dt [] [] else .dk [] [])) e := rfl
theorem t_dnew (t : Bool) : (ev C (.dnew t)).2 e = ((ev C (.dnew t)).1 e).bind kTr := rfl
theorem v_ddis (ks : List Key) (xs : List PV) : (ev C (.ddis ks xs)).1 e = liftO (some (.dk ks xs)) e := rfl
theorem t_ddis (ks : List Key) (xs : List PV) : (ev C (.ddis ks xs)).2 e = ((ev C (.ddis ks xs)).1 e).bind kTr := rfl
theorem v_mk0 (c : Str) : (ev C (.mk0 c)).1 e = (match C.ex0 c with
    | none => .bad
    | some f => liftO (some (.exv c [f] [.tup []])) e) := rfl
theorem t_mk0 (c : Str) : (ev C (.mk0 c)).2 e = ((ev C (.mk0 c)).1 e).bind kTr := rfl
theorem v_mk1 (c : Str) (a : IE) : (ev C (.mk1 c a)).1 e = (match C.exf c with
    | none => .bad
    | some f => ((ev C a).1 e).bind (kMk c f)) := rfl
theorem t_mk1 (c : Str) (a : IE) : (ev C (.mk1 c a)).2 e = ((ev C (.mk1 c a)).1 e).bind kTr := rfl
theorem v_mkk (c q : Str) (a : IE) : (ev C (.mkk c q a)).1 e = (match C.exf c with
    | none => .bad
    | some f => if C.exq c = some q then ((ev C a).1 e).bind (kMk c f) else .bad) := rfl
theorem t_mkk (c q : Str) (a : IE) : (ev C (.mkk c q a)).2 e = ((ev C (.mkk c q a)).1 e).bind kTr := rfl
theorem v_isx (a : IE) (c : Str) : (ev C (.isx a c)).1 e = if C.icl c = true then ((ev C a).1 e).bind (kIx C c) else .bad := rfl
theorem t_isx (a : IE) (c : Str) : (ev C (.isx a c)).2 e = ((ev C (.isx a c)).1 e).bind kTr := rfl
theorem v_fld (a : IE) (f : Str) : (ev C (.fld a f)).1 e = ((ev C a).1 e).bind (kFl C f) := rfl
theorem t_fld (a : IE) (f : Str) : (ev C (.fld a f)).2 e = ((ev C (.fld a f)).1 e).bind kTr := rfl
theorem v_callv (f as : IE) : (ev C (.callv f as)).1 e = ((ev C f).1 e).bind (kCv1 C as) := rfl
theorem t_callv (f as : IE) : (ev C (.callv f as)).2 e = ((ev C (.callv f as)).1 e).bind kTr := rfl
theorem v_lidx (o a : IE) : (ev C (.lidx o a)).1 e = (opd o (ev C o).1 e).bind (kLi1 C a) := rfl
theorem t_lidx (o a : IE) : (ev C (.lidx o a)).2 e = ((ev C (.lidx o a)).1 e).bind kTr := rfl
theorem v_bits (a : IE) : (ev C (.bits a)).1 e = (opd a (ev C a).1 e).bind kBi := rfl
theorem t_bits (a : IE) : (ev C (.bits a)).2 e = ((ev C (.bits a)).1 e).bind kTr := rfl
theorem v_lrn1 (a : IE) : (ev C (.lrn1 a)).1 e = (opd a (ev C a).1 e).bind kL1 := rfl
theorem t_lrn1 (a : IE) : (ev C (.lrn1 a)).2 e = ((ev C (.lrn1 a)).1 e).bind kTr := rfl
theorem v_lrng (a b : IE) : (ev C (.lrng a b)).1 e = (opd a (ev C a).1 e).bind (kL2 C b) := rfl
theorem t_lrng (a b : IE) : (ev C (.lrng a b)).2 e = ((ev C (.lrng a b)).1 e).bind kTr := rfl
theorem v_sset (a : IE) : (ev C (.sset a)).1 e = (opd a (ev C a).1 e).bind kSs := rfl
theorem t_sset (a : IE) : (ev C (.sset a)).2 e = ((ev C (.sset a)).1 e).bind kTr := rfl
def kVb  (b : Bool) (e1 : En) : Out (PV × Fl) := .ok (.bl b, .fz) e1
theorem kVb_eq  (b : Bool) (e1 : En) : kVb b e1 = .ok (.bl b, .fz) e1 := rfl
def kQ2 (op : CmpOp) (x : Opd) (y : Opd) (e2 : En) : Out Bool := cmp2 op x y e2
theorem kQ2_eq (op : CmpOp) (x : Opd) (y : Opd) (e2 : En) : kQ2 op x y e2 = cmp2 op x y e2 := rfl
def kQ1 (C : Cal) (op : CmpOp) (b : IE) (x : Opd) (e1 : En) : Out Bool := (opd b (ev C b).1 e1).bind (kQ2 op x)
theorem kQ1_eq (C : Cal) (op : CmpOp) (b : IE) (x : Opd) (e1 : En) : kQ1 C op b x e1 = (opd b (ev C b).1 e1).bind (kQ2 op x) := rfl
def kH4 (op' : CmpOp) (y : Opd) (z : Opd) (e4 : En) : Out Bool := cmp2 op' y z e4
theorem kH4_eq (op' : CmpOp) (y : Opd) (z : Opd) (e4 : En) : kH4 op' y z e4 = cmp2 op' y z e4 := rfl
def kH3 (C : Cal) (op' : CmpOp) (c : IE) (y : Opd) (k : Bool) (e3 : En) : Out Bool := if k then (opd c (ev C c).1 e3).bind (kH4 op' y) else .ok false e3
theorem kH3_eq (C : Cal) (op' : CmpOp) (c : IE) (y : Opd) (k : Bool) (e3 : En) : kH3 C op' c y k e3 = if k then (opd c (ev C c).1 e3).bind (kH4 op' y) else .ok false e3 := rfl
def kH2 (C : Cal) (op op' : CmpOp) (c : IE) (x : Opd) (y : Opd) (e2 : En) : Out Bool := (cmp2 op x y e2).bind (kH3 C op' c y)
theorem kH2_eq (C : Cal) (op op' : CmpOp) (c : IE) (x : Opd) (y : Opd) (e2 : En) : kH2 C op op' c x y e2 = (cmp2 op x y e2).bind (kH3 C op' c y) := rfl
def kH1 (C : Cal) (op op' : CmpOp) (b c : IE) (x : Opd) (e1 : En) : Out Bool := (opd b (ev C b).1 e1).bind (kH2 C op op' c x)
theorem kH1_eq (C : Cal) (op op' : CmpOp) (b c : IE) (x : Opd) (e1 : En) : kH1 C op op' b c x e1 = (opd b (ev C b).1 e1).bind (kH2 C op op' c x) := rfl
theorem v_cmp (op : CmpOp) (a b : IE) : (ev C (.cmp op a b)).1 e = ((ev C (.cmp op a b)).2 e).bind kVb := rfl
theorem t_cmp (op : CmpOp) (a b : IE) : (ev C (.cmp op a b)).2 e = (opd a (ev C a).1 e).bind (kQ1 C op b) := rfl
theorem v_chn (op op' : CmpOp) (a b c : IE) : (ev C (.chn op op' a b c)).1 e = ((ev C (.chn op op' a b c)).2 e).bind kVb := rfl
theorem t_chn (op op' : CmpOp) (a b c : IE) : (ev C (.chn op op' a b c)).2 e = (opd a (ev C a).1 e).bind (kH1 C op op' b c) := rfl
theorem v_var (i : Nat) : (ev C (.var i)).1 e = evVar i e := rfl
theorem t_var (i : Nat) : (ev C (.var i)).2 e = tsVar i e := rfl
def kN2  (b : Bool) (e2 : En) : Out (PV × Fl) := .ok (.bl (!b), .fz) e2
theorem kN2_eq  (b : Bool) (e2 : En) : kN2 b e2 = .ok (.bl (!b), .fz) e2 := rfl
def kN1  (x : Opd) (e1 : En) : Out (PV × Fl) := (liftB ((rsO e1 x).bind truth) e1).bind kN2
theorem kN1_eq  (x : Opd) (e1 : En) : kN1 x e1 = (liftB ((rsO e1 x).bind truth) e1).bind kN2 := rfl
def kNt  (b : Bool) (e1 : En) : Out Bool := .ok (!b) e1
theorem kNt_eq  (b : Bool) (e1 : En) : kNt b e1 = .ok (!b) e1 := rfl
theorem v_not (a : IE) : (ev C (.not a)).1 e = (opd a (ev C a).1 e).bind kN1 := rfl
theorem t_not (a : IE) : (ev C (.not a)).2 e = ((ev C a).2 e).bind kNt := rfl
def kAn (C : Cal) (b : IE) (r : PV × Fl) (e1 : En) : Out (PV × Fl) := (match truth r.1 with
      | some true => (ev C b).1 e1
      | some false => .ok r e1
      | none => .bad)
theorem kAn_eq (C : Cal) (b : IE) (r : PV × Fl) (e1 : En) : kAn C b r e1 = (match truth r.1 with
      | some true => (ev C b).1 e1
      | some false => .ok r e1
      | none => .bad) := rfl
def kAt (C : Cal) (b : IE) (k : Bool) (e1 : En) : Out Bool := if k then (ev C b).2 e1 else .ok false e1
theorem kAt_eq (C : Cal) (b : IE) (k : Bool) (e1 : En) : kAt C b k e1 = if k then (ev C b).2 e1 else .ok false e1 := rfl
theorem v_and (a b : IE) : (ev C (.and a b)).1 e = ((ev C a).1 e).bind (kAn C b) := rfl
theorem t_and (a b : IE) : (ev C (.and a b)).2 e = ((ev C a).2 e).bind (kAt C b) := rfl
def kOn (C : Cal) (b : IE) (r : PV × Fl) (e1 : En) : Out (PV × Fl) := (match truth r.1 with
      | some false => (ev C b).1 e1
      | some true => .ok r e1
      | none => .bad)
theorem kOn_eq (C : Cal) (b : IE) (r : PV × Fl) (e1 : En) : kOn C b r e1 = (match truth r.1 with
      | some false => (ev C b).1 e1
      | some true => .ok r e1
      | none => .bad) := rfl
def kOt (C : Cal) (b : IE) (k : Bool) (e1 : En) : Out Bool := if k then .ok true e1 else (ev C b).2 e1
theorem kOt_eq (C : Cal) (b : IE) (k : Bool) (e1 : En) : kOt C b k e1 = if k then .ok true e1 else (ev C b).2 e1 := rfl
theorem v_or (a b : IE) : (ev C (.or a b)).1 e = ((ev C a).1 e).bind (kOn C b) := rfl
theorem t_or (a b : IE) : (ev C (.or a b)).2 e = ((ev C a).2 e).bind (kOt C b) := rfl
def kIv (C : Cal) (a b : IE) (k : Bool) (e1 : En) : Out (PV × Fl) := if k then (ev C a).1 e1 else (ev C b).1 e1
theorem kIv_eq (C : Cal) (a b : IE) (k : Bool) (e1 : En) : kIv C a b k e1 = if k then (ev C a).1 e1 else (ev C b).1 e1 := rfl
def kIt (C : Cal) (a b : IE) (k : Bool) (e1 : En) : Out Bool := if k then (ev C a).2 e1 else (ev C b).2 e1
theorem kIt_eq (C : Cal) (a b : IE) (k : Bool) (e1 : En) : kIt C a b k e1 = if k then (ev C a).2 e1 else (ev C b).2 e1 := rfl
theorem v_ife (c a b : IE) : (ev C (.ife c a b)).1 e = ((ev C c).2 e).bind (kIv C a b) := rfl
theorem t_ife (c a b : IE) : (ev C (.ife c a b)).2 e = ((ev C c).2 e).bind (kIt C a b) := rfl
theorem v_seq (a : IE) : (ev C (.seq a)).1 e = (ev C a).1 e := rfl
theorem v_no : (ev C .no).2 e = .ok true e := rfl
def kOs2 (x : Opd) (xs : List Opd) (e2 : En) : Out (List Opd) := .ok (x :: xs) e2
theorem kOs2_eq (x : Opd) (xs : List Opd) (e2 : En) : kOs2 x xs e2 = .ok (x :: xs) e2 := rfl
def kOs1 (C : Cal) (r : IE) (x : Opd) (e1 : En) : Out (List Opd) := (evOs C r e1).bind (kOs2 x)
theorem kOs1_eq (C : Cal) (r : IE) (x : Opd) (e1 : En) : kOs1 C r x e1 = (evOs C r e1).bind (kOs2 x) := rfl
theorem os_nil : evOs C .nil e = .ok [] e := rfl
theorem os_cons (a r : IE) : evOs C (.cons a r) e = (opd a (ev C a).1 e).bind (kOs1 C r) := rfl
def kF2 (x : PV × Fl) (xs : List PV) (e2 : En) : Out (List PV) := .ok (x.1 :: xs) e2
theorem kF2_eq (x : PV × Fl) (xs : List PV) (e2 : En) : kF2 x xs e2 = .ok (x.1 :: xs) e2 := rfl
def kF1 (C : Cal) (r : IE) (x : PV × Fl) (e1 : En) : Out (List PV) := (evF C r e1).bind (kF2 x)
theorem kF1_eq (C : Cal) (r : IE) (x : PV × Fl) (e1 : En) : kF1 C r x e1 = (evF C r e1).bind (kF2 x) := rfl
theorem f_nil : evF C .nil e = .ok [] e := rfl
theorem f_cons (a r : IE) : evF C (.cons a r) e = ((ev C a).1 e).bind (kF1 C r) := rfl
def kG2 (x : PV × Fl) (xs : List Arg) (e2 : En) : Out (List Arg) := .ok (.val x.1 :: xs) e2
theorem kG2_eq (x : PV × Fl) (xs : List Arg) (e2 : En) : kG2 x xs e2 = .ok (.val x.1 :: xs) e2 := rfl
def kG1 (C : Cal) (r : IE) (sg : List Bool) (x : PV × Fl) (e1 : En) : Out (List Arg) := (evArg C r sg e1).bind (kG2 x)
theorem kG1_eq (C : Cal) (r : IE) (sg : List Bool) (x : PV × Fl) (e1 : En) : kG1 C r sg x e1 = (evArg C r sg e1).bind (kG2 x) := rfl
def kG3 (i : Nat) (xs : List Arg) (e2 : En) : Out (List Arg) := .ok (.slot i :: xs) e2
theorem kG3_eq (i : Nat) (xs : List Arg) (e2 : En) : kG3 i xs e2 = .ok (.slot i :: xs) e2 := rfl
theorem g_nil : evArg C .nil [] e = .ok [] e := rfl
theorem g_val (a r : IE) (sg : List Bool) : evArg C (.cons a r) (false :: sg) e = ((ev C a).1 e).bind (kG1 C r sg) := rfl
theorem g_slot (i : Nat) (r : IE) (sg : List Bool) : evArg C (.cons (.var i) r) (true :: sg) e = (match e[i]? with
        | some (some (_, .fz)) => .bad
        | some (some (_, _)) => (evArg C r sg e).bind (kG3 i)
        | _ => .bad) := rfl
def kGt  (x : PV × Fl) (e1 : En) : Out (List Arg) := (match x.2 with
        | .own => .ok [.tmp x.1] e1
        | _ => .bad)
theorem kGt_eq  (x : PV × Fl) (e1 : En) : kGt x e1 = (match x.2 with
        | .own => .ok [.tmp x.1] e1
        | _ => .bad) := rfl
theorem g_tmpc (f : Str) (as : IE) : evArg C (.cons (.call f as) .nil) [true] e = ((ev C (.call f as)).1 e).bind kGt := rfl
theorem o_var (i : Nat) (v : En → Out (PV × Fl)) : opd (.var i) v e = (match e[i]? with
    | some (some _) => .ok (.slot i) e
    | _ => .bad) := rfl
def kIe  (r : PV × Fl) (e1 : En) : Out (List PV) := itO (itemsP r.1) e1
theorem kIe_eq  (r : PV × Fl) (e1 : En) : kIe r e1 = itO (itemsP r.1) e1 := rfl
theorem it_ev (it : IE) : evIt C it e = ((ev C it).1 e).bind kIe := rfl
theorem p_no (v : En → Out (PV × Fl)) : part .no v e = .ok none e := rfl
def kRt  (r : PV × Fl) (e1 : En) : Fo := .ret r e1
theorem kRt_eq  (r : PV × Fl) (e1 : En) : kRt r e1 = .ret r e1 := rfl
theorem r_var (i : Nat) : retE C (.var i) e = (match e[i]? with
    | some (some (p, .own)) => .ret (p, .own) (e.set i none)
    | _ => ((ev C (.var i)).1 e).fo kRt) := rfl
def kV  (r : PV × Fl) (e1 : En) : Out Opd := .ok (.val r.1) e1
theorem kV_eq  (r : PV × Fl) (e1 : En) : kV r e1 = .ok (.val r.1) e1 := rfl
def kPt  (x : Opd) (e1 : En) : Out (Option Int) := (match rsO e1 x with
    | some (.int i) => .ok (some i) e1
    | _ => .bad)
theorem kPt_eq  (x : Opd) (e1 : En) : kPt x e1 = (match rsO e1 x with
    | some (.int i) => .ok (some i) e1
    | _ => .bad) := rfl
theorem o_int (i : Int) (v : En → Out (PV × Fl)) : opd (.int i) v e = (v e).bind kV := rfl
theorem r_int (i : Int) : retE C (.int i) e = ((ev C (.int i)).1 e).fo kRt := rfl
theorem p_int (i : Int) (v : En → Out (PV × Fl)) : part (.int i) v e = (opd (.int i) v e).bind kPt := rfl
theorem o_str (x : Str) (v : En → Out (PV × Fl)) : opd (.str x) v e = (v e).bind kV := rfl
theorem r_str (x : Str) : retE C (.str x) e = ((ev C (.str x)).1 e).fo kRt := rfl
theorem p_str (x : Str) (v : En → Out (PV × Fl)) : part (.str x) v e = (opd (.str x) v e).bind kPt := rfl
theorem o_bl (b : Bool) (v : En → Out (PV × Fl)) : opd (.bl b) v e = (v e).bind kV := rfl
theorem r_bl (b : Bool) : retE C (.bl b) e = ((ev C (.bl b)).1 e).fo kRt := rfl
theorem p_bl (b : Bool) (v : En → Out (PV × Fl)) : part (.bl b) v e = (opd (.bl b) v e).bind kPt := rfl
theorem o_non  (v : En → Out (PV × Fl)) : opd .non v e = (v e).bind kV := rfl
theorem r_non  : retE C .non e = ((ev C .non).1 e).fo kRt := rfl
theorem p_non  (v : En → Out (PV × Fl)) : part .non v e = (opd .non v e).bind kPt := rfl
theorem o_cst (x : Str) (v : En → Out (PV × Fl)) : opd (.cst x) v e = (v e).bind kV := rfl
theorem r_cst (x : Str) : retE C (.cst x) e = ((ev C (.cst x)).1 e).fo kRt := rfl
theorem p_cst (x : Str) (v : En → Out (PV × Fl)) : part (.cst x) v e = (opd (.cst x) v e).bind kPt := rfl
theorem o_fnv (x : Str) (v : En → Out (PV × Fl)) : opd (.fnv x) v e = (v e).bind kV := rfl
theorem r_fnv (x : Str) : retE C (.fnv x) e = ((ev C (.fnv x)).1 e).fo kRt := rfl
theorem p_fnv (x : Str) (v : En → Out (PV × Fl)) : part (.fnv x) v e = (opd (.fnv x) v e).bind kPt := rfl
theorem o_tyv (t : TyN) (v : En → Out (PV × Fl)) : opd (.tyv t) v e = (v e).bind kV := rfl
theorem r_tyv (t : TyN) : retE C (.tyv t) e = ((ev C (.tyv t)).1 e).fo kRt := rfl
theorem p_tyv (t : TyN) (v : En → Out (PV × Fl)) : part (.tyv t) v e = (opd (.tyv t) v e).bind kPt := rfl
theorem o_bin (op : Operator) (a b : IE) (v : En → Out (PV × Fl)) : opd (.bin op a b) v e = (v e).bind kV := rfl
theorem r_bin (op : Operator) (a b : IE) : retE C (.bin op a b) e = ((ev C (.bin op a b)).1 e).fo kRt := rfl
theorem p_bin (op : Operator) (a b : IE) (v : En → Out (PV × Fl)) : part (.bin op a b) v e = (opd (.bin op a b) v e).bind kPt := rfl
theorem o_un (op : UnaryOp) (a : IE) (v : En → Out (PV × Fl)) : opd (.un op a) v e = (v e).bind kV := rfl
theorem r_un (op : UnaryOp) (a : IE) : retE C (.un op a) e = ((ev C (.un op a)).1 e).fo kRt := rfl
theorem p_un (op : UnaryOp) (a : IE) (v : En → Out (PV × Fl)) : part (.un op a) v e = (opd (.un op a) v e).bind kPt := rfl
theorem o_tup (as : IE) (v : En → Out (PV × Fl)) : opd (.tup as) v e = (v e).bind kV := rfl
theorem r_tup (as : IE) : retE C (.tup as) e = ((ev C (.tup as)).1 e).fo kRt := rfl
theorem p_tup (as : IE) (v : En → Out (PV × Fl)) : part (.tup as) v e = (opd (.tup as) v e).bind kPt := rfl
theorem o_lst (as : IE) (v : En → Out (PV × Fl)) : opd (.lst as) v e = (v e).bind kV := rfl
theorem r_lst (as : IE) : retE C (.lst as) e = ((ev C (.lst as)).1 e).fo kRt := rfl
theorem p_lst (as : IE) (v : En → Out (PV × Fl)) : part (.lst as) v e = (opd (.lst as) v e).bind kPt := rfl
theorem o_sub (a b : IE) (v : En → Out (PV × Fl)) : opd (.sub a b) v e = (v e).bind kV := rfl
theorem r_sub (a b : IE) : retE C (.sub a b) e = ((ev C (.sub a b)).1 e).fo kRt := rfl
theorem p_sub (a b : IE) (v : En → Out (PV × Fl)) : part (.sub a b) v e = (opd (.sub a b) v e).bind kPt := rfl
theorem o_slc (a lo hi : IE) (v : En → Out (PV × Fl)) : opd (.slc a lo hi) v e = (v e).bind kV := rfl
theorem r_slc (a lo hi : IE) : retE C (.slc a lo hi) e = ((ev C (.slc a lo hi)).1 e).fo kRt := rfl
theorem p_slc (a lo hi : IE) (v : En → Out (PV × Fl)) : part (.slc a lo hi) v e = (opd (.slc a lo hi) v e).bind kPt := rfl
theorem o_call (f : Str) (as : IE) (v : En → Out (PV × Fl)) : opd (.call f as) v e = (v e).bind kV := rfl
theorem r_call (f : Str) (as : IE) : retE C (.call f as) e = ((ev C (.call f as)).1 e).fo kRt := rfl
theorem p_call (f : Str) (as : IE) (v : En → Out (PV × Fl)) : part (.call f as) v e = (opd (.call f as) v e).bind kPt := rfl
theorem o_callk (f : Str) (n : Nat) (ks : List Str) (ap ak : IE) (v : En → Out (PV × Fl)) : opd (.callk f n ks ap ak) v e = (v e).bind kV := rfl
theorem r_callk (f : Str) (n : Nat) (ks : List Str) (ap ak : IE) : retE C (.callk f n ks ap ak) e = ((ev C (.callk f n ks ap ak)).1 e).fo kRt := rfl
theorem p_callk (f : Str) (n : Nat) (ks : List Str) (ap ak : IE) (v : En → Out (PV × Fl)) : part (.callk f n ks ap ak) v e = (opd (.callk f n ks ap ak) v e).bind kPt := rfl
theorem o_blt (f : Blt) (as : IE) (v : En → Out (PV × Fl)) : opd (.blt f as) v e = (v e).bind kV := rfl
theorem r_blt (f : Blt) (as : IE) : retE C (.blt f as) e = ((ev C (.blt f as)).1 e).fo kRt := rfl
theorem p_blt (f : Blt) (as : IE) (v : En → Out (PV × Fl)) : part (.blt f as) v e = (opd (.blt f as) v e).bind kPt := rfl
theorem o_mth (m : Mth) (o as : IE) (v : En → Out (PV × Fl)) : opd (.mth m o as) v e = (v e).bind kV := rfl
theorem r_mth (m : Mth) (o as : IE) : retE C (.mth m o as) e = ((ev C (.mth m o as)).1 e).fo kRt := rfl
theorem p_mth (m : Mth) (o as : IE) (v : En → Out (PV × Fl)) : part (.mth m o as) v e = (opd (.mth m o as) v e).bind kPt := rfl
theorem o_comp (own : List Nat) (g : IG) (it cond elt : IE) (v : En → Out (PV × Fl)) : opd (.comp own g it cond elt) v e = (v e).bind kV := rfl
theorem r_comp (own : List Nat) (g : IG) (it cond elt : IE) : retE C (.comp own g it cond elt) e = ((ev C (.comp own g it cond elt)).1 e).fo kRt := rfl
theorem p_comp (own : List Nat) (g : IG) (it cond elt : IE) (v : En → Out (PV × Fl)) : part (.comp own g it cond elt) v e = (opd (.comp own g it cond elt) v e).bind kPt := rfl
theorem o_rng (as : IE) (v : En → Out (PV × Fl)) : opd (.rng as) v e = (v e).bind kV := rfl
theorem r_rng (as : IE) : retE C (.rng as) e = ((ev C (.rng as)).1 e).fo kRt := rfl
theorem p_rng (as : IE) (v : En → Out (PV × Fl)) : part (.rng as) v e = (opd (.rng as) v e).bind kPt := rfl
theorem o_enm (a : IE) (v : En → Out (PV × Fl)) : opd (.enm a) v e = (v e).bind kV := rfl
theorem r_enm (a : IE) : retE C (.enm a) e = ((ev C (.enm a)).1 e).fo kRt := rfl
theorem p_enm (a : IE) (v : En → Out (PV × Fl)) : part (.enm a) v e = (opd (.enm a) v e).bind kPt := rfl
theorem o_zip (a b : IE) (v : En → Out (PV × Fl)) : opd (.zip a b) v e = (v e).bind kV := rfl
theorem r_zip (a b : IE) : retE C (.zip a b) e = ((ev C (.zip a b)).1 e).fo kRt := rfl
theorem p_zip (a b : IE) (v : En → Out (PV × Fl)) : part (.zip a b) v e = (opd (.zip a b) v e).bind kPt := rfl
theorem o_dnew (t : Bool) (v : En → Out (PV × Fl)) : opd (.dnew t) v e = (v e).bind kV := rfl
theorem r_dnew (t : Bool) : retE C (.dnew t) e = ((ev C (.dnew t)).1 e).fo kRt := rfl
theorem p_dnew (t : Bool) (v : En → Out (PV × Fl)) : part (.dnew t) v e = (opd (.dnew t) v e).bind kPt := rfl
theorem o_ddis (ks : List Key) (xs : List PV) (v : En → Out (PV × Fl)) : opd (.ddis ks xs) v e = (v e).bind kV := rfl
theorem r_ddis (ks : List Key) (xs : List PV) : retE C (.ddis ks xs) e = ((ev C (.ddis ks xs)).1 e).fo kRt := rfl
theorem p_ddis (ks : List Key) (xs : List PV) (v : En → Out (PV × Fl)) : part (.ddis ks xs) v e = (opd (.ddis ks xs) v e).bind kPt := rfl
theorem o_mk0 (c : Str) (v : En → Out (PV × Fl)) : opd (.mk0 c) v e = (v e).bind kV := rfl
theorem r_mk0 (c : Str) : retE C (.mk0 c) e = ((ev C (.mk0 c)).1 e).fo kRt := rfl
theorem p_mk0 (c : Str) (v : En → Out (PV × Fl)) : part (.mk0 c) v e = (opd (.mk0 c) v e).bind kPt := rfl
theorem o_mk1 (c : Str) (a : IE) (v : En → Out (PV × Fl)) : opd (.mk1 c a) v e = (v e).bind kV := rfl
theorem r_mk1 (c : Str) (a : IE) : retE C (.mk1 c a) e = ((ev C (.mk1 c a)).1 e).fo kRt := rfl
theorem p_mk1 (c : Str) (a : IE) (v : En → Out (PV × Fl)) : part (.mk1 c a) v e = (opd (.mk1 c a) v e).bind kPt := rfl
theorem o_mkk (c q : Str) (a : IE) (v : En → Out (PV × Fl)) : opd (.mkk c q a) v e = (v e).bind kV := rfl
theorem r_mkk (c q : Str) (a : IE) : retE C (.mkk c q a) e = ((ev C (.mkk c q a)).1 e).fo kRt := rfl
theorem p_mkk (c q : Str) (a : IE) (v : En → Out (PV × Fl)) : part (.mkk c q a) v e = (opd (.mkk c q a) v e).bind kPt := rfl
theorem o_isx (a : IE) (c : Str) (v : En → Out (PV × Fl)) : opd (.isx a c) v e = (v e).bind kV := rfl
theorem r_isx (a : IE) (c : Str) : retE C (.isx a c) e = ((ev C (.isx a c)).1 e).fo kRt := rfl
theorem p_isx (a : IE) (c : Str) (v : En → Out (PV × Fl)) : part (.isx a c) v e = (opd (.isx a c) v e).bind kPt := rfl
theorem o_fld (a : IE) (f : Str) (v : En → Out (PV × Fl)) : opd (.fld a f) v e = (v e).bind kV := rfl
theorem r_fld (a : IE) (f : Str) : retE C (.fld a f) e = ((ev C (.fld a f)).1 e).fo kRt := rfl
theorem p_fld (a : IE) (f : Str) (v : En → Out (PV × Fl)) : part (.fld a f) v e = (opd (.fld a f) v e).bind kPt := rfl
theorem o_callv (f as : IE) (v : En → Out (PV × Fl)) : opd (.callv f as) v e = (v e).bind kV := rfl
theorem r_callv (f as : IE) : retE C (.callv f as) e = ((ev C (.callv f as)).1 e).fo kRt := rfl
theorem p_callv (f as : IE) (v : En → Out (PV × Fl)) : part (.callv f as) v e = (opd (.callv f as) v e).bind kPt := rfl
theorem o_lidx (o a : IE) (v : En → Out (PV × Fl)) : opd (.lidx o a) v e = (v e).bind kV := rfl
theorem r_lidx (o a : IE) : retE C (.lidx o a) e = ((ev C (.lidx o a)).1 e).fo kRt := rfl
theorem p_lidx (o a : IE) (v : En → Out (PV × Fl)) : part (.lidx o a) v e = (opd (.lidx o a) v e).bind kPt := rfl
theorem o_bits (a : IE) (v : En → Out (PV × Fl)) : opd (.bits a) v e = (v e).bind kV := rfl
theorem r_bits (a : IE) : retE C (.bits a) e = ((ev C (.bits a)).1 e).fo kRt := rfl
theorem p_bits (a : IE) (v : En → Out (PV × Fl)) : part (.bits a) v e = (opd (.bits a) v e).bind kPt := rfl
theorem o_lrn1 (a : IE) (v : En → Out (PV × Fl)) : opd (.lrn1 a) v e = (v e).bind kV := rfl
theorem r_lrn1 (a : IE) : retE C (.lrn1 a) e = ((ev C (.lrn1 a)).1 e).fo kRt := rfl
theorem p_lrn1 (a : IE) (v : En → Out (PV × Fl)) : part (.lrn1 a) v e = (opd (.lrn1 a) v e).bind kPt := rfl
theorem o_lrng (a b : IE) (v : En → Out (PV × Fl)) : opd (.lrng a b) v e = (v e).bind kV := rfl
theorem r_lrng (a b : IE) : retE C (.lrng a b) e = ((ev C (.lrng a b)).1 e).fo kRt := rfl
theorem p_lrng (a b : IE) (v : En → Out (PV × Fl)) : part (.lrng a b) v e = (opd (.lrng a b) v e).bind kPt := rfl
theorem o_sset (a : IE) (v : En → Out (PV × Fl)) : opd (.sset a) v e = (v e).bind kV := rfl
theorem r_sset (a : IE) : retE C (.sset a) e = ((ev C (.sset a)).1 e).fo kRt := rfl
theorem p_sset (a : IE) (v : En → Out (PV × Fl)) : part (.sset a) v e = (opd (.sset a) v e).bind kPt := rfl
theorem o_cmp (op : CmpOp) (a b : IE) (v : En → Out (PV × Fl)) : opd (.cmp op a b) v e = (v e).bind kV := rfl
theorem r_cmp (op : CmpOp) (a b : IE) : retE C (.cmp op a b) e = ((ev C (.cmp op a b)).1 e).fo kRt := rfl
theorem p_cmp (op : CmpOp) (a b : IE) (v : En → Out (PV × Fl)) : part (.cmp op a b) v e = (opd (.cmp op a b) v e).bind kPt := rfl
theorem o_chn (op op' : CmpOp) (a b c : IE) (v : En → Out (PV × Fl)) : opd (.chn op op' a b c) v e = (v e).bind kV := rfl
theorem r_chn (op op' : CmpOp) (a b c : IE) : retE C (.chn op op' a b c) e = ((ev C (.chn op op' a b c)).1 e).fo kRt := rfl
theorem p_chn (op op' : CmpOp) (a b c : IE) (v : En → Out (PV × Fl)) : part (.chn op op' a b c) v e = (opd (.chn op op' a b c) v e).bind kPt := rfl
theorem o_not (a : IE) (v : En → Out (PV × Fl)) : opd (.not a) v e = (v e).bind kV := rfl
theorem r_not (a : IE) : retE C (.not a) e = ((ev C (.not a)).1 e).fo kRt := rfl
theorem p_not (a : IE) (v : En → Out (PV × Fl)) : part (.not a) v e = (opd (.not a) v e).bind kPt := rfl
theorem o_and (a b : IE) (v : En → Out (PV × Fl)) : opd (.and a b) v e = (v e).bind kV := rfl
theorem r_and (a b : IE) : retE C (.and a b) e = ((ev C (.and a b)).1 e).fo kRt := rfl
theorem p_and (a b : IE) (v : En → Out (PV × Fl)) : part (.and a b) v e = (opd (.and a b) v e).bind kPt := rfl
theorem o_or (a b : IE) (v : En → Out (PV × Fl)) : opd (.or a b) v e = (v e).bind kV := rfl
theorem r_or (a b : IE) : retE C (.or a b) e = ((ev C (.or a b)).1 e).fo kRt := rfl
theorem p_or (a b : IE) (v : En → Out (PV × Fl)) : part (.or a b) v e = (opd (.or a b) v e).bind kPt := rfl
theorem o_ife (c a b : IE) (v : En → Out (PV × Fl)) : opd (.ife c a b) v e = (v e).bind kV := rfl
theorem r_ife (c a b : IE) : retE C (.ife c a b) e = ((ev C (.ife c a b)).1 e).fo kRt := rfl
theorem p_ife (c a b : IE) (v : En → Out (PV × Fl)) : part (.ife c a b) v e = (opd (.ife c a b) v e).bind kPt := rfl
theorem p_var (i : Nat) (v : En → Out (PV × Fl)) : part (.var i) v e = (opd (.var i) v e).bind kPt := rfl
def kT3 (own : List Nat) (p : PV × Fl) (e5 : En) : Out (Option PV) := .ok (some p.1) (wipeE e5 own)
theorem kT3_eq (own : List Nat) (p : PV × Fl) (e5 : En) : kT3 own p e5 = .ok (some p.1) (wipeE e5 own) := rfl
def kT2 (own : List Nat) (elt : En → Out (PV × Fl)) (k : Bool) (e4 : En) : Out (Option PV) := if k then (elt e4).bind (kT3 own) else .ok none (wipeE e4 own)
theorem kT2_eq (own : List Nat) (elt : En → Out (PV × Fl)) (k : Bool) (e4 : En) : kT2 own elt k e4 = if k then (elt e4).bind (kT3 own) else .ok none (wipeE e4 own) := rfl
theorem ct_eq (own : List Nat) (g : IG) (cond : En → Out Bool) (elt : En → Out (PV × Fl)) (x : PV) : compTurnE own g cond elt x e = match setG g x e with
  | none => .bad
  | some e3 => (cond e3).bind (kT2 own elt) := rfl
end
end Bd

namespace Bd
open PySem L2
/-! ### small equations -/
theorem at3_0 (x y z : PV) : atI [x, y, z] 0 = some x := rfl
theorem at3_1 (x y z : PV) : atI [x, y, z] 1 = some y := rfl
theorem at3_2 (x y z : PV) : atI [x, y, z] 2 = some z := rfl
theorem at2_0 (x y : PV) : atI [x, y] 0 = some x := rfl
theorem at2_1 (x y : PV) : atI [x, y] 1 = some y := rfl
theorem len1 (x : PV) : [x].length = 1 := rfl
theorem len2 (x y : PV) : [x, y].length = 2 := rfl
theorem len3 (x y z : PV) : [x, y, z].length = 3 := rfl
theorem len4 (x y z u : PV) : [x, y, z, u].length = 4 := rfl
theorem ixN3_0 : ixN 3 0 = some 0 := rfl
theorem ixN3_1 : ixN 3 1 = some 1 := rfl
theorem ixN3_2 : ixN 3 2 = some 2 := rfl
theorem ix_lst (xs : List PV) (i : Int) : ixP (.lst xs) (.int i) = atI xs i := rfl
theorem ix_tup (xs : List PV) (i : Int) : ixP (.tup xs) (.int i) = atI xs i := rfl
theorem mul_r (i j : Int) (h : smallI j = true) : binP .Mult (.int i) (.int j) = some (.int (i * j)) := by
  show (if (smallI i || smallI j) = true then _ else _) = _
  rw [h, Bool.or_true, if_pos rfl]
theorem mul_l (i j : Int) (h : smallI i = true) : binP .Mult (.int i) (.int j) = some (.int (i * j)) := by
  show (if (smallI i || smallI j) = true then _ else _) = _
  rw [h, Bool.true_or, if_pos rfl]
theorem mod_p (i j : Int) (h : 0 < j) : binP .Mod (.int i) (.int j) = some (.int (i % j)) := if_pos h
theorem div_p (i j : Int) (h : 0 < j) (h2 : j < 1073741824) : binP .FloorDiv (.int i) (.int j) = some (.int (i / j)) := if_pos ⟨h, h2⟩
theorem add_p (i j : Int) : binP .Add (.int i) (.int j) = some (.int (i + j)) := rfl
theorem sub_p (i j : Int) : binP .Sub (.int i) (.int j) = some (.int (i - j)) := rfl
theorem small_of {i : Int} (h : -(2 ^ 64) < i) (h2 : i < 2 ^ 64) : smallI i = true := by
  unfold smallI; rw [decide_eq_true h, decide_eq_true h2]; rfl
theorem gt_ii (i j : Int) : cmpP .Gt (.int i) (.int j) = some (decide (j < i)) := rfl
theorem blt_int (i : Int) : bltP .int [.int i] = some (.int i) := rfl
theorem blt_len_l (xs : List PV) : bltP .len [.lst xs] = some (.int xs.length) := rfl
theorem sz0 : (([] : List PV).length ≤ sizeLine) = True := eq_true (by show 0 ≤ sizeLine; decide +kernel)
theorem sz1 (x0 : PV) : ([x0].length ≤ sizeLine) = True := eq_true (by show 1 ≤ sizeLine; decide +kernel)
theorem sz2 (x0 x1 : PV) : ([x0, x1].length ≤ sizeLine) = True := eq_true (by show 2 ≤ sizeLine; decide +kernel)
theorem sz3 (x0 x1 x2 : PV) : ([x0, x1, x2].length ≤ sizeLine) = True := eq_true (by show 3 ≤ sizeLine; decide +kernel)
theorem sz4 (x0 x1 x2 x3 : PV) : ([x0, x1, x2, x3].length ≤ sizeLine) = True := eq_true (by show 4 ≤ sizeLine; decide +kernel)
theorem sz5 (x0 x1 x2 x3 x4 : PV) : ([x0, x1, x2, x3, x4].length ≤ sizeLine) = True := eq_true (by show 5 ≤ sizeLine; decide +kernel)
theorem sz6 (x0 x1 x2 x3 x4 x5 : PV) : ([x0, x1, x2, x3, x4, x5].length ≤ sizeLine) = True := eq_true (by show 6 ≤ sizeLine; decide +kernel)
theorem sz7 (x0 x1 x2 x3 x4 x5 x6 : PV) : ([x0, x1, x2, x3, x4, x5, x6].length ≤ sizeLine) = True := eq_true (by show 7 ≤ sizeLine; decide +kernel)
theorem sz8 (x0 x1 x2 x3 x4 x5 x6 x7 : PV) : ([x0, x1, x2, x3, x4, x5, x6, x7].length ≤ sizeLine) = True := eq_true (by show 8 ≤ sizeLine; decide +kernel)
theorem sz9 (x0 x1 x2 x3 x4 x5 x6 x7 x8 : PV) : ([x0, x1, x2, x3, x4, x5, x6, x7, x8].length ≤ sizeLine) = True := eq_true (by show 9 ≤ sizeLine; decide +kernel)
theorem sz10 (x0 x1 x2 x3 x4 x5 x6 x7 x8 x9 : PV) : ([x0, x1, x2, x3, x4, x5, x6, x7, x8, x9].length ≤ sizeLine) = True := eq_true (by show 10 ≤ sizeLine; decide +kernel)
theorem sz11 (x0 x1 x2 x3 x4 x5 x6 x7 x8 x9 x10 : PV) : ([x0, x1, x2, x3, x4, x5, x6, x7, x8, x9, x10].length ≤ sizeLine) = True := eq_true (by show 11 ≤ sizeLine; decide +kernel)
theorem sz12 (x0 x1 x2 x3 x4 x5 x6 x7 x8 x9 x10 x11 : PV) : ([x0, x1, x2, x3, x4, x5, x6, x7, x8, x9, x10, x11].length ≤ sizeLine) = True := eq_true (by show 12 ≤ sizeLine; decide +kernel)
theorem sz13 (x0 x1 x2 x3 x4 x5 x6 x7 x8 x9 x10 x11 x12 : PV) : ([x0, x1, x2, x3, x4, x5, x6, x7, x8, x9, x10, x11, x12].length ≤ sizeLine) = True := eq_true (by show 13 ≤ sizeLine; decide +kernel)
theorem sz14 (x0 x1 x2 x3 x4 x5 x6 x7 x8 x9 x10 x11 x12 x13 : PV) : ([x0, x1, x2, x3, x4, x5, x6, x7, x8, x9, x10, x11, x12, x13].length ≤ sizeLine) = True := eq_true (by show 14 ≤ sizeLine; decide +kernel)
theorem sz15 (x0 x1 x2 x3 x4 x5 x6 x7 x8 x9 x10 x11 x12 x13 x14 : PV) : ([x0, x1, x2, x3, x4, x5, x6, x7, x8, x9, x10, x11, x12, x13, x14].length ≤ sizeLine) = True := eq_true (by show 15 ≤ sizeLine; decide +kernel)
theorem sz16 (x0 x1 x2 x3 x4 x5 x6 x7 x8 x9 x10 x11 x12 x13 x14 x15 : PV) : ([x0, x1, x2, x3, x4, x5, x6, x7, x8, x9, x10, x11, x12, x13, x14, x15].length ≤ sizeLine) = True := eq_true (by show 16 ≤ sizeLine; decide +kernel)
theorem sz17 (x0 x1 x2 x3 x4 x5 x6 x7 x8 x9 x10 x11 x12 x13 x14 x15 x16 : PV) : ([x0, x1, x2, x3, x4, x5, x6, x7, x8, x9, x10, x11, x12, x13, x14, x15, x16].length ≤ sizeLine) = True := eq_true (by show 17 ≤ sizeLine; decide +kernel)
theorem sz18 (x0 x1 x2 x3 x4 x5 x6 x7 x8 x9 x10 x11 x12 x13 x14 x15 x16 x17 : PV) : ([x0, x1, x2, x3, x4, x5, x6, x7, x8, x9, x10, x11, x12, x13, x14, x15, x16, x17].length ≤ sizeLine) = True := eq_true (by show 18 ≤ sizeLine; decide +kernel)
theorem sz19 (x0 x1 x2 x3 x4 x5 x6 x7 x8 x9 x10 x11 x12 x13 x14 x15 x16 x17 x18 : PV) : ([x0, x1, x2, x3, x4, x5, x6, x7, x8, x9, x10, x11, x12, x13, x14, x15, x16, x17, x18].length ≤ sizeLine) = True := eq_true (by show 19 ≤ sizeLine; decide +kernel)
theorem sz20 (x0 x1 x2 x3 x4 x5 x6 x7 x8 x9 x10 x11 x12 x13 x14 x15 x16 x17 x18 x19 : PV) : ([x0, x1, x2, x3, x4, x5, x6, x7, x8, x9, x10, x11, x12, x13, x14, x15, x16, x17, x18, x19].length ≤ sizeLine) = True := eq_true (by show 20 ≤ sizeLine; decide +kernel)
/-! ### drawing -/
def takeB : IS := (.seq (.ife (.cmp .Gt (.sub (.var 0) (.int 0)) (.int 0))
 (.seq (.asg 2 (.bin .Mod (.blt .int (.cons (.sub (.var 0) (.int 0)) .nil)) (.var 1)))
 (.seq (.seti 0 (.int 0) (.bin .FloorDiv (.sub (.var 0) (.int 0)) (.var 1)))
 (.seq (.ret (.var 2)) .nil))) .nil)
 (.seq (.seti 0 (.int 2) (.bin .Add (.sub (.var 0) (.int 2)) (.int 1)))
 (.seq (.asg 3 (.bin .Mod (.blt .int (.cons (.bin .Mult (.bin .Add (.sub (.var 0) (.int 1)) (.bin .Mult (.int 48271) (.sub (.var 0) (.int 2)))) (.bin .Add (.int 39373) (.sub (.var 0) (.int 2)))) .nil)) (.int 2147483647)))
 (.seq (.asg 4 (.bin .Add (.bin .Mod (.blt .int (.cons (.var 3) .nil)) (.int 40009)) (.int 7)))
 (.seq (.asg 5 (.bin .Mod (.blt .int (.cons (.bin .Mult (.bin .Add (.bin .Add (.var 3) (.sub (.var 0) (.int 2))) (.bin .FloorDiv (.sub (.var 0) (.int 1)) (.int 1000003))) (.var 4)) .nil)) (.int 2147483629)))
 (.seq (.ret (.bin .Mod (.blt .int (.cons (.bin .FloorDiv (.bin .Mod (.blt .int (.cons (.bin .Add (.bin .Mult (.var 5) (.int 48271)) (.var 3)) .nil)) (.int 2147483587)) (.int 64)) .nil)) (.var 1))) .nil))))))
theorem take_a (C : Cal) (a b c low : Int) (h1 : 0 < low) (h2 : low < 1073741824) (ha : 0 < a) :
    exec C takeB [some (.lst [.int a, .int b, .int c], .bor), some (.int low, .fz), none, none, none, none] = .ret (.int (a % low), .fz) [some (.lst [.int (a / low), .int b, .int c], .bor), some (.int low, .fz), some (.int (a % low), .fz), none, none, none] := by
  unfold takeB
  simp only [bd_ok, bd_exc, bd_bad, fo_ok, fo_exc, th_nx, th_ret, th_exc, th_brk, th_cnt, tk_nx, tk_cnt, tk_brk, tk_ret, tk_exc, x_nil, x_seq, kAsg_eq, x_asg, kUnp_eq, x_unp, kPar_eq, x_par, kSet2_eq, kDct2_eq, kSet1_eq, x_seti, kApp_eq, x_app, kExpr_eq, x_expr, x_ret, x_retN, kIf_eq, x_ife, kLoop_eq, x_loop, x_whl, kWh_eq, x_brk, x_cnt, x_pass, x_boom, x_drop, kRa_eq, x_raise, x_raise0, x_try, ty_exc, ty_nx, ty_ret, kCl2_eq, kCl1_eq, kTr_eq, kB2_eq, kB1_eq, kU_eq, kTup_eq, kLst_eq, kS2_eq, kS1_eq, kC3_eq, kC2_eq, kC1_eq, kCall_eq, kK2_eq, kK1_eq, kBl_eq, kM2_eq, kM1_eq, kCo_eq, kRg_eq, kEn_eq, kZ2_eq, kZ1_eq, kBi_eq, kMk_eq, kIx_eq, kFl_eq, kCv2_eq, kCv1_eq, kLi2_eq, kLi1_eq, kL1_eq, kL3_eq, kL2_eq, kSs_eq, v_int, t_int, v_str, t_str, v_bl, t_bl, v_non, t_non, v_cst, t_cst, v_fnv, t_fnv, v_tyv, t_tyv, v_bin, t_bin, v_un, t_un, v_tup, t_tup, v_lst, t_lst, v_sub, t_sub, v_slc, t_slc, v_call, t_call, v_callk, t_callk, v_blt, t_blt, v_mth, t_mth, v_comp, t_comp, v_rng, t_rng, v_enm, t_enm, v_zip, t_zip, v_dnew, t_dnew, v_ddis, t_ddis, v_mk0, t_mk0, v_mk1, t_mk1, v_mkk, t_mkk, v_isx, t_isx, v_fld, t_fld, v_callv, t_callv, v_lidx, t_lidx, v_bits, t_bits, v_lrn1, t_lrn1, v_lrng, t_lrng, v_sset, t_sset, kVb_eq, kQ2_eq, kQ1_eq, kH4_eq, kH3_eq, kH2_eq, kH1_eq, v_cmp, t_cmp, v_chn, t_chn, v_var, t_var, kN2_eq, kN1_eq, kNt_eq, v_not, t_not, kAn_eq, kAt_eq, v_and, t_and, kOn_eq, kOt_eq, v_or, t_or, kIv_eq, kIt_eq, v_ife, t_ife, v_seq, v_no, kOs2_eq, kOs1_eq, os_nil, os_cons, kF2_eq, kF1_eq, f_nil, f_cons, kG2_eq, kG1_eq, kG3_eq, g_nil, g_val, g_slot, kGt_eq, g_tmpc, o_var, kIe_eq, it_ev, p_no, kRt_eq, r_var, kV_eq, kPt_eq, o_int, r_int, p_int, o_str, r_str, p_str, o_bl, r_bl, p_bl, o_non, r_non, p_non, o_cst, r_cst, p_cst, o_fnv, r_fnv, p_fnv, o_tyv, r_tyv, p_tyv, o_bin, r_bin, p_bin, o_un, r_un, p_un, o_tup, r_tup, p_tup, o_lst, r_lst, p_lst, o_sub, r_sub, p_sub, o_slc, r_slc, p_slc, o_call, r_call, p_call, o_callk, r_callk, p_callk, o_blt, r_blt, p_blt, o_mth, r_mth, p_mth, o_comp, r_comp, p_comp, o_rng, r_rng, p_rng, o_enm, r_enm, p_enm, o_zip, r_zip, p_zip, o_dnew, r_dnew, p_dnew, o_ddis, r_ddis, p_ddis, o_mk0, r_mk0, p_mk0, o_mk1, r_mk1, p_mk1, o_mkk, r_mkk, p_mkk, o_isx, r_isx, p_isx, o_fld, r_fld, p_fld, o_callv, r_callv, p_callv, o_lidx, r_lidx, p_lidx, o_bits, r_bits, p_bits, o_lrn1, r_lrn1, p_lrn1, o_lrng, r_lrng, p_lrng, o_sset, r_sset, p_sset, o_cmp, r_cmp, p_cmp, o_chn, r_chn, p_chn, o_not, r_not, p_not, o_and, r_and, p_and, o_or, r_or, p_or, o_ife, r_ife, p_ife, p_var, kT3_eq, kT2_eq, evVar, tsVar, liftO, liftB, flOf, fzO, okIf, cmp2, rsO, rsOs, unP, truth, lstAt, argV, argVs, slotsOf, argBack, setP, itO, itemsP, setPar, isNonP, kindO, seqOf, ownFz, wipeE, unwipe, consO, enmP, zipP, fnOf?, callV, isLst, List.map_cons, List.map_nil, List.all_cons, List.all_nil, Bool.and_true, Bool.true_and, Bool.and_self, Option.bind_some, Option.map_some, List.getElem?_cons_zero, List.getElem?_cons_succ, List.set_cons_zero, List.set_cons_succ, Option.isSome_some, if_true, if_false, ite_true, ite_false, decide_true, decide_false, Bool.not_true, Bool.not_false, reduceIte, Bool.false_eq_true, gt_ii, blt_int, ix_lst, at3_0, at3_1, at3_2, mod_p _ _ h1, div_p _ _ h1 h2, ha, setItemE, len3, ixN3_0, ixN3_2, sz0, sz1, sz2, sz3, sz4, sz5, sz6, sz7, sz8, sz9, sz10, sz11, sz12, sz13, sz14, sz15, sz16, sz17, sz18, sz19, sz20]
def tk1 (b c : Int) : Int := ((b + 48271 * (c + 1)) * (39373 + (c + 1))) % 2147483647
def tk2 (b c : Int) : Int := tk1 b c % 40009 + 7
def tk3 (b c : Int) : Int := ((tk1 b c + (c + 1) + b / 1000003) * tk2 b c) % 2147483629
theorem take_b (C : Cal) (a b c low : Int) (h1 : 0 < low) (ha : ¬ 0 < a) (hc : smallI (39373 + (c + 1)) = true) :
    exec C takeB [some (.lst [.int a, .int b, .int c], .bor), some (.int low, .fz), none, none, none, none] = .ret (.int ((tk3 b c * 48271 + tk1 b c) % 2147483587 / 64 % low), .fz) [some (.lst [.int a, .int b, .int (c + 1)], .bor), some (.int low, .fz), none, some (.int (tk1 b c), .fz), some (.int (tk2 b c), .fz), some (.int (tk3 b c), .fz)] := by
  have k1 : ∀ i : Int, smallI (i % 40009 + 7) = true := fun i => small_of (by have := Int.emod_nonneg i (by decide : (40009 : Int) ≠ 0); omega) (by have := Int.emod_lt_of_pos i (by decide : (0 : Int) < 40009); omega)
  unfold takeB
  simp only [bd_ok, bd_exc, bd_bad, fo_ok, fo_exc, th_nx, th_ret, th_exc, th_brk, th_cnt, tk_nx, tk_cnt, tk_brk, tk_ret, tk_exc, x_nil, x_seq, kAsg_eq, x_asg, kUnp_eq, x_unp, kPar_eq, x_par, kSet2_eq, kDct2_eq, kSet1_eq, x_seti, kApp_eq, x_app, kExpr_eq, x_expr, x_ret, x_retN, kIf_eq, x_ife, kLoop_eq, x_loop, x_whl, kWh_eq, x_brk, x_cnt, x_pass, x_boom, x_drop, kRa_eq, x_raise, x_raise0, x_try, ty_exc, ty_nx, ty_ret, kCl2_eq, kCl1_eq, kTr_eq, kB2_eq, kB1_eq, kU_eq, kTup_eq, kLst_eq, kS2_eq, kS1_eq, kC3_eq, kC2_eq, kC1_eq, kCall_eq, kK2_eq, kK1_eq, kBl_eq, kM2_eq, kM1_eq, kCo_eq, kRg_eq, kEn_eq, kZ2_eq, kZ1_eq, kBi_eq, kMk_eq, kIx_eq, kFl_eq, kCv2_eq, kCv1_eq, kLi2_eq, kLi1_eq, kL1_eq, kL3_eq, kL2_eq, kSs_eq, v_int, t_int, v_str, t_str, v_bl, t_bl, v_non, t_non, v_cst, t_cst, v_fnv, t_fnv, v_tyv, t_tyv, v_bin, t_bin, v_un, t_un, v_tup, t_tup, v_lst, t_lst, v_sub, t_sub, v_slc, t_slc, v_call, t_call, v_callk, t_callk, v_blt, t_blt, v_mth, t_mth, v_comp, t_comp, v_rng, t_rng, v_enm, t_enm, v_zip, t_zip, v_dnew, t_dnew, v_ddis, t_ddis, v_mk0, t_mk0, v_mk1, t_mk1, v_mkk, t_mkk, v_isx, t_isx, v_fld, t_fld, v_callv, t_callv, v_lidx, t_lidx, v_bits, t_bits, v_lrn1, t_lrn1, v_lrng, t_lrng, v_sset, t_sset, kVb_eq, kQ2_eq, kQ1_eq, kH4_eq, kH3_eq, kH2_eq, kH1_eq, v_cmp, t_cmp, v_chn, t_chn, v_var, t_var, kN2_eq, kN1_eq, kNt_eq, v_not, t_not, kAn_eq, kAt_eq, v_and, t_and, kOn_eq, kOt_eq, v_or, t_or, kIv_eq, kIt_eq, v_ife, t_ife, v_seq, v_no, kOs2_eq, kOs1_eq, os_nil, os_cons, kF2_eq, kF1_eq, f_nil, f_cons, kG2_eq, kG1_eq, kG3_eq, g_nil, g_val, g_slot, kGt_eq, g_tmpc, o_var, kIe_eq, it_ev, p_no, kRt_eq, r_var, kV_eq, kPt_eq, o_int, r_int, p_int, o_str, r_str, p_str, o_bl, r_bl, p_bl, o_non, r_non, p_non, o_cst, r_cst, p_cst, o_fnv, r_fnv, p_fnv, o_tyv, r_tyv, p_tyv, o_bin, r_bin, p_bin, o_un, r_un, p_un, o_tup, r_tup, p_tup, o_lst, r_lst, p_lst, o_sub, r_sub, p_sub, o_slc, r_slc, p_slc, o_call, r_call, p_call, o_callk, r_callk, p_callk, o_blt, r_blt, p_blt, o_mth, r_mth, p_mth, o_comp, r_comp, p_comp, o_rng, r_rng, p_rng, o_enm, r_enm, p_enm, o_zip, r_zip, p_zip, o_dnew, r_dnew, p_dnew, o_ddis, r_ddis, p_ddis, o_mk0, r_mk0, p_mk0, o_mk1, r_mk1, p_mk1, o_mkk, r_mkk, p_mkk, o_isx, r_isx, p_isx, o_fld, r_fld, p_fld, o_callv, r_callv, p_callv, o_lidx, r_lidx, p_lidx, o_bits, r_bits, p_bits, o_lrn1, r_lrn1, p_lrn1, o_lrng, r_lrng, p_lrng, o_sset, r_sset, p_sset, o_cmp, r_cmp, p_cmp, o_chn, r_chn, p_chn, o_not, r_not, p_not, o_and, r_and, p_and, o_or, r_or, p_or, o_ife, r_ife, p_ife, p_var, kT3_eq, kT2_eq, evVar, tsVar, liftO, liftB, flOf, fzO, okIf, cmp2, rsO, rsOs, unP, truth, lstAt, argV, argVs, slotsOf, argBack, setP, itO, itemsP, setPar, isNonP, kindO, seqOf, ownFz, wipeE, unwipe, consO, enmP, zipP, fnOf?, callV, isLst, List.map_cons, List.map_nil, List.all_cons, List.all_nil, Bool.and_true, Bool.true_and, Bool.and_self, Option.bind_some, Option.map_some, List.getElem?_cons_zero, List.getElem?_cons_succ, List.set_cons_zero, List.set_cons_succ, Option.isSome_some, if_true, if_false, ite_true, ite_false, decide_true, decide_false, Bool.not_true, Bool.not_false, reduceIte, Bool.false_eq_true, gt_ii, blt_int, ix_lst, at3_0, at3_1, at3_2, add_p, mul_l 48271 _ rfl, mul_r _ 48271 rfl, mul_r _ _ hc, mul_r _ _ (k1 _), mod_p _ _ h1, mod_p _ 2147483647 (by decide), mod_p _ 40009 (by decide), mod_p _ 2147483629 (by decide), mod_p _ 2147483587 (by decide), div_p _ 64 (by decide) (by decide), div_p _ 1000003 (by decide) (by decide), ha, setItemE, len3, ixN3_0, ixN3_2, sz0, sz1, sz2, sz3, sz4, sz5, sz6, sz7, sz8, sz9, sz10, sz11, sz12, sz13, sz14, sz15, sz16, sz17, sz18, sz19, sz20]
  try rfl
/-- a box of draws: so many draws are still sure -/
def Bx (m : Nat) (p : PV) : Prop := ∃ a b c : Int, p = .lst [.int a, .int b, .int c] ∧ 0 ≤ c ∧ c + m < 2 ^ 62
theorem Bx.mono {m k : Nat} {p : PV} (h : Bx m p) (hk : k ≤ m) : Bx k p := by
  obtain ⟨a, b, c, h1, h2, h3⟩ := h
  exact ⟨a, b, c, h1, h2, by omega⟩
theorem take_ok {C : Cal} {d : FD} (hb : d.body = takeB) (hN : d.N.length = 6) (hs : d.sg = [true, false]) {m : Nat} {p : PV} {low : Int} (hp : Bx (m + 1) p) (h1 : 0 < low) (h2 : low < 1073741824) :
    ∃ (r : Int) (q : PV), runF C (some d) [p, .int low] = .ok (.int r, .fz) [q] ∧ 0 ≤ r ∧ r < low ∧ Bx m q := by
  obtain ⟨a, b, c, rfl, h3, h4⟩ := hp
  have e : runF C (some d) [.lst [.int a, .int b, .int c], .int low] = finish [true, false] (exec C takeB [some (.lst [.int a, .int b, .int c], .bor), some (.int low, .fz), none, none, none, none]) := by
    show finish d.sg (exec C d.body (startE d _)) = _
    unfold startE
    rw [hb, hs, hN]; rfl
  have nn : ∀ i : Int, 0 ≤ i % low := fun i => Int.emod_nonneg i (Int.ne_of_gt h1)
  have lt : ∀ i : Int, i % low < low := fun i => Int.emod_lt_of_pos i h1
  by_cases ha : 0 < a
  · rw [e, take_a C a b c low h1 h2 ha]
    exact ⟨_, _, rfl, nn _, lt _, a / low, b, c, rfl, h3, by omega⟩
  · rw [e, take_b C a b c low h1 ha (small_of (by omega) (by omega))]
    exact ⟨_, _, rfl, nn _, lt _, a, b, c + 1, rfl, by omega, by omega⟩
/-- what a caller knows of drawing -/
structure TakeOk (C : Cal) : Prop where
  sig : C.sig "_law_take" = some [true, false]
  run : ∀ (m : Nat) (p : PV) (low : Int), Bx (m + 1) p → 0 < low → low < 1073741824 → ∃ (r : Int) (q : PV), C.run "_law_take" [p, .int low] = .ok (.int r, .fz) [q] ∧ 0 ≤ r ∧ r < low ∧ Bx m q
theorem nd0 : ([] : List Nat).Nodup = True := eq_true List.nodup_nil
theorem nd1 (i : Nat) : [i].Nodup = True := eq_true (by simp)
theorem at_in {xs : List PV} {r : Int} (h : 0 ≤ r) (h2 : r < xs.length) : ∃ x, x ∈ xs ∧ atI xs r = some x := by
  have hn : r.toNat < xs.length := by omega
  refine ⟨xs[r.toNat], List.getElem_mem hn, ?_⟩
  unfold atI ixN
  rw [if_pos h, if_pos h2]
  exact List.getElem?_eq_getElem hn
def ofB : IS := (.seq (.ret (.sub (.var 1) (.call "_law_take" (.cons (.var 0) (.cons (.blt .len (.cons (.var 1) .nil)) .nil))))) .nil)
theorem of_run {C : Cal} (hT : TakeOk C) {m : Nat} {p : PV} {xs : List PV} (hp : Bx (m + 1) p) (h1 : 0 < xs.length) (h2 : xs.length < 1073741824) :
    ∃ x q, x ∈ xs ∧ Bx m q ∧ exec C ofB [some (p, .bor), some (.lst xs, .fz)] = .ret (x, .fz) [some (q, .bor), some (.lst xs, .fz)] := by
  obtain ⟨r, q, e, r1, r2, hq⟩ := hT.run m p xs.length hp (by omega) (by omega)
  obtain ⟨x, hx, ex⟩ := at_in r1 r2
  refine ⟨x, q, hx, hq, ?_⟩
  have sg := hT.sig
  unfold ofB
  simp only [bd_ok, bd_exc, bd_bad, fo_ok, fo_exc, th_nx, th_ret, th_exc, th_brk, th_cnt, tk_nx, tk_cnt, tk_brk, tk_ret, tk_exc, x_nil, x_seq, kAsg_eq, x_asg, kUnp_eq, x_unp, kPar_eq, x_par, kSet2_eq, kDct2_eq, kSet1_eq, x_seti, kApp_eq, x_app, kExpr_eq, x_expr, x_ret, x_retN, kIf_eq, x_ife, kLoop_eq, x_loop, x_whl, kWh_eq, x_brk, x_cnt, x_pass, x_boom, x_drop, kRa_eq, x_raise, x_raise0, x_try, ty_exc, ty_nx, ty_ret, kCl2_eq, kCl1_eq, kTr_eq, kB2_eq, kB1_eq, kU_eq, kTup_eq, kLst_eq, kS2_eq, kS1_eq, kC3_eq, kC2_eq, kC1_eq, kCall_eq, kK2_eq, kK1_eq, kBl_eq, kM2_eq, kM1_eq, kCo_eq, kRg_eq, kEn_eq, kZ2_eq, kZ1_eq, kBi_eq, kMk_eq, kIx_eq, kFl_eq, kCv2_eq, kCv1_eq, kLi2_eq, kLi1_eq, kL1_eq, kL3_eq, kL2_eq, kSs_eq, v_int, t_int, v_str, t_str, v_bl, t_bl, v_non, t_non, v_cst, t_cst, v_fnv, t_fnv, v_tyv, t_tyv, v_bin, t_bin, v_un, t_un, v_tup, t_tup, v_lst, t_lst, v_sub, t_sub, v_slc, t_slc, v_call, t_call, v_callk, t_callk, v_blt, t_blt, v_mth, t_mth, v_comp, t_comp, v_rng, t_rng, v_enm, t_enm, v_zip, t_zip, v_dnew, t_dnew, v_ddis, t_ddis, v_mk0, t_mk0, v_mk1, t_mk1, v_mkk, t_mkk, v_isx, t_isx, v_fld, t_fld, v_callv, t_callv, v_lidx, t_lidx, v_bits, t_bits, v_lrn1, t_lrn1, v_lrng, t_lrng, v_sset, t_sset, kVb_eq, kQ2_eq, kQ1_eq, kH4_eq, kH3_eq, kH2_eq, kH1_eq, v_cmp, t_cmp, v_chn, t_chn, v_var, t_var, kN2_eq, kN1_eq, kNt_eq, v_not, t_not, kAn_eq, kAt_eq, v_and, t_and, kOn_eq, kOt_eq, v_or, t_or, kIv_eq, kIt_eq, v_ife, t_ife, v_seq, v_no, kOs2_eq, kOs1_eq, os_nil, os_cons, kF2_eq, kF1_eq, f_nil, f_cons, kG2_eq, kG1_eq, kG3_eq, g_nil, g_val, g_slot, kGt_eq, g_tmpc, o_var, kIe_eq, it_ev, p_no, kRt_eq, r_var, kV_eq, kPt_eq, o_int, r_int, p_int, o_str, r_str, p_str, o_bl, r_bl, p_bl, o_non, r_non, p_non, o_cst, r_cst, p_cst, o_fnv, r_fnv, p_fnv, o_tyv, r_tyv, p_tyv, o_bin, r_bin, p_bin, o_un, r_un, p_un, o_tup, r_tup, p_tup, o_lst, r_lst, p_lst, o_sub, r_sub, p_sub, o_slc, r_slc, p_slc, o_call, r_call, p_call, o_callk, r_callk, p_callk, o_blt, r_blt, p_blt, o_mth, r_mth, p_mth, o_comp, r_comp, p_comp, o_rng, r_rng, p_rng, o_enm, r_enm, p_enm, o_zip, r_zip, p_zip, o_dnew, r_dnew, p_dnew, o_ddis, r_ddis, p_ddis, o_mk0, r_mk0, p_mk0, o_mk1, r_mk1, p_mk1, o_mkk, r_mkk, p_mkk, o_isx, r_isx, p_isx, o_fld, r_fld, p_fld, o_callv, r_callv, p_callv, o_lidx, r_lidx, p_lidx, o_bits, r_bits, p_bits, o_lrn1, r_lrn1, p_lrn1, o_lrng, r_lrng, p_lrng, o_sset, r_sset, p_sset, o_cmp, r_cmp, p_cmp, o_chn, r_chn, p_chn, o_not, r_not, p_not, o_and, r_and, p_and, o_or, r_or, p_or, o_ife, r_ife, p_ife, p_var, kT3_eq, kT2_eq, evVar, tsVar, liftO, liftB, flOf, fzO, okIf, cmp2, rsO, rsOs, unP, truth, lstAt, argV, argVs, slotsOf, argBack, setP, itO, itemsP, setPar, isNonP, kindO, seqOf, ownFz, wipeE, unwipe, consO, enmP, zipP, fnOf?, callV, isLst, List.map_cons, List.map_nil, List.all_cons, List.all_nil, Bool.and_true, Bool.true_and, Bool.and_self, Option.bind_some, Option.map_some, List.getElem?_cons_zero, List.getElem?_cons_succ, List.set_cons_zero, List.set_cons_succ, Option.isSome_some, if_true, if_false, ite_true, ite_false, decide_true, decide_false, Bool.not_true, Bool.not_false, reduceIte, Bool.false_eq_true, blt_len_l, sg, e, ex, doCall, nd1, nd0, ix_lst, sz0, sz1, sz2, sz3, sz4, sz5, sz6, sz7, sz8, sz9, sz10, sz11, sz12, sz13, sz14, sz15, sz16, sz17, sz18, sz19, sz20]
structure OfOk (C : Cal) : Prop where
  sig : C.sig "_law_of" = some [true, false]
  run : ∀ (m : Nat) (p : PV) (xs : List PV), Bx (m + 1) p → 0 < xs.length → xs.length < 1073741824 → ∃ x q, x ∈ xs ∧ Bx m q ∧ C.run "_law_of" [p, .lst xs] = .ok (x, .fz) [q]
theorem of_ok {C : Cal} {d : FD} (hT : TakeOk C) (hb : d.body = ofB) (hN : d.N.length = 2) (hs : d.sg = [true, false]) {m : Nat} {p : PV} {xs : List PV} (hp : Bx (m + 1) p) (h1 : 0 < xs.length) (h2 : xs.length < 1073741824) :
    ∃ x q, x ∈ xs ∧ Bx m q ∧ runF C (some d) [p, .lst xs] = .ok (x, .fz) [q] := by
  obtain ⟨x, q, hx, hq, e⟩ := of_run hT hp h1 h2
  refine ⟨x, q, hx, hq, ?_⟩
  show finish d.sg (exec C d.body (startE d _)) = _
  unfold startE
  rw [hb, hs, hN]
  show finish _ (exec C ofB [some (p, .bor), some (.lst xs, .fz)]) = _
  rw [e]; rfl
/-! ### what is the same is the same -/
/-- values of plain kinds -/
def sameB : IS := (.seq (.ife (.blt .isinstance (.cons (.var 1) (.cons (.tup (.cons (.tyv .list) (.cons (.tyv .tuple) .nil))) .nil)))
 (.seq (.ife (.or (.cmp .NotEq (.blt .isinstance (.cons (.var 0) (.cons (.tyv .list) .nil))) (.blt .isinstance (.cons (.var 1) (.cons (.tyv .list) .nil)))) (.cmp .NotEq (.blt .isinstance (.cons (.var 0) (.cons (.tyv .tuple) .nil))) (.blt .isinstance (.cons (.var 1) (.cons (.tyv .tuple) .nil)))))
 (.seq (.ret (.bl false)) .nil) .nil)
 (.seq (.ret (.and (.cmp .Eq (.blt .len (.cons (.var 0) .nil)) (.blt .len (.cons (.var 1) .nil))) (.blt .all (.cons (.comp [2, 3] (.tup [2, 3]) (.zip (.var 0) (.var 1)) .no (.call "_law_same" (.cons (.var 2) (.cons (.var 3) .nil)))) .nil)))) .nil)) .nil)
 (.seq (.ife (.or (.cmp .Is (.var 1) .non) (.blt .isinstance (.cons (.var 1) (.cons (.tup (.cons (.tyv .bool) (.cons (.tyv .str) .nil))) .nil))))
 (.seq (.ret (.and (.cmp .Eq (.var 0) (.var 1)) (.and (.cmp .Eq (.blt .isinstance (.cons (.var 0) (.cons (.tyv .bool) .nil))) (.blt .isinstance (.cons (.var 1) (.cons (.tyv .bool) .nil)))) (.cmp .Eq (.cmp .Is (.var 0) .non) (.cmp .Is (.var 1) .non))))) .nil) .nil)
 (.seq (.ret (.and (.blt .isinstance (.cons (.var 0) (.cons (.tyv .int) .nil))) (.and (.not (.blt .isinstance (.cons (.var 0) (.cons (.tyv .bool) .nil)))) (.cmp .Eq (.var 0) (.var 1))))) .nil)))
theorem isi_n_list  : isiP .non (.ty .list) = some false := rfl
theorem isi_n_tuple  : isiP .non (.ty .tuple) = some false := rfl
theorem isi_n_bool  : isiP .non (.ty .bool) = some false := rfl
theorem isi_n_str  : isiP .non (.ty .str) = some false := rfl
theorem isi_n_int  : isiP .non (.ty .int) = some false := rfl
theorem isi_n_lt  : isiP .non (.tup [.ty .list, .ty .tuple]) = some false := rfl
theorem isi_n_bs  : isiP .non (.tup [.ty .bool, .ty .str]) = some false := rfl
theorem isN_n  : cmpP .Is .non .non = some true := rfl
theorem isnN_n  : cmpP .IsNot .non .non = some false := rfl
theorem isi_b_list (b : Bool) : isiP (.bl b) (.ty .list) = some false := rfl
theorem isi_b_tuple (b : Bool) : isiP (.bl b) (.ty .tuple) = some false := rfl
theorem isi_b_bool (b : Bool) : isiP (.bl b) (.ty .bool) = some true := rfl
theorem isi_b_str (b : Bool) : isiP (.bl b) (.ty .str) = some false := rfl
theorem isi_b_int (b : Bool) : isiP (.bl b) (.ty .int) = some true := rfl
theorem isi_b_lt (b : Bool) : isiP (.bl b) (.tup [.ty .list, .ty .tuple]) = some false := rfl
theorem isi_b_bs (b : Bool) : isiP (.bl b) (.tup [.ty .bool, .ty .str]) = some true := rfl
theorem isN_b (b : Bool) : cmpP .Is (.bl b) .non = some false := rfl
theorem isnN_b (b : Bool) : cmpP .IsNot (.bl b) .non = some true := rfl
theorem isi_i_list (i : Int) : isiP (.int i) (.ty .list) = some false := rfl
theorem isi_i_tuple (i : Int) : isiP (.int i) (.ty .tuple) = some false := rfl
theorem isi_i_bool (i : Int) : isiP (.int i) (.ty .bool) = some false := rfl
theorem isi_i_str (i : Int) : isiP (.int i) (.ty .str) = some false := rfl
theorem isi_i_int (i : Int) : isiP (.int i) (.ty .int) = some true := rfl
theorem isi_i_lt (i : Int) : isiP (.int i) (.tup [.ty .list, .ty .tuple]) = some false := rfl
theorem isi_i_bs (i : Int) : isiP (.int i) (.tup [.ty .bool, .ty .str]) = some false := rfl
theorem isN_i (i : Int) : cmpP .Is (.int i) .non = some false := rfl
theorem isnN_i (i : Int) : cmpP .IsNot (.int i) .non = some true := rfl
theorem isi_s_list (x : Str) : isiP (.str x) (.ty .list) = some false := rfl
theorem isi_s_tuple (x : Str) : isiP (.str x) (.ty .tuple) = some false := rfl
theorem isi_s_bool (x : Str) : isiP (.str x) (.ty .bool) = some false := rfl
theorem isi_s_str (x : Str) : isiP (.str x) (.ty .str) = some true := rfl
theorem isi_s_int (x : Str) : isiP (.str x) (.ty .int) = some false := rfl
theorem isi_s_lt (x : Str) : isiP (.str x) (.tup [.ty .list, .ty .tuple]) = some false := rfl
theorem isi_s_bs (x : Str) : isiP (.str x) (.tup [.ty .bool, .ty .str]) = some true := rfl
theorem isN_s (x : Str) : cmpP .Is (.str x) .non = some false := rfl
theorem isnN_s (x : Str) : cmpP .IsNot (.str x) .non = some true := rfl
theorem isi_l_list (xs : List PV) : isiP (.lst xs) (.ty .list) = some true := rfl
theorem isi_l_tuple (xs : List PV) : isiP (.lst xs) (.ty .tuple) = some false := rfl
theorem isi_l_bool (xs : List PV) : isiP (.lst xs) (.ty .bool) = some false := rfl
theorem isi_l_str (xs : List PV) : isiP (.lst xs) (.ty .str) = some false := rfl
theorem isi_l_int (xs : List PV) : isiP (.lst xs) (.ty .int) = some false := rfl
theorem isi_l_lt (xs : List PV) : isiP (.lst xs) (.tup [.ty .list, .ty .tuple]) = some true := rfl
theorem isi_l_bs (xs : List PV) : isiP (.lst xs) (.tup [.ty .bool, .ty .str]) = some false := rfl
theorem isN_l (xs : List PV) : cmpP .Is (.lst xs) .non = some false := rfl
theorem isnN_l (xs : List PV) : cmpP .IsNot (.lst xs) .non = some true := rfl
theorem isi_t_list (xs : List PV) : isiP (.tup xs) (.ty .list) = some false := rfl
theorem isi_t_tuple (xs : List PV) : isiP (.tup xs) (.ty .tuple) = some true := rfl
theorem isi_t_bool (xs : List PV) : isiP (.tup xs) (.ty .bool) = some false := rfl
theorem isi_t_str (xs : List PV) : isiP (.tup xs) (.ty .str) = some false := rfl
theorem isi_t_int (xs : List PV) : isiP (.tup xs) (.ty .int) = some false := rfl
theorem isi_t_lt (xs : List PV) : isiP (.tup xs) (.tup [.ty .list, .ty .tuple]) = some true := rfl
theorem isi_t_bs (xs : List PV) : isiP (.tup xs) (.tup [.ty .bool, .ty .str]) = some false := rfl
theorem isN_t (xs : List PV) : cmpP .Is (.tup xs) .non = some false := rfl
theorem isnN_t (xs : List PV) : cmpP .IsNot (.tup xs) .non = some true := rfl
theorem eq_ii (i j : Int) : cmpP .Eq (.int i) (.int j) = some (i == j) := rfl
theorem eq_bb (i j : Bool) : cmpP .Eq (.bl i) (.bl j) = some (i == j) := rfl
theorem eq_ss (i j : Str) : cmpP .Eq (.str i) (.str j) = some (i == j) := rfl
theorem eq_nn : cmpP .Eq .non .non = some true := rfl
theorem ne_bb (i j : Bool) : cmpP .NotEq (.bl i) (.bl j) = some (!(i == j)) := rfl
theorem ne_ii (i j : Int) : cmpP .NotEq (.int i) (.int j) = some (!(i == j)) := rfl
theorem ne_ss (i j : Str) : cmpP .NotEq (.str i) (.str j) = some (!(i == j)) := rfl
theorem lt_ii (i j : Int) : cmpP .Lt (.int i) (.int j) = some (decide (i < j)) := rfl
theorem le_ii (i j : Int) : cmpP .LtE (.int i) (.int j) = some (decide (i ≤ j)) := rfl
theorem ge_ii (i j : Int) : cmpP .GtE (.int i) (.int j) = some (decide (j ≤ i)) := rfl
theorem blt_len_t (xs : List PV) : bltP .len [.tup xs] = some (.int xs.length) := rfl
theorem blt_isi (p q : PV) : bltP .isinstance [p, q] = (isiP p q).map .bl := rfl
theorem blt_all (xs : List PV) : bltP .all [.lst xs] = (allBls xs).map fun bs => .bl (bs.all id) := rfl
theorem truth_b (b : Bool) : truth (.bl b) = some b := rfl
theorem allBls_true {α : Type} : ∀ xs : List α, allBls (xs.map fun _ => PV.bl true) = some (xs.map fun _ => true)
  | [] => rfl
  | x :: xs => by
    show (allBls (xs.map fun _ => PV.bl true)).map (true :: ·) = _
    rw [allBls_true xs]; rfl
theorem all_true {α : Type} : ∀ xs : List α, (xs.map fun _ => true).all id = true
  | [] => rfl
  | x :: xs => all_true xs
mutual
def good : PV → Bool
  | .non => true
  | .bl _ => true
  | .int _ => true
  | .str _ => true
  | .tup xs => goods xs && decide (xs.length ≤ sizeLine)
  | .lst xs => goods xs && decide (xs.length ≤ sizeLine)
  | _ => false
def goods : List PV → Bool
  | [] => true
  | x :: xs => good x && goods xs
end
theorem goods_mem : ∀ {xs : List PV}, goods xs = true → ∀ x ∈ xs, good x = true
  | [], _, x, h => by cases h
  | y :: ys, hg, x, h => by
    obtain ⟨h1, h2⟩ := band hg
    rcases List.mem_cons.mp h with rfl | h
    · exact h1
    · exact goods_mem h2 x h
theorem depPs_mem : ∀ {xs : List PV} {x : PV}, x ∈ xs → depP x ≤ depPs xs
  | y :: ys, x, h => by
    have e : depPs (y :: ys) = max (depP y) (depPs ys) := rfl
    rcases List.mem_cons.mp h with rfl | h
    · omega
    · have := depPs_mem h; omega
structure SameOk (C : Cal) (n : Nat) : Prop where
  sig : C.sig "_law_same" = some [false, false]
  run : ∀ p : PV, good p = true → depP p < n → C.run "_law_same" [p, p] = .ok (.bl true, .fz) []
theorem same_loop {C : Cal} {n : Nat} (h : SameOk C n) (p q : PV) : ∀ xs : List PV, goods xs = true → depPs xs < n →
    compLoop (compTurnE [2, 3] (.tup [2, 3]) (ev C .no).2 (ev C (.call "_law_same" (.cons (.var 2) (.cons (.var 3) .nil)))).1) (zipItems xs xs) [some (p, .fz), some (q, .fz), none, none] = .ok (xs.map fun _ => PV.bl true) [some (p, .fz), some (q, .fz), none, none]
  | [], _, _ => rfl
  | x :: xs, hg, hd => by
    obtain ⟨g1, g2⟩ := band hg
    have e : depPs (x :: xs) = max (depP x) (depPs xs) := rfl
    have ih := same_loop h p q xs g2 (by omega)
    have sg := h.sig
    have hr := h.run x g1 (by omega)
    have st : setG (.tup [2, 3]) (.tup [x, x]) [some (p, .fz), some (q, .fz), none, none] = some [some (p, .fz), some (q, .fz), some (x, .fz), some (x, .fz)] := rfl
    show compLoop _ (.tup [x, x] :: zipItems xs xs) _ = _
    simp only [bd_ok, bd_exc, bd_bad, fo_ok, fo_exc, th_nx, th_ret, th_exc, th_brk, th_cnt, tk_nx, tk_cnt, tk_brk, tk_ret, tk_exc, x_nil, x_seq, kAsg_eq, x_asg, kUnp_eq, x_unp, kPar_eq, x_par, kSet2_eq, kDct2_eq, kSet1_eq, x_seti, kApp_eq, x_app, kExpr_eq, x_expr, x_ret, x_retN, kIf_eq, x_ife, kLoop_eq, x_loop, x_whl, kWh_eq, x_brk, x_cnt, x_pass, x_boom, x_drop, kRa_eq, x_raise, x_raise0, x_try, ty_exc, ty_nx, ty_ret, kCl2_eq, kCl1_eq, kTr_eq, kB2_eq, kB1_eq, kU_eq, kTup_eq, kLst_eq, kS2_eq, kS1_eq, kC3_eq, kC2_eq, kC1_eq, kCall_eq, kK2_eq, kK1_eq, kBl_eq, kM2_eq, kM1_eq, kCo_eq, kRg_eq, kEn_eq, kZ2_eq, kZ1_eq, kBi_eq, kMk_eq, kIx_eq, kFl_eq, kCv2_eq, kCv1_eq, kLi2_eq, kLi1_eq, kL1_eq, kL3_eq, kL2_eq, kSs_eq, v_int, t_int, v_str, t_str, v_bl, t_bl, v_non, t_non, v_cst, t_cst, v_fnv, t_fnv, v_tyv, t_tyv, v_bin, t_bin, v_un, t_un, v_tup, t_tup, v_lst, t_lst, v_sub, t_sub, v_slc, t_slc, v_call, t_call, v_callk, t_callk, v_blt, t_blt, v_mth, t_mth, v_comp, t_comp, v_rng, t_rng, v_enm, t_enm, v_zip, t_zip, v_dnew, t_dnew, v_ddis, t_ddis, v_mk0, t_mk0, v_mk1, t_mk1, v_mkk, t_mkk, v_isx, t_isx, v_fld, t_fld, v_callv, t_callv, v_lidx, t_lidx, v_bits, t_bits, v_lrn1, t_lrn1, v_lrng, t_lrng, v_sset, t_sset, kVb_eq, kQ2_eq, kQ1_eq, kH4_eq, kH3_eq, kH2_eq, kH1_eq, v_cmp, t_cmp, v_chn, t_chn, v_var, t_var, kN2_eq, kN1_eq, kNt_eq, v_not, t_not, kAn_eq, kAt_eq, v_and, t_and, kOn_eq, kOt_eq, v_or, t_or, kIv_eq, kIt_eq, v_ife, t_ife, v_seq, v_no, kOs2_eq, kOs1_eq, os_nil, os_cons, kF2_eq, kF1_eq, f_nil, f_cons, kG2_eq, kG1_eq, kG3_eq, g_nil, g_val, g_slot, kGt_eq, g_tmpc, o_var, kIe_eq, it_ev, p_no, kRt_eq, r_var, kV_eq, kPt_eq, o_int, r_int, p_int, o_str, r_str, p_str, o_bl, r_bl, p_bl, o_non, r_non, p_non, o_cst, r_cst, p_cst, o_fnv, r_fnv, p_fnv, o_tyv, r_tyv, p_tyv, o_bin, r_bin, p_bin, o_un, r_un, p_un, o_tup, r_tup, p_tup, o_lst, r_lst, p_lst, o_sub, r_sub, p_sub, o_slc, r_slc, p_slc, o_call, r_call, p_call, o_callk, r_callk, p_callk, o_blt, r_blt, p_blt, o_mth, r_mth, p_mth, o_comp, r_comp, p_comp, o_rng, r_rng, p_rng, o_enm, r_enm, p_enm, o_zip, r_zip, p_zip, o_dnew, r_dnew, p_dnew, o_ddis, r_ddis, p_ddis, o_mk0, r_mk0, p_mk0, o_mk1, r_mk1, p_mk1, o_mkk, r_mkk, p_mkk, o_isx, r_isx, p_isx, o_fld, r_fld, p_fld, o_callv, r_callv, p_callv, o_lidx, r_lidx, p_lidx, o_bits, r_bits, p_bits, o_lrn1, r_lrn1, p_lrn1, o_lrng, r_lrng, p_lrng, o_sset, r_sset, p_sset, o_cmp, r_cmp, p_cmp, o_chn, r_chn, p_chn, o_not, r_not, p_not, o_and, r_and, p_and, o_or, r_or, p_or, o_ife, r_ife, p_ife, p_var, kT3_eq, kT2_eq, evVar, tsVar, liftO, liftB, flOf, fzO, okIf, cmp2, rsO, rsOs, unP, truth, lstAt, argV, argVs, slotsOf, argBack, setP, itO, itemsP, setPar, isNonP, kindO, seqOf, ownFz, wipeE, unwipe, consO, enmP, zipP, fnOf?, callV, isLst, List.map_cons, List.map_nil, List.all_cons, List.all_nil, Bool.and_true, Bool.true_and, Bool.and_self, Option.bind_some, Option.map_some, List.getElem?_cons_zero, List.getElem?_cons_succ, List.set_cons_zero, List.set_cons_succ, Option.isSome_some, if_true, if_false, ite_true, ite_false, decide_true, decide_false, Bool.not_true, Bool.not_false, reduceIte, Bool.false_eq_true, cl_cons, ct_eq, kT2_eq, kT3_eq, st, sg, hr, doCall, nd0, ih, sz0, sz1, sz2, sz3, sz4, sz5, sz6, sz7, sz8, sz9, sz10, sz11, sz12, sz13, sz14, sz15, sz16, sz17, sz18, sz19, sz20]
    try rfl
theorem same_run {C : Cal} {n : Nat} (h : SameOk C n) (p : PV) (hg : good p = true) (hd : depP p < n + 1) : exec C sameB [some (p, .fz), some (p, .fz), none, none] = .ret (.bl true, .fz) [some (p, .fz), some (p, .fz), none, none] := by
  unfold sameB
  cases p with
  | non => rfl
  | bl b => cases b <;> rfl
  | int i =>
    simp only [bd_ok, bd_exc, bd_bad, fo_ok, fo_exc, th_nx, th_ret, th_exc, th_brk, th_cnt, tk_nx, tk_cnt, tk_brk, tk_ret, tk_exc, x_nil, x_seq, kAsg_eq, x_asg, kUnp_eq, x_unp, kPar_eq, x_par, kSet2_eq, kDct2_eq, kSet1_eq, x_seti, kApp_eq, x_app, kExpr_eq, x_expr, x_ret, x_retN, kIf_eq, x_ife, kLoop_eq, x_loop, x_whl, kWh_eq, x_brk, x_cnt, x_pass, x_boom, x_drop, kRa_eq, x_raise, x_raise0, x_try, ty_exc, ty_nx, ty_ret, kCl2_eq, kCl1_eq, kTr_eq, kB2_eq, kB1_eq, kU_eq, kTup_eq, kLst_eq, kS2_eq, kS1_eq, kC3_eq, kC2_eq, kC1_eq, kCall_eq, kK2_eq, kK1_eq, kBl_eq, kM2_eq, kM1_eq, kCo_eq, kRg_eq, kEn_eq, kZ2_eq, kZ1_eq, kBi_eq, kMk_eq, kIx_eq, kFl_eq, kCv2_eq, kCv1_eq, kLi2_eq, kLi1_eq, kL1_eq, kL3_eq, kL2_eq, kSs_eq, v_int, t_int, v_str, t_str, v_bl, t_bl, v_non, t_non, v_cst, t_cst, v_fnv, t_fnv, v_tyv, t_tyv, v_bin, t_bin, v_un, t_un, v_tup, t_tup, v_lst, t_lst, v_sub, t_sub, v_slc, t_slc, v_call, t_call, v_callk, t_callk, v_blt, t_blt, v_mth, t_mth, v_comp, t_comp, v_rng, t_rng, v_enm, t_enm, v_zip, t_zip, v_dnew, t_dnew, v_ddis, t_ddis, v_mk0, t_mk0, v_mk1, t_mk1, v_mkk, t_mkk, v_isx, t_isx, v_fld, t_fld, v_callv, t_callv, v_lidx, t_lidx, v_bits, t_bits, v_lrn1, t_lrn1, v_lrng, t_lrng, v_sset, t_sset, kVb_eq, kQ2_eq, kQ1_eq, kH4_eq, kH3_eq, kH2_eq, kH1_eq, v_cmp, t_cmp, v_chn, t_chn, v_var, t_var, kN2_eq, kN1_eq, kNt_eq, v_not, t_not, kAn_eq, kAt_eq, v_and, t_and, kOn_eq, kOt_eq, v_or, t_or, kIv_eq, kIt_eq, v_ife, t_ife, v_seq, v_no, kOs2_eq, kOs1_eq, os_nil, os_cons, kF2_eq, kF1_eq, f_nil, f_cons, kG2_eq, kG1_eq, kG3_eq, g_nil, g_val, g_slot, kGt_eq, g_tmpc, o_var, kIe_eq, it_ev, p_no, kRt_eq, r_var, kV_eq, kPt_eq, o_int, r_int, p_int, o_str, r_str, p_str, o_bl, r_bl, p_bl, o_non, r_non, p_non, o_cst, r_cst, p_cst, o_fnv, r_fnv, p_fnv, o_tyv, r_tyv, p_tyv, o_bin, r_bin, p_bin, o_un, r_un, p_un, o_tup, r_tup, p_tup, o_lst, r_lst, p_lst, o_sub, r_sub, p_sub, o_slc, r_slc, p_slc, o_call, r_call, p_call, o_callk, r_callk, p_callk, o_blt, r_blt, p_blt, o_mth, r_mth, p_mth, o_comp, r_comp, p_comp, o_rng, r_rng, p_rng, o_enm, r_enm, p_enm, o_zip, r_zip, p_zip, o_dnew, r_dnew, p_dnew, o_ddis, r_ddis, p_ddis, o_mk0, r_mk0, p_mk0, o_mk1, r_mk1, p_mk1, o_mkk, r_mkk, p_mkk, o_isx, r_isx, p_isx, o_fld, r_fld, p_fld, o_callv, r_callv, p_callv, o_lidx, r_lidx, p_lidx, o_bits, r_bits, p_bits, o_lrn1, r_lrn1, p_lrn1, o_lrng, r_lrng, p_lrng, o_sset, r_sset, p_sset, o_cmp, r_cmp, p_cmp, o_chn, r_chn, p_chn, o_not, r_not, p_not, o_and, r_and, p_and, o_or, r_or, p_or, o_ife, r_ife, p_ife, p_var, kT3_eq, kT2_eq, evVar, tsVar, liftO, liftB, flOf, fzO, okIf, cmp2, rsO, rsOs, unP, truth, lstAt, argV, argVs, slotsOf, argBack, setP, itO, itemsP, setPar, isNonP, kindO, seqOf, ownFz, wipeE, unwipe, consO, enmP, zipP, fnOf?, callV, isLst, List.map_cons, List.map_nil, List.all_cons, List.all_nil, Bool.and_true, Bool.true_and, Bool.and_self, Option.bind_some, Option.map_some, List.getElem?_cons_zero, List.getElem?_cons_succ, List.set_cons_zero, List.set_cons_succ, Option.isSome_some, if_true, if_false, ite_true, ite_false, decide_true, decide_false, Bool.not_true, Bool.not_false, reduceIte, Bool.false_eq_true, isi_n_list, isi_n_tuple, isi_n_bool, isi_n_str, isi_n_int, isi_n_lt, isi_n_bs, isN_n, isnN_n, isi_b_list, isi_b_tuple, isi_b_bool, isi_b_str, isi_b_int, isi_b_lt, isi_b_bs, isN_b, isnN_b, isi_i_list, isi_i_tuple, isi_i_bool, isi_i_str, isi_i_int, isi_i_lt, isi_i_bs, isN_i, isnN_i, isi_s_list, isi_s_tuple, isi_s_bool, isi_s_str, isi_s_int, isi_s_lt, isi_s_bs, isN_s, isnN_s, isi_l_list, isi_l_tuple, isi_l_bool, isi_l_str, isi_l_int, isi_l_lt, isi_l_bs, isN_l, isnN_l, isi_t_list, isi_t_tuple, isi_t_bool, isi_t_str, isi_t_int, isi_t_lt, isi_t_bs, isN_t, isnN_t, eq_ii, eq_bb, ne_bb, blt_isi, truth_b, beq_self_eq_true, sz0, sz1, sz2, sz3, sz4, sz5, sz6, sz7, sz8, sz9, sz10, sz11, sz12, sz13, sz14, sz15, sz16, sz17, sz18, sz19, sz20]
  | str x =>
    simp only [bd_ok, bd_exc, bd_bad, fo_ok, fo_exc, th_nx, th_ret, th_exc, th_brk, th_cnt, tk_nx, tk_cnt, tk_brk, tk_ret, tk_exc, x_nil, x_seq, kAsg_eq, x_asg, kUnp_eq, x_unp, kPar_eq, x_par, kSet2_eq, kDct2_eq, kSet1_eq, x_seti, kApp_eq, x_app, kExpr_eq, x_expr, x_ret, x_retN, kIf_eq, x_ife, kLoop_eq, x_loop, x_whl, kWh_eq, x_brk, x_cnt, x_pass, x_boom, x_drop, kRa_eq, x_raise, x_raise0, x_try, ty_exc, ty_nx, ty_ret, kCl2_eq, kCl1_eq, kTr_eq, kB2_eq, kB1_eq, kU_eq, kTup_eq, kLst_eq, kS2_eq, kS1_eq, kC3_eq, kC2_eq, kC1_eq, kCall_eq, kK2_eq, kK1_eq, kBl_eq, kM2_eq, kM1_eq, kCo_eq, kRg_eq, kEn_eq, kZ2_eq, kZ1_eq, kBi_eq, kMk_eq, kIx_eq, kFl_eq, kCv2_eq, kCv1_eq, kLi2_eq, kLi1_eq, kL1_eq, kL3_eq, kL2_eq, kSs_eq, v_int, t_int, v_str, t_str, v_bl, t_bl, v_non, t_non, v_cst, t_cst, v_fnv, t_fnv, v_tyv, t_tyv, v_bin, t_bin, v_un, t_un, v_tup, t_tup, v_lst, t_lst, v_sub, t_sub, v_slc, t_slc, v_call, t_call, v_callk, t_callk, v_blt, t_blt, v_mth, t_mth, v_comp, t_comp, v_rng, t_rng, v_enm, t_enm, v_zip, t_zip, v_dnew, t_dnew, v_ddis, t_ddis, v_mk0, t_mk0, v_mk1, t_mk1, v_mkk, t_mkk, v_isx, t_isx, v_fld, t_fld, v_callv, t_callv, v_lidx, t_lidx, v_bits, t_bits, v_lrn1, t_lrn1, v_lrng, t_lrng, v_sset, t_sset, kVb_eq, kQ2_eq, kQ1_eq, kH4_eq, kH3_eq, kH2_eq, kH1_eq, v_cmp, t_cmp, v_chn, t_chn, v_var, t_var, kN2_eq, kN1_eq, kNt_eq, v_not, t_not, kAn_eq, kAt_eq, v_and, t_and, kOn_eq, kOt_eq, v_or, t_or, kIv_eq, kIt_eq, v_ife, t_ife, v_seq, v_no, kOs2_eq, kOs1_eq, os_nil, os_cons, kF2_eq, kF1_eq, f_nil, f_cons, kG2_eq, kG1_eq, kG3_eq, g_nil, g_val, g_slot, kGt_eq, g_tmpc, o_var, kIe_eq, it_ev, p_no, kRt_eq, r_var, kV_eq, kPt_eq, o_int, r_int, p_int, o_str, r_str, p_str, o_bl, r_bl, p_bl, o_non, r_non, p_non, o_cst, r_cst, p_cst, o_fnv, r_fnv, p_fnv, o_tyv, r_tyv, p_tyv, o_bin, r_bin, p_bin, o_un, r_un, p_un, o_tup, r_tup, p_tup, o_lst, r_lst, p_lst, o_sub, r_sub, p_sub, o_slc, r_slc, p_slc, o_call, r_call, p_call, o_callk, r_callk, p_callk, o_blt, r_blt, p_blt, o_mth, r_mth, p_mth, o_comp, r_comp, p_comp, o_rng, r_rng, p_rng, o_enm, r_enm, p_enm, o_zip, r_zip, p_zip, o_dnew, r_dnew, p_dnew, o_ddis, r_ddis, p_ddis, o_mk0, r_mk0, p_mk0, o_mk1, r_mk1, p_mk1, o_mkk, r_mkk, p_mkk, o_isx, r_isx, p_isx, o_fld, r_fld, p_fld, o_callv, r_callv, p_callv, o_lidx, r_lidx, p_lidx, o_bits, r_bits, p_bits, o_lrn1, r_lrn1, p_lrn1, o_lrng, r_lrng, p_lrng, o_sset, r_sset, p_sset, o_cmp, r_cmp, p_cmp, o_chn, r_chn, p_chn, o_not, r_not, p_not, o_and, r_and, p_and, o_or, r_or, p_or, o_ife, r_ife, p_ife, p_var, kT3_eq, kT2_eq, evVar, tsVar, liftO, liftB, flOf, fzO, okIf, cmp2, rsO, rsOs, unP, truth, lstAt, argV, argVs, slotsOf, argBack, setP, itO, itemsP, setPar, isNonP, kindO, seqOf, ownFz, wipeE, unwipe, consO, enmP, zipP, fnOf?, callV, isLst, List.map_cons, List.map_nil, List.all_cons, List.all_nil, Bool.and_true, Bool.true_and, Bool.and_self, Option.bind_some, Option.map_some, List.getElem?_cons_zero, List.getElem?_cons_succ, List.set_cons_zero, List.set_cons_succ, Option.isSome_some, if_true, if_false, ite_true, ite_false, decide_true, decide_false, Bool.not_true, Bool.not_false, reduceIte, Bool.false_eq_true, isi_n_list, isi_n_tuple, isi_n_bool, isi_n_str, isi_n_int, isi_n_lt, isi_n_bs, isN_n, isnN_n, isi_b_list, isi_b_tuple, isi_b_bool, isi_b_str, isi_b_int, isi_b_lt, isi_b_bs, isN_b, isnN_b, isi_i_list, isi_i_tuple, isi_i_bool, isi_i_str, isi_i_int, isi_i_lt, isi_i_bs, isN_i, isnN_i, isi_s_list, isi_s_tuple, isi_s_bool, isi_s_str, isi_s_int, isi_s_lt, isi_s_bs, isN_s, isnN_s, isi_l_list, isi_l_tuple, isi_l_bool, isi_l_str, isi_l_int, isi_l_lt, isi_l_bs, isN_l, isnN_l, isi_t_list, isi_t_tuple, isi_t_bool, isi_t_str, isi_t_int, isi_t_lt, isi_t_bs, isN_t, isnN_t, eq_ss, eq_bb, ne_bb, blt_isi, truth_b, beq_self_eq_true, sz0, sz1, sz2, sz3, sz4, sz5, sz6, sz7, sz8, sz9, sz10, sz11, sz12, sz13, sz14, sz15, sz16, sz17, sz18, sz19, sz20]
  | lst xs =>
    obtain ⟨g1, g2⟩ := band (show (goods xs && decide (xs.length ≤ sizeLine)) = true from hg)
    have hl := same_loop h (.lst xs) (.lst xs) xs g1 (by have e : depP (.lst xs) = depPs xs + 1 := rfl; omega)
    have hs : (xs.map fun _ => PV.bl true).length ≤ sizeLine := by rw [List.length_map]; exact of_decide_eq_true g2
    simp only [bd_ok, bd_exc, bd_bad, fo_ok, fo_exc, th_nx, th_ret, th_exc, th_brk, th_cnt, tk_nx, tk_cnt, tk_brk, tk_ret, tk_exc, x_nil, x_seq, kAsg_eq, x_asg, kUnp_eq, x_unp, kPar_eq, x_par, kSet2_eq, kDct2_eq, kSet1_eq, x_seti, kApp_eq, x_app, kExpr_eq, x_expr, x_ret, x_retN, kIf_eq, x_ife, kLoop_eq, x_loop, x_whl, kWh_eq, x_brk, x_cnt, x_pass, x_boom, x_drop, kRa_eq, x_raise, x_raise0, x_try, ty_exc, ty_nx, ty_ret, kCl2_eq, kCl1_eq, kTr_eq, kB2_eq, kB1_eq, kU_eq, kTup_eq, kLst_eq, kS2_eq, kS1_eq, kC3_eq, kC2_eq, kC1_eq, kCall_eq, kK2_eq, kK1_eq, kBl_eq, kM2_eq, kM1_eq, kCo_eq, kRg_eq, kEn_eq, kZ2_eq, kZ1_eq, kBi_eq, kMk_eq, kIx_eq, kFl_eq, kCv2_eq, kCv1_eq, kLi2_eq, kLi1_eq, kL1_eq, kL3_eq, kL2_eq, kSs_eq, v_int, t_int, v_str, t_str, v_bl, t_bl, v_non, t_non, v_cst, t_cst, v_fnv, t_fnv, v_tyv, t_tyv, v_bin, t_bin, v_un, t_un, v_tup, t_tup, v_lst, t_lst, v_sub, t_sub, v_slc, t_slc, v_call, t_call, v_callk, t_callk, v_blt, t_blt, v_mth, t_mth, v_comp, t_comp, v_rng, t_rng, v_enm, t_enm, v_zip, t_zip, v_dnew, t_dnew, v_ddis, t_ddis, v_mk0, t_mk0, v_mk1, t_mk1, v_mkk, t_mkk, v_isx, t_isx, v_fld, t_fld, v_callv, t_callv, v_lidx, t_lidx, v_bits, t_bits, v_lrn1, t_lrn1, v_lrng, t_lrng, v_sset, t_sset, kVb_eq, kQ2_eq, kQ1_eq, kH4_eq, kH3_eq, kH2_eq, kH1_eq, v_cmp, t_cmp, v_chn, t_chn, v_var, t_var, kN2_eq, kN1_eq, kNt_eq, v_not, t_not, kAn_eq, kAt_eq, v_and, t_and, kOn_eq, kOt_eq, v_or, t_or, kIv_eq, kIt_eq, v_ife, t_ife, v_seq, v_no, kOs2_eq, kOs1_eq, os_nil, os_cons, kF2_eq, kF1_eq, f_nil, f_cons, kG2_eq, kG1_eq, kG3_eq, g_nil, g_val, g_slot, kGt_eq, g_tmpc, o_var, kIe_eq, it_ev, p_no, kRt_eq, r_var, kV_eq, kPt_eq, o_int, r_int, p_int, o_str, r_str, p_str, o_bl, r_bl, p_bl, o_non, r_non, p_non, o_cst, r_cst, p_cst, o_fnv, r_fnv, p_fnv, o_tyv, r_tyv, p_tyv, o_bin, r_bin, p_bin, o_un, r_un, p_un, o_tup, r_tup, p_tup, o_lst, r_lst, p_lst, o_sub, r_sub, p_sub, o_slc, r_slc, p_slc, o_call, r_call, p_call, o_callk, r_callk, p_callk, o_blt, r_blt, p_blt, o_mth, r_mth, p_mth, o_comp, r_comp, p_comp, o_rng, r_rng, p_rng, o_enm, r_enm, p_enm, o_zip, r_zip, p_zip, o_dnew, r_dnew, p_dnew, o_ddis, r_ddis, p_ddis, o_mk0, r_mk0, p_mk0, o_mk1, r_mk1, p_mk1, o_mkk, r_mkk, p_mkk, o_isx, r_isx, p_isx, o_fld, r_fld, p_fld, o_callv, r_callv, p_callv, o_lidx, r_lidx, p_lidx, o_bits, r_bits, p_bits, o_lrn1, r_lrn1, p_lrn1, o_lrng, r_lrng, p_lrng, o_sset, r_sset, p_sset, o_cmp, r_cmp, p_cmp, o_chn, r_chn, p_chn, o_not, r_not, p_not, o_and, r_and, p_and, o_or, r_or, p_or, o_ife, r_ife, p_ife, p_var, kT3_eq, kT2_eq, evVar, tsVar, liftO, liftB, flOf, fzO, okIf, cmp2, rsO, rsOs, unP, truth, lstAt, argV, argVs, slotsOf, argBack, setP, itO, itemsP, setPar, isNonP, kindO, seqOf, ownFz, wipeE, unwipe, consO, enmP, zipP, fnOf?, callV, isLst, List.map_cons, List.map_nil, List.all_cons, List.all_nil, Bool.and_true, Bool.true_and, Bool.and_self, Option.bind_some, Option.map_some, List.getElem?_cons_zero, List.getElem?_cons_succ, List.set_cons_zero, List.set_cons_succ, Option.isSome_some, if_true, if_false, ite_true, ite_false, decide_true, decide_false, Bool.not_true, Bool.not_false, reduceIte, Bool.false_eq_true, isi_n_list, isi_n_tuple, isi_n_bool, isi_n_str, isi_n_int, isi_n_lt, isi_n_bs, isN_n, isnN_n, isi_b_list, isi_b_tuple, isi_b_bool, isi_b_str, isi_b_int, isi_b_lt, isi_b_bs, isN_b, isnN_b, isi_i_list, isi_i_tuple, isi_i_bool, isi_i_str, isi_i_int, isi_i_lt, isi_i_bs, isN_i, isnN_i, isi_s_list, isi_s_tuple, isi_s_bool, isi_s_str, isi_s_int, isi_s_lt, isi_s_bs, isN_s, isnN_s, isi_l_list, isi_l_tuple, isi_l_bool, isi_l_str, isi_l_int, isi_l_lt, isi_l_bs, isN_l, isnN_l, isi_t_list, isi_t_tuple, isi_t_bool, isi_t_str, isi_t_int, isi_t_lt, isi_t_bs, isN_t, isnN_t, eq_ii, eq_bb, ne_bb, blt_isi, blt_len_l, truth_b, beq_self_eq_true, hl, compEnd, hs, blt_all, allBls_true, all_true, sz0, sz1, sz2, sz3, sz4, sz5, sz6, sz7, sz8, sz9, sz10, sz11, sz12, sz13, sz14, sz15, sz16, sz17, sz18, sz19, sz20]
  | tup xs =>
    obtain ⟨g1, g2⟩ := band (show (goods xs && decide (xs.length ≤ sizeLine)) = true from hg)
    have hl := same_loop h (.tup xs) (.tup xs) xs g1 (by have e : depP (.tup xs) = depPs xs + 1 := rfl; omega)
    have hs : (xs.map fun _ => PV.bl true).length ≤ sizeLine := by rw [List.length_map]; exact of_decide_eq_true g2
    simp only [bd_ok, bd_exc, bd_bad, fo_ok, fo_exc, th_nx, th_ret, th_exc, th_brk, th_cnt, tk_nx, tk_cnt, tk_brk, tk_ret, tk_exc, x_nil, x_seq, kAsg_eq, x_asg, kUnp_eq, x_unp, kPar_eq, x_par, kSet2_eq, kDct2_eq, kSet1_eq, x_seti, kApp_eq, x_app, kExpr_eq, x_expr, x_ret, x_retN, kIf_eq, x_ife, kLoop_eq, x_loop, x_whl, kWh_eq, x_brk, x_cnt, x_pass, x_boom, x_drop, kRa_eq, x_raise, x_raise0, x_try, ty_exc, ty_nx, ty_ret, kCl2_eq, kCl1_eq, kTr_eq, kB2_eq, kB1_eq, kU_eq, kTup_eq, kLst_eq, kS2_eq, kS1_eq, kC3_eq, kC2_eq, kC1_eq, kCall_eq, kK2_eq, kK1_eq, kBl_eq, kM2_eq, kM1_eq, kCo_eq, kRg_eq, kEn_eq, kZ2_eq, kZ1_eq, kBi_eq, kMk_eq, kIx_eq, kFl_eq, kCv2_eq, kCv1_eq, kLi2_eq, kLi1_eq, kL1_eq, kL3_eq, kL2_eq, kSs_eq, v_int, t_int, v_str, t_str, v_bl, t_bl, v_non, t_non, v_cst, t_cst, v_fnv, t_fnv, v_tyv, t_tyv, v_bin, t_bin, v_un, t_un, v_tup, t_tup, v_lst, t_lst, v_sub, t_sub, v_slc, t_slc, v_call, t_call, v_callk, t_callk, v_blt, t_blt, v_mth, t_mth, v_comp, t_comp, v_rng, t_rng, v_enm, t_enm, v_zip, t_zip, v_dnew, t_dnew, v_ddis, t_ddis, v_mk0, t_mk0, v_mk1, t_mk1, v_mkk, t_mkk, v_isx, t_isx, v_fld, t_fld, v_callv, t_callv, v_lidx, t_lidx, v_bits, t_bits, v_lrn1, t_lrn1, v_lrng, t_lrng, v_sset, t_sset, kVb_eq, kQ2_eq, kQ1_eq, kH4_eq, kH3_eq, kH2_eq, kH1_eq, v_cmp, t_cmp, v_chn, t_chn, v_var, t_var, kN2_eq, kN1_eq, kNt_eq, v_not, t_not, kAn_eq, kAt_eq, v_and, t_and, kOn_eq, kOt_eq, v_or, t_or, kIv_eq, kIt_eq, v_ife, t_ife, v_seq, v_no, kOs2_eq, kOs1_eq, os_nil, os_cons, kF2_eq, kF1_eq, f_nil, f_cons, kG2_eq, kG1_eq, kG3_eq, g_nil, g_val, g_slot, kGt_eq, g_tmpc, o_var, kIe_eq, it_ev, p_no, kRt_eq, r_var, kV_eq, kPt_eq, o_int, r_int, p_int, o_str, r_str, p_str, o_bl, r_bl, p_bl, o_non, r_non, p_non, o_cst, r_cst, p_cst, o_fnv, r_fnv, p_fnv, o_tyv, r_tyv, p_tyv, o_bin, r_bin, p_bin, o_un, r_un, p_un, o_tup, r_tup, p_tup, o_lst, r_lst, p_lst, o_sub, r_sub, p_sub, o_slc, r_slc, p_slc, o_call, r_call, p_call, o_callk, r_callk, p_callk, o_blt, r_blt, p_blt, o_mth, r_mth, p_mth, o_comp, r_comp, p_comp, o_rng, r_rng, p_rng, o_enm, r_enm, p_enm, o_zip, r_zip, p_zip, o_dnew, r_dnew, p_dnew, o_ddis, r_ddis, p_ddis, o_mk0, r_mk0, p_mk0, o_mk1, r_mk1, p_mk1, o_mkk, r_mkk, p_mkk, o_isx, r_isx, p_isx, o_fld, r_fld, p_fld, o_callv, r_callv, p_callv, o_lidx, r_lidx, p_lidx, o_bits, r_bits, p_bits, o_lrn1, r_lrn1, p_lrn1, o_lrng, r_lrng, p_lrng, o_sset, r_sset, p_sset, o_cmp, r_cmp, p_cmp, o_chn, r_chn, p_chn, o_not, r_not, p_not, o_and, r_and, p_and, o_or, r_or, p_or, o_ife, r_ife, p_ife, p_var, kT3_eq, kT2_eq, evVar, tsVar, liftO, liftB, flOf, fzO, okIf, cmp2, rsO, rsOs, unP, truth, lstAt, argV, argVs, slotsOf, argBack, setP, itO, itemsP, setPar, isNonP, kindO, seqOf, ownFz, wipeE, unwipe, consO, enmP, zipP, fnOf?, callV, isLst, List.map_cons, List.map_nil, List.all_cons, List.all_nil, Bool.and_true, Bool.true_and, Bool.and_self, Option.bind_some, Option.map_some, List.getElem?_cons_zero, List.getElem?_cons_succ, List.set_cons_zero, List.set_cons_succ, Option.isSome_some, if_true, if_false, ite_true, ite_false, decide_true, decide_false, Bool.not_true, Bool.not_false, reduceIte, Bool.false_eq_true, isi_n_list, isi_n_tuple, isi_n_bool, isi_n_str, isi_n_int, isi_n_lt, isi_n_bs, isN_n, isnN_n, isi_b_list, isi_b_tuple, isi_b_bool, isi_b_str, isi_b_int, isi_b_lt, isi_b_bs, isN_b, isnN_b, isi_i_list, isi_i_tuple, isi_i_bool, isi_i_str, isi_i_int, isi_i_lt, isi_i_bs, isN_i, isnN_i, isi_s_list, isi_s_tuple, isi_s_bool, isi_s_str, isi_s_int, isi_s_lt, isi_s_bs, isN_s, isnN_s, isi_l_list, isi_l_tuple, isi_l_bool, isi_l_str, isi_l_int, isi_l_lt, isi_l_bs, isN_l, isnN_l, isi_t_list, isi_t_tuple, isi_t_bool, isi_t_str, isi_t_int, isi_t_lt, isi_t_bs, isN_t, isnN_t, eq_ii, eq_bb, ne_bb, blt_isi, blt_len_t, truth_b, beq_self_eq_true, hl, compEnd, hs, blt_all, allBls_true, all_true, sz0, sz1, sz2, sz3, sz4, sz5, sz6, sz7, sz8, sz9, sz10, sz11, sz12, sz13, sz14, sz15, sz16, sz17, sz18, sz19, sz20]
  | _ => cases hg
theorem same_ok {C : Cal} {n : Nat} (h : SameOk C n) {d : FD} (hb : d.body = sameB) (hN : d.N.length = 4) (hs : d.sg = [false, false]) (p : PV) (hg : good p = true) (hd : depP p < n + 1) : runF C (some d) [p, p] = .ok (.bl true, .fz) [] := by
  have he := same_run h p hg hd
  show finish d.sg (exec C d.body (startE d _)) = _
  unfold startE
  rw [hb, hs, hN]
  show finish _ (exec C sameB [some (p, .fz), some (p, .fz), none, none]) = _
  rw [he]; rfl
end Bd

namespace Bd
open PySem L2
/-! ### plain numbers as values -/
def nts (l : List Nat) : List PV := l.map fun (k : Nat) => PV.int (k : Int)
theorem nts_len (l : List Nat) : (nts l).length = l.length := List.length_map ..
theorem n_div (a b : Nat) : (a : Int) / (b : Int) = ((a / b : Nat) : Int) := (Int.natCast_ediv a b).symm
theorem n_mod (a b : Nat) : (a : Int) % (b : Int) = ((a % b : Nat) : Int) := (Int.natCast_emod a b).symm
theorem n_mul (a b : Nat) : (a : Int) * (b : Int) = ((a * b : Nat) : Int) := (Int.natCast_mul a b).symm
theorem n_add (a b : Nat) : (a : Int) + (b : Int) = ((a + b : Nat) : Int) := rfl
theorem n_beq (a b : Nat) : ((a : Int) == (b : Int)) = (a == b) := by
  by_cases h : a = b
  · subst h; simp
  · have h1 : ¬ (a : Int) = (b : Int) := by omega
    rw [beq_eq_false_iff_ne.mpr h, beq_eq_false_iff_ne.mpr h1]
theorem n_le (a b : Nat) : decide ((a : Int) ≤ (b : Int)) = decide (a ≤ b) := by
  by_cases h : a ≤ b
  · rw [decide_eq_true h, decide_eq_true (by omega)]
  · rw [decide_eq_false h, decide_eq_false (by omega)]
theorem n_lt (a b : Nat) : decide ((a : Int) < (b : Int)) = decide (a < b) := by
  by_cases h : a < b
  · rw [decide_eq_true h, decide_eq_true (by omega)]
  · rw [decide_eq_false h, decide_eq_false (by omega)]
theorem n_small {a : Nat} (h : a < 2 ^ 64) : smallI (a : Int) = true := small_of (by omega) (by omega)
theorem rngN (lo : Nat) : ∀ n : Nat, (List.range n).map (fun (k : Nat) => PV.int ((lo : Int) + (k : Int))) = nts (List.range' lo n)
  | 0 => rfl
  | n + 1 => by
    rw [List.range_succ, List.map_append, rngN lo n, List.range'_concat]
    unfold nts
    rw [List.map_append]
    rw [Nat.one_mul]
    rfl
theorem rng_one (j : Int) (h1 : -(2 ^ 62) ≤ j) (h2 : j < 2 ^ 62) : rngP [.int j] = some (rngItems 0 j) := by
  show (if -(2 ^ 62) ≤ j ∧ j < 2 ^ 62 then some (rngItems 0 j) else none) = _
  rw [if_pos ⟨h1, h2⟩]
theorem rng_nat (n : Nat) (h : n < 4611686018427387904) : rngP [.int n] = some (nts (List.range' 0 n)) := by
  rw [rng_one n (by omega) (by omega), ← rngN 0 n]
  unfold rngItems
  rw [Int.sub_zero, Int.toNat_natCast]
  rfl
theorem rng_end {p : PV} {xs : List PV} (e : En) (h : rngP [p] = some xs) : (fzO ((rsOs e [.val p]).bind fun ps => (rngP ps).map .lst) e).bind kIe = .ok xs e := by
  have h1 : ((rsOs e [.val p]).bind fun ps => (rngP ps).map PV.lst) = some (.lst xs) := by
    have h2 : rsOs e [.val p] = some [p] := rfl
    rw [h2, Option.bind_some, h, Option.map_some]
  rw [h1]; rfl
theorem it_rng {C : Cal} {a : IE} {e : En} {n : Nat} (h : evOs C (.cons a .nil) e = .ok [.val (.int n)] e) (hn : n < 4611686018427387904) : evIt C (.rng (.cons a .nil)) e = .ok (nts (List.range' 0 n)) e := by
  rw [it_ev, v_rng, h, bd_ok, kRg_eq]
  exact rng_end _ (rng_nat n hn)
theorem it_rngV {C : Cal} {i : Nat} {e : En} {n : Nat} {f : Fl} (h : e[i]? = some (some (.int n, f))) (hn : n < 4611686018427387904) : evIt C (.rng (.cons (.var i) .nil)) e = .ok (nts (List.range' 0 n)) e := by
  rw [it_ev, v_rng]
  have h1 : evOs C (.cons (.var i) .nil) e = .ok [.slot i] e := by
    simp only [bd_ok, bd_exc, bd_bad, fo_ok, fo_exc, th_nx, th_ret, th_exc, th_brk, th_cnt, tk_nx, tk_cnt, tk_brk, tk_ret, tk_exc, x_nil, x_seq, kAsg_eq, x_asg, kUnp_eq, x_unp, kPar_eq, x_par, kSet2_eq, kDct2_eq, kSet1_eq, x_seti, kApp_eq, x_app, kExpr_eq, x_expr, x_ret, x_retN, kIf_eq, x_ife, kLoop_eq, x_loop, x_whl, kWh_eq, x_brk, x_cnt, x_pass, x_boom, x_drop, kRa_eq, x_raise, x_raise0, x_try, ty_exc, ty_nx, ty_ret, kCl2_eq, kCl1_eq, kTr_eq, kB2_eq, kB1_eq, kU_eq, kTup_eq, kLst_eq, kS2_eq, kS1_eq, kC3_eq, kC2_eq, kC1_eq, kCall_eq, kK2_eq, kK1_eq, kBl_eq, kM2_eq, kM1_eq, kCo_eq, kRg_eq, kEn_eq, kZ2_eq, kZ1_eq, kBi_eq, kMk_eq, kIx_eq, kFl_eq, kCv2_eq, kCv1_eq, kLi2_eq, kLi1_eq, kL1_eq, kL3_eq, kL2_eq, kSs_eq, v_int, t_int, v_str, t_str, v_bl, t_bl, v_non, t_non, v_cst, t_cst, v_fnv, t_fnv, v_tyv, t_tyv, v_bin, t_bin, v_un, t_un, v_tup, t_tup, v_lst, t_lst, v_sub, t_sub, v_slc, t_slc, v_call, t_call, v_callk, t_callk, v_blt, t_blt, v_mth, t_mth, v_comp, t_comp, v_rng, t_rng, v_enm, t_enm, v_zip, t_zip, v_dnew, t_dnew, v_ddis, t_ddis, v_mk0, t_mk0, v_mk1, t_mk1, v_mkk, t_mkk, v_isx, t_isx, v_fld, t_fld, v_callv, t_callv, v_lidx, t_lidx, v_bits, t_bits, v_lrn1, t_lrn1, v_lrng, t_lrng, v_sset, t_sset, kVb_eq, kQ2_eq, kQ1_eq, kH4_eq, kH3_eq, kH2_eq, kH1_eq, v_cmp, t_cmp, v_chn, t_chn, v_var, t_var, kN2_eq, kN1_eq, kNt_eq, v_not, t_not, kAn_eq, kAt_eq, v_and, t_and, kOn_eq, kOt_eq, v_or, t_or, kIv_eq, kIt_eq, v_ife, t_ife, v_seq, v_no, kOs2_eq, kOs1_eq, os_nil, os_cons, kF2_eq, kF1_eq, f_nil, f_cons, kG2_eq, kG1_eq, kG3_eq, g_nil, g_val, g_slot, kGt_eq, g_tmpc, o_var, kIe_eq, it_ev, p_no, kRt_eq, r_var, kV_eq, kPt_eq, o_int, r_int, p_int, o_str, r_str, p_str, o_bl, r_bl, p_bl, o_non, r_non, p_non, o_cst, r_cst, p_cst, o_fnv, r_fnv, p_fnv, o_tyv, r_tyv, p_tyv, o_bin, r_bin, p_bin, o_un, r_un, p_un, o_tup, r_tup, p_tup, o_lst, r_lst, p_lst, o_sub, r_sub, p_sub, o_slc, r_slc, p_slc, o_call, r_call, p_call, o_callk, r_callk, p_callk, o_blt, r_blt, p_blt, o_mth, r_mth, p_mth, o_comp, r_comp, p_comp, o_rng, r_rng, p_rng, o_enm, r_enm, p_enm, o_zip, r_zip, p_zip, o_dnew, r_dnew, p_dnew, o_ddis, r_ddis, p_ddis, o_mk0, r_mk0, p_mk0, o_mk1, r_mk1, p_mk1, o_mkk, r_mkk, p_mkk, o_isx, r_isx, p_isx, o_fld, r_fld, p_fld, o_callv, r_callv, p_callv, o_lidx, r_lidx, p_lidx, o_bits, r_bits, p_bits, o_lrn1, r_lrn1, p_lrn1, o_lrng, r_lrng, p_lrng, o_sset, r_sset, p_sset, o_cmp, r_cmp, p_cmp, o_chn, r_chn, p_chn, o_not, r_not, p_not, o_and, r_and, p_and, o_or, r_or, p_or, o_ife, r_ife, p_ife, p_var, kT3_eq, kT2_eq, evVar, tsVar, liftO, liftB, flOf, fzO, okIf, cmp2, rsO, rsOs, unP, truth, lstAt, argV, argVs, slotsOf, argBack, setP, itO, itemsP, setPar, isNonP, kindO, seqOf, ownFz, wipeE, unwipe, consO, enmP, zipP, fnOf?, callV, isLst, List.map_cons, List.map_nil, List.all_cons, List.all_nil, Bool.and_true, Bool.true_and, Bool.and_self, Option.bind_some, Option.map_some, List.getElem?_cons_zero, List.getElem?_cons_succ, List.set_cons_zero, List.set_cons_succ, Option.isSome_some, if_true, if_false, ite_true, ite_false, decide_true, decide_false, Bool.not_true, Bool.not_false, reduceIte, Bool.false_eq_true, h, sz0, sz1, sz2, sz3, sz4, sz5, sz6, sz7, sz8, sz9, sz10, sz11, sz12, sz13, sz14, sz15, sz16, sz17, sz18, sz19, sz20]
  have h2 : rsOs e [.slot i] = some [.int n] := by
    simp only [rsOs, rsO, h, Option.bind_some, Option.map_some]
  rw [h1, bd_ok, kRg_eq, h2, Option.bind_some, rng_nat n hn]
  rfl
theorem loop_it {C : Cal} {g : IG} {it : IE} {b : IS} {e e1 : En} {xs : List PV} (h : evIt C it e = .ok xs e1) : exec C (.loop g it b) e = forLoop g (exec C b) xs e1 := by
  rw [x_loop, h]; rfl
theorem comp_it {C : Cal} {own : List Nat} {g : IG} {it cond elt : IE} {e e1 : En} {xs : List PV} (h : evIt C it e = .ok xs e1) (ho : ownFz own e1 = true) :
    (ev C (.comp own g it cond elt)).1 e = compEnd own e1 (compLoop (compTurnE own g (ev C cond).2 (ev C elt).1) xs (wipeE e1 own)) := by
  rw [v_comp, h, bd_ok, kCo_eq, if_pos ho]
theorem compEnd_ok (own : List Nat) (e1 e2 : En) (ys : List PV) (h : ys.length ≤ sizeLine) : compEnd own e1 (.ok ys e2) = .ok (.lst ys, .own) (unwipe e1 own e2) := by
  show (if ys.length ≤ sizeLine then _ else _) = _
  rw [if_pos h]
/-! ### runs that are the kernel's -/
mutual
def pvEq : PV → PV → Bool
  | .non, .non => true
  | .bl a, .bl b => a == b
  | .int i, .int j => decide (i = j)
  | .str x, .str y => decide (x = y)
  | .tup xs, .tup ys => pvEqs xs ys
  | .lst xs, .lst ys => pvEqs xs ys
  | _, _ => false
def pvEqs : List PV → List PV → Bool
  | [], [] => true
  | x :: xs, y :: ys => pvEq x y && pvEqs xs ys
  | _, _ => false
end
mutual
theorem pvEq_of : ∀ {p q : PV}, pvEq p q = true → p = q
  | .non, q, h => by cases q <;> first | rfl | exact absurd h (by simp [pvEq])
  | .bl a, q, h => by
    cases q with
    | bl b => exact congrArg _ (by simpa [pvEq] using h)
    | _ => exact absurd h (by simp [pvEq])
  | .int a, q, h => by
    cases q with
    | int b => exact congrArg _ (by simpa [pvEq] using h)
    | _ => exact absurd h (by simp [pvEq])
  | .str a, q, h => by
    cases q with
    | str b => exact congrArg _ (by simpa [pvEq] using h)
    | _ => exact absurd h (by simp [pvEq])
  | .tup xs, q, h => by
    cases q with
    | tup ys => rw [pvEqs_of (xs := xs) (ys := ys) (by simpa [pvEq] using h)]
    | _ => exact absurd h (by simp [pvEq])
  | .lst xs, q, h => by
    cases q with
    | lst ys => rw [pvEqs_of (xs := xs) (ys := ys) (by simpa [pvEq] using h)]
    | _ => exact absurd h (by simp [pvEq])
  | .fn x, q, h => absurd h (by simp [pvEq])
  | .ty n, q, h => absurd h (by simp [pvEq])
  | .scr xs, q, h => absurd h (by simp [pvEq])
  | .exv c fs xs, q, h => absurd h (by simp [pvEq])
theorem pvEqs_of : ∀ {xs ys : List PV}, pvEqs xs ys = true → xs = ys
  | [], [], _ => rfl
  | [], _ :: _, h => absurd h (by simp [pvEqs])
  | _ :: _, [], h => absurd h (by simp [pvEqs])
  | x :: xs, y :: ys, h => by
    rw [pvEqs] at h
    obtain ⟨h1, h2⟩ := band h
    rw [pvEq_of h1, pvEqs_of h2]
end
/-- the call's end is this value, nothing changed -/
def isOk (r : CRes) (q : PV) : Bool := match r with
  | .ok (p, .fz) [] => pvEq p q
  | _ => false
theorem isOk_of {r : CRes} {q : PV} (h : isOk r q = true) : r = .ok (q, .fz) [] := by
  unfold isOk at h
  split at h
  · rw [pvEq_of h]
  · cases h
/-! ### drawing, at every law -/
theorem up_lt {n : Nat} {p : Nat → Prop} [DecidablePred p] (h : (List.range n).all (fun k => decide (p k)) = true) : ∀ k, k < n → p k := fun k hk => by
  have := List.all_eq_true.mp h k (List.mem_range.mpr hk)
  exact of_decide_eq_true this
end Bd

namespace Bd
open PySem L2
/-! ### the box, at every law -/
theorem blt_abs (i : Int) : bltP .abs [.int i] = some (.int (if i < 0 then -i else i)) := rfl
theorem blt_intb (b : Bool) : bltP .int [.bl b] = some (.int (if b then 1 else 0)) := rfl
theorem pow18 : binP .Pow (.int 10) (.int 18) = some (.int 1000000000000000000) := rfl
theorem small01 (b : Bool) : smallI (if b then 1 else 0) = true := by cases b <;> rfl
def boxB (c : Int) : IS := (.seq (.asg 2 (.ife (.cmp .Lt (.var 1) (.blt .len (.cons (.var 0) .nil))) (.sub (.var 0) (.var 1)) (.int 0)))
 (.seq (.ret (.lst (.cons (.bin .Mult (.blt .abs (.cons (.var 2) .nil)) (.blt .int (.cons (.cmp .GtE (.blt .abs (.cons (.var 2) .nil)) (.bin .Pow (.int 10) (.int 18))) .nil))) (.cons (.bin .Add (.bin .Add (.bin .Mod (.blt .int (.cons (.var 2) .nil)) (.int 2305843009213693951)) (.bin .Mult (.int 39373) (.var 1))) (.int c)) (.cons (.int 0) .nil)))))
 .nil))
theorem box_ok {C : Cal} {d : FD} {c : Int} (hb : d.body = boxB c) (hN : d.N.length = 3) (hs : d.sg = [false, false]) {rs : List PV} {k g : Int} (h1 : k < rs.length) (hg : atI rs k = some (.int g)) :
    ∃ x y : Int, runF C (some d) [.lst rs, .int k] = .ok (.lst [.int x, .int y, .int 0], .own) [] := by
  have e : ∃ x y : Int, exec C (boxB c) [some (.lst rs, .fz), some (.int k, .fz), none] = .ret (.lst [.int x, .int y, .int 0], .own) [some (.lst rs, .fz), some (.int k, .fz), some (.int g, .fz)] := by
    refine ⟨(if g < 0 then -g else g) * (if decide (1000000000000000000 ≤ (if g < 0 then -g else g)) then 1 else 0), g % 2305843009213693951 + 39373 * k + c, ?_⟩
    unfold boxB
    simp only [bd_ok, bd_exc, bd_bad, fo_ok, fo_exc, th_nx, th_ret, th_exc, th_brk, th_cnt, tk_nx, tk_cnt, tk_brk, tk_ret, tk_exc, x_nil, x_seq, kAsg_eq, x_asg, kUnp_eq, x_unp, kPar_eq, x_par, kSet2_eq, kDct2_eq, kSet1_eq, x_seti, kApp_eq, x_app, kExpr_eq, x_expr, x_ret, x_retN, kIf_eq, x_ife, kLoop_eq, x_loop, x_whl, kWh_eq, x_brk, x_cnt, x_pass, x_boom, x_drop, kRa_eq, x_raise, x_raise0, x_try, ty_exc, ty_nx, ty_ret, kCl2_eq, kCl1_eq, kTr_eq, kB2_eq, kB1_eq, kU_eq, kTup_eq, kLst_eq, kS2_eq, kS1_eq, kC3_eq, kC2_eq, kC1_eq, kCall_eq, kK2_eq, kK1_eq, kBl_eq, kM2_eq, kM1_eq, kCo_eq, kRg_eq, kEn_eq, kZ2_eq, kZ1_eq, kBi_eq, kMk_eq, kIx_eq, kFl_eq, kCv2_eq, kCv1_eq, kLi2_eq, kLi1_eq, kL1_eq, kL3_eq, kL2_eq, kSs_eq, v_int, t_int, v_str, t_str, v_bl, t_bl, v_non, t_non, v_cst, t_cst, v_fnv, t_fnv, v_tyv, t_tyv, v_bin, t_bin, v_un, t_un, v_tup, t_tup, v_lst, t_lst, v_sub, t_sub, v_slc, t_slc, v_call, t_call, v_callk, t_callk, v_blt, t_blt, v_mth, t_mth, v_comp, t_comp, v_rng, t_rng, v_enm, t_enm, v_zip, t_zip, v_dnew, t_dnew, v_ddis, t_ddis, v_mk0, t_mk0, v_mk1, t_mk1, v_mkk, t_mkk, v_isx, t_isx, v_fld, t_fld, v_callv, t_callv, v_lidx, t_lidx, v_bits, t_bits, v_lrn1, t_lrn1, v_lrng, t_lrng, v_sset, t_sset, kVb_eq, kQ2_eq, kQ1_eq, kH4_eq, kH3_eq, kH2_eq, kH1_eq, v_cmp, t_cmp, v_chn, t_chn, v_var, t_var, kN2_eq, kN1_eq, kNt_eq, v_not, t_not, kAn_eq, kAt_eq, v_and, t_and, kOn_eq, kOt_eq, v_or, t_or, kIv_eq, kIt_eq, v_ife, t_ife, v_seq, v_no, kOs2_eq, kOs1_eq, os_nil, os_cons, kF2_eq, kF1_eq, f_nil, f_cons, kG2_eq, kG1_eq, kG3_eq, g_nil, g_val, g_slot, kGt_eq, g_tmpc, o_var, kIe_eq, it_ev, p_no, kRt_eq, r_var, kV_eq, kPt_eq, o_int, r_int, p_int, o_str, r_str, p_str, o_bl, r_bl, p_bl, o_non, r_non, p_non, o_cst, r_cst, p_cst, o_fnv, r_fnv, p_fnv, o_tyv, r_tyv, p_tyv, o_bin, r_bin, p_bin, o_un, r_un, p_un, o_tup, r_tup, p_tup, o_lst, r_lst, p_lst, o_sub, r_sub, p_sub, o_slc, r_slc, p_slc, o_call, r_call, p_call, o_callk, r_callk, p_callk, o_blt, r_blt, p_blt, o_mth, r_mth, p_mth, o_comp, r_comp, p_comp, o_rng, r_rng, p_rng, o_enm, r_enm, p_enm, o_zip, r_zip, p_zip, o_dnew, r_dnew, p_dnew, o_ddis, r_ddis, p_ddis, o_mk0, r_mk0, p_mk0, o_mk1, r_mk1, p_mk1, o_mkk, r_mkk, p_mkk, o_isx, r_isx, p_isx, o_fld, r_fld, p_fld, o_callv, r_callv, p_callv, o_lidx, r_lidx, p_lidx, o_bits, r_bits, p_bits, o_lrn1, r_lrn1, p_lrn1, o_lrng, r_lrng, p_lrng, o_sset, r_sset, p_sset, o_cmp, r_cmp, p_cmp, o_chn, r_chn, p_chn, o_not, r_not, p_not, o_and, r_and, p_and, o_or, r_or, p_or, o_ife, r_ife, p_ife, p_var, kT3_eq, kT2_eq, evVar, tsVar, liftO, liftB, flOf, fzO, okIf, cmp2, rsO, rsOs, unP, truth, lstAt, argV, argVs, slotsOf, argBack, setP, itO, itemsP, setPar, isNonP, kindO, seqOf, ownFz, wipeE, unwipe, consO, enmP, zipP, fnOf?, callV, isLst, List.map_cons, List.map_nil, List.all_cons, List.all_nil, Bool.and_true, Bool.true_and, Bool.and_self, Option.bind_some, Option.map_some, List.getElem?_cons_zero, List.getElem?_cons_succ, List.set_cons_zero, List.set_cons_succ, Option.isSome_some, if_true, if_false, ite_true, ite_false, decide_true, decide_false, Bool.not_true, Bool.not_false, reduceIte, Bool.false_eq_true, blt_len_l, lt_ii, h1, ix_lst, hg, blt_abs, pow18, ge_ii, blt_intb, blt_int, mul_r _ _ (small01 _), mul_l 39373 _ rfl, mod_p _ 2305843009213693951 (by decide), add_p, sz0, sz1, sz2, sz3, sz4, sz5, sz6, sz7, sz8, sz9, sz10, sz11, sz12, sz13, sz14, sz15, sz16, sz17, sz18, sz19, sz20]
  obtain ⟨x, y, e⟩ := e
  refine ⟨x, y, ?_⟩
  show finish d.sg (exec C d.body (startE d _)) = _
  unfold startE
  rw [hb, hs, hN]
  show finish [false, false] (exec C (boxB c) [some (.lst rs, .fz), some (.int k, .fz), none]) = _
  rw [e]; rfl
theorem bx_new (x y : Int) (m : Nat) (h : m < 1000000) : Bx m (.lst [.int x, .int y, .int 0]) := ⟨x, y, 0, rfl, by omega, by omega⟩
/-! ### the cells, at every law -/
def cellT : IS := (.seq (.asg 5 (.bin .Mod (.blt .int (.cons (.var 3) .nil)) (.var 1)))
 (.seq (.seti 2 (.var 5) (.bin .Add (.sub (.var 2) (.var 5)) (.bin .Mult (.var 4) (.bin .Add (.var 3) (.int 2)))))
 (.seq (.drop [3, 4, 5])
 .nil)))
def cellsB : IS := (.seq (.asg 2 (.or (.blt .list (.cons (.slc (.var 0) .no (.var 1)) .nil)) (.lst (.cons (.int 0) .nil)))) (.seq (.drop [3, 4, 5]) (.seq (.loop (.tup [3, 4]) (.enm (.slc (.var 0) (.var 1) (.int 63))) cellT) (.seq (.ret (.var 2)) .nil))))
theorem at_map {fs : List Int} {m : Int} (h : 0 ≤ m) (h2 : m < fs.length) : ∃ f : Int, atI (fs.map PV.int) m = some (.int f) ∧ ixN (fs.map PV.int).length m = some m.toNat := by
  have hn : m.toNat < fs.length := by omega
  refine ⟨fs[m.toNat], ?_, ?_⟩
  · unfold atI ixN
    rw [if_pos h, if_pos (by rw [List.length_map]; exact h2)]
    show (fs.map PV.int)[m.toNat]? = _
    rw [List.getElem?_map, List.getElem?_eq_getElem hn]; rfl
  · unfold ixN
    rw [if_pos h, if_pos (by rw [List.length_map]; exact h2)]
theorem cell_loop {C : Cal} {s : PV} {t : Int} (ht : 0 < t) : ∀ (xs : List Int) (n : Nat) (fs : List Int), (fs.length : Int) = t → n + xs.length < 1000000 →
    ∃ (gs : List Int), gs.length = fs.length ∧ forLoop (.tup [3, 4]) (exec C cellT) (enmItems n (xs.map PV.int)) [some (s, .fz), some (.int t, .fz), some (.lst (fs.map PV.int), .own), none, none, none] = .nx [some (s, .fz), some (.int t, .fz), some (.lst (gs.map PV.int), .own), none, none, none]
  | [], n, fs, _, _ => ⟨fs, rfl, rfl⟩
  | x :: xs, n, fs, hl, hn => by
    have e : forLoop (.tup [3, 4]) (exec C cellT) (enmItems n ((x :: xs).map PV.int)) [some (s, .fz), some (.int t, .fz), some (.lst (fs.map PV.int), .own), none, none, none] = turnK (forLoop (.tup [3, 4]) (exec C cellT) (enmItems (n + 1) (xs.map PV.int))) (exec C cellT [some (s, .fz), some (.int t, .fz), some (.lst (fs.map PV.int), .own), some (.int n, .fz), some (.int x, .fz), none]) := rfl
    have hm0 := Int.emod_nonneg (n : Int) (Int.ne_of_gt ht)
    have hm1 := Int.emod_lt_of_pos (n : Int) ht
    obtain ⟨f, hf, hi⟩ := at_map (fs := fs) hm0 (by omega)
    have sm : smallI ((n : Int) + 2) = true := small_of (by omega) (by simp at hn; omega)
    have ee : exec C cellT [some (s, .fz), some (.int t, .fz), some (.lst (fs.map PV.int), .own), some (.int n, .fz), some (.int x, .fz), none] = .nx [some (s, .fz), some (.int t, .fz), some (.lst ((fs.map PV.int).set ((n : Int) % t).toNat (.int (f + x * ((n : Int) + 2)))), .own), none, none, none] := by
      unfold cellT
      simp only [bd_ok, bd_exc, bd_bad, fo_ok, fo_exc, th_nx, th_ret, th_exc, th_brk, th_cnt, tk_nx, tk_cnt, tk_brk, tk_ret, tk_exc, x_nil, x_seq, kAsg_eq, x_asg, kUnp_eq, x_unp, kPar_eq, x_par, kSet2_eq, kDct2_eq, kSet1_eq, x_seti, kApp_eq, x_app, kExpr_eq, x_expr, x_ret, x_retN, kIf_eq, x_ife, kLoop_eq, x_loop, x_whl, kWh_eq, x_brk, x_cnt, x_pass, x_boom, x_drop, kRa_eq, x_raise, x_raise0, x_try, ty_exc, ty_nx, ty_ret, kCl2_eq, kCl1_eq, kTr_eq, kB2_eq, kB1_eq, kU_eq, kTup_eq, kLst_eq, kS2_eq, kS1_eq, kC3_eq, kC2_eq, kC1_eq, kCall_eq, kK2_eq, kK1_eq, kBl_eq, kM2_eq, kM1_eq, kCo_eq, kRg_eq, kEn_eq, kZ2_eq, kZ1_eq, kBi_eq, kMk_eq, kIx_eq, kFl_eq, kCv2_eq, kCv1_eq, kLi2_eq, kLi1_eq, kL1_eq, kL3_eq, kL2_eq, kSs_eq, v_int, t_int, v_str, t_str, v_bl, t_bl, v_non, t_non, v_cst, t_cst, v_fnv, t_fnv, v_tyv, t_tyv, v_bin, t_bin, v_un, t_un, v_tup, t_tup, v_lst, t_lst, v_sub, t_sub, v_slc, t_slc, v_call, t_call, v_callk, t_callk, v_blt, t_blt, v_mth, t_mth, v_comp, t_comp, v_rng, t_rng, v_enm, t_enm, v_zip, t_zip, v_dnew, t_dnew, v_ddis, t_ddis, v_mk0, t_mk0, v_mk1, t_mk1, v_mkk, t_mkk, v_isx, t_isx, v_fld, t_fld, v_callv, t_callv, v_lidx, t_lidx, v_bits, t_bits, v_lrn1, t_lrn1, v_lrng, t_lrng, v_sset, t_sset, kVb_eq, kQ2_eq, kQ1_eq, kH4_eq, kH3_eq, kH2_eq, kH1_eq, v_cmp, t_cmp, v_chn, t_chn, v_var, t_var, kN2_eq, kN1_eq, kNt_eq, v_not, t_not, kAn_eq, kAt_eq, v_and, t_and, kOn_eq, kOt_eq, v_or, t_or, kIv_eq, kIt_eq, v_ife, t_ife, v_seq, v_no, kOs2_eq, kOs1_eq, os_nil, os_cons, kF2_eq, kF1_eq, f_nil, f_cons, kG2_eq, kG1_eq, kG3_eq, g_nil, g_val, g_slot, kGt_eq, g_tmpc, o_var, kIe_eq, it_ev, p_no, kRt_eq, r_var, kV_eq, kPt_eq, o_int, r_int, p_int, o_str, r_str, p_str, o_bl, r_bl, p_bl, o_non, r_non, p_non, o_cst, r_cst, p_cst, o_fnv, r_fnv, p_fnv, o_tyv, r_tyv, p_tyv, o_bin, r_bin, p_bin, o_un, r_un, p_un, o_tup, r_tup, p_tup, o_lst, r_lst, p_lst, o_sub, r_sub, p_sub, o_slc, r_slc, p_slc, o_call, r_call, p_call, o_callk, r_callk, p_callk, o_blt, r_blt, p_blt, o_mth, r_mth, p_mth, o_comp, r_comp, p_comp, o_rng, r_rng, p_rng, o_enm, r_enm, p_enm, o_zip, r_zip, p_zip, o_dnew, r_dnew, p_dnew, o_ddis, r_ddis, p_ddis, o_mk0, r_mk0, p_mk0, o_mk1, r_mk1, p_mk1, o_mkk, r_mkk, p_mkk, o_isx, r_isx, p_isx, o_fld, r_fld, p_fld, o_callv, r_callv, p_callv, o_lidx, r_lidx, p_lidx, o_bits, r_bits, p_bits, o_lrn1, r_lrn1, p_lrn1, o_lrng, r_lrng, p_lrng, o_sset, r_sset, p_sset, o_cmp, r_cmp, p_cmp, o_chn, r_chn, p_chn, o_not, r_not, p_not, o_and, r_and, p_and, o_or, r_or, p_or, o_ife, r_ife, p_ife, p_var, kT3_eq, kT2_eq, evVar, tsVar, liftO, liftB, flOf, fzO, okIf, cmp2, rsO, rsOs, unP, truth, lstAt, argV, argVs, slotsOf, argBack, setP, itO, itemsP, setPar, isNonP, kindO, seqOf, ownFz, wipeE, unwipe, consO, enmP, zipP, fnOf?, callV, isLst, List.map_cons, List.map_nil, List.all_cons, List.all_nil, Bool.and_true, Bool.true_and, Bool.and_self, Option.bind_some, Option.map_some, List.getElem?_cons_zero, List.getElem?_cons_succ, List.set_cons_zero, List.set_cons_succ, Option.isSome_some, if_true, if_false, ite_true, ite_false, decide_true, decide_false, Bool.not_true, Bool.not_false, reduceIte, Bool.false_eq_true, blt_int, mod_p _ _ ht, ix_lst, hf, add_p, mul_r _ _ sm, setItemE, hi, sz0, sz1, sz2, sz3, sz4, sz5, sz6, sz7, sz8, sz9, sz10, sz11, sz12, sz13, sz14, sz15, sz16, sz17, sz18, sz19, sz20]
    have em : (fs.map PV.int).set ((n : Int) % t).toNat (.int (f + x * ((n : Int) + 2))) = (fs.set ((n : Int) % t).toNat (f + x * ((n : Int) + 2))).map PV.int := by rw [List.map_set]
    rw [e, ee, em, tk_nx]
    obtain ⟨gs, hgl, hg⟩ := cell_loop ht xs (n + 1) (fs.set ((n : Int) % t).toNat (f + x * ((n : Int) + 2))) (by rw [List.length_set]; exact hl) (by simp at hn; omega)
    exact ⟨gs, by rw [hgl, List.length_set], hg⟩
theorem cut_map (ns : List Int) (lo hi : Option Int) : cutP (ns.map PV.int) lo hi = ((ns.drop (HT.sIx ns.length 0 lo)).take (HT.sIx ns.length ns.length hi - HT.sIx ns.length 0 lo)).map PV.int := by
  unfold cutP
  rw [List.length_map, ← List.map_drop, ← List.map_take]
theorem sl_scr (xs : List PV) (lo hi : Option Int) : slP (.scr xs) lo hi = some (.lst (cutP xs lo hi)) := rfl
theorem blt_list_l (xs : List PV) : bltP .list [.lst xs] = some (.lst xs) := rfl
theorem truth_l (xs : List PV) : truth (.lst xs) = some (!xs.isEmpty) := rfl
theorem cells_ok {C : Cal} {d : FD} (hb : d.body = cellsB) (hN : d.N.length = 6) (hs : d.sg = [false, false]) (t : Nat) (t0 : 0 < t) (ns : List Int) (hn : ns.length ≤ 63) : ∃ rs : List Int, 0 < rs.length ∧ rs.length ≤ t ∧ runF C (some d) [.scr (ns.map PV.int), .int (t : Int)] = .ok (.lst (rs.map PV.int), .own) [] := by
  have c1 : cutP (ns.map PV.int) none (some (t : Int)) = (ns.take t).map PV.int := by
    rw [cut_map]
    show ((ns.drop 0).take (HT.sIx ns.length ns.length (some ((t : Nat) : Int)) - 0)).map PV.int = _
    rw [HT.sIx_nat, List.drop_zero, Nat.sub_zero]
    congr 1
    rcases Nat.le_total t ns.length with h | h
    · rw [Nat.min_eq_left h]
    · rw [Nat.min_eq_right h, List.take_of_length_le (Nat.le_refl _), List.take_of_length_le h]
  have c2 : ∃ ys : List Int, cutP (ns.map PV.int) (some (t : Int)) (some 63) = ys.map PV.int ∧ ys.length ≤ 63 ∧ (ys ≠ [] → t ≤ ns.length) := by
    refine ⟨_, cut_map _ _ _, ?_, fun h => ?_⟩
    · rw [List.length_take, List.length_drop]; omega
    · have e : HT.sIx ns.length 0 (some (t : Int)) = min t ns.length := HT.sIx_nat ns.length 0 t
      rw [e] at h
      apply Classical.byContradiction
      intro hc
      apply h
      rw [Nat.min_eq_right (by omega), List.drop_length, List.take_nil]
  obtain ⟨ys, c2, hy, hy3⟩ := c2
  have go : ∀ r, finish [false, false] (exec C cellsB [some (.scr (ns.map PV.int), .fz), some (.int (t : Int), .fz), none, none, none, none]) = r → runF C (some d) [.scr (ns.map PV.int), .int (t : Int)] = r := fun r h => by
    show finish d.sg (exec C d.body (startE d _)) = _
    unfold startE
    rw [hb, hs, hN]
    exact h
  have main : ∀ fs : List Int, 0 < fs.length → fs.length ≤ t → (ys ≠ [] → fs.length = t) → exec C (.asg 2 (.or (.blt .list (.cons (.slc (.var 0) .no (.var 1)) .nil)) (.lst (.cons (.int 0) .nil)))) [some (.scr (ns.map PV.int), .fz), some (.int (t : Int), .fz), none, none, none, none] = .nx [some (.scr (ns.map PV.int), .fz), some (.int (t : Int), .fz), some (.lst (fs.map PV.int), .own), none, none, none] →
      ∃ rs : List Int, 0 < rs.length ∧ rs.length ≤ t ∧ runF C (some d) [.scr (ns.map PV.int), .int (t : Int)] = .ok (.lst (rs.map PV.int), .own) [] := fun fs f0 f3 fy ea => by
    obtain ⟨gs, hl, hg⟩ : ∃ (gs : List Int), gs.length = fs.length ∧ forLoop (.tup [3, 4]) (exec C cellT) (enmItems 0 (ys.map PV.int)) [some (.scr (ns.map PV.int), .fz), some (.int (t : Int), .fz), some (.lst (fs.map PV.int), .own), none, none, none] = .nx [some (.scr (ns.map PV.int), .fz), some (.int (t : Int), .fz), some (.lst (gs.map PV.int), .own), none, none, none] := by
      by_cases h : ys = []
      · subst h; exact ⟨fs, rfl, rfl⟩
      · exact cell_loop (by omega) ys 0 fs (by rw [fy h]) (by omega)
    refine ⟨gs, by omega, by omega, go _ ?_⟩
    have ee : exec C cellsB [some (.scr (ns.map PV.int), .fz), some (.int (t : Int), .fz), none, none, none, none] = .ret (.lst (gs.map PV.int), .own) [some (.scr (ns.map PV.int), .fz), some (.int (t : Int), .fz), none, none, none, none] := by
      unfold cellsB
      rw [x_seq, ea]
      simp only [bd_ok, bd_exc, bd_bad, fo_ok, fo_exc, th_nx, th_ret, th_exc, th_brk, th_cnt, tk_nx, tk_cnt, tk_brk, tk_ret, tk_exc, x_nil, x_seq, kAsg_eq, x_asg, kUnp_eq, x_unp, kPar_eq, x_par, kSet2_eq, kDct2_eq, kSet1_eq, x_seti, kApp_eq, x_app, kExpr_eq, x_expr, x_ret, x_retN, kIf_eq, x_ife, kLoop_eq, x_loop, x_whl, kWh_eq, x_brk, x_cnt, x_pass, x_boom, x_drop, kRa_eq, x_raise, x_raise0, x_try, ty_exc, ty_nx, ty_ret, kCl2_eq, kCl1_eq, kTr_eq, kB2_eq, kB1_eq, kU_eq, kTup_eq, kLst_eq, kS2_eq, kS1_eq, kC3_eq, kC2_eq, kC1_eq, kCall_eq, kK2_eq, kK1_eq, kBl_eq, kM2_eq, kM1_eq, kCo_eq, kRg_eq, kEn_eq, kZ2_eq, kZ1_eq, kBi_eq, kMk_eq, kIx_eq, kFl_eq, kCv2_eq, kCv1_eq, kLi2_eq, kLi1_eq, kL1_eq, kL3_eq, kL2_eq, kSs_eq, v_int, t_int, v_str, t_str, v_bl, t_bl, v_non, t_non, v_cst, t_cst, v_fnv, t_fnv, v_tyv, t_tyv, v_bin, t_bin, v_un, t_un, v_tup, t_tup, v_lst, t_lst, v_sub, t_sub, v_slc, t_slc, v_call, t_call, v_callk, t_callk, v_blt, t_blt, v_mth, t_mth, v_comp, t_comp, v_rng, t_rng, v_enm, t_enm, v_zip, t_zip, v_dnew, t_dnew, v_ddis, t_ddis, v_mk0, t_mk0, v_mk1, t_mk1, v_mkk, t_mkk, v_isx, t_isx, v_fld, t_fld, v_callv, t_callv, v_lidx, t_lidx, v_bits, t_bits, v_lrn1, t_lrn1, v_lrng, t_lrng, v_sset, t_sset, kVb_eq, kQ2_eq, kQ1_eq, kH4_eq, kH3_eq, kH2_eq, kH1_eq, v_cmp, t_cmp, v_chn, t_chn, v_var, t_var, kN2_eq, kN1_eq, kNt_eq, v_not, t_not, kAn_eq, kAt_eq, v_and, t_and, kOn_eq, kOt_eq, v_or, t_or, kIv_eq, kIt_eq, v_ife, t_ife, v_seq, v_no, kOs2_eq, kOs1_eq, os_nil, os_cons, kF2_eq, kF1_eq, f_nil, f_cons, kG2_eq, kG1_eq, kG3_eq, g_nil, g_val, g_slot, kGt_eq, g_tmpc, o_var, kIe_eq, it_ev, p_no, kRt_eq, r_var, kV_eq, kPt_eq, o_int, r_int, p_int, o_str, r_str, p_str, o_bl, r_bl, p_bl, o_non, r_non, p_non, o_cst, r_cst, p_cst, o_fnv, r_fnv, p_fnv, o_tyv, r_tyv, p_tyv, o_bin, r_bin, p_bin, o_un, r_un, p_un, o_tup, r_tup, p_tup, o_lst, r_lst, p_lst, o_sub, r_sub, p_sub, o_slc, r_slc, p_slc, o_call, r_call, p_call, o_callk, r_callk, p_callk, o_blt, r_blt, p_blt, o_mth, r_mth, p_mth, o_comp, r_comp, p_comp, o_rng, r_rng, p_rng, o_enm, r_enm, p_enm, o_zip, r_zip, p_zip, o_dnew, r_dnew, p_dnew, o_ddis, r_ddis, p_ddis, o_mk0, r_mk0, p_mk0, o_mk1, r_mk1, p_mk1, o_mkk, r_mkk, p_mkk, o_isx, r_isx, p_isx, o_fld, r_fld, p_fld, o_callv, r_callv, p_callv, o_lidx, r_lidx, p_lidx, o_bits, r_bits, p_bits, o_lrn1, r_lrn1, p_lrn1, o_lrng, r_lrng, p_lrng, o_sset, r_sset, p_sset, o_cmp, r_cmp, p_cmp, o_chn, r_chn, p_chn, o_not, r_not, p_not, o_and, r_and, p_and, o_or, r_or, p_or, o_ife, r_ife, p_ife, p_var, kT3_eq, kT2_eq, evVar, tsVar, liftO, liftB, flOf, fzO, okIf, cmp2, rsO, rsOs, unP, truth, lstAt, argV, argVs, slotsOf, argBack, setP, itO, itemsP, setPar, isNonP, kindO, seqOf, ownFz, wipeE, unwipe, consO, enmP, zipP, fnOf?, callV, isLst, List.map_cons, List.map_nil, List.all_cons, List.all_nil, Bool.and_true, Bool.true_and, Bool.and_self, Option.bind_some, Option.map_some, List.getElem?_cons_zero, List.getElem?_cons_succ, List.set_cons_zero, List.set_cons_succ, Option.isSome_some, if_true, if_false, ite_true, ite_false, decide_true, decide_false, Bool.not_true, Bool.not_false, reduceIte, Bool.false_eq_true, sl_scr, c2, hg, sz0, sz1, sz2, sz3, sz4, sz5, sz6, sz7, sz8, sz9, sz10, sz11, sz12, sz13, sz14, sz15, sz16, sz17, sz18, sz19, sz20]
    rw [ee]; rfl
  by_cases h : ns = []
  · refine main [0] (by decide) t0 (fun z => absurd (hy3 z) (by rw [h]; simp; omega)) ?_
    subst h
    have c0 : cutP [] none (some (t : Int)) = [] := by rw [show ([] : List PV) = ([] : List Int).map PV.int from rfl, c1, List.take_nil]
    simp only [bd_ok, bd_exc, bd_bad, fo_ok, fo_exc, th_nx, th_ret, th_exc, th_brk, th_cnt, tk_nx, tk_cnt, tk_brk, tk_ret, tk_exc, x_nil, x_seq, kAsg_eq, x_asg, kUnp_eq, x_unp, kPar_eq, x_par, kSet2_eq, kDct2_eq, kSet1_eq, x_seti, kApp_eq, x_app, kExpr_eq, x_expr, x_ret, x_retN, kIf_eq, x_ife, kLoop_eq, x_loop, x_whl, kWh_eq, x_brk, x_cnt, x_pass, x_boom, x_drop, kRa_eq, x_raise, x_raise0, x_try, ty_exc, ty_nx, ty_ret, kCl2_eq, kCl1_eq, kTr_eq, kB2_eq, kB1_eq, kU_eq, kTup_eq, kLst_eq, kS2_eq, kS1_eq, kC3_eq, kC2_eq, kC1_eq, kCall_eq, kK2_eq, kK1_eq, kBl_eq, kM2_eq, kM1_eq, kCo_eq, kRg_eq, kEn_eq, kZ2_eq, kZ1_eq, kBi_eq, kMk_eq, kIx_eq, kFl_eq, kCv2_eq, kCv1_eq, kLi2_eq, kLi1_eq, kL1_eq, kL3_eq, kL2_eq, kSs_eq, v_int, t_int, v_str, t_str, v_bl, t_bl, v_non, t_non, v_cst, t_cst, v_fnv, t_fnv, v_tyv, t_tyv, v_bin, t_bin, v_un, t_un, v_tup, t_tup, v_lst, t_lst, v_sub, t_sub, v_slc, t_slc, v_call, t_call, v_callk, t_callk, v_blt, t_blt, v_mth, t_mth, v_comp, t_comp, v_rng, t_rng, v_enm, t_enm, v_zip, t_zip, v_dnew, t_dnew, v_ddis, t_ddis, v_mk0, t_mk0, v_mk1, t_mk1, v_mkk, t_mkk, v_isx, t_isx, v_fld, t_fld, v_callv, t_callv, v_lidx, t_lidx, v_bits, t_bits, v_lrn1, t_lrn1, v_lrng, t_lrng, v_sset, t_sset, kVb_eq, kQ2_eq, kQ1_eq, kH4_eq, kH3_eq, kH2_eq, kH1_eq, v_cmp, t_cmp, v_chn, t_chn, v_var, t_var, kN2_eq, kN1_eq, kNt_eq, v_not, t_not, kAn_eq, kAt_eq, v_and, t_and, kOn_eq, kOt_eq, v_or, t_or, kIv_eq, kIt_eq, v_ife, t_ife, v_seq, v_no, kOs2_eq, kOs1_eq, os_nil, os_cons, kF2_eq, kF1_eq, f_nil, f_cons, kG2_eq, kG1_eq, kG3_eq, g_nil, g_val, g_slot, kGt_eq, g_tmpc, o_var, kIe_eq, it_ev, p_no, kRt_eq, r_var, kV_eq, kPt_eq, o_int, r_int, p_int, o_str, r_str, p_str, o_bl, r_bl, p_bl, o_non, r_non, p_non, o_cst, r_cst, p_cst, o_fnv, r_fnv, p_fnv, o_tyv, r_tyv, p_tyv, o_bin, r_bin, p_bin, o_un, r_un, p_un, o_tup, r_tup, p_tup, o_lst, r_lst, p_lst, o_sub, r_sub, p_sub, o_slc, r_slc, p_slc, o_call, r_call, p_call, o_callk, r_callk, p_callk, o_blt, r_blt, p_blt, o_mth, r_mth, p_mth, o_comp, r_comp, p_comp, o_rng, r_rng, p_rng, o_enm, r_enm, p_enm, o_zip, r_zip, p_zip, o_dnew, r_dnew, p_dnew, o_ddis, r_ddis, p_ddis, o_mk0, r_mk0, p_mk0, o_mk1, r_mk1, p_mk1, o_mkk, r_mkk, p_mkk, o_isx, r_isx, p_isx, o_fld, r_fld, p_fld, o_callv, r_callv, p_callv, o_lidx, r_lidx, p_lidx, o_bits, r_bits, p_bits, o_lrn1, r_lrn1, p_lrn1, o_lrng, r_lrng, p_lrng, o_sset, r_sset, p_sset, o_cmp, r_cmp, p_cmp, o_chn, r_chn, p_chn, o_not, r_not, p_not, o_and, r_and, p_and, o_or, r_or, p_or, o_ife, r_ife, p_ife, p_var, kT3_eq, kT2_eq, evVar, tsVar, liftO, liftB, flOf, fzO, okIf, cmp2, rsO, rsOs, unP, truth, lstAt, argV, argVs, slotsOf, argBack, setP, itO, itemsP, setPar, isNonP, kindO, seqOf, ownFz, wipeE, unwipe, consO, enmP, zipP, fnOf?, callV, isLst, List.map_cons, List.map_nil, List.all_cons, List.all_nil, Bool.and_true, Bool.true_and, Bool.and_self, Option.bind_some, Option.map_some, List.getElem?_cons_zero, List.getElem?_cons_succ, List.set_cons_zero, List.set_cons_succ, Option.isSome_some, if_true, if_false, ite_true, ite_false, decide_true, decide_false, Bool.not_true, Bool.not_false, reduceIte, Bool.false_eq_true, sl_scr, c0, blt_list_l, truth_l, List.take_nil, List.map_nil, List.isEmpty_nil, sz0, sz1, sz2, sz3, sz4, sz5, sz6, sz7, sz8, sz9, sz10, sz11, sz12, sz13, sz14, sz15, sz16, sz17, sz18, sz19, sz20]
    try rfl
  · refine main (ns.take t) (by rw [List.length_take]; have := List.length_pos_iff.mpr h; omega) (by rw [List.length_take]; omega) (fun z => by rw [List.length_take]; have := hy3 z; omega) ?_
    have ne : ((ns.take t).map PV.int).isEmpty = false := by
      cases ns with
      | nil => exact absurd rfl h
      | cons x xs =>
        cases t with
        | zero => omega
        | succ t => rfl
    simp only [bd_ok, bd_exc, bd_bad, fo_ok, fo_exc, th_nx, th_ret, th_exc, th_brk, th_cnt, tk_nx, tk_cnt, tk_brk, tk_ret, tk_exc, x_nil, x_seq, kAsg_eq, x_asg, kUnp_eq, x_unp, kPar_eq, x_par, kSet2_eq, kDct2_eq, kSet1_eq, x_seti, kApp_eq, x_app, kExpr_eq, x_expr, x_ret, x_retN, kIf_eq, x_ife, kLoop_eq, x_loop, x_whl, kWh_eq, x_brk, x_cnt, x_pass, x_boom, x_drop, kRa_eq, x_raise, x_raise0, x_try, ty_exc, ty_nx, ty_ret, kCl2_eq, kCl1_eq, kTr_eq, kB2_eq, kB1_eq, kU_eq, kTup_eq, kLst_eq, kS2_eq, kS1_eq, kC3_eq, kC2_eq, kC1_eq, kCall_eq, kK2_eq, kK1_eq, kBl_eq, kM2_eq, kM1_eq, kCo_eq, kRg_eq, kEn_eq, kZ2_eq, kZ1_eq, kBi_eq, kMk_eq, kIx_eq, kFl_eq, kCv2_eq, kCv1_eq, kLi2_eq, kLi1_eq, kL1_eq, kL3_eq, kL2_eq, kSs_eq, v_int, t_int, v_str, t_str, v_bl, t_bl, v_non, t_non, v_cst, t_cst, v_fnv, t_fnv, v_tyv, t_tyv, v_bin, t_bin, v_un, t_un, v_tup, t_tup, v_lst, t_lst, v_sub, t_sub, v_slc, t_slc, v_call, t_call, v_callk, t_callk, v_blt, t_blt, v_mth, t_mth, v_comp, t_comp, v_rng, t_rng, v_enm, t_enm, v_zip, t_zip, v_dnew, t_dnew, v_ddis, t_ddis, v_mk0, t_mk0, v_mk1, t_mk1, v_mkk, t_mkk, v_isx, t_isx, v_fld, t_fld, v_callv, t_callv, v_lidx, t_lidx, v_bits, t_bits, v_lrn1, t_lrn1, v_lrng, t_lrng, v_sset, t_sset, kVb_eq, kQ2_eq, kQ1_eq, kH4_eq, kH3_eq, kH2_eq, kH1_eq, v_cmp, t_cmp, v_chn, t_chn, v_var, t_var, kN2_eq, kN1_eq, kNt_eq, v_not, t_not, kAn_eq, kAt_eq, v_and, t_and, kOn_eq, kOt_eq, v_or, t_or, kIv_eq, kIt_eq, v_ife, t_ife, v_seq, v_no, kOs2_eq, kOs1_eq, os_nil, os_cons, kF2_eq, kF1_eq, f_nil, f_cons, kG2_eq, kG1_eq, kG3_eq, g_nil, g_val, g_slot, kGt_eq, g_tmpc, o_var, kIe_eq, it_ev, p_no, kRt_eq, r_var, kV_eq, kPt_eq, o_int, r_int, p_int, o_str, r_str, p_str, o_bl, r_bl, p_bl, o_non, r_non, p_non, o_cst, r_cst, p_cst, o_fnv, r_fnv, p_fnv, o_tyv, r_tyv, p_tyv, o_bin, r_bin, p_bin, o_un, r_un, p_un, o_tup, r_tup, p_tup, o_lst, r_lst, p_lst, o_sub, r_sub, p_sub, o_slc, r_slc, p_slc, o_call, r_call, p_call, o_callk, r_callk, p_callk, o_blt, r_blt, p_blt, o_mth, r_mth, p_mth, o_comp, r_comp, p_comp, o_rng, r_rng, p_rng, o_enm, r_enm, p_enm, o_zip, r_zip, p_zip, o_dnew, r_dnew, p_dnew, o_ddis, r_ddis, p_ddis, o_mk0, r_mk0, p_mk0, o_mk1, r_mk1, p_mk1, o_mkk, r_mkk, p_mkk, o_isx, r_isx, p_isx, o_fld, r_fld, p_fld, o_callv, r_callv, p_callv, o_lidx, r_lidx, p_lidx, o_bits, r_bits, p_bits, o_lrn1, r_lrn1, p_lrn1, o_lrng, r_lrng, p_lrng, o_sset, r_sset, p_sset, o_cmp, r_cmp, p_cmp, o_chn, r_chn, p_chn, o_not, r_not, p_not, o_and, r_and, p_and, o_or, r_or, p_or, o_ife, r_ife, p_ife, p_var, kT3_eq, kT2_eq, evVar, tsVar, liftO, liftB, flOf, fzO, okIf, cmp2, rsO, rsOs, unP, truth, lstAt, argV, argVs, slotsOf, argBack, setP, itO, itemsP, setPar, isNonP, kindO, seqOf, ownFz, wipeE, unwipe, consO, enmP, zipP, fnOf?, callV, isLst, List.map_cons, List.map_nil, List.all_cons, List.all_nil, Bool.and_true, Bool.true_and, Bool.and_self, Option.bind_some, Option.map_some, List.getElem?_cons_zero, List.getElem?_cons_succ, List.set_cons_zero, List.set_cons_succ, Option.isSome_some, if_true, if_false, ite_true, ite_false, decide_true, decide_false, Bool.not_true, Bool.not_false, reduceIte, Bool.false_eq_true, sl_scr, c1, blt_list_l, truth_l, ne, sz0, sz1, sz2, sz3, sz4, sz5, sz6, sz7, sz8, sz9, sz10, sz11, sz12, sz13, sz14, sz15, sz16, sz17, sz18, sz19, sz20]
/-- an item of the cells -/
theorem at_int (rs : List Int) (k : Nat) (h : k < rs.length) : ∃ g : Int, atI (rs.map PV.int) (k : Int) = some (.int g) := by
  obtain ⟨f, hf, _⟩ := at_map (fs := rs) (m := (k : Int)) (by omega) (by omega)
  exact ⟨f, hf⟩
end Bd

namespace Bd
open PySem L2
/-! ### the head's facts, with a Bool of one's own -/
def hookX (n : Nat) (fa : List He.Fa) (fn : List He.DefD) (xb : PySem.W.Frag → Bool) : PySem.W.Hook where
  α := He.AlD × Bool
  obs := fun s => (He.obsDG n fa fn s.heap.get?, xb (He.frG s.heap.get? (He.asD s.heap.get? n)))
  val := fun _ => (He.valD fn, true)
  says := fun _ h => ∃ K : PySem.W.Frag, K.In h ∧ He.SaysD fa fn K ∧ xb K = true
  of := fun _ _ e => ⟨_, He.frG_in, congrArg Prod.fst e, congrArg Prod.snd e⟩
  keeps := fun _ _ _ y k => by
    obtain ⟨K, hK, c⟩ := y
    exact ⟨K, PySem.W.Frag.In.keeps hK k, c⟩
theorem obX_eq {n : Nat} {fa : List He.Fa} {fn : List He.DefD} {xb : PySem.W.Frag → Bool} {g : Addr → Option Obj} {s : Shared} (h : ∀ a, g a = s.heap.get? a) : (He.obsDG n fa fn g, xb (He.frG g (He.asD g n))) = (hookX n fa fn xb).obs s := by
  have e : g = s.heap.get? := funext h
  rw [e]
  rfl
/-- a class with one field -/
def excB (K : PySem.W.Frag) (x f : Str) : Bool := oexB K (He.ga K x) && (xfB K (He.ga K x) && (decide (PySem.W.findIn K (.ref (He.ga K x)) f = some none) && (decide (PySem.W.findIn K (.ref (He.ga K x)) "__init__" = some (some (.ref (He.ma K (He.ga K x) "__init__")))) && PySem.W.isFn K (.ref (He.ma K (He.ga K x) "__init__")))))
def undB (K : PySem.W.Frag) (x y : Str) : Bool := decide (PySem.W.exmOne K (.ref (He.ga K x)) (.ref (He.ga K y)) = some true)
/-- isinstance asks it rightly -/
def excCB (K : PySem.W.Frag) (D : Addr) : Bool := decide (PySem.W.findIn K (.ref D) "__getattribute__" = some (some (.builtin "BaseException.__getattribute__"))) && (decide (PySem.W.findIn K (.ref D) "__getattr__" = some none) && (decide (PySem.W.subIn K (.ref D) (.type "BaseException") = some true) && (PySem.W.hasDictIn K D && (decide (PySem.W.findIn K (.ref D) "__class__" = some (some (.builtin "object.__class__"))) &&
  (decide (PySem.W.specialIn K (.builtin "object.__class__") "__get__" = some (some (.builtin "getset_descriptor.__get__"))) && (decide (PySem.W.takesIn K (.builtin "object.__class__") = some true) && decide (PySem.W.mroIn K D (.type "object") = some true)))))))
theorem excCB_ok {K : PySem.W.Frag} {D : Addr} (h : excCB K D = true) : ExcC K D := by
  obtain ⟨h1, h⟩ := band h
  obtain ⟨h2, h⟩ := band h
  obtain ⟨h3, h⟩ := band h
  obtain ⟨h4, h⟩ := band h
  obtain ⟨h5, h⟩ := band h
  obtain ⟨h6, h⟩ := band h
  obtain ⟨h7, h8⟩ := band h
  exact ⟨of_decide_eq_true h1, of_decide_eq_true h2, of_decide_eq_true h3, h4, of_decide_eq_true h5, of_decide_eq_true h6, of_decide_eq_true h7, of_decide_eq_true h8⟩
/-- a class that is asked: own, or a built-in one -/
def clsV (K : PySem.W.Frag) (own : List Str) (c : Str) : Value := if own.contains c then .ref (He.ga K c) else (match bootBuiltins c with
  | some v => v
  | none => .none)
def isxB (K : PySem.W.Frag) (own : List Str) (d c : Str) (b : Bool) : Bool := excCB K (He.ga K d) && decide (PySem.W.kitOne K (.ref (He.ga K d)) (clsV K own c) = some b)
theorem isxFact {K : PySem.W.Frag} {mg : Str → Option Value} {h : Heap} {own : List Str} {d c : Str} {b : Bool} (X : K.In h) (G : h.Ns mainGlobals mg) (hd : (He.Fa.glo d).ok K = true) (ho : own.contains c = true → (He.Fa.glo c).ok K = true) (hf : own.contains c = false → mg c = none) (hb : isxB K own d c b = true) :
    ∀ cv, ClsAt mg c cv → ∃ A, mg d = some (.ref A) ∧ ExcC K A ∧ PySem.W.kitOne K (.ref A) cv = some b := by
  intro cv hc
  obtain ⟨b1, b2⟩ := band hb
  refine ⟨_, He.glo_ok X G hd, excCB_ok b1, ?_⟩
  have e := of_decide_eq_true b2
  have ecv : clsV K own c = cv := by
    unfold clsV
    cases hcon : own.contains c with
    | true =>
      have hm := He.glo_ok X G (ho hcon)
      rcases hc with ⟨B, hB, rfl⟩ | ⟨hn, _⟩
      · rw [hm] at hB; cases hB; rfl
      · rw [hm] at hn; cases hn
    | false =>
      have hm := hf hcon
      rcases hc with ⟨B, hB, _⟩ | ⟨_, _, hbt, _⟩
      · rw [hm] at hB; cases hB
      · rw [hbt]; rfl
  rw [← ecv]
  exact e
/-- a class whose __init__ stores () -/
def exc0B (K : PySem.W.Frag) (x f : Str) : Bool := excB K x f
theorem exc0Fact {K : PySem.W.Frag} {mg : Str → Option Value} {h : Heap} {x f qual : Str} {params : Arguments} {body : List Stmt} {scope : Scope} {kws : List (Str × V)} {fd : FuncData} (X : K.In h) (G : h.Ns mainGlobals mg) (c : (He.Fa.glo x).ok K = true) (b : excB K x f = true)
    (F : FunD K "__init__" qual params body scope [] kws (He.fAd K (x, some "__init__")) fd) (S : FnScope ["self"] ["self"] scope) (hi : isInit0 f body = true) (hb : Binds K fd ["self"] []) : Exc0Fact K mg x f := by
  intro P w base
  obtain ⟨b1, b⟩ := band b
  obtain ⟨b2, b⟩ := band b
  obtain ⟨b3, b⟩ := band b
  obtain ⟨b4, b5⟩ := band b
  exact ⟨He.ga K x, He.fAd K (x, some "__init__"), fd, He.glo_ok X G c, oexB_ok b1, xfB_ok b2, of_decide_eq_true b3, of_decide_eq_true b4, by
    have h5 : (PySem.W.typeIn K (.ref (He.ma K (He.ga K x) "__init__")) == some (.type "function")) = true := b5
    exact eq_of_beq h5, hb, init0_ok F S hi⟩
theorem excFact {K : PySem.W.Frag} {mg : Str → Option Value} {h : Heap} {x f q qual : Str} {params : Arguments} {body : List Stmt} {scope : Scope} {kws : List (Str × V)} {fd : FuncData} (X : K.In h) (G : h.Ns mainGlobals mg) (c : (He.Fa.glo x).ok K = true) (b : excB K x f = true)
    (F : FunD K "__init__" qual params body scope [] kws (He.fAd K (x, some "__init__")) fd) (S : FnScope ["self", q] ["self", q] scope) (hi : isInit f q body = true) (hq : (q == ("__debug__" : Str)) = false ∧ (q == ("__classdict__" : Str)) = false) (hb : Binds K fd ["self", q] []) (hk : ∀ u w : Value, ∀ s : Shared, K.In s.heap → BindsTo s fd ⟨[u], [(q, w)]⟩ (List.zip ["self", q] [u, w])) : ExcFact K mg x f q := by
  intro P w base
  obtain ⟨b1, b⟩ := band b
  obtain ⟨b2, b⟩ := band b
  obtain ⟨b3, b⟩ := band b
  obtain ⟨b4, b5⟩ := band b
  exact ⟨He.ga K x, He.fAd K (x, some "__init__"), fd, He.glo_ok X G c, oexB_ok b1, xfB_ok b2, of_decide_eq_true b3, of_decide_eq_true b4, by
    have h5 : (PySem.W.typeIn K (.ref (He.ma K (He.ga K x) "__init__")) == some (.type "function")) = true := b5
    exact eq_of_beq h5, hb, hk, init_ok F S hi hq⟩
theorem undFact {K : PySem.W.Frag} {mg : Str → Option Value} {h : Heap} {x y : Str} (X : K.In h) (G : h.Ns mainGlobals mg) (c : (He.Fa.glo x).ok K = true) (d : (He.Fa.glo y).ok K = true) (b : undB K x y = true) : ∃ A B, mg x = some (.ref A) ∧ mg y = some (.ref B) ∧ PySem.W.exmOne K (.ref A) (.ref B) = some true :=
  ⟨_, _, He.glo_ok X G c, He.glo_ok X G d, of_decide_eq_true b⟩
/-- the i-th statement of a class -/
def clsSt (s : Stmt) (i : Nat) : Stmt := match s with
  | .ClassDef _ _ _ body .. => body.getD i (.Pass ⟨0, 0, 0, 0⟩)
  | _ => .Pass ⟨0, 0, 0, 0⟩
end Bd

namespace Bd
open PySem L2
/-- the other form of _law_same -/
def sameB2 : IS :=  (.seq (.ife (.blt .isinstance (.cons (.var 1) (.cons (.tup (.cons (.tyv .list) (.cons (.tyv .tuple) .nil))) .nil)))
 (.seq (.ife (.cmp .NotEq (.blt .isinstance (.cons (.var 0) (.cons (.tyv .list) .nil))) (.blt .isinstance (.cons (.var 1) (.cons (.tyv .list) .nil))))
 (.seq (.ret (.bl false))
 .nil)
 .nil)
 (.seq (.ife (.cmp .NotEq (.blt .isinstance (.cons (.var 0) (.cons (.tyv .tuple) .nil))) (.blt .isinstance (.cons (.var 1) (.cons (.tyv .tuple) .nil))))
 (.seq (.ret (.bl false))
 .nil)
 .nil)
 (.seq (.ret (.and (.cmp .Eq (.blt .len (.cons (.var 0) .nil)) (.blt .len (.cons (.var 1) .nil))) (.blt .all (.cons (.comp [2, 3] (.tup [2, 3]) (.zip (.var 0) (.var 1)) .no (.call "_law_same" (.cons (.var 2) (.cons (.var 3) .nil)))) .nil))))
 .nil)))
 .nil)
 (.seq (.ife (.or (.cmp .Is (.var 1) .non) (.blt .isinstance (.cons (.var 1) (.cons (.tup (.cons (.tyv .bool) (.cons (.tyv .str) .nil))) .nil))))
 (.seq (.ret (.and (.cmp .Eq (.var 0) (.var 1)) (.and (.cmp .Eq (.blt .isinstance (.cons (.var 0) (.cons (.tyv .bool) .nil))) (.blt .isinstance (.cons (.var 1) (.cons (.tyv .bool) .nil)))) (.cmp .Eq (.cmp .Is (.var 0) .non) (.cmp .Is (.var 1) .non)))))
 .nil)
 .nil)
 (.seq (.ret (.and (.blt .isinstance (.cons (.var 0) (.cons (.tyv .int) .nil))) (.and (.not (.blt .isinstance (.cons (.var 0) (.cons (.tyv .bool) .nil)))) (.cmp .Eq (.var 0) (.var 1)))))
 .nil)))
theorem same_run2 {C : Cal} {n : Nat} (h : SameOk C n) (p : PV) (hg : good p = true) (hd : depP p < n + 1) : exec C sameB2 [some (p, .fz), some (p, .fz), none, none] = .ret (.bl true, .fz) [some (p, .fz), some (p, .fz), none, none] := by
  unfold sameB2
  cases p with
  | non => rfl
  | bl b => cases b <;> rfl
  | int i =>
    simp only [bd_ok, bd_exc, bd_bad, fo_ok, fo_exc, th_nx, th_ret, th_exc, th_brk, th_cnt, tk_nx, tk_cnt, tk_brk, tk_ret, tk_exc, x_nil, x_seq, kAsg_eq, x_asg, kUnp_eq, x_unp, kPar_eq, x_par, kSet2_eq, kDct2_eq, kSet1_eq, x_seti, kApp_eq, x_app, kExpr_eq, x_expr, x_ret, x_retN, kIf_eq, x_ife, kLoop_eq, x_loop, x_whl, kWh_eq, x_brk, x_cnt, x_pass, x_boom, x_drop, kRa_eq, x_raise, x_raise0, x_try, ty_exc, ty_nx, ty_ret, kCl2_eq, kCl1_eq, kTr_eq, kB2_eq, kB1_eq, kU_eq, kTup_eq, kLst_eq, kS2_eq, kS1_eq, kC3_eq, kC2_eq, kC1_eq, kCall_eq, kK2_eq, kK1_eq, kBl_eq, kM2_eq, kM1_eq, kCo_eq, kRg_eq, kEn_eq, kZ2_eq, kZ1_eq, kBi_eq, kMk_eq, kIx_eq, kFl_eq, kCv2_eq, kCv1_eq, kLi2_eq, kLi1_eq, kL1_eq, kL3_eq, kL2_eq, kSs_eq, v_int, t_int, v_str, t_str, v_bl, t_bl, v_non, t_non, v_cst, t_cst, v_fnv, t_fnv, v_tyv, t_tyv, v_bin, t_bin, v_un, t_un, v_tup, t_tup, v_lst, t_lst, v_sub, t_sub, v_slc, t_slc, v_call, t_call, v_callk, t_callk, v_blt, t_blt, v_mth, t_mth, v_comp, t_comp, v_rng, t_rng, v_enm, t_enm, v_zip, t_zip, v_dnew, t_dnew, v_ddis, t_ddis, v_mk0, t_mk0, v_mk1, t_mk1, v_mkk, t_mkk, v_isx, t_isx, v_fld, t_fld, v_callv, t_callv, v_lidx, t_lidx, v_bits, t_bits, v_lrn1, t_lrn1, v_lrng, t_lrng, v_sset, t_sset, kVb_eq, kQ2_eq, kQ1_eq, kH4_eq, kH3_eq, kH2_eq, kH1_eq, v_cmp, t_cmp, v_chn, t_chn, v_var, t_var, kN2_eq, kN1_eq, kNt_eq, v_not, t_not, kAn_eq, kAt_eq, v_and, t_and, kOn_eq, kOt_eq, v_or, t_or, kIv_eq, kIt_eq, v_ife, t_ife, v_seq, v_no, kOs2_eq, kOs1_eq, os_nil, os_cons, kF2_eq, kF1_eq, f_nil, f_cons, kG2_eq, kG1_eq, kG3_eq, g_nil, g_val, g_slot, kGt_eq, g_tmpc, o_var, kIe_eq, it_ev, p_no, kRt_eq, r_var, kV_eq, kPt_eq, o_int, r_int, p_int, o_str, r_str, p_str, o_bl, r_bl, p_bl, o_non, r_non, p_non, o_cst, r_cst, p_cst, o_fnv, r_fnv, p_fnv, o_tyv, r_tyv, p_tyv, o_bin, r_bin, p_bin, o_un, r_un, p_un, o_tup, r_tup, p_tup, o_lst, r_lst, p_lst, o_sub, r_sub, p_sub, o_slc, r_slc, p_slc, o_call, r_call, p_call, o_callk, r_callk, p_callk, o_blt, r_blt, p_blt, o_mth, r_mth, p_mth, o_comp, r_comp, p_comp, o_rng, r_rng, p_rng, o_enm, r_enm, p_enm, o_zip, r_zip, p_zip, o_dnew, r_dnew, p_dnew, o_ddis, r_ddis, p_ddis, o_mk0, r_mk0, p_mk0, o_mk1, r_mk1, p_mk1, o_mkk, r_mkk, p_mkk, o_isx, r_isx, p_isx, o_fld, r_fld, p_fld, o_callv, r_callv, p_callv, o_lidx, r_lidx, p_lidx, o_bits, r_bits, p_bits, o_lrn1, r_lrn1, p_lrn1, o_lrng, r_lrng, p_lrng, o_sset, r_sset, p_sset, o_cmp, r_cmp, p_cmp, o_chn, r_chn, p_chn, o_not, r_not, p_not, o_and, r_and, p_and, o_or, r_or, p_or, o_ife, r_ife, p_ife, p_var, kT3_eq, kT2_eq, evVar, tsVar, liftO, liftB, flOf, fzO, okIf, cmp2, rsO, rsOs, unP, truth, lstAt, argV, argVs, slotsOf, argBack, setP, itO, itemsP, setPar, isNonP, kindO, seqOf, ownFz, wipeE, unwipe, consO, enmP, zipP, fnOf?, callV, isLst, List.map_cons, List.map_nil, List.all_cons, List.all_nil, Bool.and_true, Bool.true_and, Bool.and_self, Option.bind_some, Option.map_some, List.getElem?_cons_zero, List.getElem?_cons_succ, List.set_cons_zero, List.set_cons_succ, Option.isSome_some, if_true, if_false, ite_true, ite_false, decide_true, decide_false, Bool.not_true, Bool.not_false, reduceIte, Bool.false_eq_true, isi_n_list, isi_n_tuple, isi_n_bool, isi_n_str, isi_n_int, isi_n_lt, isi_n_bs, isN_n, isnN_n, isi_b_list, isi_b_tuple, isi_b_bool, isi_b_str, isi_b_int, isi_b_lt, isi_b_bs, isN_b, isnN_b, isi_i_list, isi_i_tuple, isi_i_bool, isi_i_str, isi_i_int, isi_i_lt, isi_i_bs, isN_i, isnN_i, isi_s_list, isi_s_tuple, isi_s_bool, isi_s_str, isi_s_int, isi_s_lt, isi_s_bs, isN_s, isnN_s, isi_l_list, isi_l_tuple, isi_l_bool, isi_l_str, isi_l_int, isi_l_lt, isi_l_bs, isN_l, isnN_l, isi_t_list, isi_t_tuple, isi_t_bool, isi_t_str, isi_t_int, isi_t_lt, isi_t_bs, isN_t, isnN_t, eq_ii, eq_bb, ne_bb, blt_isi, truth_b, beq_self_eq_true, sz0, sz1, sz2, sz3, sz4, sz5, sz6, sz7, sz8, sz9, sz10, sz11, sz12, sz13, sz14, sz15, sz16, sz17, sz18, sz19, sz20]
  | str x =>
    simp only [bd_ok, bd_exc, bd_bad, fo_ok, fo_exc, th_nx, th_ret, th_exc, th_brk, th_cnt, tk_nx, tk_cnt, tk_brk, tk_ret, tk_exc, x_nil, x_seq, kAsg_eq, x_asg, kUnp_eq, x_unp, kPar_eq, x_par, kSet2_eq, kDct2_eq, kSet1_eq, x_seti, kApp_eq, x_app, kExpr_eq, x_expr, x_ret, x_retN, kIf_eq, x_ife, kLoop_eq, x_loop, x_whl, kWh_eq, x_brk, x_cnt, x_pass, x_boom, x_drop, kRa_eq, x_raise, x_raise0, x_try, ty_exc, ty_nx, ty_ret, kCl2_eq, kCl1_eq, kTr_eq, kB2_eq, kB1_eq, kU_eq, kTup_eq, kLst_eq, kS2_eq, kS1_eq, kC3_eq, kC2_eq, kC1_eq, kCall_eq, kK2_eq, kK1_eq, kBl_eq, kM2_eq, kM1_eq, kCo_eq, kRg_eq, kEn_eq, kZ2_eq, kZ1_eq, kBi_eq, kMk_eq, kIx_eq, kFl_eq, kCv2_eq, kCv1_eq, kLi2_eq, kLi1_eq, kL1_eq, kL3_eq, kL2_eq, kSs_eq, v_int, t_int, v_str, t_str, v_bl, t_bl, v_non, t_non, v_cst, t_cst, v_fnv, t_fnv, v_tyv, t_tyv, v_bin, t_bin, v_un, t_un, v_tup, t_tup, v_lst, t_lst, v_sub, t_sub, v_slc, t_slc, v_call, t_call, v_callk, t_callk, v_blt, t_blt, v_mth, t_mth, v_comp, t_comp, v_rng, t_rng, v_enm, t_enm, v_zip, t_zip, v_dnew, t_dnew, v_ddis, t_ddis, v_mk0, t_mk0, v_mk1, t_mk1, v_mkk, t_mkk, v_isx, t_isx, v_fld, t_fld, v_callv, t_callv, v_lidx, t_lidx, v_bits, t_bits, v_lrn1, t_lrn1, v_lrng, t_lrng, v_sset, t_sset, kVb_eq, kQ2_eq, kQ1_eq, kH4_eq, kH3_eq, kH2_eq, kH1_eq, v_cmp, t_cmp, v_chn, t_chn, v_var, t_var, kN2_eq, kN1_eq, kNt_eq, v_not, t_not, kAn_eq, kAt_eq, v_and, t_and, kOn_eq, kOt_eq, v_or, t_or, kIv_eq, kIt_eq, v_ife, t_ife, v_seq, v_no, kOs2_eq, kOs1_eq, os_nil, os_cons, kF2_eq, kF1_eq, f_nil, f_cons, kG2_eq, kG1_eq, kG3_eq, g_nil, g_val, g_slot, kGt_eq, g_tmpc, o_var, kIe_eq, it_ev, p_no, kRt_eq, r_var, kV_eq, kPt_eq, o_int, r_int, p_int, o_str, r_str, p_str, o_bl, r_bl, p_bl, o_non, r_non, p_non, o_cst, r_cst, p_cst, o_fnv, r_fnv, p_fnv, o_tyv, r_tyv, p_tyv, o_bin, r_bin, p_bin, o_un, r_un, p_un, o_tup, r_tup, p_tup, o_lst, r_lst, p_lst, o_sub, r_sub, p_sub, o_slc, r_slc, p_slc, o_call, r_call, p_call, o_callk, r_callk, p_callk, o_blt, r_blt, p_blt, o_mth, r_mth, p_mth, o_comp, r_comp, p_comp, o_rng, r_rng, p_rng, o_enm, r_enm, p_enm, o_zip, r_zip, p_zip, o_dnew, r_dnew, p_dnew, o_ddis, r_ddis, p_ddis, o_mk0, r_mk0, p_mk0, o_mk1, r_mk1, p_mk1, o_mkk, r_mkk, p_mkk, o_isx, r_isx, p_isx, o_fld, r_fld, p_fld, o_callv, r_callv, p_callv, o_lidx, r_lidx, p_lidx, o_bits, r_bits, p_bits, o_lrn1, r_lrn1, p_lrn1, o_lrng, r_lrng, p_lrng, o_sset, r_sset, p_sset, o_cmp, r_cmp, p_cmp, o_chn, r_chn, p_chn, o_not, r_not, p_not, o_and, r_and, p_and, o_or, r_or, p_or, o_ife, r_ife, p_ife, p_var, kT3_eq, kT2_eq, evVar, tsVar, liftO, liftB, flOf, fzO, okIf, cmp2, rsO, rsOs, unP, truth, lstAt, argV, argVs, slotsOf, argBack, setP, itO, itemsP, setPar, isNonP, kindO, seqOf, ownFz, wipeE, unwipe, consO, enmP, zipP, fnOf?, callV, isLst, List.map_cons, List.map_nil, List.all_cons, List.all_nil, Bool.and_true, Bool.true_and, Bool.and_self, Option.bind_some, Option.map_some, List.getElem?_cons_zero, List.getElem?_cons_succ, List.set_cons_zero, List.set_cons_succ, Option.isSome_some, if_true, if_false, ite_true, ite_false, decide_true, decide_false, Bool.not_true, Bool.not_false, reduceIte, Bool.false_eq_true, isi_n_list, isi_n_tuple, isi_n_bool, isi_n_str, isi_n_int, isi_n_lt, isi_n_bs, isN_n, isnN_n, isi_b_list, isi_b_tuple, isi_b_bool, isi_b_str, isi_b_int, isi_b_lt, isi_b_bs, isN_b, isnN_b, isi_i_list, isi_i_tuple, isi_i_bool, isi_i_str, isi_i_int, isi_i_lt, isi_i_bs, isN_i, isnN_i, isi_s_list, isi_s_tuple, isi_s_bool, isi_s_str, isi_s_int, isi_s_lt, isi_s_bs, isN_s, isnN_s, isi_l_list, isi_l_tuple, isi_l_bool, isi_l_str, isi_l_int, isi_l_lt, isi_l_bs, isN_l, isnN_l, isi_t_list, isi_t_tuple, isi_t_bool, isi_t_str, isi_t_int, isi_t_lt, isi_t_bs, isN_t, isnN_t, eq_ss, eq_bb, ne_bb, blt_isi, truth_b, beq_self_eq_true, sz0, sz1, sz2, sz3, sz4, sz5, sz6, sz7, sz8, sz9, sz10, sz11, sz12, sz13, sz14, sz15, sz16, sz17, sz18, sz19, sz20]
  | lst xs =>
    obtain ⟨g1, g2⟩ := band (show (goods xs && decide (xs.length ≤ sizeLine)) = true from hg)
    have hl := same_loop h (.lst xs) (.lst xs) xs g1 (by have e : depP (.lst xs) = depPs xs + 1 := rfl; omega)
    have hs : (xs.map fun _ => PV.bl true).length ≤ sizeLine := by rw [List.length_map]; exact of_decide_eq_true g2
    simp only [bd_ok, bd_exc, bd_bad, fo_ok, fo_exc, th_nx, th_ret, th_exc, th_brk, th_cnt, tk_nx, tk_cnt, tk_brk, tk_ret, tk_exc, x_nil, x_seq, kAsg_eq, x_asg, kUnp_eq, x_unp, kPar_eq, x_par, kSet2_eq, kDct2_eq, kSet1_eq, x_seti, kApp_eq, x_app, kExpr_eq, x_expr, x_ret, x_retN, kIf_eq, x_ife, kLoop_eq, x_loop, x_whl, kWh_eq, x_brk, x_cnt, x_pass, x_boom, x_drop, kRa_eq, x_raise, x_raise0, x_try, ty_exc, ty_nx, ty_ret, kCl2_eq, kCl1_eq, kTr_eq, kB2_eq, kB1_eq, kU_eq, kTup_eq, kLst_eq, kS2_eq, kS1_eq, kC3_eq, kC2_eq, kC1_eq, kCall_eq, kK2_eq, kK1_eq, kBl_eq, kM2_eq, kM1_eq, kCo_eq, kRg_eq, kEn_eq, kZ2_eq, kZ1_eq, kBi_eq, kMk_eq, kIx_eq, kFl_eq, kCv2_eq, kCv1_eq, kLi2_eq, kLi1_eq, kL1_eq, kL3_eq, kL2_eq, kSs_eq, v_int, t_int, v_str, t_str, v_bl, t_bl, v_non, t_non, v_cst, t_cst, v_fnv, t_fnv, v_tyv, t_tyv, v_bin, t_bin, v_un, t_un, v_tup, t_tup, v_lst, t_lst, v_sub, t_sub, v_slc, t_slc, v_call, t_call, v_callk, t_callk, v_blt, t_blt, v_mth, t_mth, v_comp, t_comp, v_rng, t_rng, v_enm, t_enm, v_zip, t_zip, v_dnew, t_dnew, v_ddis, t_ddis, v_mk0, t_mk0, v_mk1, t_mk1, v_mkk, t_mkk, v_isx, t_isx, v_fld, t_fld, v_callv, t_callv, v_lidx, t_lidx, v_bits, t_bits, v_lrn1, t_lrn1, v_lrng, t_lrng, v_sset, t_sset, kVb_eq, kQ2_eq, kQ1_eq, kH4_eq, kH3_eq, kH2_eq, kH1_eq, v_cmp, t_cmp, v_chn, t_chn, v_var, t_var, kN2_eq, kN1_eq, kNt_eq, v_not, t_not, kAn_eq, kAt_eq, v_and, t_and, kOn_eq, kOt_eq, v_or, t_or, kIv_eq, kIt_eq, v_ife, t_ife, v_seq, v_no, kOs2_eq, kOs1_eq, os_nil, os_cons, kF2_eq, kF1_eq, f_nil, f_cons, kG2_eq, kG1_eq, kG3_eq, g_nil, g_val, g_slot, kGt_eq, g_tmpc, o_var, kIe_eq, it_ev, p_no, kRt_eq, r_var, kV_eq, kPt_eq, o_int, r_int, p_int, o_str, r_str, p_str, o_bl, r_bl, p_bl, o_non, r_non, p_non, o_cst, r_cst, p_cst, o_fnv, r_fnv, p_fnv, o_tyv, r_tyv, p_tyv, o_bin, r_bin, p_bin, o_un, r_un, p_un, o_tup, r_tup, p_tup, o_lst, r_lst, p_lst, o_sub, r_sub, p_sub, o_slc, r_slc, p_slc, o_call, r_call, p_call, o_callk, r_callk, p_callk, o_blt, r_blt, p_blt, o_mth, r_mth, p_mth, o_comp, r_comp, p_comp, o_rng, r_rng, p_rng, o_enm, r_enm, p_enm, o_zip, r_zip, p_zip, o_dnew, r_dnew, p_dnew, o_ddis, r_ddis, p_ddis, o_mk0, r_mk0, p_mk0, o_mk1, r_mk1, p_mk1, o_mkk, r_mkk, p_mkk, o_isx, r_isx, p_isx, o_fld, r_fld, p_fld, o_callv, r_callv, p_callv, o_lidx, r_lidx, p_lidx, o_bits, r_bits, p_bits, o_lrn1, r_lrn1, p_lrn1, o_lrng, r_lrng, p_lrng, o_sset, r_sset, p_sset, o_cmp, r_cmp, p_cmp, o_chn, r_chn, p_chn, o_not, r_not, p_not, o_and, r_and, p_and, o_or, r_or, p_or, o_ife, r_ife, p_ife, p_var, kT3_eq, kT2_eq, evVar, tsVar, liftO, liftB, flOf, fzO, okIf, cmp2, rsO, rsOs, unP, truth, lstAt, argV, argVs, slotsOf, argBack, setP, itO, itemsP, setPar, isNonP, kindO, seqOf, ownFz, wipeE, unwipe, consO, enmP, zipP, fnOf?, callV, isLst, List.map_cons, List.map_nil, List.all_cons, List.all_nil, Bool.and_true, Bool.true_and, Bool.and_self, Option.bind_some, Option.map_some, List.getElem?_cons_zero, List.getElem?_cons_succ, List.set_cons_zero, List.set_cons_succ, Option.isSome_some, if_true, if_false, ite_true, ite_false, decide_true, decide_false, Bool.not_true, Bool.not_false, reduceIte, Bool.false_eq_true, isi_n_list, isi_n_tuple, isi_n_bool, isi_n_str, isi_n_int, isi_n_lt, isi_n_bs, isN_n, isnN_n, isi_b_list, isi_b_tuple, isi_b_bool, isi_b_str, isi_b_int, isi_b_lt, isi_b_bs, isN_b, isnN_b, isi_i_list, isi_i_tuple, isi_i_bool, isi_i_str, isi_i_int, isi_i_lt, isi_i_bs, isN_i, isnN_i, isi_s_list, isi_s_tuple, isi_s_bool, isi_s_str, isi_s_int, isi_s_lt, isi_s_bs, isN_s, isnN_s, isi_l_list, isi_l_tuple, isi_l_bool, isi_l_str, isi_l_int, isi_l_lt, isi_l_bs, isN_l, isnN_l, isi_t_list, isi_t_tuple, isi_t_bool, isi_t_str, isi_t_int, isi_t_lt, isi_t_bs, isN_t, isnN_t, eq_ii, eq_bb, ne_bb, blt_isi, blt_len_l, truth_b, beq_self_eq_true, hl, compEnd, hs, blt_all, allBls_true, all_true, sz0, sz1, sz2, sz3, sz4, sz5, sz6, sz7, sz8, sz9, sz10, sz11, sz12, sz13, sz14, sz15, sz16, sz17, sz18, sz19, sz20]
  | tup xs =>
    obtain ⟨g1, g2⟩ := band (show (goods xs && decide (xs.length ≤ sizeLine)) = true from hg)
    have hl := same_loop h (.tup xs) (.tup xs) xs g1 (by have e : depP (.tup xs) = depPs xs + 1 := rfl; omega)
    have hs : (xs.map fun _ => PV.bl true).length ≤ sizeLine := by rw [List.length_map]; exact of_decide_eq_true g2
    simp only [bd_ok, bd_exc, bd_bad, fo_ok, fo_exc, th_nx, th_ret, th_exc, th_brk, th_cnt, tk_nx, tk_cnt, tk_brk, tk_ret, tk_exc, x_nil, x_seq, kAsg_eq, x_asg, kUnp_eq, x_unp, kPar_eq, x_par, kSet2_eq, kDct2_eq, kSet1_eq, x_seti, kApp_eq, x_app, kExpr_eq, x_expr, x_ret, x_retN, kIf_eq, x_ife, kLoop_eq, x_loop, x_whl, kWh_eq, x_brk, x_cnt, x_pass, x_boom, x_drop, kRa_eq, x_raise, x_raise0, x_try, ty_exc, ty_nx, ty_ret, kCl2_eq, kCl1_eq, kTr_eq, kB2_eq, kB1_eq, kU_eq, kTup_eq, kLst_eq, kS2_eq, kS1_eq, kC3_eq, kC2_eq, kC1_eq, kCall_eq, kK2_eq, kK1_eq, kBl_eq, kM2_eq, kM1_eq, kCo_eq, kRg_eq, kEn_eq, kZ2_eq, kZ1_eq, kBi_eq, kMk_eq, kIx_eq, kFl_eq, kCv2_eq, kCv1_eq, kLi2_eq, kLi1_eq, kL1_eq, kL3_eq, kL2_eq, kSs_eq, v_int, t_int, v_str, t_str, v_bl, t_bl, v_non, t_non, v_cst, t_cst, v_fnv, t_fnv, v_tyv, t_tyv, v_bin, t_bin, v_un, t_un, v_tup, t_tup, v_lst, t_lst, v_sub, t_sub, v_slc, t_slc, v_call, t_call, v_callk, t_callk, v_blt, t_blt, v_mth, t_mth, v_comp, t_comp, v_rng, t_rng, v_enm, t_enm, v_zip, t_zip, v_dnew, t_dnew, v_ddis, t_ddis, v_mk0, t_mk0, v_mk1, t_mk1, v_mkk, t_mkk, v_isx, t_isx, v_fld, t_fld, v_callv, t_callv, v_lidx, t_lidx, v_bits, t_bits, v_lrn1, t_lrn1, v_lrng, t_lrng, v_sset, t_sset, kVb_eq, kQ2_eq, kQ1_eq, kH4_eq, kH3_eq, kH2_eq, kH1_eq, v_cmp, t_cmp, v_chn, t_chn, v_var, t_var, kN2_eq, kN1_eq, kNt_eq, v_not, t_not, kAn_eq, kAt_eq, v_and, t_and, kOn_eq, kOt_eq, v_or, t_or, kIv_eq, kIt_eq, v_ife, t_ife, v_seq, v_no, kOs2_eq, kOs1_eq, os_nil, os_cons, kF2_eq, kF1_eq, f_nil, f_cons, kG2_eq, kG1_eq, kG3_eq, g_nil, g_val, g_slot, kGt_eq, g_tmpc, o_var, kIe_eq, it_ev, p_no, kRt_eq, r_var, kV_eq, kPt_eq, o_int, r_int, p_int, o_str, r_str, p_str, o_bl, r_bl, p_bl, o_non, r_non, p_non, o_cst, r_cst, p_cst, o_fnv, r_fnv, p_fnv, o_tyv, r_tyv, p_tyv, o_bin, r_bin, p_bin, o_un, r_un, p_un, o_tup, r_tup, p_tup, o_lst, r_lst, p_lst, o_sub, r_sub, p_sub, o_slc, r_slc, p_slc, o_call, r_call, p_call, o_callk, r_callk, p_callk, o_blt, r_blt, p_blt, o_mth, r_mth, p_mth, o_comp, r_comp, p_comp, o_rng, r_rng, p_rng, o_enm, r_enm, p_enm, o_zip, r_zip, p_zip, o_dnew, r_dnew, p_dnew, o_ddis, r_ddis, p_ddis, o_mk0, r_mk0, p_mk0, o_mk1, r_mk1, p_mk1, o_mkk, r_mkk, p_mkk, o_isx, r_isx, p_isx, o_fld, r_fld, p_fld, o_callv, r_callv, p_callv, o_lidx, r_lidx, p_lidx, o_bits, r_bits, p_bits, o_lrn1, r_lrn1, p_lrn1, o_lrng, r_lrng, p_lrng, o_sset, r_sset, p_sset, o_cmp, r_cmp, p_cmp, o_chn, r_chn, p_chn, o_not, r_not, p_not, o_and, r_and, p_and, o_or, r_or, p_or, o_ife, r_ife, p_ife, p_var, kT3_eq, kT2_eq, evVar, tsVar, liftO, liftB, flOf, fzO, okIf, cmp2, rsO, rsOs, unP, truth, lstAt, argV, argVs, slotsOf, argBack, setP, itO, itemsP, setPar, isNonP, kindO, seqOf, ownFz, wipeE, unwipe, consO, enmP, zipP, fnOf?, callV, isLst, List.map_cons, List.map_nil, List.all_cons, List.all_nil, Bool.and_true, Bool.true_and, Bool.and_self, Option.bind_some, Option.map_some, List.getElem?_cons_zero, List.getElem?_cons_succ, List.set_cons_zero, List.set_cons_succ, Option.isSome_some, if_true, if_false, ite_true, ite_false, decide_true, decide_false, Bool.not_true, Bool.not_false, reduceIte, Bool.false_eq_true, isi_n_list, isi_n_tuple, isi_n_bool, isi_n_str, isi_n_int, isi_n_lt, isi_n_bs, isN_n, isnN_n, isi_b_list, isi_b_tuple, isi_b_bool, isi_b_str, isi_b_int, isi_b_lt, isi_b_bs, isN_b, isnN_b, isi_i_list, isi_i_tuple, isi_i_bool, isi_i_str, isi_i_int, isi_i_lt, isi_i_bs, isN_i, isnN_i, isi_s_list, isi_s_tuple, isi_s_bool, isi_s_str, isi_s_int, isi_s_lt, isi_s_bs, isN_s, isnN_s, isi_l_list, isi_l_tuple, isi_l_bool, isi_l_str, isi_l_int, isi_l_lt, isi_l_bs, isN_l, isnN_l, isi_t_list, isi_t_tuple, isi_t_bool, isi_t_str, isi_t_int, isi_t_lt, isi_t_bs, isN_t, isnN_t, eq_ii, eq_bb, ne_bb, blt_isi, blt_len_t, truth_b, beq_self_eq_true, hl, compEnd, hs, blt_all, allBls_true, all_true, sz0, sz1, sz2, sz3, sz4, sz5, sz6, sz7, sz8, sz9, sz10, sz11, sz12, sz13, sz14, sz15, sz16, sz17, sz18, sz19, sz20]
  | _ => cases hg
theorem same_ok2 {C : Cal} {n : Nat} (h : SameOk C n) {d : FD} (hb : d.body = sameB2) (hN : d.N.length = 4) (hs : d.sg = [false, false]) (p : PV) (hg : good p = true) (hd : depP p < n + 1) : runF C (some d) [p, p] = .ok (.bl true, .fz) [] := by
  have he := same_run2 h p hg hd
  show finish d.sg (exec C d.body (startE d _)) = _
  unfold startE
  rw [hb, hs, hN]
  show finish _ (exec C sameB2 [some (p, .fz), some (p, .fz), none, none]) = _
  rw [he]; rfl
end Bd

namespace Bd
open PySem L2
/-! ### a statement, then the next one -/
theorem step {C : Cal} {a b : IS} {e e1 : En} {f : Fo} (h : exec C a e = .nx e1) (k : exec C b e1 = f) : exec C (.seq a b) e = f := by
  rw [x_seq, h, th_nx]; exact k
/-! ### the loop of a law: all([right(box(cells, k)) for k in range(len(cells))]) -/
theorem small_sz {a : Nat} (h : a ≤ 1000) : a ≤ sizeLine := Nat.le_trans h (by decide +kernel)
theorem it_rng2 {C : Cal} {a : IE} {e e1 : En} {n : Nat} (h : evOs C (.cons a .nil) e = .ok [.val (.int n)] e1) (hn : n < 4611686018427387904) : evIt C (.rng (.cons a .nil)) e = .ok (nts (List.range' 0 n)) e1 := by
  rw [it_ev, v_rng, h, bd_ok, kRg_eq]
  exact rng_end _ (rng_nat n hn)
theorem lw_turn {C : Cal} {s x p q : PV} {L : List PV} {f : Fl} (hf : f = .own ∨ f = .fz) (s1 : C.sig "_law_box" = some [false, false]) (s2 : C.sig "_law_right" = some [true]) (e1 : C.run "_law_box" [.lst L, x] = .ok (p, .own) []) (e2 : C.run "_law_right" [p] = .ok (.bl true, .fz) [q]) : compTurnE [2] (.nm 2) (ev C .no).2 (ev C (.call "_law_right" (.cons (.call "_law_box" (.cons (.var 1) (.cons (.var 2) .nil))) .nil))).1 x [some (s, .fz), some (.lst L, f), none] = .ok (some (.bl true)) [some (s, .fz), some (.lst L, .fz), none] := by
  rcases hf with rfl | rfl
  · have st : setG (.nm 2) x [some (s, .fz), some (.lst L, .own), none] = some [some (s, .fz), some (.lst L, .own), some (x, .fz)] := rfl
    simp only [bd_ok, bd_exc, bd_bad, fo_ok, fo_exc, th_nx, th_ret, th_exc, th_brk, th_cnt, tk_nx, tk_cnt, tk_brk, tk_ret, tk_exc, x_nil, x_seq, kAsg_eq, x_asg, kUnp_eq, x_unp, kPar_eq, x_par, kSet2_eq, kDct2_eq, kSet1_eq, x_seti, kApp_eq, x_app, kExpr_eq, x_expr, x_ret, x_retN, kIf_eq, x_ife, kLoop_eq, x_loop, x_whl, kWh_eq, x_brk, x_cnt, x_pass, x_boom, x_drop, kRa_eq, x_raise, x_raise0, x_try, ty_exc, ty_nx, ty_ret, kCl2_eq, kCl1_eq, kTr_eq, kB2_eq, kB1_eq, kU_eq, kTup_eq, kLst_eq, kS2_eq, kS1_eq, kC3_eq, kC2_eq, kC1_eq, kCall_eq, kK2_eq, kK1_eq, kBl_eq, kM2_eq, kM1_eq, kCo_eq, kRg_eq, kEn_eq, kZ2_eq, kZ1_eq, kBi_eq, kMk_eq, kIx_eq, kFl_eq, kCv2_eq, kCv1_eq, kLi2_eq, kLi1_eq, kL1_eq, kL3_eq, kL2_eq, kSs_eq, v_int, t_int, v_str, t_str, v_bl, t_bl, v_non, t_non, v_cst, t_cst, v_fnv, t_fnv, v_tyv, t_tyv, v_bin, t_bin, v_un, t_un, v_tup, t_tup, v_lst, t_lst, v_sub, t_sub, v_slc, t_slc, v_call, t_call, v_callk, t_callk, v_blt, t_blt, v_mth, t_mth, v_comp, t_comp, v_rng, t_rng, v_enm, t_enm, v_zip, t_zip, v_dnew, t_dnew, v_ddis, t_ddis, v_mk0, t_mk0, v_mk1, t_mk1, v_mkk, t_mkk, v_isx, t_isx, v_fld, t_fld, v_callv, t_callv, v_lidx, t_lidx, v_bits, t_bits, v_lrn1, t_lrn1, v_lrng, t_lrng, v_sset, t_sset, kVb_eq, kQ2_eq, kQ1_eq, kH4_eq, kH3_eq, kH2_eq, kH1_eq, v_cmp, t_cmp, v_chn, t_chn, v_var, t_var, kN2_eq, kN1_eq, kNt_eq, v_not, t_not, kAn_eq, kAt_eq, v_and, t_and, kOn_eq, kOt_eq, v_or, t_or, kIv_eq, kIt_eq, v_ife, t_ife, v_seq, v_no, kOs2_eq, kOs1_eq, os_nil, os_cons, kF2_eq, kF1_eq, f_nil, f_cons, kG2_eq, kG1_eq, kG3_eq, g_nil, g_val, g_slot, kGt_eq, g_tmpc, o_var, kIe_eq, it_ev, p_no, kRt_eq, r_var, kV_eq, kPt_eq, o_int, r_int, p_int, o_str, r_str, p_str, o_bl, r_bl, p_bl, o_non, r_non, p_non, o_cst, r_cst, p_cst, o_fnv, r_fnv, p_fnv, o_tyv, r_tyv, p_tyv, o_bin, r_bin, p_bin, o_un, r_un, p_un, o_tup, r_tup, p_tup, o_lst, r_lst, p_lst, o_sub, r_sub, p_sub, o_slc, r_slc, p_slc, o_call, r_call, p_call, o_callk, r_callk, p_callk, o_blt, r_blt, p_blt, o_mth, r_mth, p_mth, o_comp, r_comp, p_comp, o_rng, r_rng, p_rng, o_enm, r_enm, p_enm, o_zip, r_zip, p_zip, o_dnew, r_dnew, p_dnew, o_ddis, r_ddis, p_ddis, o_mk0, r_mk0, p_mk0, o_mk1, r_mk1, p_mk1, o_mkk, r_mkk, p_mkk, o_isx, r_isx, p_isx, o_fld, r_fld, p_fld, o_callv, r_callv, p_callv, o_lidx, r_lidx, p_lidx, o_bits, r_bits, p_bits, o_lrn1, r_lrn1, p_lrn1, o_lrng, r_lrng, p_lrng, o_sset, r_sset, p_sset, o_cmp, r_cmp, p_cmp, o_chn, r_chn, p_chn, o_not, r_not, p_not, o_and, r_and, p_and, o_or, r_or, p_or, o_ife, r_ife, p_ife, p_var, kT3_eq, kT2_eq, evVar, tsVar, liftO, liftB, flOf, fzO, okIf, cmp2, rsO, rsOs, unP, truth, lstAt, argV, argVs, slotsOf, argBack, setP, itO, itemsP, setPar, isNonP, kindO, seqOf, ownFz, wipeE, unwipe, consO, enmP, zipP, fnOf?, callV, isLst, List.map_cons, List.map_nil, List.all_cons, List.all_nil, Bool.and_true, Bool.true_and, Bool.and_self, Option.bind_some, Option.map_some, List.getElem?_cons_zero, List.getElem?_cons_succ, List.set_cons_zero, List.set_cons_succ, Option.isSome_some, if_true, if_false, ite_true, ite_false, decide_true, decide_false, Bool.not_true, Bool.not_false, reduceIte, Bool.false_eq_true, ct_eq, kT2_eq, kT3_eq, st, s1, s2, e1, e2, doCall, nd0, nd1, sz0, sz1, sz2, sz3, sz4, sz5, sz6, sz7, sz8, sz9, sz10, sz11, sz12, sz13, sz14, sz15, sz16, sz17, sz18, sz19, sz20]
    try rfl
  · have st : setG (.nm 2) x [some (s, .fz), some (.lst L, .fz), none] = some [some (s, .fz), some (.lst L, .fz), some (x, .fz)] := rfl
    simp only [bd_ok, bd_exc, bd_bad, fo_ok, fo_exc, th_nx, th_ret, th_exc, th_brk, th_cnt, tk_nx, tk_cnt, tk_brk, tk_ret, tk_exc, x_nil, x_seq, kAsg_eq, x_asg, kUnp_eq, x_unp, kPar_eq, x_par, kSet2_eq, kDct2_eq, kSet1_eq, x_seti, kApp_eq, x_app, kExpr_eq, x_expr, x_ret, x_retN, kIf_eq, x_ife, kLoop_eq, x_loop, x_whl, kWh_eq, x_brk, x_cnt, x_pass, x_boom, x_drop, kRa_eq, x_raise, x_raise0, x_try, ty_exc, ty_nx, ty_ret, kCl2_eq, kCl1_eq, kTr_eq, kB2_eq, kB1_eq, kU_eq, kTup_eq, kLst_eq, kS2_eq, kS1_eq, kC3_eq, kC2_eq, kC1_eq, kCall_eq, kK2_eq, kK1_eq, kBl_eq, kM2_eq, kM1_eq, kCo_eq, kRg_eq, kEn_eq, kZ2_eq, kZ1_eq, kBi_eq, kMk_eq, kIx_eq, kFl_eq, kCv2_eq, kCv1_eq, kLi2_eq, kLi1_eq, kL1_eq, kL3_eq, kL2_eq, kSs_eq, v_int, t_int, v_str, t_str, v_bl, t_bl, v_non, t_non, v_cst, t_cst, v_fnv, t_fnv, v_tyv, t_tyv, v_bin, t_bin, v_un, t_un, v_tup, t_tup, v_lst, t_lst, v_sub, t_sub, v_slc, t_slc, v_call, t_call, v_callk, t_callk, v_blt, t_blt, v_mth, t_mth, v_comp, t_comp, v_rng, t_rng, v_enm, t_enm, v_zip, t_zip, v_dnew, t_dnew, v_ddis, t_ddis, v_mk0, t_mk0, v_mk1, t_mk1, v_mkk, t_mkk, v_isx, t_isx, v_fld, t_fld, v_callv, t_callv, v_lidx, t_lidx, v_bits, t_bits, v_lrn1, t_lrn1, v_lrng, t_lrng, v_sset, t_sset, kVb_eq, kQ2_eq, kQ1_eq, kH4_eq, kH3_eq, kH2_eq, kH1_eq, v_cmp, t_cmp, v_chn, t_chn, v_var, t_var, kN2_eq, kN1_eq, kNt_eq, v_not, t_not, kAn_eq, kAt_eq, v_and, t_and, kOn_eq, kOt_eq, v_or, t_or, kIv_eq, kIt_eq, v_ife, t_ife, v_seq, v_no, kOs2_eq, kOs1_eq, os_nil, os_cons, kF2_eq, kF1_eq, f_nil, f_cons, kG2_eq, kG1_eq, kG3_eq, g_nil, g_val, g_slot, kGt_eq, g_tmpc, o_var, kIe_eq, it_ev, p_no, kRt_eq, r_var, kV_eq, kPt_eq, o_int, r_int, p_int, o_str, r_str, p_str, o_bl, r_bl, p_bl, o_non, r_non, p_non, o_cst, r_cst, p_cst, o_fnv, r_fnv, p_fnv, o_tyv, r_tyv, p_tyv, o_bin, r_bin, p_bin, o_un, r_un, p_un, o_tup, r_tup, p_tup, o_lst, r_lst, p_lst, o_sub, r_sub, p_sub, o_slc, r_slc, p_slc, o_call, r_call, p_call, o_callk, r_callk, p_callk, o_blt, r_blt, p_blt, o_mth, r_mth, p_mth, o_comp, r_comp, p_comp, o_rng, r_rng, p_rng, o_enm, r_enm, p_enm, o_zip, r_zip, p_zip, o_dnew, r_dnew, p_dnew, o_ddis, r_ddis, p_ddis, o_mk0, r_mk0, p_mk0, o_mk1, r_mk1, p_mk1, o_mkk, r_mkk, p_mkk, o_isx, r_isx, p_isx, o_fld, r_fld, p_fld, o_callv, r_callv, p_callv, o_lidx, r_lidx, p_lidx, o_bits, r_bits, p_bits, o_lrn1, r_lrn1, p_lrn1, o_lrng, r_lrng, p_lrng, o_sset, r_sset, p_sset, o_cmp, r_cmp, p_cmp, o_chn, r_chn, p_chn, o_not, r_not, p_not, o_and, r_and, p_and, o_or, r_or, p_or, o_ife, r_ife, p_ife, p_var, kT3_eq, kT2_eq, evVar, tsVar, liftO, liftB, flOf, fzO, okIf, cmp2, rsO, rsOs, unP, truth, lstAt, argV, argVs, slotsOf, argBack, setP, itO, itemsP, setPar, isNonP, kindO, seqOf, ownFz, wipeE, unwipe, consO, enmP, zipP, fnOf?, callV, isLst, List.map_cons, List.map_nil, List.all_cons, List.all_nil, Bool.and_true, Bool.true_and, Bool.and_self, Option.bind_some, Option.map_some, List.getElem?_cons_zero, List.getElem?_cons_succ, List.set_cons_zero, List.set_cons_succ, Option.isSome_some, if_true, if_false, ite_true, ite_false, decide_true, decide_false, Bool.not_true, Bool.not_false, reduceIte, Bool.false_eq_true, ct_eq, kT2_eq, kT3_eq, st, s1, s2, e1, e2, doCall, nd0, nd1, sz0, sz1, sz2, sz3, sz4, sz5, sz6, sz7, sz8, sz9, sz10, sz11, sz12, sz13, sz14, sz15, sz16, sz17, sz18, sz19, sz20]
    try rfl
theorem lw_loop {C : Cal} {s : PV} {L : List PV} (s1 : C.sig "_law_box" = some [false, false]) (s2 : C.sig "_law_right" = some [true]) (H : ∀ j : Nat, j < L.length → ∃ p q, C.run "_law_box" [.lst L, .int (j : Int)] = .ok (p, .own) [] ∧ C.run "_law_right" [p] = .ok (.bl true, .fz) [q]) : ∀ (k j : Nat) (f : Fl), (f = .own ∨ f = .fz) → j + k ≤ L.length → ∃ f' : Fl, (f' = .own ∨ f' = .fz) ∧
    compLoop (compTurnE [2] (.nm 2) (ev C .no).2 (ev C (.call "_law_right" (.cons (.call "_law_box" (.cons (.var 1) (.cons (.var 2) .nil))) .nil))).1) (nts (List.range' j k)) [some (s, .fz), some (.lst L, f), none] = .ok ((List.range' j k).map fun _ => PV.bl true) [some (s, .fz), some (.lst L, f'), none]
  | 0, j, f, hf, _ => ⟨f, hf, rfl⟩
  | k + 1, j, f, hf, hj => by
    obtain ⟨p, q, e4, e5⟩ := H j (by omega)
    obtain ⟨f', hf', ih⟩ := lw_loop (s := s) s1 s2 H k (j + 1) .fz (.inr rfl) (by omega)
    refine ⟨f', hf', ?_⟩
    show compLoop _ (.int (j : Int) :: nts (List.range' (j + 1) k)) _ = _
    rw [cl_cons, lw_turn hf s1 s2 e4 e5, bd_ok, kCl1_eq, ih]
    rfl
theorem lw_al (L : List PV) : bltP .all [.lst ((List.range' 0 L.length).map fun _ => PV.bl true)] = some (.bl true) := by
  rw [blt_all, allBls_true]
  show some (PV.bl (((List.range' 0 L.length).map fun _ => true).all id)) = _
  rw [all_true]
theorem lw_len {C : Cal} {s : PV} {L : List PV} : evOs C (.cons (.blt .len (.cons (.var 1) .nil)) .nil) [some (s, .fz), some (.lst L, .own), none] = .ok [.val (.int (L.length : Int))] [some (s, .fz), some (.lst L, .own), none] := by
  simp only [bd_ok, bd_exc, bd_bad, fo_ok, fo_exc, th_nx, th_ret, th_exc, th_brk, th_cnt, tk_nx, tk_cnt, tk_brk, tk_ret, tk_exc, x_nil, x_seq, kAsg_eq, x_asg, kUnp_eq, x_unp, kPar_eq, x_par, kSet2_eq, kDct2_eq, kSet1_eq, x_seti, kApp_eq, x_app, kExpr_eq, x_expr, x_ret, x_retN, kIf_eq, x_ife, kLoop_eq, x_loop, x_whl, kWh_eq, x_brk, x_cnt, x_pass, x_boom, x_drop, kRa_eq, x_raise, x_raise0, x_try, ty_exc, ty_nx, ty_ret, kCl2_eq, kCl1_eq, kTr_eq, kB2_eq, kB1_eq, kU_eq, kTup_eq, kLst_eq, kS2_eq, kS1_eq, kC3_eq, kC2_eq, kC1_eq, kCall_eq, kK2_eq, kK1_eq, kBl_eq, kM2_eq, kM1_eq, kCo_eq, kRg_eq, kEn_eq, kZ2_eq, kZ1_eq, kBi_eq, kMk_eq, kIx_eq, kFl_eq, kCv2_eq, kCv1_eq, kLi2_eq, kLi1_eq, kL1_eq, kL3_eq, kL2_eq, kSs_eq, v_int, t_int, v_str, t_str, v_bl, t_bl, v_non, t_non, v_cst, t_cst, v_fnv, t_fnv, v_tyv, t_tyv, v_bin, t_bin, v_un, t_un, v_tup, t_tup, v_lst, t_lst, v_sub, t_sub, v_slc, t_slc, v_call, t_call, v_callk, t_callk, v_blt, t_blt, v_mth, t_mth, v_comp, t_comp, v_rng, t_rng, v_enm, t_enm, v_zip, t_zip, v_dnew, t_dnew, v_ddis, t_ddis, v_mk0, t_mk0, v_mk1, t_mk1, v_mkk, t_mkk, v_isx, t_isx, v_fld, t_fld, v_callv, t_callv, v_lidx, t_lidx, v_bits, t_bits, v_lrn1, t_lrn1, v_lrng, t_lrng, v_sset, t_sset, kVb_eq, kQ2_eq, kQ1_eq, kH4_eq, kH3_eq, kH2_eq, kH1_eq, v_cmp, t_cmp, v_chn, t_chn, v_var, t_var, kN2_eq, kN1_eq, kNt_eq, v_not, t_not, kAn_eq, kAt_eq, v_and, t_and, kOn_eq, kOt_eq, v_or, t_or, kIv_eq, kIt_eq, v_ife, t_ife, v_seq, v_no, kOs2_eq, kOs1_eq, os_nil, os_cons, kF2_eq, kF1_eq, f_nil, f_cons, kG2_eq, kG1_eq, kG3_eq, g_nil, g_val, g_slot, kGt_eq, g_tmpc, o_var, kIe_eq, it_ev, p_no, kRt_eq, r_var, kV_eq, kPt_eq, o_int, r_int, p_int, o_str, r_str, p_str, o_bl, r_bl, p_bl, o_non, r_non, p_non, o_cst, r_cst, p_cst, o_fnv, r_fnv, p_fnv, o_tyv, r_tyv, p_tyv, o_bin, r_bin, p_bin, o_un, r_un, p_un, o_tup, r_tup, p_tup, o_lst, r_lst, p_lst, o_sub, r_sub, p_sub, o_slc, r_slc, p_slc, o_call, r_call, p_call, o_callk, r_callk, p_callk, o_blt, r_blt, p_blt, o_mth, r_mth, p_mth, o_comp, r_comp, p_comp, o_rng, r_rng, p_rng, o_enm, r_enm, p_enm, o_zip, r_zip, p_zip, o_dnew, r_dnew, p_dnew, o_ddis, r_ddis, p_ddis, o_mk0, r_mk0, p_mk0, o_mk1, r_mk1, p_mk1, o_mkk, r_mkk, p_mkk, o_isx, r_isx, p_isx, o_fld, r_fld, p_fld, o_callv, r_callv, p_callv, o_lidx, r_lidx, p_lidx, o_bits, r_bits, p_bits, o_lrn1, r_lrn1, p_lrn1, o_lrng, r_lrng, p_lrng, o_sset, r_sset, p_sset, o_cmp, r_cmp, p_cmp, o_chn, r_chn, p_chn, o_not, r_not, p_not, o_and, r_and, p_and, o_or, r_or, p_or, o_ife, r_ife, p_ife, p_var, kT3_eq, kT2_eq, evVar, tsVar, liftO, liftB, flOf, fzO, okIf, cmp2, rsO, rsOs, unP, truth, lstAt, argV, argVs, slotsOf, argBack, setP, itO, itemsP, setPar, isNonP, kindO, seqOf, ownFz, wipeE, unwipe, consO, enmP, zipP, fnOf?, callV, isLst, List.map_cons, List.map_nil, List.all_cons, List.all_nil, Bool.and_true, Bool.true_and, Bool.and_self, Option.bind_some, Option.map_some, List.getElem?_cons_zero, List.getElem?_cons_succ, List.set_cons_zero, List.set_cons_succ, Option.isSome_some, if_true, if_false, ite_true, ite_false, decide_true, decide_false, Bool.not_true, Bool.not_false, reduceIte, Bool.false_eq_true, blt_len_l, sz0, sz1, sz2, sz3, sz4, sz5, sz6, sz7, sz8, sz9, sz10, sz11, sz12, sz13, sz14, sz15, sz16, sz17, sz18, sz19, sz20]
theorem lw_comp {C : Cal} {s : PV} {L : List PV} {f : Fl} (hl : L.length ≤ 3) (lp : compLoop (compTurnE [2] (.nm 2) (ev C .no).2 (ev C (.call "_law_right" (.cons (.call "_law_box" (.cons (.var 1) (.cons (.var 2) .nil))) .nil))).1) (nts (List.range' 0 L.length)) [some (s, .fz), some (.lst L, .own), none] = .ok ((List.range' 0 L.length).map fun _ => PV.bl true) [some (s, .fz), some (.lst L, f), none]) :
    (ev C (.comp [2] (.nm 2) (.rng (.cons (.blt .len (.cons (.var 1) .nil)) .nil)) .no (.call "_law_right" (.cons (.call "_law_box" (.cons (.var 1) (.cons (.var 2) .nil))) .nil)))).1 [some (s, .fz), some (.lst L, .own), none] = .ok (.lst ((List.range' 0 L.length).map fun _ => PV.bl true), .own) [some (s, .fz), some (.lst L, f), none] := by
  rw [comp_it (it_rng2 lw_len (by omega)) rfl]
  show compEnd _ _ (compLoop _ _ [some (s, .fz), some (.lst L, .own), none]) = _
  rw [lp, compEnd_ok _ _ _ _ (by rw [List.length_map, List.length_range']; exact small_sz (by omega))]
  rfl
theorem lw_fin {C : Cal} {s : PV} {L M : List PV} {f : Fl} {X : IE} (s3 : C.sig "_law_cells" = some [false, false]) (e3 : C.run "_law_cells" [s, .int 3] = .ok (.lst L, .own) [])
    (b1 : (opd X (ev C X).1 [some (s, .fz), some (.lst L, .own), none]) = .ok (.val (.lst M)) [some (s, .fz), some (.lst L, f), none]) (al : bltP .all [.lst M] = some (.bl true)) :
    exec C (.seq (.asg 1 (.call "_law_cells" (.cons (.var 0) (.cons (.int 3) .nil)))) (.seq (.ret (.blt .all (.cons X .nil))) .nil)) [some (s, .fz), none, none] = .ret (.bl true, .fz) [some (s, .fz), some (.lst L, f), none] := by
  simp only [bd_ok, bd_exc, bd_bad, fo_ok, fo_exc, th_nx, th_ret, th_exc, th_brk, th_cnt, tk_nx, tk_cnt, tk_brk, tk_ret, tk_exc, x_nil, x_seq, kAsg_eq, x_asg, kUnp_eq, x_unp, kPar_eq, x_par, kSet2_eq, kDct2_eq, kSet1_eq, x_seti, kApp_eq, x_app, kExpr_eq, x_expr, x_ret, x_retN, kIf_eq, x_ife, kLoop_eq, x_loop, x_whl, kWh_eq, x_brk, x_cnt, x_pass, x_boom, x_drop, kRa_eq, x_raise, x_raise0, x_try, ty_exc, ty_nx, ty_ret, kCl2_eq, kCl1_eq, kTr_eq, kB2_eq, kB1_eq, kU_eq, kTup_eq, kLst_eq, kS2_eq, kS1_eq, kC3_eq, kC2_eq, kC1_eq, kCall_eq, kK2_eq, kK1_eq, kBl_eq, kM2_eq, kM1_eq, kCo_eq, kRg_eq, kEn_eq, kZ2_eq, kZ1_eq, kBi_eq, kMk_eq, kIx_eq, kFl_eq, kCv2_eq, kCv1_eq, kLi2_eq, kLi1_eq, kL1_eq, kL3_eq, kL2_eq, kSs_eq, v_int, t_int, v_str, t_str, v_bl, t_bl, v_non, t_non, v_cst, t_cst, v_fnv, t_fnv, v_tyv, t_tyv, v_bin, t_bin, v_un, t_un, v_tup, t_tup, v_lst, t_lst, v_sub, t_sub, v_slc, t_slc, v_call, t_call, v_callk, t_callk, v_blt, t_blt, v_mth, t_mth, v_comp, t_comp, v_rng, t_rng, v_enm, t_enm, v_zip, t_zip, v_dnew, t_dnew, v_ddis, t_ddis, v_mk0, t_mk0, v_mk1, t_mk1, v_mkk, t_mkk, v_isx, t_isx, v_fld, t_fld, v_callv, t_callv, v_lidx, t_lidx, v_bits, t_bits, v_lrn1, t_lrn1, v_lrng, t_lrng, v_sset, t_sset, kVb_eq, kQ2_eq, kQ1_eq, kH4_eq, kH3_eq, kH2_eq, kH1_eq, v_cmp, t_cmp, v_chn, t_chn, v_var, t_var, kN2_eq, kN1_eq, kNt_eq, v_not, t_not, kAn_eq, kAt_eq, v_and, t_and, kOn_eq, kOt_eq, v_or, t_or, kIv_eq, kIt_eq, v_ife, t_ife, v_seq, v_no, kOs2_eq, kOs1_eq, os_nil, os_cons, kF2_eq, kF1_eq, f_nil, f_cons, kG2_eq, kG1_eq, kG3_eq, g_nil, g_val, g_slot, kGt_eq, g_tmpc, o_var, kIe_eq, it_ev, p_no, kRt_eq, r_var, kV_eq, kPt_eq, o_int, r_int, p_int, o_str, r_str, p_str, o_bl, r_bl, p_bl, o_non, r_non, p_non, o_cst, r_cst, p_cst, o_fnv, r_fnv, p_fnv, o_tyv, r_tyv, p_tyv, o_bin, r_bin, p_bin, o_un, r_un, p_un, o_tup, r_tup, p_tup, o_lst, r_lst, p_lst, o_sub, r_sub, p_sub, o_slc, r_slc, p_slc, o_call, r_call, p_call, o_callk, r_callk, p_callk, o_blt, r_blt, p_blt, o_mth, r_mth, p_mth, o_comp, r_comp, p_comp, o_rng, r_rng, p_rng, o_enm, r_enm, p_enm, o_zip, r_zip, p_zip, o_dnew, r_dnew, p_dnew, o_ddis, r_ddis, p_ddis, o_mk0, r_mk0, p_mk0, o_mk1, r_mk1, p_mk1, o_mkk, r_mkk, p_mkk, o_isx, r_isx, p_isx, o_fld, r_fld, p_fld, o_callv, r_callv, p_callv, o_lidx, r_lidx, p_lidx, o_bits, r_bits, p_bits, o_lrn1, r_lrn1, p_lrn1, o_lrng, r_lrng, p_lrng, o_sset, r_sset, p_sset, o_cmp, r_cmp, p_cmp, o_chn, r_chn, p_chn, o_not, r_not, p_not, o_and, r_and, p_and, o_or, r_or, p_or, o_ife, r_ife, p_ife, p_var, kT3_eq, kT2_eq, evVar, tsVar, liftO, liftB, flOf, fzO, okIf, cmp2, rsO, rsOs, unP, truth, lstAt, argV, argVs, slotsOf, argBack, setP, itO, itemsP, setPar, isNonP, kindO, seqOf, ownFz, wipeE, unwipe, consO, enmP, zipP, fnOf?, callV, isLst, List.map_cons, List.map_nil, List.all_cons, List.all_nil, Bool.and_true, Bool.true_and, Bool.and_self, Option.bind_some, Option.map_some, List.getElem?_cons_zero, List.getElem?_cons_succ, List.set_cons_zero, List.set_cons_succ, Option.isSome_some, if_true, if_false, ite_true, ite_false, decide_true, decide_false, Bool.not_true, Bool.not_false, reduceIte, Bool.false_eq_true, s3, e3, b1, al, doCall, nd0, truth_b, sz0, sz1, sz2, sz3, sz4, sz5, sz6, sz7, sz8, sz9, sz10, sz11, sz12, sz13, sz14, sz15, sz16, sz17, sz18, sz19, sz20]
  try rfl
end Bd

namespace K14
open PySem PySem.Spec PyProof.Rows L2 Bd
abbrev rowP : Program := PySem.Challenge.pw_builtahead_k14_edits_or_none
def top (i : Nat) : Stmt := rowP.main.body.getD i (.Pass ⟨0, 0, 0, 0⟩)
def d_law : FD := ⟨["_law_script", "_law_cells_so", "_law_k", "_law_box_here", "_law_turn"], [false],
 (.seq (.ife (.not (.call "_law_by_hand_right" .nil))
 (.seq (.ret (.bl false))
 .nil)
 .nil)
 (.seq (.asg 1 (.call "_law_cells" (.cons (.var 0) (.cons (.int 3) .nil))))
 (.seq (.drop [2, 3])
 (.seq (.loop (.nm 2) (.rng (.cons (.blt .len (.cons (.var 1) .nil)) .nil))
 (.seq (.asg 3 (.call "_law_box" (.cons (.var 1) (.cons (.var 2) .nil))))
 (.seq (.ife (.not (.blt .all (.cons (.comp [4] (.nm 4) (.rng (.cons (.int 20) .nil)) .no (.call "_law_right" (.cons (.var 3) .nil))) .nil)))
 (.seq (.ret (.bl false))
 .nil)
 .nil)
 (.seq (.drop [2, 3])
 .nil))))
 (.seq (.ret (.bl true))
 .nil))))), []⟩
def d__law_right : FD := ⟨["_law_box_here", "_law_own", "_law_bent"], [true],
 (.seq (.asg 1 (.call "_law_of" (.cons (.var 0) (.cons (.call "_law_good" .nil) .nil))))
 (.seq (.asg 2 (.call "_law_spoilt" (.cons (.var 0) (.cons (.var 1) .nil))))
 (.seq (.ret (.call "_law_same" (.cons (.lst (.cons (.call "is_edit" (.cons (.var 1) .nil)) (.cons (.call "is_edit" (.cons (.var 2) .nil)) (.cons (.call "is_edit" (.cons (.tup (.cons (.var 2) .nil)) .nil)) .nil)))) (.cons (.lst (.cons (.bl true) (.cons (.call "_law_fine" (.cons (.var 2) .nil)) (.cons (.bl false) .nil)))) .nil))))
 .nil))), []⟩
def d__law_fine : FD := ⟨["_law_matter", "_law_shelf", "_law_word_so", "_law_sorts_so", "_law_sort_so", "_law_own", "_law_look"], [false],
 (.seq (.asg 1 (.ddis [(.inr "put wait"), (.inr "drop wait"), (.inr "put pair"), (.inr "drop pair")] [(.str "nnc"), (.str "nnc"), (.str "nn"), (.str "nn")]))
 (.seq (.drop [2, 3])
 (.seq (.loop (.tup [2, 3]) (.seq (.tup (.cons (.tup (.cons (.str "exchange") (.cons (.str "cc") .nil))) (.cons (.tup (.cons (.str "move") (.cons (.str "ncc") .nil))) (.cons (.tup (.cons (.str "home") (.cons (.str "nh") .nil))) .nil)))))
 (.seq (.seti 1 (.var 2) (.var 3))
 (.seq (.drop [2, 3])
 .nil)))
 (.seq (.putc 1 (.inr "mask") (.str "nm") (.inr "tree") (.str "nct"))
 (.seq (.ife (.or (.not (.blt .isinstance (.cons (.var 0) (.cons (.tyv .tuple) .nil)))) (.or (.cmp .Eq (.var 0) (.tup .nil)) (.not (.blt .isinstance (.cons (.sub (.var 0) (.int 0)) (.cons (.tyv .str) .nil))))))
 (.seq (.ret (.bl false))
 .nil)
 .nil)
 (.seq (.ife (.cmp .NotIn (.sub (.var 0) (.int 0)) (.var 1))
 (.seq (.ret (.bl false))
 .nil)
 .nil)
 (.seq (.ife (.cmp .NotEq (.blt .len (.cons (.var 0) .nil)) (.bin .Add (.int 1) (.blt .len (.cons (.sub (.var 1) (.sub (.var 0) (.int 0))) .nil))))
 (.seq (.ret (.bl false))
 .nil)
 .nil)
 (.seq (.drop [4, 5, 6])
 (.seq (.loop (.tup [4, 5]) (.zip (.sub (.var 1) (.sub (.var 0) (.int 0))) (.slc (.var 0) (.int 1) .no))
 (.seq (.asg 6 (.lst (.cons (.call "_law_name" (.cons (.var 5) .nil)) (.cons (.call "_law_count" (.cons (.var 5) .nil)) (.cons (.call "_law_home" (.cons (.var 5) .nil)) (.cons (.call "_law_mask" (.cons (.var 5) .nil)) (.cons (.call "_law_tree" (.cons (.var 5) .nil)) .nil)))))))
 (.seq (.ife (.not (.sub (.var 6) (.mth .index (.str "nchmt") (.cons (.var 4) .nil))))
 (.seq (.ret (.bl false))
 .nil)
 .nil)
 (.seq (.drop [4, 5, 6])
 .nil))))
 (.seq (.ret (.bl true))
 .nil)))))))))), []⟩
def d__law_tree : FD := ⟨["_law_matter"], [false],
 (.seq (.ife (.not (.blt .isinstance (.cons (.var 0) (.cons (.tyv .tuple) .nil))))
 (.seq (.ret (.bl false))
 .nil)
 .nil)
 (.seq (.ife (.cmp .Eq (.blt .len (.cons (.var 0) .nil)) (.int 2))
 (.seq (.ret (.and (.call "_law_name" (.cons (.sub (.var 0) (.int 0)) .nil)) (.call "_law_count" (.cons (.sub (.var 0) (.int 1)) .nil))))
 .nil)
 .nil)
 (.seq (.ife (.cmp .Eq (.blt .len (.cons (.var 0) .nil)) (.int 3))
 (.seq (.ret (.and (.call "_law_name" (.cons (.sub (.var 0) (.int 0)) .nil)) (.and (.call "_law_tree" (.cons (.sub (.var 0) (.int 1)) .nil)) (.call "_law_tree" (.cons (.sub (.var 0) (.int 2)) .nil)))))
 .nil)
 .nil)
 (.seq (.ret (.cmp .Eq (.var 0) (.tup .nil)))
 .nil)))), []⟩
def d__law_name : FD := ⟨["_law_matter", "_law_sign"], [false],
 (.seq (.ife (.or (.not (.blt .isinstance (.cons (.var 0) (.cons (.tyv .str) .nil)))) (.not (.chn .Lt .Lt (.int 0) (.blt .len (.cons (.var 0) .nil)) (.int 9))))
 (.seq (.ret (.bl false))
 .nil)
 .nil)
 (.seq (.ret (.cmp .Eq (.comp [1] (.nm 1) (.seq (.var 0)) (.cmp .NotIn (.var 1) (.str "abcdefghijklmnopqrstuvwxyz")) (.var 1)) (.lst .nil)))
 .nil)), []⟩
def d__law_count : FD := ⟨["_law_matter"], [false],
 (.seq (.ret (.and (.blt .isinstance (.cons (.var 0) (.cons (.tyv .int) .nil))) (.and (.not (.blt .isinstance (.cons (.var 0) (.cons (.tyv .bool) .nil)))) (.cmp .GtE (.var 0) (.int 0)))))
 .nil), []⟩
def d__law_mask : FD := ⟨["_law_matter", "_law_own", "_law_tag", "_law_k"], [false],
 (.seq (.ife (.not (.blt .isinstance (.cons (.var 0) (.cons (.tyv .tuple) .nil))))
 (.seq (.ret (.bl false))
 .nil)
 .nil)
 (.seq (.drop [1])
 (.seq (.loop (.nm 1) (.seq (.var 0))
 (.seq (.ife (.or (.not (.blt .isinstance (.cons (.var 1) (.cons (.tyv .tuple) .nil)))) (.cmp .NotEq (.comp [2] (.nm 2) (.seq (.var 1)) (.not (.call "_law_name" (.cons (.var 2) .nil))) (.var 2)) (.lst .nil)))
 (.seq (.ret (.bl false))
 .nil)
 .nil)
 (.seq (.ife (.cmp .NotEq (.comp [3] (.nm 3) (.rng (.cons (.bin .Sub (.blt .len (.cons (.var 1) .nil)) (.int 1)) .nil)) (.cmp .GtE (.sub (.var 1) (.var 3)) (.sub (.var 1) (.bin .Add (.var 3) (.int 1)))) (.var 3)) (.lst .nil))
 (.seq (.ret (.bl false))
 .nil)
 .nil)
 (.seq (.drop [1])
 .nil))))
 (.seq (.ret (.cmp .Eq (.comp [3] (.nm 3) (.rng (.cons (.bin .Sub (.blt .len (.cons (.var 0) .nil)) (.int 1)) .nil)) (.cmp .GtE (.sub (.var 0) (.var 3)) (.sub (.var 0) (.bin .Add (.var 3) (.int 1)))) (.var 3)) (.lst .nil)))
 .nil)))), []⟩
def d__law_home : FD := ⟨["_law_matter", "_law_own"], [false],
 (.seq (.ife (.or (.not (.blt .isinstance (.cons (.var 0) (.cons (.tyv .tuple) .nil)))) (.or (.cmp .Eq (.var 0) (.tup .nil)) (.not (.blt .isinstance (.cons (.sub (.var 0) (.int 0)) (.cons (.tyv .str) .nil))))))
 (.seq (.ret (.bl false))
 .nil)
 .nil)
 (.seq (.ife (.cmp .NotEq (.comp [1] (.nm 1) (.seq (.slc (.var 0) (.int 1) .no)) (.not (.call "_law_count" (.cons (.var 1) .nil))) (.var 1)) (.lst .nil))
 (.seq (.ret (.bl false))
 .nil)
 .nil)
 (.seq (.ife (.cmp .Eq (.sub (.var 0) (.int 0)) (.str "seat"))
 (.seq (.ret (.cmp .Eq (.blt .len (.cons (.var 0) .nil)) (.int 2)))
 .nil)
 .nil)
 (.seq (.ret (.and (.cmp .Eq (.sub (.var 0) (.int 0)) (.str "cells")) (.and (.cmp .Eq (.blt .len (.cons (.var 0) .nil)) (.int 4)) (.cmp .Gt (.sub (.var 0) (.int 1)) (.int 0)))))
 .nil)))), []⟩
def d_is_edit : FD := ⟨["thing", "word", "rest"], [false],
 (.seq (.ife (.or (.not (.blt .isinstance (.cons (.var 0) (.cons (.tyv .tuple) .nil)))) (.or (.cmp .Lt (.blt .len (.cons (.var 0) .nil)) (.int 3)) (.not (.blt .isinstance (.cons (.sub (.var 0) (.int 0)) (.cons (.tyv .str) .nil))))))
 (.seq (.ret (.bl false))
 .nil)
 .nil)
 (.seq (.par [1, 2] (.cons (.sub (.var 0) (.int 0)) (.cons (.slc (.var 0) (.int 1) .no) .nil)))
 (.seq (.ife (.cmp .In (.var 1) (.cst "WAIT_WORDS"))
 (.seq (.ret (.and (.cmp .Eq (.blt .len (.cons (.var 2) .nil)) (.int 3)) (.and (.call "is_name" (.cons (.sub (.var 2) (.int 0)) .nil)) (.and (.call "is_name" (.cons (.sub (.var 2) (.int 1)) .nil)) (.call "is_count" (.cons (.sub (.var 2) (.int 2)) .nil))))))
 .nil)
 .nil)
 (.seq (.ife (.cmp .In (.var 1) (.cst "PAIR_WORDS"))
 (.seq (.ret (.and (.cmp .Eq (.blt .len (.cons (.var 2) .nil)) (.int 2)) (.and (.call "is_name" (.cons (.sub (.var 2) (.int 0)) .nil)) (.call "is_name" (.cons (.sub (.var 2) (.int 1)) .nil)))))
 .nil)
 .nil)
 (.seq (.ife (.cmp .Eq (.var 1) (.cst "EXCHANGE"))
 (.seq (.ret (.and (.cmp .Eq (.blt .len (.cons (.var 2) .nil)) (.int 2)) (.and (.call "is_count" (.cons (.sub (.var 2) (.int 0)) .nil)) (.call "is_count" (.cons (.sub (.var 2) (.int 1)) .nil)))))
 .nil)
 .nil)
 (.seq (.ife (.cmp .Eq (.var 1) (.cst "MOVE"))
 (.seq (.ret (.and (.cmp .Eq (.blt .len (.cons (.var 2) .nil)) (.int 3)) (.and (.call "is_name" (.cons (.sub (.var 2) (.int 0)) .nil)) (.and (.call "is_count" (.cons (.sub (.var 2) (.int 1)) .nil)) (.call "is_count" (.cons (.sub (.var 2) (.int 2)) .nil))))))
 .nil)
 .nil)
 (.seq (.ife (.cmp .Eq (.var 1) (.cst "HOME"))
 (.seq (.ret (.and (.cmp .Eq (.blt .len (.cons (.var 2) .nil)) (.int 2)) (.and (.call "is_name" (.cons (.sub (.var 2) (.int 0)) .nil)) (.call "is_home" (.cons (.sub (.var 2) (.int 1)) .nil)))))
 .nil)
 .nil)
 (.seq (.ife (.cmp .Eq (.var 1) (.cst "MASK"))
 (.seq (.ret (.and (.cmp .Eq (.blt .len (.cons (.var 2) .nil)) (.int 2)) (.and (.call "is_name" (.cons (.sub (.var 2) (.int 0)) .nil)) (.call "is_mask" (.cons (.sub (.var 2) (.int 1)) .nil)))))
 .nil)
 .nil)
 (.seq (.ife (.cmp .Eq (.var 1) (.cst "TREE"))
 (.seq (.ret (.and (.cmp .Eq (.blt .len (.cons (.var 2) .nil)) (.int 3)) (.and (.call "is_name" (.cons (.sub (.var 2) (.int 0)) .nil)) (.and (.call "is_count" (.cons (.sub (.var 2) (.int 1)) .nil)) (.call "is_shaped_tree" (.cons (.sub (.var 2) (.int 2)) .nil))))))
 .nil)
 .nil)
 (.seq (.ret (.bl false))
 .nil)))))))))), [(0, ["thing"], [0])]⟩
def d_is_shaped_tree : FD := ⟨["thing"], [false],
 (.seq (.ife (.or (.not (.blt .isinstance (.cons (.var 0) (.cons (.tyv .tuple) .nil)))) (.or (.cmp .Gt (.blt .len (.cons (.var 0) .nil)) (.cst "TRIPLE")) (.cmp .Eq (.blt .len (.cons (.var 0) .nil)) (.int 1))))
 (.seq (.ret (.bl false))
 .nil)
 .nil)
 (.seq (.ife (.cmp .Eq (.blt .len (.cons (.var 0) .nil)) (.cst "PAIR"))
 (.seq (.ret (.and (.call "is_name" (.cons (.sub (.var 0) (.int 0)) .nil)) (.call "is_count" (.cons (.sub (.var 0) (.int 1)) .nil))))
 .nil)
 .nil)
 (.seq (.ret (.or (.cmp .Eq (.blt .len (.cons (.var 0) .nil)) (.int 0)) (.and (.call "is_name" (.cons (.sub (.var 0) (.int 0)) .nil)) (.and (.call "is_shaped_tree" (.cons (.sub (.var 0) (.int 1)) .nil)) (.call "is_shaped_tree" (.cons (.sub (.var 0) (.int 2)) .nil))))))
 .nil))), []⟩
def d_is_name : FD := ⟨["value", "letter"], [false],
 (.seq (.ife (.or (.not (.blt .isinstance (.cons (.var 0) (.cons (.tyv .str) .nil)))) (.not (.chn .LtE .LtE (.int 1) (.blt .len (.cons (.var 0) .nil)) (.cst "MOST_LETTERS"))))
 (.seq (.ret (.bl false))
 .nil)
 .nil)
 (.seq (.ret (.blt .all (.cons (.comp [1] (.nm 1) (.seq (.var 0)) .no (.cmp .In (.var 1) (.cst "LETTERS"))) .nil)))
 .nil)), []⟩
def d_is_count : FD := ⟨["value"], [false],
 (.seq (.ret (.and (.call "is_number" (.cons (.var 0) .nil)) (.cmp .GtE (.var 0) (.int 0))))
 .nil), []⟩
def d_is_number : FD := ⟨["value"], [false],
 (.seq (.ret (.and (.blt .isinstance (.cons (.var 0) (.cons (.tyv .int) .nil))) (.not (.blt .isinstance (.cons (.var 0) (.cons (.tyv .bool) .nil))))))
 .nil), []⟩
def d_is_mask : FD := ⟨["thing", "own"], [false],
 (.seq (.ret (.and (.blt .isinstance (.cons (.var 0) (.cons (.tyv .tuple) .nil))) (.and (.blt .all (.cons (.comp [1] (.nm 1) (.seq (.var 0)) .no (.call "is_name_set" (.cons (.var 1) .nil))) .nil)) (.call "is_rising" (.cons (.var 0) .nil)))))
 .nil), []⟩
def d_is_rising : FD := ⟨["row", "one", "other"], [false],
 (.seq (.ret (.blt .all (.cons (.comp [1, 2] (.tup [1, 2]) (.zip (.var 0) (.slc (.var 0) (.int 1) .no)) .no (.cmp .Lt (.var 1) (.var 2))) .nil)))
 .nil), []⟩
def d_is_name_set : FD := ⟨["value", "name"], [false],
 (.seq (.ret (.and (.blt .isinstance (.cons (.var 0) (.cons (.tyv .tuple) .nil))) (.and (.blt .all (.cons (.comp [1] (.nm 1) (.seq (.var 0)) .no (.call "is_name" (.cons (.var 1) .nil))) .nil)) (.call "is_rising" (.cons (.var 0) .nil)))))
 .nil), []⟩
def d_is_home : FD := ⟨["thing", "own"], [false],
 (.seq (.ife (.or (.not (.blt .isinstance (.cons (.var 0) (.cons (.tyv .tuple) .nil)))) (.cmp .NotIn (.blt .len (.cons (.var 0) .nil)) (.tup (.cons (.cst "PAIR") (.cons (.bin .Add (.cst "PAIR") (.cst "PAIR")) .nil)))))
 (.seq (.ret (.bl false))
 .nil)
 .nil)
 (.seq (.ife (.or (.not (.blt .isinstance (.cons (.sub (.var 0) (.int 0)) (.cons (.tyv .str) .nil)))) (.not (.blt .all (.cons (.comp [1] (.nm 1) (.seq (.slc (.var 0) (.int 1) .no)) .no (.call "is_count" (.cons (.var 1) .nil))) .nil))))
 (.seq (.ret (.bl false))
 .nil)
 .nil)
 (.seq (.ret (.ife (.cmp .Eq (.blt .len (.cons (.var 0) .nil)) (.cst "PAIR")) (.cmp .Eq (.sub (.var 0) (.int 0)) (.cst "SEAT")) (.and (.cmp .Eq (.sub (.var 0) (.int 0)) (.cst "CELLS")) (.cmp .Gt (.sub (.var 0) (.int 1)) (.int 0)))))
 .nil))), []⟩
def d__law_same : FD := ⟨["_law_got", "_law_due", "_law_mine_so", "_law_own"], [false, false],
 (.seq (.ife (.blt .isinstance (.cons (.var 1) (.cons (.tup (.cons (.tyv .list) (.cons (.tyv .tuple) .nil))) .nil)))
 (.seq (.ife (.or (.cmp .NotEq (.blt .isinstance (.cons (.var 0) (.cons (.tyv .list) .nil))) (.blt .isinstance (.cons (.var 1) (.cons (.tyv .list) .nil)))) (.cmp .NotEq (.blt .isinstance (.cons (.var 0) (.cons (.tyv .tuple) .nil))) (.blt .isinstance (.cons (.var 1) (.cons (.tyv .tuple) .nil)))))
 (.seq (.ret (.bl false))
 .nil)
 .nil)
 (.seq (.ret (.and (.cmp .Eq (.blt .len (.cons (.var 0) .nil)) (.blt .len (.cons (.var 1) .nil))) (.blt .all (.cons (.comp [2, 3] (.tup [2, 3]) (.zip (.var 0) (.var 1)) .no (.call "_law_same" (.cons (.var 2) (.cons (.var 3) .nil)))) .nil))))
 .nil))
 .nil)
 (.seq (.ife (.or (.cmp .Is (.var 1) .non) (.blt .isinstance (.cons (.var 1) (.cons (.tup (.cons (.tyv .bool) (.cons (.tyv .str) .nil))) .nil))))
 (.seq (.ret (.and (.cmp .Eq (.var 0) (.var 1)) (.and (.cmp .Eq (.blt .isinstance (.cons (.var 0) (.cons (.tyv .bool) .nil))) (.blt .isinstance (.cons (.var 1) (.cons (.tyv .bool) .nil)))) (.cmp .Eq (.cmp .Is (.var 0) .non) (.cmp .Is (.var 1) .non)))))
 .nil)
 .nil)
 (.seq (.ret (.and (.blt .isinstance (.cons (.var 0) (.cons (.tyv .int) .nil))) (.and (.not (.blt .isinstance (.cons (.var 0) (.cons (.tyv .bool) .nil)))) (.cmp .Eq (.var 0) (.var 1)))))
 .nil))), []⟩
def d__law_spoilt : FD := ⟨["_law_box_here", "_law_own", "_law_k", "_law_odd", "_law_way_so", "_law_far", "_law_j"], [true, false],
 (.seq (.par [2, 3] (.cons (.call "_law_take" (.cons (.var 0) (.cons (.blt .len (.cons (.var 1) .nil)) .nil))) (.cons (.lst (.cons (.int 0) (.cons (.int 1) (.cons (.un .USub (.int 1)) (.cons (.bl true) (.cons .non (.cons (.str "a") (.cons (.str "A") (.cons (.str "") (.cons (.tup .nil) .nil)))))))))) .nil)))
 (.seq (.asg 3 (.bin .Add (.var 3) (.lst (.cons (.tup (.cons (.str "seat") (.cons (.int 1) .nil))) (.cons (.tup (.cons (.str "b") (.cons (.int 0) .nil))) (.cons (.lst .nil) (.cons (.tup (.cons (.tup .nil) .nil)) (.cons (.str "mask") .nil))))))))
 (.seq (.asg 4 (.call "_law_take" (.cons (.var 0) (.cons (.int 5) .nil))))
 (.seq (.ife (.cmp .Eq (.var 4) (.int 0))
 (.seq (.ret (.bin .Add (.slc (.var 1) .no (.var 2)) (.slc (.var 1) (.bin .Add (.var 2) (.int 1)) .no)))
 .nil)
 .nil)
 (.seq (.ife (.cmp .Eq (.var 4) (.int 1))
 (.seq (.ret (.bin .Add (.bin .Add (.slc (.var 1) .no (.var 2)) (.tup (.cons (.call "_law_of" (.cons (.var 0) (.cons (.var 3) .nil))) .nil))) (.slc (.var 1) (.var 2) .no)))
 .nil)
 .nil)
 (.seq (.ife (.and (.cmp .Eq (.var 4) (.int 2)) (.and (.blt .isinstance (.cons (.sub (.var 1) (.un .USub (.int 1))) (.cons (.tyv .tuple) .nil))) (.cmp .NotEq (.sub (.var 1) (.un .USub (.int 1))) (.tup .nil))))
 (.seq (.par [5, 6] (.cons (.sub (.var 1) (.un .USub (.int 1))) (.cons (.call "_law_take" (.cons (.var 0) (.cons (.blt .len (.cons (.sub (.var 1) (.un .USub (.int 1))) .nil)) .nil))) .nil)))
 (.seq (.ret (.bin .Add (.slc (.var 1) .no (.un .USub (.int 1))) (.tup (.cons (.bin .Add (.bin .Add (.slc (.var 5) .no (.var 6)) (.tup (.cons (.call "_law_of" (.cons (.var 0) (.cons (.var 3) .nil))) .nil))) (.slc (.var 5) (.bin .Add (.var 6) (.int 1)) .no)) .nil))))
 .nil))
 .nil)
 (.seq (.ret (.bin .Add (.bin .Add (.slc (.var 1) .no (.var 2)) (.tup (.cons (.call "_law_of" (.cons (.var 0) (.cons (.var 3) .nil))) .nil))) (.slc (.var 1) (.bin .Add (.var 2) (.int 1)) .no)))
 .nil))))))), []⟩
def d__law_of : FD := ⟨["_law_box_here", "_law_goods_so"], [true, false],
 (.seq (.ret (.sub (.var 1) (.call "_law_take" (.cons (.var 0) (.cons (.blt .len (.cons (.var 1) .nil)) .nil)))))
 .nil), []⟩
def d__law_take : FD := ⟨["_law_box_here", "_law_top_so", "_law_digit_so", "_law_once", "_law_far", "_law_again"], [true, false],
 (.seq (.ife (.cmp .Gt (.sub (.var 0) (.int 0)) (.int 0))
 (.seq (.asg 2 (.bin .Mod (.blt .int (.cons (.sub (.var 0) (.int 0)) .nil)) (.var 1)))
 (.seq (.seti 0 (.int 0) (.bin .FloorDiv (.sub (.var 0) (.int 0)) (.var 1)))
 (.seq (.ret (.var 2))
 .nil)))
 .nil)
 (.seq (.seti 0 (.int 2) (.bin .Add (.sub (.var 0) (.int 2)) (.int 1)))
 (.seq (.asg 3 (.bin .Mod (.blt .int (.cons (.bin .Mult (.bin .Add (.sub (.var 0) (.int 1)) (.bin .Mult (.int 48271) (.sub (.var 0) (.int 2)))) (.bin .Add (.int 39373) (.sub (.var 0) (.int 2)))) .nil)) (.int 2147483647)))
 (.seq (.asg 4 (.bin .Add (.bin .Mod (.blt .int (.cons (.var 3) .nil)) (.int 40009)) (.int 7)))
 (.seq (.asg 5 (.bin .Mod (.blt .int (.cons (.bin .Mult (.bin .Add (.bin .Add (.var 3) (.sub (.var 0) (.int 2))) (.bin .FloorDiv (.sub (.var 0) (.int 1)) (.int 1000003))) (.var 4)) .nil)) (.int 2147483629)))
 (.seq (.ret (.bin .Mod (.blt .int (.cons (.bin .FloorDiv (.bin .Mod (.blt .int (.cons (.bin .Add (.bin .Mult (.var 5) (.int 48271)) (.var 3)) .nil)) (.int 2147483587)) (.int 64)) .nil)) (.var 1)))
 .nil)))))), []⟩
def d__law_good : FD := ⟨["_law_found"], [],
 (.seq (.asg 0 (.lst (.cons (.tup (.cons (.str "put wait") (.cons (.str "a") (.cons (.str "b") (.cons (.int 0) .nil))))) (.cons (.tup (.cons (.str "put wait") (.cons (.str "a") (.cons (.str "a") (.cons (.int 1) .nil))))) .nil))))
 (.seq (.asg 0 (.bin .Add (.var 0) (.lst (.cons (.tup (.cons (.str "drop wait") (.cons (.str "abcdefgh") (.cons (.str "b") (.cons (.int 16) .nil))))) (.cons (.tup (.cons (.str "put pair") (.cons (.str "a") (.cons (.str "b") .nil)))) .nil)))))
 (.seq (.asg 0 (.bin .Add (.var 0) (.lst (.cons (.tup (.cons (.str "drop pair") (.cons (.str "a") (.cons (.str "a") .nil)))) (.cons (.tup (.cons (.str "exchange") (.cons (.int 0) (.cons (.int 0) .nil)))) (.cons (.tup (.cons (.str "exchange") (.cons (.int 2) (.cons (.bin .Pow (.int 10) (.int 30)) .nil)))) .nil))))))
 (.seq (.asg 0 (.bin .Add (.var 0) (.lst (.cons (.tup (.cons (.str "move") (.cons (.str "a") (.cons (.int 0) (.cons (.int 3) .nil))))) (.cons (.tup (.cons (.str "home") (.cons (.str "a") (.cons (.tup (.cons (.str "seat") (.cons (.int 0) .nil))) .nil)))) .nil)))))
 (.seq (.asg 0 (.bin .Add (.var 0) (.lst (.cons (.tup (.cons (.str "home") (.cons (.str "a") (.cons (.tup (.cons (.str "cells") (.cons (.int 1) (.cons (.int 0) (.cons (.int 0) .nil))))) .nil)))) (.cons (.tup (.cons (.str "home") (.cons (.str "a") (.cons (.tup (.cons (.str "cells") (.cons (.int 16) (.cons (.bin .Pow (.int 10) (.int 30)) (.cons (.int 200) .nil))))) .nil)))) .nil)))))
 (.seq (.asg 0 (.bin .Add (.var 0) (.lst (.cons (.tup (.cons (.str "mask") (.cons (.str "a") (.cons (.tup .nil) .nil)))) (.cons (.tup (.cons (.str "mask") (.cons (.str "a") (.cons (.tup (.cons (.tup .nil) .nil)) .nil)))) .nil)))))
 (.seq (.asg 0 (.bin .Add (.var 0) (.lst (.cons (.tup (.cons (.str "mask") (.cons (.str "a") (.cons (.tup (.cons (.tup .nil) (.cons (.tup (.cons (.str "big") .nil)) (.cons (.tup (.cons (.str "big") (.cons (.str "odd") .nil))) .nil)))) .nil)))) (.cons (.tup (.cons (.str "tree") (.cons (.str "a") (.cons (.int 0) (.cons (.tup .nil) .nil))))) .nil)))))
 (.seq (.app 0 (.tup (.cons (.str "tree") (.cons (.str "a") (.cons (.int 2) (.cons (.tup (.cons (.str "b") (.cons (.int 0) .nil))) .nil))))))
 (.seq (.ret (.bin .Add (.var 0) (.lst (.cons (.tup (.cons (.str "tree") (.cons (.str "a") (.cons (.int 1) (.cons (.tup (.cons (.str "big") (.cons (.tup .nil) (.cons (.tup (.cons (.str "odd") (.cons (.tup (.cons (.str "b") (.cons (.int 1) .nil))) (.cons (.tup (.cons (.str "a") (.cons (.bin .Pow (.int 10) (.int 30)) .nil))) .nil)))) .nil)))) .nil))))) .nil))))
 .nil))))))))), []⟩
def d__law_box : FD := ⟨["_law_script", "_law_k", "_law_cell"], [false, false],
 (.seq (.asg 2 (.ife (.cmp .Lt (.var 1) (.blt .len (.cons (.var 0) .nil))) (.sub (.var 0) (.var 1)) (.int 0)))
 (.seq (.ret (.lst (.cons (.bin .Mult (.blt .abs (.cons (.var 2) .nil)) (.blt .int (.cons (.cmp .GtE (.blt .abs (.cons (.var 2) .nil)) (.bin .Pow (.int 10) (.int 18))) .nil))) (.cons (.bin .Add (.bin .Add (.bin .Mod (.blt .int (.cons (.var 2) .nil)) (.int 2305843009213693951)) (.bin .Mult (.int 39373) (.var 1))) (.int 93714)) (.cons (.int 0) .nil)))))
 .nil)), []⟩
def d__law_cells : FD := ⟨["_law_script", "_law_top_so", "_law_cells_so", "_law_k", "_law_cell", "_law_at_so"], [false, false],
 (.seq (.asg 2 (.or (.blt .list (.cons (.slc (.var 0) .no (.var 1)) .nil)) (.lst (.cons (.int 0) .nil))))
 (.seq (.drop [3, 4, 5])
 (.seq (.loop (.tup [3, 4]) (.enm (.slc (.var 0) (.var 1) (.int 63)))
 (.seq (.asg 5 (.bin .Mod (.blt .int (.cons (.var 3) .nil)) (.var 1)))
 (.seq (.seti 2 (.var 5) (.bin .Add (.sub (.var 2) (.var 5)) (.bin .Mult (.var 4) (.bin .Add (.var 3) (.int 2)))))
 (.seq (.drop [3, 4, 5])
 .nil))))
 (.seq (.ret (.var 2))
 .nil)))), []⟩
def d__law_by_hand_right : FD := ⟨["_law_good_here", "_law_bad", "_law_own", "_law_got", "_law_due"], [],
 (.seq (.asg 0 (.call "_law_good" .nil))
 (.seq (.asg 1 (.lst (.cons .non (.cons (.int 0) (.cons (.str "put wait") (.cons (.tup .nil) (.cons (.tup (.cons (.str "put wait") .nil)) (.cons (.tup (.cons (.str "put wait") (.cons (.str "a") (.cons (.str "b") .nil)))) .nil))))))))
 (.seq (.asg 1 (.bin .Add (.var 1) (.lst (.cons (.tup (.cons (.str "put wait") (.cons (.str "a") (.cons (.str "b") (.cons (.un .USub (.int 1)) .nil))))) (.cons (.tup (.cons (.str "put wait") (.cons (.str "a") (.cons (.str "b") (.cons (.bl true) .nil))))) .nil)))))
 (.seq (.asg 1 (.bin .Add (.var 1) (.lst (.cons (.tup (.cons (.str "put wait") (.cons (.str "a") (.cons (.str "") (.cons (.int 0) .nil))))) (.cons (.tup (.cons (.str "put wait") (.cons (.str "A") (.cons (.str "b") (.cons (.int 0) .nil))))) (.cons (.tup (.cons (.str "put wait") (.cons (.str "a") (.cons (.str "b") (.cons (.int 0) (.cons (.int 0) .nil)))))) .nil))))))
 (.seq (.asg 1 (.bin .Add (.var 1) (.lst (.cons (.lst (.cons (.str "put wait") (.cons (.str "a") (.cons (.str "b") (.cons (.int 0) .nil))))) (.cons (.tup (.cons (.str "puts") (.cons (.str "a") (.cons (.str "b") (.cons (.int 0) .nil))))) .nil)))))
 (.seq (.asg 1 (.bin .Add (.var 1) (.lst (.cons (.tup (.cons (.str "put wait") (.cons (.str "a") (.cons (.str "abcdefghi") (.cons (.int 0) .nil))))) (.cons (.tup (.cons (.str "put wait") (.cons (.str "a") (.cons .non (.cons (.int 0) .nil))))) .nil)))))
 (.seq (.asg 1 (.bin .Add (.var 1) (.lst (.cons (.tup (.cons (.str "put wait") (.cons (.str "a") (.cons (.str "b") (.cons (.str "0") .nil))))) (.cons (.tup (.cons (.str "put pair") (.cons (.str "a") .nil))) (.cons (.tup (.cons (.str "put pair") (.cons (.str "a") (.cons (.str "b") (.cons (.int 0) .nil))))) .nil))))))
 (.seq (.asg 1 (.bin .Add (.var 1) (.lst (.cons (.tup (.cons (.str "put pair") (.cons (.str "a") (.cons (.int 1) .nil)))) (.cons (.tup (.cons (.str "exchange") (.cons (.int 0) .nil))) (.cons (.tup (.cons (.str "exchange") (.cons (.str "a") (.cons (.int 0) .nil)))) (.cons (.tup (.cons (.str "exchange") (.cons (.int 0) (.cons (.un .USub (.int 1)) .nil)))) .nil)))))))
 (.seq (.asg 1 (.bin .Add (.var 1) (.lst (.cons (.tup (.cons (.str "exchange") (.cons (.int 0) (.cons .non .nil)))) (.cons (.tup (.cons (.str "exchange") (.cons (.bl false) (.cons (.int 0) .nil)))) .nil)))))
 (.seq (.asg 1 (.bin .Add (.var 1) (.lst (.cons (.tup (.cons (.str "move") (.cons (.str "a") (.cons (.int 0) .nil)))) (.cons (.tup (.cons (.str "move") (.cons (.int 0) (.cons (.str "a") (.cons (.int 0) .nil))))) (.cons (.tup (.cons (.str "move") (.cons (.str "a") (.cons (.int 0) (.cons (.un .USub (.int 1)) .nil))))) .nil))))))
 (.seq (.asg 1 (.bin .Add (.var 1) (.lst (.cons (.tup (.cons (.str "move") (.cons (.str "a") (.cons (.int 0) (.cons (.int 0) (.cons (.int 0) .nil)))))) .nil))))
 (.seq (.asg 1 (.bin .Add (.var 1) (.lst (.cons (.tup (.cons (.str "home") (.cons (.str "a") .nil))) (.cons (.tup (.cons (.str "home") (.cons (.str "a") (.cons (.tup (.cons (.str "seat") .nil)) .nil)))) .nil)))))
 (.seq (.asg 1 (.bin .Add (.var 1) (.lst (.cons (.tup (.cons (.str "home") (.cons (.str "a") (.cons (.tup (.cons (.str "seat") (.cons (.un .USub (.int 1)) .nil))) .nil)))) (.cons (.tup (.cons (.str "home") (.cons (.str "a") (.cons (.tup (.cons (.str "seat") (.cons (.int 0) (.cons (.int 0) .nil)))) .nil)))) .nil)))))
 (.seq (.asg 1 (.bin .Add (.var 1) (.lst (.cons (.tup (.cons (.str "home") (.cons (.str "a") (.cons (.tup (.cons (.str "cells") (.cons (.int 2) (.cons (.int 1) .nil)))) .nil)))) (.cons (.tup (.cons (.str "home") (.cons (.str "a") (.cons (.tup (.cons (.str "cells") (.cons (.int 0) (.cons (.int 1) (.cons (.int 1) .nil))))) .nil)))) .nil)))))
 (.seq (.asg 1 (.bin .Add (.var 1) (.lst (.cons (.tup (.cons (.str "home") (.cons (.str "a") (.cons (.lst (.cons (.str "seat") (.cons (.int 0) .nil))) .nil)))) (.cons (.tup (.cons (.str "home") (.cons (.str "a") (.cons (.str "seat") .nil)))) (.cons (.tup (.cons (.str "home") (.cons (.str "a") (.cons (.tup .nil) .nil)))) .nil))))))
 (.seq (.asg 1 (.bin .Add (.var 1) (.lst (.cons (.tup (.cons (.str "home") (.cons (.str "a") (.cons (.tup (.cons (.int 0) (.cons (.int 0) .nil))) .nil)))) (.cons (.tup (.cons (.str "home") (.cons (.str "a") (.cons (.tup (.cons (.str "cell") (.cons (.int 2) (.cons (.int 1) (.cons (.int 1) .nil))))) .nil)))) (.cons (.tup (.cons (.str "home") (.cons (.int 0) (.cons (.tup (.cons (.str "seat") (.cons (.int 0) .nil))) .nil)))) .nil))))))
 (.seq (.asg 1 (.bin .Add (.var 1) (.lst (.cons (.tup (.cons (.str "mask") (.cons (.str "a") (.cons .non .nil)))) (.cons (.tup (.cons (.str "mask") (.cons (.str "a") (.cons (.str "big") .nil)))) (.cons (.tup (.cons (.str "mask") (.cons (.str "a") (.cons (.tup (.cons (.str "big") .nil)) .nil)))) .nil))))))
 (.seq (.asg 1 (.bin .Add (.var 1) (.lst (.cons (.tup (.cons (.str "mask") (.cons (.str "a") (.cons (.tup (.cons (.tup (.cons (.str "big") (.cons (.str "big") .nil))) .nil)) .nil)))) (.cons (.tup (.cons (.str "mask") (.cons (.str "a") (.cons (.tup (.cons (.tup (.cons (.str "odd") (.cons (.str "big") .nil))) .nil)) .nil)))) .nil)))))
 (.seq (.asg 1 (.bin .Add (.var 1) (.lst (.cons (.tup (.cons (.str "mask") (.cons (.str "a") (.cons (.tup (.cons (.tup (.cons (.str "big") .nil)) (.cons (.tup .nil) .nil))) .nil)))) (.cons (.tup (.cons (.str "mask") (.cons (.str "a") (.cons (.tup (.cons (.tup .nil) (.cons (.tup .nil) .nil))) .nil)))) (.cons (.tup (.cons (.str "mask") (.cons (.str "a") (.cons (.lst (.cons (.tup .nil) .nil)) .nil)))) .nil))))))
 (.seq (.asg 1 (.bin .Add (.var 1) (.lst (.cons (.tup (.cons (.str "mask") (.cons (.str "a") (.cons (.tup (.cons (.lst .nil) .nil)) .nil)))) (.cons (.tup (.cons (.str "mask") (.cons (.str "a") (.cons (.tup (.cons (.tup (.cons (.int 1) .nil)) .nil)) .nil)))) (.cons (.tup (.cons (.str "mask") (.cons (.str "a") .nil))) .nil))))))
 (.seq (.asg 1 (.bin .Add (.var 1) (.lst (.cons (.tup (.cons (.str "tree") (.cons (.str "a") (.cons (.int 0) .nil)))) (.cons (.tup (.cons (.str "tree") (.cons (.str "a") (.cons (.un .USub (.int 1)) (.cons (.tup .nil) .nil))))) (.cons (.tup (.cons (.str "tree") (.cons (.str "a") (.cons (.int 0) (.cons .non .nil))))) .nil))))))
 (.seq (.asg 1 (.bin .Add (.var 1) (.lst (.cons (.tup (.cons (.str "tree") (.cons (.str "a") (.cons (.int 0) (.cons (.tup (.cons (.str "b") .nil)) .nil))))) (.cons (.tup (.cons (.str "tree") (.cons (.str "a") (.cons (.int 0) (.cons (.tup (.cons (.str "b") (.cons (.un .USub (.int 1)) .nil))) .nil))))) .nil)))))
 (.seq (.asg 1 (.bin .Add (.var 1) (.lst (.cons (.tup (.cons (.str "tree") (.cons (.str "a") (.cons (.int 0) (.cons (.tup (.cons (.str "b") (.cons (.bl true) .nil))) .nil))))) .nil))))
 (.seq (.asg 1 (.bin .Add (.var 1) (.lst (.cons (.tup (.cons (.str "tree") (.cons (.str "a") (.cons (.int 0) (.cons (.tup (.cons (.str "big") (.cons (.tup .nil) (.cons (.tup (.cons (.str "b") .nil)) .nil)))) .nil))))) (.cons (.tup (.cons (.str "tree") (.cons (.str "a") (.cons (.int 0) (.cons (.tup (.cons (.str "big") (.cons (.lst .nil) (.cons (.tup .nil) .nil)))) .nil))))) .nil)))))
 (.seq (.asg 1 (.bin .Add (.var 1) (.lst (.cons (.tup (.cons (.str "tree") (.cons (.str "a") (.cons (.int 0) (.cons (.lst (.cons (.str "b") (.cons (.int 0) .nil))) .nil))))) (.cons (.tup (.cons (.str "tree") (.cons (.str "a") (.cons (.int 0) (.cons (.tup (.cons (.str "big") (.cons (.tup .nil) (.cons (.tup .nil) (.cons (.tup .nil) .nil))))) .nil))))) .nil)))))
 (.seq (.asg 1 (.bin .Add (.var 1) (.lst (.cons (.tup (.cons (.str "tree") (.cons (.str "a") (.cons (.int 0) (.cons (.tup (.cons (.int 1) (.cons (.int 0) .nil))) .nil))))) (.cons (.tup (.cons (.str "tree") (.cons (.str "a") (.cons (.int 0) (.cons (.str "b") .nil))))) (.cons (.tup (.cons (.str "tree") (.cons (.str "a") (.cons (.int 0) (.cons (.tup (.cons (.str "b") (.cons (.str "c") .nil))) .nil))))) .nil))))))
 (.seq (.asg 1 (.bin .Add (.var 1) (.lst (.cons (.tup (.cons (.str "tree") (.cons (.str "a") (.cons (.int 0) (.cons (.tup (.cons (.tup .nil) (.cons (.tup .nil) .nil))) .nil))))) (.cons (.tup (.cons (.str "tree") (.cons (.int 0) (.cons (.str "a") (.cons (.tup .nil) .nil))))) (.cons (.tup (.cons (.tup .nil) (.cons (.tup .nil) .nil))) (.cons (.tup (.cons .non (.cons (.str "a") (.cons (.str "b") (.cons (.int 0) .nil))))) .nil)))))))
 (.seq (.asg 3 (.lst (.cons (.comp [2] (.nm 2) (.seq (.var 0)) .no (.call "is_edit" (.cons (.var 2) .nil))) (.cons (.comp [2] (.nm 2) (.seq (.var 1)) .no (.call "is_edit" (.cons (.var 2) .nil))) .nil))))
 (.seq (.app 3 (.comp [2] (.nm 2) (.seq (.bin .Add (.var 0) (.var 1))) .no (.call "_law_fine" (.cons (.var 2) .nil))))
 (.seq (.asg 4 (.lst (.cons (.bin .Mult (.lst (.cons (.bl true) .nil)) (.blt .len (.cons (.var 0) .nil))) (.cons (.bin .Mult (.lst (.cons (.bl false) .nil)) (.blt .len (.cons (.var 1) .nil))) (.cons (.bin .Add (.bin .Mult (.lst (.cons (.bl true) .nil)) (.blt .len (.cons (.var 0) .nil))) (.bin .Mult (.lst (.cons (.bl false) .nil)) (.blt .len (.cons (.var 1) .nil)))) .nil)))))
 (.seq (.asg 3 (.bin .Add (.var 3) (.lst (.cons (.comp [2] (.nm 2) (.seq (.var 0)) .no (.call "is_edit" (.cons (.blt .list (.cons (.var 2) .nil)) .nil))) (.cons (.callk "is_edit" 0 ["thing"] .nil (.cons (.sub (.var 0) (.int 0)) .nil)) .nil)))))
 (.seq (.ret (.call "_law_same" (.cons (.var 3) (.cons (.bin .Add (.var 4) (.lst (.cons (.bin .Mult (.lst (.cons (.bl false) .nil)) (.blt .len (.cons (.var 0) .nil))) (.cons (.bl true) .nil)))) .nil))))
 .nil)))))))))))))))))))))))))))))))), []⟩
def tab : List (Str × FD) := (("law" : Str), d_law) :: (("_law_right" : Str), d__law_right) :: (("_law_fine" : Str), d__law_fine) :: (("_law_tree" : Str), d__law_tree) :: (("_law_name" : Str), d__law_name) :: (("_law_count" : Str), d__law_count) :: (("_law_mask" : Str), d__law_mask) :: (("_law_home" : Str), d__law_home) :: (("is_edit" : Str), d_is_edit) :: (("is_shaped_tree" : Str), d_is_shaped_tree) :: (("is_name" : Str), d_is_name) :: (("is_count" : Str), d_is_count) :: (("is_number" : Str), d_is_number) :: (("is_mask" : Str), d_is_mask) :: (("is_rising" : Str), d_is_rising) :: (("is_name_set" : Str), d_is_name_set) :: (("is_home" : Str), d_is_home) :: (("_law_same" : Str), d__law_same) :: (("_law_spoilt" : Str), d__law_spoilt) :: (("_law_of" : Str), d__law_of) :: (("_law_take" : Str), d__law_take) :: (("_law_good" : Str), d__law_good) :: (("_law_box" : Str), d__law_box) :: (("_law_cells" : Str), d__law_cells) :: (("_law_by_hand_right" : Str), d__law_by_hand_right) :: []
def T (f : Str) : Option FD := tab.lookup f
def cst (x : Str) : Option PV := ([("LETTERS", .str "abcdefghijklmnopqrstuvwxyz"), ("MOST_LETTERS", .int 8), ("PAIR", .int 2), ("TRIPLE", .int 3), ("SEAT", .str "seat"), ("CELLS", .str "cells"), ("PUT_WAIT", .str "put wait"), ("DROP_WAIT", .str "drop wait"), ("EXCHANGE", .str "exchange"), ("MOVE", .str "move"), ("HOME", .str "home"), ("MASK", .str "mask"), ("TREE", .str "tree"), ("PUT_PAIR", .str "put pair"), ("DROP_PAIR", .str "drop pair"), ("WAIT_WORDS", .ktp [.str "put wait", .str "drop wait"]), ("PAIR_WORDS", .ktp [.str "put pair", .str "drop pair"])] : List (Str × PV)).lookup x
def exf (x : Str) : Option Str := ( ([] : List (Str × Str))).lookup x
def und (x y : Str) : Bool := ( ([] : List (Str × Str))).contains (x, y)
def exq (x : Str) : Option Str := ( ([] : List (Str × Str))).lookup x
def ex0 (x : Str) : Option Str := ( ([] : List (Str × Str))).lookup x
def askL : List Str :=  []
def ownL : List Str :=  []
def icl (x : Str) : Bool := askL.contains x
def isxT : List (Str × Str × Bool) :=  []
def isx (d c : Str) : Option Bool := (isxT.find? fun t => t.1 == d && t.2.1 == c).map fun t => t.2.2
def md : ModT := ⟨cst, exf, exq, ex0, icl, isx, und⟩
def xb (K : PySem.W.Frag) : Bool := true && He.tupB K "WAIT_WORDS" [.str "put wait", .str "drop wait"] && He.tupB K "PAIR_WORDS" [.str "put pair", .str "drop pair"] && isxT.all fun t => isxB K ownL t.1 t.2.1 t.2.2
theorem c_law : chkS d_law.N (defScope (top 45)) d_law.body (defBody (top 45)) = true := by decide +kernel
theorem s_law : FnScope d_law.N ["_law_script"] (defScope (top 45)) := ⟨rfl, rfl, rfl, by decide +kernel, rfl, by decide +kernel, by decide +kernel⟩
theorem b_law (kV doc pm : Value) (an : Option Addr) (cdv ct : Value) (us : List Value) (hl : us.length = 1) : bindArgs (PySem.W.fnOf "law" "law" (defArgs (top 45)) (defBody (top 45)) (defScope (top 45)) .none kV doc pm an cdv ct) ⟨us, []⟩ = pure (List.zip (["_law_script"] : List Str) us) := match us, hl with | [_], _ => rfl
def h_law : He.DefD := ⟨("law", none), "law", "law", defArgs (top 45), defBody (top 45), defScope (top 45), [], []⟩
theorem c__law_right : chkS d__law_right.N (defScope (top 44)) d__law_right.body (defBody (top 44)) = true := by decide +kernel
theorem s__law_right : FnScope d__law_right.N ["_law_box_here"] (defScope (top 44)) := ⟨rfl, rfl, rfl, by decide +kernel, rfl, by decide +kernel, by decide +kernel⟩
theorem b__law_right (kV doc pm : Value) (an : Option Addr) (cdv ct : Value) (us : List Value) (hl : us.length = 1) : bindArgs (PySem.W.fnOf "_law_right" "_law_right" (defArgs (top 44)) (defBody (top 44)) (defScope (top 44)) .none kV doc pm an cdv ct) ⟨us, []⟩ = pure (List.zip (["_law_box_here"] : List Str) us) := match us, hl with | [_], _ => rfl
def h__law_right : He.DefD := ⟨("_law_right", none), "_law_right", "_law_right", defArgs (top 44), defBody (top 44), defScope (top 44), [], []⟩
theorem c__law_fine : chkS d__law_fine.N (defScope (top 40)) d__law_fine.body (defBody (top 40)) = true := by decide +kernel
theorem s__law_fine : FnScope d__law_fine.N ["_law_matter"] (defScope (top 40)) := ⟨rfl, rfl, rfl, by decide +kernel, rfl, by decide +kernel, by decide +kernel⟩
theorem b__law_fine (kV doc pm : Value) (an : Option Addr) (cdv ct : Value) (us : List Value) (hl : us.length = 1) : bindArgs (PySem.W.fnOf "_law_fine" "_law_fine" (defArgs (top 40)) (defBody (top 40)) (defScope (top 40)) .none kV doc pm an cdv ct) ⟨us, []⟩ = pure (List.zip (["_law_matter"] : List Str) us) := match us, hl with | [_], _ => rfl
def h__law_fine : He.DefD := ⟨("_law_fine", none), "_law_fine", "_law_fine", defArgs (top 40), defBody (top 40), defScope (top 40), [], []⟩
theorem c__law_tree : chkS d__law_tree.N (defScope (top 37)) d__law_tree.body (defBody (top 37)) = true := by decide +kernel
theorem s__law_tree : FnScope d__law_tree.N ["_law_matter"] (defScope (top 37)) := ⟨rfl, rfl, rfl, by decide +kernel, rfl, by decide +kernel, by decide +kernel⟩
theorem b__law_tree (kV doc pm : Value) (an : Option Addr) (cdv ct : Value) (us : List Value) (hl : us.length = 1) : bindArgs (PySem.W.fnOf "_law_tree" "_law_tree" (defArgs (top 37)) (defBody (top 37)) (defScope (top 37)) .none kV doc pm an cdv ct) ⟨us, []⟩ = pure (List.zip (["_law_matter"] : List Str) us) := match us, hl with | [_], _ => rfl
def h__law_tree : He.DefD := ⟨("_law_tree", none), "_law_tree", "_law_tree", defArgs (top 37), defBody (top 37), defScope (top 37), [], []⟩
theorem c__law_name : chkS d__law_name.N (defScope (top 35)) d__law_name.body (defBody (top 35)) = true := by decide +kernel
theorem s__law_name : FnScope d__law_name.N ["_law_matter"] (defScope (top 35)) := ⟨rfl, rfl, rfl, by decide +kernel, rfl, by decide +kernel, by decide +kernel⟩
theorem b__law_name (kV doc pm : Value) (an : Option Addr) (cdv ct : Value) (us : List Value) (hl : us.length = 1) : bindArgs (PySem.W.fnOf "_law_name" "_law_name" (defArgs (top 35)) (defBody (top 35)) (defScope (top 35)) .none kV doc pm an cdv ct) ⟨us, []⟩ = pure (List.zip (["_law_matter"] : List Str) us) := match us, hl with | [_], _ => rfl
def h__law_name : He.DefD := ⟨("_law_name", none), "_law_name", "_law_name", defArgs (top 35), defBody (top 35), defScope (top 35), [], []⟩
theorem c__law_count : chkS d__law_count.N (defScope (top 36)) d__law_count.body (defBody (top 36)) = true := by decide +kernel
theorem s__law_count : FnScope d__law_count.N ["_law_matter"] (defScope (top 36)) := ⟨rfl, rfl, rfl, by decide +kernel, rfl, by decide +kernel, by decide +kernel⟩
theorem b__law_count (kV doc pm : Value) (an : Option Addr) (cdv ct : Value) (us : List Value) (hl : us.length = 1) : bindArgs (PySem.W.fnOf "_law_count" "_law_count" (defArgs (top 36)) (defBody (top 36)) (defScope (top 36)) .none kV doc pm an cdv ct) ⟨us, []⟩ = pure (List.zip (["_law_matter"] : List Str) us) := match us, hl with | [_], _ => rfl
def h__law_count : He.DefD := ⟨("_law_count", none), "_law_count", "_law_count", defArgs (top 36), defBody (top 36), defScope (top 36), [], []⟩
theorem c__law_mask : chkS d__law_mask.N (defScope (top 39)) d__law_mask.body (defBody (top 39)) = true := by decide +kernel
theorem s__law_mask : FnScope d__law_mask.N ["_law_matter"] (defScope (top 39)) := ⟨rfl, rfl, rfl, by decide +kernel, rfl, by decide +kernel, by decide +kernel⟩
theorem b__law_mask (kV doc pm : Value) (an : Option Addr) (cdv ct : Value) (us : List Value) (hl : us.length = 1) : bindArgs (PySem.W.fnOf "_law_mask" "_law_mask" (defArgs (top 39)) (defBody (top 39)) (defScope (top 39)) .none kV doc pm an cdv ct) ⟨us, []⟩ = pure (List.zip (["_law_matter"] : List Str) us) := match us, hl with | [_], _ => rfl
def h__law_mask : He.DefD := ⟨("_law_mask", none), "_law_mask", "_law_mask", defArgs (top 39), defBody (top 39), defScope (top 39), [], []⟩
theorem c__law_home : chkS d__law_home.N (defScope (top 38)) d__law_home.body (defBody (top 38)) = true := by decide +kernel
theorem s__law_home : FnScope d__law_home.N ["_law_matter"] (defScope (top 38)) := ⟨rfl, rfl, rfl, by decide +kernel, rfl, by decide +kernel, by decide +kernel⟩
theorem b__law_home (kV doc pm : Value) (an : Option Addr) (cdv ct : Value) (us : List Value) (hl : us.length = 1) : bindArgs (PySem.W.fnOf "_law_home" "_law_home" (defArgs (top 38)) (defBody (top 38)) (defScope (top 38)) .none kV doc pm an cdv ct) ⟨us, []⟩ = pure (List.zip (["_law_matter"] : List Str) us) := match us, hl with | [_], _ => rfl
def h__law_home : He.DefD := ⟨("_law_home", none), "_law_home", "_law_home", defArgs (top 38), defBody (top 38), defScope (top 38), [], []⟩
theorem c_is_edit : chkS d_is_edit.N (defScope (top 28)) d_is_edit.body (defBody (top 28)) = true := by decide +kernel
theorem s_is_edit : FnScope d_is_edit.N ["thing"] (defScope (top 28)) := ⟨rfl, rfl, rfl, by decide +kernel, rfl, by decide +kernel, by decide +kernel⟩
theorem b_is_edit (kV doc pm : Value) (an : Option Addr) (cdv ct : Value) (us : List Value) (hl : us.length = 1) : bindArgs (PySem.W.fnOf "is_edit" "is_edit" (defArgs (top 28)) (defBody (top 28)) (defScope (top 28)) .none kV doc pm an cdv ct) ⟨us, []⟩ = pure (List.zip (["thing"] : List Str) us) := match us, hl with | [_], _ => rfl
theorem k_is_edit_0 (kV doc pm : Value) (an : Option Addr) (cdv ct : Value) (us ws : List Value) (hl : us.length = 0) (hw : ws.length = 1) : bindArgs (PySem.W.fnOf "is_edit" "is_edit" (defArgs (top 28)) (defBody (top 28)) (defScope (top 28)) .none kV doc pm an cdv ct) ⟨us, List.zip (["thing"] : List Str) ws⟩ = pure (List.zip (["thing"] : List Str) (pick (us ++ ws) [0])) := match us, hl, ws, hw with | [], _, [_], _ => rfl
def h_is_edit : He.DefD := ⟨("is_edit", none), "is_edit", "is_edit", defArgs (top 28), defBody (top 28), defScope (top 28), [], []⟩
theorem c_is_shaped_tree : chkS d_is_shaped_tree.N (defScope (top 13)) d_is_shaped_tree.body (defBody (top 13)) = true := by decide +kernel
theorem s_is_shaped_tree : FnScope d_is_shaped_tree.N ["thing"] (defScope (top 13)) := ⟨rfl, rfl, rfl, by decide +kernel, rfl, by decide +kernel, by decide +kernel⟩
theorem b_is_shaped_tree (kV doc pm : Value) (an : Option Addr) (cdv ct : Value) (us : List Value) (hl : us.length = 1) : bindArgs (PySem.W.fnOf "is_shaped_tree" "is_shaped_tree" (defArgs (top 13)) (defBody (top 13)) (defScope (top 13)) .none kV doc pm an cdv ct) ⟨us, []⟩ = pure (List.zip (["thing"] : List Str) us) := match us, hl with | [_], _ => rfl
def h_is_shaped_tree : He.DefD := ⟨("is_shaped_tree", none), "is_shaped_tree", "is_shaped_tree", defArgs (top 13), defBody (top 13), defScope (top 13), [], []⟩
theorem c_is_name : chkS d_is_name.N (defScope (top 5)) d_is_name.body (defBody (top 5)) = true := by decide +kernel
theorem s_is_name : FnScope d_is_name.N ["value"] (defScope (top 5)) := ⟨rfl, rfl, rfl, by decide +kernel, rfl, by decide +kernel, by decide +kernel⟩
theorem b_is_name (kV doc pm : Value) (an : Option Addr) (cdv ct : Value) (us : List Value) (hl : us.length = 1) : bindArgs (PySem.W.fnOf "is_name" "is_name" (defArgs (top 5)) (defBody (top 5)) (defScope (top 5)) .none kV doc pm an cdv ct) ⟨us, []⟩ = pure (List.zip (["value"] : List Str) us) := match us, hl with | [_], _ => rfl
def h_is_name : He.DefD := ⟨("is_name", none), "is_name", "is_name", defArgs (top 5), defBody (top 5), defScope (top 5), [], []⟩
theorem c_is_count : chkS d_is_count.N (defScope (top 4)) d_is_count.body (defBody (top 4)) = true := by decide +kernel
theorem s_is_count : FnScope d_is_count.N ["value"] (defScope (top 4)) := ⟨rfl, rfl, rfl, by decide +kernel, rfl, by decide +kernel, by decide +kernel⟩
theorem b_is_count (kV doc pm : Value) (an : Option Addr) (cdv ct : Value) (us : List Value) (hl : us.length = 1) : bindArgs (PySem.W.fnOf "is_count" "is_count" (defArgs (top 4)) (defBody (top 4)) (defScope (top 4)) .none kV doc pm an cdv ct) ⟨us, []⟩ = pure (List.zip (["value"] : List Str) us) := match us, hl with | [_], _ => rfl
def h_is_count : He.DefD := ⟨("is_count", none), "is_count", "is_count", defArgs (top 4), defBody (top 4), defScope (top 4), [], []⟩
theorem c_is_number : chkS d_is_number.N (defScope (top 3)) d_is_number.body (defBody (top 3)) = true := by decide +kernel
theorem s_is_number : FnScope d_is_number.N ["value"] (defScope (top 3)) := ⟨rfl, rfl, rfl, by decide +kernel, rfl, by decide +kernel, by decide +kernel⟩
theorem b_is_number (kV doc pm : Value) (an : Option Addr) (cdv ct : Value) (us : List Value) (hl : us.length = 1) : bindArgs (PySem.W.fnOf "is_number" "is_number" (defArgs (top 3)) (defBody (top 3)) (defScope (top 3)) .none kV doc pm an cdv ct) ⟨us, []⟩ = pure (List.zip (["value"] : List Str) us) := match us, hl with | [_], _ => rfl
def h_is_number : He.DefD := ⟨("is_number", none), "is_number", "is_number", defArgs (top 3), defBody (top 3), defScope (top 3), [], []⟩
theorem c_is_mask : chkS d_is_mask.N (defScope (top 14)) d_is_mask.body (defBody (top 14)) = true := by decide +kernel
theorem s_is_mask : FnScope d_is_mask.N ["thing"] (defScope (top 14)) := ⟨rfl, rfl, rfl, by decide +kernel, rfl, by decide +kernel, by decide +kernel⟩
theorem b_is_mask (kV doc pm : Value) (an : Option Addr) (cdv ct : Value) (us : List Value) (hl : us.length = 1) : bindArgs (PySem.W.fnOf "is_mask" "is_mask" (defArgs (top 14)) (defBody (top 14)) (defScope (top 14)) .none kV doc pm an cdv ct) ⟨us, []⟩ = pure (List.zip (["thing"] : List Str) us) := match us, hl with | [_], _ => rfl
def h_is_mask : He.DefD := ⟨("is_mask", none), "is_mask", "is_mask", defArgs (top 14), defBody (top 14), defScope (top 14), [], []⟩
theorem c_is_rising : chkS d_is_rising.N (defScope (top 6)) d_is_rising.body (defBody (top 6)) = true := by decide +kernel
theorem s_is_rising : FnScope d_is_rising.N ["row"] (defScope (top 6)) := ⟨rfl, rfl, rfl, by decide +kernel, rfl, by decide +kernel, by decide +kernel⟩
theorem b_is_rising (kV doc pm : Value) (an : Option Addr) (cdv ct : Value) (us : List Value) (hl : us.length = 1) : bindArgs (PySem.W.fnOf "is_rising" "is_rising" (defArgs (top 6)) (defBody (top 6)) (defScope (top 6)) .none kV doc pm an cdv ct) ⟨us, []⟩ = pure (List.zip (["row"] : List Str) us) := match us, hl with | [_], _ => rfl
def h_is_rising : He.DefD := ⟨("is_rising", none), "is_rising", "is_rising", defArgs (top 6), defBody (top 6), defScope (top 6), [], []⟩
theorem c_is_name_set : chkS d_is_name_set.N (defScope (top 7)) d_is_name_set.body (defBody (top 7)) = true := by decide +kernel
theorem s_is_name_set : FnScope d_is_name_set.N ["value"] (defScope (top 7)) := ⟨rfl, rfl, rfl, by decide +kernel, rfl, by decide +kernel, by decide +kernel⟩
theorem b_is_name_set (kV doc pm : Value) (an : Option Addr) (cdv ct : Value) (us : List Value) (hl : us.length = 1) : bindArgs (PySem.W.fnOf "is_name_set" "is_name_set" (defArgs (top 7)) (defBody (top 7)) (defScope (top 7)) .none kV doc pm an cdv ct) ⟨us, []⟩ = pure (List.zip (["value"] : List Str) us) := match us, hl with | [_], _ => rfl
def h_is_name_set : He.DefD := ⟨("is_name_set", none), "is_name_set", "is_name_set", defArgs (top 7), defBody (top 7), defScope (top 7), [], []⟩
theorem c_is_home : chkS d_is_home.N (defScope (top 15)) d_is_home.body (defBody (top 15)) = true := by decide +kernel
theorem s_is_home : FnScope d_is_home.N ["thing"] (defScope (top 15)) := ⟨rfl, rfl, rfl, by decide +kernel, rfl, by decide +kernel, by decide +kernel⟩
theorem b_is_home (kV doc pm : Value) (an : Option Addr) (cdv ct : Value) (us : List Value) (hl : us.length = 1) : bindArgs (PySem.W.fnOf "is_home" "is_home" (defArgs (top 15)) (defBody (top 15)) (defScope (top 15)) .none kV doc pm an cdv ct) ⟨us, []⟩ = pure (List.zip (["thing"] : List Str) us) := match us, hl with | [_], _ => rfl
def h_is_home : He.DefD := ⟨("is_home", none), "is_home", "is_home", defArgs (top 15), defBody (top 15), defScope (top 15), [], []⟩
theorem c__law_same : chkS d__law_same.N (defScope (top 34)) d__law_same.body (defBody (top 34)) = true := by decide +kernel
theorem s__law_same : FnScope d__law_same.N ["_law_got", "_law_due"] (defScope (top 34)) := ⟨rfl, rfl, rfl, by decide +kernel, rfl, by decide +kernel, by decide +kernel⟩
theorem b__law_same (kV doc pm : Value) (an : Option Addr) (cdv ct : Value) (us : List Value) (hl : us.length = 2) : bindArgs (PySem.W.fnOf "_law_same" "_law_same" (defArgs (top 34)) (defBody (top 34)) (defScope (top 34)) .none kV doc pm an cdv ct) ⟨us, []⟩ = pure (List.zip (["_law_got", "_law_due"] : List Str) us) := match us, hl with | [_, _], _ => rfl
def h__law_same : He.DefD := ⟨("_law_same", none), "_law_same", "_law_same", defArgs (top 34), defBody (top 34), defScope (top 34), [], []⟩
theorem c__law_spoilt : chkS d__law_spoilt.N (defScope (top 43)) d__law_spoilt.body (defBody (top 43)) = true := by decide +kernel
theorem s__law_spoilt : FnScope d__law_spoilt.N ["_law_box_here", "_law_own"] (defScope (top 43)) := ⟨rfl, rfl, rfl, by decide +kernel, rfl, by decide +kernel, by decide +kernel⟩
theorem b__law_spoilt (kV doc pm : Value) (an : Option Addr) (cdv ct : Value) (us : List Value) (hl : us.length = 2) : bindArgs (PySem.W.fnOf "_law_spoilt" "_law_spoilt" (defArgs (top 43)) (defBody (top 43)) (defScope (top 43)) .none kV doc pm an cdv ct) ⟨us, []⟩ = pure (List.zip (["_law_box_here", "_law_own"] : List Str) us) := match us, hl with | [_, _], _ => rfl
def h__law_spoilt : He.DefD := ⟨("_law_spoilt", none), "_law_spoilt", "_law_spoilt", defArgs (top 43), defBody (top 43), defScope (top 43), [], []⟩
theorem c__law_of : chkS d__law_of.N (defScope (top 33)) d__law_of.body (defBody (top 33)) = true := by decide +kernel
theorem s__law_of : FnScope d__law_of.N ["_law_box_here", "_law_goods_so"] (defScope (top 33)) := ⟨rfl, rfl, rfl, by decide +kernel, rfl, by decide +kernel, by decide +kernel⟩
theorem b__law_of (kV doc pm : Value) (an : Option Addr) (cdv ct : Value) (us : List Value) (hl : us.length = 2) : bindArgs (PySem.W.fnOf "_law_of" "_law_of" (defArgs (top 33)) (defBody (top 33)) (defScope (top 33)) .none kV doc pm an cdv ct) ⟨us, []⟩ = pure (List.zip (["_law_box_here", "_law_goods_so"] : List Str) us) := match us, hl with | [_, _], _ => rfl
def h__law_of : He.DefD := ⟨("_law_of", none), "_law_of", "_law_of", defArgs (top 33), defBody (top 33), defScope (top 33), [], []⟩
theorem c__law_take : chkS d__law_take.N (defScope (top 31)) d__law_take.body (defBody (top 31)) = true := by decide +kernel
theorem s__law_take : FnScope d__law_take.N ["_law_box_here", "_law_top_so"] (defScope (top 31)) := ⟨rfl, rfl, rfl, by decide +kernel, rfl, by decide +kernel, by decide +kernel⟩
theorem b__law_take (kV doc pm : Value) (an : Option Addr) (cdv ct : Value) (us : List Value) (hl : us.length = 2) : bindArgs (PySem.W.fnOf "_law_take" "_law_take" (defArgs (top 31)) (defBody (top 31)) (defScope (top 31)) .none kV doc pm an cdv ct) ⟨us, []⟩ = pure (List.zip (["_law_box_here", "_law_top_so"] : List Str) us) := match us, hl with | [_, _], _ => rfl
def h__law_take : He.DefD := ⟨("_law_take", none), "_law_take", "_law_take", defArgs (top 31), defBody (top 31), defScope (top 31), [], []⟩
theorem c__law_good : chkS d__law_good.N (defScope (top 41)) d__law_good.body (defBody (top 41)) = true := by decide +kernel
theorem s__law_good : FnScope d__law_good.N [] (defScope (top 41)) := ⟨rfl, rfl, rfl, by decide +kernel, rfl, by decide +kernel, by decide +kernel⟩
theorem b__law_good (kV doc pm : Value) (an : Option Addr) (cdv ct : Value) (us : List Value) (hl : us.length = 0) : bindArgs (PySem.W.fnOf "_law_good" "_law_good" (defArgs (top 41)) (defBody (top 41)) (defScope (top 41)) .none kV doc pm an cdv ct) ⟨us, []⟩ = pure (List.zip ([] : List Str) us) := match us, hl with | [], _ => rfl
def h__law_good : He.DefD := ⟨("_law_good", none), "_law_good", "_law_good", defArgs (top 41), defBody (top 41), defScope (top 41), [], []⟩
theorem c__law_box : chkS d__law_box.N (defScope (top 30)) d__law_box.body (defBody (top 30)) = true := by decide +kernel
theorem s__law_box : FnScope d__law_box.N ["_law_script", "_law_k"] (defScope (top 30)) := ⟨rfl, rfl, rfl, by decide +kernel, rfl, by decide +kernel, by decide +kernel⟩
theorem b__law_box (kV doc pm : Value) (an : Option Addr) (cdv ct : Value) (us : List Value) (hl : us.length = 2) : bindArgs (PySem.W.fnOf "_law_box" "_law_box" (defArgs (top 30)) (defBody (top 30)) (defScope (top 30)) .none kV doc pm an cdv ct) ⟨us, []⟩ = pure (List.zip (["_law_script", "_law_k"] : List Str) us) := match us, hl with | [_, _], _ => rfl
def h__law_box : He.DefD := ⟨("_law_box", none), "_law_box", "_law_box", defArgs (top 30), defBody (top 30), defScope (top 30), [], []⟩
theorem c__law_cells : chkS d__law_cells.N (defScope (top 32)) d__law_cells.body (defBody (top 32)) = true := by decide +kernel
theorem s__law_cells : FnScope d__law_cells.N ["_law_script", "_law_top_so"] (defScope (top 32)) := ⟨rfl, rfl, rfl, by decide +kernel, rfl, by decide +kernel, by decide +kernel⟩
theorem b__law_cells (kV doc pm : Value) (an : Option Addr) (cdv ct : Value) (us : List Value) (hl : us.length = 2) : bindArgs (PySem.W.fnOf "_law_cells" "_law_cells" (defArgs (top 32)) (defBody (top 32)) (defScope (top 32)) .none kV doc pm an cdv ct) ⟨us, []⟩ = pure (List.zip (["_law_script", "_law_top_so"] : List Str) us) := match us, hl with | [_, _], _ => rfl
def h__law_cells : He.DefD := ⟨("_law_cells", none), "_law_cells", "_law_cells", defArgs (top 32), defBody (top 32), defScope (top 32), [], []⟩
theorem c__law_by_hand_right : chkS d__law_by_hand_right.N (defScope (top 42)) d__law_by_hand_right.body (defBody (top 42)) = true := by decide +kernel
theorem s__law_by_hand_right : FnScope d__law_by_hand_right.N [] (defScope (top 42)) := ⟨rfl, rfl, rfl, by decide +kernel, rfl, by decide +kernel, by decide +kernel⟩
theorem b__law_by_hand_right (kV doc pm : Value) (an : Option Addr) (cdv ct : Value) (us : List Value) (hl : us.length = 0) : bindArgs (PySem.W.fnOf "_law_by_hand_right" "_law_by_hand_right" (defArgs (top 42)) (defBody (top 42)) (defScope (top 42)) .none kV doc pm an cdv ct) ⟨us, []⟩ = pure (List.zip ([] : List Str) us) := match us, hl with | [], _ => rfl
def h__law_by_hand_right : He.DefD := ⟨("_law_by_hand_right", none), "_law_by_hand_right", "_law_by_hand_right", defArgs (top 42), defBody (top 42), defScope (top 42), [], []⟩
def fn : List He.DefD := h_law :: h__law_right :: h__law_fine :: h__law_tree :: h__law_name :: h__law_count :: h__law_mask :: h__law_home :: h_is_edit :: h_is_shaped_tree :: h_is_name :: h_is_count :: h_is_number :: h_is_mask :: h_is_rising :: h_is_name_set :: h_is_home :: h__law_same :: h__law_spoilt :: h__law_of :: h__law_take :: h__law_good :: h__law_box :: h__law_cells :: h__law_by_hand_right :: []
def fa : List He.Fa := .glo "law" :: .glo "_law_right" :: .glo "_law_fine" :: .glo "_law_tree" :: .glo "_law_name" :: .glo "_law_count" :: .glo "_law_mask" :: .glo "_law_home" :: .glo "is_edit" :: .glo "is_shaped_tree" :: .glo "is_name" :: .glo "is_count" :: .glo "is_number" :: .glo "is_mask" :: .glo "is_rising" :: .glo "is_name_set" :: .glo "is_home" :: .glo "_law_same" :: .glo "_law_spoilt" :: .glo "_law_of" :: .glo "_law_take" :: .glo "_law_good" :: .glo "_law_box" :: .glo "_law_cells" :: .glo "_law_by_hand_right" :: .free "len" :: .free "abs" :: .free "max" :: .free "min" :: .free "int" :: .free "str" :: .free "all" :: .free "any" :: .free "list" :: .free "tuple" :: .free "isinstance" :: .free "sum" :: .free "sorted" :: .free "set" :: .free "dict" :: .free "bool" :: .free "range" :: .free "enumerate" :: .free "zip" :: .str "LETTERS" "abcdefghijklmnopqrstuvwxyz" :: .int "MOST_LETTERS" 8 :: .int "PAIR" 2 :: .int "TRIPLE" 3 :: .str "SEAT" "seat" :: .str "CELLS" "cells" :: .str "PUT_WAIT" "put wait" :: .str "DROP_WAIT" "drop wait" :: .str "EXCHANGE" "exchange" :: .str "MOVE" "move" :: .str "HOME" "home" :: .str "MASK" "mask" :: .str "TREE" "tree" :: .str "PUT_PAIR" "put pair" :: .str "DROP_PAIR" "drop pair" :: .glo "WAIT_WORDS" :: .glo "PAIR_WORDS" :: []
section
variable {K : PySem.W.Frag} {mg : Str → Option Value} {h : Heap}
theorem f_law (X : K.In h) (G : h.Ns mainGlobals mg) (c : He.SaysD fa fn K) : FnFact K mg "law" d_law := by
  obtain ⟨fd, F⟩ := c.def_ 0 (d := h_law) rfl
  exact ⟨_, fd, ["_law_script"], _, _, _, _, _, F, s_law, He.glo_ok X G (c.fact 0 (f := .glo "law") rfl), FunD.bindsN F b_law, rfl, c_law, fun n ks pm hk => by cases hk⟩
theorem f__law_right (X : K.In h) (G : h.Ns mainGlobals mg) (c : He.SaysD fa fn K) : FnFact K mg "_law_right" d__law_right := by
  obtain ⟨fd, F⟩ := c.def_ 1 (d := h__law_right) rfl
  exact ⟨_, fd, ["_law_box_here"], _, _, _, _, _, F, s__law_right, He.glo_ok X G (c.fact 1 (f := .glo "_law_right") rfl), FunD.bindsN F b__law_right, rfl, c__law_right, fun n ks pm hk => by cases hk⟩
theorem f__law_fine (X : K.In h) (G : h.Ns mainGlobals mg) (c : He.SaysD fa fn K) : FnFact K mg "_law_fine" d__law_fine := by
  obtain ⟨fd, F⟩ := c.def_ 2 (d := h__law_fine) rfl
  exact ⟨_, fd, ["_law_matter"], _, _, _, _, _, F, s__law_fine, He.glo_ok X G (c.fact 2 (f := .glo "_law_fine") rfl), FunD.bindsN F b__law_fine, rfl, c__law_fine, fun n ks pm hk => by cases hk⟩
theorem f__law_tree (X : K.In h) (G : h.Ns mainGlobals mg) (c : He.SaysD fa fn K) : FnFact K mg "_law_tree" d__law_tree := by
  obtain ⟨fd, F⟩ := c.def_ 3 (d := h__law_tree) rfl
  exact ⟨_, fd, ["_law_matter"], _, _, _, _, _, F, s__law_tree, He.glo_ok X G (c.fact 3 (f := .glo "_law_tree") rfl), FunD.bindsN F b__law_tree, rfl, c__law_tree, fun n ks pm hk => by cases hk⟩
theorem f__law_name (X : K.In h) (G : h.Ns mainGlobals mg) (c : He.SaysD fa fn K) : FnFact K mg "_law_name" d__law_name := by
  obtain ⟨fd, F⟩ := c.def_ 4 (d := h__law_name) rfl
  exact ⟨_, fd, ["_law_matter"], _, _, _, _, _, F, s__law_name, He.glo_ok X G (c.fact 4 (f := .glo "_law_name") rfl), FunD.bindsN F b__law_name, rfl, c__law_name, fun n ks pm hk => by cases hk⟩
theorem f__law_count (X : K.In h) (G : h.Ns mainGlobals mg) (c : He.SaysD fa fn K) : FnFact K mg "_law_count" d__law_count := by
  obtain ⟨fd, F⟩ := c.def_ 5 (d := h__law_count) rfl
  exact ⟨_, fd, ["_law_matter"], _, _, _, _, _, F, s__law_count, He.glo_ok X G (c.fact 5 (f := .glo "_law_count") rfl), FunD.bindsN F b__law_count, rfl, c__law_count, fun n ks pm hk => by cases hk⟩
theorem f__law_mask (X : K.In h) (G : h.Ns mainGlobals mg) (c : He.SaysD fa fn K) : FnFact K mg "_law_mask" d__law_mask := by
  obtain ⟨fd, F⟩ := c.def_ 6 (d := h__law_mask) rfl
  exact ⟨_, fd, ["_law_matter"], _, _, _, _, _, F, s__law_mask, He.glo_ok X G (c.fact 6 (f := .glo "_law_mask") rfl), FunD.bindsN F b__law_mask, rfl, c__law_mask, fun n ks pm hk => by cases hk⟩
theorem f__law_home (X : K.In h) (G : h.Ns mainGlobals mg) (c : He.SaysD fa fn K) : FnFact K mg "_law_home" d__law_home := by
  obtain ⟨fd, F⟩ := c.def_ 7 (d := h__law_home) rfl
  exact ⟨_, fd, ["_law_matter"], _, _, _, _, _, F, s__law_home, He.glo_ok X G (c.fact 7 (f := .glo "_law_home") rfl), FunD.bindsN F b__law_home, rfl, c__law_home, fun n ks pm hk => by cases hk⟩
theorem f_is_edit (X : K.In h) (G : h.Ns mainGlobals mg) (c : He.SaysD fa fn K) : FnFact K mg "is_edit" d_is_edit := by
  obtain ⟨fd, F⟩ := c.def_ 8 (d := h_is_edit) rfl
  refine ⟨_, fd, ["thing"], _, _, _, _, _, F, s_is_edit, He.glo_ok X G (c.fact 8 (f := .glo "is_edit") rfl), FunD.bindsN F b_is_edit, rfl, c_is_edit, fun n ks pm hk => ?_⟩
  have hk' := kwOf_mem hk
  simp only [d_is_edit, List.mem_cons, List.not_mem_nil, or_false, Prod.mk.injEq] at hk'
  rcases hk' with ⟨rfl, rfl, rfl⟩
  · exact kbn_of F (fun kV doc pm an cdv ct us ws hl hw => k_is_edit_0 kV doc pm an cdv ct us ws hl hw)
theorem f_is_shaped_tree (X : K.In h) (G : h.Ns mainGlobals mg) (c : He.SaysD fa fn K) : FnFact K mg "is_shaped_tree" d_is_shaped_tree := by
  obtain ⟨fd, F⟩ := c.def_ 9 (d := h_is_shaped_tree) rfl
  exact ⟨_, fd, ["thing"], _, _, _, _, _, F, s_is_shaped_tree, He.glo_ok X G (c.fact 9 (f := .glo "is_shaped_tree") rfl), FunD.bindsN F b_is_shaped_tree, rfl, c_is_shaped_tree, fun n ks pm hk => by cases hk⟩
theorem f_is_name (X : K.In h) (G : h.Ns mainGlobals mg) (c : He.SaysD fa fn K) : FnFact K mg "is_name" d_is_name := by
  obtain ⟨fd, F⟩ := c.def_ 10 (d := h_is_name) rfl
  exact ⟨_, fd, ["value"], _, _, _, _, _, F, s_is_name, He.glo_ok X G (c.fact 10 (f := .glo "is_name") rfl), FunD.bindsN F b_is_name, rfl, c_is_name, fun n ks pm hk => by cases hk⟩
theorem f_is_count (X : K.In h) (G : h.Ns mainGlobals mg) (c : He.SaysD fa fn K) : FnFact K mg "is_count" d_is_count := by
  obtain ⟨fd, F⟩ := c.def_ 11 (d := h_is_count) rfl
  exact ⟨_, fd, ["value"], _, _, _, _, _, F, s_is_count, He.glo_ok X G (c.fact 11 (f := .glo "is_count") rfl), FunD.bindsN F b_is_count, rfl, c_is_count, fun n ks pm hk => by cases hk⟩
theorem f_is_number (X : K.In h) (G : h.Ns mainGlobals mg) (c : He.SaysD fa fn K) : FnFact K mg "is_number" d_is_number := by
  obtain ⟨fd, F⟩ := c.def_ 12 (d := h_is_number) rfl
  exact ⟨_, fd, ["value"], _, _, _, _, _, F, s_is_number, He.glo_ok X G (c.fact 12 (f := .glo "is_number") rfl), FunD.bindsN F b_is_number, rfl, c_is_number, fun n ks pm hk => by cases hk⟩
theorem f_is_mask (X : K.In h) (G : h.Ns mainGlobals mg) (c : He.SaysD fa fn K) : FnFact K mg "is_mask" d_is_mask := by
  obtain ⟨fd, F⟩ := c.def_ 13 (d := h_is_mask) rfl
  exact ⟨_, fd, ["thing"], _, _, _, _, _, F, s_is_mask, He.glo_ok X G (c.fact 13 (f := .glo "is_mask") rfl), FunD.bindsN F b_is_mask, rfl, c_is_mask, fun n ks pm hk => by cases hk⟩
theorem f_is_rising (X : K.In h) (G : h.Ns mainGlobals mg) (c : He.SaysD fa fn K) : FnFact K mg "is_rising" d_is_rising := by
  obtain ⟨fd, F⟩ := c.def_ 14 (d := h_is_rising) rfl
  exact ⟨_, fd, ["row"], _, _, _, _, _, F, s_is_rising, He.glo_ok X G (c.fact 14 (f := .glo "is_rising") rfl), FunD.bindsN F b_is_rising, rfl, c_is_rising, fun n ks pm hk => by cases hk⟩
theorem f_is_name_set (X : K.In h) (G : h.Ns mainGlobals mg) (c : He.SaysD fa fn K) : FnFact K mg "is_name_set" d_is_name_set := by
  obtain ⟨fd, F⟩ := c.def_ 15 (d := h_is_name_set) rfl
  exact ⟨_, fd, ["value"], _, _, _, _, _, F, s_is_name_set, He.glo_ok X G (c.fact 15 (f := .glo "is_name_set") rfl), FunD.bindsN F b_is_name_set, rfl, c_is_name_set, fun n ks pm hk => by cases hk⟩
theorem f_is_home (X : K.In h) (G : h.Ns mainGlobals mg) (c : He.SaysD fa fn K) : FnFact K mg "is_home" d_is_home := by
  obtain ⟨fd, F⟩ := c.def_ 16 (d := h_is_home) rfl
  exact ⟨_, fd, ["thing"], _, _, _, _, _, F, s_is_home, He.glo_ok X G (c.fact 16 (f := .glo "is_home") rfl), FunD.bindsN F b_is_home, rfl, c_is_home, fun n ks pm hk => by cases hk⟩
theorem f__law_same (X : K.In h) (G : h.Ns mainGlobals mg) (c : He.SaysD fa fn K) : FnFact K mg "_law_same" d__law_same := by
  obtain ⟨fd, F⟩ := c.def_ 17 (d := h__law_same) rfl
  exact ⟨_, fd, ["_law_got", "_law_due"], _, _, _, _, _, F, s__law_same, He.glo_ok X G (c.fact 17 (f := .glo "_law_same") rfl), FunD.bindsN F b__law_same, rfl, c__law_same, fun n ks pm hk => by cases hk⟩
theorem f__law_spoilt (X : K.In h) (G : h.Ns mainGlobals mg) (c : He.SaysD fa fn K) : FnFact K mg "_law_spoilt" d__law_spoilt := by
  obtain ⟨fd, F⟩ := c.def_ 18 (d := h__law_spoilt) rfl
  exact ⟨_, fd, ["_law_box_here", "_law_own"], _, _, _, _, _, F, s__law_spoilt, He.glo_ok X G (c.fact 18 (f := .glo "_law_spoilt") rfl), FunD.bindsN F b__law_spoilt, rfl, c__law_spoilt, fun n ks pm hk => by cases hk⟩
theorem f__law_of (X : K.In h) (G : h.Ns mainGlobals mg) (c : He.SaysD fa fn K) : FnFact K mg "_law_of" d__law_of := by
  obtain ⟨fd, F⟩ := c.def_ 19 (d := h__law_of) rfl
  exact ⟨_, fd, ["_law_box_here", "_law_goods_so"], _, _, _, _, _, F, s__law_of, He.glo_ok X G (c.fact 19 (f := .glo "_law_of") rfl), FunD.bindsN F b__law_of, rfl, c__law_of, fun n ks pm hk => by cases hk⟩
theorem f__law_take (X : K.In h) (G : h.Ns mainGlobals mg) (c : He.SaysD fa fn K) : FnFact K mg "_law_take" d__law_take := by
  obtain ⟨fd, F⟩ := c.def_ 20 (d := h__law_take) rfl
  exact ⟨_, fd, ["_law_box_here", "_law_top_so"], _, _, _, _, _, F, s__law_take, He.glo_ok X G (c.fact 20 (f := .glo "_law_take") rfl), FunD.bindsN F b__law_take, rfl, c__law_take, fun n ks pm hk => by cases hk⟩
theorem f__law_good (X : K.In h) (G : h.Ns mainGlobals mg) (c : He.SaysD fa fn K) : FnFact K mg "_law_good" d__law_good := by
  obtain ⟨fd, F⟩ := c.def_ 21 (d := h__law_good) rfl
  exact ⟨_, fd, [], _, _, _, _, _, F, s__law_good, He.glo_ok X G (c.fact 21 (f := .glo "_law_good") rfl), FunD.bindsN F b__law_good, rfl, c__law_good, fun n ks pm hk => by cases hk⟩
theorem f__law_box (X : K.In h) (G : h.Ns mainGlobals mg) (c : He.SaysD fa fn K) : FnFact K mg "_law_box" d__law_box := by
  obtain ⟨fd, F⟩ := c.def_ 22 (d := h__law_box) rfl
  exact ⟨_, fd, ["_law_script", "_law_k"], _, _, _, _, _, F, s__law_box, He.glo_ok X G (c.fact 22 (f := .glo "_law_box") rfl), FunD.bindsN F b__law_box, rfl, c__law_box, fun n ks pm hk => by cases hk⟩
theorem f__law_cells (X : K.In h) (G : h.Ns mainGlobals mg) (c : He.SaysD fa fn K) : FnFact K mg "_law_cells" d__law_cells := by
  obtain ⟨fd, F⟩ := c.def_ 23 (d := h__law_cells) rfl
  exact ⟨_, fd, ["_law_script", "_law_top_so"], _, _, _, _, _, F, s__law_cells, He.glo_ok X G (c.fact 23 (f := .glo "_law_cells") rfl), FunD.bindsN F b__law_cells, rfl, c__law_cells, fun n ks pm hk => by cases hk⟩
theorem f__law_by_hand_right (X : K.In h) (G : h.Ns mainGlobals mg) (c : He.SaysD fa fn K) : FnFact K mg "_law_by_hand_right" d__law_by_hand_right := by
  obtain ⟨fd, F⟩ := c.def_ 24 (d := h__law_by_hand_right) rfl
  exact ⟨_, fd, [], _, _, _, _, _, F, s__law_by_hand_right, He.glo_ok X G (c.fact 24 (f := .glo "_law_by_hand_right") rfl), FunD.bindsN F b__law_by_hand_right, rfl, c__law_by_hand_right, fun n ks pm hk => by cases hk⟩
theorem tabOk (X : K.In h) (G : h.Ns mainGlobals mg) (c : He.SaysD fa fn K) (hx : xb K = true) : TabOk K mg md T := by
  refine ⟨fun f d hT => ?_, fun f => ?_, fun t ht => ?_, ?_, ?_, ?_, fun x v h => ?_, fun x f h => ?_, fun x f h => ?_, fun x h => ?_, fun d x b h => ?_, fun a b h => ?_⟩
  · have hm := lookup_mem (show tab.lookup f = some d from hT)
    simp only [tab, List.mem_cons, List.not_mem_nil, or_false, Prod.mk.injEq] at hm
    rcases hm with ⟨rfl, rfl⟩ | ⟨rfl, rfl⟩ | ⟨rfl, rfl⟩ | ⟨rfl, rfl⟩ | ⟨rfl, rfl⟩ | ⟨rfl, rfl⟩ | ⟨rfl, rfl⟩ | ⟨rfl, rfl⟩ | ⟨rfl, rfl⟩ | ⟨rfl, rfl⟩ | ⟨rfl, rfl⟩ | ⟨rfl, rfl⟩ | ⟨rfl, rfl⟩ | ⟨rfl, rfl⟩ | ⟨rfl, rfl⟩ | ⟨rfl, rfl⟩ | ⟨rfl, rfl⟩ | ⟨rfl, rfl⟩ | ⟨rfl, rfl⟩ | ⟨rfl, rfl⟩ | ⟨rfl, rfl⟩ | ⟨rfl, rfl⟩ | ⟨rfl, rfl⟩ | ⟨rfl, rfl⟩ | ⟨rfl, rfl⟩
    · exact f_law X G c
    · exact f__law_right X G c
    · exact f__law_fine X G c
    · exact f__law_tree X G c
    · exact f__law_name X G c
    · exact f__law_count X G c
    · exact f__law_mask X G c
    · exact f__law_home X G c
    · exact f_is_edit X G c
    · exact f_is_shaped_tree X G c
    · exact f_is_name X G c
    · exact f_is_count X G c
    · exact f_is_number X G c
    · exact f_is_mask X G c
    · exact f_is_rising X G c
    · exact f_is_name_set X G c
    · exact f_is_home X G c
    · exact f__law_same X G c
    · exact f__law_spoilt X G c
    · exact f__law_of X G c
    · exact f__law_take X G c
    · exact f__law_good X G c
    · exact f__law_box X G c
    · exact f__law_cells X G c
    · exact f__law_by_hand_right X G c
  · cases f
    · exact He.free_ok X G (c.fact 25 (f := .free "len") rfl)
    · exact He.free_ok X G (c.fact 26 (f := .free "abs") rfl)
    · exact He.free_ok X G (c.fact 27 (f := .free "max") rfl)
    · exact He.free_ok X G (c.fact 28 (f := .free "min") rfl)
    · exact He.free_ok X G (c.fact 29 (f := .free "int") rfl)
    · exact He.free_ok X G (c.fact 30 (f := .free "str") rfl)
    · exact He.free_ok X G (c.fact 31 (f := .free "all") rfl)
    · exact He.free_ok X G (c.fact 32 (f := .free "any") rfl)
    · exact He.free_ok X G (c.fact 33 (f := .free "list") rfl)
    · exact He.free_ok X G (c.fact 34 (f := .free "tuple") rfl)
    · exact He.free_ok X G (c.fact 35 (f := .free "isinstance") rfl)
    · exact He.free_ok X G (c.fact 36 (f := .free "sum") rfl)
    · exact He.free_ok X G (c.fact 37 (f := .free "sorted") rfl)
    · exact He.free_ok X G (c.fact 38 (f := .free "set") rfl)
    · exact He.free_ok X G (c.fact 39 (f := .free "dict") rfl)
  · cases t
    · exact absurd rfl ht
    · exact He.free_ok X G (c.fact 40 (f := .free "bool") rfl)
    · exact He.free_ok X G (c.fact 29 (f := .free "int") rfl)
    · exact He.free_ok X G (c.fact 30 (f := .free "str") rfl)
    · exact He.free_ok X G (c.fact 34 (f := .free "tuple") rfl)
    · exact He.free_ok X G (c.fact 33 (f := .free "list") rfl)
    · exact He.free_ok X G (c.fact 39 (f := .free "dict") rfl)
    · exact He.free_ok X G (c.fact 38 (f := .free "set") rfl)
  · exact He.free_ok X G (c.fact 41 (f := .free "range") rfl)
  · exact He.free_ok X G (c.fact 42 (f := .free "enumerate") rfl)
  · exact He.free_ok X G (c.fact 43 (f := .free "zip") rfl)
  · have hm := lookup_mem (show ([("LETTERS", .str "abcdefghijklmnopqrstuvwxyz"), ("MOST_LETTERS", .int 8), ("PAIR", .int 2), ("TRIPLE", .int 3), ("SEAT", .str "seat"), ("CELLS", .str "cells"), ("PUT_WAIT", .str "put wait"), ("DROP_WAIT", .str "drop wait"), ("EXCHANGE", .str "exchange"), ("MOVE", .str "move"), ("HOME", .str "home"), ("MASK", .str "mask"), ("TREE", .str "tree"), ("PUT_PAIR", .str "put pair"), ("DROP_PAIR", .str "drop pair"), ("WAIT_WORDS", .ktp [.str "put wait", .str "drop wait"]), ("PAIR_WORDS", .ktp [.str "put pair", .str "drop pair"])] : List (Str × PV)).lookup x = some v from h)
    simp only [List.mem_cons, List.not_mem_nil, or_false, Prod.mk.injEq] at hm
    rcases hm with ⟨rfl, rfl⟩ | ⟨rfl, rfl⟩ | ⟨rfl, rfl⟩ | ⟨rfl, rfl⟩ | ⟨rfl, rfl⟩ | ⟨rfl, rfl⟩ | ⟨rfl, rfl⟩ | ⟨rfl, rfl⟩ | ⟨rfl, rfl⟩ | ⟨rfl, rfl⟩ | ⟨rfl, rfl⟩ | ⟨rfl, rfl⟩ | ⟨rfl, rfl⟩ | ⟨rfl, rfl⟩ | ⟨rfl, rfl⟩ | ⟨rfl, rfl⟩ | ⟨rfl, rfl⟩
    · obtain ⟨t, e⟩ := He.str_ok X G (c.fact 44 (f := .str "LETTERS" "abcdefghijklmnopqrstuvwxyz") rfl)
      exact ⟨.str "abcdefghijklmnopqrstuvwxyz", _, e, ⟨t, rfl⟩, rfl⟩
    · obtain ⟨t, e⟩ := He.int_ok X G (c.fact 45 (f := .int "MOST_LETTERS" 8) rfl)
      exact ⟨.int 8, _, e, ⟨t, rfl⟩, rfl⟩
    · obtain ⟨t, e⟩ := He.int_ok X G (c.fact 46 (f := .int "PAIR" 2) rfl)
      exact ⟨.int 2, _, e, ⟨t, rfl⟩, rfl⟩
    · obtain ⟨t, e⟩ := He.int_ok X G (c.fact 47 (f := .int "TRIPLE" 3) rfl)
      exact ⟨.int 3, _, e, ⟨t, rfl⟩, rfl⟩
    · obtain ⟨t, e⟩ := He.str_ok X G (c.fact 48 (f := .str "SEAT" "seat") rfl)
      exact ⟨.str "seat", _, e, ⟨t, rfl⟩, rfl⟩
    · obtain ⟨t, e⟩ := He.str_ok X G (c.fact 49 (f := .str "CELLS" "cells") rfl)
      exact ⟨.str "cells", _, e, ⟨t, rfl⟩, rfl⟩
    · obtain ⟨t, e⟩ := He.str_ok X G (c.fact 50 (f := .str "PUT_WAIT" "put wait") rfl)
      exact ⟨.str "put wait", _, e, ⟨t, rfl⟩, rfl⟩
    · obtain ⟨t, e⟩ := He.str_ok X G (c.fact 51 (f := .str "DROP_WAIT" "drop wait") rfl)
      exact ⟨.str "drop wait", _, e, ⟨t, rfl⟩, rfl⟩
    · obtain ⟨t, e⟩ := He.str_ok X G (c.fact 52 (f := .str "EXCHANGE" "exchange") rfl)
      exact ⟨.str "exchange", _, e, ⟨t, rfl⟩, rfl⟩
    · obtain ⟨t, e⟩ := He.str_ok X G (c.fact 53 (f := .str "MOVE" "move") rfl)
      exact ⟨.str "move", _, e, ⟨t, rfl⟩, rfl⟩
    · obtain ⟨t, e⟩ := He.str_ok X G (c.fact 54 (f := .str "HOME" "home") rfl)
      exact ⟨.str "home", _, e, ⟨t, rfl⟩, rfl⟩
    · obtain ⟨t, e⟩ := He.str_ok X G (c.fact 55 (f := .str "MASK" "mask") rfl)
      exact ⟨.str "mask", _, e, ⟨t, rfl⟩, rfl⟩
    · obtain ⟨t, e⟩ := He.str_ok X G (c.fact 56 (f := .str "TREE" "tree") rfl)
      exact ⟨.str "tree", _, e, ⟨t, rfl⟩, rfl⟩
    · obtain ⟨t, e⟩ := He.str_ok X G (c.fact 57 (f := .str "PUT_PAIR" "put pair") rfl)
      exact ⟨.str "put pair", _, e, ⟨t, rfl⟩, rfl⟩
    · obtain ⟨t, e⟩ := He.str_ok X G (c.fact 58 (f := .str "DROP_PAIR" "drop pair") rfl)
      exact ⟨.str "drop pair", _, e, ⟨t, rfl⟩, rfl⟩
    · exact ⟨.ref (He.ga K "WAIT_WORDS"), _, He.glo_ok X G (c.fact 59 (f := .glo "WAIT_WORDS") rfl), rfl, _, _, rfl, He.tupB_ok (band (band (band hx).1).1).2 _, ⟨_, _, rfl, rfl, ⟨_, _, rfl, rfl, rfl⟩⟩⟩
    · exact ⟨.ref (He.ga K "PAIR_WORDS"), _, He.glo_ok X G (c.fact 60 (f := .glo "PAIR_WORDS") rfl), rfl, _, _, rfl, He.tupB_ok (band (band hx).1).2 _, ⟨_, _, rfl, rfl, ⟨_, _, rfl, rfl, rfl⟩⟩⟩
  · have hm := lookup_mem (show ( ([] : List (Str × Str))).lookup x = some f from h)
    cases hm
  · have hm := lookup_mem (show ( ([] : List (Str × Str))).lookup x = some f from h)
    cases hm
  · have hm : x ∈ ( ([] : List Str)) := List.contains_iff_mem.mp h
    cases hm
  · cases (show (none : Option Bool) = some b from h)
  · have hm : (a, b) ∈ ( ([] : List (Str × Str))) := List.contains_iff_mem.mp h
    cases hm
end
abbrev R : PySem.W.OpenRow := PySem.W.OpenLaw.row PySem.Challenge.rw_builtahead_k14_edits_or_none
abbrev hk : PySem.W.Hook := hookX 4 fa fn xb
def ob (s : PySem.W.SharedT) : He.AlD × Bool := (He.obsDG 4 fa fn (HandSHeadRun.getT s), xb (He.frG (HandSHeadRun.getT s) (He.asD (HandSHeadRun.getT s) 4)))
theorem ob_eq (s : PySem.W.SharedT) : ob s = hk.obs s.abs := obX_eq (HandSHeadRun.getT_eq s)
def loose : List Str := ("LETTERS" : Str) :: ("MOST_LETTERS" : Str) :: ("is_number" : Str) :: ("is_count" : Str) :: ("is_name" : Str) :: ("is_rising" : Str) :: ("is_name_set" : Str) :: ("PAIR" : Str) :: ("TRIPLE" : Str) :: ("SEAT" : Str) :: ("CELLS" : Str) :: ("is_shaped_tree" : Str) :: ("is_mask" : Str) :: ("is_home" : Str) :: ("PUT_WAIT" : Str) :: ("DROP_WAIT" : Str) :: ("EXCHANGE" : Str) :: ("MOVE" : Str) :: ("HOME" : Str) :: ("MASK" : Str) :: ("TREE" : Str) :: ("PUT_PAIR" : Str) :: ("DROP_PAIR" : Str) :: ("WAIT_WORDS" : Str) :: ("PAIR_WORDS" : Str) :: ("is_edit" : Str) :: ("_law_box" : Str) :: ("_law_take" : Str) :: ("_law_cells" : Str) :: ("_law_of" : Str) :: ("_law_same" : Str) :: ("_law_name" : Str) :: ("_law_count" : Str) :: ("_law_tree" : Str) :: ("_law_home" : Str) :: ("_law_mask" : Str) :: ("_law_fine" : Str) :: ("_law_good" : Str) :: ("_law_by_hand_right" : Str) :: ("_law_spoilt" : Str) :: ("_law_right" : Str) :: []
theorem run (w : World) : HandSHeadRun.RunEq R (PySem.W.view R.prog [45]) hk ob 4000 loose w := by
  intro os
  kernel_rfl
/-- what is asked of the pure run -/
def Fine (n : Nat) : Prop := ∀ ns : List Int, ns.length ≤ 63 → ∃ fl outs, (calN md T n).run "law" [.scr (ns.map PV.int)] = .ok (.bl true, fl) outs
theorem facts {P : Program} {w : World} {K : PySem.W.Frag} {h : Heap} {mg : Str → Option Value} {f : Addr} {n : Nat} (fine : Fine (n + 1)) (X : K.In h) (G : h.Ns mainGlobals mg) (hfa : mg ("law" : Str) = some (.ref f)) (c : He.SaysD fa fn K) (hx : xb K = true) :
    ∃ (fd : FuncData) (sp : Sp), (∀ (s : Shared) (v : Value), BindsTo s fd ⟨[v], []⟩ [("_law_script", v)]) ∧ (∀ (H : Hp) (a : Addr) (ns : List Int), ns.length ≤ 63 → SqL K H a (ns.map V.int) → sp [.ref a] H (fun v _ => v = .bl true) fun _ _ _ => False) ∧ ∀ base : Heap, K.In base → base.Ns mainGlobals mg → FnOk P w K mg base CX0 (n + 1) f fd ["_law_script"] sp := by
  obtain ⟨fd, F⟩ := c.def_ 0 (d := h_law) rfl
  have e := hfa.symm.trans (He.glo_ok X G (c.fact 0 (f := .glo "law") rfl))
  cases e
  have b := FunD.bindsA (ps := ["_law_script"]) F b_law
  refine ⟨fd, _, fun s v => b s [v] rfl, fun H a ns hl hS => ?_, fun base _ _ => law_ok (fn_all (tabOk X G c hx) (n + 1) "law" d_law rfl _ fd _ _ _ _ _ _ F s_law rfl c_law)⟩
  obtain ⟨fl, outs, hr⟩ := fine ns hl
  exact law_sp rfl hS fl outs hr
end K14
section
open PySem PySem.W PySem.Calls PyProof.Rows
theorem K14.holds {n : Nat} (fine : K14.Fine (n + 1)) (hr : L2.Room (n + 1) PySem.callerA) : PySem.Challenge.rw_builtahead_k14_edits_or_none.Holds := by
  w_on; o_law
  refine HandSHeadRun.head_any (r := OpenLaw.row PySem.Challenge.rw_builtahead_k14_edits_or_none) (q := view (OpenLaw.row PySem.Challenge.rw_builtahead_k14_edits_or_none).prog [45]) (H := K14.hk) (ob := K14.ob) (M := 4000) (loose := K14.loose) (d := HandSHeadRun.topDef (OpenLaw.row PySem.Challenge.rw_builtahead_k14_edits_or_none).prog 45) (kwd := []) K14.ob_eq
    (by kernel_rfl) (fun s => by kernel_rfl) K14.run (by kernel_rfl) (by kernel_rfl) (by kernel_rfl) (by rfl) (by first | assumption | decide +kernel) (by decide +kernel) ⟨rfl, rfl, rfl, rfl, rfl, by decide +kernel⟩ ?hw ?hc
  case hw => w_witness2
  case hc =>
    refine L2.walk_ofE (l := PySem.Challenge.rw_builtahead_k14_edits_or_none) (n := 63) (k := n + 1) (x := "_law_script") (CX := L2.CX0) rfl (by decide) (by kernel_rfl) hr ?F (fun _ _ _ _ z => z)
    intro w mg fa h Y G hmg0
    obtain ⟨K, KX, c, hx⟩ := Y
    have hmg : mg ("law" : PySem.Str) = some (.ref fa) := by
      have e : (HandSHeadRun.topDef (OpenLaw.row PySem.Challenge.rw_builtahead_k14_edits_or_none).prog 45).name = ("law" : PySem.Str) := by kernel_rfl
      rw [← e]
      exact hmg0
    obtain ⟨fd, sp, hb, hs, hF⟩ := K14.facts (P := (PySem.Challenge.rw_builtahead_k14_edits_or_none).prog) (w := w) fine KX G hmg c hx
    exact ⟨K, fd, sp, KX, hb, fun H a ns hl _ hS => hs H a ns hl hS, hF⟩
end

namespace K14
open PySem L2 Bd
abbrev Cn (n : Nat) : Cal := calN md T n
def big : Int := 10 ^ 30
def goodL : List PV := [.tup [.str "put wait", .str "a", .str "b", .int 0], .tup [.str "put wait", .str "a", .str "a", .int 1], .tup [.str "drop wait", .str "abcdefgh", .str "b", .int 16], .tup [.str "put pair", .str "a", .str "b"],
  .tup [.str "drop pair", .str "a", .str "a"], .tup [.str "exchange", .int 0, .int 0], .tup [.str "exchange", .int 2, .int big], .tup [.str "move", .str "a", .int 0, .int 3], .tup [.str "home", .str "a", .tup [.str "seat", .int 0]],
  .tup [.str "home", .str "a", .tup [.str "cells", .int 1, .int 0, .int 0]], .tup [.str "home", .str "a", .tup [.str "cells", .int 16, .int big, .int 200]], .tup [.str "mask", .str "a", .tup []], .tup [.str "mask", .str "a", .tup [.tup []]],
  .tup [.str "mask", .str "a", .tup [.tup [], .tup [.str "big"], .tup [.str "big", .str "odd"]]], .tup [.str "tree", .str "a", .int 0, .tup []], .tup [.str "tree", .str "a", .int 2, .tup [.str "b", .int 0]],
  .tup [.str "tree", .str "a", .int 1, .tup [.str "big", .tup [], .tup [.str "odd", .tup [.str "b", .int 1], .tup [.str "a", .int big]]]]]
def oddL : List PV := [.int 0, .int 1, .int (-1), .bl true, .non, .str "a", .str "A", .str "", .tup [], .tup [.str "seat", .int 1], .tup [.str "b", .int 0], .lst [], .tup [.tup []], .str "mask"]
theorem good_run (n : Nat) : (Cn (n + 1)).run "_law_good" [] = .ok (.lst goodL, .own) [] := by kernel_rfl
def xsOf : PV → List PV
  | .tup xs => xs
  | _ => []
/-- all that a good one is spoilt to at the place k -/
def bentAt (xs : List PV) (k : Nat) : List PV := (.tup (xs.take k ++ xs.drop (k + 1))) :: ((oddL.map fun o => .tup (xs.take k ++ [o] ++ xs.drop k)) ++ (oddL.map fun o => .tup (xs.take k ++ [o] ++ xs.drop (k + 1))))
def lastT (xs : List PV) : List PV := xsOf (xs.getD (xs.length - 1) .non)
def bentLast (xs : List PV) (j : Nat) : List PV := oddL.map fun o => .tup (xs.take (xs.length - 1) ++ [.tup ((lastT xs).take j ++ [o] ++ (lastT xs).drop (j + 1))])
def bents (xs : List PV) : List PV := ((List.range xs.length).flatMap (bentAt xs)) ++ ((List.range (lastT xs).length).flatMap (bentLast xs))
def okR (r : CRes) (b : Bool) : Bool := match r with
  | .ok (.bl c, .fz) [] => c == b
  | _ => false
def same2 (r s : CRes) : Bool := match r, s with
  | .ok (.bl c, .fz) [], .ok (.bl d, .fz) [] => c == d
  | _, _ => false
def chk (n : Nat) (q : PV) : Bool := same2 ((Cn (n + 6)).run "is_edit" [q]) ((Cn (n + 6)).run "_law_fine" [q]) && okR ((Cn (n + 6)).run "is_edit" [.tup [q]]) false
theorem good_ok (n : Nat) : goodL.all (fun q => okR ((Cn (n + 6)).run "is_edit" [q]) true) = true := by kernel_rfl
end K14

namespace K14
open PySem L2 Bd
theorem t0 (n : Nat) : (bents (xsOf (goodL.getD 0 .non))).all (chk n) = true := by kernel_rfl
theorem t1 (n : Nat) : (bents (xsOf (goodL.getD 1 .non))).all (chk n) = true := by kernel_rfl
theorem t2 (n : Nat) : (bents (xsOf (goodL.getD 2 .non))).all (chk n) = true := by kernel_rfl
theorem t3 (n : Nat) : (bents (xsOf (goodL.getD 3 .non))).all (chk n) = true := by kernel_rfl
theorem t4 (n : Nat) : (bents (xsOf (goodL.getD 4 .non))).all (chk n) = true := by kernel_rfl
end K14

namespace K14
open PySem L2 Bd
theorem t5 (n : Nat) : (bents (xsOf (goodL.getD 5 .non))).all (chk n) = true := by kernel_rfl
theorem t6 (n : Nat) : (bents (xsOf (goodL.getD 6 .non))).all (chk n) = true := by kernel_rfl
theorem t7 (n : Nat) : (bents (xsOf (goodL.getD 7 .non))).all (chk n) = true := by kernel_rfl
theorem t8 (n : Nat) : (bents (xsOf (goodL.getD 8 .non))).all (chk n) = true := by kernel_rfl
end K14

namespace K14
open PySem L2 Bd
theorem t9 (n : Nat) : (bents (xsOf (goodL.getD 9 .non))).all (chk n) = true := by kernel_rfl
theorem t10 (n : Nat) : (bents (xsOf (goodL.getD 10 .non))).all (chk n) = true := by kernel_rfl
theorem t11 (n : Nat) : (bents (xsOf (goodL.getD 11 .non))).all (chk n) = true := by kernel_rfl
theorem t12 (n : Nat) : (bents (xsOf (goodL.getD 12 .non))).all (chk n) = true := by kernel_rfl
end K14

namespace K14
open PySem L2 Bd
theorem t13 (n : Nat) : (bents (xsOf (goodL.getD 13 .non))).all (chk n) = true := by kernel_rfl
theorem t14 (n : Nat) : (bents (xsOf (goodL.getD 14 .non))).all (chk n) = true := by kernel_rfl
theorem t15 (n : Nat) : (bents (xsOf (goodL.getD 15 .non))).all (chk n) = true := by kernel_rfl
theorem t16 (n : Nat) : (bents (xsOf (goodL.getD 16 .non))).all (chk n) = true := by kernel_rfl
end K14

namespace K14
open PySem L2 Bd
theorem hand_ok (n : Nat) : (Cn (n + 9)).run "_law_by_hand_right" [] = .ok (.bl true, .fz) [] := by kernel_rfl
end K14

namespace K14
open PySem L2 Bd
theorem run_of {n : Nat} {f : Str} {d : FD} (h : T f = some d) (ps : List PV) : (Cn (n + 1)).run f ps = runF (Cn n) (some d) ps := by
  show runF (Cn n) (T f) ps = _
  rw [h]
theorem sig_of {n : Nat} {f : Str} {d : FD} (h : T f = some d) : (Cn (n + 1)).sig f = some d.sg := by
  show (T f).map (·.sg) = _
  rw [h]; rfl
theorem takeOk (n : Nat) : TakeOk (Cn (n + 1)) := ⟨sig_of (d := d__law_take) rfl, fun m p low h1 h2 h3 => by
  obtain ⟨r, q, e, h⟩ := take_ok (C := Cn n) (d := d__law_take) rfl rfl rfl h1 h2 h3
  exact ⟨r, q, by rw [run_of (d := d__law_take) rfl]; exact e, h⟩⟩
theorem ofOk (n : Nat) : OfOk (Cn (n + 2)) := ⟨sig_of (d := d__law_of) rfl, fun m p xs h1 h2 h3 => by
  obtain ⟨x, q, hx, hq, e⟩ := of_ok (d := d__law_of) (takeOk n) rfl rfl rfl h1 h2 h3
  exact ⟨x, q, hx, hq, by rw [run_of (d := d__law_of) rfl]; exact e⟩⟩
theorem sameOk : ∀ n : Nat, SameOk (Cn (n + 1)) n
  | 0 => ⟨sig_of (d := d__law_same) rfl, fun p _ h => by omega⟩
  | n + 1 => ⟨sig_of (d := d__law_same) rfl, fun p hg hd => by
    rw [run_of (d := d__law_same) rfl]
    exact same_ok (sameOk n) rfl rfl rfl p hg hd⟩
/-! ### spoilt -/
def spRest : IS := (match d__law_spoilt.body with | .seq _ (.seq _ (.seq _ r)) => r | _ => .nil)
def sp1 : IS := (match d__law_spoilt.body with | .seq a _ => a | _ => .nil)
def sp2 : IS := (match d__law_spoilt.body with | .seq _ (.seq a _) => a | _ => .nil)
def sp3 : IS := (match d__law_spoilt.body with | .seq _ (.seq _ (.seq a _)) => a | _ => .nil)
theorem sp_body : d__law_spoilt.body = .seq sp1 (.seq sp2 (.seq sp3 spRest)) := rfl
def odd1 : List PV := oddL.take 9
abbrev Es (p : PV) (xs : List PV) (r : Int) (o : Option (PV × Fl)) (w f j : Option (PV × Fl)) : En := [some (p, .bor), some (.tup xs, .fz), some (.int r, .fz), o, w, f, j]
theorem sp1_run {C : Cal} {p p1 : PV} {xs : List PV} {r : Int} (s1 : C.sig "_law_take" = some [true, false]) (e1 : C.run "_law_take" [p, .int (xs.length : Int)] = .ok (.int r, .fz) [p1]) :
    exec C sp1 [some (p, .bor), some (.tup xs, .fz), none, none, none, none, none] = .nx (Es p1 xs r (some (.lst odd1, .fz)) none none none) := by
  have um1 : unP .USub (.int 1) = some (.int (-1)) := rfl
  unfold sp1 d__law_spoilt
  simp only [bd_ok, bd_exc, bd_bad, fo_ok, fo_exc, th_nx, th_ret, th_exc, th_brk, th_cnt, tk_nx, tk_cnt, tk_brk, tk_ret, tk_exc, x_nil, x_seq, kAsg_eq, x_asg, kUnp_eq, x_unp, kPar_eq, x_par, kSet2_eq, kDct2_eq, kSet1_eq, x_seti, kApp_eq, x_app, kExpr_eq, x_expr, x_ret, x_retN, kIf_eq, x_ife, kLoop_eq, x_loop, x_whl, kWh_eq, x_brk, x_cnt, x_pass, x_boom, x_drop, kRa_eq, x_raise, x_raise0, x_try, ty_exc, ty_nx, ty_ret, kCl2_eq, kCl1_eq, kTr_eq, kB2_eq, kB1_eq, kU_eq, kTup_eq, kLst_eq, kS2_eq, kS1_eq, kC3_eq, kC2_eq, kC1_eq, kCall_eq, kK2_eq, kK1_eq, kBl_eq, kM2_eq, kM1_eq, kCo_eq, kRg_eq, kEn_eq, kZ2_eq, kZ1_eq, kBi_eq, kMk_eq, kIx_eq, kFl_eq, kCv2_eq, kCv1_eq, kLi2_eq, kLi1_eq, kL1_eq, kL3_eq, kL2_eq, kSs_eq, v_int, t_int, v_str, t_str, v_bl, t_bl, v_non, t_non, v_cst, t_cst, v_fnv, t_fnv, v_tyv, t_tyv, v_bin, t_bin, v_un, t_un, v_tup, t_tup, v_lst, t_lst, v_sub, t_sub, v_slc, t_slc, v_call, t_call, v_callk, t_callk, v_blt, t_blt, v_mth, t_mth, v_comp, t_comp, v_rng, t_rng, v_enm, t_enm, v_zip, t_zip, v_dnew, t_dnew, v_ddis, t_ddis, v_mk0, t_mk0, v_mk1, t_mk1, v_mkk, t_mkk, v_isx, t_isx, v_fld, t_fld, v_callv, t_callv, v_lidx, t_lidx, v_bits, t_bits, v_lrn1, t_lrn1, v_lrng, t_lrng, v_sset, t_sset, kVb_eq, kQ2_eq, kQ1_eq, kH4_eq, kH3_eq, kH2_eq, kH1_eq, v_cmp, t_cmp, v_chn, t_chn, v_var, t_var, kN2_eq, kN1_eq, kNt_eq, v_not, t_not, kAn_eq, kAt_eq, v_and, t_and, kOn_eq, kOt_eq, v_or, t_or, kIv_eq, kIt_eq, v_ife, t_ife, v_seq, v_no, kOs2_eq, kOs1_eq, os_nil, os_cons, kF2_eq, kF1_eq, f_nil, f_cons, kG2_eq, kG1_eq, kG3_eq, g_nil, g_val, g_slot, kGt_eq, g_tmpc, o_var, kIe_eq, it_ev, p_no, kRt_eq, r_var, kV_eq, kPt_eq, o_int, r_int, p_int, o_str, r_str, p_str, o_bl, r_bl, p_bl, o_non, r_non, p_non, o_cst, r_cst, p_cst, o_fnv, r_fnv, p_fnv, o_tyv, r_tyv, p_tyv, o_bin, r_bin, p_bin, o_un, r_un, p_un, o_tup, r_tup, p_tup, o_lst, r_lst, p_lst, o_sub, r_sub, p_sub, o_slc, r_slc, p_slc, o_call, r_call, p_call, o_callk, r_callk, p_callk, o_blt, r_blt, p_blt, o_mth, r_mth, p_mth, o_comp, r_comp, p_comp, o_rng, r_rng, p_rng, o_enm, r_enm, p_enm, o_zip, r_zip, p_zip, o_dnew, r_dnew, p_dnew, o_ddis, r_ddis, p_ddis, o_mk0, r_mk0, p_mk0, o_mk1, r_mk1, p_mk1, o_mkk, r_mkk, p_mkk, o_isx, r_isx, p_isx, o_fld, r_fld, p_fld, o_callv, r_callv, p_callv, o_lidx, r_lidx, p_lidx, o_bits, r_bits, p_bits, o_lrn1, r_lrn1, p_lrn1, o_lrng, r_lrng, p_lrng, o_sset, r_sset, p_sset, o_cmp, r_cmp, p_cmp, o_chn, r_chn, p_chn, o_not, r_not, p_not, o_and, r_and, p_and, o_or, r_or, p_or, o_ife, r_ife, p_ife, p_var, kT3_eq, kT2_eq, evVar, tsVar, liftO, liftB, flOf, fzO, okIf, cmp2, rsO, rsOs, unP, truth, lstAt, argV, argVs, slotsOf, argBack, setP, itO, itemsP, setPar, isNonP, kindO, seqOf, ownFz, wipeE, unwipe, consO, enmP, zipP, fnOf?, callV, isLst, List.map_cons, List.map_nil, List.all_cons, List.all_nil, Bool.and_true, Bool.true_and, Bool.and_self, Option.bind_some, Option.map_some, List.getElem?_cons_zero, List.getElem?_cons_succ, List.set_cons_zero, List.set_cons_succ, Option.isSome_some, if_true, if_false, ite_true, ite_false, decide_true, decide_false, Bool.not_true, Bool.not_false, reduceIte, Bool.false_eq_true, s1, e1, um1, blt_len_t, doCall, nd0, nd1, sz0, sz1, sz2, sz3, sz4, sz5, sz6, sz7, sz8, sz9, sz10, sz11, sz12, sz13, sz14, sz15, sz16, sz17, sz18, sz19, sz20]
  try rfl
theorem sp2_run {C : Cal} {p : PV} {xs : List PV} {r : Int} : exec C sp2 (Es p xs r (some (.lst odd1, .fz)) none none none) = .nx (Es p xs r (some (.lst oddL, .own)) none none none) := by kernel_rfl
theorem sp3_run {C : Cal} {p p1 : PV} {xs : List PV} {r w : Int} (s1 : C.sig "_law_take" = some [true, false]) (e1 : C.run "_law_take" [p, .int 5] = .ok (.int w, .fz) [p1]) :
    exec C sp3 (Es p xs r (some (.lst oddL, .own)) none none none) = .nx (Es p1 xs r (some (.lst oddL, .own)) (some (.int w, .fz)) none none) := by
  unfold sp3 d__law_spoilt
  simp only [bd_ok, bd_exc, bd_bad, fo_ok, fo_exc, th_nx, th_ret, th_exc, th_brk, th_cnt, tk_nx, tk_cnt, tk_brk, tk_ret, tk_exc, x_nil, x_seq, kAsg_eq, x_asg, kUnp_eq, x_unp, kPar_eq, x_par, kSet2_eq, kDct2_eq, kSet1_eq, x_seti, kApp_eq, x_app, kExpr_eq, x_expr, x_ret, x_retN, kIf_eq, x_ife, kLoop_eq, x_loop, x_whl, kWh_eq, x_brk, x_cnt, x_pass, x_boom, x_drop, kRa_eq, x_raise, x_raise0, x_try, ty_exc, ty_nx, ty_ret, kCl2_eq, kCl1_eq, kTr_eq, kB2_eq, kB1_eq, kU_eq, kTup_eq, kLst_eq, kS2_eq, kS1_eq, kC3_eq, kC2_eq, kC1_eq, kCall_eq, kK2_eq, kK1_eq, kBl_eq, kM2_eq, kM1_eq, kCo_eq, kRg_eq, kEn_eq, kZ2_eq, kZ1_eq, kBi_eq, kMk_eq, kIx_eq, kFl_eq, kCv2_eq, kCv1_eq, kLi2_eq, kLi1_eq, kL1_eq, kL3_eq, kL2_eq, kSs_eq, v_int, t_int, v_str, t_str, v_bl, t_bl, v_non, t_non, v_cst, t_cst, v_fnv, t_fnv, v_tyv, t_tyv, v_bin, t_bin, v_un, t_un, v_tup, t_tup, v_lst, t_lst, v_sub, t_sub, v_slc, t_slc, v_call, t_call, v_callk, t_callk, v_blt, t_blt, v_mth, t_mth, v_comp, t_comp, v_rng, t_rng, v_enm, t_enm, v_zip, t_zip, v_dnew, t_dnew, v_ddis, t_ddis, v_mk0, t_mk0, v_mk1, t_mk1, v_mkk, t_mkk, v_isx, t_isx, v_fld, t_fld, v_callv, t_callv, v_lidx, t_lidx, v_bits, t_bits, v_lrn1, t_lrn1, v_lrng, t_lrng, v_sset, t_sset, kVb_eq, kQ2_eq, kQ1_eq, kH4_eq, kH3_eq, kH2_eq, kH1_eq, v_cmp, t_cmp, v_chn, t_chn, v_var, t_var, kN2_eq, kN1_eq, kNt_eq, v_not, t_not, kAn_eq, kAt_eq, v_and, t_and, kOn_eq, kOt_eq, v_or, t_or, kIv_eq, kIt_eq, v_ife, t_ife, v_seq, v_no, kOs2_eq, kOs1_eq, os_nil, os_cons, kF2_eq, kF1_eq, f_nil, f_cons, kG2_eq, kG1_eq, kG3_eq, g_nil, g_val, g_slot, kGt_eq, g_tmpc, o_var, kIe_eq, it_ev, p_no, kRt_eq, r_var, kV_eq, kPt_eq, o_int, r_int, p_int, o_str, r_str, p_str, o_bl, r_bl, p_bl, o_non, r_non, p_non, o_cst, r_cst, p_cst, o_fnv, r_fnv, p_fnv, o_tyv, r_tyv, p_tyv, o_bin, r_bin, p_bin, o_un, r_un, p_un, o_tup, r_tup, p_tup, o_lst, r_lst, p_lst, o_sub, r_sub, p_sub, o_slc, r_slc, p_slc, o_call, r_call, p_call, o_callk, r_callk, p_callk, o_blt, r_blt, p_blt, o_mth, r_mth, p_mth, o_comp, r_comp, p_comp, o_rng, r_rng, p_rng, o_enm, r_enm, p_enm, o_zip, r_zip, p_zip, o_dnew, r_dnew, p_dnew, o_ddis, r_ddis, p_ddis, o_mk0, r_mk0, p_mk0, o_mk1, r_mk1, p_mk1, o_mkk, r_mkk, p_mkk, o_isx, r_isx, p_isx, o_fld, r_fld, p_fld, o_callv, r_callv, p_callv, o_lidx, r_lidx, p_lidx, o_bits, r_bits, p_bits, o_lrn1, r_lrn1, p_lrn1, o_lrng, r_lrng, p_lrng, o_sset, r_sset, p_sset, o_cmp, r_cmp, p_cmp, o_chn, r_chn, p_chn, o_not, r_not, p_not, o_and, r_and, p_and, o_or, r_or, p_or, o_ife, r_ife, p_ife, p_var, kT3_eq, kT2_eq, evVar, tsVar, liftO, liftB, flOf, fzO, okIf, cmp2, rsO, rsOs, unP, truth, lstAt, argV, argVs, slotsOf, argBack, setP, itO, itemsP, setPar, isNonP, kindO, seqOf, ownFz, wipeE, unwipe, consO, enmP, zipP, fnOf?, callV, isLst, List.map_cons, List.map_nil, List.all_cons, List.all_nil, Bool.and_true, Bool.true_and, Bool.and_self, Option.bind_some, Option.map_some, List.getElem?_cons_zero, List.getElem?_cons_succ, List.set_cons_zero, List.set_cons_succ, Option.isSome_some, if_true, if_false, ite_true, ite_false, decide_true, decide_false, Bool.not_true, Bool.not_false, reduceIte, Bool.false_eq_true, s1, e1, doCall, nd0, nd1, sz0, sz1, sz2, sz3, sz4, sz5, sz6, sz7, sz8, sz9, sz10, sz11, sz12, sz13, sz14, sz15, sz16, sz17, sz18, sz19, sz20]
  try rfl
section
variable {C : Cal} {p q : PV} {xs A B B' : List PV} {r w : Int}
theorem way0 (hw : (w == 0) = true) (h1 : slP (.tup xs) none (some r) = some (.tup A)) (h2 : slP (.tup xs) (some (r + 1)) none = some (.tup B)) (h3 : binP .Add (.tup A) (.tup B) = some (.tup (A ++ B))) :
    exec C spRest (Es p xs r (some (.lst oddL, .own)) (some (.int w, .fz)) none none) = .ret (.tup (A ++ B), .fz) (Es p xs r (some (.lst oddL, .own)) (some (.int w, .fz)) none none) := by
  unfold spRest d__law_spoilt
  simp only [bd_ok, bd_exc, bd_bad, fo_ok, fo_exc, th_nx, th_ret, th_exc, th_brk, th_cnt, tk_nx, tk_cnt, tk_brk, tk_ret, tk_exc, x_nil, x_seq, kAsg_eq, x_asg, kUnp_eq, x_unp, kPar_eq, x_par, kSet2_eq, kDct2_eq, kSet1_eq, x_seti, kApp_eq, x_app, kExpr_eq, x_expr, x_ret, x_retN, kIf_eq, x_ife, kLoop_eq, x_loop, x_whl, kWh_eq, x_brk, x_cnt, x_pass, x_boom, x_drop, kRa_eq, x_raise, x_raise0, x_try, ty_exc, ty_nx, ty_ret, kCl2_eq, kCl1_eq, kTr_eq, kB2_eq, kB1_eq, kU_eq, kTup_eq, kLst_eq, kS2_eq, kS1_eq, kC3_eq, kC2_eq, kC1_eq, kCall_eq, kK2_eq, kK1_eq, kBl_eq, kM2_eq, kM1_eq, kCo_eq, kRg_eq, kEn_eq, kZ2_eq, kZ1_eq, kBi_eq, kMk_eq, kIx_eq, kFl_eq, kCv2_eq, kCv1_eq, kLi2_eq, kLi1_eq, kL1_eq, kL3_eq, kL2_eq, kSs_eq, v_int, t_int, v_str, t_str, v_bl, t_bl, v_non, t_non, v_cst, t_cst, v_fnv, t_fnv, v_tyv, t_tyv, v_bin, t_bin, v_un, t_un, v_tup, t_tup, v_lst, t_lst, v_sub, t_sub, v_slc, t_slc, v_call, t_call, v_callk, t_callk, v_blt, t_blt, v_mth, t_mth, v_comp, t_comp, v_rng, t_rng, v_enm, t_enm, v_zip, t_zip, v_dnew, t_dnew, v_ddis, t_ddis, v_mk0, t_mk0, v_mk1, t_mk1, v_mkk, t_mkk, v_isx, t_isx, v_fld, t_fld, v_callv, t_callv, v_lidx, t_lidx, v_bits, t_bits, v_lrn1, t_lrn1, v_lrng, t_lrng, v_sset, t_sset, kVb_eq, kQ2_eq, kQ1_eq, kH4_eq, kH3_eq, kH2_eq, kH1_eq, v_cmp, t_cmp, v_chn, t_chn, v_var, t_var, kN2_eq, kN1_eq, kNt_eq, v_not, t_not, kAn_eq, kAt_eq, v_and, t_and, kOn_eq, kOt_eq, v_or, t_or, kIv_eq, kIt_eq, v_ife, t_ife, v_seq, v_no, kOs2_eq, kOs1_eq, os_nil, os_cons, kF2_eq, kF1_eq, f_nil, f_cons, kG2_eq, kG1_eq, kG3_eq, g_nil, g_val, g_slot, kGt_eq, g_tmpc, o_var, kIe_eq, it_ev, p_no, kRt_eq, r_var, kV_eq, kPt_eq, o_int, r_int, p_int, o_str, r_str, p_str, o_bl, r_bl, p_bl, o_non, r_non, p_non, o_cst, r_cst, p_cst, o_fnv, r_fnv, p_fnv, o_tyv, r_tyv, p_tyv, o_bin, r_bin, p_bin, o_un, r_un, p_un, o_tup, r_tup, p_tup, o_lst, r_lst, p_lst, o_sub, r_sub, p_sub, o_slc, r_slc, p_slc, o_call, r_call, p_call, o_callk, r_callk, p_callk, o_blt, r_blt, p_blt, o_mth, r_mth, p_mth, o_comp, r_comp, p_comp, o_rng, r_rng, p_rng, o_enm, r_enm, p_enm, o_zip, r_zip, p_zip, o_dnew, r_dnew, p_dnew, o_ddis, r_ddis, p_ddis, o_mk0, r_mk0, p_mk0, o_mk1, r_mk1, p_mk1, o_mkk, r_mkk, p_mkk, o_isx, r_isx, p_isx, o_fld, r_fld, p_fld, o_callv, r_callv, p_callv, o_lidx, r_lidx, p_lidx, o_bits, r_bits, p_bits, o_lrn1, r_lrn1, p_lrn1, o_lrng, r_lrng, p_lrng, o_sset, r_sset, p_sset, o_cmp, r_cmp, p_cmp, o_chn, r_chn, p_chn, o_not, r_not, p_not, o_and, r_and, p_and, o_or, r_or, p_or, o_ife, r_ife, p_ife, p_var, kT3_eq, kT2_eq, evVar, tsVar, liftO, liftB, flOf, fzO, okIf, cmp2, rsO, rsOs, unP, truth, lstAt, argV, argVs, slotsOf, argBack, setP, itO, itemsP, setPar, isNonP, kindO, seqOf, ownFz, wipeE, unwipe, consO, enmP, zipP, fnOf?, callV, isLst, List.map_cons, List.map_nil, List.all_cons, List.all_nil, Bool.and_true, Bool.true_and, Bool.and_self, Option.bind_some, Option.map_some, List.getElem?_cons_zero, List.getElem?_cons_succ, List.set_cons_zero, List.set_cons_succ, Option.isSome_some, if_true, if_false, ite_true, ite_false, decide_true, decide_false, Bool.not_true, Bool.not_false, reduceIte, Bool.false_eq_true, eq_ii, hw, add_p, h1, h2, h3, sz0, sz1, sz2, sz3, sz4, sz5, sz6, sz7, sz8, sz9, sz10, sz11, sz12, sz13, sz14, sz15, sz16, sz17, sz18, sz19, sz20]
  try rfl
theorem way1 {o : PV} (hw0 : (w == 0) = false) (hw : (w == 1) = true) (s2 : C.sig "_law_of" = some [true, false]) (e2 : C.run "_law_of" [p, .lst oddL] = .ok (o, .fz) [q]) (h1 : slP (.tup xs) none (some r) = some (.tup A)) (h2 : slP (.tup xs) (some r) none = some (.tup B))
    (h3 : binP .Add (.tup A) (.tup [o]) = some (.tup (A ++ [o]))) (h4 : binP .Add (.tup (A ++ [o])) (.tup B) = some (.tup (A ++ [o] ++ B))) :
    exec C spRest (Es p xs r (some (.lst oddL, .own)) (some (.int w, .fz)) none none) = .ret (.tup (A ++ [o] ++ B), .fz) (Es q xs r (some (.lst oddL, .fz)) (some (.int w, .fz)) none none) := by
  unfold spRest d__law_spoilt
  simp only [bd_ok, bd_exc, bd_bad, fo_ok, fo_exc, th_nx, th_ret, th_exc, th_brk, th_cnt, tk_nx, tk_cnt, tk_brk, tk_ret, tk_exc, x_nil, x_seq, kAsg_eq, x_asg, kUnp_eq, x_unp, kPar_eq, x_par, kSet2_eq, kDct2_eq, kSet1_eq, x_seti, kApp_eq, x_app, kExpr_eq, x_expr, x_ret, x_retN, kIf_eq, x_ife, kLoop_eq, x_loop, x_whl, kWh_eq, x_brk, x_cnt, x_pass, x_boom, x_drop, kRa_eq, x_raise, x_raise0, x_try, ty_exc, ty_nx, ty_ret, kCl2_eq, kCl1_eq, kTr_eq, kB2_eq, kB1_eq, kU_eq, kTup_eq, kLst_eq, kS2_eq, kS1_eq, kC3_eq, kC2_eq, kC1_eq, kCall_eq, kK2_eq, kK1_eq, kBl_eq, kM2_eq, kM1_eq, kCo_eq, kRg_eq, kEn_eq, kZ2_eq, kZ1_eq, kBi_eq, kMk_eq, kIx_eq, kFl_eq, kCv2_eq, kCv1_eq, kLi2_eq, kLi1_eq, kL1_eq, kL3_eq, kL2_eq, kSs_eq, v_int, t_int, v_str, t_str, v_bl, t_bl, v_non, t_non, v_cst, t_cst, v_fnv, t_fnv, v_tyv, t_tyv, v_bin, t_bin, v_un, t_un, v_tup, t_tup, v_lst, t_lst, v_sub, t_sub, v_slc, t_slc, v_call, t_call, v_callk, t_callk, v_blt, t_blt, v_mth, t_mth, v_comp, t_comp, v_rng, t_rng, v_enm, t_enm, v_zip, t_zip, v_dnew, t_dnew, v_ddis, t_ddis, v_mk0, t_mk0, v_mk1, t_mk1, v_mkk, t_mkk, v_isx, t_isx, v_fld, t_fld, v_callv, t_callv, v_lidx, t_lidx, v_bits, t_bits, v_lrn1, t_lrn1, v_lrng, t_lrng, v_sset, t_sset, kVb_eq, kQ2_eq, kQ1_eq, kH4_eq, kH3_eq, kH2_eq, kH1_eq, v_cmp, t_cmp, v_chn, t_chn, v_var, t_var, kN2_eq, kN1_eq, kNt_eq, v_not, t_not, kAn_eq, kAt_eq, v_and, t_and, kOn_eq, kOt_eq, v_or, t_or, kIv_eq, kIt_eq, v_ife, t_ife, v_seq, v_no, kOs2_eq, kOs1_eq, os_nil, os_cons, kF2_eq, kF1_eq, f_nil, f_cons, kG2_eq, kG1_eq, kG3_eq, g_nil, g_val, g_slot, kGt_eq, g_tmpc, o_var, kIe_eq, it_ev, p_no, kRt_eq, r_var, kV_eq, kPt_eq, o_int, r_int, p_int, o_str, r_str, p_str, o_bl, r_bl, p_bl, o_non, r_non, p_non, o_cst, r_cst, p_cst, o_fnv, r_fnv, p_fnv, o_tyv, r_tyv, p_tyv, o_bin, r_bin, p_bin, o_un, r_un, p_un, o_tup, r_tup, p_tup, o_lst, r_lst, p_lst, o_sub, r_sub, p_sub, o_slc, r_slc, p_slc, o_call, r_call, p_call, o_callk, r_callk, p_callk, o_blt, r_blt, p_blt, o_mth, r_mth, p_mth, o_comp, r_comp, p_comp, o_rng, r_rng, p_rng, o_enm, r_enm, p_enm, o_zip, r_zip, p_zip, o_dnew, r_dnew, p_dnew, o_ddis, r_ddis, p_ddis, o_mk0, r_mk0, p_mk0, o_mk1, r_mk1, p_mk1, o_mkk, r_mkk, p_mkk, o_isx, r_isx, p_isx, o_fld, r_fld, p_fld, o_callv, r_callv, p_callv, o_lidx, r_lidx, p_lidx, o_bits, r_bits, p_bits, o_lrn1, r_lrn1, p_lrn1, o_lrng, r_lrng, p_lrng, o_sset, r_sset, p_sset, o_cmp, r_cmp, p_cmp, o_chn, r_chn, p_chn, o_not, r_not, p_not, o_and, r_and, p_and, o_or, r_or, p_or, o_ife, r_ife, p_ife, p_var, kT3_eq, kT2_eq, evVar, tsVar, liftO, liftB, flOf, fzO, okIf, cmp2, rsO, rsOs, unP, truth, lstAt, argV, argVs, slotsOf, argBack, setP, itO, itemsP, setPar, isNonP, kindO, seqOf, ownFz, wipeE, unwipe, consO, enmP, zipP, fnOf?, callV, isLst, List.map_cons, List.map_nil, List.all_cons, List.all_nil, Bool.and_true, Bool.true_and, Bool.and_self, Option.bind_some, Option.map_some, List.getElem?_cons_zero, List.getElem?_cons_succ, List.set_cons_zero, List.set_cons_succ, Option.isSome_some, if_true, if_false, ite_true, ite_false, decide_true, decide_false, Bool.not_true, Bool.not_false, reduceIte, Bool.false_eq_true, eq_ii, hw0, hw, add_p, s2, e2, h1, h2, h3, h4, doCall, nd0, nd1, sz0, sz1, sz2, sz3, sz4, sz5, sz6, sz7, sz8, sz9, sz10, sz11, sz12, sz13, sz14, sz15, sz16, sz17, sz18, sz19, sz20]
  try rfl
/-- the other ways -/
def inner (xs : List PV) : Bool := (match atI xs (-1) with
  | some (.tup (_ :: _)) => true
  | _ => false)
theorem way2 {o : PV} {ys A' B' : List PV} {p1 : PV} {j : Int} (hw0 : (w == 0) = false) (hw1 : (w == 1) = false) (hw : (w == 2) = true) (hy : atI xs (-1) = some (.tup ys)) (hne : cmpP .NotEq (.tup ys) (.tup []) = some true) (s1 : C.sig "_law_take" = some [true, false]) (e1 : C.run "_law_take" [p, .int (ys.length : Int)] = .ok (.int j, .fz) [p1])
    (s2 : C.sig "_law_of" = some [true, false]) (e2 : C.run "_law_of" [p1, .lst oddL] = .ok (o, .fz) [q]) (h0 : slP (.tup xs) none (some (-1)) = some (.tup A)) (h1 : slP (.tup ys) none (some j) = some (.tup A')) (h2 : slP (.tup ys) (some (j + 1)) none = some (.tup B'))
    (h3 : binP .Add (.tup A') (.tup [o]) = some (.tup (A' ++ [o]))) (h4 : binP .Add (.tup (A' ++ [o])) (.tup B') = some (.tup (A' ++ [o] ++ B'))) (h5 : binP .Add (.tup A) (.tup [.tup (A' ++ [o] ++ B')]) = some (.tup (A ++ [.tup (A' ++ [o] ++ B')]))) :
    exec C spRest (Es p xs r (some (.lst oddL, .own)) (some (.int w, .fz)) none none) = .ret (.tup (A ++ [.tup (A' ++ [o] ++ B')]), .fz) (Es q xs r (some (.lst oddL, .fz)) (some (.int w, .fz)) (some (.tup ys, .fz)) (some (.int j, .fz))) := by
  have um1 : unP .USub (.int 1) = some (.int (-1)) := rfl
  have pl : (([5, 6] : List Nat).length = ([PV.tup ys, PV.int j] : List PV).length) = True := eq_true rfl
  unfold spRest d__law_spoilt
  simp only [bd_ok, bd_exc, bd_bad, fo_ok, fo_exc, th_nx, th_ret, th_exc, th_brk, th_cnt, tk_nx, tk_cnt, tk_brk, tk_ret, tk_exc, x_nil, x_seq, kAsg_eq, x_asg, kUnp_eq, x_unp, kPar_eq, x_par, kSet2_eq, kDct2_eq, kSet1_eq, x_seti, kApp_eq, x_app, kExpr_eq, x_expr, x_ret, x_retN, kIf_eq, x_ife, kLoop_eq, x_loop, x_whl, kWh_eq, x_brk, x_cnt, x_pass, x_boom, x_drop, kRa_eq, x_raise, x_raise0, x_try, ty_exc, ty_nx, ty_ret, kCl2_eq, kCl1_eq, kTr_eq, kB2_eq, kB1_eq, kU_eq, kTup_eq, kLst_eq, kS2_eq, kS1_eq, kC3_eq, kC2_eq, kC1_eq, kCall_eq, kK2_eq, kK1_eq, kBl_eq, kM2_eq, kM1_eq, kCo_eq, kRg_eq, kEn_eq, kZ2_eq, kZ1_eq, kBi_eq, kMk_eq, kIx_eq, kFl_eq, kCv2_eq, kCv1_eq, kLi2_eq, kLi1_eq, kL1_eq, kL3_eq, kL2_eq, kSs_eq, v_int, t_int, v_str, t_str, v_bl, t_bl, v_non, t_non, v_cst, t_cst, v_fnv, t_fnv, v_tyv, t_tyv, v_bin, t_bin, v_un, t_un, v_tup, t_tup, v_lst, t_lst, v_sub, t_sub, v_slc, t_slc, v_call, t_call, v_callk, t_callk, v_blt, t_blt, v_mth, t_mth, v_comp, t_comp, v_rng, t_rng, v_enm, t_enm, v_zip, t_zip, v_dnew, t_dnew, v_ddis, t_ddis, v_mk0, t_mk0, v_mk1, t_mk1, v_mkk, t_mkk, v_isx, t_isx, v_fld, t_fld, v_callv, t_callv, v_lidx, t_lidx, v_bits, t_bits, v_lrn1, t_lrn1, v_lrng, t_lrng, v_sset, t_sset, kVb_eq, kQ2_eq, kQ1_eq, kH4_eq, kH3_eq, kH2_eq, kH1_eq, v_cmp, t_cmp, v_chn, t_chn, v_var, t_var, kN2_eq, kN1_eq, kNt_eq, v_not, t_not, kAn_eq, kAt_eq, v_and, t_and, kOn_eq, kOt_eq, v_or, t_or, kIv_eq, kIt_eq, v_ife, t_ife, v_seq, v_no, kOs2_eq, kOs1_eq, os_nil, os_cons, kF2_eq, kF1_eq, f_nil, f_cons, kG2_eq, kG1_eq, kG3_eq, g_nil, g_val, g_slot, kGt_eq, g_tmpc, o_var, kIe_eq, it_ev, p_no, kRt_eq, r_var, kV_eq, kPt_eq, o_int, r_int, p_int, o_str, r_str, p_str, o_bl, r_bl, p_bl, o_non, r_non, p_non, o_cst, r_cst, p_cst, o_fnv, r_fnv, p_fnv, o_tyv, r_tyv, p_tyv, o_bin, r_bin, p_bin, o_un, r_un, p_un, o_tup, r_tup, p_tup, o_lst, r_lst, p_lst, o_sub, r_sub, p_sub, o_slc, r_slc, p_slc, o_call, r_call, p_call, o_callk, r_callk, p_callk, o_blt, r_blt, p_blt, o_mth, r_mth, p_mth, o_comp, r_comp, p_comp, o_rng, r_rng, p_rng, o_enm, r_enm, p_enm, o_zip, r_zip, p_zip, o_dnew, r_dnew, p_dnew, o_ddis, r_ddis, p_ddis, o_mk0, r_mk0, p_mk0, o_mk1, r_mk1, p_mk1, o_mkk, r_mkk, p_mkk, o_isx, r_isx, p_isx, o_fld, r_fld, p_fld, o_callv, r_callv, p_callv, o_lidx, r_lidx, p_lidx, o_bits, r_bits, p_bits, o_lrn1, r_lrn1, p_lrn1, o_lrng, r_lrng, p_lrng, o_sset, r_sset, p_sset, o_cmp, r_cmp, p_cmp, o_chn, r_chn, p_chn, o_not, r_not, p_not, o_and, r_and, p_and, o_or, r_or, p_or, o_ife, r_ife, p_ife, p_var, kT3_eq, kT2_eq, evVar, tsVar, liftO, liftB, flOf, fzO, okIf, cmp2, rsO, rsOs, unP, truth, lstAt, argV, argVs, slotsOf, argBack, setP, itO, itemsP, setPar, isNonP, kindO, seqOf, ownFz, wipeE, unwipe, consO, enmP, zipP, fnOf?, callV, isLst, List.map_cons, List.map_nil, List.all_cons, List.all_nil, Bool.and_true, Bool.true_and, Bool.and_self, Option.bind_some, Option.map_some, List.getElem?_cons_zero, List.getElem?_cons_succ, List.set_cons_zero, List.set_cons_succ, Option.isSome_some, if_true, if_false, ite_true, ite_false, decide_true, decide_false, Bool.not_true, Bool.not_false, reduceIte, Bool.false_eq_true, pl, isi_n_list, isi_n_tuple, isi_n_bool, isi_n_str, isi_n_int, isi_n_lt, isi_n_bs, isN_n, isnN_n, isi_b_list, isi_b_tuple, isi_b_bool, isi_b_str, isi_b_int, isi_b_lt, isi_b_bs, isN_b, isnN_b, isi_i_list, isi_i_tuple, isi_i_bool, isi_i_str, isi_i_int, isi_i_lt, isi_i_bs, isN_i, isnN_i, isi_s_list, isi_s_tuple, isi_s_bool, isi_s_str, isi_s_int, isi_s_lt, isi_s_bs, isN_s, isnN_s, isi_l_list, isi_l_tuple, isi_l_bool, isi_l_str, isi_l_int, isi_l_lt, isi_l_bs, isN_l, isnN_l, isi_t_list, isi_t_tuple, isi_t_bool, isi_t_str, isi_t_int, isi_t_lt, isi_t_bs, isN_t, isnN_t, eq_ii, hw0, hw1, hw, um1, Bd.ix_tup, hy, hne, blt_isi, blt_len_t, truth_b, add_p, s1, e1, s2, e2, h0, h1, h2, h3, h4, h5, doCall, nd0, nd1, sz0, sz1, sz2, sz3, sz4, sz5, sz6, sz7, sz8, sz9, sz10, sz11, sz12, sz13, sz14, sz15, sz16, sz17, sz18, sz19, sz20]
  try rfl
theorem way3 {o : PV} (hw0 : (w == 0) = false) (hw1 : (w == 1) = false) (hw : (w == 2) = false) (s2 : C.sig "_law_of" = some [true, false]) (e2 : C.run "_law_of" [p, .lst oddL] = .ok (o, .fz) [q]) (h1 : slP (.tup xs) none (some r) = some (.tup A)) (h2 : slP (.tup xs) (some (r + 1)) none = some (.tup B))
    (h3 : binP .Add (.tup A) (.tup [o]) = some (.tup (A ++ [o]))) (h4 : binP .Add (.tup (A ++ [o])) (.tup B) = some (.tup (A ++ [o] ++ B))) :
    exec C spRest (Es p xs r (some (.lst oddL, .own)) (some (.int w, .fz)) none none) = .ret (.tup (A ++ [o] ++ B), .fz) (Es q xs r (some (.lst oddL, .fz)) (some (.int w, .fz)) none none) := by
  unfold spRest d__law_spoilt
  simp only [bd_ok, bd_exc, bd_bad, fo_ok, fo_exc, th_nx, th_ret, th_exc, th_brk, th_cnt, tk_nx, tk_cnt, tk_brk, tk_ret, tk_exc, x_nil, x_seq, kAsg_eq, x_asg, kUnp_eq, x_unp, kPar_eq, x_par, kSet2_eq, kDct2_eq, kSet1_eq, x_seti, kApp_eq, x_app, kExpr_eq, x_expr, x_ret, x_retN, kIf_eq, x_ife, kLoop_eq, x_loop, x_whl, kWh_eq, x_brk, x_cnt, x_pass, x_boom, x_drop, kRa_eq, x_raise, x_raise0, x_try, ty_exc, ty_nx, ty_ret, kCl2_eq, kCl1_eq, kTr_eq, kB2_eq, kB1_eq, kU_eq, kTup_eq, kLst_eq, kS2_eq, kS1_eq, kC3_eq, kC2_eq, kC1_eq, kCall_eq, kK2_eq, kK1_eq, kBl_eq, kM2_eq, kM1_eq, kCo_eq, kRg_eq, kEn_eq, kZ2_eq, kZ1_eq, kBi_eq, kMk_eq, kIx_eq, kFl_eq, kCv2_eq, kCv1_eq, kLi2_eq, kLi1_eq, kL1_eq, kL3_eq, kL2_eq, kSs_eq, v_int, t_int, v_str, t_str, v_bl, t_bl, v_non, t_non, v_cst, t_cst, v_fnv, t_fnv, v_tyv, t_tyv, v_bin, t_bin, v_un, t_un, v_tup, t_tup, v_lst, t_lst, v_sub, t_sub, v_slc, t_slc, v_call, t_call, v_callk, t_callk, v_blt, t_blt, v_mth, t_mth, v_comp, t_comp, v_rng, t_rng, v_enm, t_enm, v_zip, t_zip, v_dnew, t_dnew, v_ddis, t_ddis, v_mk0, t_mk0, v_mk1, t_mk1, v_mkk, t_mkk, v_isx, t_isx, v_fld, t_fld, v_callv, t_callv, v_lidx, t_lidx, v_bits, t_bits, v_lrn1, t_lrn1, v_lrng, t_lrng, v_sset, t_sset, kVb_eq, kQ2_eq, kQ1_eq, kH4_eq, kH3_eq, kH2_eq, kH1_eq, v_cmp, t_cmp, v_chn, t_chn, v_var, t_var, kN2_eq, kN1_eq, kNt_eq, v_not, t_not, kAn_eq, kAt_eq, v_and, t_and, kOn_eq, kOt_eq, v_or, t_or, kIv_eq, kIt_eq, v_ife, t_ife, v_seq, v_no, kOs2_eq, kOs1_eq, os_nil, os_cons, kF2_eq, kF1_eq, f_nil, f_cons, kG2_eq, kG1_eq, kG3_eq, g_nil, g_val, g_slot, kGt_eq, g_tmpc, o_var, kIe_eq, it_ev, p_no, kRt_eq, r_var, kV_eq, kPt_eq, o_int, r_int, p_int, o_str, r_str, p_str, o_bl, r_bl, p_bl, o_non, r_non, p_non, o_cst, r_cst, p_cst, o_fnv, r_fnv, p_fnv, o_tyv, r_tyv, p_tyv, o_bin, r_bin, p_bin, o_un, r_un, p_un, o_tup, r_tup, p_tup, o_lst, r_lst, p_lst, o_sub, r_sub, p_sub, o_slc, r_slc, p_slc, o_call, r_call, p_call, o_callk, r_callk, p_callk, o_blt, r_blt, p_blt, o_mth, r_mth, p_mth, o_comp, r_comp, p_comp, o_rng, r_rng, p_rng, o_enm, r_enm, p_enm, o_zip, r_zip, p_zip, o_dnew, r_dnew, p_dnew, o_ddis, r_ddis, p_ddis, o_mk0, r_mk0, p_mk0, o_mk1, r_mk1, p_mk1, o_mkk, r_mkk, p_mkk, o_isx, r_isx, p_isx, o_fld, r_fld, p_fld, o_callv, r_callv, p_callv, o_lidx, r_lidx, p_lidx, o_bits, r_bits, p_bits, o_lrn1, r_lrn1, p_lrn1, o_lrng, r_lrng, p_lrng, o_sset, r_sset, p_sset, o_cmp, r_cmp, p_cmp, o_chn, r_chn, p_chn, o_not, r_not, p_not, o_and, r_and, p_and, o_or, r_or, p_or, o_ife, r_ife, p_ife, p_var, kT3_eq, kT2_eq, evVar, tsVar, liftO, liftB, flOf, fzO, okIf, cmp2, rsO, rsOs, unP, truth, lstAt, argV, argVs, slotsOf, argBack, setP, itO, itemsP, setPar, isNonP, kindO, seqOf, ownFz, wipeE, unwipe, consO, enmP, zipP, fnOf?, callV, isLst, List.map_cons, List.map_nil, List.all_cons, List.all_nil, Bool.and_true, Bool.true_and, Bool.and_self, Option.bind_some, Option.map_some, List.getElem?_cons_zero, List.getElem?_cons_succ, List.set_cons_zero, List.set_cons_succ, Option.isSome_some, if_true, if_false, ite_true, ite_false, decide_true, decide_false, Bool.not_true, Bool.not_false, reduceIte, Bool.false_eq_true, eq_ii, hw0, hw1, hw, add_p, s2, e2, h1, h2, h3, h4, doCall, nd0, nd1, sz0, sz1, sz2, sz3, sz4, sz5, sz6, sz7, sz8, sz9, sz10, sz11, sz12, sz13, sz14, sz15, sz16, sz17, sz18, sz19, sz20]
  try rfl
theorem way2n {o : PV} {x : PV} (hw0 : (w == 0) = false) (hw1 : (w == 1) = false) (hw : (w == 2) = true) (hy : atI xs (-1) = some x) (hi : isiP x (.ty .tuple) = some false) (s2 : C.sig "_law_of" = some [true, false]) (e2 : C.run "_law_of" [p, .lst oddL] = .ok (o, .fz) [q]) (h1 : slP (.tup xs) none (some r) = some (.tup A)) (h2 : slP (.tup xs) (some (r + 1)) none = some (.tup B))
    (h3 : binP .Add (.tup A) (.tup [o]) = some (.tup (A ++ [o]))) (h4 : binP .Add (.tup (A ++ [o])) (.tup B) = some (.tup (A ++ [o] ++ B))) :
    exec C spRest (Es p xs r (some (.lst oddL, .own)) (some (.int w, .fz)) none none) = .ret (.tup (A ++ [o] ++ B), .fz) (Es q xs r (some (.lst oddL, .fz)) (some (.int w, .fz)) none none) := by
  have um1 : unP .USub (.int 1) = some (.int (-1)) := rfl
  unfold spRest d__law_spoilt
  simp only [bd_ok, bd_exc, bd_bad, fo_ok, fo_exc, th_nx, th_ret, th_exc, th_brk, th_cnt, tk_nx, tk_cnt, tk_brk, tk_ret, tk_exc, x_nil, x_seq, kAsg_eq, x_asg, kUnp_eq, x_unp, kPar_eq, x_par, kSet2_eq, kDct2_eq, kSet1_eq, x_seti, kApp_eq, x_app, kExpr_eq, x_expr, x_ret, x_retN, kIf_eq, x_ife, kLoop_eq, x_loop, x_whl, kWh_eq, x_brk, x_cnt, x_pass, x_boom, x_drop, kRa_eq, x_raise, x_raise0, x_try, ty_exc, ty_nx, ty_ret, kCl2_eq, kCl1_eq, kTr_eq, kB2_eq, kB1_eq, kU_eq, kTup_eq, kLst_eq, kS2_eq, kS1_eq, kC3_eq, kC2_eq, kC1_eq, kCall_eq, kK2_eq, kK1_eq, kBl_eq, kM2_eq, kM1_eq, kCo_eq, kRg_eq, kEn_eq, kZ2_eq, kZ1_eq, kBi_eq, kMk_eq, kIx_eq, kFl_eq, kCv2_eq, kCv1_eq, kLi2_eq, kLi1_eq, kL1_eq, kL3_eq, kL2_eq, kSs_eq, v_int, t_int, v_str, t_str, v_bl, t_bl, v_non, t_non, v_cst, t_cst, v_fnv, t_fnv, v_tyv, t_tyv, v_bin, t_bin, v_un, t_un, v_tup, t_tup, v_lst, t_lst, v_sub, t_sub, v_slc, t_slc, v_call, t_call, v_callk, t_callk, v_blt, t_blt, v_mth, t_mth, v_comp, t_comp, v_rng, t_rng, v_enm, t_enm, v_zip, t_zip, v_dnew, t_dnew, v_ddis, t_ddis, v_mk0, t_mk0, v_mk1, t_mk1, v_mkk, t_mkk, v_isx, t_isx, v_fld, t_fld, v_callv, t_callv, v_lidx, t_lidx, v_bits, t_bits, v_lrn1, t_lrn1, v_lrng, t_lrng, v_sset, t_sset, kVb_eq, kQ2_eq, kQ1_eq, kH4_eq, kH3_eq, kH2_eq, kH1_eq, v_cmp, t_cmp, v_chn, t_chn, v_var, t_var, kN2_eq, kN1_eq, kNt_eq, v_not, t_not, kAn_eq, kAt_eq, v_and, t_and, kOn_eq, kOt_eq, v_or, t_or, kIv_eq, kIt_eq, v_ife, t_ife, v_seq, v_no, kOs2_eq, kOs1_eq, os_nil, os_cons, kF2_eq, kF1_eq, f_nil, f_cons, kG2_eq, kG1_eq, kG3_eq, g_nil, g_val, g_slot, kGt_eq, g_tmpc, o_var, kIe_eq, it_ev, p_no, kRt_eq, r_var, kV_eq, kPt_eq, o_int, r_int, p_int, o_str, r_str, p_str, o_bl, r_bl, p_bl, o_non, r_non, p_non, o_cst, r_cst, p_cst, o_fnv, r_fnv, p_fnv, o_tyv, r_tyv, p_tyv, o_bin, r_bin, p_bin, o_un, r_un, p_un, o_tup, r_tup, p_tup, o_lst, r_lst, p_lst, o_sub, r_sub, p_sub, o_slc, r_slc, p_slc, o_call, r_call, p_call, o_callk, r_callk, p_callk, o_blt, r_blt, p_blt, o_mth, r_mth, p_mth, o_comp, r_comp, p_comp, o_rng, r_rng, p_rng, o_enm, r_enm, p_enm, o_zip, r_zip, p_zip, o_dnew, r_dnew, p_dnew, o_ddis, r_ddis, p_ddis, o_mk0, r_mk0, p_mk0, o_mk1, r_mk1, p_mk1, o_mkk, r_mkk, p_mkk, o_isx, r_isx, p_isx, o_fld, r_fld, p_fld, o_callv, r_callv, p_callv, o_lidx, r_lidx, p_lidx, o_bits, r_bits, p_bits, o_lrn1, r_lrn1, p_lrn1, o_lrng, r_lrng, p_lrng, o_sset, r_sset, p_sset, o_cmp, r_cmp, p_cmp, o_chn, r_chn, p_chn, o_not, r_not, p_not, o_and, r_and, p_and, o_or, r_or, p_or, o_ife, r_ife, p_ife, p_var, kT3_eq, kT2_eq, evVar, tsVar, liftO, liftB, flOf, fzO, okIf, cmp2, rsO, rsOs, unP, truth, lstAt, argV, argVs, slotsOf, argBack, setP, itO, itemsP, setPar, isNonP, kindO, seqOf, ownFz, wipeE, unwipe, consO, enmP, zipP, fnOf?, callV, isLst, List.map_cons, List.map_nil, List.all_cons, List.all_nil, Bool.and_true, Bool.true_and, Bool.and_self, Option.bind_some, Option.map_some, List.getElem?_cons_zero, List.getElem?_cons_succ, List.set_cons_zero, List.set_cons_succ, Option.isSome_some, if_true, if_false, ite_true, ite_false, decide_true, decide_false, Bool.not_true, Bool.not_false, reduceIte, Bool.false_eq_true, eq_ii, hw0, hw1, hw, um1, Bd.ix_tup, hy, hi, blt_isi, truth_b, add_p, s2, e2, h1, h2, h3, h4, doCall, nd0, nd1, sz0, sz1, sz2, sz3, sz4, sz5, sz6, sz7, sz8, sz9, sz10, sz11, sz12, sz13, sz14, sz15, sz16, sz17, sz18, sz19, sz20]
  try rfl
theorem way2e {o : PV} (hw0 : (w == 0) = false) (hw1 : (w == 1) = false) (hw : (w == 2) = true) (hy : atI xs (-1) = some (.tup [])) (s2 : C.sig "_law_of" = some [true, false]) (e2 : C.run "_law_of" [p, .lst oddL] = .ok (o, .fz) [q]) (h1 : slP (.tup xs) none (some r) = some (.tup A)) (h2 : slP (.tup xs) (some (r + 1)) none = some (.tup B))
    (h3 : binP .Add (.tup A) (.tup [o]) = some (.tup (A ++ [o]))) (h4 : binP .Add (.tup (A ++ [o])) (.tup B) = some (.tup (A ++ [o] ++ B))) :
    exec C spRest (Es p xs r (some (.lst oddL, .own)) (some (.int w, .fz)) none none) = .ret (.tup (A ++ [o] ++ B), .fz) (Es q xs r (some (.lst oddL, .fz)) (some (.int w, .fz)) none none) := by
  have um1 : unP .USub (.int 1) = some (.int (-1)) := rfl
  have ne : cmpP .NotEq (.tup []) (.tup []) = some false := rfl
  unfold spRest d__law_spoilt
  simp only [bd_ok, bd_exc, bd_bad, fo_ok, fo_exc, th_nx, th_ret, th_exc, th_brk, th_cnt, tk_nx, tk_cnt, tk_brk, tk_ret, tk_exc, x_nil, x_seq, kAsg_eq, x_asg, kUnp_eq, x_unp, kPar_eq, x_par, kSet2_eq, kDct2_eq, kSet1_eq, x_seti, kApp_eq, x_app, kExpr_eq, x_expr, x_ret, x_retN, kIf_eq, x_ife, kLoop_eq, x_loop, x_whl, kWh_eq, x_brk, x_cnt, x_pass, x_boom, x_drop, kRa_eq, x_raise, x_raise0, x_try, ty_exc, ty_nx, ty_ret, kCl2_eq, kCl1_eq, kTr_eq, kB2_eq, kB1_eq, kU_eq, kTup_eq, kLst_eq, kS2_eq, kS1_eq, kC3_eq, kC2_eq, kC1_eq, kCall_eq, kK2_eq, kK1_eq, kBl_eq, kM2_eq, kM1_eq, kCo_eq, kRg_eq, kEn_eq, kZ2_eq, kZ1_eq, kBi_eq, kMk_eq, kIx_eq, kFl_eq, kCv2_eq, kCv1_eq, kLi2_eq, kLi1_eq, kL1_eq, kL3_eq, kL2_eq, kSs_eq, v_int, t_int, v_str, t_str, v_bl, t_bl, v_non, t_non, v_cst, t_cst, v_fnv, t_fnv, v_tyv, t_tyv, v_bin, t_bin, v_un, t_un, v_tup, t_tup, v_lst, t_lst, v_sub, t_sub, v_slc, t_slc, v_call, t_call, v_callk, t_callk, v_blt, t_blt, v_mth, t_mth, v_comp, t_comp, v_rng, t_rng, v_enm, t_enm, v_zip, t_zip, v_dnew, t_dnew, v_ddis, t_ddis, v_mk0, t_mk0, v_mk1, t_mk1, v_mkk, t_mkk, v_isx, t_isx, v_fld, t_fld, v_callv, t_callv, v_lidx, t_lidx, v_bits, t_bits, v_lrn1, t_lrn1, v_lrng, t_lrng, v_sset, t_sset, kVb_eq, kQ2_eq, kQ1_eq, kH4_eq, kH3_eq, kH2_eq, kH1_eq, v_cmp, t_cmp, v_chn, t_chn, v_var, t_var, kN2_eq, kN1_eq, kNt_eq, v_not, t_not, kAn_eq, kAt_eq, v_and, t_and, kOn_eq, kOt_eq, v_or, t_or, kIv_eq, kIt_eq, v_ife, t_ife, v_seq, v_no, kOs2_eq, kOs1_eq, os_nil, os_cons, kF2_eq, kF1_eq, f_nil, f_cons, kG2_eq, kG1_eq, kG3_eq, g_nil, g_val, g_slot, kGt_eq, g_tmpc, o_var, kIe_eq, it_ev, p_no, kRt_eq, r_var, kV_eq, kPt_eq, o_int, r_int, p_int, o_str, r_str, p_str, o_bl, r_bl, p_bl, o_non, r_non, p_non, o_cst, r_cst, p_cst, o_fnv, r_fnv, p_fnv, o_tyv, r_tyv, p_tyv, o_bin, r_bin, p_bin, o_un, r_un, p_un, o_tup, r_tup, p_tup, o_lst, r_lst, p_lst, o_sub, r_sub, p_sub, o_slc, r_slc, p_slc, o_call, r_call, p_call, o_callk, r_callk, p_callk, o_blt, r_blt, p_blt, o_mth, r_mth, p_mth, o_comp, r_comp, p_comp, o_rng, r_rng, p_rng, o_enm, r_enm, p_enm, o_zip, r_zip, p_zip, o_dnew, r_dnew, p_dnew, o_ddis, r_ddis, p_ddis, o_mk0, r_mk0, p_mk0, o_mk1, r_mk1, p_mk1, o_mkk, r_mkk, p_mkk, o_isx, r_isx, p_isx, o_fld, r_fld, p_fld, o_callv, r_callv, p_callv, o_lidx, r_lidx, p_lidx, o_bits, r_bits, p_bits, o_lrn1, r_lrn1, p_lrn1, o_lrng, r_lrng, p_lrng, o_sset, r_sset, p_sset, o_cmp, r_cmp, p_cmp, o_chn, r_chn, p_chn, o_not, r_not, p_not, o_and, r_and, p_and, o_or, r_or, p_or, o_ife, r_ife, p_ife, p_var, kT3_eq, kT2_eq, evVar, tsVar, liftO, liftB, flOf, fzO, okIf, cmp2, rsO, rsOs, unP, truth, lstAt, argV, argVs, slotsOf, argBack, setP, itO, itemsP, setPar, isNonP, kindO, seqOf, ownFz, wipeE, unwipe, consO, enmP, zipP, fnOf?, callV, isLst, List.map_cons, List.map_nil, List.all_cons, List.all_nil, Bool.and_true, Bool.true_and, Bool.and_self, Option.bind_some, Option.map_some, List.getElem?_cons_zero, List.getElem?_cons_succ, List.set_cons_zero, List.set_cons_succ, Option.isSome_some, if_true, if_false, ite_true, ite_false, decide_true, decide_false, Bool.not_true, Bool.not_false, reduceIte, Bool.false_eq_true, isi_n_list, isi_n_tuple, isi_n_bool, isi_n_str, isi_n_int, isi_n_lt, isi_n_bs, isN_n, isnN_n, isi_b_list, isi_b_tuple, isi_b_bool, isi_b_str, isi_b_int, isi_b_lt, isi_b_bs, isN_b, isnN_b, isi_i_list, isi_i_tuple, isi_i_bool, isi_i_str, isi_i_int, isi_i_lt, isi_i_bs, isN_i, isnN_i, isi_s_list, isi_s_tuple, isi_s_bool, isi_s_str, isi_s_int, isi_s_lt, isi_s_bs, isN_s, isnN_s, isi_l_list, isi_l_tuple, isi_l_bool, isi_l_str, isi_l_int, isi_l_lt, isi_l_bs, isN_l, isnN_l, isi_t_list, isi_t_tuple, isi_t_bool, isi_t_str, isi_t_int, isi_t_lt, isi_t_bs, isN_t, isnN_t, eq_ii, hw0, hw1, hw, um1, Bd.ix_tup, hy, ne, blt_isi, truth_b, add_p, s2, e2, h1, h2, h3, h4, doCall, nd0, nd1, sz0, sz1, sz2, sz3, sz4, sz5, sz6, sz7, sz8, sz9, sz10, sz11, sz12, sz13, sz14, sz15, sz16, sz17, sz18, sz19, sz20]
  try rfl
end
/-! ### slices of tuples -/
theorem sl_to {xs : List PV} {k : Nat} : slP (.tup xs) none (some (k : Int)) = some (.tup (xs.take k)) := by
  show some (PV.tup (cutP xs none (some (k : Int)))) = _
  unfold cutP
  have e1 : HT.sIx xs.length 0 none = 0 := rfl
  have e2 : HT.sIx xs.length xs.length (some (k : Int)) = min k xs.length := by
    show (if (k : Int) < 0 then ((k : Int) + (xs.length : Int)).toNat else min (k : Int).toNat xs.length) = _
    rw [if_neg (by omega)]
    rfl
  rw [e1, e2, List.drop_zero, Nat.sub_zero]
  congr 2
  rw [Nat.min_def]
  split
  · rfl
  · rw [List.take_of_length_le (Nat.le_refl _), List.take_of_length_le (by omega)]
theorem sl_from {xs : List PV} {i : Int} {k : Nat} (hi : i = (k : Int)) (hk : k ≤ xs.length) : slP (.tup xs) (some i) none = some (.tup (xs.drop k)) := by
  subst hi
  show some (PV.tup (cutP xs (some (k : Int)) none)) = _
  unfold cutP
  have e1 : HT.sIx xs.length xs.length none = xs.length := rfl
  have e2 : HT.sIx xs.length 0 (some (k : Int)) = k := by
    show (if (k : Int) < 0 then ((k : Int) + (xs.length : Int)).toNat else min (k : Int).toNat xs.length) = _
    rw [if_neg (by omega), Int.toNat_natCast]
    omega
  rw [e1, e2, List.take_of_length_le (by rw [List.length_drop]; exact Nat.le_refl _)]
theorem sl_last1 {xs : List PV} (h : 1 ≤ xs.length) : slP (.tup xs) none (some (-1)) = some (.tup (xs.take (xs.length - 1))) := by
  show some (PV.tup (cutP xs none (some (-1)))) = _
  unfold cutP
  have e1 : HT.sIx xs.length 0 none = 0 := rfl
  have e2 : HT.sIx xs.length xs.length (some (-1)) = xs.length - 1 := by
    show (if (-1 : Int) < 0 then ((-1 : Int) + (xs.length : Int)).toNat else min (-1 : Int).toNat xs.length) = _
    rw [if_pos (by decide)]
    omega
  rw [e1, e2, List.drop_zero, Nat.sub_zero]
theorem add_tup {a b : List PV} (h : a.length + b.length ≤ 1000) : binP .Add (.tup a) (.tup b) = some (.tup (a ++ b)) := by
  show (if a.length + b.length ≤ sizeLine then some (PV.tup (a ++ b)) else none) = _
  rw [if_pos (Nat.le_trans h (by decide +kernel))]
theorem at_m1 {xs : List PV} (h : 1 ≤ xs.length) : atI xs (-1) = some (xs.getD (xs.length - 1) .non) := by
  unfold atI ixN
  rw [if_neg (by decide), if_pos (by omega)]
  have e : ((-1 : Int) + (xs.length : Int)).toNat = xs.length - 1 := by omega
  show xs[_]? = _
  rw [e, List.getD_eq_getElem?_getD, List.getElem?_eq_getElem (by omega)]
  rfl
theorem ne_some (y : PV) (ys : List PV) (h : cmpOk (.tup (y :: ys)) (.tup []) = true) : cmpP .NotEq (.tup (y :: ys)) (.tup []) = some true := by
  show (if cmpOk (.tup (y :: ys)) (.tup []) then some (!eqP (.tup (y :: ys)) (.tup [])) else none) = _
  rw [h]; rfl
/-- what is asked of a good one -/
structure Gd (xs : List PV) : Prop where
  pos : 1 ≤ xs.length
  few : xs.length ≤ 10
  last : (∃ x, xs.getD (xs.length - 1) .non = x ∧ isiP x (.ty .tuple) = some false) ∨ ∃ ys, xs.getD (xs.length - 1) .non = .tup ys ∧ ys.length ≤ 10 ∧ (ys ≠ [] → cmpOk (.tup ys) (.tup []) = true)
theorem sp_run {n m : Nat} {p : PV} {xs : List PV} (hp : Bx (m + 4) p) (G : Gd xs) : ∃ b q, b ∈ bents xs ∧ Bx m q ∧ (Cn (n + 3)).run "_law_spoilt" [p, .tup xs] = .ok (b, .fz) [q] := by
  have g1 := G.pos
  have g2 := G.few
  obtain ⟨r, p1, e1, r0, r1, hp1⟩ := (takeOk (n + 1)).run (m + 3) p xs.length hp (by omega) (by omega)
  obtain ⟨k, rfl⟩ := Int.eq_ofNat_of_zero_le r0
  obtain ⟨w, p2, e2, w0, w1, hp2⟩ := (takeOk (n + 1)).run (m + 2) p1 5 hp1 (by decide) (by decide)
  have hk : k < xs.length := by omega
  have st1 := (takeOk (n + 1)).sig
  have st2 := (ofOk n).sig
  have run : ∀ {b : PV} {e' : En} {q : PV}, exec (Cn (n + 2)) spRest (Es p2 xs (k : Int) (some (.lst oddL, .own)) (some (.int w, .fz)) none none) = .ret (b, .fz) (some (q, .bor) :: e') → (Cn (n + 3)).run "_law_spoilt" [p, .tup xs] = finish [true, false] (.ret (b, .fz) (some (q, .bor) :: e')) := by
    intro b e' q h
    rw [run_of (d := d__law_spoilt) rfl]
    show finish [true, false] (exec (Cn (n + 2)) d__law_spoilt.body [some (p, .bor), some (.tup xs, .fz), none, none, none, none, none]) = _
    rw [sp_body, step (sp1_run st1 e1) (step sp2_run (step (sp3_run st1 e2) h))]
  have inAt : ∀ {b : PV}, b ∈ bentAt xs k → b ∈ bents xs := fun hb => List.mem_append_left _ (List.mem_flatMap.mpr ⟨k, List.mem_range.mpr hk, hb⟩)
  have lk : (xs.take k).length ≤ 10 := by rw [List.length_take]; omega
  have ld : ∀ j, (xs.drop j).length ≤ 10 := fun j => by rw [List.length_drop]; omega
  have a3 := sl_from (xs := xs) (i := (k : Int) + 1) (k := k + 1) (by omega) (by omega)
  have odn : oddL.length = 14 := rfl
  -- the last way
  have other : ∀ o, o ∈ oddL → .tup (xs.take k ++ [o] ++ xs.drop (k + 1)) ∈ bents xs := fun o ho => inAt (List.mem_cons_of_mem _ (List.mem_append_right _ (List.mem_map.mpr ⟨o, ho, rfl⟩)))
  have ad1 : ∀ o : PV, binP .Add (.tup (xs.take k)) (.tup [o]) = some (.tup (xs.take k ++ [o])) := fun o => add_tup (by show _ + 1 ≤ _; omega)
  have ad2 : ∀ (o : PV) (j : Nat), binP .Add (.tup (xs.take k ++ [o])) (.tup (xs.drop j)) = some (.tup (xs.take k ++ [o] ++ xs.drop j)) := fun o j => add_tup (by
    have := ld j
    rw [List.length_append]
    show _ + 1 + _ ≤ _
    omega)
  by_cases h0 : w = 0
  · subst h0
    exact ⟨_, p2, inAt (List.mem_cons_self ..), hp2.mono (by omega), run (way0 rfl sl_to a3 (add_tup (by have := ld (k + 1); omega)))⟩
  have h0' : (w == 0) = false := by simpa using h0
  by_cases h1 : w = 1
  · subst h1
    obtain ⟨o, q, ho, hq, e3⟩ := (ofOk n).run (m + 1) p2 oddL hp2 (by rw [odn]; decide) (by rw [odn]; decide)
    refine ⟨_, q, inAt (List.mem_cons_of_mem _ (List.mem_append_left _ (List.mem_map.mpr ⟨o, ho, rfl⟩))), hq.mono (by omega), run (way1 h0' rfl st2 e3 sl_to (sl_from rfl (by omega)) (ad1 o) (ad2 o k))⟩
  have h1' : (w == 1) = false := by simpa using h1
  by_cases h2 : w = 2
  · subst h2
    have hy := at_m1 (xs := xs) g1
    rcases G.last with ⟨x, ex, hx⟩ | ⟨ys, ey, hl, hc⟩
    · rw [ex] at hy
      obtain ⟨o, q, ho, hq, e3⟩ := (ofOk n).run (m + 1) p2 oddL hp2 (by rw [odn]; decide) (by rw [odn]; decide)
      exact ⟨_, q, other o ho, hq.mono (by omega), run (way2n h0' h1' rfl hy hx st2 e3 sl_to a3 (ad1 o) (ad2 o _))⟩
    · rw [ey] at hy
      cases ys with
      | nil =>
        obtain ⟨o, q, ho, hq, e3⟩ := (ofOk n).run (m + 1) p2 oddL hp2 (by rw [odn]; decide) (by rw [odn]; decide)
        exact ⟨_, q, other o ho, hq.mono (by omega), run (way2e h0' h1' rfl hy st2 e3 sl_to a3 (ad1 o) (ad2 o _))⟩
      | cons y ys =>
        have lT : lastT xs = y :: ys := by unfold lastT; rw [ey]; rfl
        obtain ⟨r', p3, e4, r0', r1', hp3⟩ := (takeOk (n + 1)).run (m + 1) p2 (y :: ys).length hp2 (by simp) (by omega)
        obtain ⟨j, rfl⟩ := Int.eq_ofNat_of_zero_le r0'
        obtain ⟨o, q, ho, hq, e3⟩ := (ofOk n).run m p3 oddL hp3 (by rw [odn]; decide) (by rw [odn]; decide)
        have hj : j < (y :: ys).length := by omega
        have lt : ((y :: ys).take j).length ≤ 10 := by rw [List.length_take]; omega
        have ldd : ((y :: ys).drop (j + 1)).length ≤ 10 := by rw [List.length_drop]; omega
        refine ⟨_, q, List.mem_append_right _ (List.mem_flatMap.mpr ⟨j, List.mem_range.mpr (by rw [lT]; exact hj), List.mem_map.mpr ⟨o, ho, ?_⟩⟩), hq, run (way2 (A := xs.take (xs.length - 1)) (A' := (y :: ys).take j) (B' := (y :: ys).drop (j + 1)) h0' h1' rfl hy (ne_some _ _ (hc (by simp))) st1 e4 st2 e3 (sl_last1 g1) sl_to (sl_from (by omega) (by omega))
          (add_tup (by show _ + 1 ≤ _; omega)) (add_tup (by rw [List.length_append]; show _ + 1 + _ ≤ _; omega)) (add_tup (by rw [List.length_take]; show _ + 1 ≤ _; omega)))⟩
        rw [lT]
  have h2' : (w == 2) = false := by simpa using h2
  obtain ⟨o, q, ho, hq, e3⟩ := (ofOk n).run (m + 1) p2 oddL hp2 (by rw [odn]; decide) (by rw [odn]; decide)
  exact ⟨_, q, other o ho, hq.mono (by omega), run (way3 h0' h1' h2' st2 e3 sl_to a3 (ad1 o) (ad2 o _))⟩
/-! ### one case, the law -/
theorem same2_of {r s : CRes} (h : same2 r s = true) : ∃ b, r = .ok (.bl b, .fz) [] ∧ s = .ok (.bl b, .fz) [] := by
  unfold same2 at h
  split at h
  · rename_i c d
    have := eq_of_beq h
    subst this
    exact ⟨c, rfl, rfl⟩
  · cases h
theorem okR_of {r : CRes} {b : Bool} (h : okR r b = true) : r = .ok (.bl b, .fz) [] := by
  unfold okR at h
  split at h
  · rw [eq_of_beq h]
  · cases h
theorem good_xs : goodL.all (fun q => (match q with | .tup _ => true | _ => false)) = true := by kernel_rfl
theorem all_chk (n : Nat) : ∀ x ∈ goodL, ∀ b ∈ bents (xsOf x), chk n b = true := by
  intro x hx
  have ts : ∀ k, k < 17 → (bents (xsOf (goodL.getD k .non))).all (chk n) = true := by
    intro k hk
    match k, hk with
    | 0, _ => exact t0 n
    | 1, _ => exact t1 n
    | 2, _ => exact t2 n
    | 3, _ => exact t3 n
    | 4, _ => exact t4 n
    | 5, _ => exact t5 n
    | 6, _ => exact t6 n
    | 7, _ => exact t7 n
    | 8, _ => exact t8 n
    | 9, _ => exact t9 n
    | 10, _ => exact t10 n
    | 11, _ => exact t11 n
    | 12, _ => exact t12 n
    | 13, _ => exact t13 n
    | 14, _ => exact t14 n
    | 15, _ => exact t15 n
    | 16, _ => exact t16 n
    | k + 17, h => exact absurd h (by omega)
  obtain ⟨k, hk, rfl⟩ := List.mem_iff_getElem.mp hx
  intro b hb
  have h17 : goodL.length = 17 := rfl
  have := ts k (by omega)
  rw [List.getD_eq_getElem?_getD, List.getElem?_eq_getElem hk] at this
  exact List.all_eq_true.mp this b hb
def gdB (xs : List PV) : Bool := decide (1 ≤ xs.length) && decide (xs.length ≤ 10) && (match xs.getD (xs.length - 1) .non with
  | .tup ys => decide (ys.length ≤ 10) && cmpOk (.tup ys) (.tup [])
  | x => (match isiP x (.ty .tuple) with
    | some false => true
    | _ => false))
theorem gd_of {xs : List PV} (h : gdB xs = true) : Gd xs := by
  obtain ⟨h12, h3⟩ := band h
  obtain ⟨h1, h2⟩ := band h12
  refine ⟨of_decide_eq_true h1, of_decide_eq_true h2, ?_⟩
  split at h3
  · rename_i ys e
    obtain ⟨a, b⟩ := band h3
    exact .inr ⟨ys, e, of_decide_eq_true a, fun _ => b⟩
  · split at h3
    · rename_i e
      exact .inl ⟨_, rfl, e⟩
    · cases h3
theorem gd_all : goodL.all (fun q => gdB (xsOf q)) = true := by kernel_rfl
theorem rt_run {C : Cal} {p p1 p2 : PV} {own bent : PV} {b : Bool} (g : C.sig "_law_good" = some []) (eg : C.run "_law_good" [] = .ok (.lst goodL, .own) []) (s1 : C.sig "_law_of" = some [true, false]) (e1 : C.run "_law_of" [p, .lst goodL] = .ok (own, .fz) [p1]) (s2 : C.sig "_law_spoilt" = some [true, false]) (e2 : C.run "_law_spoilt" [p1, own] = .ok (bent, .fz) [p2])
    (s3 : C.sig "is_edit" = some [false]) (i1 : C.run "is_edit" [own] = .ok (.bl true, .fz) []) (i2 : C.run "is_edit" [bent] = .ok (.bl b, .fz) []) (i3 : C.run "is_edit" [.tup [bent]] = .ok (.bl false, .fz) []) (s4 : C.sig "_law_fine" = some [false]) (f1 : C.run "_law_fine" [bent] = .ok (.bl b, .fz) []) (s5 : C.sig "_law_same" = some [false, false])
    (sm : C.run "_law_same" [.lst [.bl true, .bl b, .bl false], .lst [.bl true, .bl b, .bl false]] = .ok (.bl true, .fz) []) : exec C d__law_right.body [some (p, .bor), none, none] = .ret (.bl true, .fz) [some (p2, .bor), some (own, .fz), some (bent, .fz)] := by
  unfold d__law_right
  simp only [bd_ok, bd_exc, bd_bad, fo_ok, fo_exc, th_nx, th_ret, th_exc, th_brk, th_cnt, tk_nx, tk_cnt, tk_brk, tk_ret, tk_exc, x_nil, x_seq, kAsg_eq, x_asg, kUnp_eq, x_unp, kPar_eq, x_par, kSet2_eq, kDct2_eq, kSet1_eq, x_seti, kApp_eq, x_app, kExpr_eq, x_expr, x_ret, x_retN, kIf_eq, x_ife, kLoop_eq, x_loop, x_whl, kWh_eq, x_brk, x_cnt, x_pass, x_boom, x_drop, kRa_eq, x_raise, x_raise0, x_try, ty_exc, ty_nx, ty_ret, kCl2_eq, kCl1_eq, kTr_eq, kB2_eq, kB1_eq, kU_eq, kTup_eq, kLst_eq, kS2_eq, kS1_eq, kC3_eq, kC2_eq, kC1_eq, kCall_eq, kK2_eq, kK1_eq, kBl_eq, kM2_eq, kM1_eq, kCo_eq, kRg_eq, kEn_eq, kZ2_eq, kZ1_eq, kBi_eq, kMk_eq, kIx_eq, kFl_eq, kCv2_eq, kCv1_eq, kLi2_eq, kLi1_eq, kL1_eq, kL3_eq, kL2_eq, kSs_eq, v_int, t_int, v_str, t_str, v_bl, t_bl, v_non, t_non, v_cst, t_cst, v_fnv, t_fnv, v_tyv, t_tyv, v_bin, t_bin, v_un, t_un, v_tup, t_tup, v_lst, t_lst, v_sub, t_sub, v_slc, t_slc, v_call, t_call, v_callk, t_callk, v_blt, t_blt, v_mth, t_mth, v_comp, t_comp, v_rng, t_rng, v_enm, t_enm, v_zip, t_zip, v_dnew, t_dnew, v_ddis, t_ddis, v_mk0, t_mk0, v_mk1, t_mk1, v_mkk, t_mkk, v_isx, t_isx, v_fld, t_fld, v_callv, t_callv, v_lidx, t_lidx, v_bits, t_bits, v_lrn1, t_lrn1, v_lrng, t_lrng, v_sset, t_sset, kVb_eq, kQ2_eq, kQ1_eq, kH4_eq, kH3_eq, kH2_eq, kH1_eq, v_cmp, t_cmp, v_chn, t_chn, v_var, t_var, kN2_eq, kN1_eq, kNt_eq, v_not, t_not, kAn_eq, kAt_eq, v_and, t_and, kOn_eq, kOt_eq, v_or, t_or, kIv_eq, kIt_eq, v_ife, t_ife, v_seq, v_no, kOs2_eq, kOs1_eq, os_nil, os_cons, kF2_eq, kF1_eq, f_nil, f_cons, kG2_eq, kG1_eq, kG3_eq, g_nil, g_val, g_slot, kGt_eq, g_tmpc, o_var, kIe_eq, it_ev, p_no, kRt_eq, r_var, kV_eq, kPt_eq, o_int, r_int, p_int, o_str, r_str, p_str, o_bl, r_bl, p_bl, o_non, r_non, p_non, o_cst, r_cst, p_cst, o_fnv, r_fnv, p_fnv, o_tyv, r_tyv, p_tyv, o_bin, r_bin, p_bin, o_un, r_un, p_un, o_tup, r_tup, p_tup, o_lst, r_lst, p_lst, o_sub, r_sub, p_sub, o_slc, r_slc, p_slc, o_call, r_call, p_call, o_callk, r_callk, p_callk, o_blt, r_blt, p_blt, o_mth, r_mth, p_mth, o_comp, r_comp, p_comp, o_rng, r_rng, p_rng, o_enm, r_enm, p_enm, o_zip, r_zip, p_zip, o_dnew, r_dnew, p_dnew, o_ddis, r_ddis, p_ddis, o_mk0, r_mk0, p_mk0, o_mk1, r_mk1, p_mk1, o_mkk, r_mkk, p_mkk, o_isx, r_isx, p_isx, o_fld, r_fld, p_fld, o_callv, r_callv, p_callv, o_lidx, r_lidx, p_lidx, o_bits, r_bits, p_bits, o_lrn1, r_lrn1, p_lrn1, o_lrng, r_lrng, p_lrng, o_sset, r_sset, p_sset, o_cmp, r_cmp, p_cmp, o_chn, r_chn, p_chn, o_not, r_not, p_not, o_and, r_and, p_and, o_or, r_or, p_or, o_ife, r_ife, p_ife, p_var, kT3_eq, kT2_eq, evVar, tsVar, liftO, liftB, flOf, fzO, okIf, cmp2, rsO, rsOs, unP, truth, lstAt, argV, argVs, slotsOf, argBack, setP, itO, itemsP, setPar, isNonP, kindO, seqOf, ownFz, wipeE, unwipe, consO, enmP, zipP, fnOf?, callV, isLst, List.map_cons, List.map_nil, List.all_cons, List.all_nil, Bool.and_true, Bool.true_and, Bool.and_self, Option.bind_some, Option.map_some, List.getElem?_cons_zero, List.getElem?_cons_succ, List.set_cons_zero, List.set_cons_succ, Option.isSome_some, if_true, if_false, ite_true, ite_false, decide_true, decide_false, Bool.not_true, Bool.not_false, reduceIte, Bool.false_eq_true, g, eg, s1, e1, s2, e2, s3, i1, i2, i3, s4, f1, s5, sm, doCall, nd0, nd1, sz0, sz1, sz2, sz3, sz4, sz5, sz6, sz7, sz8, sz9, sz10, sz11, sz12, sz13, sz14, sz15, sz16, sz17, sz18, sz19, sz20]
  try rfl
theorem right_run (n : Nat) {m : Nat} {p : PV} (hp : Bx (m + 5) p) : ∃ q, Bx m q ∧ (Cn (n + 7)).run "_law_right" [p] = .ok (.bl true, .fz) [q] := by
  obtain ⟨x, p1, hx, hp1, e1⟩ := (ofOk (n + 4)).run (m + 4) p goodL hp (by decide) (by decide)
  have hg := List.all_eq_true.mp good_xs x hx
  have G := gd_of (List.all_eq_true.mp gd_all x hx)
  have C := all_chk n x hx
  have ok0 := okR_of (List.all_eq_true.mp (good_ok n) x hx)
  cases x with
  | tup xs =>
    obtain ⟨bent, p2, hb, hp2, e2⟩ := sp_run (n := n + 3) hp1 G
    obtain ⟨c1, c2⟩ := band (C bent hb)
    obtain ⟨b, i2, f1⟩ := same2_of c1
    have i3 := okR_of c2
    have sm := (sameOk (n + 5)).run (.lst [.bl true, .bl b, .bl false]) rfl (by show 1 < n + 5; omega)
    refine ⟨p2, hp2, ?_⟩
    rw [run_of (d := d__law_right) rfl]
    show finish [true] (exec (Cn (n + 6)) d__law_right.body [some (p, .bor), none, none]) = _
    rw [rt_run (sig_of (d := d__law_good) rfl) (good_run (n + 5)) (ofOk (n + 4)).sig e1 (sig_of (d := d__law_spoilt) rfl) e2 (sig_of (d := d_is_edit) rfl) ok0 i2 i3 (sig_of (d := d__law_fine) rfl) f1 (sameOk (n + 5)).sig sm]
    rfl
  | _ => cases hg
end K14

namespace K14
open PySem L2 Bd
abbrev El (s : PV) (c k b : Option (PV × Fl)) : En := [some (s, .fz), c, k, b, none]
def eltR : IE := .call "_law_right" (.cons (.var 3) .nil)
def compR : IE := .comp [4] (.nm 4) (.rng (.cons (.int 20) .nil)) .no eltR
theorem tl_turn {C : Cal} {s x p q : PV} {c k : Option (PV × Fl)} (s2 : C.sig "_law_right" = some [true]) (e2 : C.run "_law_right" [p] = .ok (.bl true, .fz) [q]) : compTurnE [4] (.nm 4) (ev C .no).2 (ev C eltR).1 x (El s c k (some (p, .own))) = .ok (some (.bl true)) (El s c k (some (q, .own))) := by
  have st : setG (.nm 4) x (El s c k (some (p, .own))) = some [some (s, .fz), c, k, some (p, .own), some (x, .fz)] := rfl
  unfold eltR
  simp only [bd_ok, bd_exc, bd_bad, fo_ok, fo_exc, th_nx, th_ret, th_exc, th_brk, th_cnt, tk_nx, tk_cnt, tk_brk, tk_ret, tk_exc, x_nil, x_seq, kAsg_eq, x_asg, kUnp_eq, x_unp, kPar_eq, x_par, kSet2_eq, kDct2_eq, kSet1_eq, x_seti, kApp_eq, x_app, kExpr_eq, x_expr, x_ret, x_retN, kIf_eq, x_ife, kLoop_eq, x_loop, x_whl, kWh_eq, x_brk, x_cnt, x_pass, x_boom, x_drop, kRa_eq, x_raise, x_raise0, x_try, ty_exc, ty_nx, ty_ret, kCl2_eq, kCl1_eq, kTr_eq, kB2_eq, kB1_eq, kU_eq, kTup_eq, kLst_eq, kS2_eq, kS1_eq, kC3_eq, kC2_eq, kC1_eq, kCall_eq, kK2_eq, kK1_eq, kBl_eq, kM2_eq, kM1_eq, kCo_eq, kRg_eq, kEn_eq, kZ2_eq, kZ1_eq, kBi_eq, kMk_eq, kIx_eq, kFl_eq, kCv2_eq, kCv1_eq, kLi2_eq, kLi1_eq, kL1_eq, kL3_eq, kL2_eq, kSs_eq, v_int, t_int, v_str, t_str, v_bl, t_bl, v_non, t_non, v_cst, t_cst, v_fnv, t_fnv, v_tyv, t_tyv, v_bin, t_bin, v_un, t_un, v_tup, t_tup, v_lst, t_lst, v_sub, t_sub, v_slc, t_slc, v_call, t_call, v_callk, t_callk, v_blt, t_blt, v_mth, t_mth, v_comp, t_comp, v_rng, t_rng, v_enm, t_enm, v_zip, t_zip, v_dnew, t_dnew, v_ddis, t_ddis, v_mk0, t_mk0, v_mk1, t_mk1, v_mkk, t_mkk, v_isx, t_isx, v_fld, t_fld, v_callv, t_callv, v_lidx, t_lidx, v_bits, t_bits, v_lrn1, t_lrn1, v_lrng, t_lrng, v_sset, t_sset, kVb_eq, kQ2_eq, kQ1_eq, kH4_eq, kH3_eq, kH2_eq, kH1_eq, v_cmp, t_cmp, v_chn, t_chn, v_var, t_var, kN2_eq, kN1_eq, kNt_eq, v_not, t_not, kAn_eq, kAt_eq, v_and, t_and, kOn_eq, kOt_eq, v_or, t_or, kIv_eq, kIt_eq, v_ife, t_ife, v_seq, v_no, kOs2_eq, kOs1_eq, os_nil, os_cons, kF2_eq, kF1_eq, f_nil, f_cons, kG2_eq, kG1_eq, kG3_eq, g_nil, g_val, g_slot, kGt_eq, g_tmpc, o_var, kIe_eq, it_ev, p_no, kRt_eq, r_var, kV_eq, kPt_eq, o_int, r_int, p_int, o_str, r_str, p_str, o_bl, r_bl, p_bl, o_non, r_non, p_non, o_cst, r_cst, p_cst, o_fnv, r_fnv, p_fnv, o_tyv, r_tyv, p_tyv, o_bin, r_bin, p_bin, o_un, r_un, p_un, o_tup, r_tup, p_tup, o_lst, r_lst, p_lst, o_sub, r_sub, p_sub, o_slc, r_slc, p_slc, o_call, r_call, p_call, o_callk, r_callk, p_callk, o_blt, r_blt, p_blt, o_mth, r_mth, p_mth, o_comp, r_comp, p_comp, o_rng, r_rng, p_rng, o_enm, r_enm, p_enm, o_zip, r_zip, p_zip, o_dnew, r_dnew, p_dnew, o_ddis, r_ddis, p_ddis, o_mk0, r_mk0, p_mk0, o_mk1, r_mk1, p_mk1, o_mkk, r_mkk, p_mkk, o_isx, r_isx, p_isx, o_fld, r_fld, p_fld, o_callv, r_callv, p_callv, o_lidx, r_lidx, p_lidx, o_bits, r_bits, p_bits, o_lrn1, r_lrn1, p_lrn1, o_lrng, r_lrng, p_lrng, o_sset, r_sset, p_sset, o_cmp, r_cmp, p_cmp, o_chn, r_chn, p_chn, o_not, r_not, p_not, o_and, r_and, p_and, o_or, r_or, p_or, o_ife, r_ife, p_ife, p_var, kT3_eq, kT2_eq, evVar, tsVar, liftO, liftB, flOf, fzO, okIf, cmp2, rsO, rsOs, unP, truth, lstAt, argV, argVs, slotsOf, argBack, setP, itO, itemsP, setPar, isNonP, kindO, seqOf, ownFz, wipeE, unwipe, consO, enmP, zipP, fnOf?, callV, isLst, List.map_cons, List.map_nil, List.all_cons, List.all_nil, Bool.and_true, Bool.true_and, Bool.and_self, Option.bind_some, Option.map_some, List.getElem?_cons_zero, List.getElem?_cons_succ, List.set_cons_zero, List.set_cons_succ, Option.isSome_some, if_true, if_false, ite_true, ite_false, decide_true, decide_false, Bool.not_true, Bool.not_false, reduceIte, Bool.false_eq_true, ct_eq, kT2_eq, kT3_eq, st, s2, e2, doCall, nd0, nd1, sz0, sz1, sz2, sz3, sz4, sz5, sz6, sz7, sz8, sz9, sz10, sz11, sz12, sz13, sz14, sz15, sz16, sz17, sz18, sz19, sz20]
  try rfl
theorem tl_loop {n : Nat} {s : PV} {c k : Option (PV × Fl)} : ∀ (t j m : Nat) (p : PV), Bx (m + 5 * t) p → ∃ q, Bx m q ∧ compLoop (compTurnE [4] (.nm 4) (ev (Cn (n + 7)) .no).2 (ev (Cn (n + 7)) eltR).1) (nts (List.range' j t)) (El s c k (some (p, .own))) = .ok ((List.range' j t).map fun _ => PV.bl true) (El s c k (some (q, .own)))
  | 0, j, m, p, hp => ⟨p, hp, rfl⟩
  | t + 1, j, m, p, hp => by
    obtain ⟨p1, h1, e1⟩ := right_run n (m := m + 5 * t) (p := p) (hp.mono (by omega))
    obtain ⟨q, hq, ih⟩ := tl_loop (n := n) (s := s) (c := c) (k := k) t (j + 1) m p1 h1
    refine ⟨q, hq, ?_⟩
    show compLoop _ (.int (j : Int) :: nts (List.range' (j + 1) t)) _ = _
    rw [cl_cons, tl_turn (sig_of (d := d__law_right) rfl) e1, bd_ok, kCl1_eq, ih]
    rfl
theorem comp_run {n : Nat} {s p : PV} {c k : Option (PV × Fl)} (hp : Bx 100 p) : ∃ q, opd compR (ev (Cn (n + 7)) compR).1 (El s c k (some (p, .own))) = .ok (.val (.lst ((List.range' 0 20).map fun _ => PV.bl true))) (El s c k (some (q, .own))) := by
  obtain ⟨q, _, lp⟩ := tl_loop (n := n) (s := s) (c := c) (k := k) 20 0 0 p hp
  refine ⟨q, ?_⟩
  have hi : evOs (Cn (n + 7)) (.cons (.int 20) .nil) (El s c k (some (p, .own))) = .ok [.val (.int ((20 : Nat) : Int))] (El s c k (some (p, .own))) := rfl
  have hc : (ev (Cn (n + 7)) compR).1 (El s c k (some (p, .own))) = .ok (.lst ((List.range' 0 20).map fun _ => PV.bl true), .own) (El s c k (some (q, .own))) := by
    unfold compR
    rw [comp_it (it_rng2 hi (by decide)) rfl]
    show compEnd _ _ (compLoop _ _ (El s c k (some (p, .own)))) = _
    rw [lp, compEnd_ok _ _ _ _ (by rw [List.length_map, List.length_range']; exact small_sz (by omega))]
    rfl
  unfold compR at hc ⊢
  rw [o_comp, hc]; rfl
def bodyL : IS := (.seq (.asg 3 (.call "_law_box" (.cons (.var 1) (.cons (.var 2) .nil)))) (.seq (.ife (.not (.blt .all (.cons compR .nil))) (.seq (.ret (.bl false)) .nil) .nil) (.seq (.drop [2, 3]) .nil)))
theorem law_body : d_law.body = .seq (.ife (.not (.call "_law_by_hand_right" .nil)) (.seq (.ret (.bl false)) .nil) .nil) (.seq (.asg 1 (.call "_law_cells" (.cons (.var 0) (.cons (.int 3) .nil)))) (.seq (.drop [2, 3]) (.seq (.loop (.nm 2) (.rng (.cons (.blt .len (.cons (.var 1) .nil)) .nil)) bodyL) (.seq (.ret (.bl true)) .nil)))) := rfl
theorem body_run {C : Cal} {s x p q : PV} {L M : List PV} {f : Fl} (hf : f = .own ∨ f = .fz) (s1 : C.sig "_law_box" = some [false, false]) (e1 : C.run "_law_box" [.lst L, x] = .ok (p, .own) []) (b1 : opd compR (ev C compR).1 (El s (some (.lst L, .fz)) (some (x, .fz)) (some (p, .own))) = .ok (.val (.lst M)) (El s (some (.lst L, .fz)) (some (x, .fz)) (some (q, .own)))) (al : bltP .all [.lst M] = some (.bl true)) :
    exec C bodyL (El s (some (.lst L, f)) (some (x, .fz)) none) = .nx (El s (some (.lst L, .fz)) none none) := by
  rcases hf with rfl | rfl
  · unfold bodyL
    simp only [bd_ok, bd_exc, bd_bad, fo_ok, fo_exc, th_nx, th_ret, th_exc, th_brk, th_cnt, tk_nx, tk_cnt, tk_brk, tk_ret, tk_exc, x_nil, x_seq, kAsg_eq, x_asg, kUnp_eq, x_unp, kPar_eq, x_par, kSet2_eq, kDct2_eq, kSet1_eq, x_seti, kApp_eq, x_app, kExpr_eq, x_expr, x_ret, x_retN, kIf_eq, x_ife, kLoop_eq, x_loop, x_whl, kWh_eq, x_brk, x_cnt, x_pass, x_boom, x_drop, kRa_eq, x_raise, x_raise0, x_try, ty_exc, ty_nx, ty_ret, kCl2_eq, kCl1_eq, kTr_eq, kB2_eq, kB1_eq, kU_eq, kTup_eq, kLst_eq, kS2_eq, kS1_eq, kC3_eq, kC2_eq, kC1_eq, kCall_eq, kK2_eq, kK1_eq, kBl_eq, kM2_eq, kM1_eq, kCo_eq, kRg_eq, kEn_eq, kZ2_eq, kZ1_eq, kBi_eq, kMk_eq, kIx_eq, kFl_eq, kCv2_eq, kCv1_eq, kLi2_eq, kLi1_eq, kL1_eq, kL3_eq, kL2_eq, kSs_eq, v_int, t_int, v_str, t_str, v_bl, t_bl, v_non, t_non, v_cst, t_cst, v_fnv, t_fnv, v_tyv, t_tyv, v_bin, t_bin, v_un, t_un, v_tup, t_tup, v_lst, t_lst, v_sub, t_sub, v_slc, t_slc, v_call, t_call, v_callk, t_callk, v_blt, t_blt, v_mth, t_mth, v_comp, t_comp, v_rng, t_rng, v_enm, t_enm, v_zip, t_zip, v_dnew, t_dnew, v_ddis, t_ddis, v_mk0, t_mk0, v_mk1, t_mk1, v_mkk, t_mkk, v_isx, t_isx, v_fld, t_fld, v_callv, t_callv, v_lidx, t_lidx, v_bits, t_bits, v_lrn1, t_lrn1, v_lrng, t_lrng, v_sset, t_sset, kVb_eq, kQ2_eq, kQ1_eq, kH4_eq, kH3_eq, kH2_eq, kH1_eq, v_cmp, t_cmp, v_chn, t_chn, v_var, t_var, kN2_eq, kN1_eq, kNt_eq, v_not, t_not, kAn_eq, kAt_eq, v_and, t_and, kOn_eq, kOt_eq, v_or, t_or, kIv_eq, kIt_eq, v_ife, t_ife, v_seq, v_no, kOs2_eq, kOs1_eq, os_nil, os_cons, kF2_eq, kF1_eq, f_nil, f_cons, kG2_eq, kG1_eq, kG3_eq, g_nil, g_val, g_slot, kGt_eq, g_tmpc, o_var, kIe_eq, it_ev, p_no, kRt_eq, r_var, kV_eq, kPt_eq, o_int, r_int, p_int, o_str, r_str, p_str, o_bl, r_bl, p_bl, o_non, r_non, p_non, o_cst, r_cst, p_cst, o_fnv, r_fnv, p_fnv, o_tyv, r_tyv, p_tyv, o_bin, r_bin, p_bin, o_un, r_un, p_un, o_tup, r_tup, p_tup, o_lst, r_lst, p_lst, o_sub, r_sub, p_sub, o_slc, r_slc, p_slc, o_call, r_call, p_call, o_callk, r_callk, p_callk, o_blt, r_blt, p_blt, o_mth, r_mth, p_mth, o_comp, r_comp, p_comp, o_rng, r_rng, p_rng, o_enm, r_enm, p_enm, o_zip, r_zip, p_zip, o_dnew, r_dnew, p_dnew, o_ddis, r_ddis, p_ddis, o_mk0, r_mk0, p_mk0, o_mk1, r_mk1, p_mk1, o_mkk, r_mkk, p_mkk, o_isx, r_isx, p_isx, o_fld, r_fld, p_fld, o_callv, r_callv, p_callv, o_lidx, r_lidx, p_lidx, o_bits, r_bits, p_bits, o_lrn1, r_lrn1, p_lrn1, o_lrng, r_lrng, p_lrng, o_sset, r_sset, p_sset, o_cmp, r_cmp, p_cmp, o_chn, r_chn, p_chn, o_not, r_not, p_not, o_and, r_and, p_and, o_or, r_or, p_or, o_ife, r_ife, p_ife, p_var, kT3_eq, kT2_eq, evVar, tsVar, liftO, liftB, flOf, fzO, okIf, cmp2, rsO, rsOs, unP, truth, lstAt, argV, argVs, slotsOf, argBack, setP, itO, itemsP, setPar, isNonP, kindO, seqOf, ownFz, wipeE, unwipe, consO, enmP, zipP, fnOf?, callV, isLst, List.map_cons, List.map_nil, List.all_cons, List.all_nil, Bool.and_true, Bool.true_and, Bool.and_self, Option.bind_some, Option.map_some, List.getElem?_cons_zero, List.getElem?_cons_succ, List.set_cons_zero, List.set_cons_succ, Option.isSome_some, if_true, if_false, ite_true, ite_false, decide_true, decide_false, Bool.not_true, Bool.not_false, reduceIte, Bool.false_eq_true, s1, e1, b1, al, doCall, nd0, truth_b, sz0, sz1, sz2, sz3, sz4, sz5, sz6, sz7, sz8, sz9, sz10, sz11, sz12, sz13, sz14, sz15, sz16, sz17, sz18, sz19, sz20]
    try rfl
  · unfold bodyL
    simp only [bd_ok, bd_exc, bd_bad, fo_ok, fo_exc, th_nx, th_ret, th_exc, th_brk, th_cnt, tk_nx, tk_cnt, tk_brk, tk_ret, tk_exc, x_nil, x_seq, kAsg_eq, x_asg, kUnp_eq, x_unp, kPar_eq, x_par, kSet2_eq, kDct2_eq, kSet1_eq, x_seti, kApp_eq, x_app, kExpr_eq, x_expr, x_ret, x_retN, kIf_eq, x_ife, kLoop_eq, x_loop, x_whl, kWh_eq, x_brk, x_cnt, x_pass, x_boom, x_drop, kRa_eq, x_raise, x_raise0, x_try, ty_exc, ty_nx, ty_ret, kCl2_eq, kCl1_eq, kTr_eq, kB2_eq, kB1_eq, kU_eq, kTup_eq, kLst_eq, kS2_eq, kS1_eq, kC3_eq, kC2_eq, kC1_eq, kCall_eq, kK2_eq, kK1_eq, kBl_eq, kM2_eq, kM1_eq, kCo_eq, kRg_eq, kEn_eq, kZ2_eq, kZ1_eq, kBi_eq, kMk_eq, kIx_eq, kFl_eq, kCv2_eq, kCv1_eq, kLi2_eq, kLi1_eq, kL1_eq, kL3_eq, kL2_eq, kSs_eq, v_int, t_int, v_str, t_str, v_bl, t_bl, v_non, t_non, v_cst, t_cst, v_fnv, t_fnv, v_tyv, t_tyv, v_bin, t_bin, v_un, t_un, v_tup, t_tup, v_lst, t_lst, v_sub, t_sub, v_slc, t_slc, v_call, t_call, v_callk, t_callk, v_blt, t_blt, v_mth, t_mth, v_comp, t_comp, v_rng, t_rng, v_enm, t_enm, v_zip, t_zip, v_dnew, t_dnew, v_ddis, t_ddis, v_mk0, t_mk0, v_mk1, t_mk1, v_mkk, t_mkk, v_isx, t_isx, v_fld, t_fld, v_callv, t_callv, v_lidx, t_lidx, v_bits, t_bits, v_lrn1, t_lrn1, v_lrng, t_lrng, v_sset, t_sset, kVb_eq, kQ2_eq, kQ1_eq, kH4_eq, kH3_eq, kH2_eq, kH1_eq, v_cmp, t_cmp, v_chn, t_chn, v_var, t_var, kN2_eq, kN1_eq, kNt_eq, v_not, t_not, kAn_eq, kAt_eq, v_and, t_and, kOn_eq, kOt_eq, v_or, t_or, kIv_eq, kIt_eq, v_ife, t_ife, v_seq, v_no, kOs2_eq, kOs1_eq, os_nil, os_cons, kF2_eq, kF1_eq, f_nil, f_cons, kG2_eq, kG1_eq, kG3_eq, g_nil, g_val, g_slot, kGt_eq, g_tmpc, o_var, kIe_eq, it_ev, p_no, kRt_eq, r_var, kV_eq, kPt_eq, o_int, r_int, p_int, o_str, r_str, p_str, o_bl, r_bl, p_bl, o_non, r_non, p_non, o_cst, r_cst, p_cst, o_fnv, r_fnv, p_fnv, o_tyv, r_tyv, p_tyv, o_bin, r_bin, p_bin, o_un, r_un, p_un, o_tup, r_tup, p_tup, o_lst, r_lst, p_lst, o_sub, r_sub, p_sub, o_slc, r_slc, p_slc, o_call, r_call, p_call, o_callk, r_callk, p_callk, o_blt, r_blt, p_blt, o_mth, r_mth, p_mth, o_comp, r_comp, p_comp, o_rng, r_rng, p_rng, o_enm, r_enm, p_enm, o_zip, r_zip, p_zip, o_dnew, r_dnew, p_dnew, o_ddis, r_ddis, p_ddis, o_mk0, r_mk0, p_mk0, o_mk1, r_mk1, p_mk1, o_mkk, r_mkk, p_mkk, o_isx, r_isx, p_isx, o_fld, r_fld, p_fld, o_callv, r_callv, p_callv, o_lidx, r_lidx, p_lidx, o_bits, r_bits, p_bits, o_lrn1, r_lrn1, p_lrn1, o_lrng, r_lrng, p_lrng, o_sset, r_sset, p_sset, o_cmp, r_cmp, p_cmp, o_chn, r_chn, p_chn, o_not, r_not, p_not, o_and, r_and, p_and, o_or, r_or, p_or, o_ife, r_ife, p_ife, p_var, kT3_eq, kT2_eq, evVar, tsVar, liftO, liftB, flOf, fzO, okIf, cmp2, rsO, rsOs, unP, truth, lstAt, argV, argVs, slotsOf, argBack, setP, itO, itemsP, setPar, isNonP, kindO, seqOf, ownFz, wipeE, unwipe, consO, enmP, zipP, fnOf?, callV, isLst, List.map_cons, List.map_nil, List.all_cons, List.all_nil, Bool.and_true, Bool.true_and, Bool.and_self, Option.bind_some, Option.map_some, List.getElem?_cons_zero, List.getElem?_cons_succ, List.set_cons_zero, List.set_cons_succ, Option.isSome_some, if_true, if_false, ite_true, ite_false, decide_true, decide_false, Bool.not_true, Bool.not_false, reduceIte, Bool.false_eq_true, s1, e1, b1, al, doCall, nd0, truth_b, sz0, sz1, sz2, sz3, sz4, sz5, sz6, sz7, sz8, sz9, sz10, sz11, sz12, sz13, sz14, sz15, sz16, sz17, sz18, sz19, sz20]
    try rfl
theorem ol_loop {n : Nat} {s : PV} {L : List PV} (H : ∀ j : Nat, j < L.length → ∃ p, (Cn (n + 7)).run "_law_box" [.lst L, .int (j : Int)] = .ok (p, .own) [] ∧ Bx 100 p) : ∀ (k j : Nat) (f : Fl), (f = .own ∨ f = .fz) → j + k ≤ L.length → ∃ f' : Fl, forLoop (.nm 2) (exec (Cn (n + 7)) bodyL) (nts (List.range' j k)) (El s (some (.lst L, f)) none none) = .nx (El s (some (.lst L, f')) none none)
  | 0, j, f, hf, _ => ⟨f, rfl⟩
  | k + 1, j, f, hf, hj => by
    obtain ⟨p, e1, hp⟩ := H j (by omega)
    obtain ⟨q, b1⟩ := comp_run (n := n) (s := s) (c := some (.lst L, .fz)) (k := some (.int (j : Int), .fz)) hp
    obtain ⟨f', ih⟩ := ol_loop H k (j + 1) .fz (.inr rfl) (by omega)
    refine ⟨f', ?_⟩
    have al : bltP .all [.lst ((List.range' 0 20).map fun _ => PV.bl true)] = some (.bl true) := by
      rw [blt_all, allBls_true]
      show some (PV.bl (((List.range' 0 20).map fun _ => true).all id)) = _
      rw [all_true]
    have st : setG (.nm 2) (.int (j : Int)) (El s (some (.lst L, f)) none none) = some (El s (some (.lst L, f)) (some (.int (j : Int), .fz)) none) := rfl
    show forLoop _ _ (.int (j : Int) :: nts (List.range' (j + 1) k)) _ = _
    rw [fl_cons, st]
    show turnK _ (exec _ bodyL _) = _
    rw [body_run hf (sig_of (d := d__law_box) rfl) e1 b1 al, tk_nx, ih]
theorem fineN (n : Nat) (hand : (Cn (n + 7)).run "_law_by_hand_right" [] = .ok (.bl true, .fz) []) : Fine (n + 8) := by
  intro ns hn
  obtain ⟨rs, r0, r1, e3⟩ := cells_ok (C := Cn (n + 6)) (d := d__law_cells) rfl rfl rfl 3 (by decide) ns hn
  have hlen : (rs.map PV.int).length = rs.length := List.length_map ..
  have H : ∀ j : Nat, j < (rs.map PV.int).length → ∃ p, (Cn (n + 7)).run "_law_box" [.lst (rs.map PV.int), .int (j : Int)] = .ok (p, .own) [] ∧ Bx 100 p := fun j hj => by
    obtain ⟨g, hg⟩ := at_int rs j (by omega)
    obtain ⟨x, y, e4⟩ := box_ok (C := Cn (n + 6)) (d := d__law_box) (c := 93714) rfl rfl rfl (rs := rs.map PV.int) (k := (j : Int)) (g := g) (by rw [List.length_map]; omega) hg
    exact ⟨_, by rw [run_of (d := d__law_box) rfl]; exact e4, bx_new x y 100 (by decide)⟩
  obtain ⟨f', lp⟩ := ol_loop (n := n) (s := .scr (ns.map PV.int)) H (rs.map PV.int).length 0 .own (.inl rfl) (by omega)
  refine ⟨.fz, [], ?_⟩
  show (Cn (n + 8)).run "law" [.scr (ns.map PV.int)] = _
  rw [run_of (d := d_law) rfl]
  show finish [false] (exec (Cn (n + 7)) d_law.body [some (.scr (ns.map PV.int), .fz), none, none, none, none]) = _
  have sH : (Cn (n + 7)).sig "_law_by_hand_right" = some [] := sig_of (d := d__law_by_hand_right) rfl
  have sC : (Cn (n + 7)).sig "_law_cells" = some [false, false] := sig_of (d := d__law_cells) rfl
  have a1 : exec (Cn (n + 7)) (.ife (.not (.call "_law_by_hand_right" .nil)) (.seq (.ret (.bl false)) .nil) .nil) (El (.scr (ns.map PV.int)) none none none) = .nx (El (.scr (ns.map PV.int)) none none none) := by
    simp only [bd_ok, bd_exc, bd_bad, fo_ok, fo_exc, th_nx, th_ret, th_exc, th_brk, th_cnt, tk_nx, tk_cnt, tk_brk, tk_ret, tk_exc, x_nil, x_seq, kAsg_eq, x_asg, kUnp_eq, x_unp, kPar_eq, x_par, kSet2_eq, kDct2_eq, kSet1_eq, x_seti, kApp_eq, x_app, kExpr_eq, x_expr, x_ret, x_retN, kIf_eq, x_ife, kLoop_eq, x_loop, x_whl, kWh_eq, x_brk, x_cnt, x_pass, x_boom, x_drop, kRa_eq, x_raise, x_raise0, x_try, ty_exc, ty_nx, ty_ret, kCl2_eq, kCl1_eq, kTr_eq, kB2_eq, kB1_eq, kU_eq, kTup_eq, kLst_eq, kS2_eq, kS1_eq, kC3_eq, kC2_eq, kC1_eq, kCall_eq, kK2_eq, kK1_eq, kBl_eq, kM2_eq, kM1_eq, kCo_eq, kRg_eq, kEn_eq, kZ2_eq, kZ1_eq, kBi_eq, kMk_eq, kIx_eq, kFl_eq, kCv2_eq, kCv1_eq, kLi2_eq, kLi1_eq, kL1_eq, kL3_eq, kL2_eq, kSs_eq, v_int, t_int, v_str, t_str, v_bl, t_bl, v_non, t_non, v_cst, t_cst, v_fnv, t_fnv, v_tyv, t_tyv, v_bin, t_bin, v_un, t_un, v_tup, t_tup, v_lst, t_lst, v_sub, t_sub, v_slc, t_slc, v_call, t_call, v_callk, t_callk, v_blt, t_blt, v_mth, t_mth, v_comp, t_comp, v_rng, t_rng, v_enm, t_enm, v_zip, t_zip, v_dnew, t_dnew, v_ddis, t_ddis, v_mk0, t_mk0, v_mk1, t_mk1, v_mkk, t_mkk, v_isx, t_isx, v_fld, t_fld, v_callv, t_callv, v_lidx, t_lidx, v_bits, t_bits, v_lrn1, t_lrn1, v_lrng, t_lrng, v_sset, t_sset, kVb_eq, kQ2_eq, kQ1_eq, kH4_eq, kH3_eq, kH2_eq, kH1_eq, v_cmp, t_cmp, v_chn, t_chn, v_var, t_var, kN2_eq, kN1_eq, kNt_eq, v_not, t_not, kAn_eq, kAt_eq, v_and, t_and, kOn_eq, kOt_eq, v_or, t_or, kIv_eq, kIt_eq, v_ife, t_ife, v_seq, v_no, kOs2_eq, kOs1_eq, os_nil, os_cons, kF2_eq, kF1_eq, f_nil, f_cons, kG2_eq, kG1_eq, kG3_eq, g_nil, g_val, g_slot, kGt_eq, g_tmpc, o_var, kIe_eq, it_ev, p_no, kRt_eq, r_var, kV_eq, kPt_eq, o_int, r_int, p_int, o_str, r_str, p_str, o_bl, r_bl, p_bl, o_non, r_non, p_non, o_cst, r_cst, p_cst, o_fnv, r_fnv, p_fnv, o_tyv, r_tyv, p_tyv, o_bin, r_bin, p_bin, o_un, r_un, p_un, o_tup, r_tup, p_tup, o_lst, r_lst, p_lst, o_sub, r_sub, p_sub, o_slc, r_slc, p_slc, o_call, r_call, p_call, o_callk, r_callk, p_callk, o_blt, r_blt, p_blt, o_mth, r_mth, p_mth, o_comp, r_comp, p_comp, o_rng, r_rng, p_rng, o_enm, r_enm, p_enm, o_zip, r_zip, p_zip, o_dnew, r_dnew, p_dnew, o_ddis, r_ddis, p_ddis, o_mk0, r_mk0, p_mk0, o_mk1, r_mk1, p_mk1, o_mkk, r_mkk, p_mkk, o_isx, r_isx, p_isx, o_fld, r_fld, p_fld, o_callv, r_callv, p_callv, o_lidx, r_lidx, p_lidx, o_bits, r_bits, p_bits, o_lrn1, r_lrn1, p_lrn1, o_lrng, r_lrng, p_lrng, o_sset, r_sset, p_sset, o_cmp, r_cmp, p_cmp, o_chn, r_chn, p_chn, o_not, r_not, p_not, o_and, r_and, p_and, o_or, r_or, p_or, o_ife, r_ife, p_ife, p_var, kT3_eq, kT2_eq, evVar, tsVar, liftO, liftB, flOf, fzO, okIf, cmp2, rsO, rsOs, unP, truth, lstAt, argV, argVs, slotsOf, argBack, setP, itO, itemsP, setPar, isNonP, kindO, seqOf, ownFz, wipeE, unwipe, consO, enmP, zipP, fnOf?, callV, isLst, List.map_cons, List.map_nil, List.all_cons, List.all_nil, Bool.and_true, Bool.true_and, Bool.and_self, Option.bind_some, Option.map_some, List.getElem?_cons_zero, List.getElem?_cons_succ, List.set_cons_zero, List.set_cons_succ, Option.isSome_some, if_true, if_false, ite_true, ite_false, decide_true, decide_false, Bool.not_true, Bool.not_false, reduceIte, Bool.false_eq_true, sH, hand, doCall, nd0, truth_b, sz0, sz1, sz2, sz3, sz4, sz5, sz6, sz7, sz8, sz9, sz10, sz11, sz12, sz13, sz14, sz15, sz16, sz17, sz18, sz19, sz20]
  have e3' : (Cn (n + 7)).run "_law_cells" [.scr (ns.map PV.int), .int 3] = .ok (.lst (rs.map PV.int), .own) [] := by
    rw [run_of (d := d__law_cells) rfl]; exact e3
  have a2 : exec (Cn (n + 7)) (.asg 1 (.call "_law_cells" (.cons (.var 0) (.cons (.int 3) .nil)))) (El (.scr (ns.map PV.int)) none none none) = .nx (El (.scr (ns.map PV.int)) (some (.lst (rs.map PV.int), .own)) none none) := by
    simp only [bd_ok, bd_exc, bd_bad, fo_ok, fo_exc, th_nx, th_ret, th_exc, th_brk, th_cnt, tk_nx, tk_cnt, tk_brk, tk_ret, tk_exc, x_nil, x_seq, kAsg_eq, x_asg, kUnp_eq, x_unp, kPar_eq, x_par, kSet2_eq, kDct2_eq, kSet1_eq, x_seti, kApp_eq, x_app, kExpr_eq, x_expr, x_ret, x_retN, kIf_eq, x_ife, kLoop_eq, x_loop, x_whl, kWh_eq, x_brk, x_cnt, x_pass, x_boom, x_drop, kRa_eq, x_raise, x_raise0, x_try, ty_exc, ty_nx, ty_ret, kCl2_eq, kCl1_eq, kTr_eq, kB2_eq, kB1_eq, kU_eq, kTup_eq, kLst_eq, kS2_eq, kS1_eq, kC3_eq, kC2_eq, kC1_eq, kCall_eq, kK2_eq, kK1_eq, kBl_eq, kM2_eq, kM1_eq, kCo_eq, kRg_eq, kEn_eq, kZ2_eq, kZ1_eq, kBi_eq, kMk_eq, kIx_eq, kFl_eq, kCv2_eq, kCv1_eq, kLi2_eq, kLi1_eq, kL1_eq, kL3_eq, kL2_eq, kSs_eq, v_int, t_int, v_str, t_str, v_bl, t_bl, v_non, t_non, v_cst, t_cst, v_fnv, t_fnv, v_tyv, t_tyv, v_bin, t_bin, v_un, t_un, v_tup, t_tup, v_lst, t_lst, v_sub, t_sub, v_slc, t_slc, v_call, t_call, v_callk, t_callk, v_blt, t_blt, v_mth, t_mth, v_comp, t_comp, v_rng, t_rng, v_enm, t_enm, v_zip, t_zip, v_dnew, t_dnew, v_ddis, t_ddis, v_mk0, t_mk0, v_mk1, t_mk1, v_mkk, t_mkk, v_isx, t_isx, v_fld, t_fld, v_callv, t_callv, v_lidx, t_lidx, v_bits, t_bits, v_lrn1, t_lrn1, v_lrng, t_lrng, v_sset, t_sset, kVb_eq, kQ2_eq, kQ1_eq, kH4_eq, kH3_eq, kH2_eq, kH1_eq, v_cmp, t_cmp, v_chn, t_chn, v_var, t_var, kN2_eq, kN1_eq, kNt_eq, v_not, t_not, kAn_eq, kAt_eq, v_and, t_and, kOn_eq, kOt_eq, v_or, t_or, kIv_eq, kIt_eq, v_ife, t_ife, v_seq, v_no, kOs2_eq, kOs1_eq, os_nil, os_cons, kF2_eq, kF1_eq, f_nil, f_cons, kG2_eq, kG1_eq, kG3_eq, g_nil, g_val, g_slot, kGt_eq, g_tmpc, o_var, kIe_eq, it_ev, p_no, kRt_eq, r_var, kV_eq, kPt_eq, o_int, r_int, p_int, o_str, r_str, p_str, o_bl, r_bl, p_bl, o_non, r_non, p_non, o_cst, r_cst, p_cst, o_fnv, r_fnv, p_fnv, o_tyv, r_tyv, p_tyv, o_bin, r_bin, p_bin, o_un, r_un, p_un, o_tup, r_tup, p_tup, o_lst, r_lst, p_lst, o_sub, r_sub, p_sub, o_slc, r_slc, p_slc, o_call, r_call, p_call, o_callk, r_callk, p_callk, o_blt, r_blt, p_blt, o_mth, r_mth, p_mth, o_comp, r_comp, p_comp, o_rng, r_rng, p_rng, o_enm, r_enm, p_enm, o_zip, r_zip, p_zip, o_dnew, r_dnew, p_dnew, o_ddis, r_ddis, p_ddis, o_mk0, r_mk0, p_mk0, o_mk1, r_mk1, p_mk1, o_mkk, r_mkk, p_mkk, o_isx, r_isx, p_isx, o_fld, r_fld, p_fld, o_callv, r_callv, p_callv, o_lidx, r_lidx, p_lidx, o_bits, r_bits, p_bits, o_lrn1, r_lrn1, p_lrn1, o_lrng, r_lrng, p_lrng, o_sset, r_sset, p_sset, o_cmp, r_cmp, p_cmp, o_chn, r_chn, p_chn, o_not, r_not, p_not, o_and, r_and, p_and, o_or, r_or, p_or, o_ife, r_ife, p_ife, p_var, kT3_eq, kT2_eq, evVar, tsVar, liftO, liftB, flOf, fzO, okIf, cmp2, rsO, rsOs, unP, truth, lstAt, argV, argVs, slotsOf, argBack, setP, itO, itemsP, setPar, isNonP, kindO, seqOf, ownFz, wipeE, unwipe, consO, enmP, zipP, fnOf?, callV, isLst, List.map_cons, List.map_nil, List.all_cons, List.all_nil, Bool.and_true, Bool.true_and, Bool.and_self, Option.bind_some, Option.map_some, List.getElem?_cons_zero, List.getElem?_cons_succ, List.set_cons_zero, List.set_cons_succ, Option.isSome_some, if_true, if_false, ite_true, ite_false, decide_true, decide_false, Bool.not_true, Bool.not_false, reduceIte, Bool.false_eq_true, sC, e3', doCall, nd0, sz0, sz1, sz2, sz3, sz4, sz5, sz6, sz7, sz8, sz9, sz10, sz11, sz12, sz13, sz14, sz15, sz16, sz17, sz18, sz19, sz20]
  have hi : evOs (Cn (n + 7)) (.cons (.blt .len (.cons (.var 1) .nil)) .nil) (El (.scr (ns.map PV.int)) (some (.lst (rs.map PV.int), .own)) none none) = .ok [.val (.int (((rs.map PV.int).length : Nat) : Int))] (El (.scr (ns.map PV.int)) (some (.lst (rs.map PV.int), .own)) none none) := by
    simp only [bd_ok, bd_exc, bd_bad, fo_ok, fo_exc, th_nx, th_ret, th_exc, th_brk, th_cnt, tk_nx, tk_cnt, tk_brk, tk_ret, tk_exc, x_nil, x_seq, kAsg_eq, x_asg, kUnp_eq, x_unp, kPar_eq, x_par, kSet2_eq, kDct2_eq, kSet1_eq, x_seti, kApp_eq, x_app, kExpr_eq, x_expr, x_ret, x_retN, kIf_eq, x_ife, kLoop_eq, x_loop, x_whl, kWh_eq, x_brk, x_cnt, x_pass, x_boom, x_drop, kRa_eq, x_raise, x_raise0, x_try, ty_exc, ty_nx, ty_ret, kCl2_eq, kCl1_eq, kTr_eq, kB2_eq, kB1_eq, kU_eq, kTup_eq, kLst_eq, kS2_eq, kS1_eq, kC3_eq, kC2_eq, kC1_eq, kCall_eq, kK2_eq, kK1_eq, kBl_eq, kM2_eq, kM1_eq, kCo_eq, kRg_eq, kEn_eq, kZ2_eq, kZ1_eq, kBi_eq, kMk_eq, kIx_eq, kFl_eq, kCv2_eq, kCv1_eq, kLi2_eq, kLi1_eq, kL1_eq, kL3_eq, kL2_eq, kSs_eq, v_int, t_int, v_str, t_str, v_bl, t_bl, v_non, t_non, v_cst, t_cst, v_fnv, t_fnv, v_tyv, t_tyv, v_bin, t_bin, v_un, t_un, v_tup, t_tup, v_lst, t_lst, v_sub, t_sub, v_slc, t_slc, v_call, t_call, v_callk, t_callk, v_blt, t_blt, v_mth, t_mth, v_comp, t_comp, v_rng, t_rng, v_enm, t_enm, v_zip, t_zip, v_dnew, t_dnew, v_ddis, t_ddis, v_mk0, t_mk0, v_mk1, t_mk1, v_mkk, t_mkk, v_isx, t_isx, v_fld, t_fld, v_callv, t_callv, v_lidx, t_lidx, v_bits, t_bits, v_lrn1, t_lrn1, v_lrng, t_lrng, v_sset, t_sset, kVb_eq, kQ2_eq, kQ1_eq, kH4_eq, kH3_eq, kH2_eq, kH1_eq, v_cmp, t_cmp, v_chn, t_chn, v_var, t_var, kN2_eq, kN1_eq, kNt_eq, v_not, t_not, kAn_eq, kAt_eq, v_and, t_and, kOn_eq, kOt_eq, v_or, t_or, kIv_eq, kIt_eq, v_ife, t_ife, v_seq, v_no, kOs2_eq, kOs1_eq, os_nil, os_cons, kF2_eq, kF1_eq, f_nil, f_cons, kG2_eq, kG1_eq, kG3_eq, g_nil, g_val, g_slot, kGt_eq, g_tmpc, o_var, kIe_eq, it_ev, p_no, kRt_eq, r_var, kV_eq, kPt_eq, o_int, r_int, p_int, o_str, r_str, p_str, o_bl, r_bl, p_bl, o_non, r_non, p_non, o_cst, r_cst, p_cst, o_fnv, r_fnv, p_fnv, o_tyv, r_tyv, p_tyv, o_bin, r_bin, p_bin, o_un, r_un, p_un, o_tup, r_tup, p_tup, o_lst, r_lst, p_lst, o_sub, r_sub, p_sub, o_slc, r_slc, p_slc, o_call, r_call, p_call, o_callk, r_callk, p_callk, o_blt, r_blt, p_blt, o_mth, r_mth, p_mth, o_comp, r_comp, p_comp, o_rng, r_rng, p_rng, o_enm, r_enm, p_enm, o_zip, r_zip, p_zip, o_dnew, r_dnew, p_dnew, o_ddis, r_ddis, p_ddis, o_mk0, r_mk0, p_mk0, o_mk1, r_mk1, p_mk1, o_mkk, r_mkk, p_mkk, o_isx, r_isx, p_isx, o_fld, r_fld, p_fld, o_callv, r_callv, p_callv, o_lidx, r_lidx, p_lidx, o_bits, r_bits, p_bits, o_lrn1, r_lrn1, p_lrn1, o_lrng, r_lrng, p_lrng, o_sset, r_sset, p_sset, o_cmp, r_cmp, p_cmp, o_chn, r_chn, p_chn, o_not, r_not, p_not, o_and, r_and, p_and, o_or, r_or, p_or, o_ife, r_ife, p_ife, p_var, kT3_eq, kT2_eq, evVar, tsVar, liftO, liftB, flOf, fzO, okIf, cmp2, rsO, rsOs, unP, truth, lstAt, argV, argVs, slotsOf, argBack, setP, itO, itemsP, setPar, isNonP, kindO, seqOf, ownFz, wipeE, unwipe, consO, enmP, zipP, fnOf?, callV, isLst, List.map_cons, List.map_nil, List.all_cons, List.all_nil, Bool.and_true, Bool.true_and, Bool.and_self, Option.bind_some, Option.map_some, List.getElem?_cons_zero, List.getElem?_cons_succ, List.set_cons_zero, List.set_cons_succ, Option.isSome_some, if_true, if_false, ite_true, ite_false, decide_true, decide_false, Bool.not_true, Bool.not_false, reduceIte, Bool.false_eq_true, blt_len_l, sz0, sz1, sz2, sz3, sz4, sz5, sz6, sz7, sz8, sz9, sz10, sz11, sz12, sz13, sz14, sz15, sz16, sz17, sz18, sz19, sz20]
  have a4 : exec (Cn (n + 7)) (.loop (.nm 2) (.rng (.cons (.blt .len (.cons (.var 1) .nil)) .nil)) bodyL) (El (.scr (ns.map PV.int)) (some (.lst (rs.map PV.int), .own)) none none) = .nx (El (.scr (ns.map PV.int)) (some (.lst (rs.map PV.int), f')) none none) := by
    rw [loop_it (it_rng hi (by omega)), lp]
  rw [law_body, step a1 (step a2 (step (e1 := El (.scr (ns.map PV.int)) (some (.lst (rs.map PV.int), .own)) none none) rfl (step a4 rfl)))]
  rfl
theorem fine : Fine 10 := fineN 2 (hand_ok 0)
end K14

theorem PySem.Challenge.cw_builtahead_k14_edits_or_none_holds : PySem.Challenge.rw_builtahead_k14_edits_or_none.Holds := by
  exact K14.holds (n := 9) K14.fine ⟨rfl, by decide, by decide⟩
