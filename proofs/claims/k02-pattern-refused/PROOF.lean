import PyProof.Rows.All
import Wide.All
import OpenK.AllK
import Wide.FinOn
import KE.KSuper
import HandS.Base
import HandS.Call
import HandS.Ends
import HandS.More
import HandS.Words
import HandS.Exc
import KE.KExcSuper
import HandS.List
import HandS.ExcInit
import HandS.Comp
import KE.GoesRaise
import HandS.Dict
import HandS.Iter
import HandS.Text
import HandS.Codes
import HandS.Star
import HandS.TryOnly
import HandS.IsInst
import HandS.Deep
import HandS.Flow
import HandS.Evl
import HandS.ExcIs
import HandS.ExcField
import HandS.Defaults
import PyProof.StrOps2
import HandS.WordsExc
import HandS.Head0
import HandS.Head1
import HandS.Head2
import HandS.HeadEnd
import HandS.HeadHook1
import HandS.HeadHook2
import PySem.Challenge.RW_waysbyviews_k02_pattern_refused
set_option Elab.async false
set_option linter.all false
set_option maxRecDepth 100000
set_option maxHeartbeats 0
namespace L2.WB
open PySem PySem.Spec PyProof.Rows

abbrev envS (qual : Str) (sc : Scope) (L f : Addr) (cd : Value) (cc : Addr) : Env := PySem.W.envX qual sc L f cd [("__class__", cc)]

def cxS (CX : CXT) (P : Program) (w : World) (K : PySem.W.Frag) (mg : Str → Option Value) (base : Heap) (N : List Str) (qual : Str) (sc : Scope) (f : Addr) (cd : Value) (cc : Addr) (A : Around) (outer : List Env) (s : Shared) (H : Hp) (E : XK) : Cx :=
  { prog := P, w := w, K := K, mg := mg, base := base, A := A.deeper (envS qual sc s.heap.objs.size f cd cc), N := N, s_0 := s, H_0 := H,
    env := envS qual sc s.heap.objs.size f cd cc, outer := outer, stack := envS qual sc s.heap.objs.size f cd cc :: outer, ex := [], calm := true,
    fn := fun x => !(x == ("__class__" : Str)), pn := [],
    xe := fun e s' => wpAny (model P w) (A.deeper (envS qual sc s.heap.objs.size f cd cc)) (leaving (envS qual sc s.heap.objs.size f cd cc) e) (fun _ s2 => CX outer H s E e s2) (fun e2 s2 => CX outer H s E e2 s2) s' }

structure ScopeS (N ps : List Str) (sc : Scope) : Prop where
  kind : sc.kind = .function
  co : sc.isCoroutine = false
  gen : sc.isGenerator = false
  nd : N.Nodup
  pre : N.take ps.length = ps
  par : ∀ x ∈ ps, sc.names.lookup x = some .local
  nocell : ∀ y ∈ sc.names, y.2 ≠ .cell
  free : ∀ y ∈ sc.names, y.2 = .free → y.1 = "__class__"

theorem lookup_mem_nd {β : Type} {x : Str} {u : β} : ∀ {l : List (Str × β)}, (l.map Prod.fst).Nodup → (x, u) ∈ l → l.lookup x = some u
  | [], _, h => by cases h
  | (y, v) :: r, nd, h => by
    rw [List.map_cons, List.nodup_cons] at nd
    rcases List.mem_cons.mp h with e | e
    · cases e
      simp [List.lookup]
    · have ne : (x == y) = false := by
        apply beq_eq_false_iff_ne.mpr
        intro z
        exact nd.1 (List.mem_map.mpr ⟨(x, u), e, z⟩)
      rw [List.lookup_cons, ne]
      exact lookup_mem_nd nd.2 e

theorem zip_fst {α β : Type} : ∀ (as : List α) (bs : List β), List.Sublist ((as.zip bs).map Prod.fst) as
  | [], _ => by simp
  | a :: as, [] => by simp
  | a :: as, b :: bs => by
    rw [List.zip_cons_cons, List.map_cons]
    exact (zip_fst as bs).cons₂ _
theorem lookup_bound {ps : List Str} {us : List Value} {i : Nat} {x : Str} {u : Value} (nd : ps.Nodup) (h1 : ps[i]? = some x) (h2 : us[i]? = some u) : (ps.zip us).reverse.lookup x = some u := by
  refine lookup_mem_nd ?_ ?_
  · rw [List.map_reverse]
    exact List.pairwise_reverse.mpr ((nd.sublist (zip_fst ps us)).imp fun z => Ne.symm z)
  · rw [List.mem_reverse]
    refine List.mem_of_getElem? (i := i) ?_
    rw [List.getElem?_zip_eq_some]
    exact ⟨h1, h2⟩

theorem inv_startS {CX : CXT} {P : Program} {w : World} {K : PySem.W.Frag} {mg : Str → Option Value} {base : Heap} {N ps : List Str} {qual : Str} {sc : Scope} {f cc : Addr} {cd cv : Value} {ccl : Value} {cdd : Option Addr} {ccs : Array (Option Value)} {A : Around} {outer : List Env} {s : Shared} {h1 : Heap} {tk : Nat} {H : Hp} {E : XK} {us : List Value} {vs : List V}
    (S : ScopeS N ps sc) (hcc : K.lookup cc = some ⟨ccl, cdd, .cell (some cv), ccs⟩) (hd : A.handled = none) (e0 : Env0 P w K mg base A outer s H) (hl : vs.length = ps.length) (r : Vals vs us)
    (hns : h1.Ns s.heap.objs.size (fun x => (ps.zip us).reverse.lookup x)) (hk : ∀ b o, s.heap.get? b = some o → h1.get? b = some o) :
    Inv (cxS CX P w K mg base N qual sc f cd cc A outer s H E) [] (start N vs) H { s with heap := h1, toks := tk } := by
  have hpl : ps.length ≤ N.length := by have := congrArg List.length S.pre; rw [List.length_take] at this; omega
  have hbase : base.get? cc = some ⟨ccl, cdd, .cell (some cv), ccs⟩ := e0.mod.kin _ _ hcc
  have hs := e0.bs _ _ hbase
  have cells1 : ∀ y c, (cxS CX P w K mg base N qual sc f cd cc A outer s H E).env.cells.lookup y = some c → y = "__class__" ∧ c = cc := by
    intro y c h
    have h : ([(("__class__" : Str), cc)] : List (Str × Addr)).lookup y = some c := h
    rw [List.lookup_cons] at h
    split at h
    · rename_i z
      exact ⟨eq_of_beq z, (Option.some.inj h).symm⟩
    · cases h
  have ccn : cc ≠ s.heap.objs.size := Nat.ne_of_lt (Heap.lt_size hs.1)
  have ok : (cxS CX P w K mg base N qual sc f cd cc A outer s H E).Ok := by
    refine ⟨e0.mod, S.kind, rfl, rfl, Nat.le_refl _, ?_, ?_, ?_, fun _ => hd, Around.frames_deeper e0.frames, .inr ⟨rfl, rfl⟩, fun b z => (by cases z), e0.bs, e0.bsz, fun b _ _ z => (by cases z), fun b z => (by cases z), e0.funs, e0.frf⟩
    · intro x y c a1 a2
      rw [(cells1 x c a1).1, (cells1 y c a2).1]
    · intro x hx
      have hx : sc.names.lookup x = some .cell ∨ sc.names.lookup x = some .free := hx
      rcases hx with hx | hx
      · exact absurd rfl (S.nocell _ (PySem.mem_of_lookup hx))
      · have z : x = "__class__" := S.free _ (PySem.mem_of_lookup hx) rfl
        refine ⟨cc, ?_⟩
        show ([(("__class__" : Str), cc)] : List (Str × Addr)).lookup x = some cc
        rw [z]
        simp [List.lookup]
    · intro x c hf hx
      have hf : (!(x == ("__class__" : Str))) = true := hf
      rw [(cells1 x c hx).1] at hf
      simp at hf
  refine ⟨ok, rfl, e0.bare, Un.kept hk, ⟨_, hns, ?_⟩, ?_, e0.hok.fresh (Nat.le_refl _), ?_, ?_, e0.hok.kept hk, ?_⟩
  · intro i y v a1 a2 a3
    have hi : i < vs.length := by
      unfold start at a2
      by_cases hi : i < vs.length
      · exact hi
      · rw [List.getElem?_append_right (by simpa using hi), List.getElem?_replicate] at a2
        split at a2 <;> cases a2
    have ha : vs[i]? = some v := by
      unfold start at a2
      rw [List.getElem?_append_left (by simpa using hi), List.getElem?_map] at a2
      cases e : vs[i]? with
      | none => rw [e] at a2; cases a2
      | some b => rw [e] at a2; cases a2; rfl
    obtain ⟨u, hu, rv⟩ := r.get ha
    have hp : ps[i]? = some y := by
      rw [← S.pre, List.getElem?_take_of_lt (by omega)]
      exact a1
    have ndP : ps.Nodup := by rw [← S.pre]; exact S.nd.sublist (List.take_sublist _ _)
    exact ⟨u, rv, .inl ⟨S.par y (List.mem_of_getElem? hp), lookup_bound ndP hp hu⟩⟩
  · intro x c hx
    rw [(cells1 x c hx).2]
    exact ⟨some cv, _, hk _ _ hs.1, rfl⟩
  · intro x c hx
    rw [(cells1 x c hx).2]
    exact hs.2
  · intro p hp
    exact absurd (show p ∈ ([] : List (Addr × Obj)) from hp) (by simp)
  · unfold start
    show _ = N.length
    rw [List.length_append, List.length_map, List.length_replicate]
    omega

structure PAt (X : Cx) (b : List Stmt) (st : List Stmt) (t : TS) : Prop where
  run : ∀ (pins : List (Addr × Obj)) (s : Shared) (σ : St) (H : Hp) (D : Ends), Inv X pins σ H s → t D σ H → _root_.PySem.wpAt (model X.prog X.w) X.A (.func b X.env) (execs st X.env) (SP X pins D) X.xe s
structure PAt1 (X : Cx) (b : List Stmt) (st : Stmt) (t : TS) : Prop where
  run : ∀ (pins : List (Addr × Obj)) (s : Shared) (σ : St) (H : Hp) (D : Ends), Inv X pins σ H s → t D σ H → _root_.PySem.wpAt (model X.prog X.w) X.A (.func b X.env) (exec st X.env) (SP X pins D) X.xe s
section
variable {X : Cx} {b : List Stmt}
theorem at_of {st : List Stmt} {t : TS} (h : PSs X st t) : PAt X b st t := ⟨fun pins s σ H D I q => wpAt_of_wpAny (h.run pins s σ H D I q)⟩
theorem at1_of {st : Stmt} {t : TS} (h : PS X st t) : PAt1 X b st t := ⟨fun pins s σ H D I q => wpAt_of_wpAny (h.run pins s σ H D I q)⟩
theorem at_cons {st : Stmt} {rest : List Stmt} {t u : TS} (h1 : PAt1 X b st t) (h2 : PAt X b rest u) : PAt X b (st :: rest) (tSeq t u) := by
  refine ⟨fun pins s σ H D I q => ?_⟩
  refine ks_wpAt_execs_cons (ks_wpAt_mono (h1.run pins s σ H { D with nx := u D } I q) (fun f s1 z => ?_) fun _ _ z => z)
  cases f with
  | next =>
    obtain ⟨σ1, H1, I1, z⟩ := z
    exact h2.run pins s1 σ1 H1 D I1 z
  | ret v => exact z
  | brk => exact z
  | cont => exact z
end

theorem fn_ofS {CX : CXT} {P : Program} {w : World} {K : PySem.W.Frag} {mg : Str → Option Value} {base : Heap} {k : Nat} {f cc : Addr} {name qual : Str} {params : Arguments} {body : List Stmt} {sc : Scope} {dV kV doc pm cdv ct oc cv ccl : Value} {an od cdd : Option Addr}
    {osl ccs : Array (Option Value)} {N ps : List Str} {sp : Sp}
    (lk : K.lookup f = some ⟨oc, od, .func (PySem.W.fnX name qual params body sc [("__class__", cc)] dV kV doc pm an cdv ct), osl⟩) (hcd : PySem.W.codeIn K cdv qual = true)
    (hcc : K.lookup cc = some ⟨ccl, cdd, .cell (some cv), ccs⟩) (S : ScopeS N ps sc) (len : ∀ vs H Q E, sp vs H Q E → vs.length = ps.length)
    (hbody : ∀ (A : Around) (outer : List Env) (s : Shared) (H : Hp) (vs : List V) (Q : VK) (E : XK), Room k (A.deeper (envS qual sc s.heap.objs.size f cdv cc)) → sp vs H Q E →
      ∃ t, PAt (cxS CX P w K mg base N qual sc f cdv cc A outer s H E) body body t ∧ t { nx := fun _ H1 => Q .non H1, rt := Q } (start N vs) H) :
    FnOk P w K mg base CX (k + 1) f (PySem.W.fnX name qual params body sc [("__class__", cc)] dV kV doc pm an cdv ct) ps sp := by
  refine ⟨len, fun A outer s H args us vs Q E hr e0 hb r hsp => ?_⟩
  have hl := len _ _ _ _ hsp
  have KX : K.In s.heap := e0.mod.kin.keeps fun b o e => (e0.bs b o e).1
  have lim : s.heap.NoLimit := e0.mod.nolimit.keeps fun b o e => (e0.bs b o e).1
  refine ks_codeAny_call_defAt (fd := PySem.W.fnX name qual params body sc [("__class__", cc)] dV kV doc pm an cdv ct) (body := body) hr.depth (KX _ _ lk) rfl lim (PySem.W.codeRec_of KX hcd) rfl hb S.nocell (fun y hy => ?_) (fun h1 hns hk => ?_) S.co S.gen S.kind
  · obtain ⟨n, v⟩ := y
    exact S.par n (List.of_mem_zip hy).1
  · obtain ⟨t, ht, hq⟩ := hbody A outer s H vs Q E (hr.deeper _) hsp
    have I := inv_startS (CX := CX) (qual := qual) (f := f) (cd := cdv) (E := E) (tk := s.toks + (ps.zip us).length) S hcc hr.hd e0 hl r hns hk
    refine ks_wpAt_mono (ht.run [] _ (start N vs) H _ I hq) (fun fl s2 hs => ?_) fun e s2 hs => hs
    have fin : ∀ {σ1 : St} {H1 : Hp} {v : V} {u : Value}, Inv (cxS CX P w K mg base N qual sc f cdv cc A outer s H E) [] σ1 H1 s2 → RelV v u → Q v H1 → CE outer P w H s Q u s2 :=
      fun {σ1 H1 v u} J rv q => ⟨v, H1, J.os, J.bare, J.base, J.hok, rv, q⟩
    cases fl with
    | ret u =>
      obtain ⟨v, σ1, H1, J, rv, q⟩ := hs
      exact fin J rv q
    | next =>
      obtain ⟨σ1, H1, J, q⟩ := hs
      exact fin (v := V.non) (u := Value.none) J rfl q
    | brk =>
      obtain ⟨_, _, _, q⟩ := hs
      exact False.elim q
    | cont =>
      obtain ⟨_, _, _, q⟩ := hs
      exact False.elim q

structure Sup (P : Program) (K : PySem.W.Frag) (mg : Str → Option Value) (f cc cda D C g : Addr) (slf : Str) : Prop where
  fn : ∃ oc od fd osl ar, K.lookup f = some ⟨oc, od, .func fd, osl⟩ ∧ (fd.params.posonlyargs ++ fd.params.args).head? = some ar ∧ ar.arg = slf
  cd : ∃ ccl cdd vs ccs tf, K.lookup cda = some ⟨ccl, cdd, .fields vs, ccs⟩ ∧ vs[2]? = some (Value.str P.main.file tf)
  cell : ∃ cl cld csl, K.lookup cc = some ⟨cl, cld, .cell (some (.ref D)), csl⟩
  clD : ∃ d, PySem.W.clsIn K D = some d
  clC : ∃ d, PySem.W.clsIn K C = some d
  sub : PySem.W.mroIn K C (.ref D) = some true
  fin : PySem.W.ks_superIn K C D "__init__" = some (some (.ref g))
  gty : PySem.W.typeIn K (.ref g) = some (.type "function")
  gfn : PySem.W.fnIn K g = true
  opq : PySem.W.nsIn K cStatics "thirdparty.any" = some none
  sup : mg "super" = none
  top : (P.main.scope.names.lookup ("super" : Str)).isSome = false

theorem cls_at {K : PySem.W.Frag} {D : Addr} {d : ClassData} {h : Heap} (X : K.In h) (e : PySem.W.clsIn K D = some d) : ∃ o, h.get? D = some o ∧ o.data = .cls d := by
  unfold PySem.W.clsIn at e
  split at e
  · rename_i c1 d1 cd1 sl1 ho
    cases e
    exact ⟨_, X _ _ ho, rfl⟩
  · cases e
theorem ty_at {K : PySem.W.Frag} {g : Addr} {T : Value} {h : Heap} (X : K.In h) (e : PySem.W.typeIn K (.ref g) = some T) : ∃ o, h.get? g = some o ∧ o.cls = T := by
  have e : (K.lookup g).map (·.cls) = some T := e
  cases z : K.lookup g with
  | none => rw [z] at e; cases e
  | some o => rw [z] at e; exact ⟨o, X _ _ z, Option.some.inj e⟩

def tSup (i : Nat) (C g : Addr) (sp : Sp) (E : XK) (ta : TA) : TS := fun D σ H => ∃ a dx fs, σ[i]? = some (some (.ref a)) ∧ H a = some (.ins C dx fs) ∧
  ∀ q, H q = none → ta σ (upd H q (.met g a)) fun vs H2 => H2 q = some (.met g a) ∧ sp (.ref a :: vs) H2 (fun _ H3 => D.nx σ H3) E

section
variable {X : Cx} {b : List Stmt} {CX : CXT} {k : Nat} {f cc cda D C g : Addr} {sp : Sp} {E : XK} {slf qual : Str} {sc : Scope} {L : Addr}
theorem at_sup {i : Nat} {e : Expr} {es : List Expr} {t : TA} {p0 p1 apos pos spos : Pos} {pl : Sem Bool} (S : Sup X.prog X.K X.mg f cc cda D C g slf) (henv : X.env = envS qual sc L f (.ref cda) cc) (hN : X.N[i]? = some slf)
    (F : FnR X.prog X.w X.K X.mg X.base CX k g sp) (hr : Room k X.A) (hx : Passes CX X E) (ha : PA X (e :: es) t)
    (hks : sc.names.lookup ("super" : Str) = some .globalImplicit) (hkc : sc.names.lookup ("__class__" : Str) = some .free) (hsl : sc.names.lookup slf = some .local) (hki : sc.kind = .function)
    (hst : starEach (e :: es) X.env = (false, eval e X.env) :: starEach es X.env) (hpl : (backTo pos (starEach es X.env)).any (·.1) = false)
    (hi : interactive X.env = false) (hs : swapsWith (.Call (.Attribute (.Call (.Name "super" p0) [] [] p1) "__init__" apos) (e :: es) [] pos) none spos.line X.env = pure false)
    (he : eval (.Call (.Attribute (.Call (.Name "super" p0) [] [] p1) "__init__" apos) (e :: es) [] pos) X.env = (do
      let ov ← attributeBase (.Call (.Name "super" p0) [] [] p1) "__init__" X.env (eval (.Call (.Name "super" p0) [] [] p1) X.env)
      standAt apos.atName
      let (fn, first) ← holding [ov] (getMethod ov "__init__" pl)
      callWith pos fn first (backTo pos (starEach (e :: es) X.env)) [])) :
    PAt1 X b (.Expr (.Call (.Attribute (.Call (.Name "super" p0) [] [] p1) "__init__" apos) (e :: es) [] pos) spos) (tSup i C g sp E t) := by
  refine ⟨fun pins s σ H D0 I h => ?_⟩
  obtain ⟨a, dx, fs, hσ, hH, hq⟩ := h
  obtain ⟨oc, od, fd, osl, ar, l1, l2, l3⟩ := S.fn
  obtain ⟨ccl, cdd, vs, ccs, tf, l4, l5⟩ := S.cd
  obtain ⟨cl, cld, csl, l6⟩ := S.cell
  obtain ⟨dD, l7⟩ := S.clD
  obtain ⟨dC, l8⟩ := S.clC
  have KX : X.K.In s.heap := I.kIn
  obtain ⟨mA, O, hr0, _, _, _⟩ := ins_get I.hok hH
  obtain ⟨od2, J, _⟩ := O.look
  obtain ⟨m, hn, hl⟩ := I.loc
  have hkself : X.env.kindOf slf = some .local := by rw [henv]; exact hsl
  have hself : m slf = some (.ref a) := by
    obtain ⟨u, ru, lu⟩ := hl i slf (.ref a) hN hσ (.inl (by rw [henv]; exact hsl))
    cases ru
    rcases lu with ⟨_, z⟩ | ⟨z, _⟩
    · exact z
    · rw [hkself] at z
      rcases z with z | z <;> cases z
  obtain ⟨mb, hb1, hb2⟩ := I.mod.blt
  obtain ⟨oD, hD1, hD2⟩ := cls_at KX l7
  obtain ⟨og, hg1, hg2⟩ := ty_at KX S.gty
  have hkf : X.env.scope.kind = .function := I.ok.kind
  have hks2 : X.env.kindOf "super" = some .globalImplicit := by rw [henv]; exact hks
  have hkc2 : X.env.kindOf "__class__" = some .free := by rw [henv]; exact hkc
  refine ks_wpAt_Expr_any ?_ hi hs
  refine ks_wpAt_MethodCall (pl := pl) ?_ he
  refine ks_wpAt_super_base (f := f) (cc := cda) hks2 hkc2 (by decide) (by rw [henv]) (KX _ _ l1) rfl l2 (by rw [henv]) (KX _ _ l4) rfl l5 (by simp) S.top ?_
  refine PySem.W.ks_loadName_global hkf hks2 (Calls.loadGlobal_builtin (by rw [I.ok.glob]; exact I.mod.glob.keeps I.bk) S.sup (by rw [I.ok.blt]; exact hb1.keeps I.bk) ((hb2 _ (by decide +kernel)).trans (by decide +kernel : bootBuiltins "super" = some (.type "super"))) ⟨rfl, ?_⟩)
  refine wpAny_loadName_free hkf hkc2 (by rw [henv]; rfl) ⟨_, KX _ _ l6, rfl⟩ ?_
  rw [l3]
  refine wpAny_loadName_local hkf hkself hn hself ?_
  refine ks_wpAny_isType_cls hD1 hD2 ⟨rfl, ?_⟩
  obtain ⟨hh, gg, dd, tt, os⟩ := s
  refine ks_wpAny_call_super hD1 hD2 J.at_ J.cls (fun c z => ?_) (PySem.W.looks_mroIn KX S.sub) (fun h2 hso hk => ?_)
  · have w1 := J.no
    unfold PySem.W.notCls at w1
    rw [z] at w1
    exact Bool.noConfusion w1
  have I2 : Inv X pins σ H ⟨h2, gg, dd, tt, os⟩ := I.kept (t' := tt) hk
  have KX2 : X.K.In h2 := I2.kIn
  have hfin := S.fin
  unfold PySem.W.ks_superIn at hfin
  rw [l8] at hfin
  refine ks_wpAny_getMethod_super hso (PySem.W.looks_opaque KX2 S.opq) (l₀ := dC.mro) (fun A Q E s k q => wpAny_bind ((PySem.W.looks_clsIn KX2 l8) A _ E s k (wpAny_pure q))) rfl KX2 hfin (hk _ _ hg1) hg2 (PySem.W.ks_ne KX J l8) (by decide) ?_
  have fresh : H h2.objs.size = none := I2.hok.fresh (Nat.le_refl _)
  have I3 : Inv X pins σ (upd H h2.objs.size (.met g a)) ⟨h2.push (PySem.W.methodObj (.ref g) (.ref a)), gg, dd, tt + 1, os⟩ :=
    I2.laid (a := h2.objs.size) (o := .met g a) (t' := tt + 1) (fun b u z => Heap.get?_push_of_some _ z) (Nat.le_refl _) (show (h2.push (PySem.W.methodObj (.ref g) (.ref a))).get? h2.objs.size = some (PySem.W.methodObj (.ref g) (.ref a)) from Heap.get?_push_size h2 rfl)
  have q3 := hq _ fresh
  show wpAny _ _ (callWith pos (.ref h2.objs.size) [] (backTo pos (starEach (e :: es) X.env)) []) _ _ _
  rw [hst]
  refine PySem.W.callWith_of (P := PySem.W.MethP X.K h2.objs.size g (.ref a)) (by show ((false || (backTo pos (starEach es X.env)).any (·.1)) || false) = false; rw [hpl]; rfl) (PySem.W.keeps_M S.gfn) (Calls.evalArgs_plain ?_)
  have run := ha.run pos pins _ σ _ _ I3 q3
  rw [hst] at run
  refine thn run fun us s4 ⟨vs4, H4, I4, r4, hm4, q4⟩ => ⟨met_P I4 hm4, ?_⟩
  refine wpAny_mono (wpAny_call (PySem.W.method_call (met_P I4 hm4).1 (run_fnR (us := Value.ref a :: us) (vs := V.ref a :: vs4) F hr hx I4 (.cons rfl r4) q4))) (fun v s5 z => ?_) fun _ _ z => z
  obtain ⟨v5, H5, I5, _, z⟩ := z
  exact ⟨σ, H5, I5, z⟩
end
end L2.WB
namespace L2.WB
open PySem PySem.Spec PyProof.Rows

structure SupX (P : Program) (K : PySem.W.Frag) (mg : Str → Option Value) (f cc cda D C : Addr) (slf : Str) : Prop where
  fn : ∃ oc od fd osl ar, K.lookup f = some ⟨oc, od, .func fd, osl⟩ ∧ (fd.params.posonlyargs ++ fd.params.args).head? = some ar ∧ ar.arg = slf
  cd : ∃ ccl cdd vs ccs tf, K.lookup cda = some ⟨ccl, cdd, .fields vs, ccs⟩ ∧ vs[2]? = some (Value.str P.main.file tf)
  cell : ∃ cl cld csl, K.lookup cc = some ⟨cl, cld, .cell (some (.ref D)), csl⟩
  clD : ∃ d, PySem.W.clsIn K D = some d
  clC : ∃ d, PySem.W.clsIn K C = some d
  sub : PySem.W.mroIn K C (.ref D) = some true
  fin : PySem.W.ks_superIn K C D "__init__" = some (some (.builtin "ValueError.__init__"))
  vE : PySem.W.subIn K (.ref C) (.type "ValueError") = some true
  opq : PySem.W.nsIn K cStatics "thirdparty.any" = some none
  sup : mg "super" = none
  top : (P.main.scope.names.lookup ("super" : Str)).isSome = false

/-- the bound built-in, tracked -/
def mwO (q x : Addr) : HO := .ext fun h => PySem.W.KxsAt "ValueError.__init__" q x h

def tSupX (K : PySem.W.Frag) (i : Nat) (C : Addr) (ta : TA) : TS := fun D σ H => ∃ a, σ[i]? = some (some (.ref a)) ∧ H a = some (exo a C none) ∧ OexC K C ∧
  ∀ q, H q = none → ta σ (upd H q (mwO q a)) fun vs H2 => H2 q = some (mwO q a) ∧ H2 a = some (exo a C none) ∧ vs.length ≤ 1000 ∧ D.nx σ H2

theorem mw_at {P : Program} {w : World} {H : Hp} {h : Heap} {q a : Addr} (hok : HOk P w H h) (e : H q = some (mwO q a)) : PySem.W.KxsAt "ValueError.__init__" q a h :=
  (show ObjOk P w H h q (mwO q a) from hok q _ e).1

section
variable {X : Cx} {b : List Stmt} {f cc cda D C : Addr} {slf qual : Str} {sc : Scope} {L : Addr}
theorem mw_call {pins : List (Addr × Obj)} {σ : St} {H : Hp} {s : Shared} {a u : Addr} {us : List Value} {Q : Value → Shared → Prop} (T : OexC X.K C) (I : Inv X pins σ H s) (e : H a = some (exo a C none)) (eu : H u = some (mwO u a)) (hl : us.length ≤ sizeLine)
    (h : ∀ s', Inv X pins σ H s' → Q .none s') : wpAny (model X.prog X.w) X.A (call (.ref u) us) Q X.xe s := by
  obtain ⟨nm, q, N, bs, bm, sn, sub, ab, col, dd, k0, k1, k2, k3, k5, hC, hbm⟩ := T.cls
  obtain ⟨t1, ho⟩ := exo_at I.hok e
  have hu := mw_at I.hok eu
  have hCs := I.kIn _ _ hC
  obtain ⟨hp, g, d, t, os⟩ := s
  refine wpAny_call (codeAny_of_tree ?_)
  show wpAny _ X.A.in1 (callAny (.ref u) ⟨us, []⟩) _ _ _
  simp only [callAny]
  refine wpAny_bind (wpAny_load hu ?_)
  simp only [PySem.W.kxs_mw]
  refine PySem.W.KFB.if_so (by decide) ?_
  refine wpAny_bind (PySem.W.check_bound_init F.excBase_ValueError.toExcCallFacts hCs ho rfl ?_)
  refine wpAny_bind (wpAny_pure (wpAny_pure ?_))
  refine ⟨plainId_quiet F.excBase_ValueError.init.plain _, codeAny_builtin F.excBase_ValueError.initEntry ?_⟩
  refine PySem.W.exc_init_tree (cls := .ref C) (t0 := t1) (dv := none) (c2 := .none) (c3 := .none) (b4 := .bool false) ho hl fun h2 k hx _ => ?_
  have J := I.write (t' := t) (x := a) (e := a) (o := exo a C none) (by rw [e]; exact True.intro) (.inl rfl) k ⟨_, hx⟩ (exo_ok hx)
  have eq : upd H a (exo a C none) = H := by
    funext z
    by_cases hz : z = a
    · rw [hz, upd_same, e]
    · rw [upd_ne hz]
  rw [eq] at J
  exact h _ J

theorem at_supx {i : Nat} {e : Expr} {es : List Expr} {t : TA} {p0 p1 apos pos spos : Pos} {pl : Sem Bool} (S : SupX X.prog X.K X.mg f cc cda D C slf) (henv : X.env = envS qual sc L f (.ref cda) cc) (hN : X.N[i]? = some slf)
    (ha : PA X (e :: es) t)
    (hks : sc.names.lookup ("super" : Str) = some .globalImplicit) (hkc : sc.names.lookup ("__class__" : Str) = some .free) (hsl : sc.names.lookup slf = some .local)
    (hst : starEach (e :: es) X.env = (false, eval e X.env) :: starEach es X.env) (hpl : (backTo pos (starEach es X.env)).any (·.1) = false)
    (hi : interactive X.env = false) (hs : swapsWith (.Call (.Attribute (.Call (.Name "super" p0) [] [] p1) "__init__" apos) (e :: es) [] pos) none spos.line X.env = pure false)
    (he : eval (.Call (.Attribute (.Call (.Name "super" p0) [] [] p1) "__init__" apos) (e :: es) [] pos) X.env = (do
      let ov ← attributeBase (.Call (.Name "super" p0) [] [] p1) "__init__" X.env (eval (.Call (.Name "super" p0) [] [] p1) X.env)
      standAt apos.atName
      let (fn, first) ← holding [ov] (getMethod ov "__init__" pl)
      callWith pos fn first (backTo pos (starEach (e :: es) X.env)) [])) :
    PAt1 X b (.Expr (.Call (.Attribute (.Call (.Name "super" p0) [] [] p1) "__init__" apos) (e :: es) [] pos) spos) (tSupX X.K i C t) := by
  refine ⟨fun pins s σ H D0 I h => ?_⟩
  obtain ⟨a, hσ, hH, T, hq⟩ := h
  obtain ⟨oc, od, fd, osl, ar, l1, l2, l3⟩ := S.fn
  obtain ⟨ccl, cdd, vs, ccs, tf, l4, l5⟩ := S.cd
  obtain ⟨cl, cld, csl, l6⟩ := S.cell
  obtain ⟨dD, l7⟩ := S.clD
  obtain ⟨dC, l8⟩ := S.clC
  have KX : X.K.In s.heap := I.kIn
  obtain ⟨t1, ho⟩ := exo_at I.hok hH
  have J : PySem.W.InstAt s.heap a { cls := .ref C, dict := none, data := .fields #[.ref t1, .none, .none, .none, .bool false, .none] } C none := ⟨ho, rfl, rfl, trivial⟩
  obtain ⟨m, hn, hl⟩ := I.loc
  have hkself : X.env.kindOf slf = some .local := by rw [henv]; exact hsl
  have hself : m slf = some (.ref a) := by
    obtain ⟨u, ru, lu⟩ := hl i slf (.ref a) hN hσ (.inl (by rw [henv]; exact hsl))
    cases ru
    rcases lu with ⟨_, z⟩ | ⟨z, _⟩
    · exact z
    · rw [hkself] at z
      rcases z with z | z <;> cases z
  obtain ⟨mb, hb1, hb2⟩ := I.mod.blt
  obtain ⟨oD, hD1, hD2⟩ := cls_at KX l7
  have hkf : X.env.scope.kind = .function := I.ok.kind
  have hks2 : X.env.kindOf "super" = some .globalImplicit := by rw [henv]; exact hks
  have hkc2 : X.env.kindOf "__class__" = some .free := by rw [henv]; exact hkc
  refine ks_wpAt_Expr_any ?_ hi hs
  refine ks_wpAt_MethodCall (pl := pl) ?_ he
  refine ks_wpAt_super_base (f := f) (cc := cda) hks2 hkc2 (by decide) (by rw [henv]) (KX _ _ l1) rfl l2 (by rw [henv]) (KX _ _ l4) rfl l5 (by simp) S.top ?_
  refine PySem.W.ks_loadName_global hkf hks2 (Calls.loadGlobal_builtin (by rw [I.ok.glob]; exact I.mod.glob.keeps I.bk) S.sup (by rw [I.ok.blt]; exact hb1.keeps I.bk) ((hb2 _ (by decide +kernel)).trans (by decide +kernel : bootBuiltins "super" = some (.type "super"))) ⟨rfl, ?_⟩)
  refine wpAny_loadName_free hkf hkc2 (by rw [henv]; rfl) ⟨_, KX _ _ l6, rfl⟩ ?_
  rw [l3]
  refine wpAny_loadName_local hkf hkself hn hself ?_
  refine ks_wpAny_isType_cls hD1 hD2 ⟨rfl, ?_⟩
  obtain ⟨hh, gg, dd, tt, os⟩ := s
  refine ks_wpAny_call_super hD1 hD2 J.at_ J.cls (fun c z => ?_) (PySem.W.looks_mroIn KX S.sub) (fun h2 hso hk => ?_)
  · cases z
  have I2 : Inv X pins σ H ⟨h2, gg, dd, tt, os⟩ := I.kept (t' := tt) hk
  have KX2 : X.K.In h2 := I2.kIn
  have hfin := S.fin
  unfold PySem.W.ks_superIn at hfin
  rw [l8] at hfin
  have J2 : PySem.W.InstAt h2 a { cls := .ref C, dict := none, data := .fields #[.ref t1, .none, .none, .none, .bool false, .none] } C none := ⟨hk _ _ ho, rfl, rfl, trivial⟩
  have hI : PySem.W.Looks (model X.prog X.w) h2 (isInstance (.ref a) (.type "ValueError")) true := J2.type.andThen (PySem.W.looks_subIn KX2 S.vE)
  refine PySem.W.kxs_getMethod PySem.W.kxs_ValueError hso (PySem.W.looks_opaque KX2 S.opq) (l₀ := dC.mro) (fun A Q E s k q => wpAny_bind ((PySem.W.looks_clsIn KX2 l8) A _ E s k (wpAny_pure q))) rfl KX2 hfin hI (PySem.W.ks_ne KX J l8) (by decide) ?_
  have fresh : H h2.objs.size = none := I2.hok.fresh (Nat.le_refl _)
  have hnew : PySem.W.KxsAt "ValueError.__init__" h2.objs.size a (h2.push (PySem.W.kxs_mw "ValueError.__init__" a)) := Heap.get?_push_size h2 rfl
  have I3 : Inv X pins σ (upd H h2.objs.size (mwO h2.objs.size a)) ⟨h2.push (PySem.W.kxs_mw "ValueError.__init__" a), gg, dd, tt + 1, os⟩ :=
    I2.laid (a := h2.objs.size) (o := mwO h2.objs.size a) (t' := tt + 1) (fun b u z => Heap.get?_push_of_some _ z) (Nat.le_refl _) ⟨hnew, ⟨_, hnew⟩, fun k1 k2 z st => st _ z⟩
  have q3 := hq _ fresh
  show wpAny _ _ (callWith pos (.ref h2.objs.size) [] (backTo pos (starEach (e :: es) X.env)) []) _ _ _
  rw [hst]
  refine PySem.W.kxs_callWith (i := "ValueError.__init__") (x := a) (by show (false || (backTo pos (starEach es X.env)).any (·.1)) = false; rw [hpl]; rfl) (Calls.evalArgs_plain ?_)
  have run := ha.run pos pins _ σ _ _ I3 q3
  rw [hst] at run
  refine thn run fun us s4 ⟨vs4, H4, I4, r4, hm4, ha4, hz, q4⟩ => ⟨mw_at I4.hok hm4, ?_⟩
  have hlen : us.length ≤ sizeLine := by
    rw [← Paired.length r4, sizeLine_eq]
    omega
  exact mw_call T I4 ha4 hm4 hlen fun s5 I5 => ⟨σ, H4, I5, q4⟩
end

/-- the promise of an own exception's __init__ that keeps one argument in the field f -/
def spEx (K : PySem.W.Frag) (C : Addr) (fld : Str) : Sp := fun vs H Q _ => ∃ a v, vs = [.ref a, v] ∧ H a = some (exo a C none) ∧ OexC K C ∧ PySem.W.findIn K (.ref C) fld = some none ∧
  ∀ dx (H' : Hp), Same (upd H a (exo a C (some dx))) H' → H dx = none → dx ≠ a → H' a = some (exo a C (some dx)) → H' dx = some (exd dx [(fld, v)]) → (∀ b o, b ≠ a → H b = some o → H' b = some o) → Q .non H'
end L2.WB
namespace L2.WB
open PySem PySem.Spec PyProof.Rows

section
variable {M : Model} {A : Around} {E : Value → Shared → Prop} {s1 : Shared} {B : Heap} {cenv : Env} {l : List Env} {a L : Addr} {Z : Obj → Prop} {m : Str → Option Value}
theorem traced_but {h h' : Heap} {fl : Value} (hn : h.Ns L m) (hs : Heap.SameBut L h h') (t : HandSPX.TracedZ h B a Z fl) : HandSPX.TracedZ h' B a Z fl := by
  obtain ⟨oe, vs, T, oT, ts, e1, e2, e3, e4, e5, e6, e7, e8, e9⟩ := t
  obtain ⟨oL, es, ep, f1, f2, _⟩ := hn
  have n1 : a ≠ L := by
    intro q
    rw [q, f1] at e1
    have q2 := Option.some.inj e1
    rw [← q2, f2] at e3
    cases e3
  have n2 : T ≠ L := by
    intro q
    rw [q, f1] at e7
    have q2 := Option.some.inj e7
    rw [← q2, f2] at e8
    cases e8
  exact ⟨oe, vs, T, oT, ts, (hs.2 a n1).trans e1, e2, e3, e4, e5, e6, (hs.2 T n2).trans e7, e8, e9⟩

theorem comp_fails (hf : cenv.frame = some L) (hb : B.get? cenv.locals = none) (hn : s1.heap.Ns cenv.locals m) (hh : HandSPX.HeldZ B l a Z L s1.heap)
    (hQ : ∀ h2, HandSPX.HeldZ B l a Z L h2 → (∀ b o, b ≠ cenv.locals → s1.heap.get? b = some o → (∀ vs, o.data ≠ .fields vs) → ∃ sl, h2.get? b = some { o with slots := sl }) → E (.ref a) { s1 with heap := h2 }) : CompFails M A E cenv (.ref a) s1 := by
  refine ⟨m, hn, fun g m2 hn2 hs2 => ?_⟩
  obtain ⟨c1, c2, c3, c4⟩ := hh
  have d1 : B.StaysIn g := fun b o e => (hs2.2 b fun q => by rw [q, hb] at e; cases e).trans (c1 b o e)
  have d3 := Heap.FunFrames.sameBut hs2 hn2 c3
  have d4 := traced_but hn hs2 c4
  have d4' := d4
  obtain ⟨oe, vs, T, oT, ts, e1, e2, e3, e4, _⟩ := d4
  unfold _root_.PySem.passOn
  refine wpAny_bind (wpAny_field e1 e3 e4 ?_)
  rw [if_neg (by simp), hf]
  refine wpAny_bind (HandSPX.setFlight_onZ (l := l) ⟨d1, c2, d3, d4'⟩ fun h3 hh3 up => wpAny_throw ?_)
  refine hQ h3 hh3 fun b o hbl e hnf => ?_
  exact up b o ((hs2.2 b hbl).trans e) hnf
end

/-- the block's frame taken away -/
def dropAt (h : Heap) (C : Addr) : Heap := PySem.W.hideAll h [C]
theorem drop_get {h : Heap} {C b : Addr} {o : Obj} (n : b ≠ C) (e : h.get? b = some o) : (dropAt h C).get? b = some o := PySem.W.hideAll_get [C] e (by simpa using n)
theorem drop_none (h : Heap) (C : Addr) : (dropAt h C).get? C = none := PySem.W.hideAll_none [C] (by simp)
theorem drop_of {h : Heap} {C b : Addr} {o : Obj} (e : (dropAt h C).get? b = some o) : b ≠ C ∧ h.get? b = some o :=
  by
  refine ⟨fun z => ?_, PySem.W.of_hideAll [C] e⟩
  rw [z, drop_none] at e
  cases e

section
variable {X : Cx}
theorem blk_noted {W : WX} {pins pinsB : List (Addr × Obj)} {σ σB : St} {H3 HB : Hp} {s3 sB s1 : Shared} {scope : Scope} {ce : Env} {fp : List Addr} {F : XK} {e : Value} {use : Option (Value → Sem Unit)} {Qf : Value → Shared → Prop} {acc : Value}
    (hst : X.stack = X.env :: X.outer) (hfr : X.env.frame = some X.env.locals) (tk : Takes X W) (I3 : Inv X pins σ H3 s3) (f3 : ∀ b ∈ fp, FpOk X pins H3 b) (hcf : ce.frame = X.env.frame) (hcl : ce.locals = s3.heap.objs.size)
    (IB : Inv (X.blk s3 H3 scope ce fp) pinsB σB HB sB) (c : CX X.prog X.w X.stack HB sB F e s1) (hW : ∀ cls d H', F cls d H' → W cls d σ H') :
    notedBy (model X.prog X.w) X.A ce (fun x s2 => compEnds (model X.prog X.w) X.A X.xe use Qf acc ce (.error x) s2) e s1 := by
  -- the exception above the block's own state
  obtain ⟨aF, BF, HF, clsF, dF, eF, flF, _⟩ := id c
  obtain ⟨a, B, sI, pI, σI, HI, cls, d, rfl, II, nb, up, sky, na, os1, ag1, w⟩ := XE.of_call (X := X.blk s3 H3 scope ce fp) (W := fun cls d _ H' => W cls d σ H') IB (fun cls d H' q => hW cls d H' q) c
  have nb : ∀ b o, sI.heap.get? b = some o → b ∉ frs X.stack → B.get? b = some o := nb
  have hfs : X.A.frames = some (X.env :: X.outer) := by rw [I3.ok.frames, hst]
  -- without the block's frame
  have nC : HI ce.locals = none := II.free
  have hnew : s3.heap.get? ce.locals = none := by
    rw [hcl]
    exact Heap.get?_none_of_le (Nat.le_refl _)
  have hkeepB := II.base
  have J : Inv X pins σ HI { sI with heap := dropAt sI.heap ce.locals } := by
    refine I3.call' (ch := fp) II.os ?_ ?_ II.bare fun b hb => ⟨(f3 b hb).2.2.2.1, (f3 b hb).2.1, (f3 b hb).2.2.2.2.1, (f3 b hb).2.2.2.2.2⟩
    · have nl : ∀ b o, s3.heap.get? b = some o → b ≠ ce.locals := fun b o q z => by rw [z, hnew] at q; cases q
      refine ⟨fun b o q n h1 h2 => drop_get (nl b o q) (hkeepB.keep b o q n h1 h2), fun b o q n h1 h2 => ?_, fun b o q n h2 => hkeepB.free b o q n h2, fun b o q h2 => ?_, hkeepB.tups, hkeepB.frzs, hkeepB.tbls⟩
      · obtain ⟨sl, z⟩ := hkeepB.slot b o q n h1 h2
        exact ⟨sl, drop_get (nl b o q) z⟩
      · obtain ⟨o2, z⟩ := hkeepB.there b o q h2
        exact ⟨o2, drop_get (nl b o q) z⟩
    · intro b o q
      have nb2 : b ≠ ce.locals := fun z => by rw [z, nC] at q; cases q
      refine (II.hok b o q).stay (fun b2 u z r => drop_get ?_ r) (fun _ r => r) fun _ _ r => r
      rcases z with z | z
      · rw [z]; exact nb2
      · intro z2
        rw [z2, nC] at z
        cases z
  have up2 : Heap.UpToSlots (dropAt sI.heap ce.locals) s1.heap := fun b o q hnf => up b o (drop_of q).2 hnf
  have nb2 : ∀ b o, (dropAt sI.heap ce.locals).get? b = some o → b ∉ frs X.stack → (dropAt B ce.locals).get? b = some o := fun b o q hb => drop_get (drop_of q).1 (nb b o (drop_of q).2 hb)
  have lift : ∀ {h : Heap}, B.StaysIn h → (dropAt B ce.locals).StaysIn h := fun st b o q => st b o (drop_of q).2
  have sB2 : ∀ {b : Addr}, B.get? b = none → (dropAt B ce.locals).get? b = none := fun {b} q => by
    cases z : (dropAt B ce.locals).get? b with
    | none => rfl
    | some o => rw [(drop_of z).2] at q; cases q
  obtain ⟨m, hn, _⟩ := II.loc
  have hn : sI.heap.Ns ce.locals m := hn
  have hn1 : s1.heap.Ns ce.locals m := up.ns hn
  -- noted
  have fin : ∀ h2, HandSPX.HeldZ B (X.env :: X.outer) a (Zc cls d) X.env.locals h2 → s1.heap.UpToSlots h2 → compEnds (model X.prog X.w) X.A X.xe use Qf acc ce (.error (.ref a)) { s1 with heap := h2 } := by
    intro h2 hh up3
    have hn2 : h2.Ns ce.locals m := up3.ns hn1
    have hh2 : HandSPX.HeldZ (dropAt B ce.locals) (X.env :: X.outer) a (Zc cls d) X.env.locals h2 := by
      obtain ⟨c1, c2, c3, oe, vs, T, oT, ts, e1, e2, e3, e4, e5, e6, e7, e8, e9⟩ := hh
      refine ⟨lift c1, sB2 c2, funFrames_none c3 fun L hL => ?_, oe, vs, T, oT, ts, e1, e2, e3, e4, sB2 e5, e6, e7, e8, e9⟩
      exact sB2 (c3.mem hL).1
    have ends : CompFails (model X.prog X.w) X.A X.xe ce (.ref a) { s1 with heap := h2 } := by
      refine comp_fails (L := X.env.locals) (l := X.env :: X.outer) (B := dropAt B ce.locals) (Z := Zc cls d) (by rw [hcf]; exact hfr) (drop_none _ _) hn2 hh2 fun h3 hh3 k3 => ?_
      refine tk _ _ ⟨a, dropAt B ce.locals, _, pins, σ, HI, cls, d, rfl, J, nb2, ?_, ?_, na, os1, ag1, w⟩
      · intro b o q hnf
        obtain ⟨sl1, q1⟩ := up2 b o q hnf
        obtain ⟨sl2, q2⟩ := up3 b _ q1 hnf
        obtain ⟨sl3, q3⟩ := k3 b _ (drop_of q).1 q2 hnf
        exact ⟨sl3, q3⟩
      · rw [hst]
        exact .inr (.inr hh3)
    cases use <;> exact ends
  have sky : Sky B (X.env :: X.outer) a (Zc cls d) ce.locals s1.heap := by rw [← hst]; exact sky
  show wpAny (model X.prog X.w) X.A (noteFrame (.ref a) ce) _ _ s1
  rw [noteFrame_env _ hcf]
  rcases sky with ⟨hB, hn0, hl0, oe, vs, he, hz, hd, h1⟩ | fl | hh
  · exact HandSPX.look_newZ Zc.steady hfs hl0 hfr he hB hn0 hd h1 hz fin
  · exact HandSPX.looks_onZ Zc.steady hfs hfr fl fin
  · exfalso
    cases eF
    obtain ⟨_, _, _, oe, vs, T, oT, ts, e1, _, e3, e4, _, _, e7, e8, e9⟩ := hh
    obtain ⟨_, _, _, oe', vs', T', oT', ts', e1', _, e3', e4', _, _, e7', e8', e9'⟩ := flF
    rw [e1] at e1'
    cases e1'
    rw [e3] at e3'
    cases e3'
    rw [e4] at e4'
    cases e4'
    rw [e7] at e7'
    cases e7'
    rw [e8] at e8'
    cases e8'
    rw [e9] at e9'
    cases e9'

/-- the turns of a list comprehension's loop, at the end of which R is owed -/
theorem lcx_core {W : WX} {E : XK} {pins : List (Addr × Obj)} {s : Shared} {σ : St} {H : Hp} {Q : VK} {elt tg iter : Expr} {ifs : List Expr} {scope : Scope} {own : List (Str × Nat)} {pos pos2 : Pos} {wi : TI} {g : TG} {tt : TT} {te : TE} {use : Option (Value → Sem Unit)} {Qf : Value → Shared → Prop}
    (hc : X.calm = true) (hN : X.N.Nodup) (hst : X.stack = X.env :: X.outer) (hfr : X.env.frame = some X.env.locals) (tk : Takes X W) (hW : ∀ cls d σ H', E cls d H' → W cls d σ H') (I : Inv X pins σ H s) (hi : PI X tg iter wi) (ok : BlkOk X.N X.env.scope scope own)
    (hg : ∀ (s : Shared) (H : Hp) (C : Addr) (cl : List (Str × Addr)) (fp : List Addr), PG (X.blk s H scope (compEnvC scope cl C X.env) fp) tg g)
    (ht : ∀ (s : Shared) (H : Hp) (C : Addr) (cl : List (Str × Addr)) (fp : List Addr), PTs (X.blk s H scope (compEnvC scope cl C X.env) fp) ifs tt)
    (he : ∀ (s : Shared) (H : Hp) (C : Addr) (cl : List (Str × Addr)) (fp : List Addr) (E1 : Value → Shared → Prop), Passes (CX X.prog X.w) ((X.blk s H scope (compEnvC scope cl C X.env) fp).wish E1) E → PE ((X.blk s H scope (compEnvC scope cl C X.env) fp).wish E1) elt te)
    (hs : ∀ x, foldedSetIterable iter X.env x = pure x) (h : tLc wi g tt te (own.map (·.2)) σ H Q)
    (hend : ∀ D (ce : Env) s2 m H2, Inv X pins σ H2 s2 → Q (.ref D) H2 → s2.heap.Ns ce.locals m → FpOk X pins H2 ce.locals → compEnds (model X.prog X.w) X.A X.xe use Qf (.ref D) ce (.ok .next) s2) :
    wpAny (model X.prog X.w) X.A (comprehension (.ListComp elt [⟨tg, iter, ifs, 0⟩] scope pos) scope X.env pos2 (newList []) false (eval iter X.env) use) Qf X.xe s := by
  have hfree : ∀ y ∈ scope.names, y.2 = .free → ∃ c, X.env.cells.lookup y.1 = some c := by
    intro y hy e
    exact (ok.free y hy e).elim (fun k => I.ok.has _ (.inl k)) (fun k => I.ok.has _ (.inr k))
  refine comprehension_at (use := use) rfl hs (closure_ok hfree) ok.kind (fun y hy e => (ok.uniq y hy).trans (by rw [e]))
    (thn (hi.run pins s σ H _ I h) fun xv sa hx => thn hx fun itv sb hb => ?_)
  obtain ⟨it, fp, tn, J, Hb, rfl, Ib, T, stb, fb, qb⟩ := hb
  refine wpAny_newObj_type (newEnv_comp ?_) (Nat.zero_le _)
  obtain ⟨D, hD⟩ : ∃ D, D = sb.heap.objs.size := ⟨_, rfl⟩
  have hDn : Hb D = none := Ib.hok.fresh (Nat.le_of_eq hD.symm)
  obtain ⟨Wd, ⟨m0, w0⟩, turn⟩ := qb D hDn
  obtain ⟨sc, hsc⟩ : ∃ sc : Shared, sc = { sb with heap := sb.heap.push { cls := .type "list", data := .seq ([] : List Value).toArray } } := ⟨_, rfl⟩
  have hc3 : sc.heap = sb.heap.push { cls := .type "list", data := .seq ([] : List Value).toArray } := by rw [hsc]
  obtain ⟨Hc, hHc⟩ : ∃ Hc, Hc = upd Hb D (.lst []) := ⟨_, rfl⟩
  have Ic : Inv X pins σ Hc sc := by
    rw [hsc, hHc]
    refine Ib.laid (t' := sb.toks) (fun b o e => Heap.get?_push_of_some _ e) (Nat.le_of_eq hD.symm) ⟨Nat.zero_le _, [], 0, .nil, ?_⟩
    rw [hD]
    exact Heap.get?_push_size _ rfl
  have fc : ∀ b ∈ fp, FpOk X pins Hc b ∧ b < sc.heap.objs.size := by
    intro b hb
    obtain ⟨o, e, _⟩ := T.obj _ _ stb b hb
    have lt := Heap.lt_size e
    refine ⟨⟨?_, (fb b hb).2⟩, by rw [hc3, Heap.size_push]; exact Nat.lt_succ_of_lt lt⟩
    rw [hHc, upd_ne (by rw [hD]; exact Nat.ne_of_lt lt)]
    exact (fb b hb).1
  have stc : tn 0 sc.heap := T.keep _ _ _ stb fun b _ o e => by rw [hc3]; exact Heap.get?_push_of_some _ e
  have Id := block_start Ic ok hN fc
  rw [← hD, ← hsc]
  rw [← hHc] at w0
  show codeAny _ _ (.compStart (.ListComp elt [⟨tg, iter, ifs, 0⟩] scope pos) 0 (.ref it) (.ref D) (compEnvC scope (cellsFrom (sc.heap.objs.size + 1) scope.names (cloFrom X.env.cells scope.names [])) sc.heap.objs.size X.env))
    (compEnds (model X.prog X.w) X.A X.xe use Qf (.ref D) (compEnvC scope (cellsFrom (sc.heap.objs.size + 1) scope.names (cloFrom X.env.cells scope.names [])) sc.heap.objs.size X.env)) { sc with heap := pushCells (sc.heap.push { cls := .type "dict", data := .dict #[] }) scope.names }
  have pg := hg sc Hc sc.heap.objs.size (cellsFrom (sc.heap.objs.size + 1) scope.names (cloFrom X.env.cells scope.names [])) fp
  have pt := ht sc Hc sc.heap.objs.size (cellsFrom (sc.heap.objs.size + 1) scope.names (cloFrom X.env.cells scope.names [])) fp
  have pe := he sc Hc sc.heap.objs.size (cellsFrom (sc.heap.objs.size + 1) scope.names (cloFrom X.env.cells scope.names [])) fp
  obtain ⟨ce, hce⟩ : ∃ ce, ce = compEnvC scope (cellsFrom (sc.heap.objs.size + 1) scope.names (cloFrom X.env.cells scope.names [])) sc.heap.objs.size X.env := ⟨_, rfl⟩
  have cl1 : ce.locals = sc.heap.objs.size := by rw [hce]; rfl
  have cf1 : ce.frame = X.env.frame := by rw [hce]; rfl
  rw [← hce] at Id pg pt pe ⊢
  have nfp : ∀ b ∈ fp, Hc b = none := fun b hb => (fc b hb).1.1
  obtain ⟨sd, hsd⟩ : ∃ sd : Shared, sd = { sc with heap := pushCells (sc.heap.push { cls := .type "dict", data := .dict #[] }) scope.names } := ⟨_, rfl⟩
  rw [← hsd] at Id ⊢
  have std : tn 0 sd.heap := T.keep _ _ _ stc fun b _ o e => by rw [hsd]; exact pushCells_keeps _ _ _ _ (Heap.get?_push_of_some _ e)
  have stat : ∀ {σ1 : St} {H1 : Hp} {s1 : Shared}, Inv (X.blk sc Hc scope ce fp) [] σ1 H1 s1 → (∀ b ∈ fp, H1 b = none) → ∀ b ∈ fp, FpOk (X.blk sc Hc scope ce fp) [] H1 b := by
    intro σ1 H1 s1 I1 hn b hb
    exact ⟨hn b hb, (I1.ok.exf b hb).1, I1.ok.exfs b hb, .inl hb, fun x c e => (I1.ok.exf b hb).2 x c e, fun p hp => absurd (show p ∈ ([] : List (Addr × Obj)) ++ [] from hp) (by simp)⟩
  have pel := pe (notedBy (model X.prog X.w) X.A ce fun x s2 => compEnds (model X.prog X.w) X.A X.xe use Qf (.ref D) ce (.error x) s2) (fun pinsB σB HB sB x s1 IB c =>
    blk_noted hst hfr tk Ic (fun b hb => (fc b hb).1) cf1 cl1 IB.unwish c (fun cls d H' q => hW cls d σ H' q))
  refine codeAny_compStart_list ?loop (T.self X.A 0 _ _ _ std ?loop)
  refine compLoop_any (fun n s1 => ∃ i H1, Inv (X.blk sc Hc scope ce fp) [] (wipe σ (own.map (·.2))) H1 s1 ∧ tn i s1.heap ∧ (∀ b ∈ fp, H1 b = none) ∧ Wd i n H1) ?_ m0 ⟨0, Hc, Id, std, nfp, w0⟩
  rintro n s5 ⟨i, H5, I5, st5, n5, w5⟩
  rcases turn i n H5 w5 with ⟨stop, qq⟩ | ⟨go, Nx, hNx, step⟩
  · have td := T.done (X.blk sc Hc scope ce fp) rfl rfl rfl hc i [] s5 _ H5 (fun _ _ => False) I5 (stat I5 n5) st5 stop
    refine thnF td fun r s6 ⟨hr, I6⟩ => ?_
    subst hr
    have I7 : Inv X pins σ H5 s6 := Ic.call' (ch := fp) I6.os I6.base I6.hok I6.bare fun b hb => ⟨(fc b hb).1.2.2.2.1, (fc b hb).1.2.1, (fc b hb).1.2.2.2.2.1, (fc b hb).1.2.2.2.2.2⟩
    have nC : H5 ce.locals = none := I6.free
    obtain ⟨m, hn, _⟩ := I6.loc
    exact hend D ce s6 m H5 I7 qq hn (Ic.fpOk (Nat.le_of_eq cl1.symm) nC)
  · have ti := T.item (X.blk sc Hc scope ce fp) rfl rfl rfl hc i [] s5 _ H5 (fun _ _ => False) I5 (stat I5 n5) st5 go
    refine thnF ti fun r s6 ⟨u, hr, h6⟩ => ?_
    subst hr
    refine thnF h6 fun _ s7 ⟨x, H7, I7, r7, y7, st7, n7⟩ => ?_
    have I8 := I7.pinned (stat I7 n7) (T.obj _ _ st7)
    refine thnF (pg.run _ s7 _ H7 x u _ I8 r7 (step x H7 y7)) fun _ s8 ⟨σ8, H8, I9, hw8, q8⟩ => ?_
    refine thnF (pt.run _ s8 σ8 H8 _ I9 q8) fun b s9 ⟨H9, I10, q9⟩ => ?_
    have fin : ∀ {s1 : Shared} {H1 : Hp}, Inv (X.blk sc Hc scope ce fp) ([] ++ pinsAt fp s7.heap) σ8 H1 s1 → Nx H1 → ∃ m, m < n ∧ ∃ i H1, Inv (X.blk sc Hc scope ce fp) [] (wipe σ (own.map (·.2))) H1 s1 ∧ tn i s1.heap ∧ (∀ b ∈ fp, H1 b = none) ∧ Wd i m H1 := by
      intro s1 H1 I1 nx
      obtain ⟨m2, hm, w2⟩ := hNx H1 nx
      have pin2 : ∀ b ∈ fp, ∀ o, s7.heap.get? b = some o → s1.heap.get? b = some o ∧ H1 b = none := fun b hb o e =>
        ⟨(I1.pin (b, o) (List.mem_append_right _ (List.mem_append_right _ (mem_pinsAt hb e)))).1, (I1.pin (b, o) (List.mem_append_right _ (List.mem_append_right _ (mem_pinsAt hb e)))).2.1⟩
      have hl : (wipe σ (own.map (·.2))).length = σ8.length := by rw [← hw8, wipe_length]
      refine ⟨m2, hm, i + 1, H1, (I1.unpinned (pins := [])).weak hl (fun j v e => ?_), T.keep _ _ _ st7 fun b hb o e => (pin2 b hb o e).1, fun b hb => ?_, w2⟩
      · rw [← hw8] at e
        exact (wipe_some e).1
      · obtain ⟨o, e, _⟩ := T.obj _ _ st7 b hb
        exact (pin2 b hb o e).2
    cases b with
    | false =>
      simp only [Bool.false_eq_true, if_false] at q9 ⊢
      exact fin I10 q9
    | true =>
      simp only [if_true] at q9 ⊢
      refine wpAny_mono (pel.run _ s9 σ8 H9 _ (I10.wish _) q9) (fun z sx hx => ?_) fun _ _ z => z
      obtain ⟨yv, H11, I11, r11, acc, hD11, hz11, nx⟩ := hx
      exact thnF (app_ok (X := X.blk sc Hc scope ce fp) I11.unwish hD11 hz11 r11 fun sy I12 => fin I12 nx) fun _ _ z => z

theorem ps_setLcX {W : WX} {E : XK} {i : Nat} {y : Str} {py : Pos} {elt tg iter : Expr} {ifs : List Expr} {scope : Scope} {own : List (Str × Nat)} {pos spos : Pos} {wi : TI} {g : TG} {tt : TT} {te : TE} (hc : X.calm = true) (hN : X.N.Nodup) (hst : X.stack = X.env :: X.outer) (hfr : X.env.frame = some X.env.locals)
    (tk : Takes X W) (hW : ∀ cls d σ H', E cls d H' → W cls d σ H') (hy : X.N[i]? = some y) (hyl : X.env.scope.names.lookup y = some .local)
    (hsw : swapsWith (.ListComp elt [⟨tg, iter, ifs, 0⟩] scope pos) (some (.Name y py)) spos.line X.env = pure true) (hi : PI X tg iter wi) (ok : BlkOk X.N X.env.scope scope own)
    (hg : ∀ (s : Shared) (H : Hp) (C : Addr) (cl : List (Str × Addr)) (fp : List Addr), PG (X.blk s H scope (compEnvC scope cl C X.env) fp) tg g)
    (ht : ∀ (s : Shared) (H : Hp) (C : Addr) (cl : List (Str × Addr)) (fp : List Addr), PTs (X.blk s H scope (compEnvC scope cl C X.env) fp) ifs tt)
    (he : ∀ (s : Shared) (H : Hp) (C : Addr) (cl : List (Str × Addr)) (fp : List Addr) (E1 : Value → Shared → Prop), Passes (CX X.prog X.w) ((X.blk s H scope (compEnvC scope cl C X.env) fp).wish E1) E → PE ((X.blk s H scope (compEnvC scope cl C X.env) fp).wish E1) elt te)
    (hs : ∀ x, foldedSetIterable iter X.env x = pure x := by intro _; rfl) :
    PS X (.Assign [.Name y py] (.ListComp elt [⟨tg, iter, ifs, 0⟩] scope pos) spos) (tAsg (tLc wi g tt te (own.map (·.2))) (gName i)) := by
  refine ⟨fun pins s σ H D I h => ?_⟩
  rw [exec_Assign_Name_used _ _ _ _ hsw]
  refine wpAny_bind (wpAny_standAt (wpAny_bind ?_))
  show wpAny _ X.A (do let _ ← comprehension (.ListComp elt [⟨tg, iter, ifs, 0⟩] scope pos) scope X.env (firstIterPos [⟨tg, iter, ifs, 0⟩] pos) (newList []) false (eval iter X.env) (some (assign (.Name y py) X.env))) _ _ s
  have h : tLc wi g tt te (own.map (·.2)) σ H (fun x H1 => gName i x σ H1 D.nx) := h
  refine wpAny_bind (thn (lcx_core (Qf := fun _ s1 => SP X pins D .next s1) hc hN hst hfr tk hW I hi ok hg ht he hs h fun L ce s1 m H1 I1 q hn f => ?_) fun _ s1 hq => wpAny_pure (wpAny_pure hq))
  show wpAny _ _ (assign (.Name y py) X.env (.ref L)) _ _ _
  refine wpAny_assign_Name (store_ok2 (v := V.ref L) I1 hN hy (.inl hyl) rfl (fun s2 I2 hx => ?_) (.inr hyl))
  obtain ⟨a, sb, ha⟩ := hx
  obtain ⟨f0, f1, f2, f3, f4, f5⟩ := f
  have haC : ce.locals ≠ a := by
    rcases ha with z | z
    · rw [z]
      exact f1
    · exact fun e => f4 y a z e.symm
  exact ⟨m, hn.sameBut sb haC, fun h3 sb3 => ⟨_, H1, I2.turned (t' := s2.toks) (fun b o hb e => (sb3.2 b hb).trans e) f0 f1 f3 f4 f5, q⟩⟩
end
end L2.WB
namespace L2.WB
open PySem PySem.Spec PyProof.Rows

section
variable {X : Cx} {f : Value → Value → Sem Value} {r r' : R2}
theorem OpR.of (h : OpR X f r) (k : ∀ x y H Q, r' x y H Q → r x y H Q) : OpR X f r' := fun pins s σ H x y v u Q I rx ry q => h pins s σ H x y v u Q I rx ry (k _ _ _ _ q)
theorem OpR.or (h : OpR X f r) (h' : OpR X f r') : OpR X f (fun x y H Q => r x y H Q ∨ r' x y H Q) := fun pins s σ H x y v u Q I rx ry q => q.elim (h pins s σ H x y v u Q I rx ry) (h' pins s σ H x y v u Q I rx ry)
theorem PE.of {e : Expr} {t t' : TE} (h : PE X e t) (k : ∀ σ H Q, t' σ H Q → t σ H Q) : PE X e t' := ⟨fun pins s σ H Q I q => h.run pins s σ H Q I (k _ _ _ q)⟩
theorem PT.of {e : Expr} {t t' : TT} (h : PT X e t) (k : ∀ σ H Q, t' σ H Q → t σ H Q) : PT X e t' := ⟨fun pins s σ H Q I q => h.run pins s σ H Q I (k _ _ _ q)⟩
theorem PS.of {e : Stmt} {t t' : TS} (h : PS X e t) (k : ∀ D σ H, t' D σ H → t D σ H) : PS X e t' := ⟨fun pins s σ H D I q => h.run pins s σ H D I (k _ _ _ q)⟩
theorem PA.of {es : List Expr} {t t' : TA} (h : PA X es t) (k : ∀ σ H Q, t' σ H Q → t σ H Q) : PA X es t' := ⟨fun pos pins s σ H Q I q => h.run pos pins s σ H Q I (k _ _ _ q)⟩
theorem CallR.of {g : Value} {q q' : List V → Hp → VK → Prop} (h : CallR X g q) (k : ∀ xs H Q, q' xs H Q → q xs H Q) : CallR X g q' := fun pins s σ H xs us Q I rx z => h pins s σ H xs us Q I rx (k _ _ _ z)
theorem CallR.or {g : Value} {q q' : List V → Hp → VK → Prop} (h : CallR X g q) (h' : CallR X g q') : CallR X g (fun xs H Q => q xs H Q ∨ q' xs H Q) := fun pins s σ H xs us Q I rx z => z.elim (h pins s σ H xs us Q I rx) (h' pins s σ H xs us Q I rx)
theorem MtR.of {id : String} {q q' : V → List V → Hp → VK → Prop} (h : MtR X id q) (k : ∀ x xs H Q, q' x xs H Q → q x xs H Q) : MtR X id q' := fun pins s σ H x xs v us Q I rx rxs z => h pins s σ H x xs v us Q I rx rxs (k _ _ _ _ z)
theorem MtR.or {id : String} {q q' : V → List V → Hp → VK → Prop} (h : MtR X id q) (h' : MtR X id q') : MtR X id (fun x xs H Q => q x xs H Q ∨ q' x xs H Q) := fun pins s σ H x xs v us Q I rx rxs z => z.elim (h pins s σ H x xs v us Q I rx rxs) (h' pins s σ H x xs v us Q I rx rxs)
theorem IxR.of {q q' : R2} (h : IxR X q) (k : ∀ x y H Q, q' x y H Q → q x y H Q) : IxR X q' := fun a b pins s σ H x y v u Q I rx ry z => h a b pins s σ H x y v u Q I rx ry (k _ _ _ _ z)
theorem SlR.of {q q' : V → Option Int → Option Int → Hp → VK → Prop} (h : SlR X q) (k : ∀ x lo hi H Q, q' x lo hi H Q → q x lo hi H Q) : SlR X q' := fun pins s σ H x v vl vu lo hi sl Q I rx a b c z => h pins s σ H x v vl vu lo hi sl Q I rx a b c (k _ _ _ _ _ z)
end

/-- the name in slot i -/
def uV (i : Nat) : TE := fun σ H Q => match σ[i]? with
  | some (some v) => Q v H
  | _ => False
section
variable {X : Cx}
theorem pe_uv (i : Nat) {x : Str} {pos : Pos} (hN : X.N[i]? = some x := by rfl) (hv : Vis X.env.scope x := by first | exact Or.inl rfl | exact Or.inr (Or.inl rfl) | exact Or.inr (Or.inr rfl)) (hd : (x == ("__debug__" : Str)) = false := by decide)
    (hcd : (x == ("__classdict__" : Str)) = false := by decide) : PE X (.Name x pos) (uV i) := PE.of (pe_var hN hv hd hcd) fun σ H Q q => by
  unfold uV at q
  split at q
  · rename_i v e
    exact ⟨v, e, q⟩
  · exact q.elim
end

def uAdd (K : PySem.W.Frag) : R2 := fun x y H Q => match x, y with
  | .int i, .int j => Q (.int (i + j)) H
  | .str a, .str b => a.length + b.length ≤ sizeLine ∧ Q (.str (a ++ b)) H
  | .ref p, .ref q => (∃ xs zs, H p = some (.lst xs) ∧ H q = some (.lst zs) ∧ xs.length + zs.length ≤ sizeLine ∧ ∀ l, H l = none → Q (.ref l) (upd H l (.lst (xs ++ zs)))) ∨
      ∃ xs zs, SqT K H p xs ∧ SqT K H q zs ∧ xs ≠ [] ∧ xs.length + zs.length ≤ sizeLine ∧ (zs = [] → Q (.ref p) H) ∧ (zs ≠ [] → ∀ l, H l = none → Q (.ref l) (upd H l (.tup (xs ++ zs))))
  | _, _ => False
def uSub : R2 := fun x y H Q => match x, y with
  | .int i, .int j => Q (.int (i - j)) H
  | _, _ => False
def uMod : R2 := fun x y H Q => match x, y with
  | .int i, .int j => 0 < j ∧ Q (.int (i % j)) H
  | _, _ => False
def uFdiv : R2 := fun x y H Q => match x, y with
  | .int i, .int j => (0 < j ∧ j < 1073741824) ∧ Q (.int (i / j)) H
  | _, _ => False
/-- a text n times -/
def repS (z : Str) (n : Int) : Str := ⟨(List.replicate n.toNat z.cps.toList).flatten.toArray⟩
def uMul : R2 := fun x y H Q => match x, y with
  | .int i, .int j => CMul i j ∧ Q (.int (i * j)) H
  | .str z, .int n => 0 ≤ n ∧ n ≤ 1000000 ∧ z.length ≤ 15 ∧ Q (.str (repS z n)) H
  | .ref l, .int k => ∃ xs, H l = some (.lst xs) ∧ 0 ≤ k ∧ k ≤ 1000000 ∧ xs.length * k.toNat ≤ sizeLine ∧ ∀ p, H p = none → Q (.ref p) (upd H p (.lst (List.replicate k.toNat xs).flatten))
  | _, _ => False

theorem foldl_arrs (a : Array Nat) : ∀ (n : Nat) (acc : Array Nat), (List.replicate n a).foldl (· ++ ·) acc = acc ++ (List.replicate n a.toList).flatten.toArray
  | 0, acc => by simp
  | n + 1, acc => by
    rw [List.replicate_succ, List.foldl_cons, foldl_arrs a n, List.replicate_succ, List.flatten_cons]
    apply Array.toList_inj.mp
    simp
theorem len_rep (l : List Nat) (n : Nat) : (List.replicate n l).flatten.length = n * l.length := by
  induction n with
  | zero => simp
  | succ n ih => rw [List.replicate_succ, List.flatten_cons, List.length_append, ih, Nat.succ_mul, Nat.add_comm]

section
variable {X : Cx}
theorem op_uAdd : OpR X (binaryOp .Add) (uAdd X.K) := by
  refine OpR.of (OpR.or op_add (OpR.or op_add_str (OpR.or op_cat op_catT))) fun x y H Q q => ?_
  unfold uAdd at q
  split at q
  · exact .inl ⟨_, _, rfl, rfl, q⟩
  · exact .inr (.inl ⟨_, _, rfl, rfl, q.1, q.2⟩)
  · rcases q with ⟨xs, zs, h1, h2, h3, h4⟩ | ⟨xs, zs, h1, h2, h3, h4, h5, h6⟩
    · exact .inr (.inr (.inl ⟨_, _, xs, zs, rfl, rfl, h1, h2, h3, h4⟩))
    · exact .inr (.inr (.inr ⟨_, _, xs, zs, rfl, rfl, h1, h2, h3, h4, h5, h6⟩))
  · exact q.elim
theorem op_uSub : OpR X (binaryOp .Sub) uSub := OpR.of op_sub fun x y H Q q => by
  unfold uSub at q
  split at q
  · exact ⟨_, _, rfl, rfl, q⟩
  · exact q.elim
theorem op_uMod : OpR X (binaryOp .Mod) uMod := OpR.of op_mod fun x y H Q q => by
  unfold uMod at q
  split at q
  · exact ⟨_, _, rfl, rfl, q.1, q.2⟩
  · exact q.elim
theorem op_uFdiv : OpR X (binaryOp .FloorDiv) uFdiv := OpR.of op_fdiv fun x y H Q q => by
  unfold uFdiv at q
  split at q
  · exact ⟨_, _, rfl, rfl, q.1, q.2⟩
  · exact q.elim
theorem op_mulS : OpR X (binaryOp .Mult) (fun x y H Q => ∃ z n, x = .str z ∧ y = .int n ∧ 0 ≤ n ∧ n ≤ 1000000 ∧ z.length ≤ 15 ∧ Q (.str (repS z n)) H) := by
  intro pins s σ H x y v u Q I rx ry h
  obtain ⟨z, n, rfl, rfl, h0, h1, hz, q⟩ := h
  obtain ⟨t, rfl⟩ := rx
  obtain ⟨t2, rfl⟩ := ry
  by_cases hn : n < 1
  · have n0 : n = 0 := by omega
    subst n0
    refine PySem.P.mul_str_none (by decide) (by decide) ⟨.str (repS z 0), H, I.tok _, ?_, q⟩
    exact ⟨_, rfl⟩
  · have hsz : (z.length : Int) ≤ 15 := by omega
    have hb : ¬ ((z.length : Int) > (2 ^ 63 - 1) / n) := by
      have h2 : (15 : Int) ≤ (2 ^ 63 - 1) / n := by
        rw [Int.le_ediv_iff_mul_le (by omega)]
        omega
      omega
    have hl : z.length * n.toNat ≤ 15 * 1000000 := Nat.mul_le_mul hz (by omega)
    refine PySem.P.mul_str ?_ (fun _ _ => hb) (fun _ _ => ?_) ?_
    · rw [decide_eq_false (by omega), decide_eq_false (by omega)]
      rfl
    · unfold Builtin.Str.tooLong
      apply decide_eq_false
      rw [sizeLine_eq]
      omega
    · rw [if_neg hn]
      split
      · rename_i hh
        rw [Bool.or_eq_true] at hh
        have e : repS z n = z := by
          unfold repS
          rcases hh with hh | hh
          · have : n = 1 := by simpa using hh
            subst this
            simp
          · have hz0 : z.cps.toList = [] := by
              have : z.length = 0 := by simpa using hh
              exact List.eq_nil_of_length_eq_zero (by simpa [Str.length] using this)
            rw [hz0]
            have : ((List.replicate n.toNat ([] : List Nat)).flatten.toArray) = z.cps := by
              apply Array.toList_inj.mp
              simp [hz0]
            rw [this]
        rw [e] at q
        exact ⟨.str z, H, I, ⟨_, rfl⟩, q⟩
      · have e : (⟨(List.replicate n.toNat z.cps).foldl (· ++ ·) #[]⟩ : Str) = repS z n := by
          unfold repS
          rw [foldl_arrs]
          simp
        rw [e]
        refine ⟨?_, .str (repS z n), H, I.tok _, ⟨_, rfl⟩, q⟩
        show (repS z n).cps.size ≤ sizeLine
        unfold repS
        rw [List.size_toArray, len_rep, sizeLine_eq, Nat.mul_comm]
        have : z.cps.toList.length = z.length := by simp [Str.length]
        rw [this]
        omega
theorem op_uMul : OpR X (binaryOp .Mult) uMul := by
  refine OpR.of (OpR.or op_mul (OpR.or op_mulS op_rep)) fun x y H Q q => ?_
  unfold uMul at q
  split at q
  · exact .inl ⟨_, _, rfl, rfl, q.1, q.2⟩
  · exact .inr (.inl ⟨_, _, rfl, rfl, q⟩)
  · obtain ⟨xs, h1, h2, h3, h4, h5⟩ := q
    exact .inr (.inr ⟨_, _, xs, rfl, rfl, h1, by omega, by omega, h4, h5⟩)
  · exact q.elim
end

def uCmp (p : Int → Int → Bool) : R2 := fun x y H Q => match x, y with
  | .int i, .int j => Q (.bl (p i j)) H
  | _, _ => False
abbrev uLt : R2 := uCmp fun i j => decide (i < j)
abbrev uLe : R2 := uCmp fun i j => decide (i ≤ j)
abbrev uGt : R2 := uCmp fun i j => decide (j < i)
abbrev uGe : R2 := uCmp fun i j => decide (j ≤ i)
/-- equal data of any depth (the lesser depth at most 200) -/
def rEqG (K : PySem.W.Frag) (neg : Bool) : R2 := fun x y H Q => ∃ d e, Dp K H x d ∧ Dp K H y e ∧ d.canLay0 = true ∧ e.canLay0 = true ∧ min d.depth e.depth ≤ 200 ∧ Q (.bl (if neg then !PyData.eqv d e else PyData.eqv d e)) H
def uEq (K : PySem.W.Frag) : R2 := fun x y H Q => match x, y with
  | .int i, .int j => Q (.bl (decide (i = j))) H
  | .str a, .str b => Q (.bl (decide (a = b))) H
  | .bl a, .bl b => Q (.bl (decide (a = b))) H
  | x, y => rEqG K false x y H Q
def uNe (K : PySem.W.Frag) : R2 := fun x y H Q => match x, y with
  | .int i, .int j => Q (.bl (!decide (i = j))) H
  | .str a, .str b => Q (.bl (!decide (a = b))) H
  | .bl a, .bl b => Q (.bl (!decide (a = b))) H
  | x, y => rEqG K true x y H Q
/-- x in a list or tuple of data -/
def rInG (K : PySem.W.Frag) (neg : Bool) : R2 := fun x y H Q => ∃ d ds, Dp K H x d ∧ Dp K H y (.list ds) ∧ d.canLay0 = true ∧ PyData.canLayAll0 ds = true ∧ min (PyData.depthAll ds) d.depth ≤ 200 ∧
  Q (.bl (if neg then !ds.any fun z => PyData.eqv z d else ds.any fun z => PyData.eqv z d)) H
/-- a text in a text (one sign: is it there) -/
def subS (i j : Str) : Bool := !(Builtin.Str.occurrences j i 0 j.length 1).isEmpty
def uIn (K : PySem.W.Frag) (neg : Bool) : R2 := fun x y H Q => match y with
  | .str j => (match x with
    | .str i => Q (.bl (if neg then !subS i j else subS i j)) H
    | _ => False)
  | .ref p => (∃ xs, (SqL K H p xs ∨ SqT K H p xs) ∧ flatV x = true ∧ xs.all flatV = true ∧ Q (.bl (if neg then !inV x xs else inV x xs)) H) ∨ rInG K neg x y H Q
  | _ => False

section
variable {X : Cx}
theorem op_uLt : OpR X (compareOp .Lt) uLt := OpR.of op_lt fun x y H Q q => by
  unfold uLt uCmp at q
  split at q
  · exact ⟨_, _, rfl, rfl, q⟩
  · exact q.elim
theorem op_uLe : OpR X (compareOp .LtE) uLe := OpR.of op_le fun x y H Q q => by
  unfold uLe uCmp at q
  split at q
  · exact ⟨_, _, rfl, rfl, q⟩
  · exact q.elim
theorem op_uGt : OpR X (compareOp .Gt) uGt := OpR.of op_gt fun x y H Q q => by
  unfold uGt uCmp at q
  split at q
  · exact ⟨_, _, rfl, rfl, q⟩
  · exact q.elim
theorem op_uGe : OpR X (compareOp .GtE) uGe := OpR.of op_ge fun x y H Q q => by
  unfold uGe uCmp at q
  split at q
  · exact ⟨_, _, rfl, rfl, q⟩
  · exact q.elim
theorem op_eqG (hu : X.A.units + 201 < cLine) : OpR X (compareOp .Eq) (rEqG X.K false) := by
  intro pins s σ H x y v u Q I rx ry h
  obtain ⟨d, e, hd, he, sd, se, hz, q⟩ := h
  obtain ⟨as, r1⟩ := Dp.reads I d x v hd rx
  obtain ⟨bs, r2⟩ := Dp.reads I e y u he ry
  exact SeqAt.compareEq_reads r1 r2 sd se (by omega) ⟨.bl _, H, I, rfl, q⟩
theorem op_neG (hu : X.A.units + 201 < cLine) : OpR X (compareOp .NotEq) (rEqG X.K true) := by
  intro pins s σ H x y v u Q I rx ry h
  obtain ⟨d, e, hd, he, sd, se, hz, q⟩ := h
  obtain ⟨as, r1⟩ := Dp.reads I d x v hd rx
  obtain ⟨bs, r2⟩ := Dp.reads I e y u he ry
  exact SeqAt.compareNe_reads r1 r2 sd se (by omega) ⟨.bl _, H, I, rfl, q⟩
theorem op_inG (hu : X.A.units + 202 < cLine) : OpR X (compareOp .In) (rInG X.K false) := by
  intro pins s σ H x y v u Q I rx ry h
  obtain ⟨d, ds, hd, he, sd, se, hz, q⟩ := h
  obtain ⟨as, r1⟩ := Dp.reads I d x v hd rx
  obtain ⟨bs, r2⟩ := Dp.reads I (.list ds) y u he ry
  exact SeqAt.in_list_reads r2 r1 se sd (by omega) ⟨.bl _, H, I, rfl, q⟩
theorem op_notInG (hu : X.A.units + 202 < cLine) : OpR X (compareOp .NotIn) (rInG X.K true) := by
  intro pins s σ H x y v u Q I rx ry h
  obtain ⟨d, ds, hd, he, sd, se, hz, q⟩ := h
  obtain ⟨as, r1⟩ := Dp.reads I d x v hd rx
  obtain ⟨bs, r2⟩ := Dp.reads I (.list ds) y u he ry
  exact SeqAt.notIn_list_reads r2 r1 se sd (by omega) ⟨.bl _, H, I, rfl, q⟩
theorem op_uEq (hu : X.A.units + 201 < cLine) : OpR X (compareOp .Eq) (uEq X.K) := by
  refine OpR.of (OpR.or op_eq (op_eqG hu)) fun x y H Q q => ?_
  unfold uEq at q
  split at q
  · refine .inl ⟨rfl, ?_⟩
    rename_i i j
    have e : decide (V.int i = V.int j) = decide (i = j) := by simp
    rw [e]; exact q
  · refine .inl ⟨rfl, ?_⟩
    rename_i i j
    have e : decide (V.str i = V.str j) = decide (i = j) := by simp
    rw [e]; exact q
  · refine .inl ⟨rfl, ?_⟩
    rename_i i j
    have e : decide (V.bl i = V.bl j) = decide (i = j) := by simp
    rw [e]; exact q
  · exact .inr q
theorem op_uNe (hu : X.A.units + 201 < cLine) : OpR X (compareOp .NotEq) (uNe X.K) := by
  refine OpR.of (OpR.or op_ne (op_neG hu)) fun x y H Q q => ?_
  unfold uNe at q
  split at q
  · refine .inl ⟨rfl, ?_⟩
    rename_i i j
    have e : decide (V.int i = V.int j) = decide (i = j) := by simp
    rw [e]; exact q
  · refine .inl ⟨rfl, ?_⟩
    rename_i i j
    have e : decide (V.str i = V.str j) = decide (i = j) := by simp
    rw [e]; exact q
  · refine .inl ⟨rfl, ?_⟩
    rename_i i j
    have e : decide (V.bl i = V.bl j) = decide (i = j) := by simp
    rw [e]; exact q
  · exact .inr q
theorem op_uIn (hu : X.A.units + 202 < cLine) : OpR X (compareOp .In) (uIn X.K false) := by
  refine OpR.of (OpR.or op_in_str (OpR.or op_in_seq (op_inG hu))) fun x y H Q q => ?_
  unfold uIn at q
  split at q
  · split at q
    · exact .inl ⟨_, _, rfl, rfl, q⟩
    · exact q.elim
  · rcases q with ⟨xs, h1, h2, h3, h4⟩ | q
    · exact .inr (.inl ⟨_, xs, rfl, h1, h2, h3, h4⟩)
    · exact .inr (.inr q)
  · exact q.elim
theorem op_uNotIn (hu : X.A.units + 202 < cLine) : OpR X (compareOp .NotIn) (uIn X.K true) := by
  refine OpR.of (OpR.or op_notin_str (OpR.or op_notIn_seq (op_notInG hu))) fun x y H Q q => ?_
  unfold uIn at q
  split at q
  · split at q
    · exact .inl ⟨_, _, rfl, rfl, q⟩
    · exact q.elim
  · rcases q with ⟨xs, h1, h2, h3, h4⟩ | q
    · exact .inr (.inl ⟨_, xs, rfl, h1, h2, h3, h4⟩)
    · exact .inr (.inr q)
  · exact q.elim
end

def uIx (K : PySem.W.Frag) : R2 := fun x y H Q => match x, y with
  | .str z, .int i => z.length ≤ sizeLine ∧ ∃ c, atI z.cps.toList i = some c ∧ Q (.str ⟨#[c]⟩) H
  | .ref p, .int i => ∃ xs v, (SqL K H p xs ∨ SqT K H p xs) ∧ atI xs i = some v ∧ Q v H
  | _, _ => False
def uSl (K : PySem.W.Frag) : V → Option Int → Option Int → Hp → VK → Prop := fun x lo hi H Q => match x with
  | .str z => z.length ≤ sizeLine ∧ Q (.str (cutS z lo hi)) H
  | .ref a => ∃ xs, SqL K H a xs ∧ ∀ p, H p = none → Q (.ref p) (upd H p (.lst (cutV xs lo hi)))
  | _ => False
section
variable {X : Cx}
theorem ix_u : IxR X (uIx X.K) := IxR.of ix_seq fun x y H Q q => by
  unfold uIx at q
  split at q
  · obtain ⟨h1, c, h2, h3⟩ := q
    exact .inr (.inr ⟨_, _, c, rfl, rfl, h1, h2, h3⟩)
  · obtain ⟨xs, v, h1 | h1, h2, h3⟩ := q
    · exact .inl ⟨_, xs, _, v, rfl, rfl, h1, h2, h3⟩
    · exact .inr (.inl ⟨_, xs, _, v, rfl, rfl, h1, h2, h3⟩)
  · exact q.elim
theorem sl_u : SlR X (uSl X.K) := SlR.of (SlR.or sl_str sl_list) fun x lo hi H Q q => by
  unfold uSl at q
  split at q
  · exact .inl ⟨_, rfl, q.1, q.2⟩
  · obtain ⟨xs, h1, h2⟩ := q
    exact .inr ⟨_, xs, rfl, h1, h2⟩
  · exact q.elim
end

def uLen (K : PySem.W.Frag) : List V → Hp → VK → Prop := fun vs H Q => match vs with
  | [.str z] => z.length ≤ sizeLine ∧ Q (.int (z.length : Int)) H
  | [.ref p] => ∃ xs, (SqL K H p xs ∨ SqT K H p xs) ∧ Q (.int (xs.length : Int)) H
  | _ => False
def uAbs : List V → Hp → VK → Prop := fun vs H Q => match vs with
  | [.int i] => Q (.int (if i < 0 then -i else i)) H
  | _ => False
def uInt : List V → Hp → VK → Prop := fun vs H Q => match vs with
  | [.int i] => Q (.int i) H
  | _ => False
def uList (K : PySem.W.Frag) : List V → Hp → VK → Prop := fun vs H Q => match vs with
  | [.ref p] => ∃ xs, (SqL K H p xs ∨ SqT K H p xs) ∧ ∀ l, H l = none → Q (.ref l) (upd H l (.lst xs))
  | _ => False
/-- tuple(a list) -/
def uTup (K : PySem.W.Frag) : List V → Hp → VK → Prop := fun vs H Q => match vs with
  | [.ref p] => ∃ xs, SqL K H p xs ∧ ∀ l, H l = none → Q (.ref l) (upd H l (.tup xs))
  | _ => False
def uIsi (K : PySem.W.Frag) : List V → Hp → VK → Prop := fun vs H Q => match vs with
  | [x, c] => (∃ (t u : Value) (b : Bool), ClsV c u ∧ TyX K H x t ∧ PySem.W.kitOne K t u = some b ∧ Q (.bl b) H) ∨
      ∃ (tp : Addr) (cs : List V) (t : Value) (us : List Value) (b : Bool), c = .ref tp ∧ H tp = some (.tup cs) ∧ Paired ClsV cs us ∧ TyX K H x t ∧ PySem.W.kitAny K t us = some b ∧ Q (.bl b) H
  | _ => False
section
variable {X : Cx}
theorem cr_uLen : CallR X (.builtin "len") (uLen X.K) := CallR.of call_len fun vs H Q q => by
  unfold uLen at q
  split at q
  · exact ⟨_, _, rfl, ⟨q.1, rfl⟩, q.2⟩
  · obtain ⟨xs, h1 | h1, h2⟩ := q
    · exact ⟨_, _, rfl, .inl ⟨xs, h1, rfl⟩, h2⟩
    · exact ⟨_, _, rfl, .inr ⟨xs, h1, rfl⟩, h2⟩
  · exact q.elim
theorem cr_uAbs : CallR X (.builtin "abs") uAbs := CallR.of call_abs fun vs H Q q => by
  unfold uAbs at q
  split at q
  · exact ⟨_, rfl, q⟩
  · exact q.elim
theorem cr_uInt : CallR X (.type "int") uInt := CallR.of call_int1 fun vs H Q q => by
  unfold uInt at q
  split at q
  · exact .inl ⟨_, rfl, q⟩
  · exact q.elim
theorem cr_uList : CallR X (.type "list") (uList X.K) := CallR.of call_list_of fun vs H Q q => by
  unfold uList at q
  split at q
  · obtain ⟨xs, h1, h2⟩ := q
    exact ⟨_, xs, rfl, h1, h2⟩
  · exact q.elim
theorem cr_uTup : CallR X (.type "tuple") (uTup X.K) := CallR.of call_tuple_of fun vs H Q q => by
  unfold uTup at q
  split at q
  · obtain ⟨xs, h1, h2⟩ := q
    exact ⟨_, xs, rfl, .inl ⟨h1, h2⟩⟩
  · exact q.elim
theorem cr_uIsi : CallR X (.builtin "isinstance") (uIsi X.K) := CallR.of (CallR.or call_isi call_isiT) fun vs H Q q => by
  unfold uIsi at q
  split at q
  · rcases q with ⟨t, u, b, h1, h2, h3, h4⟩ | ⟨tp, cs, t, us, b, h0, h1, h2, h3, h4, h5⟩
    · exact .inl ⟨_, _, t, u, b, rfl, h1, h2, h3, h4⟩
    · subst h0
      exact .inr ⟨_, tp, cs, t, us, b, rfl, h1, h2, h3, h4, h5⟩
  · exact q.elim

end
theorem meets_extendT (l : Addr) (items : Array Value) (n : Nat) (b : Addr) (ob : Obj) (items2 : Array Value) (n2 : Nat) (hs0 : ¬(!items.isEmpty && Builtin.List.listTooLong (items.size + items2.size)) = true) (hs1 : items.size ≤ sizeLine) (hs2 : items.size + items2.size ≤ sizeLine + 1) :
    Meets (Builtin.«list.extend» ⟨[.ref l, .ref b], []⟩) (fun _ R s => s.heap.get? l = some { cls := .type "list", dict := none, data := .seq items n, slots := #[] } ∧ s.heap.get? b = some ob ∧ ob.cls = .type "tuple" ∧ ob.data = .seq items2 n2 ∧
      R (.ok (.ret Value.none)) { s with heap := s.heap.update l (Obj.mapSeq fun x => x ++ items2), toks := s.toks }) :=
  .of_wp fun prog w A R s h => by
    obtain ⟨hl, hb, hc, hd, h⟩ := h
    have hz2 : (items ++ items2).size ≤ sizeLine + 1 := by rw [Array.size_append]; exact hs2
    refine wpAny_bind (wpAny_of_eq (a := (.ref l, .ref b)) (by first | rfl | kernel_rfl) ?_)
    show wpAny _ A.in1 (Builtin.List.listExtendWith (.ref l) (.ref b) .none) _ _ s
    unfold Builtin.List.listExtendWith
    refine wpAny_bind (wpAny_typeOf ⟨ob, hb, hc⟩ ?_)
    have h1 : (Builtin.List.listSameRef (.ref l) (.ref b) || Value.type "tuple" == Value.type "list" || Value.type "tuple" == Value.type "tuple") = true := by simp
    simp only [h1, if_true]
    refine wpAny_bind ?_
    unfold Builtin.List.listItems
    refine wpAny_bind (wpAny_seqItems hb hd (wpAny_pure ?_))
    refine wpAny_bind ?_
    refine wpAny_bind (wpAny_seqItems hl rfl (wpAny_pure ?_))
    simp only [hs0, if_false]
    show wpAny _ A.in1 (updateSeq l (· ++ items2) >>= fun _ => ret Value.none) _ _ s
    refine wpAny_bind (wpAny_updateSeq hl rfl ?_ hs1 hz2)
    exact wpAny_pure ⟨_, rfl, h⟩
section
variable {X : Cx}
/-- xs.extend(t), t a tuple -/
theorem mt_extendT : MtR X "list.extend" (fun x vs H Q => ∃ l b xs zs, x = .ref l ∧ vs = [.ref b] ∧ H l = some (.lst xs) ∧ SqT X.K H b zs ∧ xs.length + zs.length ≤ sizeLine ∧ Q .non (upd H l (.lst (xs ++ zs)))) := by
  intro pins s σ H x vs v us Q I rx rv h
  obtain ⟨l, b, xs, zs, rfl, rfl, hH, hB, hz, q⟩ := h
  cases rx
  obtain ⟨u, rfl, ru⟩ := rv.one
  cases ru
  obtain ⟨z, its, n, r, hl, e⟩ := I.lstM hH
  obtain ⟨its2, r2, tup2, hz2⟩ := I.tuple hB
  have hl2 := r2.length
  obtain ⟨ob, ho, hc, n2, hd⟩ := tup2
  have hsz : its.toArray.size + its2.toArray.size ≤ sizeLine := by rw [List.size_toArray, List.size_toArray]; omega
  have hlong : ¬ (!its.toArray.isEmpty && Builtin.List.listTooLong (its.toArray.size + its2.toArray.size)) = true := by
    rw [notLongL hsz, Bool.and_false]
    exact Bool.false_ne_true
  refine call_meets F.slot_list_extend ⟨_, e, rfl⟩ F.entry_list_extend (F.args_list_extend_2 _ _)
    (meets_extendT l its.toArray n b ob its2.toArray n2 hlong (by rw [List.size_toArray]; omega) (by omega)) ⟨e, ho, hc, hd, ?_⟩
  refine ⟨.non, _, I.lset (its' := its ++ its2) hH e (by simp) (r.append r2) ?_, rfl, q⟩
  rw [List.length_append]
  omega
def uApp : V → List V → Hp → VK → Prop := fun x vs H Q => match x, vs with
  | .ref l, [y] => ∃ xs, H l = some (.lst xs) ∧ xs.length < sizeLine ∧ Q .non (upd H l (.lst (xs ++ [y])))
  | _, _ => False
def uExt (K : PySem.W.Frag) : V → List V → Hp → VK → Prop := fun x vs H Q => match x, vs with
  | .ref l, [.ref b] => ∃ xs zs, H l = some (.lst xs) ∧ (H b = some (.lst zs) ∨ SqT K H b zs) ∧ xs.length + zs.length ≤ sizeLine ∧ Q .non (upd H l (.lst (xs ++ zs)))
  | _, _ => False
def uPop : V → List V → Hp → VK → Prop := fun x vs H Q => match x, vs with
  | .ref l, [] => ∃ xs y, H l = some (.lst (xs ++ [y])) ∧ Q y (upd H l (.lst xs))
  | _, _ => False
theorem mt_uApp : MtR X "list.append" uApp := MtR.of mt_append fun x vs H Q q => by
  unfold uApp at q
  split at q
  · obtain ⟨xs, h1, h2, h3⟩ := q
    exact ⟨_, xs, _, rfl, rfl, h1, h2, h3⟩
  · exact q.elim
theorem mt_uExt : MtR X "list.extend" (uExt X.K) := MtR.of (MtR.or mt_extend mt_extendT) fun x vs H Q q => by
  unfold uExt at q
  split at q
  · obtain ⟨xs, zs, h1, h2 | h2, h3, h4⟩ := q
    · exact .inl ⟨_, _, xs, zs, rfl, rfl, h1, h2, h3, h4⟩
    · exact .inr ⟨_, _, xs, zs, rfl, rfl, h1, h2, h3, h4⟩
  · exact q.elim
theorem mt_uPop : MtR X "list.pop" uPop := MtR.of mt_pop fun x vs H Q q => by
  unfold uPop at q
  split at q
  · obtain ⟨xs, y, h1, h2⟩ := q
    refine ⟨_, _, y, rfl, rfl, h1, by simp, ?_⟩
    rw [List.dropLast_concat]
    exact h2
  · exact q.elim
theorem tyl {K : PySem.W.Frag} {l : Addr} {xs : List V} {H : Hp} (h : H l = some (.lst xs)) : tyV K "list" (.ref l) H := .inl ⟨rfl, xs, .inl (.inl h)⟩
section
variable {o e : Expr} {es : List Expr} {to te : TE} {t : TA} {apos cpos : Pos}
theorem pe_app (ho : PE X o to) (ha : PA X (e :: es) t) (hbase : attributeBase o "append" X.env (eval o X.env) = eval o X.env := by rfl)
    (hfew : ((backTo cpos (starEach (e :: es) X.env)).all (fun x => !x.1) && (backToKw cpos (keywordEach [] X.env)).all (fun x => x.1.isSome)
      && decide ((e :: es).length + ([] : List Keyword).length + (if ([] : List Keyword).isEmpty then 0 else 1) < 30)) = true := by rfl)
    (hline : (apos.endLine == cpos.line) = true := by rfl) (hs : starEach (e :: es) X.env = (false, eval e X.env) :: starEach es X.env := by rfl) (hplain : (backTo cpos (starEach es X.env)).any (·.1) = false := by rfl) :
    PE X (.Call (.Attribute o "append" apos) (e :: es) [] cpos) (tBM X.K "list" uApp to t) := pe_bm F.plainAttrs_list F.slot_list_append F.type_list_append mt_uApp ho ha hbase hfew hline hs hplain
theorem pe_ext (ho : PE X o to) (ha : PA X (e :: es) t) (hbase : attributeBase o "extend" X.env (eval o X.env) = eval o X.env := by rfl)
    (hfew : ((backTo cpos (starEach (e :: es) X.env)).all (fun x => !x.1) && (backToKw cpos (keywordEach [] X.env)).all (fun x => x.1.isSome)
      && decide ((e :: es).length + ([] : List Keyword).length + (if ([] : List Keyword).isEmpty then 0 else 1) < 30)) = true := by rfl)
    (hline : (apos.endLine == cpos.line) = true := by rfl) (hs : starEach (e :: es) X.env = (false, eval e X.env) :: starEach es X.env := by rfl) (hplain : (backTo cpos (starEach es X.env)).any (·.1) = false := by rfl) :
    PE X (.Call (.Attribute o "extend" apos) (e :: es) [] cpos) (tBM X.K "list" (uExt X.K) to t) := pe_bm F.plainAttrs_list F.slot_list_extend F.type_list_extend mt_uExt ho ha hbase hfew hline hs hplain
theorem pe_pop (ho : PE X o to) (hbase : attributeBase o "pop" X.env (eval o X.env) = eval o X.env := by rfl) (hline : (apos.endLine == cpos.line) = true := by rfl) :
    PE X (.Call (.Attribute o "pop" apos) [] [] cpos) (tBM0 X.K "list" uPop to) := pe_bm0 F.plainAttrs_list F.slot_list_pop F.type_list_pop mt_uPop ho hbase hline
end
end

/-- in X the global x is a def that keeps sp (positional values); E: what is wished of its exceptions -/
def Can (X : Cx) (x : Str) (sp : Sp) (E : XK) : Prop := ∃ (CX : CXT) (k : Nat) (f : Addr), X.mg x = some (.ref f) ∧ PySem.W.keepIn X.K (.ref f) = true ∧ FnR X.prog X.w X.K X.mg X.base CX k f sp ∧ Room k X.A ∧ Passes CX X E
/-- .. is a class at C whose __init__ keeps sp -/
def CanMk (X : Cx) (x : Str) (C : Addr) (sp : Sp) (E : XK) : Prop := ∃ (CX : CXT) (k : Nat) (f : Addr), X.mg x = some (.ref C) ∧ Mk X.K C f ∧ FnR X.prog X.w X.K X.mg X.base CX k f sp ∧ Room (k + 1) X.A ∧ Passes CX X E
def tCan (sp : Sp) (E : XK) (t : TA) : TE := fun σ H Q => t σ H fun vs H1 => sp vs H1 Q E
section
variable {X : Cx} {x m : Str} {C : Addr} {sp : Sp} {E : XK} {p pos apos : Pos} {e o : Expr} {es : List Expr} {t : TA} {ta te : TE}
theorem pe_can (c : Can X x sp E) (ha : PA X (e :: es) t) (hg : Gl X x := by rfl) (hd : (x == ("__debug__" : Str)) = false := by decide) (he : starEach (e :: es) X.env = (false, eval e X.env) :: starEach es X.env := by rfl) (hpl : (backTo pos (starEach es X.env)).any (·.1) = false := by rfl) :
    PE X (.Call (.Name x p) (e :: es) [] pos) (tCan sp E t) := by
  obtain ⟨CX, k, f, hm, hk, F, hr, hx⟩ := c
  refine ⟨fun pins s σ H Q I h => ?_⟩
  refine wpAny_Call_Name_kw (ld_glob I hg hm ?_ hd)
  refine PySem.W.callWith_K (h₀ := X.base) I.ok.mod.kin hk (thn (ha.run pos pins s σ H _ I h) fun us s1 z => ?_) he hpl
  obtain ⟨vs, H1, I1, r, q⟩ := z
  exact ⟨I1.kIn, wpAny_call (run_fnR F hr hx I1 r q)⟩
theorem pe_can0 (c : Can X x sp E) (hg : Gl X x := by rfl) (hd : (x == ("__debug__" : Str)) = false := by decide) : PE X (.Call (.Name x p) [] [] pos) (tCan sp E tNil) := by
  obtain ⟨CX, k, f, hm, hk, F, hr, hx⟩ := c
  refine ⟨fun pins s σ H Q I h => ?_⟩
  refine wpAny_Call_Name_kw (ld_glob I hg hm ?_ hd)
  exact PySem.W.callWith_K0 I.kIn hk (wpAny_call (run_fnR (us := []) F hr hx I .nil h))
/-- f( *e) -/
def tCanS (K : PySem.W.Frag) (sp : Sp) (E : XK) (te : TE) : TE := fun σ H Q => te σ H fun y H1 => match y with
  | .ref a => ∃ xs, (SqT K H1 a xs ∨ SqL K H1 a xs) ∧ sp xs H1 Q E
  | _ => False
theorem pe_canS {q : Pos} (c : Can X x sp E) (he : PE X e te) (hg : Gl X x := by rfl) (hd : (x == ("__debug__" : Str)) = false := by decide) : PE X (.Call (.Name x p) [.Starred e q] [] pos) (tCanS X.K sp E te) := by
  obtain ⟨CX, k, f, hm, hk, F, hr, hx⟩ := c
  refine ⟨fun pins s σ H Q I h => ?_⟩
  refine wpAny_Call_Name_kw (ld_glob I hg hm ?_ hd)
  refine PySem.W.ks_call (P := X.K.In) rfl (PySem.W.keeps_K hk) (PySem.W.ks_lone ?_)
  refine thn (he.run pins s σ H _ I h) fun v s1 z => ?_
  obtain ⟨y, H1, I1, r1, q⟩ := z
  cases y with
  | ref a =>
    obtain ⟨xs, hs, q⟩ := q
    obtain rfl : v = Value.ref a := r1
    exact StX.star_any I1 hs fun us s2 I2 r2 => ⟨I2.kIn, wpAny_call (run_fnR (us := us) F hr hx I2 r2 q)⟩
  | _ => exact q.elim
/-- C(e, ..) -/
theorem pe_mk (c : CanMk X x C sp E) (ha : PA X (e :: es) t) (hg : Gl X x := by rfl) (hd : (x == ("__debug__" : Str)) = false := by decide) (he : starEach (e :: es) X.env = (false, eval e X.env) :: starEach es X.env := by rfl) (hpl : (backTo pos (starEach es X.env)).any (·.1) = false := by rfl) :
    PE X (.Call (.Name x p) (e :: es) [] pos) (StX.tMakeR C sp E t) := by
  obtain ⟨CX, k, f, hm, M, F, hr, hx⟩ := c
  exact StX.pe_makeR M F hr hg hm hx ha hd he hpl
theorem pe_mk0 (c : CanMk X x C sp E) (hg : Gl X x := by rfl) (hd : (x == ("__debug__" : Str)) = false := by decide) : PE X (.Call (.Name x p) [] [] pos) (StX.tMakeR C sp E tNil) := by
  obtain ⟨CX, k, f, hm, M, F, hr, hx⟩ := c
  refine ⟨fun pins s σ H Q I h => ?_⟩
  refine wpAny_Call_Name_kw (ld_glob I hg hm ?_ hd)
  exact PySem.W.callWith_K0 I.kIn M.kp (StX.run_makeR M F hr hx I .nil h)
/-- o.m() where the class of o is told by the heap -/
def CanMt (X : Cx) (m : Str) (f : Addr) (sp : Sp) (E : XK) : Prop := ∃ (CX : CXT) (k : Nat), PySem.W.keepIn X.K (.ref f) = true ∧ FnR X.prog X.w X.K X.mg X.base CX k f sp ∧ Room k X.A ∧ Passes CX X E
def tMt (K : PySem.W.Frag) (m : Str) (f : Addr) (sp : Sp) (E : XK) (ta : TE) (t : TA) : TE := fun σ H Q => ta σ H fun x H1 => match x with
  | .ref a => ∃ C dx fs, H1 a = some (.ins C dx fs) ∧ Cls K C ∧ Meth K C m f ∧ fs.lookup m = none ∧ t σ H1 fun vs H2 => sp (.ref a :: vs) H2 Q E
  | _ => False
theorem pe_mt0 {f : Addr} {pl : Sem Bool} (c : CanMt X m f sp E) (ho : PE X o ta)
    (ht : eval (.Call (.Attribute o m apos) [] [] pos) X.env = (do
      let ov ← eval o X.env
      standAt apos.atName
      let (g, first) ← holding [ov] (getMethod ov m pl)
      callWith pos g first (backTo pos (starEach [] X.env)) (backToKw pos (keywordEach [] X.env))) := by rfl) : PE X (.Call (.Attribute o m apos) [] [] pos) (tMt X.K m f sp E ta tNil) := by
  obtain ⟨CX, k, hk, F, hr, hx⟩ := c
  refine ⟨fun pins s σ H Q I h => ?_⟩
  refine PySem.W.methodCall_KW (pl := pl) (thn (ho.run pins s σ H _ I h) fun u s1 z => ?_) ht
  obtain ⟨x, H1, I1, rx, q⟩ := z
  cases x with
  | ref a =>
    obtain ⟨C, dx, fs, ea, cl, hm, l, q⟩ := q
    obtain rfl : u = Value.ref a := rx
    refine getmeth_ok I1 ea cl hm l ?_
    exact PySem.W.callWith_K0 (first := [.ref a]) I1.kIn hm.kp (wpAny_call (run_fnR (us := [.ref a]) (vs := [.ref a]) F hr hx I1 (.cons rfl .nil) q))
  | _ => exact q.elim
end
end L2.WB
namespace L2.WB
open PySem PySem.Spec PyProof.Rows

def uB (t : TE) : TT := fun σ H Q => t σ H fun x H1 => match x with
  | .bl c => Q c H1
  | _ => False
def uAndV (ta tb : TE) : TE := fun σ H Q => ta σ H fun x H1 => match x with
  | .bl c => if c = true then tb σ H1 Q else Q (.bl false) H1
  | _ => False
def uOrV (ta tb : TE) : TE := fun σ H Q => ta σ H fun x H1 => match x with
  | .bl c => if c = true then Q (.bl true) H1 else tb σ H1 Q
  | _ => False
def uNotV (ta : TE) : TE := fun σ H Q => ta σ H fun x H1 => match x with
  | .bl c => Q (.bl (!c)) H1
  | _ => False
def uNeg : V → Hp → VK → Prop := fun x H Q => match x with
  | .int i => Q (.int (-i)) H
  | _ => False
section
variable {X : Cx} {a b : Expr} {rest : List Expr} {ta tb : TE} {pos : Pos}
theorem pt_u {e : Expr} {t : TE} (h : PE X e t) (he : ∀ whole, isTrue e X.env whole = (do let v ← whole; standAt e.pos; holding [v] (truthy v)) := by intro _; rfl) : PT X e (uB t) := by
  refine ⟨fun pins s σ H Q I hw => ?_⟩
  refine isTrue_plain (thn (h.run pins s σ H _ I hw) fun v s1 ⟨x, H1, I1, r1, q1⟩ => ?_) (he _)
  cases x with
  | bl d =>
    cases r1
    exact wpAny_truthy_bool ⟨H1, I1, q1⟩
  | _ => exact q1.elim
theorem pt_uc {op : CmpOp} {r : R2} (ho : OpR X (compareOp op) r) (ha : PE X a ta) (hb : PE X b tb) (hm : behindInMarks op b = false) : PT X (.Compare a [op] [b] pos) (uB (tOp r ta tb)) := by
  refine ⟨fun pins s σ H Q I h => ?_⟩
  refine wpAny_isTrue_Compare1 (thn (ha.run pins s σ H _ I h) fun v s1 ⟨x, H1, I1, r1, q1⟩ => thn (hb.run pins s1 σ H1 _ I1 q1) fun u s2 ⟨y, H2, I2, r2, q2⟩ =>
    thn (ho pins s2 σ H2 x y v u _ I2 r1 r2 q2) fun c s3 ⟨z, H3, I3, r3, q3⟩ => ?_) hm
  cases z with
  | bl k =>
    cases r3
    exact wpAny_truthy_bool ⟨H3, I3, q3⟩
  | _ => exact q3.elim
theorem pe_andU (ha : PE X a ta) (hb : PE X (.BoolOp .And (b :: rest) pos) tb) : PE X (.BoolOp .And (a :: b :: rest) pos) (uAndV ta tb) := by
  refine ⟨fun pins s σ H Q I h => ?_⟩
  refine BoolOp_and (thn (ha.run pins s σ H _ I h) fun v s1 ⟨x, H1, I1, r1, q1⟩ => ?_)
  cases x with
  | bl c =>
    cases r1
    refine wpAny_truthy_bool ?_
    cases c with
    | true => exact hb.run pins s1 σ H1 Q I1 q1
    | false => exact ⟨.bl false, H1, I1, rfl, q1⟩
  | _ => exact q1.elim
theorem pe_orU (ha : PE X a ta) (hb : PE X (.BoolOp .Or (b :: rest) pos) tb) : PE X (.BoolOp .Or (a :: b :: rest) pos) (uOrV ta tb) := by
  refine ⟨fun pins s σ H Q I h => ?_⟩
  refine BoolOp_or (thn (ha.run pins s σ H _ I h) fun v s1 ⟨x, H1, I1, r1, q1⟩ => ?_)
  cases x with
  | bl c =>
    cases r1
    refine wpAny_truthy_bool ?_
    cases c with
    | false => exact hb.run pins s1 σ H1 Q I1 q1
    | true => exact ⟨.bl true, H1, I1, rfl, q1⟩
  | _ => exact q1.elim
theorem pe_notU (ha : PE X a ta) : PE X (.UnaryOp .Not a pos) (uNotV ta) := by
  refine ⟨fun pins s σ H Q I h => ?_⟩
  refine UnaryOp_ (thn (ha.run pins s σ H _ I h) fun v s1 ⟨x, H1, I1, r1, q1⟩ => ?_)
  cases x with
  | bl c =>
    cases r1
    exact not_of (wpAny_truthy_bool ⟨.bl (!c), H1, I1, rfl, q1⟩)
  | _ => exact q1.elim
theorem un_uNeg : UnR X (unaryOp .USub) uNeg := by
  intro pins s σ H x v Q I rx h
  cases x with
  | int i => exact un_neg pins s σ H (.int i) v Q I rx ⟨i, rfl, h⟩
  | _ => exact h.elim
/-- a global of the module, by its value -/
def GlV (mg : Str → Option Value) (x : Str) (v : V) : Prop := ∃ u, mg x = some u ∧ RelV v u
theorem pe_gs {x : Str} {v : V} (h : GlV X.mg x v) (hg : Gl X x := by rfl) (hd : (x == ("__debug__" : Str)) = false := by decide) : PE X (.Name x pos) (tC v) := by
  obtain ⟨u, hm, r⟩ := h
  exact pe_glob hg hm r hd
end

/-- what follows may be weakened -/
def upA (t : TA) : TA := fun σ H Q => ∃ P : List V → Hp → Prop, t σ H P ∧ ∀ vs H1, P vs H1 → Q vs H1
theorem PA.up {X : Cx} {es : List Expr} {t : TA} (h : PA X es t) : PA X es (upA t) := ⟨fun pos pins s σ H Q I ⟨P, q, k⟩ => thn (h.run pos pins s σ H P I q) fun us s1 ⟨vs, H1, I1, r, z⟩ => ⟨vs, H1, I1, r, k vs H1 z⟩⟩

/-- x is the own exception class at C, whose __init__ keeps its argument in the field fld -/
structure ExK (P : Program) (w : World) (K : PySem.W.Frag) (mg : Str → Option Value) (base : Heap) (k : Nat) (x : Str) (C : Addr) (fld : Str) : Prop where
  at_ : mg x = some (.ref C)
  oex : OexC K C
  nof : PySem.W.findIn K (.ref C) fld = some none
  init : ∃ (fI : Addr) (fd : FuncData) (ps : List Str), PySem.W.findIn K (.ref C) "__init__" = some (some (.ref fI)) ∧ PySem.W.typeIn K (.ref fI) = some (.type "function") ∧ Binds K fd ps [] ∧ FnOk P w K mg base CX0 k fI fd ps (spEx K C fld)
def CanEx (X : Cx) (x : Str) (C : Addr) (fld : Str) : Prop := ∃ k, ExK X.prog X.w X.K X.mg X.base k x C fld ∧ Room (k + 1) X.A
/-- E: what is wished of the exception -/
def tRz (C : Addr) (fld : Str) (E : XK) (ta : TA) : TS := fun _ σ H => ta σ H fun vs H1 => match vs with
  | [v] => ∀ (d : Addr) (H2 : Hp), H1 d = none → Same H1 H2 → H2 d = some (.xd [(fld, v)]) → E (.ref C) (some d) H2
  | _ => False
theorem ps_rz {X : Cx} {x : Str} {C : Addr} {fld : Str} {E : XK} {e : Expr} {ta : TA} {p pos pos2 : Pos} (c : CanEx X x C fld) (hc : X.calm = true) (tk : Takes X (fun cls d _ H => E cls d H)) (ha : PA X [e] ta) (hg : Gl X x := by rfl)
    (hdb : (x == ("__debug__" : Str)) = false := by decide) (he : starEach [e] X.env = (false, eval e X.env) :: starEach [] X.env := by rfl) (hpl : (backTo pos (starEach [] X.env)).any (·.1) = false := by rfl) :
    PS X (.Raise (some (.Call (.Name x p) [e] [] pos)) none pos2) (tRz C fld E ta) := by
  obtain ⟨k, ⟨hm, ox, nof, fI, fd, ps, iC, tI, hb, F⟩, hr⟩ := c
  refine PS.of (ps_raise hc tk (pmk_oex ox iC tI F hr hb .nil pass0 hg hm (PA.up ha) hdb he hpl)) fun D σ H h => ?_
  refine ⟨_, h, fun vs H1 q => ?_⟩
  match vs, q with
  | [v], q =>
    refine ⟨(by decide : 1 ≤ 1000), fun a na => ?_⟩
    refine ⟨a, v, rfl, upd_same, ox, nof, fun dx H3 sm nd ne ea ed fr => ⟨rfl, dx, [(fld, v)], ea, ed, ?_, q dx _ ?_ (fun b o hb => ?_) upd_same⟩⟩
    · rw [upd_ne ne] at nd
      exact nd
    · rw [upd_ne ne] at nd
      exact nd
    · have hba : b ≠ a := ne_of_none hb na
      rw [upd_ne ne] at nd
      rw [upd_ne (ne_of_none hb nd), del_ne hba]
      refine fr b o hba ?_
      rw [upd_ne hba]
      exact hb
end L2.WB
namespace L2.WB
open PySem PySem.Spec PyProof.Rows

def top (i : Nat) : Stmt := PySem.Challenge.pw_waysbyviews_k02_pattern_refused.main.body.getD i (.Pass ⟨0, 0, 0, 0⟩)
def clsBody : Stmt → List Stmt
  | .ClassDef (body := b) .. => b
  | _ => []
def meth (i j : Nat) : Stmt := (clsBody (top i)).getD j (.Pass ⟨0, 0, 0, 0⟩)
/-- where the classes stand -/
structure Ad where
  WaysError : Addr
  BadText : Addr
  BadItem : Addr
  TooLong : Addr
  TooDeep : Addr
  Pattern : Addr
  Nothing : Addr
  Stay : Addr
  Step : Addr
  Test : Addr
  Then : Addr
  Either : Addr
  Many : Addr
/-- the text of these code points -/
def sOf (l : List Nat) : Str := ⟨l.toArray⟩
def lowers : List Nat := [97, 98, 99, 100, 101, 102, 103, 104, 105, 106, 107, 108, 109, 110, 111, 112, 113, 114, 115, 116, 117, 118, 119, 120, 121, 122]
def uppers : List Nat := [65, 66, 67, 68, 69, 70, 71, 72, 73, 74, 75, 76, 77, 78, 79, 80, 81, 82, 83, 84, 85, 86, 87, 88, 89, 90]
abbrev cLETTERS : V := .str (sOf lowers)
abbrev cMARKS : V := .str (sOf uppers)
theorem pe_lit {X : Cx} {x : Str} {j : Nat} {pos : Pos} {l : List Nat} (h : x = sOf l) : PE X (.Constant (.str x) j pos) (tC (.str (sOf l))) := by
  rw [← h]
  exact pe_str
structure Txt (K : PySem.W.Frag) (mg : Str → Option Value) (c : Ad) : Prop where
  len : mg "len" = none
  abs : mg "abs" = none
  isinstance : mg "isinstance" = none
  sum : mg "sum" = none
  max : mg "max" = none
  all : mg "all" = none
  any : mg "any" = none
  int : mg "int" = none
  list : mg "list" = none
  tuple : mg "tuple" = none
  range : mg "range" = none
  str : mg "str" = none
  bool : mg "bool" = none
  ValueError : mg "ValueError" = none
  g_LETTERS : GlV mg "LETTERS" cLETTERS
  g_MARKS : GlV mg "MARKS" cMARKS
  g_MOST_SIZE : GlV mg "MOST_SIZE" (.int 2000)
  g_MOST_DEPTH : GlV mg "MOST_DEPTH" (.int 40)
  g_MOST_BRACKETS : GlV mg "MOST_BRACKETS" (.int 60)
  g_WaysError : GlV mg "WaysError" (.ref c.WaysError)
  g_BadText : GlV mg "BadText" (.ref c.BadText)
  g_BadItem : GlV mg "BadItem" (.ref c.BadItem)
  g_TooLong : GlV mg "TooLong" (.ref c.TooLong)
  g_TooDeep : GlV mg "TooDeep" (.ref c.TooDeep)
  g_Pattern : GlV mg "Pattern" (.ref c.Pattern)
  g_Nothing : GlV mg "Nothing" (.ref c.Nothing)
  g_Stay : GlV mg "Stay" (.ref c.Stay)
  g_Step : GlV mg "Step" (.ref c.Step)
  g_Test : GlV mg "Test" (.ref c.Test)
  g_Then : GlV mg "Then" (.ref c.Then)
  g_Either : GlV mg "Either" (.ref c.Either)
  g_Many : GlV mg "Many" (.ref c.Many)

abbrev X0 (P : Program) (w : World) (K : PySem.W.Frag) (mg : Str → Option Value) (base : Heap) (N : List Str) (qual : Str) (st : Stmt) (f : Addr) (cdv : Value) (A : Around) (outer : List Env) (s0 : Shared) (H0 : Hp) (E : XK) : Cx := (cxOf CX0 P w K mg base N qual (defScope st) f cdv A outer s0 H0 E).nox
abbrev XR (P : Program) (w : World) (K : PySem.W.Frag) (mg : Str → Option Value) (base : Heap) (N : List Str) (qual : Str) (st : Stmt) (f : Addr) (cdv : Value) (A : Around) (outer : List Env) (s0 : Shared) (H0 : Hp) (E : XK) : Cx := cxOf (L2.CX P w) P w K mg base N qual (defScope st) f cdv A outer s0 H0 E
/-- x is a def that keeps sp -/
def Has (P : Program) (w : World) (K : PySem.W.Frag) (mg : Str → Option Value) (base : Heap) (C : CXT) (k : Nat) (x : Str) (sp : Sp) : Prop := ∃ f : Addr, mg x = some (.ref f) ∧ PySem.W.keepIn K (.ref f) = true ∧ FnR P w K mg base C k f sp
/-- x is a class whose __init__ keeps sp -/
def HasMk (P : Program) (w : World) (K : PySem.W.Frag) (mg : Str → Option Value) (base : Heap) (CT : CXT) (k : Nat) (x : Str) (C : Addr) (sp : Sp) : Prop := ∃ f : Addr, mg x = some (.ref C) ∧ Mk K C f ∧ FnR P w K mg base CT k f sp
section
variable {X : Cx} {k : Nat} {x : Str} {sp : Sp} {C : Addr} {fld : Str} {E : XK} {W : WX}
theorem hu201 (hr : Room (k + 1) X.A) : X.A.units + 201 < cLine := by have := hr.un; omega
theorem hu202 (hr : Room (k + 1) X.A) : X.A.units + 202 < cLine := by have := hr.un; omega
theorem Has.can (h : Has X.prog X.w X.K X.mg X.base CX0 k x sp) (hr : Room (k + 1) X.A) : Can X x sp E0 := by
  obtain ⟨f, h1, h2, h3⟩ := h
  exact ⟨CX0, k, f, h1, h2, h3, hr.mono (Nat.le_succ _), pass0⟩
theorem Has.canX (h : Has X.prog X.w X.K X.mg X.base (L2.CX X.prog X.w) k x sp) (hr : Room (k + 1) X.A) (tk : Takes X (fun cls d _ H => E cls d H)) : Can X x sp E := by
  obtain ⟨f, h1, h2, h3⟩ := h
  exact ⟨_, k, f, h1, h2, h3, hr.mono (Nat.le_succ _), passes_call tk fun _ _ _ _ z => z⟩
theorem Has.canP (h : Has X.prog X.w X.K X.mg X.base (L2.CX X.prog X.w) k x sp) (hr : Room (k + 1) X.A) (px : Passes (L2.CX X.prog X.w) X E) : Can X x sp E := by
  obtain ⟨f, h1, h2, h3⟩ := h
  exact ⟨_, k, f, h1, h2, h3, hr.mono (Nat.le_succ _), px⟩
theorem HasMk.canX (h : HasMk X.prog X.w X.K X.mg X.base (L2.CX X.prog X.w) k x C sp) (hr : Room (k + 1) X.A) (tk : Takes X (fun cls d _ H => E cls d H)) : CanMk X x C sp E := by
  obtain ⟨f, h1, h2, h3⟩ := h
  exact ⟨_, k, f, h1, h2, h3, hr, passes_call tk fun _ _ _ _ z => z⟩
theorem ExK.can (h : ExK X.prog X.w X.K X.mg X.base k x C fld) (hr : Room (k + 1) X.A) : CanEx X x C fld := ⟨k, h, hr⟩
end

abbrev XS (P : Program) (w : World) (K : PySem.W.Frag) (mg : Str → Option Value) (base : Heap) (N : List Str) (qual : Str) (st : Stmt) (f cda cc : Addr) (A : Around) (outer : List Env) (s0 : Shared) (H0 : Hp) (E : XK) : Cx := cxS (L2.CX P w) P w K mg base N qual (defScope st) f (.ref cda) cc A outer s0 H0 E
abbrev XS0 (P : Program) (w : World) (K : PySem.W.Frag) (mg : Str → Option Value) (base : Heap) (N : List Str) (qual : Str) (st : Stmt) (f cda cc : Addr) (A : Around) (outer : List Env) (s0 : Shared) (H0 : Hp) (E : XK) : Cx := cxS CX0 P w K mg base N qual (defScope st) f (.ref cda) cc A outer s0 H0 E

def uJoin (K : PySem.W.Frag) (to te : TE) : TE := tM1 (fun x xs H Q => ∃ a p, ∃ ys : List Str, x = .str a ∧ xs = [.ref p] ∧ (SqL K H p (ys.map V.str) ∨ SqT K H p (ys.map V.str)) ∧
    (ys.map (·.length)).sum + ys.length * a.length ≤ 16777216 ∧ Q (.str (Txt.join a ys)) H) to te
end L2.WB
namespace L2.WB
open PySem PySem.Spec PyProof.Rows
section
open PySem.W PySem.Calls
variable {prog : Program} {w : World} {A : Around} {E : Value → Shared → Prop} {s : Shared} {K : Frag} {x D : Addr} {ox : Obj} {od : Option Obj}
theorem findObj_dataD {C : Addr} {name : Str} {a g : Value} (hc : (clsIn K C).isSome = true) (ha : findIn K (.ref C) name = some (some a)) (hg : specialIn K a "__get__" = some (some g)) (ht : takesIn K a = some true) : findObj K C od name = some (.bind g a) := by
  obtain ⟨cd, hc⟩ := Option.isSome_iff_exists.mp hc
  unfold findObj
  rw [hc, Option.bind_some, ha, Option.bind_some]
  simp [hg, ht]
theorem kin_classD {Q : Option Value → Shared → Prop} (T : ExcC K D) (X : K.In s.heap) (I : InstAt s.heap x ox D od) (h : Q (some (.ref D)) { s with toks := s.toks + 1 }) : wpAny (model prog w) A (getAttr? (.ref x) "__class__") Q E s := by
  have hf : findObj K D od "__class__" = some (.bind (.builtin "getset_descriptor.__get__") (.builtin "object.__class__")) := findObj_dataD (by obtain ⟨cd, hc, _⟩ := any_some T.hd; rw [hc]; rfl) T.ha T.hn T.ht
  obtain ⟨hp, g, d, t, os⟩ := s
  have L0 := I.type (M := model prog w)
  have L1 := looks_findIn (M := model prog w) X T.hg
  have L2 := looks_findIn (M := model prog w) X T.hk
  have L3 := looks_find (M := model prog w) X I hf
  have sub : Looks (model prog w) hp (isInstance (.ref x) (.type "BaseException")) true := L0.andThen (looks_subIn X T.hs)
  have hx0 : (false && onTheHeap (Value.builtin "BaseException.__getattribute__")) = false := rfl
  have hx2 : (Value.builtin "BaseException.__getattribute__" == Value.builtin "object.__getattribute__") = false := by decide +kernel
  have hx1 : (onTheHeap (Value.ref D) && Value.builtin "BaseException.__getattribute__" == Value.builtin "object.__getattribute__") = false := by rw [hx2]; rfl
  unfold getAttr? getAttrBy? getAttrBy
  refine wpAny_bind (wpAny_mkText (wpAny_bind (wpAny_attempt (wpAny_holding (wpAny_bind (L0.at (wpAny_bind (L1.at ?_))))))))
  show wpAny _ _ (if (onTheHeap (Value.ref D) && Value.builtin "BaseException.__getattribute__" == Value.builtin "object.__getattribute__") = true then _ else _) _ _ _
  rw [hx1, if_neg Bool.false_ne_true]
  unfold getAttrByItsOwn hookBefore
  refine wpAny_bind ?_
  rw [if_pos (show onTheHeap (Value.ref D) = true from rfl)]
  refine L2.at ?_
  refine wpAny_bind (wpAny_attempt (wpAny_holding ?_))
  unfold callGetattribute
  rw [hx0, if_neg Bool.false_ne_true]
  unfold boundAndCalled
  rw [PySem.F.excAttr_ValueError.ga.bind (.ref x)]
  refine wpAny_bind (wpAny_pure ?_)
  show wpAny _ _ (call (.builtin "BaseException.__getattribute__") [.ref x, .str "__class__" t]) _ _ _
  refine wpAny_call (codeAny_call_builtin PySem.F.excAttr_ValueError.ga.plain PySem.F.entry_bexc_ga ?_)
  refine @check_slot (model prog w) _ _ ⟨hp, g, d, t + 1, os⟩ "BaseException.__getattribute__" "BaseException" "__getattribute__" (.ref x) [.str "__class__" t] [] _ (by decide +kernel) (by decide +kernel) sub (PySem.F.args_bexc_ga (.ref x) (.str "__class__" t)) ?_
  unfold Builtin.«object.__getattribute__»
  refine wpAny_bind (wpAny_of_eq (a := ((Value.ref x : Value), [Value.str "__class__" t])) (by first | rfl | (simp only [slotArgs]; rfl)) ?_)
  refine wpAny_bind (wpAny_pure (wpAny_bind (L0.at (wpAny_bind (L3.at ?_)))))
  show wpAny _ _ (holding [Value.builtin "object.__class__"] (call (.builtin "getset_descriptor.__get__") [.builtin "object.__class__", .ref x, .ref D]) >>= ret) _ _ _
  refine wpAny_bind (wpAny_holding (wpAny_call (class_get (s := ⟨hp, g, d, t + 1, os⟩) (ox := ox) (od := od) X I T.hm ?_)))
  refine wpAny_pure ?_
  show wpAny _ _ (handedOut (.ref D)) _ _ _
  rw [handedOut_of (v := .ref D) rfl]
  first
    | exact wpAny_pure (wpAny_pure h)
    | exact wpAny_pure h
    | exact wpAny_pure (wpAny_bind (wpAny_pure (wpAny_pure h)))
theorem kitx_excD (T : ExcC K D) : KitX K (.ref x) (.ref D) (fun h => InstAt h x ox D od) where
  ty := fun _ _ _ I => I.type
  it := fun _ _ X _ => by
    obtain ⟨cdD, hcD, _⟩ := any_some T.hd
    unfold clsIn at hcD
    split at hcD
    · rename_i c2 d2 cd2 sl2 ho
      intro A2 Q2 E2 s k q
      unfold isType loadHead
      exact wpAny_bind (wpAny_loadPart (k _ _ (X _ _ ho)) (wpAny_pure q))
    · cases hcD
  ne := fun h tp dd its n sl X htp => by
    obtain ⟨cdD, hcD, _⟩ := any_some T.hd
    refine Bool.eq_false_iff.mpr fun q => ?_
    have e : D = tp := Value.ref.inj (beq_iff_eq.mp q)
    subst e
    unfold clsIn at hcD
    split at hcD
    · rename_i c2 d2 cd2 sl2 ho
      have z := (X _ _ ho).symm.trans htp
      cases z
    · cases hcD
  ca := fun X I k => kin_classD T X I k
end

/-- isinstance(e, c), isinstance(e, (c, ..)): e the exception that the suite holds at a, its class cls, its dict d -/
def uIsE (K : PySem.W.Frag) (cls : Value) (d : Option Addr) (a : Addr) : List V → Hp → VK → Prop := fun vs H Q => match vs with
  | [x, c] => x = .ref a ∧ ∃ (D dd : Addr) (fs : List (Str × V)), cls = .ref D ∧ ExcC K D ∧ d = some dd ∧ H dd = some (.xd fs) ∧
      ((∃ (u : Value) (b : Bool), ClsV c u ∧ PySem.W.kitOne K (.ref D) u = some b ∧ Q (.bl b) H) ∨
        ∃ (tp : Addr) (cs : List V) (us : List Value) (b : Bool), c = .ref tp ∧ H tp = some (.tup cs) ∧ Paired ClsV cs us ∧ PySem.W.kitAny K (.ref D) us = some b ∧ Q (.bl b) H)
  | _ => False
theorem cr_isE {X : Cx} {a : Addr} {oe : Obj} {cls : Value} {d : Option Addr} {pn : List (Addr × Obj)} (hz : Zc cls d oe) (hf : ∃ vs, oe.data = .fields vs) : CallR (X.suite a ((a, oe) :: pn)) (.builtin "isinstance") (uIsE X.K cls d a) := by
  intro pins s σ H xs us Q I r h
  unfold uIsE at h
  split at h
  · rename_i x c
    obtain ⟨rfl, D, dd, fs, rfl, T, rfl, ed, h⟩ := h
    cases r with
    | cons rx rr =>
      cases rr with
      | cons rt rr =>
        cases rr
        cases rx
        obtain ⟨hget, _⟩ := I.pin (a, oe) (List.mem_append.mpr (.inl List.mem_cons_self))
        obtain ⟨vs, hv⟩ := hf
        have hx : ObjOk X.prog X.w H s.heap dd (.xd fs) := I.hok dd _ ed
        obtain ⟨mA, hns, hr⟩ := hx
        obtain ⟨od, ho, hl⟩ := lookIn_ns hns
        have J : PySem.W.InstAt s.heap a oe D (some od) := by
          obtain ⟨oc, od1, oda, osl⟩ := oe
          obtain ⟨h1, h2⟩ := hz
          dsimp only at h1 h2 hv
          subst h1 h2 hv
          exact ⟨hget, rfl, rfl, ho⟩
        rcases h with ⟨u, b, hc, e, q⟩ | ⟨tp, cs, ws, b, rfl, hT, k, e, q⟩
        · have ec := hc.eq rt
          subst ec
          exact PySem.W.kia_one (kitx_excD T) I.kIn J e (fun z => nomatch z) fun tk => ⟨.bl b, H, I.kept (t' := tk) fun _ _ z => z, rfl, q⟩
        · cases rt
          obtain ⟨_, its, rv, o, h1, h2, n, h3⟩ := (show ObjOk X.prog X.w H s.heap tp (.tup cs) from I.hok tp _ hT)
          have e3 := ClsV.all k rv
          subst e3
          obtain ⟨oc, od2, dt, sl⟩ := o
          simp only at h2 h3
          subst h2 h3
          exact PySem.W.kia_tup (kitx_excD T) I.kIn J h1 e (fun z => nomatch z) fun tk => ⟨.bl b, H, I.kept (t' := tk) fun _ _ z => z, rfl, q⟩
  · exact h.elim
def tCanW (sp : Sp) (W : WX) (t : TA) : TE := fun σ H Q => t σ H fun vs H1 => sp vs H1 Q (fun cls d H2 => W cls d σ H2)
theorem pe_canW {X : Cx} {k : Nat} {x : Str} {sp : Sp} {W : WX} {e : Expr} {es : List Expr} {t : TA} {p pos : Pos} (h : Has X.prog X.w X.K X.mg X.base (L2.CX X.prog X.w) k x sp) (hr : Room (k + 1) X.A) (tk : Takes X W) (ha : PA X (e :: es) t) (hg : Gl X x := by rfl) (hd : (x == ("__debug__" : Str)) = false := by decide)
    (he : starEach (e :: es) X.env = (false, eval e X.env) :: starEach es X.env := by rfl) (hpl : (backTo pos (starEach es X.env)).any (·.1) = false := by rfl) : PE X (.Call (.Name x p) (e :: es) [] pos) (tCanW sp W t) := by
  obtain ⟨f, hm, hk, F⟩ := h
  refine ⟨fun pins s σ H Q I h => ?_⟩
  refine wpAny_Call_Name_kw (ld_glob I hg hm ?_ hd)
  refine PySem.W.callWith_K (h₀ := X.base) I.ok.mod.kin hk (thn (ha.run pos pins s σ H _ I h) fun us s1 z => ?_) he hpl
  obtain ⟨vs, H1, I1, r, q⟩ := z
  refine ⟨I1.kIn, wpAny_call (codeAny_mono (F X.A X.stack s1 H1 us vs Q _ (hr.mono (Nat.le_succ _)) I1.env0 r q) fun r s2 hq => ?_)⟩
  cases r with
  | error e2 => exact tk e2 s2 (XE.of_call I1 (fun _ _ _ h => h) hq)
  | ok fl =>
    cases fl with
    | ret u => exact I1.after hq
    | next => exact False.elim hq
    | brk => exact False.elim hq
    | cont => exact False.elim hq

def patC (c : Ad) : List Addr := [c.Nothing, c.Stay, c.Step, c.Test, c.Then, c.Either, c.Many]
def spText (K : PySem.W.Frag) : Sp := fun vs H Q _ => ∃ a C dx fs t, vs = [.ref a] ∧ H a = some (.ins C dx fs) ∧ Cls K C ∧ NoAttr K C "_text" ∧ fs.lookup ("_text" : Str) = some t ∧ Q t H
def HasText (P : Program) (w : World) (K : PySem.W.Frag) (mg : Str → Option Value) (base : Heap) (k : Nat) (c : Ad) : Prop := ∃ f : Addr, PySem.W.keepIn K (.ref f) = true ∧ FnR P w K mg base CX0 k f (spText K) ∧ ∀ C ∈ patC c, Meth K C "text" f
def uMtT (K : PySem.W.Frag) (c : Ad) (te : TE) : TE := fun σ H Q => te σ H fun x H1 => match x with
  | .ref a => ∃ C dx fs t, C ∈ patC c ∧ H1 a = some (.ins C dx fs) ∧ Cls K C ∧ NoAttr K C "_text" ∧ fs.lookup ("text" : Str) = none ∧ fs.lookup ("_text" : Str) = some t ∧ Q t H1
  | _ => False
theorem pe_mtT {X : Cx} {k : Nat} {c : Ad} {o : Expr} {te : TE} {apos pos : Pos} {pl : Sem Bool} (h : HasText X.prog X.w X.K X.mg X.base k c) (hr : Room (k + 1) X.A) (ho : PE X o te)
    (ht : eval (.Call (.Attribute o "text" apos) [] [] pos) X.env = (do
      let ov ← eval o X.env
      standAt apos.atName
      let (g, first) ← holding [ov] (getMethod ov "text" pl)
      callWith pos g first (backTo pos (starEach [] X.env)) (backToKw pos (keywordEach [] X.env))) := by rfl) : PE X (.Call (.Attribute o "text" apos) [] [] pos) (uMtT X.K c te) := by
  obtain ⟨f, hk, F, hm⟩ := h
  refine ⟨fun pins s σ H Q I h => ?_⟩
  refine PySem.W.methodCall_KW (pl := pl) (thn (ho.run pins s σ H _ I h) fun u s1 z => ?_) ht
  obtain ⟨x, H1, I1, rx, q⟩ := z
  cases x with
  | ref a =>
    obtain ⟨C, dx, fs, t, hC, ea, cl, no, l1, l2, q⟩ := q
    obtain rfl : u = Value.ref a := rx
    refine getmeth_ok I1 ea cl (hm C hC) l1 ?_
    exact PySem.W.callWith_K0 (first := [.ref a]) I1.kIn (hm C hC).kp (wpAny_call (run_fnR (E := E0) (us := [.ref a]) (vs := [.ref a]) F (hr.mono (Nat.le_succ _)) pass0 I1 (.cons rfl .nil) ⟨a, C, dx, fs, t, rfl, ea, cl, no, l2, q⟩))
  | _ => exact q.elim
end L2.WB
namespace K02
inductive T where
  | z | s
  | i (w : List Nat)
  | n (ps : List T)
  | o (ps : List T)
  | m (b : T)
def T.isZ : T → Bool | .z => true | _ => false
def T.isS : T → Bool | .s => true | _ => false
def T.isN : T → Bool | .n _ => true | _ => false
def T.isO : T → Bool | .o _ => true | _ => false
def T.isM : T → Bool | .m _ => true | _ => false
def isL (c : Nat) : Bool := decide (97 ≤ c) && decide (c ≤ 122)
def isK (c : Nat) : Bool := decide (65 ≤ c) && decide (c ≤ 90)
/-- the words that are items -/
def isI : List Nat → Bool
  | [c] => isL c
  | [c, d] => (isL c && d == 39) || (c == 63 && isK d)
  | _ => false
def brk (b : Bool) (l : List Nat) : List Nat := if b then 40 :: l ++ [41] else l
def joinL (sep : List Nat) : List (List Nat) → List Nat
  | [] => []
  | [a] => a
  | a :: b :: r => a ++ sep ++ joinL sep (b :: r)
mutual
def text : T → List Nat
  | .z => [48]
  | .s => [49]
  | .i w => w
  | .n ps => joinL [32] (textsN ps)
  | .o ps => joinL [32, 124, 32] (textsO ps)
  | .m b => brk (b.isN || b.isO) (text b) ++ [42]
def textsN : List T → List (List Nat)
  | [] => []
  | p :: ps => brk p.isO (text p) :: textsN ps
def textsO : List T → List (List Nat)
  | [] => []
  | p :: ps => text p :: textsO ps
end
def maxL (l : List Nat) : Nat := l.foldr max 0
mutual
def depth : T → Nat
  | .n ps => 1 + maxL (depths ps)
  | .o ps => 1 + maxL (depths ps)
  | .m b => 1 + depth b
  | _ => 1
def depths : List T → List Nat
  | [] => []
  | p :: ps => depth p :: depths ps
end
mutual
def size : T → Nat
  | .n ps => sizes ps
  | .o ps => sizes ps
  | .m b => size b
  | .i _ => 1
  | _ => 0
def sizes : List T → Nat
  | [] => 0
  | p :: ps => size p + sizes ps
end
mutual
/-- what weighs: items, 1, stars -/
def wt : T → Nat
  | .n ps => wts ps
  | .o ps => wts ps
  | .m b => wt b + 1
  | .z => 0
  | _ => 1
def wts : List T → Nat
  | [] => 0
  | p :: ps => wt p + wts ps
end
mutual
/-- short forms -/
def SF : T → Prop
  | .z => True
  | .s => True
  | .i w => isI w = true
  | .n ps => 2 ≤ ps.length ∧ SFs ps ∧ ∀ p ∈ ps, p.isZ = false ∧ p.isS = false ∧ p.isN = false
  | .o ps => 2 ≤ ps.length ∧ SFs ps ∧ ps.Nodup ∧ ∀ p ∈ ps, p.isZ = false ∧ p.isO = false
  | .m b => SF b ∧ b.isZ = false ∧ b.isS = false ∧ b.isM = false
def SFs : List T → Prop
  | [] => True
  | p :: ps => SF p ∧ SFs ps
end
theorem textsN_map : ∀ ps : List T, textsN ps = ps.map fun p => brk p.isO (text p)
  | [] => by simp [textsN]
  | p :: ps => by simp [textsN, textsN_map ps]
theorem textsO_map : ∀ ps : List T, textsO ps = ps.map text
  | [] => by simp [textsO]
  | p :: ps => by simp [textsO, textsO_map ps]
theorem depths_map : ∀ ps : List T, depths ps = ps.map depth
  | [] => by simp [depths]
  | p :: ps => by simp [depths, depths_map ps]
theorem sizes_sum : ∀ ps : List T, sizes ps = (ps.map size).sum
  | [] => by simp [sizes]
  | p :: ps => by simp [sizes, sizes_sum ps]
theorem SFs_iff : ∀ ps : List T, SFs ps ↔ ∀ p ∈ ps, SF p
  | [] => by simp [SFs]
  | p :: ps => by simp [SFs, SFs_iff ps]
theorem wts_sum : ∀ ps : List T, wts ps = (ps.map wt).sum
  | [] => by simp [wts]
  | p :: ps => by simp [wts, wts_sum ps]
theorem wts_app (a b : List T) : wts (a ++ b) = wts a + wts b := by simp [wts_sum]
theorem sizes_app (a b : List T) : sizes (a ++ b) = sizes a + sizes b := by simp [sizes_sum]
theorem le_maxL {l : List Nat} {x : Nat} (h : x ∈ l) : x ≤ maxL l := by
  induction l with
  | nil => cases h
  | cons a r ih =>
    show x ≤ max a (maxL r)
    rcases List.mem_cons.mp h with h | h
    · omega
    · have := ih h; omega
theorem maxL_le {l : List Nat} {k : Nat} (h : ∀ x ∈ l, x ≤ k) : maxL l ≤ k := by
  induction l with
  | nil => exact Nat.zero_le _
  | cons a r ih =>
    show max a (maxL r) ≤ k
    have h1 := h a (by simp)
    have h2 := ih fun x hx => h x (by simp [hx])
    omega
theorem maxL_mem : ∀ {l : List Nat}, l ≠ [] → maxL l ∈ l
  | [a], _ => by simp [maxL]
  | a :: b :: r, _ => by
    have ih := maxL_mem (l := b :: r) (by simp)
    show max a (maxL (b :: r)) ∈ _
    by_cases h : a ≤ maxL (b :: r)
    · rw [Nat.max_eq_right h]
      exact List.mem_cons_of_mem _ ih
    · rw [Nat.max_eq_left (by omega)]
      exact List.mem_cons_self

def flatN : List T → List T
  | [] => []
  | .n qs :: r => qs ++ flatN r
  | .s :: r => flatN r
  | p :: r => p :: flatN r
def hasZ (l : List T) : Bool := l.any T.isZ
def wrap (e : T) (f : List T → T) : List T → T
  | [] => e
  | [t] => t
  | a :: b :: r => f (a :: b :: r)
def lthen (ps : List T) : T := if hasZ (flatN ps) then .z else wrap .s .n (flatN ps)
def flatO : List T → List T
  | [] => []
  | .o qs :: r => qs ++ flatO r
  | p :: r => p :: flatO r
open Classical in
noncomputable def addU1 (acc : List T) (p : T) : List T := if p.isZ = true ∨ p ∈ acc then acc else acc ++ [p]
/-- each once, without 0, after what is there -/
noncomputable def addU (acc l : List T) : List T := l.foldl addU1 acc
noncomputable def leither (ps : List T) : T := wrap .z .o (addU [] (flatO ps))
def lagain : T → T
  | .z => .s
  | .s => .s
  | .m b => .m b
  | t => .m t

theorem flatN_app : ∀ a b : List T, flatN (a ++ b) = flatN a ++ flatN b
  | [], b => rfl
  | p :: r, b => by cases p <;> simp [flatN, flatN_app r b]
theorem flatO_app : ∀ a b : List T, flatO (a ++ b) = flatO a ++ flatO b
  | [], b => rfl
  | p :: r, b => by cases p <;> simp [flatO, flatO_app r b]
theorem addU_app (acc a b : List T) : addU acc (a ++ b) = addU (addU acc a) b := List.foldl_append
theorem hasZ_app (a b : List T) : hasZ (a ++ b) = (hasZ a || hasZ b) := List.any_append

theorem flatN_mem : ∀ {ps : List T}, (∀ p ∈ ps, SF p) → ∀ q ∈ flatN ps, SF q ∧ q.isS = false ∧ q.isN = false ∧ (q.isZ = true → .z ∈ ps)
  | [], _, q, h => by cases h
  | p :: r, hp, q, h => by
    have h0 := hp p (by simp)
    have ih := flatN_mem (ps := r) (fun x hx => hp x (by simp [hx]))
    have tail : q ∈ flatN r → SF q ∧ q.isS = false ∧ q.isN = false ∧ (q.isZ = true → .z ∈ p :: r) := fun z => by
      obtain ⟨a, b, c, d⟩ := ih q z
      exact ⟨a, b, c, fun e => List.mem_cons_of_mem _ (d e)⟩
    cases p with
    | n qs =>
      rcases List.mem_append.mp (show q ∈ qs ++ flatN r from h) with h | h
      · unfold SF at h0
        have := (SFs_iff qs).mp h0.2.1 q h
        obtain ⟨a, b, c⟩ := h0.2.2 q h
        exact ⟨this, b, c, fun e => by rw [a] at e; cases e⟩
      · exact tail h
    | s => exact tail h
    | z =>
      rcases List.mem_cons.mp (show q ∈ .z :: flatN r from h) with h | h
      · subst h; exact ⟨h0, rfl, rfl, fun _ => List.mem_cons_self⟩
      · exact tail h
    | i w =>
      rcases List.mem_cons.mp (show q ∈ .i w :: flatN r from h) with h | h
      · subst h; exact ⟨h0, rfl, rfl, fun e => by cases e⟩
      · exact tail h
    | o w =>
      rcases List.mem_cons.mp (show q ∈ .o w :: flatN r from h) with h | h
      · subst h; exact ⟨h0, rfl, rfl, fun e => by cases e⟩
      · exact tail h
    | m w =>
      rcases List.mem_cons.mp (show q ∈ .m w :: flatN r from h) with h | h
      · subst h; exact ⟨h0, rfl, rfl, fun e => by cases e⟩
      · exact tail h
theorem flatO_mem : ∀ {ps : List T}, (∀ p ∈ ps, SF p) → ∀ q ∈ flatO ps, SF q ∧ q.isO = false
  | [], _, q, h => by cases h
  | p :: r, hp, q, h => by
    have h0 := hp p (by simp)
    have tail : q ∈ flatO r → SF q ∧ q.isO = false := fun z => flatO_mem (ps := r) (fun x hx => hp x (by simp [hx])) q z
    cases p with
    | o qs =>
      rcases List.mem_append.mp (show q ∈ qs ++ flatO r from h) with h | h
      · unfold SF at h0
        exact ⟨(SFs_iff qs).mp h0.2.1 q h, (h0.2.2.2 q h).2⟩
      · exact tail h
    | s =>
      rcases List.mem_cons.mp (show q ∈ .s :: flatO r from h) with h | h
      · subst h; exact ⟨h0, rfl⟩
      · exact tail h
    | z =>
      rcases List.mem_cons.mp (show q ∈ .z :: flatO r from h) with h | h
      · subst h; exact ⟨h0, rfl⟩
      · exact tail h
    | i w =>
      rcases List.mem_cons.mp (show q ∈ .i w :: flatO r from h) with h | h
      · subst h; exact ⟨h0, rfl⟩
      · exact tail h
    | n w =>
      rcases List.mem_cons.mp (show q ∈ .n w :: flatO r from h) with h | h
      · subst h; exact ⟨h0, rfl⟩
      · exact tail h
    | m w =>
      rcases List.mem_cons.mp (show q ∈ .m w :: flatO r from h) with h | h
      · subst h; exact ⟨h0, rfl⟩
      · exact tail h
theorem addU_spec : ∀ (l acc : List T), acc.Nodup → (∀ p ∈ acc, p.isZ = false) → (addU acc l).Nodup ∧ (∀ p ∈ addU acc l, p.isZ = false ∧ (p ∈ acc ∨ p ∈ l))
  | [], acc, h1, h2 => ⟨h1, fun p hp => ⟨h2 p hp, .inl hp⟩⟩
  | p :: r, acc, h1, h2 => by
    rw [show addU acc (p :: r) = addU (addU1 acc p) r from rfl]
    unfold addU1
    split
    · obtain ⟨a, b⟩ := addU_spec r acc h1 h2
      exact ⟨a, fun x hx => ⟨(b x hx).1, (b x hx).2.elim .inl fun z => .inr (List.mem_cons_of_mem _ z)⟩⟩
    · rename_i hn
      have hn1 : p.isZ = false := by
        cases e : p.isZ with
        | false => rfl
        | true => exact absurd (.inl e) hn
      have hn2 : p ∉ acc := fun z => hn (.inr z)
      obtain ⟨a, b⟩ := addU_spec r (acc ++ [p]) (by
        rw [List.nodup_append]
        exact ⟨h1, by simp, fun x hx y hy => by rw [List.mem_singleton] at hy; subst hy; exact fun e => hn2 (e ▸ hx)⟩) (fun x hx => by
        rcases List.mem_append.mp hx with hx | hx
        · exact h2 x hx
        · rw [List.mem_singleton] at hx; subst hx; exact hn1)
      refine ⟨a, fun x hx => ⟨(b x hx).1, ?_⟩⟩
      rcases (b x hx).2 with z | z
      · rcases List.mem_append.mp z with z | z
        · exact .inl z
        · rw [List.mem_singleton] at z; subst z; exact .inr List.mem_cons_self
      · exact .inr (List.mem_cons_of_mem _ z)
theorem wts_addU : ∀ (l acc : List T), wts (addU acc l) ≤ wts acc + wts l
  | [], acc => by simp [addU, wts]
  | p :: r, acc => by
    show wts (addU (addU1 acc p) r) ≤ _
    have h := wts_addU r (addU1 acc p)
    have h2 : wts (addU1 acc p) ≤ wts acc + wt p := by
      unfold addU1
      split
      · omega
      · rw [wts_app]; simp [wts]
    have : wts (p :: r) = wt p + wts r := by simp [wts]
    omega
theorem sizes_addU : ∀ (l acc : List T), sizes (addU acc l) ≤ sizes acc + sizes l
  | [], acc => by simp [addU, sizes]
  | p :: r, acc => by
    show sizes (addU (addU1 acc p) r) ≤ _
    have h := sizes_addU r (addU1 acc p)
    have h2 : sizes (addU1 acc p) ≤ sizes acc + size p := by
      unfold addU1
      split
      · omega
      · rw [sizes_app]; simp [sizes]
    have : sizes (p :: r) = size p + sizes r := by simp [sizes]
    omega
theorem hasZ_false {l : List T} (h : hasZ l = false) : ∀ p ∈ l, p.isZ = false := fun p hp => by
  unfold hasZ at h
  rw [List.any_eq_false] at h
  have := h p hp
  cases e : p.isZ with
  | false => rfl
  | true => exact absurd e this
theorem SF_lthen {ps : List T} (h : ∀ p ∈ ps, SF p) : SF (lthen ps) := by
  unfold lthen
  split
  · simp [SF]
  · rename_i hz
    have hz : hasZ (flatN ps) = false := by simpa using hz
    have hm := flatN_mem h
    have hq := hasZ_false hz
    generalize flatN ps = f at hm hq
    match f, hm, hq with
    | [], _, _ => simp [wrap, SF]
    | [t], hm, _ => exact (hm t (by simp)).1
    | a :: b :: r, hm, hq =>
      show SF (.n (a :: b :: r))
      unfold SF
      exact ⟨by simp, (SFs_iff _).mpr fun p hp => (hm p hp).1, fun p hp => ⟨hq p hp, (hm p hp).2.1, (hm p hp).2.2.1⟩⟩
theorem SF_leither {ps : List T} (h : ∀ p ∈ ps, SF p) : SF (leither ps) := by
  unfold leither
  obtain ⟨h1, h2⟩ := addU_spec (flatO ps) [] (by simp) (by simp)
  have hm : ∀ p ∈ addU [] (flatO ps), SF p ∧ p.isO = false ∧ p.isZ = false := fun p hp => by
    obtain ⟨a, b⟩ := h2 p hp
    rcases b with b | b
    · cases b
    · exact ⟨(flatO_mem h p b).1, (flatO_mem h p b).2, a⟩
  generalize addU [] (flatO ps) = f at h1 hm
  match f, h1, hm with
  | [], _, _ => simp [wrap, SF]
  | [t], _, hm => exact (hm t (by simp)).1
  | a :: b :: r, h1, hm =>
    show SF (.o (a :: b :: r))
    unfold SF
    exact ⟨by simp, (SFs_iff _).mpr fun p hp => (hm p hp).1, h1, fun p hp => ⟨(hm p hp).2.2, (hm p hp).2.1⟩⟩
theorem SF_lagain {t : T} (h : SF t) : SF (lagain t) := by
  cases t with
  | z => simp [lagain, SF]
  | s => simp [lagain, SF]
  | m b => exact h
  | i w => unfold lagain SF; exact ⟨h, rfl, rfl, rfl⟩
  | n ps => unfold lagain SF; exact ⟨h, rfl, rfl, rfl⟩
  | o ps => unfold lagain SF; exact ⟨h, rfl, rfl, rfl⟩

theorem wt_pos : ∀ {t : T}, SF t → t.isZ = false → 1 ≤ wt t
  | .z, _, h => by cases h
  | .s, _, _ => by simp [wt]
  | .i _, _, _ => by simp [wt]
  | .m _, _, _ => by simp [wt]
  | .n (p :: ps), h, _ => by
    unfold SF at h
    have := wt_pos (t := p) ((SFs_iff _).mp h.2.1 p (by simp)) (h.2.2 p (by simp)).1
    simp only [wt, wts]; omega
  | .n [], h, _ => by unfold SF at h; simp at h
  | .o (p :: ps), h, _ => by
    unfold SF at h
    have := wt_pos (t := p) ((SFs_iff _).mp h.2.1 p (by simp)) (h.2.2.2 p (by simp)).1
    simp only [wt, wts]; omega
  | .o [], h, _ => by unfold SF at h; simp at h
theorem wts_big {ps : List T} (hp : ∀ p ∈ ps, 1 ≤ wt p) : ps.length ≤ wts ps := by
  induction ps with
  | nil => simp
  | cons p r ih =>
    have h1 := hp p (by simp)
    have h2 := ih fun x hx => hp x (by simp [hx])
    simp only [wts, List.length_cons]; omega
theorem wts_one {ps : List T} (hp : ∀ p ∈ ps, 1 ≤ wt p) {q : T} (h : q ∈ ps) : wt q + (ps.length - 1) ≤ wts ps := by
  induction ps with
  | nil => cases h
  | cons p r ih =>
    have hr := wts_big (ps := r) fun x hx => hp x (by simp [hx])
    simp only [wts, List.length_cons]
    rcases List.mem_cons.mp h with h | h
    · subst h; omega
    · have h1 := hp p (by simp)
      have h2 := ih (fun x hx => hp x (by simp [hx])) h
      have : r ≠ [] := fun e => by rw [e] at h; cases h
      have : 1 ≤ r.length := by cases r with | nil => exact absurd rfl this | cons => simp
      omega
mutual
theorem depth_wt : ∀ (t : T), SF t → depth t ≤ max 1 (wt t)
  | .z, _ => by simp only [depth]; omega
  | .s, _ => by simp only [depth]; omega
  | .i _, _ => by simp only [depth]; omega
  | .m b, h => by
    unfold SF at h
    have := depth_wt b h.1
    have := wt_pos h.1 h.2.1
    simp only [depth, wt]; omega
  | .n ps, h => by
    unfold SF at h
    have hp : ∀ p ∈ ps, 1 ≤ wt p := fun p hp => wt_pos ((SFs_iff _).mp h.2.1 p hp) (h.2.2 p hp).1
    have hd := depth_wts ps h.2.1
    have : maxL (depths ps) + 1 ≤ wts ps := by
      rw [depths_map]
      have : maxL (ps.map depth) ≤ wts ps - 1 := maxL_le fun x hx => by
        obtain ⟨q, hq, rfl⟩ := List.mem_map.mp hx
        have h1 := hd q hq
        have h2 := hp q hq
        have h3 := wts_one hp hq
        have := h.1
        omega
      have := wts_big hp
      have := h.1
      omega
    simp only [depth, wt]; omega
  | .o ps, h => by
    unfold SF at h
    have hp : ∀ p ∈ ps, 1 ≤ wt p := fun p hp => wt_pos ((SFs_iff _).mp h.2.1 p hp) (h.2.2.2 p hp).1
    have hd := depth_wts ps h.2.1
    have : maxL (depths ps) + 1 ≤ wts ps := by
      rw [depths_map]
      have : maxL (ps.map depth) ≤ wts ps - 1 := maxL_le fun x hx => by
        obtain ⟨q, hq, rfl⟩ := List.mem_map.mp hx
        have h1 := hd q hq
        have h2 := hp q hq
        have h3 := wts_one hp hq
        have := h.1
        omega
      have := wts_big hp
      have := h.1
      omega
    simp only [depth, wt]; omega
theorem depth_wts : ∀ (ps : List T), SFs ps → ∀ q ∈ ps, depth q ≤ max 1 (wt q)
  | [], _, _, h => by cases h
  | p :: r, h, q, hq => by
    unfold SFs at h
    rcases List.mem_cons.mp hq with e | e
    · rw [e]; exact depth_wt p h.1
    · exact depth_wts r h.2 q e
end
theorem wts_flatN (ps : List T) : wts (flatN ps) ≤ wts ps := by
  induction ps with
  | nil => simp [flatN]
  | cons p r ih => cases p <;> simp only [flatN, wts, wts_app, wt] <;> omega
theorem wts_flatO (ps : List T) : wts (flatO ps) ≤ wts ps := by
  induction ps with
  | nil => simp [flatO]
  | cons p r ih => cases p <;> simp only [flatO, wts, wts_app, wt] <;> omega
theorem sizes_flatN (ps : List T) : sizes (flatN ps) ≤ sizes ps := by
  induction ps with
  | nil => simp [flatN]
  | cons p r ih => cases p <;> simp only [flatN, sizes, sizes_app, size] <;> omega
theorem sizes_flatO (ps : List T) : sizes (flatO ps) ≤ sizes ps := by
  induction ps with
  | nil => simp [flatO]
  | cons p r ih => cases p <;> simp only [flatO, sizes, sizes_app, size] <;> omega
theorem flatN_nil {ps : List T} (hp : ∀ p ∈ ps, SF p) (h0 : ps ≠ []) (h : flatN ps = []) : 1 ≤ wts ps := by
  cases ps with
  | nil => exact absurd rfl h0
  | cons p r =>
    have hs := hp p (by simp)
    cases p with
    | s => simp only [wts, wt]; omega
    | n qs =>
      have h : qs ++ flatN r = [] := h
      rw [(List.append_eq_nil_iff.mp h).1] at hs
      unfold SF at hs
      simp at hs
    | z => cases h
    | i => cases h
    | o => cases h
    | m => cases h
theorem wt_lthen {ps : List T} (hp : ∀ p ∈ ps, SF p) (h0 : ps ≠ []) : wt (lthen ps) ≤ wts ps := by
  unfold lthen
  split
  · simp [wt]
  · have h := wts_flatN ps
    have h1 := flatN_nil hp h0
    generalize flatN ps = f at h h1
    match f with
    | [] => simpa [wrap, wt] using h1 rfl
    | [t] => simp only [wts] at h; simp only [wrap]; omega
    | a :: b :: r => simpa [wrap, wt] using h
theorem wt_leither (ps : List T) : wt (leither ps) ≤ wts ps := by
  unfold leither
  have h := wts_addU (flatO ps) []
  have h2 := wts_flatO ps
  simp only [wts] at h
  generalize addU [] (flatO ps) = f at h
  match f with
  | [] => simp [wrap, wt]
  | [t] => simp only [wts] at h; simp only [wrap]; omega
  | a :: b :: r => simp only [wrap, wt]; omega
theorem wt_lagain (t : T) : wt (lagain t) ≤ wt t + 1 := by cases t <;> simp [lagain, wt]
theorem size_lthen (ps : List T) : size (lthen ps) ≤ sizes ps := by
  unfold lthen
  split
  · simp [size]
  · have h := sizes_flatN ps
    generalize flatN ps = f at h
    match f with
    | [] => simp [wrap, size]
    | [t] => simp only [sizes] at h; simp only [wrap]; omega
    | a :: b :: r => simpa [wrap, size] using h
theorem size_leither (ps : List T) : size (leither ps) ≤ sizes ps := by
  unfold leither
  have h := sizes_addU (flatO ps) []
  have h2 := sizes_flatO ps
  simp only [sizes] at h
  generalize addU [] (flatO ps) = f at h
  match f with
  | [] => simp [wrap, size]
  | [t] => simp only [sizes] at h; simp only [wrap]; omega
  | a :: b :: r => simp only [wrap, size]; omega
theorem size_lagain (t : T) : size (lagain t) ≤ size t := by cases t <;> simp [lagain, size]
theorem depth_part {ps : List T} {q : T} (h : q ∈ ps) : depth q < depth (.n ps) := by
  simp only [depth]
  have := le_maxL (l := depths ps) (x := depth q) (by rw [depths_map]; exact List.mem_map_of_mem h)
  omega
theorem depth_pos (t : T) : 1 ≤ depth t := by cases t <;> simp only [depth] <;> omega
theorem flatN_depth {ps : List T} {d : Nat} (h : ∀ p ∈ ps, depth p ≤ d) : ∀ q ∈ flatN ps, depth q ≤ d := by
  induction ps with
  | nil => intro q hq; cases hq
  | cons p r ih =>
    intro q hq
    have h0 := h p (by simp)
    have ih := ih fun x hx => h x (by simp [hx])
    cases p with
    | n qs =>
      rcases List.mem_append.mp (show q ∈ qs ++ flatN r from hq) with e | e
      · have := depth_part e; omega
      · exact ih q e
    | s => exact ih q hq
    | z => rcases List.mem_cons.mp (show q ∈ .z :: flatN r from hq) with e | e; (· rw [e]; exact h0); exact ih q e
    | i w => rcases List.mem_cons.mp (show q ∈ .i w :: flatN r from hq) with e | e; (· rw [e]; exact h0); exact ih q e
    | o w => rcases List.mem_cons.mp (show q ∈ .o w :: flatN r from hq) with e | e; (· rw [e]; exact h0); exact ih q e
    | m w => rcases List.mem_cons.mp (show q ∈ .m w :: flatN r from hq) with e | e; (· rw [e]; exact h0); exact ih q e
theorem depth_partO {ps : List T} {q : T} (h : q ∈ ps) : depth q < depth (.o ps) := depth_part h
theorem flatO_depth {ps : List T} {d : Nat} (h : ∀ p ∈ ps, depth p ≤ d) : ∀ q ∈ flatO ps, depth q ≤ d := by
  induction ps with
  | nil => intro q hq; cases hq
  | cons p r ih =>
    intro q hq
    have h0 := h p (by simp)
    have ih := ih fun x hx => h x (by simp [hx])
    cases p with
    | o qs =>
      rcases List.mem_append.mp (show q ∈ qs ++ flatO r from hq) with e | e
      · have := depth_partO e; omega
      · exact ih q e
    | s => rcases List.mem_cons.mp (show q ∈ .s :: flatO r from hq) with e | e; (· rw [e]; exact h0); exact ih q e
    | z => rcases List.mem_cons.mp (show q ∈ .z :: flatO r from hq) with e | e; (· rw [e]; exact h0); exact ih q e
    | i w => rcases List.mem_cons.mp (show q ∈ .i w :: flatO r from hq) with e | e; (· rw [e]; exact h0); exact ih q e
    | n w => rcases List.mem_cons.mp (show q ∈ .n w :: flatO r from hq) with e | e; (· rw [e]; exact h0); exact ih q e
    | m w => rcases List.mem_cons.mp (show q ∈ .m w :: flatO r from hq) with e | e; (· rw [e]; exact h0); exact ih q e
theorem depth_lthen {ps : List T} {d : Nat} (h : ∀ p ∈ ps, depth p ≤ d) : depth (lthen ps) ≤ d + 1 := by
  unfold lthen
  split
  · simp [depth]
  · have h := flatN_depth h
    generalize flatN ps = f at h
    match f, h with
    | [], _ => simp [wrap, depth]
    | [t], h => have := h t (by simp); simp only [wrap]; omega
    | a :: b :: r, h =>
      have : maxL (depths (a :: b :: r)) ≤ d := maxL_le fun x hx => by
        rw [depths_map] at hx
        obtain ⟨q, hq, rfl⟩ := List.mem_map.mp hx
        exact h q hq
      simp only [wrap]
      unfold depth
      omega
theorem depth_leither {ps : List T} {d : Nat} (h : ∀ p ∈ ps, depth p ≤ d) : depth (leither ps) ≤ d + 1 := by
  unfold leither
  have h := flatO_depth h
  have h2 := (addU_spec (flatO ps) [] (by simp) (by simp)).2
  have h : ∀ q ∈ addU [] (flatO ps), depth q ≤ d := fun q hq => (h2 q hq).2.elim (fun z => by cases z) fun z => h q z
  generalize addU [] (flatO ps) = f at h
  match f, h with
  | [], _ => simp [wrap, depth]
  | [t], h => have := h t (by simp); simp only [wrap]; omega
  | a :: b :: r, h =>
    have : maxL (depths (a :: b :: r)) ≤ d := maxL_le fun x hx => by
      rw [depths_map] at hx
      obtain ⟨q, hq, rfl⟩ := List.mem_map.mp hx
      exact h q hq
    simp only [wrap]
    unfold depth
    omega
theorem depth_lagain (t : T) : depth (lagain t) ≤ depth t + 1 := by cases t <;> simp only [lagain, depth] <;> omega
end K02
namespace K02
inductive W where
  | need | letter | base | star | mark
  deriving DecidableEq
abbrev Stk := List (List T × List T)
structure RS where
  w : W
  stk : Stk
  k : Nat
noncomputable def lstep (G : T → Bool) (L c : Nat) (w : W) (al sq : List T) (r : Stk) (k : Nat) : Option RS :=
  if w = .mark then (if isK c then some ⟨.base, (al, .i [63, c] :: sq) :: r, k + 1⟩ else none)
  else if c = 32 then some ⟨if w = .letter then .base else w, (al, sq) :: r, k⟩
  else if c = 39 ∧ w = .letter then (match sq with
    | .i v :: q => some ⟨.base, (al, .i (v ++ [39]) :: q) :: r, k⟩
    | _ => none)
  else if c = 42 ∧ w ≠ .need ∧ w ≠ .star then (match sq with
    | x :: q => if G (lagain x) then some ⟨.star, (al, lagain x :: q) :: r, k⟩ else none
    | [] => none)
  else if c = 124 ∧ w ≠ .need then (if G (lthen sq.reverse) then some ⟨.need, (lthen sq.reverse :: al, []) :: r, k⟩ else none)
  else if c = 41 ∧ w ≠ .need ∧ r ≠ [] then (match r with
    | (al2, sq2) :: r2 => if G (lthen sq.reverse) && G (leither (lthen sq.reverse :: al).reverse) then some ⟨.base, (al2, leither (lthen sq.reverse :: al).reverse :: sq2) :: r2, k⟩ else none
    | [] => none)
  else if c = 40 ∧ r.length < L then some ⟨.need, ([], []) :: (al, sq) :: r, k⟩
  else if c = 63 then some ⟨.mark, (al, sq) :: r, k⟩
  else if isL c then some ⟨.letter, (al, .i [c] :: sq) :: r, k + 1⟩
  else if c = 48 then some ⟨.base, (al, .z :: sq) :: r, k⟩
  else if c = 49 then some ⟨.base, (al, .s :: sq) :: r, k⟩
  else none
noncomputable def lst (G : T → Bool) (L c : Nat) (s : RS) : Option RS := match s.stk with
  | [] => none
  | (al, sq) :: r => lstep G L c s.w al sq r s.k
/-- the reader from place p on: where it stops, or the state behind -/
noncomputable def lgo (G : T → Bool) (L : Nat) : List Nat → RS → Nat → Nat ⊕ RS
  | [], s, _ => .inr s
  | c :: r, s, p => match lst G L c s with
    | none => .inl p
    | some s2 => lgo G L r s2 (p + 1)
def bad (s : RS) : Bool := decide (s.w = .need) || decide (s.w = .mark) || decide (1 < s.stk.length)
noncomputable def tstep (G : T → Bool) (stk : Stk) (g : List Nat) : Option Stk := match stk with
  | [] => none
  | (al, sq) :: r =>
    if g = [40] then some (([], []) :: (al, sq) :: r)
    else if g = [124] then (if sq = [] then none else if G (lthen sq.reverse) then some ((lthen sq.reverse :: al, []) :: r) else none)
    else if g = [42] then (match sq with
      | x :: q => if G (lagain x) then some ((al, lagain x :: q) :: r) else none
      | [] => none)
    else if g = [41] then (match r with
      | (al2, sq2) :: r2 => if sq = [] then none else if G (lthen sq.reverse) && G (leither (lthen sq.reverse :: al).reverse) then some ((al2, leither (lthen sq.reverse :: al).reverse :: sq2) :: r2) else none
      | [] => none)
    else if g = [48] then some ((al, .z :: sq) :: r)
    else if g = [49] then some ((al, .s :: sq) :: r)
    else some ((al, .i g :: sq) :: r)
noncomputable def trun (G : T → Bool) : Stk → List (List Nat) → Option Stk
  | stk, [] => some stk
  | stk, g :: gs => (tstep G stk g).bind fun s => trun G s gs
def items (S : List (List Nat)) : Nat := (S.filter isI).length

def signAt : List Nat → Option (List Nat)
  | [] => none
  | c :: r => if c = 63 then (match r with
      | d :: _ => if isK d then some [63, d] else none
      | [] => none)
    else if isL c then (match r with
      | d :: _ => if d = 39 then some [c, 39] else some [c]
      | [] => some [c])
    else some [c]
def mayStand (g b : List Nat) (d : Nat) : Bool :=
  if g = [40] then decide (d < 60)
  else if g = [48] ∨ g = [49] ∨ isI g = true then true
  else if b = [40] ∨ b = [124] then false
  else if g = [42] then decide (b ≠ [42])
  else if g = [41] then decide (0 < d)
  else decide (g = [124])
def dnext (g : List Nat) (d : Nat) : Nat := if g = [40] then d + 1 else if g = [41] then d - 1 else d
def pre (g : List Nat) : Except Nat (List (List Nat)) → Except Nat (List (List Nat))
  | .ok S => .ok (g :: S)
  | .error q => .error q
def scan (cs b : List Nat) (d p : Nat) : Except Nat (List (List Nat)) := match cs with
  | [] => if b = [40] ∨ b = [124] ∨ 0 < d then .error p else .ok []
  | c :: r => if c = 32 then scan r b d (p + 1) else match signAt (c :: r) with
    | none => .error (p + 1)
    | some g => if mayStand g b d = true then pre g (scan (r.drop (g.length - 1)) g (dnext g d) (p + g.length))
      else .error p
  termination_by cs.length
  decreasing_by
    · simp
    · simp only [List.length_drop, List.length_cons]; omega

structure Bd (w : W) (b : List Nat) : Prop where
  mark : w ≠ .mark
  need : w = .need ↔ (b = [40] ∨ b = [124])
  star : w = .star ↔ b = [42]
/-- what the reader does, told by the scanner's answer -/
def Agree (G : T → Bool) (cs : List Nat) (s : RS) (p : Nat) (e : Except Nat (List (List Nat))) : Prop := match e with
  | .error q => (∀ t, G t = true) → lgo G 60 cs s p = .inl q ∨ (∃ s2, lgo G 60 cs s p = .inr s2 ∧ bad s2 = true ∧ q = p + cs.length)
  | .ok S => match trun G s.stk S with
    | some stk => ∃ w, w ≠ .need ∧ w ≠ .mark ∧ (∃ al sq, stk = [(al, sq)] ∧ sq ≠ []) ∧ lgo G 60 cs s p = .inr ⟨w, stk, s.k + items S⟩
    | none => (∃ t, G t = false) ∧ ∃ q, lgo G 60 cs s p = .inl q

theorem isL_ne {c : Nat} (h : isL c = true) : c ≠ 32 ∧ c ≠ 39 ∧ c ≠ 42 ∧ c ≠ 124 ∧ c ≠ 41 ∧ c ≠ 40 ∧ c ≠ 63 ∧ c ≠ 48 ∧ c ≠ 49 := by
  unfold isL at h
  simp at h
  omega

/-- one sign has been read: e the answer for the rest -/
theorem Agree.one {G : T → Bool} {g cs : List Nat} {r : List Nat} {s s2 : RS} {p : Nat} {e : Except Nat (List (List Nat))} (hl : lgo G 60 cs s p = lgo G 60 r s2 (p + g.length)) (hn : cs.length = g.length + r.length)
    (ht : tstep G s.stk g = some s2.stk) (hk : s2.k = s.k + if isI g then 1 else 0) (h : Agree G r s2 (p + g.length) e) :
    Agree G cs s p (pre g e) := by
  cases e with
  | error q =>
    intro hG
    rcases h hG with h | ⟨s3, h1, h2, h3⟩
    · exact .inl (hl.trans h)
    · exact .inr ⟨s3, hl.trans h1, h2, by omega⟩
  | ok S =>
    show match trun G s.stk (g :: S) with
      | some stk => _
      | none => _
    have e1 : trun G s.stk (g :: S) = trun G s2.stk S := by
      show (tstep G s.stk g).bind _ = _
      rw [ht]; rfl
    rw [e1]
    have h : match trun G s2.stk S with
      | some stk => ∃ w, w ≠ W.need ∧ w ≠ W.mark ∧ (∃ al sq, stk = [(al, sq)] ∧ sq ≠ []) ∧ lgo G 60 r s2 (p + g.length) = .inr ⟨w, stk, s2.k + items S⟩
      | none => (∃ t, G t = false) ∧ ∃ q, lgo G 60 r s2 (p + g.length) = .inl q := h
    split
    · rename_i stk hs
      rw [hs] at h
      obtain ⟨w, h1, h2, h3, h4⟩ := h
      refine ⟨w, h1, h2, h3, ?_⟩
      rw [hl, h4, hk]
      unfold items
      cases hi : isI g <;> simp [List.filter, hi] <;> omega
    · rename_i hs
      rw [hs] at h
      exact ⟨h.1, by rw [hl]; exact h.2⟩
theorem Agree.skip {G : T → Bool} {cs r : List Nat} {s s2 : RS} {p : Nat} {e : Except Nat (List (List Nat))} (hl : lgo G 60 cs s p = lgo G 60 r s2 (p + 1)) (hn : cs.length = 1 + r.length)
    (ht : s.stk = s2.stk) (hk : s2.k = s.k) (h : Agree G r s2 (p + 1) e) : Agree G cs s p e := by
  cases e with
  | error q =>
    intro hG
    rcases h hG with h | ⟨s3, h1, h2, h3⟩
    · exact .inl (hl.trans h)
    · exact .inr ⟨s3, hl.trans h1, h2, by omega⟩
  | ok S =>
    show match trun G s.stk S with
      | some stk => _
      | none => _
    rw [ht]
    have h : match trun G s2.stk S with
      | some stk => ∃ w, w ≠ W.need ∧ w ≠ W.mark ∧ (∃ al sq, stk = [(al, sq)] ∧ sq ≠ []) ∧ lgo G 60 r s2 (p + 1) = .inr ⟨w, stk, s2.k + items S⟩
      | none => (∃ t, G t = false) ∧ ∃ q, lgo G 60 r s2 (p + 1) = .inl q := h
    split
    · rename_i stk hs
      rw [hs] at h
      rw [hl, ← hk]
      exact h
    · rename_i hs
      rw [hs] at h
      exact ⟨h.1, by rw [hl]; exact h.2⟩
theorem Agree.guard {G : T → Bool} {g cs : List Nat} {s : RS} {p : Nat} {e : Except Nat (List (List Nat))} {t : T} (hg : G t = false) (ht : tstep G s.stk g = none) (hn : ∃ q, lgo G 60 cs s p = .inl q) :
    Agree G cs s p (pre g e) := by
  cases e with
  | error q =>
    intro hG
    rw [hG t] at hg
    cases hg
  | ok S =>
    show match trun G s.stk (g :: S) with
      | some stk => _
      | none => _
    have e1 : trun G s.stk (g :: S) = none := by
      show (tstep G s.stk g).bind _ = _
      rw [ht]; rfl
    rw [e1]
    exact ⟨⟨t, hg⟩, hn⟩
theorem Agree.stop {G : T → Bool} {cs : List Nat} {s : RS} {p : Nat} (h : lgo G 60 cs s p = .inl p) : Agree G cs s p (.error p) := fun _ => .inl h
theorem bd_base {g : List Nat} (h1 : g ≠ [40]) (h2 : g ≠ [124]) (h3 : g ≠ [42]) : Bd .base g := ⟨by simp, by simp [h1, h2], by simp [h3]⟩
theorem bd_letter {g : List Nat} (h1 : g ≠ [40]) (h2 : g ≠ [124]) (h3 : g ≠ [42]) : Bd .letter g := ⟨by simp, by simp [h1, h2], by simp [h3]⟩
theorem scan_nil {b : List Nat} {d p : Nat} : scan [] b d p = if b = [40] ∨ b = [124] ∨ 0 < d then .error p else .ok [] := by rw [scan]
theorem scan_cons {c : Nat} {r b : List Nat} {d p : Nat} : scan (c :: r) b d p = if c = 32 then scan r b d (p + 1) else match signAt (c :: r) with
    | none => .error (p + 1)
    | some g => if mayStand g b d = true then pre g (scan (r.drop (g.length - 1)) g (dnext g d) (p + g.length))
      else .error p := by rw [scan]
theorem lgo_cons {G : T → Bool} {L c : Nat} {r : List Nat} {s : RS} {p : Nat} : lgo G L (c :: r) s p = match lst G L c s with
    | none => .inl p
    | some s2 => lgo G L r s2 (p + 1) := rfl
theorem scan_agree0 (G : T → Bool) (w : W) (al sq : List T) (r : Stk) (k : Nat) (b : List Nat) (p : Nat) (B : Bd w b) (hs : w ≠ .need → sq ≠ []) : Agree G [] ⟨w, (al, sq) :: r, k⟩ p (scan [] b r.length p) := by
  rw [scan_nil]
  split
  · rename_i h
    refine fun _ => .inr ⟨_, rfl, ?_, rfl⟩
    unfold bad
    rcases h with h | h | h
    · simp [B.need.mpr (.inl h)]
    · simp [B.need.mpr (.inr h)]
    · have : 1 < r.length + 1 := by omega
      simp [this]
  · rename_i h
    have hw : w ≠ .need := fun e => h (by
      rcases B.need.mp e with e | e
      · exact .inl e
      · exact .inr (.inl e))
    refine ⟨w, hw, B.mark, ⟨al, sq, ?_, hs hw⟩, rfl⟩
    cases r with
    | nil => rfl
    | cons => exact absurd (.inr (.inr (by simp))) h
theorem lgo_some {G : T → Bool} {L c : Nat} {t : List Nat} {s s2 : RS} {p : Nat} (e : lst G L c s = some s2) : lgo G L (c :: t) s p = lgo G L t s2 (p + 1) := by rw [lgo_cons, e]
theorem lgo_none {G : T → Bool} {L c : Nat} {t : List Nat} {s : RS} {p : Nat} (e : lst G L c s = none) : lgo G L (c :: t) s p = .inl p := by rw [lgo_cons, e]
theorem isK_ne {c : Nat} (h : isK c = true) : c ≠ 32 ∧ c ≠ 39 := by
  unfold isK at h
  simp at h
  omega
theorem isL_not {c : Nat} (h : c = 32 ∨ c = 39 ∨ c = 42 ∨ c = 124 ∨ c = 41 ∨ c = 40 ∨ c = 63 ∨ c = 48 ∨ c = 49) : isL c = false := by
  cases e : isL c with
  | false => rfl
  | true =>
    have := isL_ne e
    omega
theorem scan_agree (G : T → Bool) : ∀ (n : Nat) (cs : List Nat), cs.length ≤ n → ∀ (w : W) (al sq : List T) (r : Stk) (k : Nat) (b : List Nat) (p : Nat), Bd w b → (w = .letter → cs.head? ≠ some 39) → (w ≠ .need → sq ≠ []) →
    Agree G cs ⟨w, (al, sq) :: r, k⟩ p (scan cs b r.length p) := by
  intro n
  induction n with
  | zero =>
    intro cs hn w al sq r k b p B hb hs
    obtain rfl : cs = [] := List.eq_nil_of_length_eq_zero (by omega)
    exact scan_agree0 G w al sq r k b p B hs
  | succ n ih =>
    intro cs hn w al sq r k b p B hb hs
    cases cs with
    | nil => exact scan_agree0 G w al sq r k b p B hs
    | cons c t =>
      have hm := B.mark
      have ht : t.length ≤ n := by simp only [List.length_cons] at hn; omega
      rw [scan_cons]
      by_cases h32 : c = 32
      · subst h32
        rw [if_pos rfl]
        have e : lst G 60 32 ⟨w, (al, sq) :: r, k⟩ = some ⟨if w = .letter then .base else w, (al, sq) :: r, k⟩ := by simp [lst, lstep, hm]
        refine Agree.skip (lgo_some e) (by simp only [List.length_cons]; omega) rfl rfl (ih t ht _ al sq r k b (p + 1) ?_ ?_ ?_)
        · by_cases hw : w = .letter
          · subst hw
            rw [if_pos rfl]
            exact ⟨by simp, by have := B.need; simp at this ⊢; exact this, by have := B.star; simp at this ⊢; exact this⟩
          · rw [if_neg hw]; exact B
        · by_cases hw : w = .letter
          · rw [if_pos hw]; intro h; cases h
          · rw [if_neg hw]; intro h; exact absurd h hw
        · by_cases hw : w = .letter
          · intro _; exact hs (by rw [hw]; simp)
          · rw [if_neg hw]; exact hs
      rw [if_neg h32]
      by_cases h63 : c = 63
      · subst h63
        have e : lst G 60 63 ⟨w, (al, sq) :: r, k⟩ = some ⟨.mark, (al, sq) :: r, k⟩ := by
          have : isL 63 = false := by decide
          simp [lst, lstep, hm]
        cases t with
        | nil => exact fun _ => .inr ⟨⟨.mark, (al, sq) :: r, k⟩, (lgo_some e).trans rfl, by simp [bad], rfl⟩
        | cons d t2 =>
          by_cases hk : isK d = true
          · have e2 : lst G 60 d ⟨.mark, (al, sq) :: r, k⟩ = some ⟨.base, (al, .i [63, d] :: sq) :: r, k + 1⟩ := by simp [lst, lstep, hk]
            have sg : signAt (63 :: d :: t2) = some [63, d] := by simp [signAt, hk]
            have it : isI [63, d] = true := by simp [isI, hk]
            have ms : mayStand [63, d] b r.length = true := by simp [mayStand, it]
            rw [sg]
            dsimp only
            rw [if_pos ms]
            have tt : tstep G ((al, sq) :: r) [63, d] = some ((al, .i [63, d] :: sq) :: r) := by simp [tstep]
            exact Agree.one (g := [63, d]) (s2 := ⟨.base, (al, .i [63, d] :: sq) :: r, k + 1⟩) (r := t2) ((lgo_some e).trans (lgo_some e2)) (by simp only [List.length_cons, List.length_nil]; omega) tt (by simp [it]) (ih t2 (by simp only [List.length_cons] at ht; omega) _ al (.i [63, d] :: sq) r _ [63, d] _ (bd_base (by simp) (by simp) (by simp)) (by simp) (by simp))
          · have hk : isK d = false := by simpa using hk
            have sg : signAt (63 :: d :: t2) = none := by simp [signAt, hk]
            rw [sg]
            have e2 : lst G 60 d ⟨.mark, (al, sq) :: r, k⟩ = none := by simp [lst, lstep, hk]
            exact fun _ => .inl ((lgo_some e).trans (lgo_none e2))
      by_cases hL : isL c = true
      · have nn := isL_ne hL
        have e : lst G 60 c ⟨w, (al, sq) :: r, k⟩ = some ⟨.letter, (al, .i [c] :: sq) :: r, k + 1⟩ := by
          simp [lst, lstep, hm, hL, nn]
        by_cases h39 : t.head? = some 39
        · obtain ⟨t2, rfl⟩ : ∃ t2, t = 39 :: t2 := by
            cases t with
            | nil => cases h39
            | cons d t2 => simp at h39; exact ⟨t2, by rw [h39]⟩
          have e2 : lst G 60 39 ⟨.letter, (al, .i [c] :: sq) :: r, k + 1⟩ = some ⟨.base, (al, .i [c, 39] :: sq) :: r, k + 1⟩ := by simp [lst, lstep]
          have sg : signAt (c :: 39 :: t2) = some [c, 39] := by simp [signAt, h63, hL]
          have it : isI [c, 39] = true := by simp [isI, hL]
          have ms : mayStand [c, 39] b r.length = true := by simp [mayStand, it]
          rw [sg]
          dsimp only
          rw [if_pos ms]
          have tt : tstep G ((al, sq) :: r) [c, 39] = some ((al, .i [c, 39] :: sq) :: r) := by simp [tstep]
          have dn : dnext [c, 39] r.length = r.length := by simp [dnext]
          rw [dn]
          exact Agree.one (g := [c, 39]) (s2 := ⟨.base, (al, .i [c, 39] :: sq) :: r, k + 1⟩) (r := t2) ((lgo_some e).trans (lgo_some e2)) (by simp only [List.length_cons, List.length_nil]; omega) tt (by simp [it]) (ih t2 (by simp only [List.length_cons] at ht; omega) _ al (.i [c, 39] :: sq) r _ [c, 39] _ (bd_base (by simp) (by simp) (by simp)) (by simp) (by simp))
        · have sg : signAt (c :: t) = some [c] := by
            cases t with
            | nil => simp [signAt, h63, hL]
            | cons d t2 =>
              have : d ≠ 39 := by simpa using h39
              simp [signAt, h63, hL, this]
          have it : isI [c] = true := by simp [isI, hL]
          have ms : mayStand [c] b r.length = true := by simp [mayStand, it, nn]
          rw [sg]
          dsimp only
          rw [if_pos ms]
          have tt : tstep G ((al, sq) :: r) [c] = some ((al, .i [c] :: sq) :: r) := by simp [tstep, nn]
          have dn : dnext [c] r.length = r.length := by simp [dnext, nn]
          rw [dn]
          exact Agree.one (g := [c]) (s2 := ⟨.letter, (al, .i [c] :: sq) :: r, k + 1⟩) (r := t) (lgo_some e) (by simp only [List.length_cons, List.length_nil]; omega) tt (by simp [it]) (ih t ht _ al (.i [c] :: sq) r _ [c] _ (bd_letter (by simp [nn]) (by simp [nn]) (by simp [nn])) (fun _ => h39) (by simp))
      have hL : isL c = false := by simpa using hL
      have sg : signAt (c :: t) = some [c] := by simp [signAt, h63, hL]
      rw [sg]
      dsimp only
      have it : isI [c] = false := by simp [isI, hL]
      have fin : ∀ (s2 : RS), lst G 60 c ⟨w, (al, sq) :: r, k⟩ = some s2 → tstep G ((al, sq) :: r) [c] = some s2.stk → s2.k = k → Agree G t s2 (p + 1) (scan t [c] (dnext [c] r.length) (p + 1)) →
          Agree G (c :: t) ⟨w, (al, sq) :: r, k⟩ p (pre [c] (scan (t.drop ([c].length - 1)) [c] (dnext [c] r.length) (p + [c].length))) := fun s2 e tt hk h =>
        Agree.one (g := [c]) (s2 := s2) (r := t) (lgo_some e) (by simp only [List.length_cons, List.length_nil]; omega) tt (by simp [it, hk]) h
      by_cases h40 : c = 40
      · subst h40
        by_cases hr : r.length < 60
        · have ms : mayStand [40] b r.length = true := by simp [mayStand, hr]
          rw [if_pos ms]
          exact fin ⟨.need, ([], []) :: (al, sq) :: r, k⟩ (by simp [lst, lstep, hm, hr]) (by simp [tstep]) rfl (ih t ht .need [] [] ((al, sq) :: r) k [40] (p + 1) ⟨by simp, by simp, by simp⟩ (by simp) (by simp))
        · have ms : mayStand [40] b r.length = false := by simp [mayStand, hr]
          rw [ms, if_neg Bool.false_ne_true]
          exact Agree.stop (lgo_none (by simp [lst, lstep, hm, hr, hL]))
      by_cases h48 : c = 48
      · subst h48
        have ms : mayStand [48] b r.length = true := by simp [mayStand]
        rw [if_pos ms]
        exact fin ⟨.base, (al, .z :: sq) :: r, k⟩ (by simp [lst, lstep, hm, hL]) (by simp [tstep]) rfl (ih t ht _ al _ r k [48] (p + 1) (bd_base (by simp) (by simp) (by simp)) (by simp) (by simp))
      by_cases h49 : c = 49
      · subst h49
        have ms : mayStand [49] b r.length = true := by simp [mayStand]
        rw [if_pos ms]
        exact fin ⟨.base, (al, .s :: sq) :: r, k⟩ (by simp [lst, lstep, hm, hL]) (by simp [tstep]) rfl (ih t ht _ al _ r k [49] (p + 1) (bd_base (by simp) (by simp) (by simp)) (by simp) (by simp))
      have nI : ¬ ([c] = [48] ∨ [c] = [49] ∨ isI [c] = true) := by simp [h48, h49, it]
      by_cases hw : w = .need
      · have hb2 := B.need.mp hw
        have ms : mayStand [c] b r.length = false := by
          unfold mayStand
          rw [if_neg (by simpa using h40), if_neg nI, if_pos hb2]
        rw [ms, if_neg Bool.false_ne_true]
        refine Agree.stop (lgo_none ?_)
        subst hw
        simp [lst, lstep, h32, h40, h48, h49, h63, hL]
      have hb2 : ¬ (b = [40] ∨ b = [124]) := fun e => hw (B.need.mpr e)
      have hsq := hs hw
      by_cases h42 : c = 42
      · subst h42
        have e0 : mayStand [42] b r.length = decide (b ≠ [42]) := by
          unfold mayStand
          rw [if_neg (by simp), if_neg nI, if_neg hb2, if_pos rfl]
        by_cases hst : w = .star
        · have : b = [42] := B.star.mp hst
          rw [e0, this]
          exact Agree.stop (lgo_none (by subst hst; simp [lst, lstep, hL]))
        · have hb3 : b ≠ [42] := fun e => hst (B.star.mpr e)
          rw [e0, if_pos (by simpa using hb3)]
          cases sq with
          | nil => exact absurd rfl hsq
          | cons x q =>
            cases hG : G (lagain x) with
            | false =>
              exact Agree.guard hG (by simp [tstep, hG]) ⟨p, lgo_none (by simp [lst, lstep, hm, hw, hst, hG])⟩
            | true =>
              refine fin ⟨.star, (al, lagain x :: q) :: r, k⟩ (by simp [lst, lstep, hm, hw, hst, hG]) (by simp [tstep, hG]) rfl ?_
              have dn : dnext [42] r.length = r.length := by simp [dnext]
              rw [dn]
              exact ih t ht _ al _ r k [42] (p + 1) ⟨by simp, by simp, by simp⟩ (by simp) (by simp)
      by_cases h124 : c = 124
      · subst h124
        have ms : mayStand [124] b r.length = true := by
          unfold mayStand
          rw [if_neg (by simp), if_neg nI, if_neg hb2, if_neg (by simp), if_neg (by simp)]
          rfl
        rw [if_pos ms]
        cases hG : G (lthen sq.reverse) with
        | false => exact Agree.guard hG (by simp [tstep, hG]) ⟨p, lgo_none (by simp [lst, lstep, hm, hw, hG])⟩
        | true =>
          refine fin ⟨.need, (lthen sq.reverse :: al, []) :: r, k⟩ (by simp [lst, lstep, hm, hw, hG]) (by simp [tstep, hG, hsq]) rfl ?_
          have dn : dnext [124] r.length = r.length := by simp [dnext]
          rw [dn]
          exact ih t ht _ _ _ r k [124] (p + 1) ⟨by simp, by simp, by simp⟩ (by simp) (by simp)
      by_cases h41 : c = 41
      · subst h41
        have e0 : mayStand [41] b r.length = decide (0 < r.length) := by
          unfold mayStand
          rw [if_neg (by simp), if_neg nI, if_neg hb2, if_neg (by simp), if_pos rfl]
        cases r with
        | nil =>
          rw [e0]
          exact Agree.stop (lgo_none (by simp [lst, lstep, hm, hw, hL]))
        | cons x r2 =>
          obtain ⟨al2, sq2⟩ := x
          rw [e0, if_pos (by simp)]
          cases hG : (G (lthen sq.reverse) && G (leither (lthen sq.reverse :: al).reverse)) with
          | false =>
            have tt : tstep G ((al, sq) :: (al2, sq2) :: r2) [41] = none := by
              simp only [tstep]
              simp only [List.cons.injEq, and_true, if_false, hG, Nat.reduceEqDiff, Bool.false_eq_true, if_true, hsq]
            have ll : lst G 60 41 ⟨w, (al, sq) :: (al2, sq2) :: r2, k⟩ = none := by
              simp only [lst, lstep]
              simp only [hm, hw, hG, if_false, if_true, Nat.reduceEqDiff, false_and, true_and, ne_eq, not_false_eq_true, reduceCtorEq, Bool.false_eq_true]
            rcases Bool.and_eq_false_iff.mp hG with h | h
            · exact Agree.guard h tt ⟨p, lgo_none ll⟩
            · exact Agree.guard h tt ⟨p, lgo_none ll⟩
          | true =>
            refine fin ⟨.base, (al2, leither (lthen sq.reverse :: al).reverse :: sq2) :: r2, k⟩ ?_ ?_ rfl ?_
            · simp only [lst, lstep]
              simp only [hm, hw, hG, if_false, if_true, Nat.reduceEqDiff, false_and, true_and, ne_eq, not_false_eq_true, reduceCtorEq]
            · simp only [tstep]
              simp only [List.cons.injEq, and_true, if_false, hG, Nat.reduceEqDiff, if_true, hsq]
            · have dn : dnext [41] ((al2, sq2) :: r2).length = r2.length := by simp [dnext]
              rw [dn]
              exact ih t ht _ al2 _ r2 k [41] (p + 1) (bd_base (by simp) (by simp) (by simp)) (by simp) (by simp)
      have ms : mayStand [c] b r.length = false := by
        unfold mayStand
        rw [if_neg (by simpa using h40), if_neg nI, if_neg hb2, if_neg (by simpa using h42), if_neg (by simpa using h41)]
        simp [h124]
      rw [ms, if_neg Bool.false_ne_true]
      refine Agree.stop (lgo_none ?_)
      have h39 : ¬ (c = 39 ∧ w = .letter) := fun ⟨h1, h2⟩ => hb h2 (by rw [h1]; rfl)
      simp [lst, lstep, hm, h32, h39, h40, h41, h42, h124, h63, hL, h48, h49]
end K02
namespace K02
/-- a level: the rows that are done (the newest first), the row that grows (its newest first) -/
abbrev Lv := List (List T) × List T
noncomputable def galt (G : T → Bool) (rows : List (List T)) : Option T := if (rows.all fun r => G (lthen r)) && G (leither (rows.map lthen)) then some (leither (rows.map lthen)) else none
def rowsOf (l : Lv) : List (List T) := l.1.reverse ++ [l.2.reverse]
noncomputable def gstep (G : T → Bool) (st : List Lv) (g : List Nat) : Option (List Lv) := match st with
  | [] => none
  | (rs, sq) :: r =>
    if g = [40] then some (([], []) :: (rs, sq) :: r)
    else if g = [124] then some ((sq.reverse :: rs, []) :: r)
    else if g = [42] then (match sq with
      | x :: q => if G (lagain x) then some ((rs, lagain x :: q) :: r) else none
      | [] => none)
    else if g = [41] then (match r with
      | (rs2, sq2) :: r2 => (galt G (rowsOf (rs, sq))).map fun e => (rs2, e :: sq2) :: r2
      | [] => none)
    else if g = [48] then some ((rs, .z :: sq) :: r)
    else if g = [49] then some ((rs, .s :: sq) :: r)
    else some ((rs, .i g :: sq) :: r)
noncomputable def grun (G : T → Bool) : List Lv → List (List Nat) → Option (List Lv)
  | st, [] => some st
  | st, g :: gs => (gstep G st g).bind fun s => grun G s gs
noncomputable def gbuild (G : T → Bool) (S : List (List Nat)) : Option T := (grun G [([], [])] S).bind fun st => match st with
  | [l] => galt G (rowsOf l)
  | _ => none
noncomputable def lfin (l : List T × List T) : T := leither (lthen l.2.reverse :: l.1).reverse
noncomputable def low (l : Lv) : List T × List T := (l.1.map lthen, l.2)
noncomputable def lows (st : List Lv) : Stk := st.map low
def yes : T → Bool := fun _ => true
theorem leither_rows (l : Lv) : leither ((rowsOf l).map lthen) = lfin (low l) := by
  unfold lfin low rowsOf
  simp
theorem galt_some {G : T → Bool} {l : Lv} {t : T} (h : galt G (rowsOf l) = some t) : t = lfin (low l) ∧ G t = true ∧ G (lthen l.2.reverse) = true := by
  unfold galt at h
  split at h
  · rename_i c
    rw [Bool.and_eq_true] at c
    have e := Option.some.inj h
    refine ⟨by rw [← e, leither_rows], by rw [← e]; exact c.2, ?_⟩
    have := List.all_eq_true.mp c.1 l.2.reverse (by simp [rowsOf])
    exact this
  · cases h
/-- the program's builder does what the law's does (where it comes to an end) -/
theorem grun_trun {G : T → Bool} : ∀ {S : List (List Nat)} {st st2 : List Lv} {stk : Stk}, grun G st S = some st2 → trun yes (lows st) S = some stk → lows st2 = stk
  | [], st, st2, stk, h, h2 => by
    have h : some st = some st2 := h
    have h2 : some (lows st) = some stk := h2
    rw [← Option.some.inj h, Option.some.inj h2]
  | g :: gs, [], st2, stk, h, h2 => by
    have h : (none : Option (List Lv)).bind _ = some st2 := h
    cases h
  | g :: gs, (rs, sq) :: r, st2, stk, h, h2 => by
    have h : (gstep G ((rs, sq) :: r) g).bind (fun s => grun G s gs) = some st2 := h
    have h2 : (tstep yes (lows ((rs, sq) :: r)) g).bind (fun s => trun yes s gs) = some stk := h2
    cases e : gstep G ((rs, sq) :: r) g with
    | none => rw [e] at h; cases h
    | some st1 =>
      rw [e] at h
      have h : grun G st1 gs = some st2 := h
      cases e2 : tstep yes (lows ((rs, sq) :: r)) g with
      | none => rw [e2] at h2; cases h2
      | some stk1 =>
        rw [e2] at h2
        have h2 : trun yes stk1 gs = some stk := h2
        have : lows st1 = stk1 := by
          have e2 : tstep yes ((rs.map lthen, sq) :: lows r) g = some stk1 := e2
          unfold gstep at e
          unfold tstep at e2
          dsimp only at e e2
          by_cases c1 : g = [40]
          · rw [if_pos c1] at e e2; rw [← Option.some.inj e, ← Option.some.inj e2]; rfl
          rw [if_neg c1] at e e2
          by_cases c2 : g = [124]
          · rw [if_pos c2] at e e2
            split at e2
            · cases e2
            · rw [if_pos (show yes (lthen sq.reverse) = true from rfl)] at e2
              rw [← Option.some.inj e, ← Option.some.inj e2]; rfl
          rw [if_neg c2] at e e2
          by_cases c3 : g = [42]
          · rw [if_pos c3] at e e2
            cases sq with
            | nil => cases e
            | cons x q =>
              dsimp only at e e2
              rw [if_pos (show yes (lagain x) = true from rfl)] at e2
              split at e
              · rw [← Option.some.inj e, ← Option.some.inj e2]; rfl
              · cases e
          rw [if_neg c3] at e e2
          by_cases c4 : g = [41]
          · rw [if_pos c4] at e e2
            cases r with
            | nil => cases e
            | cons x r2 =>
              obtain ⟨rs2, sq2⟩ := x
              have e : (galt G (rowsOf (rs, sq))).map (fun e => (rs2, e :: sq2) :: r2) = some st1 := e
              have e2 : (if sq = [] then none else if (yes (lthen sq.reverse) && yes (leither (lthen sq.reverse :: rs.map lthen).reverse)) = true then some ((rs2.map lthen, leither (lthen sq.reverse :: rs.map lthen).reverse :: sq2) :: lows r2) else none) = some stk1 := e2
              split at e2
              · cases e2
              · rw [show (yes (lthen sq.reverse) && yes (leither (lthen sq.reverse :: rs.map lthen).reverse)) = true from rfl, if_pos rfl] at e2
                cases ea : galt G (rowsOf (rs, sq)) with
                | none => rw [ea] at e; cases e
                | some t =>
                  rw [ea] at e
                  rw [← Option.some.inj e, ← Option.some.inj e2, (galt_some ea).1]
                  rfl
          rw [if_neg c4] at e e2
          by_cases c5 : g = [48]
          · rw [if_pos c5] at e e2; rw [← Option.some.inj e, ← Option.some.inj e2]; rfl
          rw [if_neg c5] at e e2
          by_cases c6 : g = [49]
          · rw [if_pos c6] at e e2; rw [← Option.some.inj e, ← Option.some.inj e2]; rfl
          rw [if_neg c6] at e e2
          rw [← Option.some.inj e, ← Option.some.inj e2]; rfl
        rw [← this] at h2
        exact grun_trun h h2
def okRows (G : T → Bool) (st : List Lv) : Prop := ∀ l ∈ st, ∀ r ∈ l.1, G (lthen r) = true
/-- where the law's builder with the guard goes through, the program's does -/
theorem trun_grun {G : T → Bool} : ∀ {S : List (List Nat)} {st : List Lv} {stk : Stk}, okRows G st → trun G (lows st) S = some stk → ∃ st2, grun G st S = some st2 ∧ lows st2 = stk ∧ okRows G st2
  | [], st, stk, ok, h => ⟨st, rfl, Option.some.inj h, ok⟩
  | g :: gs, [], stk, ok, h => by
    have h : (none : Option Stk).bind _ = some stk := h
    cases h
  | g :: gs, (rs, sq) :: r, stk, ok, h => by
    have h : (tstep G (lows ((rs, sq) :: r)) g).bind (fun s => trun G s gs) = some stk := h
    cases e2 : tstep G (lows ((rs, sq) :: r)) g with
    | none => rw [e2] at h; cases h
    | some stk1 =>
      rw [e2] at h
      have h : trun G stk1 gs = some stk := h
      have ok1 : ∀ x ∈ rs, G (lthen x) = true := ok (rs, sq) (by simp)
      have okr : okRows G r := fun l hl => ok l (List.mem_cons_of_mem _ hl)
      have key : ∃ st1, gstep G ((rs, sq) :: r) g = some st1 ∧ lows st1 = stk1 ∧ okRows G st1 := by
        have e2 : tstep G ((rs.map lthen, sq) :: lows r) g = some stk1 := e2
        unfold tstep at e2
        unfold gstep
        dsimp only at e2 ⊢
        have top : ∀ sq', okRows G ((rs, sq') :: r) := fun sq' l hl => by
          rcases List.mem_cons.mp hl with hl | hl
          · rw [hl]; exact ok1
          · exact okr l hl
        by_cases c1 : g = [40]
        · rw [if_pos c1] at e2 ⊢
          refine ⟨_, rfl, Option.some.inj e2, fun l hl => ?_⟩
          rcases List.mem_cons.mp hl with hl | hl
          · rw [hl]; intro x hx; cases hx
          · exact ok l hl
        rw [if_neg c1] at e2 ⊢
        by_cases c2 : g = [124]
        · rw [if_pos c2] at e2 ⊢
          split at e2
          · cases e2
          · split at e2
            · rename_i hg
              refine ⟨_, rfl, Option.some.inj e2, fun l hl => ?_⟩
              rcases List.mem_cons.mp hl with hl | hl
              · rw [hl]
                intro x hx
                rcases List.mem_cons.mp hx with hx | hx
                · rw [hx]; exact hg
                · exact ok1 x hx
              · exact okr l hl
            · cases e2
        rw [if_neg c2] at e2 ⊢
        by_cases c3 : g = [42]
        · rw [if_pos c3] at e2 ⊢
          cases sq with
          | nil => cases e2
          | cons x q =>
            dsimp only at e2 ⊢
            split at e2
            · rename_i hg
              rw [if_pos hg]
              exact ⟨_, rfl, Option.some.inj e2, top _⟩
            · cases e2
        rw [if_neg c3] at e2 ⊢
        by_cases c4 : g = [41]
        · rw [if_pos c4] at e2 ⊢
          cases r with
          | nil => cases e2
          | cons x r2 =>
            obtain ⟨rs2, sq2⟩ := x
            have e2 : (if sq = [] then none else if (G (lthen sq.reverse) && G (leither (lthen sq.reverse :: rs.map lthen).reverse)) = true then some ((rs2.map lthen, leither (lthen sq.reverse :: rs.map lthen).reverse :: sq2) :: lows r2) else none) = some stk1 := e2
            split at e2
            · cases e2
            · split at e2
              · rename_i hg
                rw [Bool.and_eq_true] at hg
                have ea : galt G (rowsOf (rs, sq)) = some (lfin (low (rs, sq))) := by
                  unfold galt
                  rw [leither_rows, if_pos]
                  rw [Bool.and_eq_true]
                  refine ⟨List.all_eq_true.mpr fun x hx => ?_, hg.2⟩
                  unfold rowsOf at hx
                  rcases List.mem_append.mp hx with hx | hx
                  · exact ok1 x (by simpa using hx)
                  · rw [List.mem_singleton] at hx; rw [hx]; exact hg.1
                show ∃ st1, (galt G (rowsOf (rs, sq))).map (fun e => (rs2, e :: sq2) :: r2) = some st1 ∧ _
                rw [ea]
                refine ⟨_, rfl, Option.some.inj e2, fun l hl => ?_⟩
                rcases List.mem_cons.mp hl with hl | hl
                · rw [hl]; exact okr (rs2, sq2) (by simp)
                · exact okr l (List.mem_cons_of_mem _ hl)
              · cases e2
        rw [if_neg c4] at e2 ⊢
        by_cases c5 : g = [48]
        · rw [if_pos c5] at e2 ⊢; exact ⟨_, rfl, Option.some.inj e2, top _⟩
        rw [if_neg c5] at e2 ⊢
        by_cases c6 : g = [49]
        · rw [if_pos c6] at e2 ⊢; exact ⟨_, rfl, Option.some.inj e2, top _⟩
        rw [if_neg c6] at e2 ⊢
        exact ⟨_, rfl, Option.some.inj e2, top _⟩
      obtain ⟨st1, h1, h2, h3⟩ := key
      rw [← h2] at h
      obtain ⟨st2, h4, h5, h6⟩ := trun_grun h3 h
      exact ⟨st2, by show (gstep G ((rs, sq) :: r) g).bind _ = _; rw [h1]; exact h4, h5, h6⟩
end K02
namespace K02
def gd (B : Nat) (t : T) : Bool := decide (depth t ≤ B)
abbrev g40 : T → Bool := gd 40
def valid (g : List Nat) : Bool := decide (g = [40]) || decide (g = [41]) || decide (g = [42]) || decide (g = [124]) || decide (g = [48]) || decide (g = [49]) || isI g
theorem mayStand_valid {g b : List Nat} {d : Nat} (h : mayStand g b d = true) : valid g = true := by
  unfold mayStand at h
  unfold valid
  by_cases c1 : g = [40]
  · simp [c1]
  rw [if_neg c1] at h
  by_cases c2 : g = [48] ∨ g = [49] ∨ isI g = true
  · rcases c2 with c | c | c <;> simp [c]
  rw [if_neg c2] at h
  by_cases c3 : b = [40] ∨ b = [124]
  · rw [if_pos c3] at h; cases h
  rw [if_neg c3] at h
  by_cases c4 : g = [42]
  · simp [c4]
  rw [if_neg c4] at h
  by_cases c5 : g = [41]
  · simp [c5]
  rw [if_neg c5] at h
  simp [of_decide_eq_true h]
/-- signs that weigh, told of signs and of code points -/
def cnt (S : List (List Nat)) : Nat := S.countP fun g => isI g || decide (g = [49]) || decide (g = [42])
def wc (c : Nat) : Bool := isL c || isK c || decide (c = 49) || decide (c = 42)
def cntc (l : List Nat) : Nat := l.countP wc
theorem signAt_len {l g : List Nat} (h : signAt l = some g) : ∃ r, l = g ++ r ∧ g ≠ [] := by
  cases l with
  | nil => cases h
  | cons c t =>
    unfold signAt at h
    dsimp only at h
    by_cases c1 : c = 63
    · rw [if_pos c1] at h
      cases t with
      | nil => cases h
      | cons d r =>
        dsimp only at h
        split at h
        · have := Option.some.inj h; subst c1; exact ⟨r, by rw [← this]; rfl, by rw [← this]; simp⟩
        · cases h
    · rw [if_neg c1] at h
      split at h
      · cases t with
        | nil => have := Option.some.inj h; exact ⟨[], by rw [← this]; rfl, by rw [← this]; simp⟩
        | cons d r =>
          dsimp only at h
          split at h
          · rename_i h39; have := Option.some.inj h; exact ⟨r, by rw [← this, h39]; rfl, by rw [← this]; simp⟩
          · have := Option.some.inj h; exact ⟨d :: r, by rw [← this]; rfl, by rw [← this]; simp⟩
      · have := Option.some.inj h; exact ⟨t, by rw [← this]; rfl, by rw [← this]; simp⟩
theorem cnt_tok (g : List Nat) : cnt [g] ≤ cntc g := by
  unfold cnt cntc
  by_cases h : (isI g || decide (g = [49]) || decide (g = [42])) = true
  · simp only [List.countP_cons, List.countP_nil, h, if_true]
    rcases Bool.or_eq_true_iff.mp h with h | h
    · rcases Bool.or_eq_true_iff.mp h with h | h
      · match g, h with
        | [c], h => unfold isI at h; simp [wc, h]
        | [c, d], h =>
          unfold isI at h
          rcases Bool.or_eq_true_iff.mp h with h | h
          · rw [Bool.and_eq_true] at h
            simp [List.countP_cons, wc, h.1]
          · rw [Bool.and_eq_true] at h
            simp [List.countP_cons, wc, h.2]
      · rw [of_decide_eq_true h]; decide
    · rw [of_decide_eq_true h]; decide
  · simp only [List.countP_cons, List.countP_nil, h]
    simp
theorem cnt_cons (g : List Nat) (S : List (List Nat)) : cnt (g :: S) = cnt [g] + cnt S := by
  unfold cnt
  simp only [List.countP_cons, List.countP_nil]
  omega
theorem cntc_app (a b : List Nat) : cntc (a ++ b) = cntc a + cntc b := List.countP_append
theorem scan_ok : ∀ (n : Nat) (cs : List Nat), cs.length ≤ n → ∀ (b : List Nat) (d p : Nat) (S : List (List Nat)), scan cs b d p = .ok S → (∀ g ∈ S, valid g = true) ∧ cnt S ≤ cntc cs
  | _, [], _, b, d, p, S, h => by
    rw [scan_nil] at h
    split at h
    · cases h
    · cases h; exact ⟨fun g hg => (by cases hg), Nat.zero_le _⟩
  | 0, c :: r, hn, _, _, _, _, _ => by simp at hn
  | n + 1, c :: r, hn, b, d, p, S, h => by
    rw [scan_cons] at h
    have hr : r.length ≤ n := by simp only [List.length_cons] at hn; omega
    by_cases c1 : c = 32
    · rw [if_pos c1] at h
      obtain ⟨h1, h2⟩ := scan_ok n r hr _ _ _ _ h
      refine ⟨h1, Nat.le_trans h2 ?_⟩
      unfold cntc
      rw [List.countP_cons]
      omega
    · rw [if_neg c1] at h
      cases e : signAt (c :: r) with
      | none => rw [e] at h; cases h
      | some g =>
        rw [e] at h
        dsimp only at h
        split at h
        · rename_i ms
          cases e2 : scan (r.drop (g.length - 1)) g (dnext g d) (p + g.length) with
          | error q => rw [e2] at h; cases h
          | ok S2 =>
            rw [e2] at h
            have h : Except.ok (g :: S2) = Except.ok S := h
            cases h
            obtain ⟨h1, h2⟩ := scan_ok n _ (by rw [List.length_drop]; omega) _ _ _ _ e2
            refine ⟨fun x hx => ?_, ?_⟩
            · rcases List.mem_cons.mp hx with hx | hx
              · rw [hx]; exact mayStand_valid ms
              · exact h1 x hx
            · obtain ⟨t, ht, hg⟩ := signAt_len e
              have e3 : r.drop (g.length - 1) = t := by
                cases g with
                | nil => exact absurd rfl hg
                | cons x y =>
                  rw [List.cons_append, List.cons.injEq] at ht
                  rw [ht.2]
                  simp
              rw [e3] at h2
              rw [ht, cntc_app, cnt_cons]
              have := cnt_tok g
              omega
        · cases h

def SFk (stk : Stk) : Prop := ∀ l ∈ stk, (∀ t ∈ l.1, SF t) ∧ ∀ t ∈ l.2, SF t
def Wk : Stk → Nat
  | [] => 0
  | l :: r => wts l.1 + wts l.2 + Wk r
theorem wts_rev (l : List T) : wts l.reverse = wts l := by
  rw [wts_sum, wts_sum, List.map_reverse, List.sum_reverse]
theorem wt_le {t : T} {k B : Nat} (hB : 1 ≤ B) (hs : SF t) (h : wt t ≤ k) (hk : k ≤ B) : gd B t = true := by
  have := depth_wt t hs
  unfold gd
  exact decide_eq_true (by omega)
theorem SFrev {l : List T} (h : ∀ t ∈ l, SF t) : ∀ t ∈ l.reverse, SF t := fun t ht => h t (by simpa using ht)
/-- the guard is passed where all that weighs is at most 40 -/
theorem tstep_wt {B : Nat} (hB : 1 ≤ B) {g : List Nat} {stk stk2 : Stk} (hv : valid g = true) (hs : SFk stk) (h : tstep yes stk g = some stk2) (hw : Wk stk + cnt [g] ≤ B) : tstep (gd B) stk g = some stk2 ∧ SFk stk2 ∧ Wk stk2 ≤ Wk stk + cnt [g] := by
  cases stk with
  | nil => cases h
  | cons x r =>
    obtain ⟨al, sq⟩ := x
    have hal : ∀ t ∈ al, SF t := (hs (al, sq) (by simp)).1
    have hsq : ∀ t ∈ sq, SF t := (hs (al, sq) (by simp)).2
    have hr : SFk r := fun l hl => hs l (List.mem_cons_of_mem _ hl)
    have push : ∀ {l : List T × List T} {r : Stk}, (∀ t ∈ l.1, SF t) → (∀ t ∈ l.2, SF t) → SFk r → SFk (l :: r) := fun h1 h2 h3 z hz => by
      rcases List.mem_cons.mp hz with e | e
      · rw [e]; exact ⟨h1, h2⟩
      · exact h3 z e
    have cons : ∀ {t : T} {l : List T}, SF t → (∀ t ∈ l, SF t) → ∀ x ∈ t :: l, SF x := fun h1 h2 x hx => by
      rcases List.mem_cons.mp hx with e | e
      · rw [e]; exact h1
      · exact h2 x e
    have hW : Wk ((al, sq) :: r) = wts al + wts sq + Wk r := rfl
    unfold tstep at h ⊢
    dsimp only at h ⊢
    by_cases c1 : g = [40]
    · rw [if_pos c1] at h ⊢
      have := Option.some.inj h
      subst this
      exact ⟨rfl, push (by simp) (by simp) hs, by simp [Wk, wts]⟩
    rw [if_neg c1] at h ⊢
    by_cases c2 : g = [124]
    · rw [if_pos c2] at h ⊢
      by_cases cq : sq = []
      · rw [if_pos cq] at h; cases h
      · rw [if_neg cq] at h ⊢
        rw [if_pos (show yes _ = true from rfl)] at h
        have hl := wt_lthen (SFrev hsq) (by simpa using cq)
        rw [wts_rev] at hl
        have hsf := SF_lthen (SFrev hsq)
        rw [if_pos (wt_le hB hsf hl (by omega))]
        have := Option.some.inj h
        subst this
        exact ⟨rfl, push (cons hsf hal) (by simp) hr, by simp only [Wk, wts]; omega⟩
    rw [if_neg c2] at h ⊢
    by_cases c3 : g = [42]
    · rw [if_pos c3] at h ⊢
      cases sq with
      | nil => cases h
      | cons x q =>
        dsimp only at h ⊢
        rw [if_pos (show yes _ = true from rfl)] at h
        have hx := SF_lagain (hsq x (by simp))
        have hl := wt_lagain x
        have hc : cnt [g] = 1 := by rw [c3]; decide
        have hsum : wts (x :: q) = wt x + wts q := by simp [wts]
        rw [if_pos (wt_le hB hx hl (by omega))]
        have := Option.some.inj h
        subst this
        refine ⟨rfl, push hal (cons hx fun t ht => hsq t (List.mem_cons_of_mem _ ht)) hr, ?_⟩
        simp only [Wk, wts]
        omega
    rw [if_neg c3] at h ⊢
    by_cases c4 : g = [41]
    · rw [if_pos c4] at h ⊢
      cases r with
      | nil => cases h
      | cons y r2 =>
        obtain ⟨al2, sq2⟩ := y
        dsimp only at h ⊢
        by_cases cq : sq = []
        · rw [if_pos cq] at h; cases h
        · rw [if_neg cq] at h ⊢
          rw [show (yes (lthen sq.reverse) && yes (leither (lthen sq.reverse :: al).reverse)) = true from rfl, if_pos rfl] at h
          have hl := wt_lthen (SFrev hsq) (by simpa using cq)
          rw [wts_rev] at hl
          have hsf := SF_lthen (SFrev hsq)
          have hsl := SFrev (cons hsf hal)
          have he := wt_leither (lthen sq.reverse :: al).reverse
          rw [wts_rev] at he
          have hsum : wts (lthen sq.reverse :: al) = wt (lthen sq.reverse) + wts al := by simp [wts]
          have hse := SF_leither hsl
          have hW2 : Wk ((al2, sq2) :: r2) = wts al2 + wts sq2 + Wk r2 := rfl
          rw [wt_le hB hsf hl (by omega), wt_le hB hse (Nat.le_refl _) (by omega)]
          rw [show (true && true) = true from rfl, if_pos rfl]
          have := Option.some.inj h
          subst this
          have h2 := hr (al2, sq2) (by simp)
          refine ⟨rfl, push h2.1 (cons hse h2.2) fun l hl => hr l (List.mem_cons_of_mem _ hl), ?_⟩
          simp only [Wk, wts] at hW2 ⊢
          omega
    rw [if_neg c4] at h ⊢
    by_cases c5 : g = [48]
    · rw [if_pos c5] at h ⊢
      have := Option.some.inj h
      subst this
      exact ⟨rfl, push hal (cons (by simp [SF]) hsq) hr, by simp only [Wk, wts, wt]; omega⟩
    rw [if_neg c5] at h ⊢
    by_cases c6 : g = [49]
    · rw [if_pos c6] at h ⊢
      have := Option.some.inj h
      subst this
      have hc : cnt [g] = 1 := by rw [c6]; decide
      exact ⟨rfl, push hal (cons (by simp [SF]) hsq) hr, by simp only [Wk, wts, wt]; omega⟩
    rw [if_neg c6] at h ⊢
    have hi : isI g = true := by
      unfold valid at hv
      simpa [c1, c2, c3, c4, c5, c6] using hv
    have := Option.some.inj h
    subst this
    have hc : cnt [g] = 1 := by unfold cnt; simp [hi]
    exact ⟨rfl, push hal (cons (by simpa [SF] using hi) hsq) hr, by simp only [Wk, wts, wt]; omega⟩
theorem trun_wt {B : Nat} (hB : 1 ≤ B) : ∀ {S : List (List Nat)} {stk stk2 : Stk}, (∀ g ∈ S, valid g = true) → SFk stk → trun yes stk S = some stk2 → Wk stk + cnt S ≤ B → trun (gd B) stk S = some stk2 ∧ SFk stk2 ∧ Wk stk2 ≤ Wk stk + cnt S
  | [], stk, stk2, _, hs, h, hw => by
    have := Option.some.inj (show some stk = some stk2 from h)
    subst this
    exact ⟨rfl, hs, by omega⟩
  | g :: S, stk, stk2, hv, hs, h, hw => by
    have h : (tstep yes stk g).bind (fun s => trun yes s S) = some stk2 := h
    rw [cnt_cons] at hw ⊢
    cases e : tstep yes stk g with
    | none => rw [e] at h; cases h
    | some s1 =>
      rw [e] at h
      obtain ⟨h1, h2, h3⟩ := tstep_wt hB (hv g (by simp)) hs e (by omega)
      obtain ⟨h4, h5, h6⟩ := trun_wt hB (fun x hx => hv x (List.mem_cons_of_mem _ hx)) h2 (show trun yes s1 S = some stk2 from h) (by omega)
      refine ⟨?_, h5, by omega⟩
      show (tstep (gd B) stk g).bind _ = _
      rw [h1]
      exact h4
theorem gbuild_of {G : T → Bool} {S : List (List Nat)} {al sq : List T} (h : trun G [([], [])] S = some [(al, sq)]) (h1 : G (lthen sq.reverse) = true) (h2 : G (lfin (al, sq)) = true) : gbuild G S = some (lfin (al, sq)) := by
  obtain ⟨st2, e1, e2, e3⟩ := trun_grun (st := [([], [])]) (fun l hl r hr => by
    rw [List.mem_singleton] at hl
    rw [hl] at hr
    cases hr) (show trun G (lows [([], [])]) S = some [(al, sq)] from h)
  unfold gbuild
  rw [e1]
  cases st2 with
  | nil => cases e2
  | cons l r =>
    have e2 : low l :: lows r = [(al, sq)] := e2
    rw [List.cons.injEq] at e2
    obtain ⟨e4, e5⟩ := e2
    have : r = [] := by
      cases r with
      | nil => rfl
      | cons => cases e5
    subst this
    show galt G (rowsOf l) = _
    unfold galt
    rw [leither_rows, e4, if_pos]
    rw [Bool.and_eq_true]
    refine ⟨List.all_eq_true.mpr fun x hx => ?_, h2⟩
    unfold rowsOf at hx
    rcases List.mem_append.mp hx with hx | hx
    · exact e3 l (by simp) x (by simpa using hx)
    · rw [List.mem_singleton] at hx
      have : l.2 = sq := by have := congrArg Prod.snd e4; exact this
      rw [hx, this]
      exact h1
/-- light texts are built -/
theorem build_light {S : List (List Nat)} {al sq : List T} (hv : ∀ g ∈ S, valid g = true) (h : trun yes [([], [])] S = some [(al, sq)]) (hq : sq ≠ []) (hw : cnt S ≤ 40) : gbuild g40 S = some (lfin (al, sq)) := by
  have h0 : SFk [([], [])] := fun l hl => by
    rw [List.mem_singleton] at hl
    rw [hl]
    exact ⟨by simp, by simp⟩
  obtain ⟨h1, h2, h3⟩ := trun_wt (B := 40) (by decide) hv h0 h (by simpa [Wk, wts] using hw)
  have h3 : wts al + wts sq + 0 ≤ 0 + 0 + 0 + cnt S := h3
  have hal : ∀ t ∈ al, SF t := (h2 (al, sq) (by simp)).1
  have hsq : ∀ t ∈ sq, SF t := (h2 (al, sq) (by simp)).2
  have hl := wt_lthen (SFrev hsq) (by simpa using hq)
  rw [wts_rev] at hl
  have hsf := SF_lthen (SFrev hsq)
  have he := wt_leither (lthen sq.reverse :: al).reverse
  rw [wts_rev] at he
  have hsum : wts (lthen sq.reverse :: al) = wt (lthen sq.reverse) + wts al := by simp [wts]
  have hse : SF (leither (lthen sq.reverse :: al).reverse) := SF_leither (SFrev fun x hx => by
    rcases List.mem_cons.mp hx with e | e
    · rw [e]; exact hsf
    · exact hal x e)
  exact gbuild_of h1 (wt_le (by decide) hsf hl (by omega)) (wt_le (by decide) hse he (by omega))
end K02
namespace K02
def Go (G : T → Bool) (L : Nat) (cs : List Nat) (s s2 : RS) : Prop := ∀ rest p, lgo G L (cs ++ rest) s p = lgo G L rest s2 (p + cs.length)
theorem Go.nil {G : T → Bool} {L : Nat} {s : RS} : Go G L [] s s := fun _ _ => rfl
theorem Go.app {G : T → Bool} {L : Nat} {a b : List Nat} {s1 s2 s3 : RS} (h1 : Go G L a s1 s2) (h2 : Go G L b s2 s3) : Go G L (a ++ b) s1 s3 := fun rest p => by
  rw [List.append_assoc, h1, h2, List.length_append, Nat.add_assoc]
theorem Go.one {G : T → Bool} {L c : Nat} {s s2 : RS} (h : lst G L c s = some s2) : Go G L [c] s s2 := fun rest p => lgo_some h
theorem Go.det {G : T → Bool} {L : Nat} {cs : List Nat} {s s2 s3 : RS} (h2 : Go G L cs s s2) (h3 : Go G L cs s s3) : s2 = s3 := by
  have e2 := h2 [] 0
  have e3 := h3 [] 0
  rw [e2] at e3
  exact Sum.inr.inj e3
def seqOf : T → List T
  | .n ps => ps
  | t => [t]
theorem flatN_id {ps : List T} (h : ∀ p ∈ ps, p.isS = false ∧ p.isN = false) : flatN ps = ps := by
  induction ps with
  | nil => rfl
  | cons p r ih =>
    have h0 := h p (by simp)
    have ih := ih fun x hx => h x (by simp [hx])
    cases p with
    | s => exact absurd h0.1 (by simp [T.isS])
    | n => exact absurd h0.2 (by simp [T.isN])
    | _ => simp [flatN, ih]
theorem flatO_id {ps : List T} (h : ∀ p ∈ ps, p.isO = false) : flatO ps = ps := by
  induction ps with
  | nil => rfl
  | cons p r ih =>
    have h0 := h p (by simp)
    have ih := ih fun x hx => h x (by simp [hx])
    cases p with
    | o => exact absurd h0 (by simp [T.isO])
    | _ => simp [flatO, ih]
theorem addU_id : ∀ {l acc : List T}, (acc ++ l).Nodup → (∀ p ∈ l, p.isZ = false) → addU acc l = acc ++ l
  | [], acc, _, _ => by simp [addU]
  | p :: r, acc, h1, h2 => by
    have e : addU1 acc p = acc ++ [p] := by
      unfold addU1
      rw [if_neg]
      rintro (h | h)
      · rw [h2 p (by simp)] at h; cases h
      · rw [List.nodup_append] at h1
        exact h1.2.2 p h p (by simp) rfl
    show addU (addU1 acc p) r = _
    rw [e, addU_id (by rw [List.append_assoc]; exact h1) fun x hx => h2 x (by simp [hx])]
    simp
theorem lthen_seq {t : T} (h : SF t) : lthen (seqOf t) = t := by
  cases t with
  | z => rfl
  | s => rfl
  | i w => rfl
  | o ps => rfl
  | m b => rfl
  | n ps =>
    unfold SF at h
    show lthen ps = _
    unfold lthen
    rw [flatN_id fun p hp => (h.2.2 p hp).2]
    rw [if_neg]
    · match ps, h.1 with
      | a :: b :: r, _ => rfl
    · unfold hasZ
      rw [List.any_eq_true]
      rintro ⟨p, hp, e⟩
      rw [(h.2.2 p hp).1] at e
      cases e
theorem leither_one {t : T} (h : t.isO = false) : leither [t] = t := by
  cases t with
  | o => cases h
  | z => simp [leither, flatO, addU, addU1, T.isZ, wrap]
  | _ => simp [leither, flatO, addU, addU1, T.isZ, wrap]
theorem leither_o {ps : List T} (h : SF (.o ps)) : leither ps = .o ps := by
  unfold SF at h
  unfold leither
  rw [flatO_id fun p hp => (h.2.2.2 p hp).2, addU_id (by simpa using h.2.2.1) fun p hp => (h.2.2.2 p hp).1]
  match ps, h.1 with
  | a :: b :: r, _ => rfl
theorem lfin_seq {t : T} (h : SF t) (ho : t.isO = false) : lfin ([], (seqOf t).reverse) = t := by
  unfold lfin
  simp only [List.reverse_reverse, lthen_seq h, List.reverse_cons, List.reverse_nil, List.nil_append]
  exact leither_one ho

section
variable {G : T → Bool} {L D : Nat}
/-- from here t is read up to its end -/
def RA (G : T → Bool) (L : Nat) (t : T) : Prop := ∀ (w : W) (al sq : List T) (r : Stk) (k : Nat), w ≠ .mark → r.length + depth t ≤ L + 1 → ∃ w2, w2 ≠ .need ∧ w2 ≠ .mark ∧ (t.isN = false → t.isM = false → w2 ≠ .star) ∧ Go G L (text t) ⟨w, (al, sq) :: r, k⟩ ⟨w2, (al, (seqOf t).reverse ++ sq) :: r, k + size t⟩
def RB (G : T → Bool) (L : Nat) (t : T) : Prop := ∀ (w : W) (al sq : List T) (r : Stk) (k : Nat), w ≠ .mark → r.length + depth t ≤ L → Go G L (40 :: text t ++ [41]) ⟨w, (al, sq) :: r, k⟩ ⟨.base, (al, t :: sq) :: r, k + size t⟩
/-- the alternatives of a level -/
def RO (G : T → Bool) (L : Nat) (ps : List T) : Prop := ∀ (w : W) (al : List T) (r : Stk) (k : Nat), w ≠ .mark → (∀ p ∈ ps, r.length + depth p ≤ L + 1) → ∃ w2 al2 sq2, w2 ≠ .need ∧ w2 ≠ .mark ∧ lthen sq2.reverse :: al2 = ps.reverse ++ al ∧ sq2 ≠ [] ∧
  Go G L (joinL [32, 124, 32] (ps.map text)) ⟨w, (al, []) :: r, k⟩ ⟨w2, (al2, sq2) :: r, k + sizes ps⟩
theorem go_open {w : W} {al sq : List T} {r : Stk} {k : Nat} (hw : w ≠ .mark) (hr : r.length < L) : Go G L [40] ⟨w, (al, sq) :: r, k⟩ ⟨.need, ([], []) :: (al, sq) :: r, k⟩ := Go.one (by simp [lst, lstep, hw, hr])
theorem go_space {w : W} {al sq : List T} {r : Stk} {k : Nat} (hw : w ≠ .mark) : Go G L [32] ⟨w, (al, sq) :: r, k⟩ ⟨if w = .letter then .base else w, (al, sq) :: r, k⟩ := Go.one (by simp [lst, lstep, hw])
theorem go_bar {w : W} {al sq : List T} {r : Stk} {k : Nat} (hw : w ≠ .mark) (hn : w ≠ .need) (hG : G (lthen sq.reverse) = true) : Go G L [124] ⟨w, (al, sq) :: r, k⟩ ⟨.need, (lthen sq.reverse :: al, []) :: r, k⟩ := Go.one (by simp [lst, lstep, hw, hn, hG])
theorem go_close {w : W} {al sq al2 sq2 : List T} {r : Stk} {k : Nat} (hw : w ≠ .mark) (hn : w ≠ .need) (h1 : G (lthen sq.reverse) = true) (h2 : G (leither (lthen sq.reverse :: al).reverse) = true) :
    Go G L [41] ⟨w, (al, sq) :: (al2, sq2) :: r, k⟩ ⟨.base, (al2, leither (lthen sq.reverse :: al).reverse :: sq2) :: r, k⟩ := Go.one (by
  simp only [lst, lstep]
  simp only [hw, hn, h1, h2, if_false, if_true, Nat.reduceEqDiff, false_and, true_and, ne_eq, not_false_eq_true, reduceCtorEq, Bool.and_self])
theorem go_star {w : W} {al sq : List T} {x : T} {r : Stk} {k : Nat} (hw : w ≠ .mark) (hn : w ≠ .need) (hs : w ≠ .star) (hG : G (lagain x) = true) : Go G L [42] ⟨w, (al, x :: sq) :: r, k⟩ ⟨.star, (al, lagain x :: sq) :: r, k⟩ := Go.one (by simp [lst, lstep, hw, hn, hs, hG])
theorem sp_ne {w : W} (h1 : w ≠ .need) (h2 : w ≠ .mark) : (if w = .letter then W.base else w) ≠ .need ∧ (if w = .letter then W.base else w) ≠ .mark := by
  by_cases h : w = .letter
  · rw [if_pos h]; simp
  · rw [if_neg h]; exact ⟨h1, h2⟩
theorem sp_mark {w : W} (h2 : w ≠ .mark) : (if w = .letter then W.base else w) ≠ .mark := by
  by_cases h : w = .letter
  · rw [if_pos h]; simp
  · rw [if_neg h]; exact h2
theorem rb_of_ra {t : T} (hs : SF t) (ho : t.isO = false) (hG : ∀ u, depth u ≤ D → G u = true) (hd : depth t ≤ D) (h : RA G L t) : RB G L t := by
  intro w al sq r k hw hr
  have := depth_pos t
  obtain ⟨w2, h1, h2, _, h4⟩ := h .need [] [] ((al, sq) :: r) k (by simp) (by simp only [List.length_cons]; omega)
  have a := go_open (G := G) (al := al) (sq := sq) (k := k) hw (show r.length < L by omega)
  have e : lthen ((seqOf t).reverse ++ ([] : List T)).reverse = t := by simp [lthen_seq hs]
  have c := go_close (G := G) (L := L) (w := w2) (al := []) (sq := (seqOf t).reverse ++ []) (al2 := al) (sq2 := sq) (r := r) (k := k + size t) h2 h1 (by rw [e]; exact hG t hd) (by rw [e]; simp only [List.reverse_cons, List.reverse_nil, List.nil_append]; rw [leither_one ho]; exact hG t hd)
  rw [e] at c
  have e2 : leither [t].reverse = t := by simpa using leither_one ho
  rw [e2] at c
  exact (a.app h4).app c
theorem rb_o {ps : List T} (hs : SF (.o ps)) (hG : ∀ u, depth u ≤ D → G u = true) (hd : depth (.o ps) ≤ D) (h : RO G L ps) : RB G L (.o ps) := by
  intro w al sq r k hw hr
  have := depth_pos (.o ps)
  obtain ⟨w2, al2, sq2, h1, h2, h3, _, h4⟩ := h .need [] ((al, sq) :: r) k (by simp) (fun p hp => by have := depth_partO hp; simp only [List.length_cons]; omega)
  have a := go_open (G := G) (al := al) (sq := sq) (k := k) hw (show r.length < L by omega)
  rw [List.append_nil] at h3
  have e : leither (lthen sq2.reverse :: al2).reverse = .o ps := by rw [h3, List.reverse_reverse, leither_o hs]
  have hm : lthen sq2.reverse ∈ ps := by
    have : lthen sq2.reverse ∈ ps.reverse := by rw [← h3]; simp
    simpa using this
  have hdm := depth_partO hm
  have c := go_close (G := G) (L := L) (w := w2) (al := al2) (sq := sq2) (al2 := al) (sq2 := sq) (r := r) (k := k + sizes ps) h2 h1 (hG _ (by omega)) (by rw [e]; exact hG _ hd)
  rw [e] at c
  have ht : text (.o ps) = joinL [32, 124, 32] (ps.map text) := by simp only [text]; rw [textsO_map]
  rw [ht, show size (.o ps) = sizes ps by simp only [size]]
  exact (a.app h4).app c
/-- a part of a sequence -/
def RP (G : T → Bool) (L : Nat) (t : T) : Prop := ∀ (w : W) (al sq : List T) (r : Stk) (k : Nat), w ≠ .mark → r.length + depth t ≤ L → ∃ w2, w2 ≠ .need ∧ w2 ≠ .mark ∧ Go G L (brk t.isO (text t)) ⟨w, (al, sq) :: r, k⟩ ⟨w2, (al, t :: sq) :: r, k + size t⟩
theorem rp_of {t : T} (hn : t.isN = false) (ha : t.isO = false → RA G L t) (hb : t.isO = true → RB G L t) : RP G L t := by
  intro w al sq r k hw hr
  cases ho : t.isO with
  | true =>
    have h := hb ho w al sq r k hw hr
    exact ⟨.base, by simp, by simp, by simpa [brk] using h⟩
  | false =>
    obtain ⟨w2, h1, h2, _, h4⟩ := ha ho w al sq r k hw (by omega)
    have : seqOf t = [t] := by cases t <;> first | rfl | cases hn
    rw [this] at h4
    exact ⟨w2, h1, h2, by simpa [brk] using h4⟩
theorem go_parts : ∀ {ps : List T}, ps ≠ [] → (∀ p ∈ ps, RP G L p) → ∀ (w : W) (al sq : List T) (r : Stk) (k : Nat), w ≠ .mark → (∀ p ∈ ps, r.length + depth p ≤ L) →
    ∃ w2, w2 ≠ .need ∧ w2 ≠ .mark ∧ Go G L (joinL [32] (ps.map fun p => brk p.isO (text p))) ⟨w, (al, sq) :: r, k⟩ ⟨w2, (al, ps.reverse ++ sq) :: r, k + sizes ps⟩
  | [], h, _, _, _, _, _, _, _, _ => absurd rfl h
  | [p], _, hp, w, al, sq, r, k, hw, hr => by
    obtain ⟨w2, h1, h2, h3⟩ := hp p (by simp) w al sq r k hw (hr p (by simp))
    exact ⟨w2, h1, h2, by simpa [joinL, sizes] using h3⟩
  | p :: q :: t, _, hp, w, al, sq, r, k, hw, hr => by
    obtain ⟨w1, a1, a2, a3⟩ := hp p (by simp) w al sq r k hw (hr p (by simp))
    obtain ⟨w2, b1, b2, b3⟩ := go_parts (ps := q :: t) (by simp) (fun x hx => hp x (List.mem_cons_of_mem _ hx)) (if w1 = .letter then .base else w1) al (p :: sq) r (k + size p) (sp_mark a2) (fun x hx => hr x (List.mem_cons_of_mem _ hx))
    refine ⟨w2, b1, b2, ?_⟩
    have := (a3.app (go_space (G := G) (L := L) (al := al) (sq := p :: sq) (r := r) (k := k + size p) a2)).app b3
    rw [show k + sizes (p :: q :: t) = k + size p + sizes (q :: t) by simp only [sizes]; omega]
    simpa [joinL] using this
theorem go_alts : ∀ {ps : List T}, ps ≠ [] → (∀ p ∈ ps, RA G L p ∧ SF p ∧ G p = true) → RO G L ps
  | [], h, _ => absurd rfl h
  | [p], _, hp => by
    intro w al r k hw hr
    obtain ⟨w2, h1, h2, _, h4⟩ := (hp p (by simp)).1 w al [] r k hw (hr p (by simp))
    refine ⟨w2, al, _, h1, h2, ?_, ?_, by simpa [joinL, sizes] using h4⟩
    · simp [lthen_seq (hp p (by simp)).2.1]
    · have := (hp p (by simp)).2.1
      cases p with
      | n qs =>
        unfold SF at this
        intro e
        have e : qs.reverse = [] := by simpa [seqOf] using e
        rw [List.reverse_eq_nil_iff] at e
        rw [e] at this
        simp at this
      | _ => simp [seqOf]
  | p :: q :: t, _, hp => by
    intro w al r k hw hr
    obtain ⟨w1, a1, a2, _, a3⟩ := (hp p (by simp)).1 w al [] r k hw (hr p (by simp))
    obtain ⟨b1, b2⟩ := sp_ne a1 a2
    have e : lthen ((seqOf p).reverse ++ ([] : List T)).reverse = p := by simp [lthen_seq (hp p (by simp)).2.1]
    have s1 := go_space (G := G) (L := L) (al := al) (sq := (seqOf p).reverse ++ []) (r := r) (k := k + size p) a2
    have s2 := go_bar (G := G) (L := L) (al := al) (sq := (seqOf p).reverse ++ []) (r := r) (k := k + size p) b2 b1 (by rw [e]; exact (hp p (by simp)).2.2)
    rw [e] at s2
    have s3 := go_space (G := G) (L := L) (w := .need) (al := p :: al) (sq := []) (r := r) (k := k + size p) (by simp)
    obtain ⟨w2, al2, sq2, c1, c2, c3, c4, c5⟩ := go_alts (ps := q :: t) (by simp) (fun x hx => hp x (List.mem_cons_of_mem _ hx)) .need (p :: al) r (k + size p) (by simp) (fun x hx => hr x (List.mem_cons_of_mem _ hx))
    refine ⟨w2, al2, sq2, c1, c2, by rw [c3]; simp, c4, ?_⟩
    rw [show k + sizes (p :: q :: t) = k + size p + sizes (q :: t) by simp only [sizes]; omega]
    have := (((a3.app s1).app s2).app s3).app c5
    simpa [joinL] using this
/-- all at once -/
theorem rt_all (hG : ∀ u, depth u ≤ D → G u = true) : ∀ (d : Nat) (t : T), SF t → depth t ≤ d → depth t ≤ D → (t.isO = false → RA G L t) ∧ RB G L t := by
  intro d
  induction d with
  | zero => intro t _ h; have := depth_pos t; omega
  | succ d ih =>
    intro t hs hd hD
    have part : ∀ p : T, SF p → depth p < depth t → p.isN = false → RP G L p := fun p hp hl hn => rp_of hn (fun ho => (ih p hp (by omega) (by omega)).1 ho) fun _ => (ih p hp (by omega) (by omega)).2
    have ra : t.isO = false → RA G L t := by
      intro ho w al sq r k hw hr
      cases t with
      | o => cases ho
      | z =>
        have hL : isL 48 = false := by decide
        exact ⟨.base, by simp, by simp, by simp, by simpa [text, seqOf, size] using Go.one (G := G) (L := L) (s := ⟨w, (al, sq) :: r, k⟩) (s2 := ⟨.base, (al, .z :: sq) :: r, k⟩) (by simp [lst, lstep, hw, hL])⟩
      | s =>
        have hL : isL 49 = false := by decide
        exact ⟨.base, by simp, by simp, by simp, by simpa [text, seqOf, size] using Go.one (G := G) (L := L) (s := ⟨w, (al, sq) :: r, k⟩) (s2 := ⟨.base, (al, .s :: sq) :: r, k⟩) (by simp [lst, lstep, hw, hL])⟩
      | i v =>
        unfold SF at hs
        match v, hs with
        | [c], hs =>
          have hs : isL c = true := hs
          have nn := isL_ne hs
          exact ⟨.letter, by simp, by simp, by simp, by simpa [text, seqOf, size] using Go.one (G := G) (L := L) (s := ⟨w, (al, sq) :: r, k⟩) (s2 := ⟨.letter, (al, .i [c] :: sq) :: r, k + 1⟩) (by simp [lst, lstep, hw, hs, nn])⟩
        | [c, d], hs =>
          have hs : ((isL c && d == 39) || (c == 63 && isK d)) = true := hs
          refine ⟨.base, by simp, by simp, by simp, ?_⟩
          rcases Bool.or_eq_true_iff.mp hs with h | h
          · rw [Bool.and_eq_true] at h
            have h2 : d = 39 := by simpa using h.2
            subst h2
            have nn := isL_ne h.1
            have a := Go.one (G := G) (L := L) (s := ⟨w, (al, sq) :: r, k⟩) (s2 := ⟨.letter, (al, .i [c] :: sq) :: r, k + 1⟩) (c := c) (by simp [lst, lstep, hw, h.1, nn])
            have b := Go.one (G := G) (L := L) (s := ⟨.letter, (al, .i [c] :: sq) :: r, k + 1⟩) (s2 := ⟨.base, (al, .i [c, 39] :: sq) :: r, k + 1⟩) (c := 39) (by simp [lst, lstep])
            simpa [text, seqOf, size] using a.app b
          · rw [Bool.and_eq_true] at h
            have h2 : c = 63 := by simpa using h.1
            subst h2
            have hL : isL 63 = false := by decide
            have a := Go.one (G := G) (L := L) (s := ⟨w, (al, sq) :: r, k⟩) (s2 := ⟨.mark, (al, sq) :: r, k⟩) (c := 63) (by simp [lst, lstep, hw, hL])
            have b := Go.one (G := G) (L := L) (s := ⟨.mark, (al, sq) :: r, k⟩) (s2 := ⟨.base, (al, .i [63, d] :: sq) :: r, k + 1⟩) (c := d) (by simp [lst, lstep, h.2])
            simpa [text, seqOf, size] using a.app b
      | n ps =>
        unfold SF at hs
        have hps := (SFs_iff ps).mp hs.2.1
        obtain ⟨w2, h1, h2, h3⟩ := go_parts (G := G) (L := L) (ps := ps) (fun e => by rw [e] at hs; simp at hs) (fun p hp => part p (hps p hp) (depth_part hp) (hs.2.2 p hp).2.2) w al sq r k hw (fun p hp => by have := depth_part hp; omega)
        exact ⟨w2, h1, h2, fun e => (by cases e), by simpa [text, seqOf, textsN_map, size] using h3⟩
      | m b =>
        unfold SF at hs
        have hb : depth b < depth (.m b) := by simp only [depth]; omega
        have hl : lagain b = .m b := by
          cases b with
          | z => exact absurd hs.2.1 (by simp [T.isZ])
          | s => exact absurd hs.2.2.1 (by simp [T.isS])
          | m => exact absurd hs.2.2.2 (by simp [T.isM])
          | _ => rfl
        have hg : G (lagain b) = true := by rw [hl]; exact hG _ hD
        cases hno : (b.isN || b.isO) with
        | true =>
          have h := (ih b hs.1 (by omega) (by omega)).2 w al sq r k hw (by omega)
          have c := go_star (G := G) (L := L) (w := .base) (al := al) (sq := sq) (x := b) (r := r) (k := k + size b) (by simp) (by simp) (by simp) hg
          rw [hl] at c
          refine ⟨.star, by simp, by simp, by simp [T.isM], ?_⟩
          simpa [text, seqOf, hno, brk, size] using h.app c
        | false =>
          rw [Bool.or_eq_false_iff] at hno
          obtain ⟨w2, h1, h2, h3, h4⟩ := (ih b hs.1 (by omega) (by omega)).1 hno.2 w al sq r k hw (by omega)
          have hsq : seqOf b = [b] := by cases b <;> first | rfl | exact absurd hno.1 (by simp [T.isN])
          rw [hsq] at h4
          have c := go_star (G := G) (L := L) (w := w2) (al := al) (sq := sq) (x := b) (r := r) (k := k + size b) h2 h1 (h3 hno.1 hs.2.2.2) hg
          rw [hl] at c
          refine ⟨.star, by simp, by simp, by simp [T.isM], ?_⟩
          simpa [text, seqOf, hno.1, hno.2, brk, size] using h4.app c
    refine ⟨ra, ?_⟩
    cases ho : t.isO with
    | false => exact rb_of_ra hs ho hG hD (ra ho)
    | true =>
      cases t with
      | o ps =>
        have hs2 := hs
        unfold SF at hs
        have hps := (SFs_iff ps).mp hs.2.1
        refine rb_o hs2 hG hD (go_alts (fun e => by rw [e] at hs; simp at hs) fun p hp => ?_)
        have := depth_partO hp
        exact ⟨(ih p (hps p hp) (by omega) (by omega)).1 (hs.2.2.2 p hp).2, hps p hp, hG p (by omega)⟩
      | _ => cases ho
/-- the whole text of a short form -/
theorem rt_text (hG : ∀ u, depth u ≤ D → G u = true) {t : T} (hs : SF t) (hd : depth t ≤ D) (hL : depth t ≤ L + 1) :
    ∃ w al sq, w ≠ .need ∧ w ≠ .mark ∧ sq ≠ [] ∧ lfin (al, sq) = t ∧ (∀ x ∈ lthen sq.reverse :: al, depth x ≤ depth t) ∧ Go G L (text t) ⟨.need, [([], [])], 0⟩ ⟨w, [(al, sq)], size t⟩ := by
  cases ho : t.isO with
  | false =>
    obtain ⟨w, h1, h2, _, h3⟩ := (rt_all (L := L) hG _ t hs (Nat.le_refl _) hd).1 ho .need [] [] [] 0 (by simp) (by simpa using hL)
    rw [List.append_nil, Nat.zero_add] at h3
    refine ⟨w, [], _, h1, h2, ?_, lfin_seq hs ho, fun x hx => by rw [List.reverse_reverse, lthen_seq hs, List.mem_singleton] at hx; rw [hx]; exact Nat.le_refl _, h3⟩
    cases t with
    | n qs =>
      unfold SF at hs
      intro e
      have e : qs.reverse = [] := e
      rw [List.reverse_eq_nil_iff] at e
      rw [e] at hs
      simp at hs
    | _ => simp [seqOf]
  | true =>
    cases t with
    | o ps =>
      have hs2 := hs
      unfold SF at hs
      have hps := (SFs_iff ps).mp hs.2.1
      obtain ⟨w, al, sq, h1, h2, h3, h4, h5⟩ := go_alts (G := G) (L := L) (ps := ps) (fun e => by rw [e] at hs; simp at hs) (fun p hp => by
        have := depth_partO hp
        exact ⟨(rt_all (L := L) hG _ p (hps p hp) (Nat.le_refl _) (by omega)).1 (hs.2.2.2 p hp).2, hps p hp, hG p (by omega)⟩) .need [] [] 0 (by simp) (fun p hp => by have := depth_partO hp; simp only [List.length_nil]; omega)
      rw [List.append_nil] at h3
      refine ⟨w, al, sq, h1, h2, h4, ?_, fun x hx => ?_, by simpa [text, textsO_map, size] using h5⟩
      unfold lfin
      show leither (lthen sq.reverse :: al).reverse = _
      rw [h3, List.reverse_reverse, leither_o hs2]
      rw [h3, List.mem_reverse] at hx
      exact Nat.le_of_lt (depth_partO hx)
    | _ => cases ho
/-- texts tell short forms apart -/
theorem text_inj {t u : T} (ht : SF t) (hu : SF u) (h : text t = text u) : t = u := by
  obtain ⟨w1, al1, sq1, _, _, _, a1, _, b1⟩ := rt_text (G := yes) (L := max (depth t) (depth u)) (D := depth t) (fun _ _ => rfl) ht (Nat.le_refl _) (by omega)
  obtain ⟨w2, al2, sq2, _, _, _, a2, _, b2⟩ := rt_text (G := yes) (L := max (depth t) (depth u)) (D := depth u) (fun _ _ => rfl) hu (Nat.le_refl _) (by omega)
  rw [← h] at b2
  have e := Go.det b1 b2
  rw [RS.mk.injEq] at e
  have e2 := e.2.1
  rw [List.cons.injEq] at e2
  rw [← a1, ← a2, e2.1]
end
end K02
namespace K02
theorem g40_of {t : T} {d : Nat} (h : depth t ≤ d) (hd : d ≤ 40) : g40 t = true := decide_eq_true (Nat.le_trans h hd)
def FlatOk (stk : Stk) : Prop := ∃ al sq, stk = [(al, sq)] ∧ (∀ t ∈ al, depth t ≤ 3) ∧ ∀ t ∈ sq, depth t ≤ 1 ∨ (t.isM = true ∧ depth t ≤ 2)
theorem again_flat {x : T} (h : depth x ≤ 1 ∨ (x.isM = true ∧ depth x ≤ 2)) : depth (lagain x) ≤ 1 ∨ ((lagain x).isM = true ∧ depth (lagain x) ≤ 2) := by
  have hl := depth_lagain x
  cases x with
  | z => left; simp [lagain, depth]
  | s => left; simp [lagain, depth]
  | m b => exact h
  | i w => right; exact ⟨rfl, by rcases h with h | h; omega; cases h.1⟩
  | n w => right; exact ⟨rfl, by rcases h with h | h; omega; cases h.1⟩
  | o w => right; exact ⟨rfl, by rcases h with h | h; omega; cases h.1⟩
theorem flat_two {x : T} (h : depth x ≤ 1 ∨ (x.isM = true ∧ depth x ≤ 2)) : depth x ≤ 2 := by omega
theorem tstep_flat {g : List Nat} {stk stk2 : Stk} (hv : valid g = true) (h40 : g ≠ [40]) (hs : FlatOk stk) (h : tstep yes stk g = some stk2) : tstep g40 stk g = some stk2 ∧ FlatOk stk2 := by
  obtain ⟨al, sq, rfl, hal, hsq⟩ := hs
  unfold tstep at h ⊢
  dsimp only at h ⊢
  rw [if_neg h40] at h ⊢
  have cons : ∀ {t : T}, depth t ≤ 1 → ∀ x ∈ t :: sq, depth x ≤ 1 ∨ (x.isM = true ∧ depth x ≤ 2) := fun h1 x hx => by
    rcases List.mem_cons.mp hx with e | e
    · rw [e]; exact .inl h1
    · exact hsq x e
  by_cases c2 : g = [124]
  · rw [if_pos c2] at h ⊢
    by_cases cq : sq = []
    · rw [if_pos cq] at h; cases h
    · rw [if_neg cq] at h ⊢
      rw [if_pos (show yes _ = true from rfl)] at h
      have hl : depth (lthen sq.reverse) ≤ 3 := depth_lthen fun p hp => flat_two (hsq p (by simpa using hp))
      rw [if_pos (g40_of hl (by decide))]
      have := Option.some.inj h
      subst this
      refine ⟨rfl, _, _, rfl, fun t ht => ?_, by simp⟩
      rcases List.mem_cons.mp ht with e | e
      · rw [e]; exact hl
      · exact hal t e
  rw [if_neg c2] at h ⊢
  by_cases c3 : g = [42]
  · rw [if_pos c3] at h ⊢
    cases sq with
    | nil => cases h
    | cons x q =>
      dsimp only at h ⊢
      rw [if_pos (show yes _ = true from rfl)] at h
      have hx := again_flat (hsq x (by simp))
      rw [if_pos (g40_of (flat_two hx) (by decide))]
      have := Option.some.inj h
      subst this
      refine ⟨rfl, _, _, rfl, hal, fun t ht => ?_⟩
      rcases List.mem_cons.mp ht with e | e
      · rw [e]; exact hx
      · exact hsq t (List.mem_cons_of_mem _ e)
  rw [if_neg c3] at h ⊢
  by_cases c4 : g = [41]
  · rw [if_pos c4] at h; cases h
  rw [if_neg c4] at h ⊢
  by_cases c5 : g = [48]
  · rw [if_pos c5] at h ⊢
    have := Option.some.inj h
    subst this
    exact ⟨rfl, _, _, rfl, hal, cons (by simp [depth])⟩
  rw [if_neg c5] at h ⊢
  by_cases c6 : g = [49]
  · rw [if_pos c6] at h ⊢
    have := Option.some.inj h
    subst this
    exact ⟨rfl, _, _, rfl, hal, cons (by simp [depth])⟩
  rw [if_neg c6] at h ⊢
  have := Option.some.inj h
  subst this
  exact ⟨rfl, _, _, rfl, hal, cons (by simp [depth])⟩
theorem trun_flat : ∀ {S : List (List Nat)} {stk stk2 : Stk}, (∀ g ∈ S, valid g = true ∧ g ≠ [40]) → FlatOk stk → trun yes stk S = some stk2 → trun g40 stk S = some stk2 ∧ FlatOk stk2
  | [], stk, stk2, _, hs, h => by
    have := Option.some.inj (show some stk = some stk2 from h)
    subst this
    exact ⟨rfl, hs⟩
  | g :: S, stk, stk2, hv, hs, h => by
    have h : (tstep yes stk g).bind (fun s => trun yes s S) = some stk2 := h
    cases e : tstep yes stk g with
    | none => rw [e] at h; cases h
    | some s1 =>
      rw [e] at h
      obtain ⟨h1, h2⟩ := tstep_flat (hv g (by simp)).1 (hv g (by simp)).2 hs e
      obtain ⟨h4, h5⟩ := trun_flat (fun x hx => hv x (List.mem_cons_of_mem _ hx)) h2 (show trun yes s1 S = some stk2 from h)
      refine ⟨?_, h5⟩
      show (tstep g40 stk g).bind _ = _
      rw [h1]
      exact h4
theorem build_flat {S : List (List Nat)} {al sq : List T} (hv : ∀ g ∈ S, valid g = true ∧ g ≠ [40]) (h : trun yes [([], [])] S = some [(al, sq)]) : gbuild g40 S = some (lfin (al, sq)) ∧ depth (lfin (al, sq)) ≤ 4 := by
  obtain ⟨h1, al2, sq2, e, h2, h3⟩ := trun_flat hv (⟨[], [], rfl, by simp, by simp⟩ : FlatOk [([], [])]) h
  rw [List.cons.injEq, Prod.mk.injEq] at e
  obtain ⟨⟨rfl, rfl⟩, _⟩ := e
  have hl : depth (lthen sq.reverse) ≤ 3 := depth_lthen fun p hp => flat_two (h3 p (by simpa using hp))
  have hf : depth (lfin (al, sq)) ≤ 4 := depth_leither fun p hp => by
    rw [List.mem_reverse] at hp
    rcases List.mem_cons.mp hp with e | e
    · rw [e]; exact hl
    · exact h2 p e
  exact ⟨gbuild_of h1 (g40_of hl (by decide)) (g40_of hf (by decide)), hf⟩
theorem scan_mem : ∀ (n : Nat) (cs : List Nat), cs.length ≤ n → ∀ (b : List Nat) (d p : Nat) (S : List (List Nat)), scan cs b d p = .ok S → ∀ g ∈ S, ∀ c ∈ g, c ∈ cs
  | _, [], _, b, d, p, S, h => by
    rw [scan_nil] at h
    split at h
    · cases h
    · cases h; intro g hg; cases hg
  | 0, c :: r, hn, _, _, _, _, _ => by simp at hn
  | n + 1, c :: r, hn, b, d, p, S, h => by
    rw [scan_cons] at h
    have hr : r.length ≤ n := by simp only [List.length_cons] at hn; omega
    by_cases c1 : c = 32
    · rw [if_pos c1] at h
      intro g hg x hx
      exact List.mem_cons_of_mem _ (scan_mem n r hr _ _ _ _ h g hg x hx)
    · rw [if_neg c1] at h
      cases e : signAt (c :: r) with
      | none => rw [e] at h; cases h
      | some g =>
        rw [e] at h
        dsimp only at h
        split at h
        · cases e2 : scan (r.drop (g.length - 1)) g (dnext g d) (p + g.length) with
          | error q => rw [e2] at h; cases h
          | ok S2 =>
            rw [e2] at h
            have h : Except.ok (g :: S2) = Except.ok S := h
            cases h
            have ih := scan_mem n _ (by rw [List.length_drop]; omega) _ _ _ _ e2
            intro y hy x hx
            rcases List.mem_cons.mp hy with hy | hy
            · obtain ⟨t, ht, _⟩ := signAt_len e
              rw [ht, ← hy]
              exact List.mem_append_left _ hx
            · exact List.mem_cons_of_mem _ (List.mem_of_mem_drop (ih y hy x hx))
        · cases h

def Wg : List Lv → Nat
  | [] => 0
  | l :: r => (l.1.map wts).sum + wts l.2 + Wg r
def Zg : List Lv → Nat
  | [] => 0
  | l :: r => (l.1.map sizes).sum + sizes l.2 + Zg r
structure Good (st : List Lv) (B M : Nat) : Prop where
  tr : ∀ l ∈ st, (∀ row ∈ l.1, row ≠ [] ∧ ∀ t ∈ row, SF t ∧ depth t ≤ 40) ∧ ∀ t ∈ l.2, SF t ∧ depth t ≤ 40
  wt : Wg st ≤ B
  sz : Zg st ≤ M
theorem items_cons (g : List Nat) (S : List (List Nat)) : items (g :: S) = items [g] + items S := by
  unfold items
  cases h : isI g <;> simp [List.filter, h] <;> omega
theorem wts_rows : ∀ (rows : List (List T)), (∀ row ∈ rows, row ≠ [] ∧ ∀ t ∈ row, SF t) → wts (rows.map lthen) ≤ (rows.map wts).sum
  | [], _ => by simp [wts]
  | r :: rs, h => by
    have h1 := wt_lthen (h r (by simp)).2 (h r (by simp)).1
    have h2 := wts_rows rs fun x hx => h x (List.mem_cons_of_mem _ hx)
    simp only [List.map_cons, wts, List.sum_cons]
    omega
theorem sizes_rows : ∀ (rows : List (List T)), sizes (rows.map lthen) ≤ (rows.map sizes).sum
  | [] => by simp [sizes]
  | r :: rs => by
    have h1 := size_lthen r
    have h2 := sizes_rows rs
    simp only [List.map_cons, sizes, List.sum_cons]
    omega
theorem sizes_rev (l : List T) : sizes l.reverse = sizes l := by rw [sizes_sum, sizes_sum, List.map_reverse, List.sum_reverse]
theorem rowsOf_wts (l : Lv) : ((rowsOf l).map wts).sum = (l.1.map wts).sum + wts l.2 := by
  unfold rowsOf
  rw [List.map_append, List.sum_append, List.map_reverse, List.sum_reverse]
  simp [wts_rev]
theorem rowsOf_sizes (l : Lv) : ((rowsOf l).map sizes).sum = (l.1.map sizes).sum + sizes l.2 := by
  unfold rowsOf
  rw [List.map_append, List.sum_append, List.map_reverse, List.sum_reverse]
  simp [sizes_rev]
/-- an alternative that is built of rows -/
theorem galt_good {rows : List (List T)} {t : T} (h : galt g40 rows = some t) (hr : ∀ row ∈ rows, row ≠ [] ∧ ∀ t ∈ row, SF t ∧ depth t ≤ 40) : SF t ∧ depth t ≤ 40 ∧ K02.wt t ≤ (rows.map wts).sum ∧ size t ≤ (rows.map sizes).sum := by
  unfold galt at h
  split at h
  · rename_i c
    rw [Bool.and_eq_true] at c
    have e := Option.some.inj h
    rw [← e]
    have hr2 : ∀ row ∈ rows, row ≠ [] ∧ ∀ t ∈ row, SF t := fun row hrow => ⟨(hr row hrow).1, fun t ht => ((hr row hrow).2 t ht).1⟩
    refine ⟨SF_leither fun p hp => ?_, of_decide_eq_true c.2, Nat.le_trans (wt_leither _) (wts_rows rows hr2), Nat.le_trans (size_leither _) (sizes_rows rows)⟩
    obtain ⟨row, hrow, rfl⟩ := List.mem_map.mp hp
    exact SF_lthen (hr2 row hrow).2
  · cases h
theorem gstep_good {st st2 : List Lv} {g : List Nat} {B M : Nat} {stk2 : Stk} (hv : valid g = true) (h : gstep g40 st g = some st2) (ht : tstep yes (lows st) g = some stk2) (hg : Good st B M) : Good st2 (B + cnt [g]) (M + items [g]) := by
  cases st with
  | nil => cases h
  | cons x r =>
    obtain ⟨rs, sq⟩ := x
    have hrs : ∀ row ∈ rs, row ≠ [] ∧ ∀ t ∈ row, SF t ∧ depth t ≤ 40 := (hg.tr (rs, sq) (by simp)).1
    have hsq : ∀ t ∈ sq, SF t ∧ depth t ≤ 40 := (hg.tr (rs, sq) (by simp)).2
    have hr : ∀ l ∈ r, (∀ row ∈ l.1, row ≠ [] ∧ ∀ t ∈ row, SF t ∧ depth t ≤ 40) ∧ ∀ t ∈ l.2, SF t ∧ depth t ≤ 40 := fun l hl => hg.tr l (List.mem_cons_of_mem _ hl)
    have hw : (rs.map wts).sum + wts sq + Wg r ≤ B := hg.wt
    have hz : (rs.map sizes).sum + sizes sq + Zg r ≤ M := hg.sz
    have push : ∀ {l : Lv} {r : List Lv}, (∀ row ∈ l.1, row ≠ [] ∧ ∀ t ∈ row, SF t ∧ depth t ≤ 40) → (∀ t ∈ l.2, SF t ∧ depth t ≤ 40) → (∀ l ∈ r, (∀ row ∈ l.1, row ≠ [] ∧ ∀ t ∈ row, SF t ∧ depth t ≤ 40) ∧ ∀ t ∈ l.2, SF t ∧ depth t ≤ 40) →
        ∀ z ∈ l :: r, (∀ row ∈ z.1, row ≠ [] ∧ ∀ t ∈ row, SF t ∧ depth t ≤ 40) ∧ ∀ t ∈ z.2, SF t ∧ depth t ≤ 40 := fun h1 h2 h3 z hz => by
      rcases List.mem_cons.mp hz with e | e
      · rw [e]; exact ⟨h1, h2⟩
      · exact h3 z e
    have cons : ∀ {t : T} {l : List T}, (SF t ∧ depth t ≤ 40) → (∀ t ∈ l, SF t ∧ depth t ≤ 40) → ∀ x ∈ t :: l, SF x ∧ depth x ≤ 40 := fun h1 h2 x hx => by
      rcases List.mem_cons.mp hx with e | e
      · rw [e]; exact h1
      · exact h2 x e
    have ht : tstep yes ((rs.map lthen, sq) :: lows r) g = some stk2 := ht
    unfold tstep at ht
    unfold gstep at h
    dsimp only at h ht
    by_cases c1 : g = [40]
    · rw [if_pos c1] at h
      have := Option.some.inj h
      subst this
      exact ⟨push (by simp) (by simp) hg.tr, by simp only [Wg, List.map_nil, List.sum_nil, wts]; omega, by simp only [Zg, List.map_nil, List.sum_nil, sizes]; omega⟩
    rw [if_neg c1] at h ht
    by_cases c2 : g = [124]
    · rw [if_pos c2] at h ht
      by_cases cq : sq = []
      · rw [if_pos cq] at ht; cases ht
      · have := Option.some.inj h
        subst this
        refine ⟨push (fun row hrow => ?_) (by simp) hr, ?_, ?_⟩
        · rcases List.mem_cons.mp hrow with e | e
          · rw [e]; exact ⟨by simpa using cq, fun t ht => hsq t (by simpa using ht)⟩
          · exact hrs row e
        · simp only [Wg, List.map_cons, List.sum_cons, wts, wts_rev]; omega
        · simp only [Zg, List.map_cons, List.sum_cons, sizes, sizes_rev]; omega
    rw [if_neg c2] at h ht
    by_cases c3 : g = [42]
    · rw [if_pos c3] at h
      cases sq with
      | nil => cases h
      | cons x q =>
        dsimp only at h
        split at h
        · rename_i hgd
          have hc : cnt [g] = 1 := by rw [c3]; decide
          have := Option.some.inj h
          subst this
          have h1 := wt_lagain x
          have h2 := size_lagain x
          simp only [wts] at hw
          simp only [sizes] at hz
          exact ⟨push hrs (cons ⟨SF_lagain (hsq x (by simp)).1, of_decide_eq_true hgd⟩ fun t ht => hsq t (List.mem_cons_of_mem _ ht)) hr, by simp only [Wg, wts]; omega, by simp only [Zg, sizes]; omega⟩
        · cases h
    rw [if_neg c3] at h ht
    by_cases c4 : g = [41]
    · rw [if_pos c4] at h ht
      cases r with
      | nil => cases h
      | cons y r2 =>
        obtain ⟨rs2, sq2⟩ := y
        have h : (galt g40 (rowsOf (rs, sq))).map (fun e => (rs2, e :: sq2) :: r2) = some st2 := h
        have ht : (if sq = [] then none else if (yes (lthen sq.reverse) && yes (leither (lthen sq.reverse :: rs.map lthen).reverse)) = true then some ((rs2.map lthen, leither (lthen sq.reverse :: rs.map lthen).reverse :: sq2) :: lows r2) else none) = some stk2 := ht
        by_cases cq : sq = []
        · rw [if_pos cq] at ht; cases ht
        · cases ea : galt g40 (rowsOf (rs, sq)) with
          | none => rw [ea] at h; cases h
          | some t =>
            rw [ea] at h
            have := Option.some.inj h
            subst this
            obtain ⟨a1, a2, a3, a4⟩ := galt_good ea fun row hrow => by
              unfold rowsOf at hrow
              rcases List.mem_append.mp hrow with e | e
              · exact hrs row (by simpa using e)
              · rw [List.mem_singleton] at e; rw [e]; exact ⟨by simpa using cq, fun t ht => hsq t (by simpa using ht)⟩
            rw [rowsOf_wts] at a3
            rw [rowsOf_sizes] at a4
            dsimp only at a3 a4
            have h2 := hr (rs2, sq2) (by simp)
            simp only [Wg] at hw
            simp only [Zg] at hz
            exact ⟨push h2.1 (cons ⟨a1, a2⟩ h2.2) fun l hl => hr l (List.mem_cons_of_mem _ hl), by simp only [Wg, wts]; omega, by simp only [Zg, sizes]; omega⟩
    rw [if_neg c4] at h ht
    by_cases c5 : g = [48]
    · rw [if_pos c5] at h
      have := Option.some.inj h
      subst this
      exact ⟨push hrs (cons ⟨by simp [SF], by simp [depth]⟩ hsq) hr, by simp only [Wg, wts, K02.wt]; omega, by simp only [Zg, sizes, size]; omega⟩
    rw [if_neg c5] at h
    by_cases c6 : g = [49]
    · rw [if_pos c6] at h
      have hc : cnt [g] = 1 := by rw [c6]; decide
      have := Option.some.inj h
      subst this
      exact ⟨push hrs (cons ⟨by simp [SF], by simp [depth]⟩ hsq) hr, by simp only [Wg, wts, K02.wt]; omega, by simp only [Zg, sizes, size]; omega⟩
    rw [if_neg c6] at h
    have hi : isI g = true := by
      unfold valid at hv
      simpa [c1, c2, c3, c4, c5, c6] using hv
    have hc : cnt [g] = 1 := by unfold cnt; simp [hi]
    have hm : items [g] = 1 := by unfold items; simp [hi]
    have := Option.some.inj h
    subst this
    exact ⟨push hrs (cons ⟨by simpa [SF] using hi, by simp [depth]⟩ hsq) hr, by simp only [Wg, wts, K02.wt]; omega, by simp only [Zg, sizes, size]; omega⟩
theorem good0 : Good [([], [])] 0 0 := ⟨fun l hl => by
  rw [List.mem_singleton] at hl
  rw [hl]
  exact ⟨by simp, by simp⟩, by simp [Wg, wts], by simp [Zg, sizes]⟩
theorem grun_good : ∀ {S : List (List Nat)} {st st2 : List Lv} {stk2 : Stk} {B M : Nat}, (∀ g ∈ S, valid g = true) → grun g40 st S = some st2 → trun yes (lows st) S = some stk2 → Good st B M → Good st2 (B + cnt S) (M + items S)
  | [], st, st2, stk2, B, M, _, h, _, hg => by
    have := Option.some.inj (show some st = some st2 from h)
    subst this
    exact hg
  | g :: S, st, st2, stk2, B, M, hv, h, ht, hg => by
    have h : (gstep g40 st g).bind (fun s => grun g40 s S) = some st2 := h
    have ht0 : (tstep yes (lows st) g).bind (fun s => trun yes s S) = some stk2 := ht
    cases e : gstep g40 st g with
    | none => rw [e] at h; cases h
    | some s1 =>
      rw [e] at h
      cases e2 : tstep yes (lows st) g with
      | none => rw [e2] at ht0; cases ht0
      | some s2 =>
        rw [e2] at ht0
        have h1 := gstep_good (hv g (by simp)) e e2 hg
        have e3 : lows s1 = s2 := grun_trun (S := [g]) (G := g40) (st := st) (by show (gstep g40 st g).bind _ = _; rw [e]; rfl) (by show (tstep yes (lows st) g).bind _ = _; rw [e2]; rfl)
        have ht1 : trun yes s2 S = some stk2 := ht0
        rw [← e3] at ht1
        have := grun_good (fun x hx => hv x (List.mem_cons_of_mem _ hx)) (show grun g40 s1 S = some st2 from h) ht1 h1
        rw [cnt_cons, items_cons, ← Nat.add_assoc, ← Nat.add_assoc]
        exact this
end K02
namespace K02
def init : RS := ⟨.need, [([], [])], 0⟩
theorem agree_init (G : T → Bool) (l : List Nat) : Agree G l init 0 (scan l [124] 0 0) :=
  scan_agree G l.length l (Nat.le_refl _) .need [] [] [] 0 [124] 0 ⟨by simp, by simp, by simp⟩ (by simp) (by simp)
theorem scan_ok_lgo {l : List Nat} {S : List (List Nat)} (h : scan l [124] 0 0 = .ok S) : ∃ w al sq, w ≠ W.need ∧ w ≠ W.mark ∧ trun yes [([], [])] S = some [(al, sq)] ∧ sq ≠ [] ∧ lgo yes 60 l init 0 = .inr ⟨w, [(al, sq)], items S⟩ := by
  have a := agree_init yes l
  rw [h] at a
  have a : match trun yes [([], [])] S with
    | some stk => ∃ w, w ≠ W.need ∧ w ≠ W.mark ∧ (∃ al sq, stk = [(al, sq)] ∧ sq ≠ []) ∧ lgo yes 60 l init 0 = .inr ⟨w, stk, 0 + items S⟩
    | none => (∃ t, yes t = false) ∧ ∃ q, lgo yes 60 l init 0 = .inl q := a
  split at a
  · rename_i stk e
    obtain ⟨w, h1, h2, ⟨al, sq, rfl, h3⟩, h4⟩ := a
    rw [Nat.zero_add] at h4
    exact ⟨w, al, sq, h1, h2, e, h3, h4⟩
  · obtain ⟨⟨t, ht⟩, _⟩ := a
    cases ht
theorem scan_error_lgo {l : List Nat} {q : Nat} (h : scan l [124] 0 0 = .error q) : lgo yes 60 l init 0 = .inl q ∨ ∃ s2, lgo yes 60 l init 0 = .inr s2 ∧ bad s2 = true ∧ q = l.length := by
  have a := agree_init yes l
  rw [h] at a
  rcases a (fun _ => rfl) with a | ⟨s2, h1, h2, h3⟩
  · exact .inl a
  · exact .inr ⟨s2, h1, h2, by omega⟩
theorem lgo_scan_ok {l : List Nat} {w : W} {al sq : List T} {k : Nat} (h : lgo yes 60 l init 0 = .inr ⟨w, [(al, sq)], k⟩) (h1 : w ≠ .need) (h2 : w ≠ .mark) : ∃ S, scan l [124] 0 0 = .ok S ∧ trun yes [([], [])] S = some [(al, sq)] ∧ k = items S := by
  cases e : scan l [124] 0 0 with
  | error q =>
    rcases scan_error_lgo e with a | ⟨s2, a, b, _⟩
    · rw [h] at a; cases a
    · rw [h] at a
      have := Sum.inr.inj a
      subst this
      unfold bad at b
      simp [h1, h2] at b
  | ok S =>
    obtain ⟨w2, al2, sq2, _, _, a3, _, a5⟩ := scan_ok_lgo e
    rw [h] at a5
    have := Sum.inr.inj a5
    rw [RS.mk.injEq, List.cons.injEq] at this
    obtain ⟨_, ⟨h4, _⟩, h5⟩ := this
    rw [← h4] at a3
    exact ⟨S, rfl, a3, h5⟩
theorem lgo_guard {l : List Nat} {S : List (List Nat)} {G : T → Bool} {w : W} {stk : Stk} {k : Nat} (hs : scan l [124] 0 0 = .ok S) (h : lgo G 60 l init 0 = .inr ⟨w, stk, k⟩) : trun G [([], [])] S = some stk := by
  have a := agree_init G l
  rw [hs] at a
  have a : match trun G [([], [])] S with
    | some stk => ∃ w, w ≠ W.need ∧ w ≠ W.mark ∧ (∃ al sq, stk = [(al, sq)] ∧ sq ≠ []) ∧ lgo G 60 l init 0 = .inr ⟨w, stk, 0 + items S⟩
    | none => (∃ t, G t = false) ∧ ∃ q, lgo G 60 l init 0 = .inl q := a
  split at a
  · rename_i stk2 e
    obtain ⟨w2, _, _, _, h4⟩ := a
    rw [h] at h4
    have := Sum.inr.inj h4
    rw [RS.mk.injEq] at this
    rw [this.2.1]
    exact e
  · obtain ⟨_, q, hq⟩ := a
    rw [h] at hq
    cases hq
/-- what a text must be to be asked: its tree is flat enough, and it is too deep exactly where that is said -/
def AskOk (l : List Nat) (deep : Bool) : Prop := ∀ S al sq, scan l [124] 0 0 = .ok S → trun yes [([], [])] S = some [(al, sq)] → sq ≠ [] →
  depth (lfin (al, sq)) ≤ 45 ∧ (items S ≤ 2000 → gbuild g40 S = if deep = true then none else some (lfin (al, sq)))
theorem sf0 : SFk [([], [])] := fun l hl => by
  rw [List.mem_singleton] at hl
  rw [hl]
  exact ⟨by simp, by simp⟩
/-- the tree that is read -/
theorem read_sf {S : List (List Nat)} {al sq : List T} (hv : ∀ g ∈ S, valid g = true) (h : trun yes [([], [])] S = some [(al, sq)]) (hq : sq ≠ []) : SF (lfin (al, sq)) ∧ wt (lfin (al, sq)) ≤ cnt S ∧ SF (lthen sq.reverse) ∧ (∀ t ∈ al, SF t) ∧ wts (lthen sq.reverse :: al) ≤ cnt S := by
  obtain ⟨_, h2, h3⟩ := trun_wt (B := cnt S + 1) (by omega) hv sf0 h (by simp only [Wk, wts]; omega)
  have h3 : wts al + wts sq + 0 ≤ 0 + 0 + 0 + cnt S := h3
  have hal : ∀ t ∈ al, SF t := (h2 (al, sq) (by simp)).1
  have hsq : ∀ t ∈ sq, SF t := (h2 (al, sq) (by simp)).2
  have hl := wt_lthen (SFrev hsq) (by simpa using hq)
  rw [wts_rev] at hl
  have hsf := SF_lthen (SFrev hsq)
  have he := wt_leither (lthen sq.reverse :: al).reverse
  rw [wts_rev] at he
  have hsum : wts (lthen sq.reverse :: al) = wt (lthen sq.reverse) + wts al := by simp [wts]
  refine ⟨SF_leither (SFrev fun x hx => ?_), ?_, hsf, hal, by omega⟩
  · rcases List.mem_cons.mp hx with e | e
    · rw [e]; exact hsf
    · exact hal x e
  · show wt (leither (lthen sq.reverse :: al).reverse) ≤ _
    omega
theorem scan_valid {l : List Nat} {S : List (List Nat)} (h : scan l [124] 0 0 = .ok S) : (∀ g ∈ S, valid g = true) ∧ cnt S ≤ cntc l := scan_ok l.length l (Nat.le_refl _) _ _ _ _ h
theorem ask_light {l : List Nat} (h : cntc l ≤ 40) : AskOk l false := by
  intro S al sq h1 h2 h3
  obtain ⟨hv, hc⟩ := scan_valid h1
  obtain ⟨a, b, _⟩ := read_sf hv h2 h3
  have := depth_wt _ a
  exact ⟨by omega, fun _ => build_light hv h2 h3 (by omega)⟩
theorem ask_flat {l : List Nat} (h : 40 ∉ l) : AskOk l false := by
  intro S al sq h1 h2 h3
  obtain ⟨hv, hc⟩ := scan_valid h1
  have hm := scan_mem l.length l (Nat.le_refl _) _ _ _ _ h1
  obtain ⟨a, b⟩ := build_flat (fun g hg => ⟨hv g hg, fun e => h (hm g hg 40 (by rw [e]; simp))⟩) h2
  exact ⟨by omega, fun _ => a⟩
theorem ask_bad {l : List Nat} {q : Nat} {deep : Bool} (h : scan l [124] 0 0 = .error q) : AskOk l deep := by
  intro S al sq h1
  rw [h] at h1
  cases h1
theorem ask_bad_of {l : List Nat} {q : Nat} {deep : Bool} (h : lgo yes 60 l init 0 = .inl q) : AskOk l deep := by
  intro S al sq h1
  obtain ⟨w, al2, sq2, _, _, _, _, a⟩ := scan_ok_lgo h1
  rw [h] at a
  cases a
theorem ask_bad_end {l : List Nat} {s2 : RS} {deep : Bool} (h : lgo yes 60 l init 0 = .inr s2) (hb : bad s2 = true) : AskOk l deep := by
  intro S al sq h1
  obtain ⟨w, al2, sq2, h2, h3, _, _, a⟩ := scan_ok_lgo h1
  rw [h] at a
  have := Sum.inr.inj a
  subst this
  unfold bad at hb
  simp [h2, h3] at hb
/-- what is built holds nothing that is too deep -/
theorem built_depth {S : List (List Nat)} {al sq : List T} {t : T} (hv : ∀ g ∈ S, valid g = true) (h : trun yes [([], [])] S = some [(al, sq)]) (hb : gbuild g40 S = some t) : t = lfin (al, sq) ∧ depth (lfin (al, sq)) ≤ 40 ∧ ∀ x ∈ sq, depth x ≤ 40 := by
  unfold gbuild at hb
  cases e : grun g40 [([], [])] S with
  | none => rw [e] at hb; cases hb
  | some st2 =>
    rw [e] at hb
    have e2 : lows st2 = [(al, sq)] := grun_trun e h
    have hg := grun_good hv e h good0
    match st2, e2, hb, hg with
    | [l], e2, hb, hg =>
      have e3 : low l = (al, sq) := by
        have : [low l] = [(al, sq)] := e2
        simpa using this
      obtain ⟨h1, h2, _⟩ := galt_some (show galt g40 (rowsOf l) = some t from hb)
      rw [e3] at h1
      rw [h1] at h2
      refine ⟨h1, of_decide_eq_true h2, fun x hx => ?_⟩
      have : l.2 = sq := congrArg Prod.snd e3
      rw [← this] at hx
      exact ((hg.tr l (by simp)).2 x hx).2
theorem ask_deep {t : T} (hs : SF t) (hd : depth t ≤ 41) : AskOk (text t) (decide (40 < depth t)) := by
  intro S al sq h1 h2 h3
  obtain ⟨hv, hc⟩ := scan_valid h1
  obtain ⟨w, al1, sq1, a1, a2, a3, a4, _, a5⟩ := rt_text (G := yes) (L := 60) (D := depth t) (fun _ _ => rfl) hs (Nat.le_refl _) (by omega)
  have e := a5 [] 0
  rw [List.append_nil] at e
  obtain ⟨S2, b1, b2, b3⟩ := lgo_scan_ok (l := text t) (w := w) (al := al1) (sq := sq1) (k := size t) e a1 a2
  rw [h1] at b1
  cases b1
  rw [h2] at b2
  have b4 := Option.some.inj b2
  rw [List.cons.injEq, Prod.mk.injEq] at b4
  obtain ⟨⟨rfl, rfl⟩, _⟩ := b4
  rw [a4]
  refine ⟨by omega, fun _ => ?_⟩
  by_cases h40 : 40 < depth t
  · rw [if_pos (decide_eq_true h40)]
    cases hb : gbuild g40 S with
    | none => rfl
    | some u =>
      have := (built_depth hv h2 hb).2.1
      rw [a4] at this
      omega
  · rw [if_neg (by simpa using h40)]
    obtain ⟨w2, al2, sq2, c1, c2, c3, c4, cd, c5⟩ := rt_text (G := g40) (L := 60) (D := 40) (fun u hu => decide_eq_true hu) hs (by omega) (by omega)
    have e2 := c5 [] 0
    rw [List.append_nil] at e2
    have g := lgo_guard h1 e2
    rw [← c4]
    exact gbuild_of g (decide_eq_true (Nat.le_trans (cd _ (by simp)) (by omega))) (by rw [c4]; exact decide_eq_true (by omega))
theorem Go.end {G : T → Bool} {L : Nat} {cs : List Nat} {s s2 : RS} (h : Go G L cs s s2) : lgo G L cs s 0 = .inr s2 := by
  have e := h [] 0
  rw [List.append_nil] at e
  exact e
theorem go_zero {G : T → Bool} {L : Nat} {w : W} {al sq : List T} {r : Stk} {k : Nat} (hw : w ≠ .mark) : Go G L [48] ⟨w, (al, sq) :: r, k⟩ ⟨.base, (al, .z :: sq) :: r, k⟩ := by
  have hL : isL 48 = false := by decide
  exact Go.one (by simp [lst, lstep, hw, hL])
theorem then_zero {t : T} (hs : SF t) : lthen [t, .z] = .z := by
  unfold lthen
  rw [if_pos]
  rw [show [t, T.z] = [t] ++ [.z] from rfl, flatN_app, hasZ_app]
  simp [flatN, hasZ, T.isZ]
theorem ask_deep0 {t : T} (hs : SF t) (hd : depth t ≤ 41) : AskOk (40 :: text t ++ [41] ++ [32] ++ [48]) (decide (40 < depth t)) := by
  intro S al sq h1 h2 h3
  obtain ⟨hv, hc⟩ := scan_valid h1
  have run : ∀ {G : T → Bool} {D : Nat}, (∀ u, depth u ≤ D → G u = true) → depth t ≤ D → Go G 60 (40 :: text t ++ [41] ++ [32] ++ [48]) init ⟨.base, [([], [.z, t])], size t⟩ := fun {G D} hG hD => by
    have a := (rt_all (L := 60) hG _ t hs (Nat.le_refl _) hD).2 .need [] [] [] 0 (by simp) (by simp only [List.length_nil]; omega)
    have b := go_space (G := G) (L := 60) (w := .base) (al := []) (sq := [t]) (r := []) (k := 0 + size t) (by simp)
    have c := go_zero (G := G) (L := 60) (w := .base) (al := []) (sq := [t]) (r := []) (k := 0 + size t) (by simp)
    have := (a.app b).app c
    rw [Nat.zero_add] at this
    exact this
  obtain ⟨S2, b1, b2, b3⟩ := lgo_scan_ok (run (G := yes) (D := depth t) (fun _ _ => rfl) (Nat.le_refl _)).end (by simp) (by simp)
  rw [h1] at b1
  cases b1
  rw [h2] at b2
  have b4 := Option.some.inj b2
  rw [List.cons.injEq, Prod.mk.injEq] at b4
  obtain ⟨⟨rfl, rfl⟩, _⟩ := b4
  have e1 : lthen [T.z, t].reverse = .z := then_zero hs
  have e2 : lfin ([], [.z, t]) = .z := by
    unfold lfin
    show leither (lthen [T.z, t].reverse :: []).reverse = _
    rw [e1]
    exact leither_one rfl
  rw [e2]
  refine ⟨by simp [depth], fun _ => ?_⟩
  by_cases h40 : 40 < depth t
  · rw [if_pos (decide_eq_true h40)]
    cases hb : gbuild g40 S with
    | none => rfl
    | some u =>
      have := (built_depth hv h2 hb).2.2 t (by simp)
      omega
  · rw [if_neg (by simpa using h40)]
    have g := lgo_guard h1 (run (G := g40) (D := 40) (fun u hu => decide_eq_true hu) (by omega)).end
    rw [← e2]
    exact gbuild_of g (by rw [e1]; decide) (by rw [e2]; decide)
/-- letters with blanks between -/
theorem go_letters {G : T → Bool} {c : Nat} (hc : isL c = true) : ∀ (m : Nat) (w : W) (al sq : List T) (k : Nat), w ≠ .mark → ∃ w2, w2 ≠ .need ∧ w2 ≠ .mark ∧ Go G 60 (joinL [32] (List.replicate (m + 1) [c])) ⟨w, [(al, sq)], k⟩ ⟨w2, [(al, List.replicate (m + 1) (.i [c]) ++ sq)], k + (m + 1)⟩ := by
  intro m
  have nn := isL_ne hc
  induction m with
  | zero => 
    intro w al sq k hw
    exact ⟨.letter, by simp, by simp, by simpa [joinL] using Go.one (G := G) (L := 60) (s := ⟨w, [(al, sq)], k⟩) (s2 := ⟨.letter, [(al, .i [c] :: sq)], k + 1⟩) (by simp [lst, lstep, hw, hc, nn])⟩
  | succ m ih =>
    intro w al sq k hw
    have a := Go.one (G := G) (L := 60) (c := c) (s := ⟨w, [(al, sq)], k⟩) (s2 := ⟨.letter, [(al, .i [c] :: sq)], k + 1⟩) (by simp [lst, lstep, hw, hc, nn])
    have b := go_space (G := G) (L := 60) (w := .letter) (al := al) (sq := .i [c] :: sq) (r := []) (k := k + 1) (by simp)
    obtain ⟨w2, h1, h2, h3⟩ := ih .base al (.i [c] :: sq) (k + 1) (by simp)
    refine ⟨w2, h1, h2, ?_⟩
    have := (a.app b).app h3
    have e : List.replicate (m + 1) (T.i [c]) ++ .i [c] :: sq = List.replicate (m + 1 + 1) (.i [c]) ++ sq := by
      rw [List.replicate_succ' (n := m + 1)]
      simp
    rw [e, show k + 1 + (m + 1) = k + (m + 1 + 1) by omega] at this
    simpa [List.replicate_succ, joinL] using this
theorem go_over {G : T → Bool} {D : Nat} {t : T} {c : Nat} (hG : ∀ u, depth u ≤ D → G u = true) (hD : depth t ≤ D) (hc : isL c = true) (hs : SF t) (hd : depth t ≤ 41) : ∃ w al sq, w ≠ W.need ∧ w ≠ W.mark ∧ (∀ x ∈ al, depth x ≤ 41) ∧ (∀ x ∈ sq, depth x ≤ 1) ∧ Go G 60 (text t ++ [32] ++ [124] ++ [32] ++ joinL [32] (List.replicate 2000 [c])) init ⟨w, [(al, sq)], size t + 2000⟩ := by
  obtain ⟨w, al1, sq1, a1, a2, a3, a4, ad, a5⟩ := rt_text (G := G) (L := 60) (D := D) hG hs hD (by omega)
  have b := go_space (G := G) (L := 60) (w := w) (al := al1) (sq := sq1) (r := []) (k := size t) a2
  obtain ⟨b1, b2⟩ := sp_ne a1 a2
  have d := go_bar (G := G) (L := 60) (w := if w = .letter then .base else w) (al := al1) (sq := sq1) (r := []) (k := size t) b2 b1 (hG _ (Nat.le_trans (ad _ (by simp)) hD))
  have f := go_space (G := G) (L := 60) (w := .need) (al := lthen sq1.reverse :: al1) (sq := []) (r := []) (k := size t) (by simp)
  obtain ⟨w2, h1, h2, h3⟩ := go_letters hc 1999 .need (lthen sq1.reverse :: al1) [] (size t) (by simp)
  refine ⟨w2, _, _, h1, h2, fun x hx => Nat.le_trans (ad x hx) hd, fun x hx => ?_, (((a5.app b).app d).app f).app h3⟩
  rw [List.append_nil] at hx
  rw [List.eq_of_mem_replicate hx]
  simp [depth]
theorem ask_over {t : T} {c : Nat} (hc : isL c = true) (hs : SF t) (hd : depth t ≤ 41) (hz : 1 ≤ size t) : AskOk (text t ++ [32] ++ [124] ++ [32] ++ joinL [32] (List.replicate 2000 [c])) false := by
  intro S al sq h1 h2 h3
  obtain ⟨w, al1, sq1, a1, a2, a3, a4, a5⟩ := go_over (G := yes) (D := depth t) (fun _ _ => rfl) (Nat.le_refl _) hc hs hd
  obtain ⟨S2, b1, b2, b3⟩ := lgo_scan_ok a5.end a1 a2
  rw [h1] at b1
  cases b1
  rw [h2] at b2
  have b4 := Option.some.inj b2
  rw [List.cons.injEq, Prod.mk.injEq] at b4
  obtain ⟨⟨rfl, rfl⟩, _⟩ := b4
  have hl : depth (lthen sq.reverse) ≤ 2 := depth_lthen fun p hp => a4 p (by simpa using hp)
  refine ⟨?_, fun h => by omega⟩
  have : depth (lfin (al, sq)) ≤ 42 := depth_leither fun p hp => by
    rw [List.mem_reverse] at hp
    rcases List.mem_cons.mp hp with e | e
    · have : depth p ≤ 2 := by rw [e]; exact hl
      omega
    · exact a3 p e
  omega
theorem ask_over_mark {t : T} {c : Nat} (hc : isL c = true) (hs : SF t) (hd : depth t ≤ 41) : AskOk (text t ++ [32] ++ [124] ++ [32] ++ joinL [32] (List.replicate 2000 [c]) ++ [63]) false := by
  obtain ⟨w, al1, sq1, a1, a2, a3, a4, a5⟩ := go_over (G := yes) (D := depth t) (fun _ _ => rfl) (Nat.le_refl _) hc hs hd
  have hL : isL 63 = false := by decide
  have b := Go.one (G := yes) (L := 60) (c := 63) (s := ⟨w, [(al1, sq1)], size t + 2000⟩) (s2 := ⟨.mark, [(al1, sq1)], size t + 2000⟩) (by simp [lst, lstep, a2, hL])
  exact ask_bad_end (a5.app b).end (by simp [bad])
theorem ask_close {t : T} (hs : SF t) (hd : depth t ≤ 41) : AskOk (text t ++ [41]) false := by
  obtain ⟨w, al1, sq1, a1, a2, a3, a4, ad, a5⟩ := rt_text (G := yes) (L := 60) (D := depth t) (fun _ _ => rfl) hs (Nat.le_refl _) (by omega)
  have hL : isL 41 = false := by decide
  refine ask_bad_of (q := (text t).length) ?_
  rw [show init = ⟨.need, [([], [])], 0⟩ from rfl, a5 [41] 0, lgo_none (by simp [lst, lstep, a2, hL])]
  simp
theorem i_isZ (w : List Nat) : (T.i w).isZ = false := rfl
theorem i_isS (w : List Nat) : (T.i w).isS = false := rfl
theorem i_isN (w : List Nat) : (T.i w).isN = false := rfl
theorem i_isO (w : List Nat) : (T.i w).isO = false := rfl
structure Fam (c : Nat) (t : T) (d : Nat) : Prop where
  sf : SF t
  depth : K02.depth t = d
  size : 1 ≤ K02.size t
  wt : K02.wt t ≤ d
  nz : t.isZ = false
  ns : t.isS = false
  nl : t ≠ .i [c, 39]
theorem fam0 {c : Nat} (hc : isL c = true) : Fam c (.i [c]) 1 := ⟨by simp [SF, isI, hc], by simp [depth], by simp [size], by simp [wt], rfl, rfl, by simp⟩
theorem fam_leaf {c : Nat} (hc : isL c = true) : SF (.i [c, 39]) := by simp [SF, isI, hc]
theorem fam_then {c d : Nat} {t : T} (hc : isL c = true) (h : Fam c t d) (hn : t.isN = false) : Fam c (lthen [t, .i [c, 39]]) (d + 1) := by
  have e : lthen [t, .i [c, 39]] = .n [t, .i [c, 39]] := by
    have h1 := h.nz
    have h2 := h.ns
    unfold lthen
    rw [flatN_id (ps := [t, .i [c, 39]]) (by simp [h2, hn, i_isS, i_isN])]
    simp [hasZ, h1, i_isZ, wrap]
  rw [e]
  have h3 := h.size
  have h4 := h.wt
  have h5 := h.depth
  have h6 := depth_pos t
  refine ⟨?_, ?_, by simp only [size, sizes]; omega, by simp only [wt, wts]; omega, rfl, rfl, by simp⟩
  · unfold SF
    exact ⟨by simp, by simp [SFs, h.sf, fam_leaf hc], by simp [h.nz, h.ns, hn, i_isZ, i_isS, i_isN]⟩
  · simp only [depth, depths, maxL, List.foldr]
    omega
theorem fam_either {c d : Nat} {t : T} (hc : isL c = true) (h : Fam c t d) (hn : t.isO = false) : Fam c (leither [t, .i [c, 39]]) (d + 1) := by
  have e : leither [t, .i [c, 39]] = .o [t, .i [c, 39]] := by
    unfold leither
    rw [flatO_id (ps := [t, .i [c, 39]]) (by simp [hn, i_isO]), addU_id (by simpa using h.nl) (by simp [h.nz, i_isZ])]
    rfl
  rw [e]
  have h3 := h.size
  have h4 := h.wt
  have h5 := h.depth
  have h6 := depth_pos t
  refine ⟨?_, ?_, by simp only [size, sizes]; omega, by simp only [wt, wts]; omega, rfl, rfl, by simp⟩
  · unfold SF
    exact ⟨by simp, by simp [SFs, h.sf, fam_leaf hc], by simpa using h.nl, by simp [h.nz, hn, i_isZ, i_isO]⟩
  · simp only [depth, depths, maxL, List.foldr]
    omega
theorem fam_again {c d : Nat} {t : T} (h : Fam c t d) (hn : t.isM = false) : Fam c (lagain t) (d + 1) := by
  have e : lagain t = .m t := by
    have h1 := h.nz
    have h2 := h.ns
    cases t with
    | z => cases h1
    | s => cases h2
    | m => cases hn
    | _ => rfl
  rw [e]
  have h3 := h.size
  have h4 := h.wt
  have h5 := h.depth
  refine ⟨?_, by simp only [depth]; omega, by simp only [size]; omega, by simp only [wt]; omega, rfl, rfl, by simp⟩
  unfold SF
  exact ⟨h.sf, h.nz, h.ns, hn⟩
theorem joinL_len {a : Nat} {sep : List Nat} (hs : sep.length = a) : ∀ (ls : List (List Nat)), ls ≠ [] → (joinL sep ls).length + a = (ls.map List.length).sum + a * ls.length
  | [], h => absurd rfl h
  | [x], _ => by simp [joinL]
  | x :: y :: r, _ => by
    have ih := joinL_len hs (y :: r) (by simp)
    simp only [joinL, List.length_append, List.map_cons, List.sum_cons, List.length_cons, hs] at ih ⊢
    simp only [Nat.mul_add, Nat.mul_one] at ih ⊢
    omega
theorem brk_len (b : Bool) (l : List Nat) : (brk b l).length ≤ l.length + 2 := by
  unfold brk
  split <;> simp <;> omega
theorem sum_len {ps : List T} {f : T → Nat} {a : Nat} (h : ∀ p ∈ ps, f p + 5 ≤ 8 * wt p + a) : (ps.map f).sum + 5 * ps.length ≤ 8 * wts ps + a * ps.length := by
  induction ps with
  | nil => simp [wts]
  | cons p r ih =>
    have h1 := h p (by simp)
    have h2 := ih fun x hx => h x (List.mem_cons_of_mem _ hx)
    simp only [List.map_cons, List.sum_cons, List.length_cons, wts, Nat.mul_add, Nat.mul_one] at h2 ⊢
    omega
theorem text_len : ∀ (d : Nat) (t : T), depth t ≤ d → SF t → t.isZ = false → (text t).length + 5 ≤ 8 * wt t := by
  intro d
  induction d with
  | zero => intro t h; have := depth_pos t; omega
  | succ d ih =>
    intro t hd hs hz
    cases t with
    | z => cases hz
    | s => simp [text, wt]
    | i w =>
      unfold SF at hs
      match w, hs with
      | [c], _ => simp [text, wt]
      | [c, d], _ => simp [text, wt]
    | m b =>
      unfold SF at hs
      have := ih b (by simp only [depth] at hd; omega) hs.1 hs.2.1
      have h2 := brk_len (b.isN || b.isO) (text b)
      simp only [text, wt, List.length_append, List.length_cons, List.length_nil]
      omega
    | n ps =>
      have hd2 := hd
      unfold SF at hs
      have h1 := sum_len (ps := ps) (f := fun p => (brk p.isO (text p)).length) (a := 2) fun p hp => by
        have h3 := ih p (by have := depth_part hp; omega) ((SFs_iff ps).mp hs.2.1 p hp) (hs.2.2 p hp).1
        have h4 := brk_len p.isO (text p)
        omega
      have h2 := joinL_len (a := 1) (sep := [32]) rfl (ps.map fun p => brk p.isO (text p)) (by intro e; rw [List.map_eq_nil_iff] at e; rw [e] at hs; simp at hs)
      rw [List.map_map, List.length_map] at h2
      have h3 : (List.map (List.length ∘ fun p => brk p.isO (text p)) ps).sum = (ps.map fun p => (brk p.isO (text p)).length).sum := rfl
      have := hs.1
      simp only [text, wt, textsN_map]
      omega
    | o ps =>
      have hd2 := hd
      unfold SF at hs
      have h1 := sum_len (ps := ps) (f := fun p => (text p).length) (a := 0) fun p hp => by
        have h3 := ih p (by have := depth_partO hp; omega) ((SFs_iff ps).mp hs.2.1 p hp) (hs.2.2.2 p hp).1
        omega
      have h2 := joinL_len (a := 3) (sep := [32, 124, 32]) rfl (ps.map text) (by intro e; rw [List.map_eq_nil_iff] at e; rw [e] at hs; simp at hs)
      rw [List.map_map, List.length_map] at h2
      have h3 : (List.map (List.length ∘ text) ps).sum = (ps.map fun p => (text p).length).sum := rfl
      have := hs.1
      simp only [text, wt, textsO_map]
      omega
theorem text_le {t : T} (hs : SF t) : (text t).length ≤ 8 * wt t + 1 := by
  cases h : t.isZ with
  | true => cases t <;> first | (cases h; done) | simp [text, wt]
  | false =>
    have := text_len (depth t) t (Nat.le_refl _) hs h
    omega
end K02
namespace K02
def orun : List Nat × Nat → List (List Nat) → Option (List Nat × Nat)
  | s, [] => some s
  | s, g :: gs => if mayStand g s.1 s.2 = true then orun (g, dnext g s.2) gs else none
theorem orun_app {s s2 : List Nat × Nat} {a b : List (List Nat)} (h : orun s a = some s2) : orun s (a ++ b) = orun s2 b := by
  induction a generalizing s with
  | nil => rw [Option.some.inj (show some s = some s2 from h)]; rfl
  | cons g gs ih =>
    have h : (if mayStand g s.1 s.2 = true then orun (g, dnext g s.2) gs else none) = some s2 := h
    show (if mayStand g s.1 s.2 = true then orun (g, dnext g s.2) (gs ++ b) else none) = _
    split at h
    · rename_i c
      rw [if_pos c]
      exact ih h
    · cases h
structure Acc (N : Nat) (S : List (List Nat)) (e : List Nat) : Prop where
  ne : S ≠ []
  vd : ∀ g ∈ S, valid g = true
  e1 : e ≠ [40]
  e2 : e ≠ [124]
  run : ∀ b d, d + N ≤ 60 → orun (b, d) S = some (e, d)
theorem Acc.mono {N M : Nat} {S : List (List Nat)} {e : List Nat} (h : Acc N S e) (hm : N ≤ M) : Acc M S e := ⟨h.ne, h.vd, h.e1, h.e2, fun b d hd => h.run b d (by omega)⟩
def leafTok (g : List Nat) : Bool := isI g || decide (g = [48]) || decide (g = [49])
theorem leaf_ne {g : List Nat} (h : leafTok g = true) : g ≠ [40] ∧ g ≠ [41] ∧ g ≠ [42] ∧ g ≠ [124] := by
  refine ⟨?_, ?_, ?_, ?_⟩ <;> (intro e; rw [e] at h; revert h; decide)
theorem acc_leaf {g : List Nat} (h : leafTok g = true) : Acc 0 [g] g := by
  obtain ⟨h1, h2, h3, h4⟩ := leaf_ne h
  have hc : g = [48] ∨ g = [49] ∨ isI g = true := by
    unfold leafTok at h
    rcases Bool.or_eq_true_iff.mp h with h | h
    · rcases Bool.or_eq_true_iff.mp h with h | h
      · exact .inr (.inr h)
      · exact .inl (of_decide_eq_true h)
    · exact .inr (.inl (of_decide_eq_true h))
  refine ⟨by simp, fun x hx => ?_, h1, h4, fun b d _ => ?_⟩
  · rw [List.mem_singleton] at hx
    rw [hx]
    unfold valid
    rcases hc with c | c | c <;> simp [c]
  · have ms : mayStand g b d = true := by
      unfold mayStand
      rw [if_neg h1, if_pos hc]
    show (if mayStand g b d = true then some (g, dnext g d) else none) = _
    rw [if_pos ms]
    unfold dnext
    rw [if_neg h1, if_neg h2]
theorem acc_brk {N : Nat} {S : List (List Nat)} {e : List Nat} (h : Acc N S e) : Acc (N + 1) ([[40]] ++ S ++ [[41]]) [41] := by
  refine ⟨by simp, fun x hx => ?_, by simp, by simp, fun b d hd => ?_⟩
  · rw [List.mem_append, List.mem_append, List.mem_singleton, List.mem_singleton] at hx
    rcases hx with (hx | hx) | hx
    · rw [hx]; decide
    · exact h.vd x hx
    · rw [hx]; decide
  · have a : orun (b, d) [[40]] = some ([40], d + 1) := by
      have ms : mayStand [40] b d = true := by simp [mayStand]; omega
      show (if mayStand [40] b d = true then some ([40], dnext [40] d) else none) = _
      rw [if_pos ms]; rfl
    have c : orun (e, d + 1) [[41]] = some ([41], d) := by
      have ms : mayStand [41] e (d + 1) = true := by
        unfold mayStand
        rw [if_neg (by decide), if_neg (by decide), if_neg (by simp [h.e1, h.e2]), if_neg (by decide), if_pos rfl]
        simp
      show (if mayStand [41] e (d + 1) = true then some ([41], dnext [41] (d + 1)) else none) = _
      rw [if_pos ms]; rfl
    rw [List.append_assoc, orun_app a, orun_app (h.run [40] (d + 1) (by omega)), c]
theorem acc_star {N : Nat} {S : List (List Nat)} {e : List Nat} (h : Acc N S e) (he : e ≠ [42]) : Acc N (S ++ [[42]]) [42] := by
  refine ⟨by simp, fun x hx => ?_, by simp, by simp, fun b d hd => ?_⟩
  · rw [List.mem_append, List.mem_singleton] at hx
    rcases hx with hx | hx
    · exact h.vd x hx
    · rw [hx]; decide
  · have c : orun (e, d) [[42]] = some ([42], d) := by
      have ms : mayStand [42] e d = true := by
        unfold mayStand
        rw [if_neg (by decide), if_neg (by decide), if_neg (by simp [h.e1, h.e2]), if_pos rfl]
        simp [he]
      show (if mayStand [42] e d = true then some ([42], dnext [42] d) else none) = _
      rw [if_pos ms]; rfl
    rw [orun_app (h.run b d hd), c]
theorem acc_app {N : Nat} {S1 S2 : List (List Nat)} {e1 e2 : List Nat} (h1 : Acc N S1 e1) (h2 : Acc N S2 e2) : Acc N (S1 ++ S2) e2 := by
  refine ⟨fun e => h1.ne (List.append_eq_nil_iff.mp e).1, fun x hx => ?_, h2.e1, h2.e2, fun b d hd => ?_⟩
  · rcases List.mem_append.mp hx with hx | hx
    · exact h1.vd x hx
    · exact h2.vd x hx
  · rw [orun_app (h1.run b d hd), h2.run e1 d hd]
theorem acc_bar {N : Nat} {S1 S2 : List (List Nat)} {e1 e2 : List Nat} (h1 : Acc N S1 e1) (h2 : Acc N S2 e2) : Acc N (S1 ++ [[124]] ++ S2) e2 := by
  refine ⟨fun e => h1.ne (List.append_eq_nil_iff.mp (List.append_eq_nil_iff.mp e).1).1, fun x hx => ?_, h2.e1, h2.e2, fun b d hd => ?_⟩
  · rw [List.mem_append, List.mem_append, List.mem_singleton] at hx
    rcases hx with (hx | hx) | hx
    · exact h1.vd x hx
    · rw [hx]; decide
    · exact h2.vd x hx
  · have c : orun (e1, d) [[124]] = some ([124], d) := by
      have ms : mayStand [124] e1 d = true := by
        unfold mayStand
        rw [if_neg (by decide), if_neg (by decide), if_neg (by simp [h1.e1, h1.e2]), if_neg (by decide), if_neg (by decide)]
        rfl
      show (if mayStand [124] e1 d = true then some ([124], dnext [124] d) else none) = _
      rw [if_pos ms]; rfl
    rw [List.append_assoc, orun_app (h1.run b d hd), orun_app c, h2.run _ d hd]

inductive Sp : List (List Nat) → List Nat → Prop
  | nil : Sp [] []
  | sp {S l} : Sp S l → Sp S (32 :: l)
  | tok {g S l} : valid g = true → Sp S l → Sp (g :: S) (g ++ l)
theorem Sp.app {S1 S2 : List (List Nat)} {l1 l2 : List Nat} (h1 : Sp S1 l1) (h2 : Sp S2 l2) : Sp (S1 ++ S2) (l1 ++ l2) := by
  induction h1 with
  | nil => exact h2
  | sp _ ih => exact .sp ih
  | tok hv _ ih => rw [List.append_assoc]; exact .tok hv ih
theorem Sp.blanks : ∀ n : Nat, Sp [] (List.replicate n 32)
  | 0 => .nil
  | n + 1 => .sp (Sp.blanks n)
theorem Sp.one {g : List Nat} (hv : valid g = true) : Sp [g] g := by
  have := Sp.tok hv .nil
  rwa [List.append_nil] at this
theorem valid_cases {g : List Nat} (h : valid g = true) : (∃ c, g = [c] ∧ c ≠ 39 ∧ c ≠ 32 ∧ c ≠ 63) ∨ (∃ c, g = [c, 39] ∧ isL c = true) ∨ ∃ d, g = [63, d] ∧ isK d = true := by
  unfold valid at h
  rcases Bool.or_eq_true_iff.mp h with h | h
  · left
    rcases Bool.or_eq_true_iff.mp h with h | h
    · rcases Bool.or_eq_true_iff.mp h with h | h
      · rcases Bool.or_eq_true_iff.mp h with h | h
        · rcases Bool.or_eq_true_iff.mp h with h | h
          · rcases Bool.or_eq_true_iff.mp h with h | h
            · exact ⟨40, of_decide_eq_true h, by decide, by decide, by decide⟩
            · exact ⟨41, of_decide_eq_true h, by decide, by decide, by decide⟩
          · exact ⟨42, of_decide_eq_true h, by decide, by decide, by decide⟩
        · exact ⟨124, of_decide_eq_true h, by decide, by decide, by decide⟩
      · exact ⟨48, of_decide_eq_true h, by decide, by decide, by decide⟩
    · exact ⟨49, of_decide_eq_true h, by decide, by decide, by decide⟩
  · match g, h with
    | [c], h =>
      have nn := isL_ne (show isL c = true from h)
      exact .inl ⟨c, rfl, nn.2.1, nn.1, nn.2.2.2.2.2.2.1⟩
    | [c, d], h =>
      have h : ((isL c && d == 39) || (c == 63 && isK d)) = true := h
      rcases Bool.or_eq_true_iff.mp h with h | h
      · rw [Bool.and_eq_true] at h
        have h2 : d = 39 := by simpa using h.2
        exact .inr (.inl ⟨c, by rw [h2], h.1⟩)
      · rw [Bool.and_eq_true] at h
        have h2 : c = 63 := by simpa using h.1
        exact .inr (.inr ⟨d, by rw [h2], h.2⟩)
theorem Sp.head {S : List (List Nat)} {l : List Nat} (h : Sp S l) : l.head? ≠ some 39 := by
  cases h with
  | nil => simp
  | sp _ => simp
  | tok hv _ =>
    rcases valid_cases hv with ⟨c, rfl, h, _⟩ | ⟨c, rfl, h⟩ | ⟨d, rfl, _⟩
    · simpa using h
    · have := (isL_ne h).2.1
      simpa using this
    · simp
theorem signAt_tok {g l : List Nat} (hv : valid g = true) (h : l.head? ≠ some 39) : signAt (g ++ l) = some g ∧ ∃ c r, g = c :: r ∧ c ≠ 32 := by
  rcases valid_cases hv with ⟨c, rfl, h1, h2, h3⟩ | ⟨c, rfl, h1⟩ | ⟨d, rfl, h1⟩
  · refine ⟨?_, c, [], rfl, h2⟩
    cases hL : isL c with
    | false => simp [signAt, h3, hL]
    | true =>
      cases l with
      | nil => simp [signAt, h3, hL]
      | cons x r =>
        have : x ≠ 39 := by simpa using h
        simp [signAt, h3, hL, this]
  · have nn := isL_ne h1
    exact ⟨by simp [signAt, h1, nn], c, [39], rfl, nn.1⟩
  · exact ⟨by simp [signAt, h1], 63, [d], rfl, by decide⟩
theorem scan_sp {S : List (List Nat)} {l : List Nat} (h : Sp S l) : ∀ (b : List Nat) (d p : Nat) (e : List Nat), orun (b, d) S = some (e, 0) → e ≠ [40] → e ≠ [124] → scan l b d p = .ok S := by
  induction h with
  | nil =>
    intro b d p e h h1 h2
    have h := Option.some.inj (show some (b, d) = some (e, 0) from h)
    rw [Prod.mk.injEq] at h
    rw [scan_nil, if_neg]
    rw [h.1, h.2]
    simp [h1, h2]
  | sp _ ih =>
    intro b d p e h h1 h2
    rw [scan_cons, if_pos rfl]
    exact ih b d (p + 1) e h h1 h2
  | @tok g S l hv hs ih =>
    intro b d p e h h1 h2
    have h : (if mayStand g b d = true then orun (g, dnext g d) S else none) = some (e, 0) := h
    split at h
    · rename_i ms
      obtain ⟨sg, c, r, rfl, hc⟩ := signAt_tok hv hs.head
      have sg : signAt (c :: (r ++ l)) = some (c :: r) := sg
      show scan (c :: (r ++ l)) b d p = _
      rw [scan_cons, if_neg hc, sg]
      dsimp only
      rw [if_pos ms]
      have e3 : (r ++ l).drop ((c :: r).length - 1) = l := by simp
      rw [e3, ih _ _ _ e h h1 h2]
      rfl
    · cases h
theorem cnt_app (a b : List (List Nat)) : cnt (a ++ b) = cnt a + cnt b := List.countP_append
theorem items_app (a b : List (List Nat)) : items (a ++ b) = items a + items b := by unfold items; simp
theorem tok_cnt {g : List Nat} (hv : valid g = true) : cntc g = cnt [g] := by
  unfold valid at hv
  rcases Bool.or_eq_true_iff.mp hv with h | h
  · rcases Bool.or_eq_true_iff.mp h with h | h
    · rcases Bool.or_eq_true_iff.mp h with h | h
      · rcases Bool.or_eq_true_iff.mp h with h | h
        · rcases Bool.or_eq_true_iff.mp h with h | h
          · rcases Bool.or_eq_true_iff.mp h with h | h
            · rw [of_decide_eq_true h]; decide
            · rw [of_decide_eq_true h]; decide
          · rw [of_decide_eq_true h]; decide
        · rw [of_decide_eq_true h]; decide
      · rw [of_decide_eq_true h]; decide
    · rw [of_decide_eq_true h]; decide
  · have h0 := h
    match g, h with
    | [c], h =>
      have h : isL c = true := h
      simp [cnt, cntc, List.countP_cons, wc, isI, h]
    | [c, d], h =>
      have h : ((isL c && d == 39) || (c == 63 && isK d)) = true := h
      rcases Bool.or_eq_true_iff.mp h with h | h
      · rw [Bool.and_eq_true] at h
        have h2 : d = 39 := by simpa using h.2
        subst h2
        have : wc 39 = false := by decide
        have h3 : wc c = true := by simp [wc, h.1]
        simp [cnt, cntc, List.countP_cons, h0, this, h3]
      · rw [Bool.and_eq_true] at h
        have h2 : c = 63 := by simpa using h.1
        subst h2
        have : wc 63 = false := by decide
        have h3 : wc d = true := by simp [wc, h.2]
        simp [cnt, cntc, List.countP_cons, h0, this, h3]
theorem Sp.cnt {S : List (List Nat)} {l : List Nat} (h : Sp S l) : cntc l = K02.cnt S := by
  induction h with
  | nil => rfl
  | sp _ ih =>
    have : wc 32 = false := by decide
    unfold cntc at ih ⊢
    rw [List.countP_cons, ih, this]
    simp
  | tok hv _ ih => rw [cntc_app, cnt_cons, ih, tok_cnt hv]
theorem items_le_cnt (S : List (List Nat)) : items S ≤ cnt S := by
  unfold items cnt
  rw [← List.countP_eq_length_filter]
  exact List.countP_mono_left fun g _ h => by simp [h]
/-- a drawn text can be read, and is built -/
theorem raw_read {S : List (List Nat)} {l : List Nat} {e : List Nat} {N : Nat} (h : Acc N S e) (hN : N ≤ 60) (hs : Sp S l) (hw : cnt S ≤ 40) : ∃ al sq, scan l [124] 0 0 = .ok S ∧ trun yes [([], [])] S = some [(al, sq)] ∧ sq ≠ [] ∧ items S ≤ 2000 := by
  have h1 := scan_sp hs [124] 0 0 e (h.run [124] 0 (by omega)) h.e1 h.e2
  obtain ⟨w, al, sq, _, _, h2, h3, _⟩ := scan_ok_lgo h1
  have := items_le_cnt S
  exact ⟨al, sq, h1, h2, h3, by omega⟩

mutual
def ino : T → Nat
  | .n ps => 1 + inos ps
  | .o ps => 1 + inos ps
  | .m b => 1 + ino b
  | _ => 0
def inos : List T → Nat
  | [] => 0
  | p :: ps => ino p + inos ps
end
mutual
def lvs : T → Nat
  | .n ps => lvss ps
  | .o ps => lvss ps
  | .m b => lvs b
  | _ => 1
def lvss : List T → Nat
  | [] => 0
  | p :: ps => lvs p + lvss ps
end
mutual
def Raw : T → Prop
  | .n ps => ps.length = 2 ∧ Raws ps
  | .o ps => ps.length = 2 ∧ Raws ps
  | .m b => Raw b
  | .i w => isI w = true
  | _ => True
def Raws : List T → Prop
  | [] => True
  | p :: ps => Raw p ∧ Raws ps
end
/-- what the drawn signs of a raw tree keep -/
def SgOk (t : T) (S : List (List Nat)) : Prop := ∃ e, Acc (2 * ino t + 1) S e ∧ (S.length = 1 → e ≠ [42]) ∧ cnt S ≤ lvs t + ino t ∧ S.length ≤ 6 * (lvs t + ino t)
theorem cnt_small (g : List Nat) (h : isI g = false) (h1 : g ≠ [49]) (h2 : g ≠ [42]) : cnt [g] = 0 := by simp [cnt, h, h1, h2]
/-- with brackets around, or as it is -/
theorem sg_last {t : T} {S : List (List Nat)} {e : List Nat} (h : Acc (2 * ino t) S e) (h1 : S.length = 1 → e ≠ [42]) (h2 : cnt S ≤ lvs t + ino t) (h3 : S.length + 2 ≤ 6 * (lvs t + ino t)) : SgOk t S ∧ SgOk t ([[40]] ++ S ++ [[41]]) := by
  refine ⟨⟨e, h.mono (by omega), h1, h2, by omega⟩, [41], acc_brk h, fun _ => by simp, ?_, ?_⟩
  · have a : cnt [[40]] = 0 := by decide
    have b : cnt [[41]] = 0 := by decide
    rw [cnt_app, cnt_app, a, b]
    omega
  · simp only [List.length_append, List.length_cons, List.length_nil]
    omega
theorem lvs_pos : ∀ {t : T}, Raw t → 1 ≤ lvs t
  | .z, _ => by simp [lvs]
  | .s, _ => by simp [lvs]
  | .i _, _ => by simp [lvs]
  | .m b, h => by unfold Raw at h; have := lvs_pos (t := b) h; simp only [lvs]; omega
  | .n ps, h => by
    unfold Raw at h
    match ps, h with
    | [a, b], h => have := lvs_pos (t := a) h.2.1; simp only [lvs, lvss]; omega
  | .o ps, h => by
    unfold Raw at h
    match ps, h with
    | [a, b], h => have := lvs_pos (t := a) h.2.1; simp only [lvs, lvss]; omega
end K02
namespace L2.WB
open PySem PySem.Spec PyProof.Rows
open K02 (T)

theorem sOf_len (l : List Nat) : (sOf l).length = l.length := rfl
theorem sOf_cps (l : List Nat) : (sOf l).cps.toList = l := rfl
theorem sOf_add (a b : List Nat) : sOf a ++ sOf b = sOf (a ++ b) := by
  show (⟨a.toArray ++ b.toArray⟩ : Str) = ⟨(a ++ b).toArray⟩
  rw [List.append_toArray]
theorem sOf_eq {a b : List Nat} : sOf a = sOf b ↔ a = b := ⟨fun h => congrArg (fun z : Str => z.cps.toList) h, fun h => by rw [h]⟩
theorem dec_sOf (a b : List Nat) : decide (sOf a = sOf b) = decide (a = b) := by
  by_cases h : a = b
  · rw [decide_eq_true h, decide_eq_true (sOf_eq.mpr h)]
  · rw [decide_eq_false h, decide_eq_false fun e => h (sOf_eq.mp e)]
theorem sOf_self (z : Str) : sOf z.cps.toList = z := rfl
theorem subS_one (c : Nat) (l : List Nat) : subS (sOf [c]) (sOf l) = decide (c ∈ l) := PySem.StrLaws.found_one (sOf l) c
theorem cut_from (l : List Nat) (i : Nat) : cutS (sOf l) (some (i : Int)) none = sOf (l.drop i) := by
  unfold cutS
  rw [sOf_cps, sOf_len, HT.sIx_nat, HT.sIx_none]
  by_cases h : i ≤ l.length
  · rw [Nat.min_eq_left h, List.take_of_length_le (by rw [List.length_drop]; exact Nat.le_refl _)]; rfl
  · rw [Nat.min_eq_right (by omega), List.drop_of_length_le (by omega), List.drop_of_length_le (by omega)]; simp [sOf]
theorem cut_to (l : List Nat) (i : Nat) : cutS (sOf l) none (some (i : Int)) = sOf (l.take i) := by
  unfold cutS
  rw [sOf_cps, sOf_len, HT.sIx_nat, HT.sIx_none]
  by_cases h : i ≤ l.length
  · rw [Nat.min_eq_left h]; rfl
  · rw [Nat.min_eq_right (by omega), List.take_of_length_le (l := l) (by omega), List.drop_zero, Nat.sub_zero, List.take_of_length_le (by omega)]; rfl
theorem cut_both (l : List Nat) (i j : Nat) : cutS (sOf l) (some (i : Int)) (some (j : Int)) = sOf ((l.drop i).take (j - i)) := by
  unfold cutS
  rw [sOf_cps, sOf_len, HT.sIx_nat, HT.sIx_nat]
  have h : (l.drop (min i l.length)).take (min j l.length - min i l.length) = (l.drop i).take (j - i) := by
    by_cases h : i ≤ l.length
    · rw [Nat.min_eq_left h]
      by_cases hj : j ≤ l.length
      · rw [Nat.min_eq_left hj]
      · rw [Nat.min_eq_right (by omega), List.take_of_length_le (i := l.length - i) (by rw [List.length_drop]; omega), List.take_of_length_le (by rw [List.length_drop]; omega)]
    · rw [Nat.min_eq_right (show l.length ≤ i by omega), List.drop_of_length_le (i := l.length) (Nat.le_refl _), List.drop_of_length_le (i := i) (by omega)]
      simp
  rw [h]
  rfl
theorem join_sOf (sep : List Nat) : ∀ ls : List (List Nat), Txt.join (sOf sep) (ls.map sOf) = sOf (K02.joinL sep ls)
  | [] => rfl
  | [a] => by
    show Builtin.Str.glued (sOf sep) [sOf a] = _
    rw [PySem.StrLaws.glued_eq_join]
    rfl
  | a :: b :: r => by
    have ih := join_sOf sep (b :: r)
    have e : Txt.join (sOf sep) ((a :: b :: r).map sOf) = Str.join (sOf sep) (sOf a :: sOf b :: r.map sOf) := PySem.StrLaws.glued_eq_join _ _
    have e2 : Txt.join (sOf sep) ((b :: r).map sOf) = Str.join (sOf sep) (sOf b :: r.map sOf) := PySem.StrLaws.glued_eq_join _ _
    rw [e2] at ih
    rw [e]
    show sOf a ++ sOf sep ++ Str.join (sOf sep) (sOf b :: r.map sOf) = _
    rw [ih, sOf_add, sOf_add]
    rfl
theorem rep_sOf (c : Nat) (n : Int) : repS (sOf [c]) n = sOf (List.replicate n.toNat c) := by
  unfold repS sOf
  congr 2
  have : ∀ m : Nat, (List.replicate m [c]).flatten = List.replicate m c := fun m => by
    induction m with
    | zero => rfl
    | succ m ih => rw [List.replicate_succ, List.flatten_cons, ih]; rfl
  exact this n.toNat
theorem one_sOf (c : Nat) : (⟨#[c]⟩ : Str) = sOf [c] := rfl
theorem mem_lowers (c : Nat) : decide (c ∈ lowers) = K02.isL c := by
  unfold lowers K02.isL
  rw [Bool.eq_iff_iff]
  simp
  omega
theorem mem_uppers (c : Nat) : decide (c ∈ uppers) = K02.isK c := by
  unfold uppers K02.isK
  rw [Bool.eq_iff_iff]
  simp
  omega

/-- tuples and instances stay -/
def Kp (H H2 : Hp) : Prop := ∀ a o, H a = some o → ((∃ xs, o = .tup xs) ∨ ∃ C dx fs, o = .ins C dx fs) → H2 a = some o
theorem Kp.refl (H : Hp) : Kp H H := fun _ _ h _ => h
theorem Kp.trans {H H1 H2 : Hp} (a : Kp H H1) (b : Kp H1 H2) : Kp H H2 := fun c o h t => b c o (a c o h t) t
theorem Same.kp {H H2 : Hp} (h : Same H H2) : Kp H H2 := fun a o e _ => h a o e
/-- all but what stands at st -/
def SameBut (st : Addr) (H H2 : Hp) : Prop := ∀ b o, b ≠ st → H b = some o → H2 b = some o
theorem SameBut.refl (st : Addr) (H : Hp) : SameBut st H H := fun _ _ _ h => h
theorem SameBut.trans {st : Addr} {H H1 H2 : Hp} (a : SameBut st H H1) (b : SameBut st H1 H2) : SameBut st H H2 := fun c o n h => b c o n (a c o n h)
theorem Same.but {st : Addr} {H H2 : Hp} (h : Same H H2) : SameBut st H H2 := fun b o _ e => h b o e
theorem SameBut.kp {st : Addr} {H H2 : Hp} (h : SameBut st H H2) {xs : List V} (e : H st = some (.lst xs)) : Kp H H2 := fun a o ea t => by
  refine h a o (fun z => ?_) ea
  rw [z, e] at ea
  have := Option.some.inj ea
  subst this
  rcases t with ⟨_, t⟩ | ⟨_, _, _, t⟩ <;> cases t
theorem same_new {H : Hp} {p : Addr} {o : HO} (h : H p = none) : Same H (upd H p o) := fun b x e => by
  rw [upd_ne (ne_of_none e h)]
  exact e
theorem but_upd {H : Hp} {st : Addr} {o : HO} : SameBut st H (upd H st o) := fun b x n e => by
  rw [upd_ne n]
  exact e
theorem get_new {H : Hp} {a p : Addr} {o x : HO} (h : H a = some o) (n : H p = none) : upd H p x a = some o := by
  rw [upd_ne (ne_of_none h n)]
  exact h

mutual
inductive LT (H : Hp) : V → T → Prop
  | z {a : Addr} : H a = some (.tup [.str (sOf [48])]) → LT H (.ref a) .z
  | s {a : Addr} : H a = some (.tup [.str (sOf [49])]) → LT H (.ref a) .s
  | i {a : Addr} {w : List Nat} : H a = some (.tup [.str (sOf [105]), .str (sOf w)]) → LT H (.ref a) (.i w)
  | m {a : Addr} {v : V} {b : T} : H a = some (.tup [.str (sOf [109]), v]) → LT H v b → LT H (.ref a) (.m b)
  | n {a q : Addr} {vs : List V} {ts : List T} : H a = some (.tup [.str (sOf [110]), .ref q]) → H q = some (.tup vs) → LTs H vs ts → LT H (.ref a) (.n ts)
  | o {a q : Addr} {vs : List V} {ts : List T} : H a = some (.tup [.str (sOf [111]), .ref q]) → H q = some (.tup vs) → LTs H vs ts → LT H (.ref a) (.o ts)
inductive LTs (H : Hp) : List V → List T → Prop
  | nil : LTs H [] []
  | cons {v : V} {vs : List V} {t : T} {ts : List T} : LT H v t → LTs H vs ts → LTs H (v :: vs) (t :: ts)
end
mutual
theorem LT.keep {H H2 : Hp} (k : Kp H H2) : ∀ {v : V} {t : T}, LT H v t → LT H2 v t
  | _, _, .z h => .z (k _ _ h (.inl ⟨_, rfl⟩))
  | _, _, .s h => .s (k _ _ h (.inl ⟨_, rfl⟩))
  | _, _, .i h => .i (k _ _ h (.inl ⟨_, rfl⟩))
  | _, _, .m h b => .m (k _ _ h (.inl ⟨_, rfl⟩)) (b.keep k)
  | _, _, .n h q b => .n (k _ _ h (.inl ⟨_, rfl⟩)) (k _ _ q (.inl ⟨_, rfl⟩)) (b.keep k)
  | _, _, .o h q b => .o (k _ _ h (.inl ⟨_, rfl⟩)) (k _ _ q (.inl ⟨_, rfl⟩)) (b.keep k)
theorem LTs.keep {H H2 : Hp} (k : Kp H H2) : ∀ {vs : List V} {ts : List T}, LTs H vs ts → LTs H2 vs ts
  | _, _, .nil => .nil
  | _, _, .cons a b => .cons (a.keep k) (b.keep k)
end
theorem LTs.len {H : Hp} : ∀ {vs : List V} {ts : List T}, LTs H vs ts → vs.length = ts.length
  | _, _, .nil => rfl
  | _, _, .cons _ b => congrArg (· + 1) b.len
theorem LTs.get {H : Hp} : ∀ {vs : List V} {ts : List T} {j : Nat} {v : V}, LTs H vs ts → vs[j]? = some v → ∃ t, ts[j]? = some t ∧ LT H v t
  | _, _, _, _, .nil, h => by cases h
  | _, _, 0, _, .cons a b, h => ⟨_, rfl, by rw [← Option.some.inj h]; exact a⟩
  | _, _, j + 1, _, .cons a b, h => b.get (j := j) h
theorem LTs.app {H : Hp} : ∀ {vs us : List V} {ts rs : List T}, LTs H vs ts → LTs H us rs → LTs H (vs ++ us) (ts ++ rs)
  | _, _, _, _, .nil, h => h
  | _, _, _, _, .cons a b, h => .cons a (b.app h)
theorem LTs.split {H : Hp} : ∀ {vs us : List V} {ts : List T}, LTs H (vs ++ us) ts → ∃ t1 t2, ts = t1 ++ t2 ∧ LTs H vs t1 ∧ LTs H us t2
  | [], _, ts, h => ⟨[], ts, rfl, .nil, h⟩
  | v :: vs, us, _, .cons a b => by
    obtain ⟨t1, t2, e, h1, h2⟩ := LTs.split (vs := vs) b
    exact ⟨_ :: t1, t2, by rw [e]; rfl, .cons a h1, h2⟩

structure PF (fs : List (Str × V)) (t : T) : Prop where
  size : fs.lookup ("size" : Str) = some (.int (K02.size t))
  depth : fs.lookup ("depth" : Str) = some (.int (K02.depth t))
  text : fs.lookup ("_text" : Str) = some (.str (sOf (K02.text t)))
  empty : ∃ b, fs.lookup ("_empty" : Str) = some (.bl b)
  meth : fs.lookup ("text" : Str) = none
mutual
inductive PatAt (c : Ad) (H : Hp) : V → T → Prop
  | z {a dx : Addr} {fs : List (Str × V)} : H a = some (.ins c.Nothing dx fs) → PF fs .z → PatAt c H (.ref a) .z
  | s {a dx : Addr} {fs : List (Str × V)} : H a = some (.ins c.Stay dx fs) → PF fs .s → PatAt c H (.ref a) .s
  | i {a dx : Addr} {fs : List (Str × V)} {w : List Nat} : H a = some (.ins c.Step dx fs) → PF fs (.i w) → PatAt c H (.ref a) (.i w)
  | k {a dx : Addr} {fs : List (Str × V)} {w : List Nat} : H a = some (.ins c.Test dx fs) → PF fs (.i w) → PatAt c H (.ref a) (.i w)
  | m {a dx : Addr} {fs : List (Str × V)} {b : T} : H a = some (.ins c.Many dx fs) → PF fs (.m b) → PatAt c H (.ref a) (.m b)
  | n {a dx q : Addr} {fs : List (Str × V)} {vs : List V} {ts : List T} : H a = some (.ins c.Then dx fs) → PF fs (.n ts) → fs.lookup ("parts" : Str) = some (.ref q) → H q = some (.tup vs) → Pats c H vs ts → PatAt c H (.ref a) (.n ts)
  | o {a dx q : Addr} {fs : List (Str × V)} {vs : List V} {ts : List T} : H a = some (.ins c.Either dx fs) → PF fs (.o ts) → fs.lookup ("parts" : Str) = some (.ref q) → H q = some (.tup vs) → Pats c H vs ts → PatAt c H (.ref a) (.o ts)
inductive Pats (c : Ad) (H : Hp) : List V → List T → Prop
  | nil : Pats c H [] []
  | cons {v : V} {vs : List V} {t : T} {ts : List T} : PatAt c H v t → Pats c H vs ts → Pats c H (v :: vs) (t :: ts)
end
mutual
theorem PatAt.keep {c : Ad} {H H2 : Hp} (k : Kp H H2) : ∀ {v : V} {t : T}, PatAt c H v t → PatAt c H2 v t
  | _, _, .z h f => .z (k _ _ h (.inr ⟨_, _, _, rfl⟩)) f
  | _, _, .s h f => .s (k _ _ h (.inr ⟨_, _, _, rfl⟩)) f
  | _, _, .i h f => .i (k _ _ h (.inr ⟨_, _, _, rfl⟩)) f
  | _, _, .k h f => .k (k _ _ h (.inr ⟨_, _, _, rfl⟩)) f
  | _, _, .m h f => .m (k _ _ h (.inr ⟨_, _, _, rfl⟩)) f
  | _, _, .n h f p q b => .n (k _ _ h (.inr ⟨_, _, _, rfl⟩)) f p (k _ _ q (.inl ⟨_, rfl⟩)) (b.keep k)
  | _, _, .o h f p q b => .o (k _ _ h (.inr ⟨_, _, _, rfl⟩)) f p (k _ _ q (.inl ⟨_, rfl⟩)) (b.keep k)
theorem Pats.keep {c : Ad} {H H2 : Hp} (k : Kp H H2) : ∀ {vs : List V} {ts : List T}, Pats c H vs ts → Pats c H2 vs ts
  | _, _, .nil => .nil
  | _, _, .cons a b => .cons (a.keep k) (b.keep k)
end
theorem Pats.len {c : Ad} {H : Hp} : ∀ {vs : List V} {ts : List T}, Pats c H vs ts → vs.length = ts.length
  | _, _, .nil => rfl
  | _, _, .cons _ b => congrArg (· + 1) b.len
theorem Pats.get {c : Ad} {H : Hp} : ∀ {vs : List V} {ts : List T} {j : Nat} {v : V}, Pats c H vs ts → vs[j]? = some v → ∃ t, ts[j]? = some t ∧ PatAt c H v t
  | _, _, _, _, .nil, h => by cases h
  | _, _, 0, _, .cons a b, h => ⟨_, rfl, by rw [← Option.some.inj h]; exact a⟩
  | _, _, j + 1, _, .cons a b, h => b.get (j := j) h
theorem Pats.app {c : Ad} {H : Hp} : ∀ {vs us : List V} {ts rs : List T}, Pats c H vs ts → Pats c H us rs → Pats c H (vs ++ us) (ts ++ rs)
  | _, _, _, _, .nil, h => h
  | _, _, _, _, .cons a b, h => .cons a (b.app h)
theorem Pats.split {c : Ad} {H : Hp} : ∀ {vs us : List V} {ts : List T}, Pats c H (vs ++ us) ts → ∃ t1 t2, ts = t1 ++ t2 ∧ Pats c H vs t1 ∧ Pats c H us t2
  | [], _, ts, h => ⟨[], ts, rfl, .nil, h⟩
  | v :: vs, us, _, .cons a b => by
    obtain ⟨t1, t2, e, h1, h2⟩ := Pats.split (vs := vs) b
    exact ⟨_ :: t1, t2, by rw [e]; rfl, .cons a h1, h2⟩
/-- which class a pattern is of -/
inductive Tg where
  | Nothing | Stay | Step | Test | Then | Either | Many
  deriving DecidableEq
def Ad.at (c : Ad) : Tg → Addr
  | .Nothing => c.Nothing
  | .Stay => c.Stay
  | .Step => c.Step
  | .Test => c.Test
  | .Then => c.Then
  | .Either => c.Either
  | .Many => c.Many
/-- the pattern's object -/
theorem PatAt.obj {c : Ad} {H : Hp} {v : V} {t : T} (h : PatAt c H v t) : ∃ a g dx fs, v = .ref a ∧ H a = some (.ins (c.at g) dx fs) ∧ PF fs t ∧ decide (g = .Nothing) = t.isZ ∧ decide (g = .Stay) = t.isS ∧ decide (g = .Then) = t.isN ∧ decide (g = .Either) = t.isO ∧ decide (g = .Many) = t.isM := by
  cases h with
  | z h f => exact ⟨_, .Nothing, _, _, rfl, h, f, rfl, rfl, rfl, rfl, rfl⟩
  | s h f => exact ⟨_, .Stay, _, _, rfl, h, f, rfl, rfl, rfl, rfl, rfl⟩
  | i h f => exact ⟨_, .Step, _, _, rfl, h, f, rfl, rfl, rfl, rfl, rfl⟩
  | k h f => exact ⟨_, .Test, _, _, rfl, h, f, rfl, rfl, rfl, rfl, rfl⟩
  | m h f => exact ⟨_, .Many, _, _, rfl, h, f, rfl, rfl, rfl, rfl, rfl⟩
  | n h f p q b => exact ⟨_, .Then, _, _, rfl, h, f, rfl, rfl, rfl, rfl, rfl⟩
  | o h f p q b => exact ⟨_, .Either, _, _, rfl, h, f, rfl, rfl, rfl, rfl, rfl⟩
/-- what the classes say -/
structure ClsF (K : PySem.W.Frag) (c : Ad) : Prop where
  cls : ∀ g, Cls K (c.at g)
  no : ∀ g, NoAttr K (c.at g) "size" ∧ NoAttr K (c.at g) "depth" ∧ NoAttr K (c.at g) "_text" ∧ NoAttr K (c.at g) "_empty" ∧ NoAttr K (c.at g) "parts" ∧ NoAttr K (c.at g) "letter" ∧ NoAttr K (c.at g) "back" ∧ NoAttr K (c.at g) "mark" ∧ NoAttr K (c.at g) "body"
  ty : ∀ g, PySem.W.findIn K (.ref (c.at g)) "__class__" = some (some (.builtin "object.__class__")) ∧ PySem.W.mroIn K (c.at g) (.type "object") = some true
  tn : PySem.W.specialIn K (.builtin "object.__class__") "__get__" = some (some (.builtin "getset_descriptor.__get__")) ∧ PySem.W.takesIn K (.builtin "object.__class__") = some true
  kit : ∀ g h, PySem.W.kitOne K (.ref (c.at g)) (.ref (c.at h)) = some (decide (g = h))
  kitP : ∀ g, PySem.W.kitOne K (.ref (c.at g)) (.ref c.Pattern) = some true
theorem ClsF.tyx {K : PySem.W.Frag} {c : Ad} (F : ClsF K c) {H : Hp} {a dx : Addr} {g : Tg} {fs : List (Str × V)} (h : H a = some (.ins (c.at g) dx fs)) : TyX K H (.ref a) (.ref (c.at g)) :=
  .base (.ins h (F.cls g) (F.ty g).1 F.tn.1 F.tn.2 (F.ty g).2)
/-- isinstance(p, C) -/
theorem ClsF.isi {K : PySem.W.Frag} {c : Ad} (F : ClsF K c) {H : Hp} {Q : VK} {a dx : Addr} {g : Tg} {fs : List (Str × V)} (h : H a = some (.ins (c.at g) dx fs)) (k : Tg) (q : Q (.bl (decide (g = k))) H) : uIsi K [.ref a, .ref (c.at k)] H Q :=
  .inl ⟨.ref (c.at g), .ref (c.at k), _, .own _, F.tyx h, F.kit g k, q⟩

mutual
def enc : T → PyData
  | .z => .tuple [.str (sOf [48])]
  | .s => .tuple [.str (sOf [49])]
  | .i w => .tuple [.str (sOf [105]), .str (sOf w)]
  | .m b => .tuple [.str (sOf [109]), enc b]
  | .n ps => .tuple [.str (sOf [110]), .tuple (encs ps)]
  | .o ps => .tuple [.str (sOf [111]), .tuple (encs ps)]
def encs : List T → List PyData
  | [] => []
  | p :: ps => enc p :: encs ps
end
theorem sqT {K : PySem.W.Frag} {H : Hp} {a : Addr} {xs : List V} (h : H a = some (.tup xs)) : SqT K H a xs := .inl (.inl h)
theorem sqL {K : PySem.W.Frag} {H : Hp} {a : Addr} {xs : List V} (h : H a = some (.lst xs)) : SqL K H a xs := .inl (.inl h)
mutual
theorem LT.dp {K : PySem.W.Frag} {H : Hp} : ∀ {v : V} {t : T}, LT H v t → Dp K H v (enc t)
  | _, _, .z h => .tup (sqT h) (.cons (.str _) .nil)
  | _, _, .s h => .tup (sqT h) (.cons (.str _) .nil)
  | _, _, .i h => .tup (sqT h) (.cons (.str _) (.cons (.str _) .nil))
  | _, _, .m h b => .tup (sqT h) (.cons (.str _) (.cons b.dp .nil))
  | _, _, .n h q b => .tup (sqT h) (.cons (.str _) (.cons (.tup (sqT q) b.dps) .nil))
  | _, _, .o h q b => .tup (sqT h) (.cons (.str _) (.cons (.tup (sqT q) b.dps) .nil))
theorem LTs.dps {K : PySem.W.Frag} {H : Hp} : ∀ {vs : List V} {ts : List T}, LTs H vs ts → DpAll K H vs (encs ts)
  | _, _, .nil => .nil
  | _, _, .cons a b => .cons a.dp b.dps
end
theorem eqv_str (a b : List Nat) : PyData.eqv (.str (sOf a)) (.str (sOf b)) = decide (a = b) := by
  simp only [PyData.eqv]
  rw [Bool.eq_iff_iff, beq_iff_eq, sOf_eq, decide_eq_true_eq]
theorem eqv_11 (a b : List Nat) : PyData.eqv (.tuple [.str (sOf a)]) (.tuple [.str (sOf b)]) = decide (a = b) := by
  have h := eqv_str a b
  simp only [PyData.eqv] at h
  simp only [PyData.eqv, PyData.eqvAll, Bool.and_true]
  exact h
theorem eqv_12 (a b : List Nat) (d : PyData) : PyData.eqv (.tuple [.str (sOf a)]) (.tuple [.str (sOf b), d]) = false := by
  simp only [PyData.eqv, PyData.eqvAll, Bool.and_false]
theorem eqv_21 (a b : List Nat) (d : PyData) : PyData.eqv (.tuple [.str (sOf a), d]) (.tuple [.str (sOf b)]) = false := by
  simp only [PyData.eqv, PyData.eqvAll, Bool.and_false]
theorem eqv_22 (a b : List Nat) (d e : PyData) : PyData.eqv (.tuple [.str (sOf a), d]) (.tuple [.str (sOf b), e]) = (decide (a = b) && PyData.eqv d e) := by
  have h := eqv_str a b
  rw [PyData.eqv, PyData.eqvAll, PyData.eqvAll, PyData.eqvAll, h, Bool.and_true]
theorem eqv_tt (a b : List PyData) : PyData.eqv (.tuple a) (.tuple b) = PyData.eqvAll a b := by rw [PyData.eqv]
theorem eqvAll_cc (x y : PyData) (xs ys : List PyData) : PyData.eqvAll (x :: xs) (y :: ys) = (PyData.eqv x y && PyData.eqvAll xs ys) := by rw [PyData.eqvAll]
mutual
theorem eqv_enc : ∀ t u : T, PyData.eqv (enc t) (enc u) = true ↔ t = u
  | .z, .z => by rw [enc, eqv_11]; simp
  | .z, .s => by rw [enc, enc, eqv_11]; simp
  | .z, .i _ => by rw [enc, enc, eqv_12]; simp
  | .z, .m _ => by rw [enc, enc, eqv_12]; simp
  | .z, .n _ => by rw [enc, enc, eqv_12]; simp
  | .z, .o _ => by rw [enc, enc, eqv_12]; simp
  | .s, .z => by rw [enc, enc, eqv_11]; simp
  | .s, .s => by rw [enc, eqv_11]; simp
  | .s, .i _ => by rw [enc, enc, eqv_12]; simp
  | .s, .m _ => by rw [enc, enc, eqv_12]; simp
  | .s, .n _ => by rw [enc, enc, eqv_12]; simp
  | .s, .o _ => by rw [enc, enc, eqv_12]; simp
  | .i _, .z => by rw [enc, enc, eqv_21]; simp
  | .i _, .s => by rw [enc, enc, eqv_21]; simp
  | .i v, .i w => by rw [enc, enc, eqv_22, eqv_str]; simp
  | .i _, .m _ => by rw [enc, enc, eqv_22]; simp
  | .i _, .n _ => by rw [enc, enc, eqv_22]; simp
  | .i _, .o _ => by rw [enc, enc, eqv_22]; simp
  | .m _, .z => by rw [enc, enc, eqv_21]; simp
  | .m _, .s => by rw [enc, enc, eqv_21]; simp
  | .m _, .i _ => by rw [enc, enc, eqv_22]; simp
  | .m b, .m d => by rw [enc, enc, eqv_22]; simp [eqv_enc b d]
  | .m _, .n _ => by rw [enc, enc, eqv_22]; simp
  | .m _, .o _ => by rw [enc, enc, eqv_22]; simp
  | .n _, .z => by rw [enc, enc, eqv_21]; simp
  | .n _, .s => by rw [enc, enc, eqv_21]; simp
  | .n _, .i _ => by rw [enc, enc, eqv_22]; simp
  | .n _, .m _ => by rw [enc, enc, eqv_22]; simp
  | .n b, .n d => by rw [enc, enc, eqv_22, eqv_tt]; simp [eqv_encs b d]
  | .n _, .o _ => by rw [enc, enc, eqv_22]; simp
  | .o _, .z => by rw [enc, enc, eqv_21]; simp
  | .o _, .s => by rw [enc, enc, eqv_21]; simp
  | .o _, .i _ => by rw [enc, enc, eqv_22]; simp
  | .o _, .m _ => by rw [enc, enc, eqv_22]; simp
  | .o _, .n _ => by rw [enc, enc, eqv_22]; simp
  | .o b, .o d => by rw [enc, enc, eqv_22, eqv_tt]; simp [eqv_encs b d]
theorem eqv_encs : ∀ ts us : List T, PyData.eqvAll (encs ts) (encs us) = true ↔ ts = us
  | [], [] => by simp [encs, PyData.eqvAll]
  | [], _ :: _ => by simp [encs, PyData.eqvAll]
  | _ :: _, [] => by simp [encs, PyData.eqvAll]
  | t :: ts, u :: us => by rw [encs, encs, eqvAll_cc]; simp [eqv_enc t u, eqv_encs ts us]
end
open Classical in
theorem eqv_dec (t u : T) : PyData.eqv (enc t) (enc u) = decide (t = u) := by
  rw [Bool.eq_iff_iff, eqv_enc, decide_eq_true_eq]

mutual
def Asc : T → Bool
  | .i w => w.all (· < 128)
  | .m b => Asc b
  | .n ps => Ascs ps
  | .o ps => Ascs ps
  | _ => true
def Ascs : List T → Bool
  | [] => true
  | p :: ps => Asc p && Ascs ps
end
theorem strOk_sOf {l : List Nat} (h : ∀ c ∈ l, c < 1114112) : PyData.strOk (sOf l) = true := by
  unfold PyData.strOk sOf
  rw [Array.all_eq_true_iff_forall_mem]
  intro x hx
  exact decide_eq_true (h x (by simpa using hx))
mutual
theorem lay_enc : ∀ t : T, Asc t = true → PyData.canLay0 (enc t) = true
  | .z, _ => by decide +kernel
  | .s, _ => by decide +kernel
  | .i w, h => by
    unfold Asc at h
    have e : PyData.strOk (sOf w) = true := strOk_sOf fun c hc => by
      have := of_decide_eq_true (List.all_eq_true.mp h c hc)
      omega
    simp [enc, PyData.canLay0, PyData.canLayAll0, e, (by decide +kernel : PyData.strOk (sOf [105]) = true)]
  | .m b, h => by
    unfold Asc at h
    simp [enc, PyData.canLay0, PyData.canLayAll0, lay_enc b h, (by decide +kernel : PyData.strOk (sOf [109]) = true)]
  | .n ps, h => by
    unfold Asc at h
    simp [enc, PyData.canLay0, PyData.canLayAll0, lay_encs ps h, (by decide +kernel : PyData.strOk (sOf [110]) = true)]
  | .o ps, h => by
    unfold Asc at h
    simp [enc, PyData.canLay0, PyData.canLayAll0, lay_encs ps h, (by decide +kernel : PyData.strOk (sOf [111]) = true)]
theorem lay_encs : ∀ ts : List T, Ascs ts = true → PyData.canLayAll0 (encs ts) = true
  | [], _ => rfl
  | t :: ts, h => by
    unfold Ascs at h
    rw [Bool.and_eq_true] at h
    simp [encs, PyData.canLayAll0, lay_enc t h.1, lay_encs ts h.2]
end
mutual
theorem depth_enc : ∀ t : T, PyData.depth (enc t) ≤ 2 * K02.depth t
  | .z => by simp [enc, PyData.depth, PyData.depthAll, K02.depth]
  | .s => by simp [enc, PyData.depth, PyData.depthAll, K02.depth]
  | .i w => by simp [enc, PyData.depth, PyData.depthAll, K02.depth]
  | .m b => by
    have := depth_enc b
    simp only [enc, PyData.depth, PyData.depthAll, K02.depth]
    omega
  | .n ps => by
    have := depth_encs ps
    simp only [enc, PyData.depth, PyData.depthAll, K02.depth]
    omega
  | .o ps => by
    have := depth_encs ps
    simp only [enc, PyData.depth, PyData.depthAll, K02.depth]
    omega
theorem depth_encs : ∀ ts : List T, PyData.depthAll (encs ts) ≤ 2 * K02.maxL (K02.depths ts)
  | [] => by simp [encs, PyData.depthAll]
  | t :: ts => by
    have h1 := depth_enc t
    have h2 := depth_encs ts
    have e : K02.maxL (K02.depths (t :: ts)) = max (K02.depth t) (K02.maxL (K02.depths ts)) := rfl
    rw [e]
    simp only [encs, PyData.depthAll]
    omega
end
end L2.WB
namespace L2.WB
open PySem PySem.Spec PyProof.Rows
abbrev s_is_letter : Stmt := top 10
abbrev N_is_letter : List Str := ["thing"]
theorem sc_is_letter : FnScope N_is_letter ["thing"] (defScope s_is_letter) := ⟨rfl, rfl, rfl, by decide +kernel, rfl, by decide +kernel, by decide +kernel⟩
def t_is_letter (K : PySem.W.Frag) (c : Ad) : TS :=
  (tRet (uAndV (tCB (uIsi K) (tCons (uV 0) (tCons (tC (.ty "str")) tNil))) (uAndV (tOp (uEq K) (tCB (uLen K) (tCons (uV 0) tNil)) (tC (.int 1))) (tOp (uIn K false) (uV 0) (tC cLETTERS)))))
theorem d_is_letter {P : Program} {w : World} {K : PySem.W.Frag} {mg : Str → Option Value} {base : Heap} {f : Addr} {cdv : Value} {A : Around} {outer : List Env} {s0 : Shared} {H0 : Hp} {E : XK} {c : Ad} {k : Nat} (T : Txt K mg c) (hr : Room (k + 1) (X0 P w K mg base N_is_letter "is_letter" s_is_letter f cdv A outer s0 H0 E).A) :
    PSs (X0 P w K mg base N_is_letter "is_letter" s_is_letter f cdv A outer s0 H0 E) (defBody s_is_letter) (t_is_letter K c) := by
  have hu := hu201 hr
  have hu2 := hu202 hr
  exact (pss_one (ps_ret (pe_andU (pe_callB cr_uIsi (by rfl) T.isinstance (by decide +kernel) (pa_cons (pe_uv 0) (pa_cons (pe_bltn rfl T.str (by decide +kernel) rfl) pa_nil))) (pe_andU (pe_cmpR (op_uEq hu) (pe_callB cr_uLen (by rfl) T.len (by decide +kernel) (pa_cons (pe_uv 0) pa_nil)) pe_int (nomark _)) (pe_one (pe_cmpR (op_uIn hu2) (pe_uv 0) (pe_gs T.g_LETTERS) rfl))))))

abbrev s_is_mark : Stmt := top 11
abbrev N_is_mark : List Str := ["thing"]
theorem sc_is_mark : FnScope N_is_mark ["thing"] (defScope s_is_mark) := ⟨rfl, rfl, rfl, by decide +kernel, rfl, by decide +kernel, by decide +kernel⟩
def t_is_mark (K : PySem.W.Frag) (c : Ad) : TS :=
  (tRet (uAndV (tCB (uIsi K) (tCons (uV 0) (tCons (tC (.ty "str")) tNil))) (uAndV (tOp (uEq K) (tCB (uLen K) (tCons (uV 0) tNil)) (tC (.int 1))) (tOp (uIn K false) (uV 0) (tC cMARKS)))))
theorem d_is_mark {P : Program} {w : World} {K : PySem.W.Frag} {mg : Str → Option Value} {base : Heap} {f : Addr} {cdv : Value} {A : Around} {outer : List Env} {s0 : Shared} {H0 : Hp} {E : XK} {c : Ad} {k : Nat} (T : Txt K mg c) (hr : Room (k + 1) (X0 P w K mg base N_is_mark "is_mark" s_is_mark f cdv A outer s0 H0 E).A) :
    PSs (X0 P w K mg base N_is_mark "is_mark" s_is_mark f cdv A outer s0 H0 E) (defBody s_is_mark) (t_is_mark K c) := by
  have hu := hu201 hr
  have hu2 := hu202 hr
  exact (pss_one (ps_ret (pe_andU (pe_callB cr_uIsi (by rfl) T.isinstance (by decide +kernel) (pa_cons (pe_uv 0) (pa_cons (pe_bltn rfl T.str (by decide +kernel) rfl) pa_nil))) (pe_andU (pe_cmpR (op_uEq hu) (pe_callB cr_uLen (by rfl) T.len (by decide +kernel) (pa_cons (pe_uv 0) pa_nil)) pe_int (nomark _)) (pe_one (pe_cmpR (op_uIn hu2) (pe_uv 0) (pe_gs T.g_MARKS) rfl))))))

abbrev s_is_step : Stmt := top 12
abbrev N_is_step : List Str := ["thing"]
theorem sc_is_step : FnScope N_is_step ["thing"] (defScope s_is_step) := ⟨rfl, rfl, rfl, by decide +kernel, rfl, by decide +kernel, by decide +kernel⟩
def t_is_step (K : PySem.W.Frag) (c : Ad) (pis_letter : Sp) : TS :=
  (tSeq (tIfS (tOr (tNot (uB (tCB (uIsi K) (tCons (uV 0) (tCons (tC (.ty "str")) tNil))))) (uB (tOp (uEq K) (uV 0) (tC (.str (sOf [])))))) (tRet (tC (.bl false))) tNext) (tRet (uAndV (tCan pis_letter E0 (tCons (tOp (uIx K) (uV 0) (tC (.int 0))) tNil)) (tOp (uIn K false) (tSl (uSl K) (uV 0) (tPart (tC (.int 1))) tNoPart) (tTup (tCons (tC (.str (sOf []))) (tCons (tC (.str (sOf [39]))) tNil)))))))
theorem d_is_step {P : Program} {w : World} {K : PySem.W.Frag} {mg : Str → Option Value} {base : Heap} {f : Addr} {cdv : Value} {A : Around} {outer : List Env} {s0 : Shared} {H0 : Hp} {E : XK} {c : Ad} {pis_letter : Sp} {k : Nat} (T : Txt K mg c) (hr : Room (k + 1) (X0 P w K mg base N_is_step "is_step" s_is_step f cdv A outer s0 H0 E).A) (h_is_letter : Has P w K mg base CX0 k "is_letter" pis_letter) :
    PSs (X0 P w K mg base N_is_step "is_step" s_is_step f cdv A outer s0 H0 E) (defBody s_is_step) (t_is_step K c pis_letter) := by
  have hu := hu201 hr
  have hu2 := hu202 hr
  exact (pss_cons (ps_if (PW.pt (pw_or (pt_not (pt_u (pe_callB cr_uIsi (by rfl) T.isinstance (by decide +kernel) (pa_cons (pe_uv 0) (pa_cons (pe_bltn rfl T.str (by decide +kernel) rfl) pa_nil))))) (pw_or1 (pt_uc (op_uEq hu) (pe_uv 0) (pe_lit (l := []) (by decide +kernel)) (nomark _))))) (pss_one (ps_ret pe_bl)) pss_nil) (pss_one (ps_ret (pe_andU (pe_can (h_is_letter.can hr) (pa_cons (pe_ix ix_u (pe_uv 0) pe_int (fun _ _ => rfl)) pa_nil)) (pe_one (pe_cmpR (op_uIn hu2) (pe_slice sl_u (pe_uv 0) (po_some pe_int) po_none) (pe_tup (pa_cons (pe_lit (l := []) (by decide +kernel)) (pa_cons (pe_lit (l := [39]) (by decide +kernel)) pa_nil))) rfl))))))

abbrev s_is_item : Stmt := top 13
abbrev N_is_item : List Str := ["thing"]
theorem sc_is_item : FnScope N_is_item ["thing"] (defScope s_is_item) := ⟨rfl, rfl, rfl, by decide +kernel, rfl, by decide +kernel, by decide +kernel⟩
def t_is_item (K : PySem.W.Frag) (c : Ad) (pis_step pis_mark : Sp) : TS :=
  (tSeq (tIfS (uB (tCan pis_step E0 (tCons (uV 0) tNil))) (tRet (tC (.bl true))) tNext) (tRet (uAndV (tCB (uIsi K) (tCons (uV 0) (tCons (tC (.ty "str")) tNil))) (uAndV (tOp (uEq K) (tCB (uLen K) (tCons (uV 0) tNil)) (tC (.int 2))) (uAndV (tOp (uEq K) (tOp (uIx K) (uV 0) (tC (.int 0))) (tC (.str (sOf [63])))) (tCan pis_mark E0 (tCons (tOp (uIx K) (uV 0) (tC (.int 1))) tNil)))))))
theorem d_is_item {P : Program} {w : World} {K : PySem.W.Frag} {mg : Str → Option Value} {base : Heap} {f : Addr} {cdv : Value} {A : Around} {outer : List Env} {s0 : Shared} {H0 : Hp} {E : XK} {c : Ad} {pis_step pis_mark : Sp} {k : Nat} (T : Txt K mg c) (hr : Room (k + 1) (X0 P w K mg base N_is_item "is_item" s_is_item f cdv A outer s0 H0 E).A) (h_is_step : Has P w K mg base CX0 k "is_step" pis_step) (h_is_mark : Has P w K mg base CX0 k "is_mark" pis_mark) :
    PSs (X0 P w K mg base N_is_item "is_item" s_is_item f cdv A outer s0 H0 E) (defBody s_is_item) (t_is_item K c pis_step pis_mark) := by
  have hu := hu201 hr
  exact (pss_cons (ps_if (pt_u (pe_can (h_is_step.can hr) (pa_cons (pe_uv 0) pa_nil))) (pss_one (ps_ret pe_bl)) pss_nil) (pss_one (ps_ret (pe_andU (pe_callB cr_uIsi (by rfl) T.isinstance (by decide +kernel) (pa_cons (pe_uv 0) (pa_cons (pe_bltn rfl T.str (by decide +kernel) rfl) pa_nil))) (pe_andU (pe_cmpR (op_uEq hu) (pe_callB cr_uLen (by rfl) T.len (by decide +kernel) (pa_cons (pe_uv 0) pa_nil)) pe_int (nomark _)) (pe_andU (pe_cmpR (op_uEq hu) (pe_ix ix_u (pe_uv 0) pe_int (fun _ _ => rfl)) (pe_lit (l := [63]) (by decide +kernel)) (nomark _)) (pe_one (pe_can (h_is_mark.can hr) (pa_cons (pe_ix ix_u (pe_uv 0) pe_int (fun _ _ => rfl)) pa_nil)))))))))

abbrev s__in_brackets : Stmt := top 25
abbrev N__in_brackets : List Str := ["pattern"]
theorem sc__in_brackets : FnScope N__in_brackets ["pattern"] (defScope s__in_brackets) := ⟨rfl, rfl, rfl, by decide +kernel, rfl, by decide +kernel, by decide +kernel⟩
def t__in_brackets (K : PySem.W.Frag) (c : Ad) : TS :=
  (tRet (tOp (uAdd K) (tOp (uAdd K) (tC (.str (sOf [40]))) (tFld K (uV 0) "_text")) (tC (.str (sOf [41])))))
theorem d__in_brackets {P : Program} {w : World} {K : PySem.W.Frag} {mg : Str → Option Value} {base : Heap} {f : Addr} {cdv : Value} {A : Around} {outer : List Env} {s0 : Shared} {H0 : Hp} {E : XK} {c : Ad} {k : Nat} (T : Txt K mg c) (hr : Room (k + 1) (X0 P w K mg base N__in_brackets "_in_brackets" s__in_brackets f cdv A outer s0 H0 E).A) :
    PSs (X0 P w K mg base N__in_brackets "_in_brackets" s__in_brackets f cdv A outer s0 H0 E) (defBody s__in_brackets) (t__in_brackets K c) := by
  exact (pss_one (ps_ret (pe_op op_uAdd (pe_op op_uAdd (pe_lit (l := [40]) (by decide +kernel)) (pe_fld (pe_uv 0) rfl)) (pe_lit (l := [41]) (by decide +kernel)))))

abbrev s_then : Stmt := top 26
abbrev N_then : List Str := ["parts", "row", "part"]
theorem sc_then : FnScope N_then ["parts"] (defScope s_then) := ⟨rfl, rfl, rfl, by decide +kernel, rfl, by decide +kernel, by decide +kernel⟩
def t_then (K : PySem.W.Frag) (c : Ad) (mNothing mStay mThen : Sp) (E : XK) : TS :=
  (tSeq (tAsg (tLst tNil) (gName 1)) (tSeq (tFor (iTup K (uV 0)) (gName 2) (tSeq (tIfS (uB (tCB (uIsi K) (tCons (uV 2) (tCons (tC (.ref c.Nothing)) tNil)))) (tRet (StX.tMakeR c.Nothing mNothing E tNil)) tNext) (tIfS (uB (tCB (uIsi K) (tCons (uV 2) (tCons (tC (.ref c.Then)) tNil)))) (tDrop (tBM K "list" (uExt K) (uV 1) (tCons (tFld K (uV 2) "parts") tNil))) (tIfS (tNot (uB (tCB (uIsi K) (tCons (uV 2) (tCons (tC (.ref c.Stay)) tNil))))) (tDrop (tBM K "list" uApp (uV 1) (tCons (uV 2) tNil))) tNext)))) (tSeq (tIfS (uB (tOp (uEq K) (tCB (uLen K) (tCons (uV 1) tNil)) (tC (.int 0)))) (tRet (StX.tMakeR c.Stay mStay E tNil)) tNext) (tSeq (tIfS (uB (tOp (uEq K) (tCB (uLen K) (tCons (uV 1) tNil)) (tC (.int 1)))) (tRet (tOp (uIx K) (uV 1) (tC (.int 0)))) tNext) (tRet (StX.tMakeR c.Then mThen E (tCons (tCB (uTup K) (tCons (uV 1) tNil)) tNil)))))))
theorem d_then {P : Program} {w : World} {K : PySem.W.Frag} {mg : Str → Option Value} {base : Heap} {f : Addr} {cdv : Value} {A : Around} {outer : List Env} {s0 : Shared} {H0 : Hp} {E : XK} {c : Ad} {mNothing mStay mThen : Sp} {k : Nat} (T : Txt K mg c) (hr : Room (k + 1) (XR P w K mg base N_then "then" s_then f cdv A outer s0 H0 E).A) (m_Nothing : HasMk P w K mg base (CX P w) k "Nothing" c.Nothing mNothing) (m_Stay : HasMk P w K mg base (CX P w) k "Stay" c.Stay mStay) (m_Then : HasMk P w K mg base (CX P w) k "Then" c.Then mThen) :
    PSs (XR P w K mg base N_then "then" s_then f cdv A outer s0 H0 E) (defBody s_then) (t_then K c mNothing mStay mThen E) := by
  have hu := hu201 hr
  have po : PassesOwn (model (XR P w K mg base N_then "then" s_then f cdv A outer s0 H0 E).prog (XR P w K mg base N_then "then" s_then f cdv A outer s0 H0 E).w) (XR P w K mg base N_then "then" s_then f cdv A outer s0 H0 E).A (XR P w K mg base N_then "then" s_then f cdv A outer s0 H0 E).env (XR P w K mg base N_then "then" s_then f cdv A outer s0 H0 E).xe := passes_of rfl
  have tkE : Takes (XR P w K mg base N_then "then" s_then f cdv A outer s0 H0 E) (fun cls d _ H => E cls d H) := takes_of rfl rfl rfl rfl
  exact (pss_cons (ps_set (i := 1) sc_then.nd rfl (Or.inl rfl) (pe_lst pa_nil)) (pss_cons (ps_for po rfl (pi_tup (pe_uv 0)) (pg_name (i := 2) sc_then.nd rfl (Or.inl rfl)) (pss_cons (ps_if (pt_u (pe_callB cr_uIsi (by rfl) T.isinstance (by decide +kernel) (pa_cons (pe_uv 2) (pa_cons (pe_gs T.g_Nothing) pa_nil)))) (pss_one (ps_ret (pe_mk0 (m_Nothing.canX hr tkE)))) pss_nil) (pss_one (ps_if (pt_u (pe_callB cr_uIsi (by rfl) T.isinstance (by decide +kernel) (pa_cons (pe_uv 2) (pa_cons (pe_gs T.g_Then) pa_nil)))) (pss_one (ps_expr (pe_ext (pe_uv 1) (pa_cons (pe_fld (pe_uv 2) rfl) pa_nil)))) (pss_one (ps_if (pt_not (pt_u (pe_callB cr_uIsi (by rfl) T.isinstance (by decide +kernel) (pa_cons (pe_uv 2) (pa_cons (pe_gs T.g_Stay) pa_nil))))) (pss_one (ps_expr (pe_app (pe_uv 1) (pa_cons (pe_uv 2) pa_nil)))) pss_nil)))))) (pss_cons (ps_if (pt_uc (op_uEq hu) (pe_callB cr_uLen (by rfl) T.len (by decide +kernel) (pa_cons (pe_uv 1) pa_nil)) pe_int (nomark _)) (pss_one (ps_ret (pe_mk0 (m_Stay.canX hr tkE)))) pss_nil) (pss_cons (ps_if (pt_uc (op_uEq hu) (pe_callB cr_uLen (by rfl) T.len (by decide +kernel) (pa_cons (pe_uv 1) pa_nil)) pe_int (nomark _)) (pss_one (ps_ret (pe_ix ix_u (pe_uv 1) pe_int (fun _ _ => rfl)))) pss_nil) (pss_one (ps_ret (pe_mk (m_Then.canX hr tkE) (pa_cons (pe_callTy cr_uTup (by rfl) T.tuple (by decide +kernel) (pa_cons (pe_uv 1) pa_nil)) pa_nil))))))))

abbrev s_either : Stmt := top 27
abbrev N_either : List Str := ["parts", "row", "seen", "part", "inner", "one"]
theorem sc_either : FnScope N_either ["parts"] (defScope s_either) := ⟨rfl, rfl, rfl, by decide +kernel, rfl, by decide +kernel, by decide +kernel⟩
def t_either (K : PySem.W.Frag) (c : Ad) (mNothing mEither : Sp) (E : XK) : TS :=
  (tSeq (tAsg (tLst tNil) (gName 1)) (tSeq (tAsg tDNewK (gName 2)) (tSeq (tFor (iTup K (uV 0)) (gName 3) (tSeq (tAsg (tIf (uB (tCB (uIsi K) (tCons (uV 3) (tCons (tC (.ref c.Either)) tNil)))) (tFld K (uV 3) "parts") (tTup (tCons (uV 3) tNil))) (gName 4)) (tFor (iTup K (uV 4)) (gName 5) (tIfS (tAnd (tNot (uB (tCB (uIsi K) (tCons (uV 5) (tCons (tC (.ref c.Nothing)) tNil))))) (tB (tDNotIn (tFld K (uV 5) "_text") (uV 2)))) (tSeq (sDPut (uV 2) (tFld K (uV 5) "_text") (tC (.bl true))) (tDrop (tBM K "list" uApp (uV 1) (tCons (uV 5) tNil)))) tNext)))) (tSeq (tIfS (uB (tOp (uEq K) (tCB (uLen K) (tCons (uV 1) tNil)) (tC (.int 0)))) (tRet (StX.tMakeR c.Nothing mNothing E tNil)) tNext) (tSeq (tIfS (uB (tOp (uEq K) (tCB (uLen K) (tCons (uV 1) tNil)) (tC (.int 1)))) (tRet (tOp (uIx K) (uV 1) (tC (.int 0)))) tNext) (tRet (StX.tMakeR c.Either mEither E (tCons (tCB (uTup K) (tCons (uV 1) tNil)) tNil))))))))
theorem d_either {P : Program} {w : World} {K : PySem.W.Frag} {mg : Str → Option Value} {base : Heap} {f : Addr} {cdv : Value} {A : Around} {outer : List Env} {s0 : Shared} {H0 : Hp} {E : XK} {c : Ad} {mNothing mEither : Sp} {k : Nat} (T : Txt K mg c) (hr : Room (k + 1) (XR P w K mg base N_either "either" s_either f cdv A outer s0 H0 E).A) (m_Nothing : HasMk P w K mg base (CX P w) k "Nothing" c.Nothing mNothing) (m_Either : HasMk P w K mg base (CX P w) k "Either" c.Either mEither) :
    PSs (XR P w K mg base N_either "either" s_either f cdv A outer s0 H0 E) (defBody s_either) (t_either K c mNothing mEither E) := by
  have hu := hu201 hr
  have hu1 := hu_of hr
  have po : PassesOwn (model (XR P w K mg base N_either "either" s_either f cdv A outer s0 H0 E).prog (XR P w K mg base N_either "either" s_either f cdv A outer s0 H0 E).w) (XR P w K mg base N_either "either" s_either f cdv A outer s0 H0 E).A (XR P w K mg base N_either "either" s_either f cdv A outer s0 H0 E).env (XR P w K mg base N_either "either" s_either f cdv A outer s0 H0 E).xe := passes_of rfl
  have tkE : Takes (XR P w K mg base N_either "either" s_either f cdv A outer s0 H0 E) (fun cls d _ H => E cls d H) := takes_of rfl rfl rfl rfl
  exact (pss_cons (ps_set (i := 1) sc_either.nd rfl (Or.inl rfl) (pe_lst pa_nil)) (pss_cons (ps_set (i := 2) sc_either.nd rfl (Or.inl rfl) pe_dnewK) (pss_cons (ps_for po rfl (pi_tup (pe_uv 0)) (pg_name (i := 3) sc_either.nd rfl (Or.inl rfl)) (pss_cons (ps_set (i := 4) sc_either.nd rfl (Or.inl rfl) (pe_ifExp (pt_u (pe_callB cr_uIsi (by rfl) T.isinstance (by decide +kernel) (pa_cons (pe_uv 3) (pa_cons (pe_gs T.g_Either) pa_nil)))) (pe_fld (pe_uv 3) rfl) (pe_tup (pa_cons (pe_uv 3) pa_nil)))) (pss_one (ps_for po rfl (pi_tup (pe_uv 4)) (pg_name (i := 5) sc_either.nd rfl (Or.inl rfl)) (pss_one (ps_if (PW.pt (pw_and (pt_not (pt_u (pe_callB cr_uIsi (by rfl) T.isinstance (by decide +kernel) (pa_cons (pe_uv 5) (pa_cons (pe_gs T.g_Nothing) pa_nil))))) (pw_and1 (pt_cmp (pc_dnotin hu1 (pe_fld (pe_uv 5) rfl) (pe_uv 2)))))) (pss_cons (ps_dput hu1 (pe_uv 2) (pe_fld (pe_uv 5) rfl) pe_bl rfl) (pss_one (ps_expr (pe_app (pe_uv 1) (pa_cons (pe_uv 5) pa_nil))))) pss_nil)))))) (pss_cons (ps_if (pt_uc (op_uEq hu) (pe_callB cr_uLen (by rfl) T.len (by decide +kernel) (pa_cons (pe_uv 1) pa_nil)) pe_int (nomark _)) (pss_one (ps_ret (pe_mk0 (m_Nothing.canX hr tkE)))) pss_nil) (pss_cons (ps_if (pt_uc (op_uEq hu) (pe_callB cr_uLen (by rfl) T.len (by decide +kernel) (pa_cons (pe_uv 1) pa_nil)) pe_int (nomark _)) (pss_one (ps_ret (pe_ix ix_u (pe_uv 1) pe_int (fun _ _ => rfl)))) pss_nil) (pss_one (ps_ret (pe_mk (m_Either.canX hr tkE) (pa_cons (pe_callTy cr_uTup (by rfl) T.tuple (by decide +kernel) (pa_cons (pe_uv 1) pa_nil)) pa_nil)))))))))

abbrev s_again : Stmt := top 28
abbrev N_again : List Str := ["body"]
theorem sc_again : FnScope N_again ["body"] (defScope s_again) := ⟨rfl, rfl, rfl, by decide +kernel, rfl, by decide +kernel, by decide +kernel⟩
def t_again (K : PySem.W.Frag) (c : Ad) (mStay mMany : Sp) (E : XK) : TS :=
  (tSeq (tIfS (tOr (uB (tCB (uIsi K) (tCons (uV 0) (tCons (tC (.ref c.Nothing)) tNil)))) (uB (tCB (uIsi K) (tCons (uV 0) (tCons (tC (.ref c.Stay)) tNil))))) (tRet (StX.tMakeR c.Stay mStay E tNil)) tNext) (tSeq (tIfS (uB (tCB (uIsi K) (tCons (uV 0) (tCons (tC (.ref c.Many)) tNil)))) (tRet (uV 0)) tNext) (tRet (StX.tMakeR c.Many mMany E (tCons (uV 0) tNil)))))
theorem d_again {P : Program} {w : World} {K : PySem.W.Frag} {mg : Str → Option Value} {base : Heap} {f : Addr} {cdv : Value} {A : Around} {outer : List Env} {s0 : Shared} {H0 : Hp} {E : XK} {c : Ad} {mStay mMany : Sp} {k : Nat} (T : Txt K mg c) (hr : Room (k + 1) (XR P w K mg base N_again "again" s_again f cdv A outer s0 H0 E).A) (m_Stay : HasMk P w K mg base (CX P w) k "Stay" c.Stay mStay) (m_Many : HasMk P w K mg base (CX P w) k "Many" c.Many mMany) :
    PSs (XR P w K mg base N_again "again" s_again f cdv A outer s0 H0 E) (defBody s_again) (t_again K c mStay mMany E) := by
  have tkE : Takes (XR P w K mg base N_again "again" s_again f cdv A outer s0 H0 E) (fun cls d _ H => E cls d H) := takes_of rfl rfl rfl rfl
  exact (pss_cons (ps_if (PW.pt (pw_or (pt_u (pe_callB cr_uIsi (by rfl) T.isinstance (by decide +kernel) (pa_cons (pe_uv 0) (pa_cons (pe_gs T.g_Nothing) pa_nil)))) (pw_or1 (pt_u (pe_callB cr_uIsi (by rfl) T.isinstance (by decide +kernel) (pa_cons (pe_uv 0) (pa_cons (pe_gs T.g_Stay) pa_nil))))))) (pss_one (ps_ret (pe_mk0 (m_Stay.canX hr tkE)))) pss_nil) (pss_cons (ps_if (pt_u (pe_callB cr_uIsi (by rfl) T.isinstance (by decide +kernel) (pa_cons (pe_uv 0) (pa_cons (pe_gs T.g_Many) pa_nil)))) (pss_one (ps_ret (pe_uv 0))) pss_nil) (pss_one (ps_ret (pe_mk (m_Many.canX hr tkE) (pa_cons (pe_uv 0) pa_nil))))))

abbrev s_read_pattern : Stmt := top 31
abbrev N_read_pattern : List Str := ["text", "signs", "many", "sign"]
theorem sc_read_pattern : FnScope N_read_pattern ["text"] (defScope s_read_pattern) := ⟨rfl, rfl, rfl, by decide +kernel, rfl, by decide +kernel, by decide +kernel⟩
def t_read_pattern (K : PySem.W.Frag) (c : Ad) (p_signs_of pis_item p_built : Sp) (E : XK) : TS :=
  (tSeq (tAsg (tCan p_signs_of E (tCons (uV 0) tNil)) (gName 1)) (tSeq (tAsg (tCB (uLen K) (tCons (tLc (iList K (uV 1)) (gName 3) (uB (tCan pis_item E0 (tCons (uV 3) tNil))) (uV 3) [3]) tNil)) (gName 2)) (tSeq (tIfS (uB (tOp (uGt) (uV 2) (tC (.int 2000)))) (tRz c.TooLong "many" E (tCons (uV 2) tNil)) tNext) (tRet (tCan p_built E (tCons (uV 1) tNil))))))
theorem d_read_pattern {P : Program} {w : World} {K : PySem.W.Frag} {mg : Str → Option Value} {base : Heap} {f : Addr} {cdv : Value} {A : Around} {outer : List Env} {s0 : Shared} {H0 : Hp} {E : XK} {c : Ad} {p_signs_of pis_item p_built : Sp} {k : Nat} (T : Txt K mg c) (hr : Room (k + 1) (XR P w K mg base N_read_pattern "read_pattern" s_read_pattern f cdv A outer s0 H0 E).A) (h__signs_of : Has P w K mg base (CX P w) k "_signs_of" p_signs_of) (h_is_item : Has P w K mg base CX0 k "is_item" pis_item) (h__built : Has P w K mg base (CX P w) k "_built" p_built) (e_TooLong : ExK P w K mg base k "TooLong" c.TooLong "many") :
    PSs (XR P w K mg base N_read_pattern "read_pattern" s_read_pattern f cdv A outer s0 H0 E) (defBody s_read_pattern) (t_read_pattern K c p_signs_of pis_item p_built E) := by
  have tkE : Takes (XR P w K mg base N_read_pattern "read_pattern" s_read_pattern f cdv A outer s0 H0 E) (fun cls d _ H => E cls d H) := takes_of rfl rfl rfl rfl
  exact (pss_cons (ps_set (i := 1) sc_read_pattern.nd rfl (Or.inl rfl) (pe_can (h__signs_of.canX hr tkE) (pa_cons (pe_uv 0) pa_nil))) (pss_cons (ps_set (i := 2) sc_read_pattern.nd rfl (Or.inl rfl) (pe_callB cr_uLen (by rfl) T.len (by decide +kernel) (pa_cons (pe_lc (own := [("sign", 3)]) (g := gName 3) (tt := (uB (tCan pis_item E0 (tCons (uV 3) tNil)))) rfl sc_read_pattern.nd (pi_list (pe_uv 1)) (blkOk_by (own := [("sign", 3)]) (N := N_read_pattern) (sc := defScope s_read_pattern) (by decide +kernel)) (fun _ _ _ _ _ => pg_name (i := 3) sc_read_pattern.nd rfl (Or.inl rfl)) (fun _ _ _ _ _ => (pts_one (pt_u (pe_can (h_is_item.can hr) (pa_cons (pe_uv 3) pa_nil))))) (fun _ _ _ _ _ => (pe_uv 3))) pa_nil))) (pss_cons (ps_if (pt_uc op_uGt (pe_uv 2) (pe_gs T.g_MOST_SIZE) (nomark _)) (pss_one (ps_rz (e_TooLong.can hr) rfl tkE (pa_cons (pe_uv 2) pa_nil))) pss_nil) (pss_one (ps_ret (pe_can (h__built.canX hr tkE) (pa_cons (pe_uv 1) pa_nil)))))))

abbrev s__signs_of : Stmt := top 32
abbrev N__signs_of : List Str := ["text", "signs", "before", "inside", "at", "sign"]
theorem sc__signs_of : FnScope N__signs_of ["text"] (defScope s__signs_of) := ⟨rfl, rfl, rfl, by decide +kernel, rfl, by decide +kernel, by decide +kernel⟩
def t__signs_of (K : PySem.W.Frag) (c : Ad) (p_sign_at p_may_stand : Sp) (E : XK) : TS :=
  (tSeq (tAsg (tLst tNil) (gName 1)) (tSeq (tAsg (tC (.str (sOf [124]))) (gName 2)) (tSeq (tAsg (tC (.int 0)) (gName 3)) (tSeq (tAsg (tC (.int 0)) (gName 4)) (tSeq (tWhile (uB (tOp (uLt) (uV 4) (tCB (uLen K) (tCons (uV 0) tNil)))) (tIfS (uB (tOp (uEq K) (tOp (uIx K) (uV 0) (uV 4)) (tC (.str (sOf [32]))))) (tAug 4 (tC (.int 1)) (ipI fun i j => i + j)) (tSeq (tAsg (tCan p_sign_at E (tCons (uV 0) (tCons (uV 4) tNil))) (gName 5)) (tSeq (tIfS (tNot (uB (tCan p_may_stand E0 (tCons (uV 5) (tCons (uV 2) (tCons (uV 3) tNil)))))) (tRz c.BadText "at" E (tCons (uV 4) tNil)) tNext) (tSeq (tIfS (uB (tOp (uEq K) (uV 5) (tC (.str (sOf [40]))))) (tAug 3 (tC (.int 1)) (ipI fun i j => i + j)) tNext) (tSeq (tIfS (uB (tOp (uEq K) (uV 5) (tC (.str (sOf [41]))))) (tAug 3 (tC (.int 1)) (ipI fun i j => i - j)) tNext) (tSeq (tDrop (tBM K "list" uApp (uV 1) (tCons (uV 5) tNil))) (tSeq (tAsg (uV 5) (gName 2)) (tAug 4 (tCB (uLen K) (tCons (uV 5) tNil)) (ipI fun i j => i + j)))))))))) (tSeq (tIfS (tOr (uB (tOp (uIn K false) (uV 2) (tTup (tCons (tC (.str (sOf [40]))) (tCons (tC (.str (sOf [124]))) tNil))))) (uB (tOp (uGt) (uV 3) (tC (.int 0))))) (tRz c.BadText "at" E (tCons (tCB (uLen K) (tCons (uV 0) tNil)) tNil)) tNext) (tRet (uV 1))))))))
theorem d__signs_of {P : Program} {w : World} {K : PySem.W.Frag} {mg : Str → Option Value} {base : Heap} {f : Addr} {cdv : Value} {A : Around} {outer : List Env} {s0 : Shared} {H0 : Hp} {E : XK} {c : Ad} {p_sign_at p_may_stand : Sp} {k : Nat} (T : Txt K mg c) (hr : Room (k + 1) (XR P w K mg base N__signs_of "_signs_of" s__signs_of f cdv A outer s0 H0 E).A) (h__sign_at : Has P w K mg base (CX P w) k "_sign_at" p_sign_at) (h__may_stand : Has P w K mg base CX0 k "_may_stand" p_may_stand) (e_BadText : ExK P w K mg base k "BadText" c.BadText "at") :
    PSs (XR P w K mg base N__signs_of "_signs_of" s__signs_of f cdv A outer s0 H0 E) (defBody s__signs_of) (t__signs_of K c p_sign_at p_may_stand E) := by
  have hu := hu201 hr
  have hu2 := hu202 hr
  have po : PassesOwn (model (XR P w K mg base N__signs_of "_signs_of" s__signs_of f cdv A outer s0 H0 E).prog (XR P w K mg base N__signs_of "_signs_of" s__signs_of f cdv A outer s0 H0 E).w) (XR P w K mg base N__signs_of "_signs_of" s__signs_of f cdv A outer s0 H0 E).A (XR P w K mg base N__signs_of "_signs_of" s__signs_of f cdv A outer s0 H0 E).env (XR P w K mg base N__signs_of "_signs_of" s__signs_of f cdv A outer s0 H0 E).xe := passes_of rfl
  have tkE : Takes (XR P w K mg base N__signs_of "_signs_of" s__signs_of f cdv A outer s0 H0 E) (fun cls d _ H => E cls d H) := takes_of rfl rfl rfl rfl
  exact (pss_cons (ps_set (i := 1) sc__signs_of.nd rfl (Or.inl rfl) (pe_lst pa_nil)) (pss_cons (ps_set (i := 2) sc__signs_of.nd rfl (Or.inl rfl) (pe_lit (l := [124]) (by decide +kernel))) (pss_cons (ps_set (i := 3) sc__signs_of.nd rfl (Or.inl rfl) pe_int) (pss_cons (ps_set (i := 4) sc__signs_of.nd rfl (Or.inl rfl) pe_int) (pss_cons (ps_while po (pt_uc op_uLt (pe_uv 4) (pe_callB cr_uLen (by rfl) T.len (by decide +kernel) (pa_cons (pe_uv 0) pa_nil)) (nomark _)) (pss_one (ps_if (pt_uc (op_uEq hu) (pe_ix ix_u (pe_uv 0) (pe_uv 4) (fun _ _ => rfl)) (pe_lit (l := [32]) (by decide +kernel)) (nomark _)) (pss_one (ps_aug (i := 4) sc__signs_of.nd rfl (Or.inl rfl) pe_int ip_add)) (pss_cons (ps_set (i := 5) sc__signs_of.nd rfl (Or.inl rfl) (pe_can (h__sign_at.canX hr tkE) (pa_cons (pe_uv 0) (pa_cons (pe_uv 4) pa_nil)))) (pss_cons (ps_if (pt_not (pt_u (pe_can (h__may_stand.can hr) (pa_cons (pe_uv 5) (pa_cons (pe_uv 2) (pa_cons (pe_uv 3) pa_nil)))))) (pss_one (ps_rz (e_BadText.can hr) rfl tkE (pa_cons (pe_uv 4) pa_nil))) pss_nil) (pss_cons (ps_if (pt_uc (op_uEq hu) (pe_uv 5) (pe_lit (l := [40]) (by decide +kernel)) (nomark _)) (pss_one (ps_aug (i := 3) sc__signs_of.nd rfl (Or.inl rfl) pe_int ip_add)) pss_nil) (pss_cons (ps_if (pt_uc (op_uEq hu) (pe_uv 5) (pe_lit (l := [41]) (by decide +kernel)) (nomark _)) (pss_one (ps_aug (i := 3) sc__signs_of.nd rfl (Or.inl rfl) pe_int ip_sub)) pss_nil) (pss_cons (ps_expr (pe_app (pe_uv 1) (pa_cons (pe_uv 5) pa_nil))) (pss_cons (ps_set (i := 2) sc__signs_of.nd rfl (Or.inl rfl) (pe_uv 5)) (pss_one (ps_aug (i := 4) sc__signs_of.nd rfl (Or.inl rfl) (pe_callB cr_uLen (by rfl) T.len (by decide +kernel) (pa_cons (pe_uv 5) pa_nil)) ip_add))))))))))) (pss_cons (ps_if (PW.pt (pw_or (pt_uc (op_uIn hu2) (pe_uv 2) (pe_tup (pa_cons (pe_lit (l := [40]) (by decide +kernel)) (pa_cons (pe_lit (l := [124]) (by decide +kernel)) pa_nil))) rfl) (pw_or1 (pt_uc op_uGt (pe_uv 3) pe_int (nomark _))))) (pss_one (ps_rz (e_BadText.can hr) rfl tkE (pa_cons (pe_callB cr_uLen (by rfl) T.len (by decide +kernel) (pa_cons (pe_uv 0) pa_nil)) pa_nil))) pss_nil) (pss_one (ps_ret (pe_uv 1)))))))))

abbrev s__sign_at : Stmt := top 33
abbrev N__sign_at : List Str := ["text", "at"]
theorem sc__sign_at : FnScope N__sign_at ["text", "at"] (defScope s__sign_at) := ⟨rfl, rfl, rfl, by decide +kernel, rfl, by decide +kernel, by decide +kernel⟩
def t__sign_at (K : PySem.W.Frag) (c : Ad) (pis_mark pis_letter : Sp) (E : XK) : TS :=
  (tSeq (tIfS (uB (tOp (uEq K) (tOp (uIx K) (uV 0) (uV 1)) (tC (.str (sOf [63]))))) (tSeq (tIfS (tNot (uB (tCan pis_mark E0 (tCons (tSl (uSl K) (uV 0) (tPart (tOp (uAdd K) (uV 1) (tC (.int 1)))) (tPart (tOp (uAdd K) (uV 1) (tC (.int 2))))) tNil)))) (tRz c.BadText "at" E (tCons (tOp (uAdd K) (uV 1) (tC (.int 1))) tNil)) tNext) (tRet (tSl (uSl K) (uV 0) (tPart (uV 1)) (tPart (tOp (uAdd K) (uV 1) (tC (.int 2))))))) tNext) (tSeq (tIfS (tAnd (uB (tCan pis_letter E0 (tCons (tOp (uIx K) (uV 0) (uV 1)) tNil))) (uB (tOp (uEq K) (tSl (uSl K) (uV 0) (tPart (tOp (uAdd K) (uV 1) (tC (.int 1)))) (tPart (tOp (uAdd K) (uV 1) (tC (.int 2))))) (tC (.str (sOf [39])))))) (tRet (tSl (uSl K) (uV 0) (tPart (uV 1)) (tPart (tOp (uAdd K) (uV 1) (tC (.int 2)))))) tNext) (tRet (tOp (uIx K) (uV 0) (uV 1)))))
theorem d__sign_at {P : Program} {w : World} {K : PySem.W.Frag} {mg : Str → Option Value} {base : Heap} {f : Addr} {cdv : Value} {A : Around} {outer : List Env} {s0 : Shared} {H0 : Hp} {E : XK} {c : Ad} {pis_mark pis_letter : Sp} {k : Nat} (T : Txt K mg c) (hr : Room (k + 1) (XR P w K mg base N__sign_at "_sign_at" s__sign_at f cdv A outer s0 H0 E).A) (h_is_mark : Has P w K mg base CX0 k "is_mark" pis_mark) (h_is_letter : Has P w K mg base CX0 k "is_letter" pis_letter) (e_BadText : ExK P w K mg base k "BadText" c.BadText "at") :
    PSs (XR P w K mg base N__sign_at "_sign_at" s__sign_at f cdv A outer s0 H0 E) (defBody s__sign_at) (t__sign_at K c pis_mark pis_letter E) := by
  have hu := hu201 hr
  have tkE : Takes (XR P w K mg base N__sign_at "_sign_at" s__sign_at f cdv A outer s0 H0 E) (fun cls d _ H => E cls d H) := takes_of rfl rfl rfl rfl
  exact (pss_cons (ps_if (pt_uc (op_uEq hu) (pe_ix ix_u (pe_uv 0) (pe_uv 1) (fun _ _ => rfl)) (pe_lit (l := [63]) (by decide +kernel)) (nomark _)) (pss_cons (ps_if (pt_not (pt_u (pe_can (h_is_mark.can hr) (pa_cons (pe_slice sl_u (pe_uv 0) (po_some (pe_op op_uAdd (pe_uv 1) pe_int)) (po_some (pe_op op_uAdd (pe_uv 1) pe_int))) pa_nil)))) (pss_one (ps_rz (e_BadText.can hr) rfl tkE (pa_cons (pe_op op_uAdd (pe_uv 1) pe_int) pa_nil))) pss_nil) (pss_one (ps_ret (pe_slice sl_u (pe_uv 0) (po_some (pe_uv 1)) (po_some (pe_op op_uAdd (pe_uv 1) pe_int)))))) pss_nil) (pss_cons (ps_if (PW.pt (pw_and (pt_u (pe_can (h_is_letter.can hr) (pa_cons (pe_ix ix_u (pe_uv 0) (pe_uv 1) (fun _ _ => rfl)) pa_nil))) (pw_and1 (pt_uc (op_uEq hu) (pe_slice sl_u (pe_uv 0) (po_some (pe_op op_uAdd (pe_uv 1) pe_int)) (po_some (pe_op op_uAdd (pe_uv 1) pe_int))) (pe_lit (l := [39]) (by decide +kernel)) (nomark _))))) (pss_one (ps_ret (pe_slice sl_u (pe_uv 0) (po_some (pe_uv 1)) (po_some (pe_op op_uAdd (pe_uv 1) pe_int))))) pss_nil) (pss_one (ps_ret (pe_ix ix_u (pe_uv 0) (pe_uv 1) (fun _ _ => rfl))))))

abbrev s__may_stand : Stmt := top 34
abbrev N__may_stand : List Str := ["sign", "before", "inside"]
theorem sc__may_stand : FnScope N__may_stand ["sign", "before", "inside"] (defScope s__may_stand) := ⟨rfl, rfl, rfl, by decide +kernel, rfl, by decide +kernel, by decide +kernel⟩
def t__may_stand (K : PySem.W.Frag) (c : Ad) (pis_item : Sp) : TS :=
  (tSeq (tIfS (uB (tOp (uEq K) (uV 0) (tC (.str (sOf [40]))))) (tRet (tOp (uLt) (uV 2) (tC (.int 60)))) tNext) (tSeq (tIfS (tOr (uB (tOp (uIn K false) (uV 0) (tTup (tCons (tC (.str (sOf [48]))) (tCons (tC (.str (sOf [49]))) tNil))))) (uB (tCan pis_item E0 (tCons (uV 0) tNil)))) (tRet (tC (.bl true))) tNext) (tSeq (tIfS (uB (tOp (uIn K false) (uV 1) (tTup (tCons (tC (.str (sOf [40]))) (tCons (tC (.str (sOf [124]))) tNil))))) (tRet (tC (.bl false))) tNext) (tSeq (tIfS (uB (tOp (uEq K) (uV 0) (tC (.str (sOf [42]))))) (tRet (tOp (uNe K) (uV 1) (tC (.str (sOf [42]))))) tNext) (tSeq (tIfS (uB (tOp (uEq K) (uV 0) (tC (.str (sOf [41]))))) (tRet (tOp (uGt) (uV 2) (tC (.int 0)))) tNext) (tRet (tOp (uEq K) (uV 0) (tC (.str (sOf [124]))))))))))
theorem d__may_stand {P : Program} {w : World} {K : PySem.W.Frag} {mg : Str → Option Value} {base : Heap} {f : Addr} {cdv : Value} {A : Around} {outer : List Env} {s0 : Shared} {H0 : Hp} {E : XK} {c : Ad} {pis_item : Sp} {k : Nat} (T : Txt K mg c) (hr : Room (k + 1) (X0 P w K mg base N__may_stand "_may_stand" s__may_stand f cdv A outer s0 H0 E).A) (h_is_item : Has P w K mg base CX0 k "is_item" pis_item) :
    PSs (X0 P w K mg base N__may_stand "_may_stand" s__may_stand f cdv A outer s0 H0 E) (defBody s__may_stand) (t__may_stand K c pis_item) := by
  have hu := hu201 hr
  have hu2 := hu202 hr
  exact (pss_cons (ps_if (pt_uc (op_uEq hu) (pe_uv 0) (pe_lit (l := [40]) (by decide +kernel)) (nomark _)) (pss_one (ps_ret (pe_cmpR op_uLt (pe_uv 2) (pe_gs T.g_MOST_BRACKETS) (nomark _)))) pss_nil) (pss_cons (ps_if (PW.pt (pw_or (pt_uc (op_uIn hu2) (pe_uv 0) (pe_tup (pa_cons (pe_lit (l := [48]) (by decide +kernel)) (pa_cons (pe_lit (l := [49]) (by decide +kernel)) pa_nil))) rfl) (pw_or1 (pt_u (pe_can (h_is_item.can hr) (pa_cons (pe_uv 0) pa_nil)))))) (pss_one (ps_ret pe_bl)) pss_nil) (pss_cons (ps_if (pt_uc (op_uIn hu2) (pe_uv 1) (pe_tup (pa_cons (pe_lit (l := [40]) (by decide +kernel)) (pa_cons (pe_lit (l := [124]) (by decide +kernel)) pa_nil))) rfl) (pss_one (ps_ret pe_bl)) pss_nil) (pss_cons (ps_if (pt_uc (op_uEq hu) (pe_uv 0) (pe_lit (l := [42]) (by decide +kernel)) (nomark _)) (pss_one (ps_ret (pe_cmpR (op_uNe hu) (pe_uv 1) (pe_lit (l := [42]) (by decide +kernel)) (nomark _)))) pss_nil) (pss_cons (ps_if (pt_uc (op_uEq hu) (pe_uv 0) (pe_lit (l := [41]) (by decide +kernel)) (nomark _)) (pss_one (ps_ret (pe_cmpR op_uGt (pe_uv 2) pe_int (nomark _)))) pss_nil) (pss_one (ps_ret (pe_cmpR (op_uEq hu) (pe_uv 0) (pe_lit (l := [124]) (by decide +kernel)) (nomark _)))))))))

abbrev s__built : Stmt := top 35
abbrev N__built : List Str := ["signs", "levels", "sign", "row", "ended"]
theorem sc__built : FnScope N__built ["signs"] (defScope s__built) := ⟨rfl, rfl, rfl, by decide +kernel, rfl, by decide +kernel, by decide +kernel⟩
def t__built (K : PySem.W.Frag) (c : Ad) (pagain p_alternative p_base : Sp) (E : XK) : TS :=
  (tSeq (tAsg (tLst (tCons (tLst (tCons (tLst tNil) tNil)) tNil)) (gName 1)) (tSeq (tFor (iList K (uV 0)) (gName 2) (tSeq (tAsg (tOp (uIx K) (tOp (uIx K) (uV 1) (tUn uNeg (tC (.int 1)))) (tUn uNeg (tC (.int 1)))) (gName 3)) (tIfS (uB (tOp (uEq K) (uV 2) (tC (.str (sOf [40]))))) (tDrop (tBM K "list" uApp (uV 1) (tCons (tLst (tCons (tLst tNil) tNil)) tNil))) (tIfS (uB (tOp (uEq K) (uV 2) (tC (.str (sOf [124]))))) (tDrop (tBM K "list" uApp (tOp (uIx K) (uV 1) (tUn uNeg (tC (.int 1)))) (tCons (tLst tNil) tNil))) (tIfS (uB (tOp (uEq K) (uV 2) (tC (.str (sOf [42]))))) (tAsg (tCan pagain E (tCons (tOp (uIx K) (uV 3) (tUn uNeg (tC (.int 1)))) tNil)) (gSub (uV 3) (tUn uNeg (tC (.int 1))) rSetL)) (tIfS (uB (tOp (uEq K) (uV 2) (tC (.str (sOf [41]))))) (tSeq (tAsg (tBM0 K "list" uPop (uV 1)) (gName 4)) (tDrop (tBM K "list" uApp (tOp (uIx K) (tOp (uIx K) (uV 1) (tUn uNeg (tC (.int 1)))) (tUn uNeg (tC (.int 1)))) (tCons (tCan p_alternative E (tCons (uV 4) tNil)) tNil)))) (tDrop (tBM K "list" uApp (uV 3) (tCons (tCan p_base E (tCons (uV 2) tNil)) tNil))))))))) (tRet (tCan p_alternative E (tCons (tOp (uIx K) (uV 1) (tC (.int 0))) tNil)))))
theorem d__built {P : Program} {w : World} {K : PySem.W.Frag} {mg : Str → Option Value} {base : Heap} {f : Addr} {cdv : Value} {A : Around} {outer : List Env} {s0 : Shared} {H0 : Hp} {E : XK} {c : Ad} {pagain p_alternative p_base : Sp} {k : Nat} (T : Txt K mg c) (hr : Room (k + 1) (XR P w K mg base N__built "_built" s__built f cdv A outer s0 H0 E).A) (h_again : Has P w K mg base (CX P w) k "again" pagain) (h__alternative : Has P w K mg base (CX P w) k "_alternative" p_alternative) (h__base : Has P w K mg base (CX P w) k "_base" p_base) :
    PSs (XR P w K mg base N__built "_built" s__built f cdv A outer s0 H0 E) (defBody s__built) (t__built K c pagain p_alternative p_base E) := by
  have hu := hu201 hr
  have po : PassesOwn (model (XR P w K mg base N__built "_built" s__built f cdv A outer s0 H0 E).prog (XR P w K mg base N__built "_built" s__built f cdv A outer s0 H0 E).w) (XR P w K mg base N__built "_built" s__built f cdv A outer s0 H0 E).A (XR P w K mg base N__built "_built" s__built f cdv A outer s0 H0 E).env (XR P w K mg base N__built "_built" s__built f cdv A outer s0 H0 E).xe := passes_of rfl
  have tkE : Takes (XR P w K mg base N__built "_built" s__built f cdv A outer s0 H0 E) (fun cls d _ H => E cls d H) := takes_of rfl rfl rfl rfl
  exact (pss_cons (ps_set (i := 1) sc__built.nd rfl (Or.inl rfl) (pe_lst (pa_cons (pe_lst (pa_cons (pe_lst pa_nil) pa_nil)) pa_nil))) (pss_cons (ps_for po rfl (pi_list (pe_uv 0)) (pg_name (i := 2) sc__built.nd rfl (Or.inl rfl)) (pss_cons (ps_set (i := 3) sc__built.nd rfl (Or.inl rfl) (pe_ix ix_u (pe_ix ix_u (pe_uv 1) (pe_un un_uNeg pe_int) (fun _ _ => rfl)) (pe_un un_uNeg pe_int) (fun _ _ => rfl))) (pss_one (ps_if (pt_uc (op_uEq hu) (pe_uv 2) (pe_lit (l := [40]) (by decide +kernel)) (nomark _)) (pss_one (ps_expr (pe_app (pe_uv 1) (pa_cons (pe_lst (pa_cons (pe_lst pa_nil) pa_nil)) pa_nil)))) (pss_one (ps_if (pt_uc (op_uEq hu) (pe_uv 2) (pe_lit (l := [124]) (by decide +kernel)) (nomark _)) (pss_one (ps_expr (pe_app (pe_ix ix_u (pe_uv 1) (pe_un un_uNeg pe_int) (fun _ _ => rfl)) (pa_cons (pe_lst pa_nil) pa_nil)))) (pss_one (ps_if (pt_uc (op_uEq hu) (pe_uv 2) (pe_lit (l := [42]) (by decide +kernel)) (nomark _)) (pss_one (ps_asg (pe_can (h_again.canX hr tkE) (pa_cons (pe_ix ix_u (pe_uv 3) (pe_un un_uNeg pe_int) (fun _ _ => rfl)) pa_nil)) (pg_sub (pe_uv 3) (pe_un un_uNeg pe_int) set_list))) (pss_one (ps_if (pt_uc (op_uEq hu) (pe_uv 2) (pe_lit (l := [41]) (by decide +kernel)) (nomark _)) (pss_cons (ps_set (i := 4) sc__built.nd rfl (Or.inl rfl) (pe_pop (pe_uv 1))) (pss_one (ps_expr (pe_app (pe_ix ix_u (pe_ix ix_u (pe_uv 1) (pe_un un_uNeg pe_int) (fun _ _ => rfl)) (pe_un un_uNeg pe_int) (fun _ _ => rfl)) (pa_cons (pe_can (h__alternative.canX hr tkE) (pa_cons (pe_uv 4) pa_nil)) pa_nil))))) (pss_one (ps_expr (pe_app (pe_uv 3) (pa_cons (pe_can (h__base.canX hr tkE) (pa_cons (pe_uv 2) pa_nil)) pa_nil)))))))))))))) (pss_one (ps_ret (pe_can (h__alternative.canX hr tkE) (pa_cons (pe_ix ix_u (pe_uv 1) pe_int (fun _ _ => rfl)) pa_nil))))))

abbrev s__alternative : Stmt := top 36
abbrev N__alternative : List Str := ["sequences", "parts", "row"]
theorem sc__alternative : FnScope N__alternative ["sequences"] (defScope s__alternative) := ⟨rfl, rfl, rfl, by decide +kernel, rfl, by decide +kernel, by decide +kernel⟩
def t__alternative (K : PySem.W.Frag) (c : Ad) (pthen peither : Sp) (E : XK) : TS :=
  (tSeq (tAsg (tLc (iList K (uV 0)) (gName 2) tYes (tCanS K pthen E (uV 2)) [2]) (gName 1)) (tRet (tCanS K peither E (uV 1))))
theorem d__alternative {P : Program} {w : World} {K : PySem.W.Frag} {mg : Str → Option Value} {base : Heap} {f : Addr} {cdv : Value} {A : Around} {outer : List Env} {s0 : Shared} {H0 : Hp} {E : XK} {c : Ad} {pthen peither : Sp} {k : Nat} (T : Txt K mg c) (hr : Room (k + 1) (XR P w K mg base N__alternative "_alternative" s__alternative f cdv A outer s0 H0 E).A) (h_then : Has P w K mg base (CX P w) k "then" pthen) (h_either : Has P w K mg base (CX P w) k "either" peither) :
    PSs (XR P w K mg base N__alternative "_alternative" s__alternative f cdv A outer s0 H0 E) (defBody s__alternative) (t__alternative K c pthen peither E) := by
  have tkE : Takes (XR P w K mg base N__alternative "_alternative" s__alternative f cdv A outer s0 H0 E) (fun cls d _ H => E cls d H) := takes_of rfl rfl rfl rfl
  exact (pss_cons (ps_setLcX (E := E) (i := 1) (own := [("row", 2)]) (g := gName 2) (tt := tYes) rfl sc__alternative.nd rfl rfl tkE (fun _ _ _ _ z => z) rfl rfl (sw_true rfl rfl rfl (by decide +kernel)) (pi_list (pe_uv 0)) (blkOk_by (own := [("row", 2)]) (N := N__alternative) (sc := defScope s__alternative) (by decide +kernel)) (fun _ _ _ _ _ => pg_name (i := 2) sc__alternative.nd rfl (Or.inl rfl)) (fun _ _ _ _ _ => pts_nil) (fun _ _ _ _ _ _ px => (pe_canS (h_then.canP hr px) (pe_uv 2)))) (pss_one (ps_ret (pe_canS (h_either.canX hr tkE) (pe_uv 1)))))

abbrev s__base : Stmt := top 37
abbrev N__base : List Str := ["sign"]
theorem sc__base : FnScope N__base ["sign"] (defScope s__base) := ⟨rfl, rfl, rfl, by decide +kernel, rfl, by decide +kernel, by decide +kernel⟩
def t__base (K : PySem.W.Frag) (c : Ad) (mNothing mStay mTest mStep : Sp) (E : XK) : TS :=
  (tSeq (tIfS (uB (tOp (uEq K) (uV 0) (tC (.str (sOf [48]))))) (tRet (StX.tMakeR c.Nothing mNothing E tNil)) tNext) (tSeq (tIfS (uB (tOp (uEq K) (uV 0) (tC (.str (sOf [49]))))) (tRet (StX.tMakeR c.Stay mStay E tNil)) tNext) (tSeq (tIfS (uB (tOp (uEq K) (tOp (uIx K) (uV 0) (tC (.int 0))) (tC (.str (sOf [63]))))) (tRet (StX.tMakeR c.Test mTest E (tCons (tOp (uIx K) (uV 0) (tC (.int 1))) tNil))) tNext) (tRet (StX.tMakeR c.Step mStep E (tCons (tOp (uIx K) (uV 0) (tC (.int 0))) (tCons (tOp (uEq K) (tCB (uLen K) (tCons (uV 0) tNil)) (tC (.int 2))) tNil)))))))
theorem d__base {P : Program} {w : World} {K : PySem.W.Frag} {mg : Str → Option Value} {base : Heap} {f : Addr} {cdv : Value} {A : Around} {outer : List Env} {s0 : Shared} {H0 : Hp} {E : XK} {c : Ad} {mNothing mStay mTest mStep : Sp} {k : Nat} (T : Txt K mg c) (hr : Room (k + 1) (XR P w K mg base N__base "_base" s__base f cdv A outer s0 H0 E).A) (m_Nothing : HasMk P w K mg base (CX P w) k "Nothing" c.Nothing mNothing) (m_Stay : HasMk P w K mg base (CX P w) k "Stay" c.Stay mStay) (m_Test : HasMk P w K mg base (CX P w) k "Test" c.Test mTest) (m_Step : HasMk P w K mg base (CX P w) k "Step" c.Step mStep) :
    PSs (XR P w K mg base N__base "_base" s__base f cdv A outer s0 H0 E) (defBody s__base) (t__base K c mNothing mStay mTest mStep E) := by
  have hu := hu201 hr
  have tkE : Takes (XR P w K mg base N__base "_base" s__base f cdv A outer s0 H0 E) (fun cls d _ H => E cls d H) := takes_of rfl rfl rfl rfl
  exact (pss_cons (ps_if (pt_uc (op_uEq hu) (pe_uv 0) (pe_lit (l := [48]) (by decide +kernel)) (nomark _)) (pss_one (ps_ret (pe_mk0 (m_Nothing.canX hr tkE)))) pss_nil) (pss_cons (ps_if (pt_uc (op_uEq hu) (pe_uv 0) (pe_lit (l := [49]) (by decide +kernel)) (nomark _)) (pss_one (ps_ret (pe_mk0 (m_Stay.canX hr tkE)))) pss_nil) (pss_cons (ps_if (pt_uc (op_uEq hu) (pe_ix ix_u (pe_uv 0) pe_int (fun _ _ => rfl)) (pe_lit (l := [63]) (by decide +kernel)) (nomark _)) (pss_one (ps_ret (pe_mk (m_Test.canX hr tkE) (pa_cons (pe_ix ix_u (pe_uv 0) pe_int (fun _ _ => rfl)) pa_nil)))) pss_nil) (pss_one (ps_ret (pe_mk (m_Step.canX hr tkE) (pa_cons (pe_ix ix_u (pe_uv 0) pe_int (fun _ _ => rfl)) (pa_cons (pe_cmpR (op_uEq hu) (pe_callB cr_uLen (by rfl) T.len (by decide +kernel) (pa_cons (pe_uv 0) pa_nil)) pe_int (nomark _)) pa_nil))))))))

end L2.WB
namespace L2.WB
open PySem PySem.Spec PyProof.Rows
open K02 (T isL isK isI)

def fin0 (Q : VK) : Ends := { nx := fun _ H2 => Q .non H2, rt := Q }
theorem sl_ok {n : Nat} (h : n ≤ 1000000) : n ≤ sizeLine := by rw [sizeLine_eq]; omega
theorem ifT {b : Bool} {A B : Prop} (hb : b = true) (h : A) : if b = true then A else B := by
  rw [if_pos hb]
  exact h
theorem ifF {b : Bool} {A B : Prop} (hb : b = false) (h : B) : if b = true then A else B := by
  rw [hb, if_neg Bool.false_ne_true]
  exact h
theorem ifB {b : Bool} {A B : Prop} (h1 : b = true → A) (h2 : b = false → B) : if b = true then A else B := by
  cases b with
  | true => exact ifT rfl (h1 rfl)
  | false => exact ifF rfl (h2 rfl)
theorem ifD {p : Prop} [Decidable p] {A B : Prop} (h1 : p → A) (h2 : ¬ p → B) : if decide p = true then A else B := by
  by_cases h : p
  · exact ifT (decide_eq_true h) (h1 h)
  · exact ifF (decide_eq_false h) (h2 h)
/-- isinstance(x, str), x a text -/
theorem isi_str {K : PySem.W.Frag} {H : Hp} {Q : VK} {z : Str} (q : Q (.bl true) H) : uIsi K [.str z, .ty "str"] H Q := .inl ⟨.type "str", .type "str", true, .ty _, .base (.str _), kit_ty (by decide +kernel), q⟩
/-- a question about a text -/
def spB (f : List Nat → Bool) : Sp := fun vs H Q _ => ∃ l, vs = [.str (sOf l)] ∧ l.length ≤ 1000000 ∧ ∀ H2, Same H H2 → Q (.bl (f l)) H2
def isLs : List Nat → Bool
  | [c] => isL c
  | _ => false
def isKs : List Nat → Bool
  | [c] => isK c
  | _ => false
def stepB : List Nat → Bool
  | c :: r => isL c && (decide (r = []) || decide (r = [39]))
  | [] => false
theorem at0 (d : Nat) (r : List Nat) : atI (sOf (d :: r)).cps.toList 0 = some d := atI_nat (j := 0) rfl
theorem in_two (K : PySem.W.Frag) {H : Hp} {Q : VK} {p : Addr} {l a b : List Nat} (h : H p = some (.tup [.str (sOf a), .str (sOf b)])) (q : Q (.bl (decide (l = a) || decide (l = b))) H) : uIn K false (.str (sOf l)) (.ref p) H Q := by
  refine .inl ⟨_, .inr (sqT h), rfl, rfl, ?_⟩
  have e : inV (.str (sOf l)) [.str (sOf a), .str (sOf b)] = (decide (l = a) || decide (l = b)) := by
    unfold inV
    simp only [List.any_cons, List.any_nil, Bool.or_false]
    show ((sOf a == sOf l) || (sOf b == sOf l)) = _
    rw [Bool.eq_iff_iff]
    simp only [Bool.or_eq_true, beq_iff_eq, sOf_eq, decide_eq_true_eq]
    exact ⟨fun h => h.elim (fun e => .inl e.symm) fun e => .inr e.symm, fun h => h.elim (fun e => .inl e.symm) fun e => .inr e.symm⟩
  show Q (.bl (inV (.str (sOf l)) [.str (sOf a), .str (sOf b)])) H
  rw [e]
  exact q
theorem in_lowers (K : PySem.W.Frag) {H : Hp} {Q : VK} {d : Nat} (q : Q (.bl (isL d)) H) : uIn K false (.str (sOf [d])) (.str (sOf lowers)) H Q := by
  show Q (.bl (subS (sOf [d]) (sOf lowers))) H
  rw [subS_one, mem_lowers]
  exact q
theorem in_uppers (K : PySem.W.Frag) {H : Hp} {Q : VK} {d : Nat} (q : Q (.bl (isK d)) H) : uIn K false (.str (sOf [d])) (.str (sOf uppers)) H Q := by
  show Q (.bl (subS (sOf [d]) (sOf uppers))) H
  rw [subS_one, mem_uppers]
  exact q
theorem notin_uppers (K : PySem.W.Frag) {H : Hp} {Q : VK} {d : Nat} (q : Q (.bl (!isK d)) H) : uIn K true (.str (sOf [d])) (.str (sOf uppers)) H Q := by
  show Q (.bl (!subS (sOf [d]) (sOf uppers))) H
  rw [subS_one, mem_uppers]
  exact q
section
variable {K : PySem.W.Frag} {c : Ad} {H : Hp} {Q : VK} {E : XK} {vs : List V}
theorem q_is_letter (h : spB isLs vs H Q E) : t_is_letter K c (fin0 Q) (start N_is_letter vs) H := by
  obtain ⟨l, rfl, hl, q⟩ := h
  have q := q H (Same.refl H)
  show t_is_letter K c (fin0 Q) [some (.str (sOf l))] H
  dsimp only [t_is_letter, tSeq, tAsg, tIfS, tRet, tRetN, tDrop, tNext, tOp, tUn, tCons, tNil, tTup, tLst, tC, tCB, tCan, tCanW, tAnd, tOr, tNot, tB, tIf, uB, uAndV, uOrV, uNotV, uNeg, uV, gName, gSub, tAug, ipI, tPart, tNoPart, tSl, tBM, tBM0, uLen, uAbs, uInt, uAdd, uSub, uMod, uFdiv, uMul, uCmp, uLt, uLe, uGt, uGe, tFld, StX.tMakeR, tRz, tCanS, sFld, start, fin0, List.getElem?_cons_zero, List.getElem?_cons_succ, List.map_cons, List.map_nil, List.length_cons, List.length_nil, List.replicate, List.cons_append, List.nil_append, Nat.reduceSub, Nat.reduceAdd, List.set_cons_zero, List.set_cons_succ]
  refine isi_str ?_
  dsimp only [uEq]
  refine iteT ⟨sl_ok hl, ?_⟩
  match l, hl, q with
  | [], _, q => exact ifF (decide_eq_false (by decide)) q
  | [d], _, q =>
    exact ifT (decide_eq_true rfl) (in_lowers K q)
  | a :: b :: r, _, q => exact ifF (decide_eq_false (by rw [sOf_len]; simp only [List.length_cons]; omega)) q
theorem q_is_mark (h : spB isKs vs H Q E) : t_is_mark K c (fin0 Q) (start N_is_mark vs) H := by
  obtain ⟨l, rfl, hl, q⟩ := h
  have q := q H (Same.refl H)
  show t_is_mark K c (fin0 Q) [some (.str (sOf l))] H
  dsimp only [t_is_mark, tSeq, tAsg, tIfS, tRet, tRetN, tDrop, tNext, tOp, tUn, tCons, tNil, tTup, tLst, tC, tCB, tCan, tCanW, tAnd, tOr, tNot, tB, tIf, uB, uAndV, uOrV, uNotV, uNeg, uV, gName, gSub, tAug, ipI, tPart, tNoPart, tSl, tBM, tBM0, uLen, uAbs, uInt, uAdd, uSub, uMod, uFdiv, uMul, uCmp, uLt, uLe, uGt, uGe, tFld, StX.tMakeR, tRz, tCanS, sFld, start, fin0, List.getElem?_cons_zero, List.getElem?_cons_succ, List.map_cons, List.map_nil, List.length_cons, List.length_nil, List.replicate, List.cons_append, List.nil_append, Nat.reduceSub, Nat.reduceAdd, List.set_cons_zero, List.set_cons_succ]
  refine isi_str ?_
  dsimp only [uEq]
  refine iteT ⟨sl_ok hl, ?_⟩
  match l, hl, q with
  | [], _, q => exact ifF (decide_eq_false (by decide)) q
  | [d], _, q =>
    exact ifT (decide_eq_true rfl) (in_uppers K q)
  | a :: b :: r, _, q => exact ifF (decide_eq_false (by rw [sOf_len]; simp only [List.length_cons]; omega)) q
theorem q_is_step (h : spB stepB vs H Q E) : t_is_step K c (spB isLs) (fin0 Q) (start N_is_step vs) H := by
  obtain ⟨l, rfl, hl, q⟩ := h
  show t_is_step K c (spB isLs) (fin0 Q) [some (.str (sOf l))] H
  dsimp only [t_is_step, tSeq, tAsg, tIfS, tRet, tRetN, tDrop, tNext, tOp, tUn, tCons, tNil, tTup, tLst, tC, tCB, tCan, tCanW, tAnd, tOr, tNot, tB, tIf, uB, uAndV, uOrV, uNotV, uNeg, uV, gName, gSub, tAug, ipI, tPart, tNoPart, tSl, tBM, tBM0, uLen, uAbs, uInt, uAdd, uSub, uMod, uFdiv, uMul, uCmp, uLt, uLe, uGt, uGe, tFld, StX.tMakeR, tRz, tCanS, sFld, start, fin0, List.getElem?_cons_zero, List.getElem?_cons_succ, List.map_cons, List.map_nil, List.length_cons, List.length_nil, List.replicate, List.cons_append, List.nil_append, Nat.reduceSub, Nat.reduceAdd, List.set_cons_zero, List.set_cons_succ]
  refine isi_str ?_
  dsimp only [uEq, uIx, uSl]
  refine iteF ?_
  rw [dec_sOf]
  match l, hl, q with
  | [], _, q => exact ifT (decide_eq_true rfl) (q H (Same.refl H))
  | d :: r, hl, q =>
    refine ifF (decide_eq_false (by simp)) ⟨sl_ok hl, d, at0 d r, [d], rfl, by simp, fun H2 s2 => ?_⟩
    show if isL d = true then _ else _
    cases hd : isL d with
    | false =>
      refine iteF ?_
      have e : stepB (d :: r) = false := by simp [stepB, hd]
      rw [e] at q
      exact q H2 s2
    | true =>
      refine iteT ⟨1, rfl, sl_ok hl, ?_⟩
      rw [show (1 : Int) = ((1 : Nat) : Int) from rfl, cut_from]
      refine ⟨by decide +kernel, fun p hp => ?_⟩
      refine in_two K (p := p) (upd_same) ?_
      have e : stepB (d :: r) = (decide (r = []) || decide (r = [39])) := by simp [stepB, hd]
      rw [e] at q
      exact q _ (s2.trans (same_new hp))
theorem isI_eq (l : List Nat) : isI l = (stepB l || (decide (l.length = 2) && (match l with | a :: b :: _ => decide (a = 63) && isK b | _ => false))) := by
  match l with
  | [] => rfl
  | [a] => simp [isI, stepB]
  | [a, b] => simp [isI, stepB, Bool.beq_eq_decide_eq]
  | a :: b :: d :: r => simp [isI, stepB]
theorem q_is_item (h : spB isI vs H Q E) : t_is_item K c (spB stepB) (spB isKs) (fin0 Q) (start N_is_item vs) H := by
  obtain ⟨l, rfl, hl, q⟩ := h
  show t_is_item K c (spB stepB) (spB isKs) (fin0 Q) [some (.str (sOf l))] H
  dsimp only [t_is_item, tSeq, tAsg, tIfS, tRet, tRetN, tDrop, tNext, tOp, tUn, tCons, tNil, tTup, tLst, tC, tCB, tCan, tCanW, tAnd, tOr, tNot, tB, tIf, uB, uAndV, uOrV, uNotV, uNeg, uV, gName, gSub, tAug, ipI, tPart, tNoPart, tSl, tBM, tBM0, uLen, uAbs, uInt, uAdd, uSub, uMod, uFdiv, uMul, uCmp, uLt, uLe, uGt, uGe, tFld, StX.tMakeR, tRz, tCanS, sFld, start, fin0, List.getElem?_cons_zero, List.getElem?_cons_succ, List.map_cons, List.map_nil, List.length_cons, List.length_nil, List.replicate, List.cons_append, List.nil_append, Nat.reduceSub, Nat.reduceAdd, List.set_cons_zero, List.set_cons_succ]
  refine ⟨l, rfl, hl, fun H2 s2 => ?_⟩
  rw [isI_eq] at q
  show if stepB l = true then _ else _
  refine ifB (fun e => ?_) fun e => ?_
  · rw [e] at q
    exact q H2 s2
  · rw [e] at q
    refine isi_str ?_
    dsimp only [uEq, uIx, uSl]
    refine iteT ⟨sl_ok hl, ?_⟩
    match l, hl, q with
    | [], _, q => exact ifF (decide_eq_false (by decide)) (q _ s2)
    | [a], _, q => exact ifF (decide_eq_false (by rw [sOf_len]; simp)) (q _ s2)
    | a :: b :: d :: r, _, q =>
      refine ifF (decide_eq_false (by rw [sOf_len]; simp only [List.length_cons]; omega)) ?_
      exact q _ s2
    | [a, b], hl, q =>
      have q : ∀ H3, Same H H3 → Q (.bl (decide (a = 63) && isK b)) H3 := q
      refine ifT (decide_eq_true rfl) ⟨sl_ok hl, a, at0 a [b], ?_⟩
      rw [one_sOf, dec_sOf]
      refine ifD (fun e => ?_) fun e => ?_
      · have e : a = 63 := by simpa using e
        subst e
        exact ⟨sl_ok hl, b, atI_nat (j := 1) rfl, [b], rfl, by simp, fun H3 s3 => q H3 (s2.trans s3)⟩
      · have e : a ≠ 63 := by simpa using e
        have q2 := q H2 s2
        rw [decide_eq_false e] at q2
        exact q2
end

def flag : Tg → T → Bool
  | .Nothing, t => t.isZ
  | .Stay, t => t.isS
  | .Then, t => t.isN
  | .Either, t => t.isO
  | .Many, t => t.isM
  | _, _ => false
section
variable {K : PySem.W.Frag} {c : Ad} {H : Hp} {Q : VK} {E : XK} {vs : List V} {v : V} {t : T}
theorem isi_pat (F : ClsF K c) (p : PatAt c H v t) (k : Tg) (hk : k ≠ .Step ∧ k ≠ .Test) (q : Q (.bl (flag k t)) H) : uIsi K [v, .ref (c.at k)] H Q := by
  obtain ⟨a, g, dx, fs, rfl, h, f, h1, h2, h3, h4, h5⟩ := p.obj
  refine F.isi h k ?_
  cases k with
  | Nothing => rw [h1]; exact q
  | Stay => rw [h2]; exact q
  | Then => rw [h3]; exact q
  | Either => rw [h4]; exact q
  | Many => rw [h5]; exact q
  | Step => exact absurd rfl hk.1
  | Test => exact absurd rfl hk.2
theorem fd_text (F : ClsF K c) (p : PatAt c H v t) : ∃ a C dx fs, v = .ref a ∧ H a = some (.ins C dx fs) ∧ Cls K C ∧ NoAttr K C "_text" ∧ fs.lookup ("_text" : Str) = some (.str (sOf (K02.text t))) := by
  obtain ⟨a, g, dx, fs, rfl, h, f, _⟩ := p.obj
  exact ⟨a, _, dx, fs, rfl, h, F.cls g, (F.no g).2.2.1, f.text⟩
theorem fd_size (F : ClsF K c) (p : PatAt c H v t) : ∃ a C dx fs, v = .ref a ∧ H a = some (.ins C dx fs) ∧ Cls K C ∧ NoAttr K C "size" ∧ fs.lookup ("size" : Str) = some (.int (K02.size t)) := by
  obtain ⟨a, g, dx, fs, rfl, h, f, _⟩ := p.obj
  exact ⟨a, _, dx, fs, rfl, h, F.cls g, (F.no g).1, f.size⟩
theorem fd_depth (F : ClsF K c) (p : PatAt c H v t) : ∃ a C dx fs, v = .ref a ∧ H a = some (.ins C dx fs) ∧ Cls K C ∧ NoAttr K C "depth" ∧ fs.lookup ("depth" : Str) = some (.int (K02.depth t)) := by
  obtain ⟨a, g, dx, fs, rfl, h, f, _⟩ := p.obj
  exact ⟨a, _, dx, fs, rfl, h, F.cls g, (F.no g).2.1, f.depth⟩
theorem fd_empty (F : ClsF K c) (p : PatAt c H v t) : ∃ a C dx fs b, v = .ref a ∧ H a = some (.ins C dx fs) ∧ Cls K C ∧ NoAttr K C "_empty" ∧ fs.lookup ("_empty" : Str) = some (.bl b) := by
  obtain ⟨a, g, dx, fs, rfl, h, f, _⟩ := p.obj
  obtain ⟨b, hb⟩ := f.empty
  exact ⟨a, _, dx, fs, b, rfl, h, F.cls g, (F.no g).2.2.2.1, hb⟩
/-- the parts of a sequence, of alternatives -/
theorem fd_parts (F : ClsF K c) (p : PatAt c H v t) (ht : t.isN = true ∨ t.isO = true) : ∃ a C dx fs q ws ts, v = .ref a ∧ H a = some (.ins C dx fs) ∧ Cls K C ∧ NoAttr K C "parts" ∧ fs.lookup ("parts" : Str) = some (.ref q) ∧ H q = some (.tup ws) ∧ Pats c H ws ts ∧ (t = .n ts ∨ t = .o ts) := by
  cases p with
  | n h f l hq b => exact ⟨_, _, _, _, _, _, _, rfl, h, F.cls .Then, (F.no .Then).2.2.2.2.1, l, hq, b, .inl rfl⟩
  | o h f l hq b => exact ⟨_, _, _, _, _, _, _, rfl, h, F.cls .Either, (F.no .Either).2.2.2.2.1, l, hq, b, .inr rfl⟩
  | _ => rcases ht with ht | ht <;> cases ht
/-- short, and of a text that is not too long -/
structure Ok (t : T) : Prop where
  sf : K02.SF t
  wt : K02.wt t ≤ 20000
theorem Ok.len (h : Ok t) : (K02.text t).length ≤ 160001 := by
  have := K02.text_le h.sf
  have := h.wt
  omega
def spInBr (c : Ad) : Sp := fun vs H Q _ => ∃ v t, vs = [v] ∧ PatAt c H v t ∧ Ok t ∧ ∀ H2, Same H H2 → Q (.str (sOf (40 :: K02.text t ++ [41]))) H2
theorem q__in_brackets (F : ClsF K c) (h : spInBr c vs H Q E) : t__in_brackets K c (fin0 Q) (start N__in_brackets vs) H := by
  obtain ⟨v, t, rfl, p, ok, q⟩ := h
  show t__in_brackets K c (fin0 Q) [some v] H
  have hl := ok.len
  dsimp only [t__in_brackets, tSeq, tAsg, tIfS, tRet, tRetN, tDrop, tNext, tOp, tUn, tCons, tNil, tTup, tLst, tC, tCB, tCan, tCanW, tAnd, tOr, tNot, tB, tIf, uB, uAndV, uOrV, uNotV, uNeg, uV, gName, gSub, tAug, ipI, tPart, tNoPart, tSl, tBM, tBM0, uLen, uAbs, uInt, uAdd, uSub, uMod, uFdiv, uMul, uCmp, uLt, uLe, uGt, uGe, tFld, StX.tMakeR, tRz, tCanS, sFld, start, fin0, List.getElem?_cons_zero, List.getElem?_cons_succ, List.map_cons, List.map_nil, List.length_cons, List.length_nil, List.replicate, List.cons_append, List.nil_append, Nat.reduceSub, Nat.reduceAdd, List.set_cons_zero, List.set_cons_succ]
  obtain ⟨a, C, dx, fs, e1, e2, e3, e4, e5⟩ := fd_text F p
  refine ⟨a, C, dx, fs, _, e1, e2, e3, e4, e5, ?_⟩
  refine ⟨sl_ok (by rw [sOf_len, sOf_len]; simp only [List.length_cons, List.length_nil]; omega), ?_⟩
  rw [sOf_add]
  refine ⟨sl_ok (by rw [sOf_len, sOf_len]; simp only [List.length_append, List.length_cons, List.length_nil]; omega), ?_⟩
  rw [sOf_add]
  exact q H (Same.refl H)
def spMay : Sp := fun vs H Q _ => ∃ (g b : List Nat) (d : Nat), vs = [.str (sOf g), .str (sOf b), .int d] ∧ g.length ≤ 1000000 ∧ ∀ H2, Same H H2 → Q (.bl (K02.mayStand g b d)) H2
theorem q__may_stand (h : spMay vs H Q E) : t__may_stand K c (spB isI) (fin0 Q) (start N__may_stand vs) H := by
  obtain ⟨g, b, d, rfl, hl, q⟩ := h
  show t__may_stand K c (spB isI) (fin0 Q) [some (.str (sOf g)), some (.str (sOf b)), some (.int d)] H
  dsimp only [t__may_stand, tSeq, tAsg, tIfS, tRet, tRetN, tDrop, tNext, tOp, tUn, tCons, tNil, tTup, tLst, tC, tCB, tCan, tCanW, tAnd, tOr, tNot, tB, tIf, uB, uAndV, uOrV, uNotV, uNeg, uV, gName, gSub, tAug, ipI, tPart, tNoPart, tSl, tBM, tBM0, uLen, uAbs, uInt, uAdd, uSub, uMod, uFdiv, uMul, uCmp, uLt, uLe, uGt, uGe, tFld, StX.tMakeR, tRz, tCanS, sFld, start, fin0, List.getElem?_cons_zero, List.getElem?_cons_succ, List.map_cons, List.map_nil, List.length_cons, List.length_nil, List.replicate, List.cons_append, List.nil_append, Nat.reduceSub, Nat.reduceAdd, List.set_cons_zero, List.set_cons_succ]
  dsimp only [uEq, uNe]
  simp only [dec_sOf]
  unfold K02.mayStand at q
  refine ifD (fun e => ?_) fun e => ?_
  · rw [if_pos e] at q
    have := q H (Same.refl H)
    rw [show decide (d < 60) = decide ((d : Int) < 60) from decide_eq_decide.mpr (by omega)] at this
    exact this
  rw [if_neg e] at q
  refine ⟨by decide +kernel, fun p hp => in_two K upd_same (ifB (fun e2 => ?_) fun e2 => ?_)⟩
  · rw [if_pos (by
      rw [Bool.or_eq_true, decide_eq_true_eq, decide_eq_true_eq] at e2
      rcases e2 with e2 | e2
      · exact .inl e2
      · exact .inr (.inl e2))] at q
    rw [if_pos trivial]
    exact q _ (same_new hp)
  · rw [Bool.or_eq_false_iff, decide_eq_false_iff_not, decide_eq_false_iff_not] at e2
    refine ⟨g, rfl, hl, fun H2 s2 => ?_⟩
    have s3 := (same_new (o := .tup [.str (sOf [48]), .str (sOf [49])]) hp).trans s2
    show if isI g = true then _ else _
    refine ifB (fun e3 => ?_) fun e3 => ?_
    · rw [if_pos (.inr (.inr e3))] at q
      exact q _ s3
    rw [if_neg (by simp [e2, e3])] at q
    refine ⟨by decide +kernel, fun p2 hp2 => in_two K upd_same ?_⟩
    have s4 := s3.trans (same_new (o := .tup [.str (sOf [40]), .str (sOf [124])]) hp2)
    refine ifB (fun e4 => ?_) fun e4 => ?_
    · rw [Bool.or_eq_true, decide_eq_true_eq, decide_eq_true_eq] at e4
      rw [if_pos e4] at q
      exact q _ s4
    rw [Bool.or_eq_false_iff, decide_eq_false_iff_not, decide_eq_false_iff_not] at e4
    rw [if_neg (by simp [e4])] at q
    refine ifD (fun e5 => ?_) fun e5 => ?_
    · rw [if_pos e5] at q
      have := q _ s4
      rw [decide_not] at this
      exact this
    rw [if_neg e5] at q
    refine ifD (fun e6 => ?_) fun e6 => ?_
    · rw [if_pos e6] at q
      have := q _ s4
      rw [show decide (0 < d) = decide ((0 : Int) < (d : Int)) from decide_eq_decide.mpr (by omega)] at this
      exact this
    rw [if_neg e6] at q
    exact q _ s4
end
end L2.WB
namespace L2.WB
open PySem PySem.Spec PyProof.Rows
open K02 (T isL isK isI)
section
variable {K : PySem.W.Frag} {c : Ad} {H : Hp} {Q : VK} {E : XK} {vs : List V} {v : V} {t : T}
theorem ix_txt {l : List Nat} {i : Int} {a d : Nat} (hl : l.length ≤ 1000000) (ei : i = (a : Int)) (e : l[a]? = some d) (q : Q (.str (sOf [d])) H) : uIx K (.str (sOf l)) (.int i) H Q := by
  rw [ei]
  exact ⟨sl_ok hl, d, atI_nat (xs := (sOf l).cps.toList) e, q⟩
theorem ix_lst {p : Addr} {xs : List V} {i : Int} (h : H p = some (.lst xs)) (e : atI xs i = some v) (q : Q v H) : uIx K (.ref p) (.int i) H Q := ⟨xs, v, .inl (sqL h), e, q⟩
theorem ix_tup2 {p : Addr} {xs : List V} {i : Int} (h : H p = some (.tup xs)) (e : atI xs i = some v) (q : Q v H) : uIx K (.ref p) (.int i) H Q := ⟨xs, v, .inr (sqT h), e, q⟩
theorem sl_txt2 {l : List Nat} {i j : Int} {a b : Nat} (hl : l.length ≤ 1000000) (ei : i = (a : Int)) (ej : j = (b : Int)) (q : Q (.str (sOf ((l.drop a).take (b - a)))) H) : uSl K (.str (sOf l)) (some i) (some j) H Q := by
  rw [ei, ej]
  refine ⟨sl_ok hl, ?_⟩
  rw [cut_both]
  exact q
theorem app_ok2 {o : Addr} {xs : List V} (h : H o = some (.lst xs)) (hz : xs.length ≤ 1000000) (q : Q .non (upd H o (.lst (xs ++ [v])))) : tyV K "list" (.ref o) H ∧ uApp (.ref o) [v] H Q :=
  ⟨tyl h, xs, h, by rw [sizeLine_eq]; omega, q⟩
/-- an exception of the class at C, with a field -/
def Xc (E : XK) (H : Hp) (C : Addr) (f : Str) (v : V) : Prop := ∀ (d : Addr) (H2 : Hp), Same H H2 → H2 d = some (.xd [(f, v)]) → E (.ref C) (some d) H2
theorem Xc.from {C : Addr} {f : Str} {H1 : Hp} (h : Xc E H C f v) (s : Same H H1) : Xc E H1 C f v := fun d H2 s2 e => h d H2 (s.trans s2) e
def spSignAt (c : Ad) : Sp := fun vs H Q E => ∃ (l : List Nat) (a : Nat), vs = [.str (sOf l), .int a] ∧ l.length ≤ 1000000 ∧ a < l.length ∧ match K02.signAt (l.drop a) with
  | some g => ∀ H2, Same H H2 → Q (.str (sOf g)) H2
  | none => Xc E H c.BadText "at" (.int (a + 1))
theorem q__sign_at (h : spSignAt c vs H Q E) : t__sign_at K c (spB isKs) (spB isLs) E (fin0 Q) (start N__sign_at vs) H := by
  obtain ⟨l, a, rfl, hl, ha, q⟩ := h
  show t__sign_at K c (spB isKs) (spB isLs) E (fin0 Q) [some (.str (sOf l)), some (.int a)] H
  obtain ⟨d, r, e⟩ : ∃ d r, l.drop a = d :: r := by
    cases e : l.drop a with
    | nil => rw [List.drop_eq_nil_iff] at e; omega
    | cons d r => exact ⟨d, r, rfl⟩
  have e0 : l[a]? = some d := by
    have : (l.drop a)[0]? = some d := by rw [e]; rfl
    rw [List.getElem?_drop] at this
    simpa using this
  have e1 : l.drop (a + 1) = r := by
    have : (l.drop a).drop 1 = r := by rw [e]; rfl
    rw [List.drop_drop] at this
    exact this
  have t2 : (l.drop a).take (a + 2 - a) = d :: r.take 1 := by rw [e, show a + 2 - a = 2 by omega]; rfl
  have t1 : (l.drop (a + 1)).take (a + 2 - (a + 1)) = r.take 1 := by rw [e1, show a + 2 - (a + 1) = 1 by omega]
  rw [e] at q
  dsimp only [t__sign_at, tSeq, tAsg, tIfS, tRet, tRetN, tDrop, tNext, tOp, tUn, tCons, tNil, tTup, tLst, tC, tCB, tCan, tCanW, tAnd, tOr, tNot, tB, tIf, uB, uAndV, uOrV, uNotV, uNeg, uV, gName, gSub, tAug, ipI, tPart, tNoPart, tSl, tBM, tBM0, uLen, uAbs, uInt, uAdd, uSub, uMod, uFdiv, uMul, uCmp, uLt, uLe, uGt, uGe, tFld, StX.tMakeR, tRz, tCanS, sFld, start, fin0, List.getElem?_cons_zero, List.getElem?_cons_succ, List.map_cons, List.map_nil, List.length_cons, List.length_nil, List.replicate, List.cons_append, List.nil_append, Nat.reduceSub, Nat.reduceAdd, List.set_cons_zero, List.set_cons_succ]
  refine ix_txt hl rfl e0 ?_
  dsimp only [uEq]
  rw [dec_sOf]
  refine ifD (fun c1 => ?_) fun c1 => ?_
  · have c1 : d = 63 := by simpa using c1
    subst c1
    refine ⟨_, rfl, _, rfl, sl_txt2 (a := a + 1) (b := a + 2) hl rfl rfl ?_⟩
    rw [t1]
    refine ⟨_, rfl, by rw [List.length_take]; omega, fun H2 s2 => ?_⟩
    cases r with
    | nil => exact fun d H3 nd s3 e => q d H3 (s2.trans s3) e
    | cons x r2 =>
      show if (!isK x) = true then _ else _
      cases hk : isK x with
      | false =>
        have sg : K02.signAt (63 :: x :: r2) = none := by simp [K02.signAt, hk]
        rw [sg] at q
        exact iteT fun d H3 nd s3 e => q d H3 (s2.trans s3) e
      | true =>
        have sg : K02.signAt (63 :: x :: r2) = some [63, x] := by simp [K02.signAt, hk]
        rw [sg] at q
        refine iteF ⟨_, rfl, _, rfl, sl_txt2 (a := a) (b := a + 2) hl rfl rfl ?_⟩
        rw [t2]
        exact q H2 s2
  · have c1 : d ≠ 63 := by simpa using c1
    refine ix_txt hl rfl e0 ⟨_, rfl, by simp, fun H2 s2 => ?_⟩
    show if isL d = true then _ else _
    cases hL : isL d with
    | false =>
      have sg : K02.signAt (d :: r) = some [d] := by simp [K02.signAt, c1, hL]
      rw [sg] at q
      exact iteF (iteF (ix_txt hl rfl e0 (q H2 s2)))
    | true =>
      refine iteT ⟨_, rfl, _, rfl, sl_txt2 (a := a + 1) (b := a + 2) hl rfl rfl ?_⟩
      rw [t1]
      dsimp only
      rw [dec_sOf]
      cases r with
      | nil =>
        have sg : K02.signAt [d] = some [d] := by simp [K02.signAt, c1, hL]
        rw [sg] at q
        exact ifF (by simp) (ix_txt hl rfl e0 (q H2 s2))
      | cons x r2 =>
        by_cases hx : x = 39
        · subst hx
          have sg : K02.signAt (d :: 39 :: r2) = some [d, 39] := by simp [K02.signAt, c1, hL]
          rw [sg] at q
          refine ifT (by simp) ⟨_, rfl, _, rfl, sl_txt2 (a := a) (b := a + 2) hl rfl rfl ?_⟩
          rw [t2]
          exact q H2 s2
        · have sg : K02.signAt (d :: x :: r2) = some [d] := by simp [K02.signAt, c1, hL, hx]
          rw [sg] at q
          exact ifF (by simp [hx]) (ix_txt hl rfl e0 (q H2 s2))
/-- signs as values -/
def tv (S : List (List Nat)) : List V := S.map fun g => .str (sOf g)
def pres (S : List (List Nat)) : Except Nat (List (List Nat)) → Except Nat (List (List Nat))
  | .ok R => .ok (S ++ R)
  | .error q => .error q
theorem pres_pre (S : List (List Nat)) (g : List Nat) (e : Except Nat (List (List Nat))) : pres S (K02.pre g e) = pres (S ++ [g]) e := by
  cases e with
  | ok R => simp [pres, K02.pre]
  | error q => rfl
def spSigns (c : Ad) : Sp := fun vs H Q E => ∃ (l : List Nat), vs = [.str (sOf l)] ∧ l.length ≤ 1000000 ∧ match K02.scan l [124] 0 0 with
  | .ok S => ∀ (o : Addr) (H2 : Hp), Same H H2 → H2 o = some (.lst (tv S)) → Q (.ref o) H2
  | .error q => Xc E H c.BadText "at" (.int (q : Nat))
def Wsg (l : List Nat) (o : Addr) (H : Hp) (m : Nat) (σ : St) (H2 : Hp) : Prop := ∃ (a d : Nat) (b : List Nat) (S : List (List Nat)) (y : Option V), σ = [some (.str (sOf l)), some (.ref o), some (.str (sOf b)), some (.int d), some (.int a), y] ∧ m = l.length - a ∧ a ≤ l.length ∧ S.length ≤ a ∧ Same H H2 ∧ H2 o = some (.lst (tv S)) ∧
    K02.scan l [124] 0 0 = pres S (K02.scan (l.drop a) b d a)
theorem tv_app (S : List (List Nat)) (g : List Nat) : tv S ++ [.str (sOf g)] = tv (S ++ [g]) := by unfold tv; rw [List.map_append]; rfl
theorem tv_len (S : List (List Nat)) : (tv S).length = S.length := List.length_map _
theorem q__signs_of (h : spSigns c vs H Q E) : t__signs_of K c (spSignAt c) spMay E (fin0 Q) (start N__signs_of vs) H := by
  obtain ⟨l, rfl, hl, q⟩ := h
  show t__signs_of K c (spSignAt c) spMay E (fin0 Q) [some (.str (sOf l)), none, none, none, none, none] H
  dsimp only [t__signs_of, tSeq, tAsg, tIfS, tRet, tRetN, tDrop, tNext, tOp, tUn, tCons, tNil, tTup, tLst, tC, tCB, tCan, tCanW, tAnd, tOr, tNot, tB, tIf, uB, uAndV, uOrV, uNotV, uNeg, uV, gName, gSub, tAug, ipI, tPart, tNoPart, tSl, tBM, tBM0, uLen, uAbs, uInt, uAdd, uSub, uMod, uFdiv, uMul, uCmp, uLt, uLe, uGt, uGe, tFld, StX.tMakeR, tRz, tCanS, sFld, start, fin0, List.getElem?_cons_zero, List.getElem?_cons_succ, List.map_cons, List.map_nil, List.length_cons, List.length_nil, List.replicate, List.cons_append, List.nil_append, Nat.reduceSub, Nat.reduceAdd, List.set_cons_zero, List.set_cons_succ]
  refine ⟨by decide +kernel, fun o ho => ?_⟩
  refine ⟨Wsg l o H, ⟨_, 0, 0, [124], [], none, rfl, rfl, Nat.zero_le _, Nat.zero_le _, same_new ho, upd_same, ?_⟩, ?_⟩
  · rw [List.drop_zero]
    cases K02.scan l [124] 0 0 <;> rfl
  · rintro m σ H2 ⟨a, d, b, S, y, rfl, rfl, ha, hS, s2, eo, sc⟩
    dsimp only [tSeq, tAsg, tIfS, tRet, tRetN, tDrop, tNext, tOp, tUn, tCons, tNil, tTup, tLst, tC, tCB, tCan, tCanW, tAnd, tOr, tNot, tB, tIf, uB, uAndV, uOrV, uNotV, uNeg, uV, gName, gSub, tAug, ipI, tPart, tNoPart, tSl, tBM, tBM0, uLen, uAbs, uInt, uAdd, uSub, uMod, uFdiv, uMul, uCmp, uLt, uLe, uGt, uGe, tFld, StX.tMakeR, tRz, tCanS, sFld, start, fin0, List.getElem?_cons_zero, List.getElem?_cons_succ, List.map_cons, List.map_nil, List.length_cons, List.length_nil, List.replicate, List.cons_append, List.nil_append, Nat.reduceSub, Nat.reduceAdd, List.set_cons_zero, List.set_cons_succ]
    refine ⟨sl_ok hl, ?_⟩
    refine ifD (fun c1 => ?_) fun c1 => ?_
    · have c1 : a < l.length := by rw [sOf_len] at c1; omega
      obtain ⟨x, r, e⟩ : ∃ x r, l.drop a = x :: r := by
        cases e : l.drop a with
        | nil => rw [List.drop_eq_nil_iff] at e; omega
        | cons d r => exact ⟨d, r, rfl⟩
      have e0 : l[a]? = some x := by
        have : (l.drop a)[0]? = some x := by rw [e]; rfl
        rw [List.getElem?_drop] at this
        simpa using this
      have e1 : ∀ k, l.drop (a + (k + 1)) = r.drop k := fun k => by
        have : (l.drop a).drop (k + 1) = r.drop k := by rw [e]; rfl
        rw [List.drop_drop] at this
        exact this
      have lr : r.length = l.length - (a + 1) := by
        have := congrArg List.length e
        rw [List.length_drop, List.length_cons] at this
        omega
      rw [e, K02.scan_cons] at sc
      refine ⟨fun σ H3 => ∃ m2, m2 < l.length - a ∧ Wsg l o H m2 σ H3, fun _ _ z => z, ?_⟩
      refine ix_txt hl rfl e0 ?_
      dsimp only [uEq]
      rw [dec_sOf]
      refine ifD (fun c2 => ?_) fun c2 => ?_
      · have c2 : x = 32 := by simpa using c2
        rw [if_pos c2] at sc
        refine ⟨_, rfl, _, _, rfl, rfl, l.length - (a + 1), by omega, a + 1, d, b, S, y, rfl, rfl, by omega, by omega, s2, eo, ?_⟩
        rw [e1 0]
        exact sc
      · have c2 : x ≠ 32 := by simpa using c2
        rw [if_neg c2] at sc
        refine ⟨l, a, rfl, hl, c1, ?_⟩
        rw [e]
        cases sg : K02.signAt (x :: r) with
        | none =>
          rw [sg] at sc
          have sc : K02.scan l [124] 0 0 = .error (a + 1) := sc
          rw [sc] at q
          exact fun d H3 s3 e3 => q d H3 (s2.trans s3) e3
        | some g =>
          rw [sg] at sc
          dsimp only at sc
          obtain ⟨r2, hg, gn⟩ := K02.signAt_len sg
          have gl : 1 ≤ g.length := by cases g with | nil => exact absurd rfl gn | cons => simp
          have gl2 : g.length ≤ r.length + 1 := by
            have := congrArg List.length hg
            rw [List.length_append, List.length_cons] at this
            omega
          intro H3 s3
          refine ⟨g, b, d, rfl, by omega, fun H4 s4 => ?_⟩
          have s24 := s2.trans (s3.trans s4)
          have eo4 : H4 o = some (.lst (tv S)) := s4 _ _ (s3 _ _ eo)
          show if (!K02.mayStand g b d) = true then _ else _
          cases ms : K02.mayStand g b d with
          | false =>
            rw [ms, if_neg Bool.false_ne_true] at sc
            have sc : K02.scan l [124] 0 0 = .error a := sc
            rw [sc] at q
            exact iteT fun d H5 nd s5 e5 => q d H5 (s24.trans s5) e5
          | true =>
            rw [ms, if_pos rfl, pres_pre] at sc
            refine iteF ?_
            have last : ∀ (d2 : Nat), K02.dnext g d = d2 → tyV K "list" (.ref o) H4 ∧ uApp (.ref o) [.str (sOf g)] H4 fun x H1 => (∃ x_1, (some (some (V.int (a : Int))) : Option (Option V)) = some (some x_1) ∧ match [V.str (sOf g)] with
                | [V.str z] => z.length ≤ sizeLine ∧ ∃ i j, x_1 = V.int i ∧ V.int (z.length : Int) = V.int j ∧ ∃ m2, m2 < l.length - a ∧ Wsg l o H m2 [some (.str (sOf l)), some (.ref o), some (.str (sOf g)), some (.int d2), some (.int (i + j)), some (.str (sOf g))] H1
                | [V.ref p] => ∃ xs, (SqL K H1 p xs ∨ SqT K H1 p xs) ∧ ∃ i j, x_1 = V.int i ∧ V.int (xs.length : Int) = V.int j ∧ ∃ m2, m2 < l.length - a ∧ Wsg l o H m2 [some (.str (sOf l)), some (.ref o), some (.str (sOf g)), some (.int d2), some (.int (i + j)), some (.str (sOf g))] H1
                | _ => False) := fun d2 hd => by
              refine app_ok2 eo4 (by rw [tv_len]; omega) ⟨_, rfl, sl_ok (by rw [sOf_len]; omega), _, _, rfl, rfl, l.length - (a + g.length), by omega, a + g.length, d2, g, S ++ [g], some (.str (sOf g)), rfl, rfl, by omega, ?_, ?_, ?_, ?_⟩
              · rw [List.length_append, List.length_singleton]; omega
              · exact fun p u hp => by
                  have hpo : p ≠ o := ne_of_none hp ho
                  rw [upd_ne hpo]
                  exact s24 p u hp
              · rw [upd_same, tv_app]
              · rw [sc, hd]
                congr 1
                rw [show a + g.length = a + ((g.length - 1) + 1) by omega, e1 (g.length - 1)]
            have t40 : ∀ {k : List Nat}, g = k → decide (sOf g = sOf k) = true := fun e => by rw [dec_sOf]; exact decide_eq_true e
            have f40 : ∀ {k : List Nat}, g ≠ k → decide (sOf g = sOf k) = false := fun e => by rw [dec_sOf]; exact decide_eq_false e
            by_cases c4 : g = [40]
            · have hd : K02.dnext g d = d + 1 := by simp [K02.dnext, c4]
              refine ifT (t40 c4) ⟨_, rfl, _, _, rfl, rfl, ?_⟩
              refine ifF (f40 (by rw [c4]; decide)) (last (d + 1) hd)
            · by_cases c5 : g = [41]
              · have pos : 0 < d := by
                  have := ms
                  rw [c5] at this
                  unfold K02.mayStand at this
                  rw [if_neg (by decide), if_neg (by decide)] at this
                  split at this
                  · cases this
                  · rw [if_neg (by decide), if_pos rfl] at this
                    exact of_decide_eq_true this
                have hd : K02.dnext g d = d - 1 := by simp [K02.dnext, c5]
                refine ifF (f40 c4) (ifT (t40 c5) ⟨_, rfl, _, _, rfl, rfl, ?_⟩)
                have := last (d - 1) hd
                rw [show ((d - 1 : Nat) : Int) = (d : Int) - 1 by omega] at this
                exact this
              · have hd : K02.dnext g d = d := by simp [K02.dnext, c4, c5]
                exact ifF (f40 c4) (ifF (f40 c5) (last d hd))
    · have c1 : a = l.length := by rw [sOf_len] at c1; omega
      rw [c1, List.drop_length, K02.scan_nil] at sc
      refine ⟨by decide +kernel, fun p hp => in_two K upd_same ?_⟩
      have s3 := s2.trans (same_new (o := .tup [.str (sOf [40]), .str (sOf [124])]) hp)
      have fail : (b = [40] ∨ b = [124] ∨ 0 < d) → ∀ (dd : Addr) (H5 : Hp), Same (upd H2 p (.tup [.str (sOf [40]), .str (sOf [124])])) H5 → H5 dd = some (.xd [("at", .int (l.length : Nat))]) → E (.ref c.BadText) (some dd) H5 := fun hh dd H5 s5 e5 => by
        rw [if_pos hh] at sc
        have sc : K02.scan l [124] 0 0 = .error l.length := sc
        rw [sc] at q
        exact q dd H5 (s3.trans s5) e5
      refine ifB (fun c2 => ?_) fun c2 => ?_
      · rw [Bool.or_eq_true, decide_eq_true_eq, decide_eq_true_eq] at c2
        refine iteT ⟨sl_ok hl, fun dd H5 nd s5 e5 => fail (c2.elim .inl fun z => .inr (.inl z)) dd H5 s5 e5⟩
      · rw [Bool.or_eq_false_iff, decide_eq_false_iff_not, decide_eq_false_iff_not] at c2
        refine ifD (fun c3 => ?_) fun c3 => ?_
        · exact ⟨sl_ok hl, fun dd H5 nd s5 e5 => fail (.inr (.inr (by omega))) dd H5 s5 e5⟩
        · have hn : ¬ (b = [40] ∨ b = [124] ∨ 0 < d) := by
            rintro (z | z | z)
            · exact c2.1 z
            · exact c2.2 z
            · omega
          rw [if_neg hn] at sc
          have sc : K02.scan l [124] 0 0 = .ok (S ++ []) := sc
          rw [List.append_nil] at sc
          rw [sc] at q
          exact q o _ s3 (get_new eo hp)
end
end L2.WB
namespace L2.WB
open PySem PySem.Spec PyProof.Rows
abbrev s_BadText_init : Stmt := meth 3 0
abbrev N_BadText_init : List Str := ["self", "at"]
theorem sc_BadText_init : ScopeS N_BadText_init ["self", "at"] (defScope s_BadText_init) := ⟨rfl, rfl, rfl, by decide +kernel, rfl, by decide +kernel, by decide +kernel, by decide +kernel⟩
def t_BadText_init (K : PySem.W.Frag) (C : Addr) : TS :=
  (tSeq (tSupX K 0 C (tCons (tC (.str (sOf [116, 104, 101, 32, 116, 101, 120, 116, 32, 99, 97, 110, 110, 111, 116, 32, 98, 101, 32, 114, 101, 97, 100]))) tNil)) (tSeq (tOst K "at" (uV 0) (uV 1)) tNext))
theorem d_BadText_init {P : Program} {w : World} {K : PySem.W.Frag} {mg : Str → Option Value} {base : Heap} {f cda cc D C : Addr} {A : Around} {outer : List Env} {s0 : Shared} {H0 : Hp} {E : XK} (S : SupX P K mg f cc cda D C "self") :
    PAt (XS0 P w K mg base N_BadText_init "BadText.__init__" s_BadText_init f cda cc A outer s0 H0 E) (defBody s_BadText_init) (defBody s_BadText_init) (t_BadText_init K C) := by
  exact (at_cons (at_supx (i := 0) S rfl rfl (pa_cons (pe_lit (l := [116, 104, 101, 32, 116, 101, 120, 116, 32, 99, 97, 110, 110, 111, 116, 32, 98, 101, 32, 114, 101, 97, 100]) (by decide +kernel)) pa_nil) rfl rfl rfl rfl rfl rfl rfl rfl) (at_cons (at1_of (ps_ost (pe_uv 0) (pe_uv 1))) (at_of pss_nil)))

abbrev s_TooLong_init : Stmt := meth 5 0
abbrev N_TooLong_init : List Str := ["self", "many"]
theorem sc_TooLong_init : ScopeS N_TooLong_init ["self", "many"] (defScope s_TooLong_init) := ⟨rfl, rfl, rfl, by decide +kernel, rfl, by decide +kernel, by decide +kernel, by decide +kernel⟩
def t_TooLong_init (K : PySem.W.Frag) (C : Addr) : TS :=
  (tSeq (tSupX K 0 C (tCons (tC (.str (sOf [116, 111, 111, 32, 108, 111, 110, 103, 32, 111, 114, 32, 116, 111, 111, 32, 108, 97, 114, 103, 101]))) tNil)) (tSeq (tOst K "many" (uV 0) (uV 1)) tNext))
theorem d_TooLong_init {P : Program} {w : World} {K : PySem.W.Frag} {mg : Str → Option Value} {base : Heap} {f cda cc D C : Addr} {A : Around} {outer : List Env} {s0 : Shared} {H0 : Hp} {E : XK} (S : SupX P K mg f cc cda D C "self") :
    PAt (XS0 P w K mg base N_TooLong_init "TooLong.__init__" s_TooLong_init f cda cc A outer s0 H0 E) (defBody s_TooLong_init) (defBody s_TooLong_init) (t_TooLong_init K C) := by
  exact (at_cons (at_supx (i := 0) S rfl rfl (pa_cons (pe_lit (l := [116, 111, 111, 32, 108, 111, 110, 103, 32, 111, 114, 32, 116, 111, 111, 32, 108, 97, 114, 103, 101]) (by decide +kernel)) pa_nil) rfl rfl rfl rfl rfl rfl rfl rfl) (at_cons (at1_of (ps_ost (pe_uv 0) (pe_uv 1))) (at_of pss_nil)))

abbrev s_TooDeep_init : Stmt := meth 6 0
abbrev N_TooDeep_init : List Str := ["self", "depth"]
theorem sc_TooDeep_init : ScopeS N_TooDeep_init ["self", "depth"] (defScope s_TooDeep_init) := ⟨rfl, rfl, rfl, by decide +kernel, rfl, by decide +kernel, by decide +kernel, by decide +kernel⟩
def t_TooDeep_init (K : PySem.W.Frag) (C : Addr) : TS :=
  (tSeq (tSupX K 0 C (tCons (tC (.str (sOf [116, 104, 101, 32, 112, 97, 116, 116, 101, 114, 110, 32, 105, 115, 32, 116, 111, 111, 32, 100, 101, 101, 112]))) tNil)) (tSeq (tOst K "depth" (uV 0) (uV 1)) tNext))
theorem d_TooDeep_init {P : Program} {w : World} {K : PySem.W.Frag} {mg : Str → Option Value} {base : Heap} {f cda cc D C : Addr} {A : Around} {outer : List Env} {s0 : Shared} {H0 : Hp} {E : XK} (S : SupX P K mg f cc cda D C "self") :
    PAt (XS0 P w K mg base N_TooDeep_init "TooDeep.__init__" s_TooDeep_init f cda cc A outer s0 H0 E) (defBody s_TooDeep_init) (defBody s_TooDeep_init) (t_TooDeep_init K C) := by
  exact (at_cons (at_supx (i := 0) S rfl rfl (pa_cons (pe_lit (l := [116, 104, 101, 32, 112, 97, 116, 116, 101, 114, 110, 32, 105, 115, 32, 116, 111, 111, 32, 100, 101, 101, 112]) (by decide +kernel)) pa_nil) rfl rfl rfl rfl rfl rfl rfl rfl) (at_cons (at1_of (ps_ost (pe_uv 0) (pe_uv 1))) (at_of pss_nil)))

abbrev s_Pattern_init : Stmt := meth 17 0
abbrev N_Pattern_init : List Str := ["self", "size", "depth", "text", "empty"]
theorem sc_Pattern_init : FnScope N_Pattern_init ["self", "size", "depth", "text", "empty"] (defScope s_Pattern_init) := ⟨rfl, rfl, rfl, by decide +kernel, rfl, by decide +kernel, by decide +kernel⟩
def t_Pattern_init (K : PySem.W.Frag) (c : Ad) (E : XK) : TS :=
  (tSeq (tIfS (uB (tOp (uGt) (uV 1) (tC (.int 2000)))) tNever tNext) (tSeq (tIfS (uB (tOp (uGt) (uV 2) (tC (.int 40)))) (tRz c.TooDeep "depth" E (tCons (uV 2) tNil)) tNext) (tSeq (sFld K (uV 0) (uV 1) "size") (tSeq (sFld K (uV 0) (uV 2) "depth") (tSeq (sFld K (uV 0) (uV 3) "_text") (sFld K (uV 0) (uV 4) "_empty"))))))
theorem d_Pattern_init {P : Program} {w : World} {K : PySem.W.Frag} {mg : Str → Option Value} {base : Heap} {f : Addr} {cdv : Value} {A : Around} {outer : List Env} {s0 : Shared} {H0 : Hp} {E : XK} {c : Ad} {k : Nat} (T : Txt K mg c) (hr : Room (k + 1) (XR P w K mg base N_Pattern_init "Pattern.__init__" s_Pattern_init f cdv A outer s0 H0 E).A) (e_TooDeep : ExK P w K mg base k "TooDeep" c.TooDeep "depth") :
    PSs (XR P w K mg base N_Pattern_init "Pattern.__init__" s_Pattern_init f cdv A outer s0 H0 E) (defBody s_Pattern_init) (t_Pattern_init K c E) := by
  have tkE : Takes (XR P w K mg base N_Pattern_init "Pattern.__init__" s_Pattern_init f cdv A outer s0 H0 E) (fun cls d _ H => E cls d H) := takes_of rfl rfl rfl rfl
  exact (pss_cons (ps_if (pt_uc op_uGt (pe_uv 1) (pe_gs T.g_MOST_SIZE) (nomark _)) (pss_one ps_never) pss_nil) (pss_cons (ps_if (pt_uc op_uGt (pe_uv 2) (pe_gs T.g_MOST_DEPTH) (nomark _)) (pss_one (ps_rz (e_TooDeep.can hr) rfl tkE (pa_cons (pe_uv 2) pa_nil))) pss_nil) (pss_cons (ps_fld (pe_uv 0) (pe_uv 1) rfl) (pss_cons (ps_fld (pe_uv 0) (pe_uv 2) rfl) (pss_cons (ps_fld (pe_uv 0) (pe_uv 3) rfl) (pss_one (ps_fld (pe_uv 0) (pe_uv 4) rfl)))))))

abbrev s_Pattern_text : Stmt := meth 17 1
abbrev N_Pattern_text : List Str := ["self"]
theorem sc_Pattern_text : FnScope N_Pattern_text ["self"] (defScope s_Pattern_text) := ⟨rfl, rfl, rfl, by decide +kernel, rfl, by decide +kernel, by decide +kernel⟩
def t_Pattern_text (K : PySem.W.Frag) (c : Ad) : TS :=
  (tRet (tFld K (uV 0) "_text"))
theorem d_Pattern_text {P : Program} {w : World} {K : PySem.W.Frag} {mg : Str → Option Value} {base : Heap} {f : Addr} {cdv : Value} {A : Around} {outer : List Env} {s0 : Shared} {H0 : Hp} {E : XK} {c : Ad} {k : Nat} (T : Txt K mg c) (hr : Room (k + 1) (X0 P w K mg base N_Pattern_text "Pattern.text" s_Pattern_text f cdv A outer s0 H0 E).A) :
    PSs (X0 P w K mg base N_Pattern_text "Pattern.text" s_Pattern_text f cdv A outer s0 H0 E) (defBody s_Pattern_text) (t_Pattern_text K c) := by
  exact (pss_one (ps_ret (pe_fld (pe_uv 0) rfl)))

abbrev s_Nothing_init : Stmt := meth 18 0
abbrev N_Nothing_init : List Str := ["self"]
theorem sc_Nothing_init : ScopeS N_Nothing_init ["self"] (defScope s_Nothing_init) := ⟨rfl, rfl, rfl, by decide +kernel, rfl, by decide +kernel, by decide +kernel, by decide +kernel⟩
def t_Nothing_init (K : PySem.W.Frag) (c : Ad) (C g : Addr) (pPattern : Sp) (E : XK) : TS :=
  (tSeq (tSup 0 C g pPattern E (tCons (tC (.int 0)) (tCons (tC (.int 1)) (tCons (tC (.str (sOf [48]))) (tCons (tC (.bl false)) tNil))))) tNext)
theorem d_Nothing_init {P : Program} {w : World} {K : PySem.W.Frag} {mg : Str → Option Value} {base : Heap} {f cda cc D C g : Addr} {A : Around} {outer : List Env} {s0 : Shared} {H0 : Hp} {E : XK} {c : Ad} {pPattern  : Sp} {k : Nat} (T : Txt K mg c) (S : Sup P K mg f cc cda D C g "self") (F : FnR P w K mg base (CX P w) k g pPattern) (hr : Room (k + 1) (XS P w K mg base N_Nothing_init "Nothing.__init__" s_Nothing_init f cda cc A outer s0 H0 E).A) :
    PAt (XS P w K mg base N_Nothing_init "Nothing.__init__" s_Nothing_init f cda cc A outer s0 H0 E) (defBody s_Nothing_init) (defBody s_Nothing_init) (t_Nothing_init K c C g pPattern E) := by
  have tkE : Takes (XS P w K mg base N_Nothing_init "Nothing.__init__" s_Nothing_init f cda cc A outer s0 H0 E) (fun cls d _ H => E cls d H) := takes_of rfl rfl rfl rfl
  exact (at_cons (at_sup (i := 0) S rfl rfl F (hr.mono (Nat.le_succ _)) (passes_call tkE fun _ _ _ _ z => z) (pa_cons pe_int (pa_cons pe_int (pa_cons (pe_lit (l := [48]) (by decide +kernel)) (pa_cons pe_bl pa_nil)))) rfl rfl rfl rfl rfl rfl rfl rfl rfl) (at_of pss_nil))

abbrev s_Stay_init : Stmt := meth 19 0
abbrev N_Stay_init : List Str := ["self"]
theorem sc_Stay_init : ScopeS N_Stay_init ["self"] (defScope s_Stay_init) := ⟨rfl, rfl, rfl, by decide +kernel, rfl, by decide +kernel, by decide +kernel, by decide +kernel⟩
def t_Stay_init (K : PySem.W.Frag) (c : Ad) (C g : Addr) (pPattern : Sp) (E : XK) : TS :=
  (tSeq (tSup 0 C g pPattern E (tCons (tC (.int 0)) (tCons (tC (.int 1)) (tCons (tC (.str (sOf [49]))) (tCons (tC (.bl true)) tNil))))) tNext)
theorem d_Stay_init {P : Program} {w : World} {K : PySem.W.Frag} {mg : Str → Option Value} {base : Heap} {f cda cc D C g : Addr} {A : Around} {outer : List Env} {s0 : Shared} {H0 : Hp} {E : XK} {c : Ad} {pPattern  : Sp} {k : Nat} (T : Txt K mg c) (S : Sup P K mg f cc cda D C g "self") (F : FnR P w K mg base (CX P w) k g pPattern) (hr : Room (k + 1) (XS P w K mg base N_Stay_init "Stay.__init__" s_Stay_init f cda cc A outer s0 H0 E).A) :
    PAt (XS P w K mg base N_Stay_init "Stay.__init__" s_Stay_init f cda cc A outer s0 H0 E) (defBody s_Stay_init) (defBody s_Stay_init) (t_Stay_init K c C g pPattern E) := by
  have tkE : Takes (XS P w K mg base N_Stay_init "Stay.__init__" s_Stay_init f cda cc A outer s0 H0 E) (fun cls d _ H => E cls d H) := takes_of rfl rfl rfl rfl
  exact (at_cons (at_sup (i := 0) S rfl rfl F (hr.mono (Nat.le_succ _)) (passes_call tkE fun _ _ _ _ z => z) (pa_cons pe_int (pa_cons pe_int (pa_cons (pe_lit (l := [49]) (by decide +kernel)) (pa_cons pe_bl pa_nil)))) rfl rfl rfl rfl rfl rfl rfl rfl rfl) (at_of pss_nil))

abbrev s_Step_init : Stmt := meth 20 0
abbrev N_Step_init : List Str := ["self", "letter", "back"]
theorem sc_Step_init : ScopeS N_Step_init ["self", "letter", "back"] (defScope s_Step_init) := ⟨rfl, rfl, rfl, by decide +kernel, rfl, by decide +kernel, by decide +kernel, by decide +kernel⟩
def t_Step_init (K : PySem.W.Frag) (c : Ad) (C g : Addr) (pPattern : Sp) (pis_letter : Sp) (E : XK) : TS :=
  (tSeq (tIfS (tNot (uB (tCan pis_letter E0 (tCons (uV 1) tNil)))) tNever tNext) (tSeq (tSup 0 C g pPattern E (tCons (tC (.int 1)) (tCons (tC (.int 1)) (tCons (tIf (uB (uV 2)) (tOp (uAdd K) (uV 1) (tC (.str (sOf [39])))) (uV 1)) (tCons (tC (.bl false)) tNil))))) (tSeq (sFld K (uV 0) (uV 1) "letter") (tSeq (sFld K (uV 0) (uV 2) "back") tNext))))
theorem d_Step_init {P : Program} {w : World} {K : PySem.W.Frag} {mg : Str → Option Value} {base : Heap} {f cda cc D C g : Addr} {A : Around} {outer : List Env} {s0 : Shared} {H0 : Hp} {E : XK} {c : Ad} {pPattern pis_letter : Sp} {k : Nat} (T : Txt K mg c) (S : Sup P K mg f cc cda D C g "self") (F : FnR P w K mg base (CX P w) k g pPattern) (hr : Room (k + 1) (XS P w K mg base N_Step_init "Step.__init__" s_Step_init f cda cc A outer s0 H0 E).A) (h_is_letter : Has P w K mg base CX0 k "is_letter" pis_letter) :
    PAt (XS P w K mg base N_Step_init "Step.__init__" s_Step_init f cda cc A outer s0 H0 E) (defBody s_Step_init) (defBody s_Step_init) (t_Step_init K c C g pPattern pis_letter E) := by
  have tkE : Takes (XS P w K mg base N_Step_init "Step.__init__" s_Step_init f cda cc A outer s0 H0 E) (fun cls d _ H => E cls d H) := takes_of rfl rfl rfl rfl
  exact (at_cons (at1_of (ps_if (pt_not (pt_u (pe_can (h_is_letter.can hr) (pa_cons (pe_uv 1) pa_nil)))) (pss_one ps_never) pss_nil)) (at_cons (at_sup (i := 0) S rfl rfl F (hr.mono (Nat.le_succ _)) (passes_call tkE fun _ _ _ _ z => z) (pa_cons pe_int (pa_cons pe_int (pa_cons (pe_ifExp (pt_u (pe_uv 2)) (pe_op op_uAdd (pe_uv 1) (pe_lit (l := [39]) (by decide +kernel))) (pe_uv 1)) (pa_cons pe_bl pa_nil)))) rfl rfl rfl rfl rfl rfl rfl rfl rfl) (at_cons (at1_of (ps_fld (pe_uv 0) (pe_uv 1) rfl)) (at_cons (at1_of (ps_fld (pe_uv 0) (pe_uv 2) rfl)) (at_of pss_nil)))))

abbrev s_Test_init : Stmt := meth 21 0
abbrev N_Test_init : List Str := ["self", "mark"]
theorem sc_Test_init : ScopeS N_Test_init ["self", "mark"] (defScope s_Test_init) := ⟨rfl, rfl, rfl, by decide +kernel, rfl, by decide +kernel, by decide +kernel, by decide +kernel⟩
def t_Test_init (K : PySem.W.Frag) (c : Ad) (C g : Addr) (pPattern : Sp) (pis_mark : Sp) (E : XK) : TS :=
  (tSeq (tIfS (tNot (uB (tCan pis_mark E0 (tCons (uV 1) tNil)))) tNever tNext) (tSeq (tSup 0 C g pPattern E (tCons (tC (.int 1)) (tCons (tC (.int 1)) (tCons (tOp (uAdd K) (tC (.str (sOf [63]))) (uV 1)) (tCons (tC (.bl false)) tNil))))) (tSeq (sFld K (uV 0) (uV 1) "mark") tNext)))
theorem d_Test_init {P : Program} {w : World} {K : PySem.W.Frag} {mg : Str → Option Value} {base : Heap} {f cda cc D C g : Addr} {A : Around} {outer : List Env} {s0 : Shared} {H0 : Hp} {E : XK} {c : Ad} {pPattern pis_mark : Sp} {k : Nat} (T : Txt K mg c) (S : Sup P K mg f cc cda D C g "self") (F : FnR P w K mg base (CX P w) k g pPattern) (hr : Room (k + 1) (XS P w K mg base N_Test_init "Test.__init__" s_Test_init f cda cc A outer s0 H0 E).A) (h_is_mark : Has P w K mg base CX0 k "is_mark" pis_mark) :
    PAt (XS P w K mg base N_Test_init "Test.__init__" s_Test_init f cda cc A outer s0 H0 E) (defBody s_Test_init) (defBody s_Test_init) (t_Test_init K c C g pPattern pis_mark E) := by
  have tkE : Takes (XS P w K mg base N_Test_init "Test.__init__" s_Test_init f cda cc A outer s0 H0 E) (fun cls d _ H => E cls d H) := takes_of rfl rfl rfl rfl
  exact (at_cons (at1_of (ps_if (pt_not (pt_u (pe_can (h_is_mark.can hr) (pa_cons (pe_uv 1) pa_nil)))) (pss_one ps_never) pss_nil)) (at_cons (at_sup (i := 0) S rfl rfl F (hr.mono (Nat.le_succ _)) (passes_call tkE fun _ _ _ _ z => z) (pa_cons pe_int (pa_cons pe_int (pa_cons (pe_op op_uAdd (pe_lit (l := [63]) (by decide +kernel)) (pe_uv 1)) (pa_cons pe_bl pa_nil)))) rfl rfl rfl rfl rfl rfl rfl rfl rfl) (at_cons (at1_of (ps_fld (pe_uv 0) (pe_uv 1) rfl)) (at_of pss_nil))))

abbrev s_Then_init : Stmt := meth 22 0
abbrev N_Then_init : List Str := ["self", "parts", "size", "depth", "texts", "empty", "part"]
theorem sc_Then_init : ScopeS N_Then_init ["self", "parts"] (defScope s_Then_init) := ⟨rfl, rfl, rfl, by decide +kernel, rfl, by decide +kernel, by decide +kernel, by decide +kernel⟩
def t_Then_init (K : PySem.W.Frag) (c : Ad) (C g : Addr) (pPattern : Sp) (p_in_brackets : Sp) (E : XK) : TS :=
  (tSeq (tAsg (tCB (rSum K) (tCons (tLc (iTup K (uV 1)) (gName 6) tYes (tFld K (uV 6) "size") [6]) tNil)) (gName 2)) (tSeq (tAsg (tOp (uAdd K) (tC (.int 1)) (tCB (rMax K) (tCons (tLc (iTup K (uV 1)) (gName 6) tYes (tFld K (uV 6) "depth") [6]) tNil))) (gName 3)) (tSeq (tAsg (tLc (iTup K (uV 1)) (gName 6) tYes (tIf (uB (tCB (uIsi K) (tCons (uV 6) (tCons (tC (.ref c.Either)) tNil)))) (tCan p_in_brackets E0 (tCons (uV 6) tNil)) (tFld K (uV 6) "_text")) [6]) (gName 4)) (tSeq (tAsg (tCB (rAll K) (tCons (tLc (iTup K (uV 1)) (gName 6) tYes (tFld K (uV 6) "_empty") [6]) tNil)) (gName 5)) (tSeq (tSup 0 C g pPattern E (tCons (uV 2) (tCons (uV 3) (tCons (uJoin K (tC (.str (sOf [32]))) (uV 4)) (tCons (uV 5) tNil))))) (tSeq (sFld K (uV 0) (uV 1) "parts") tNext))))))
theorem d_Then_init {P : Program} {w : World} {K : PySem.W.Frag} {mg : Str → Option Value} {base : Heap} {f cda cc D C g : Addr} {A : Around} {outer : List Env} {s0 : Shared} {H0 : Hp} {E : XK} {c : Ad} {pPattern p_in_brackets : Sp} {k : Nat} (T : Txt K mg c) (S : Sup P K mg f cc cda D C g "self") (F : FnR P w K mg base (CX P w) k g pPattern) (hr : Room (k + 1) (XS P w K mg base N_Then_init "Then.__init__" s_Then_init f cda cc A outer s0 H0 E).A) (h__in_brackets : Has P w K mg base CX0 k "_in_brackets" p_in_brackets) :
    PAt (XS P w K mg base N_Then_init "Then.__init__" s_Then_init f cda cc A outer s0 H0 E) (defBody s_Then_init) (defBody s_Then_init) (t_Then_init K c C g pPattern p_in_brackets E) := by
  have tkE : Takes (XS P w K mg base N_Then_init "Then.__init__" s_Then_init f cda cc A outer s0 H0 E) (fun cls d _ H => E cls d H) := takes_of rfl rfl rfl rfl
  exact (at_cons (at1_of (ps_set (i := 2) sc_Then_init.nd rfl (Or.inl rfl) (pe_callB (cr_sum rfl) (by rfl) T.sum (by decide +kernel) (pa_cons (pe_lc (own := [("part", 6)]) (g := gName 6) (tt := tYes) rfl sc_Then_init.nd (pi_tup (pe_uv 1)) (blkOk_by (own := [("part", 6)]) (N := N_Then_init) (sc := defScope s_Then_init) (by decide +kernel)) (fun _ _ _ _ _ => pg_name (i := 6) sc_Then_init.nd rfl (Or.inl rfl)) (fun _ _ _ _ _ => pts_nil) (fun _ _ _ _ _ => (pe_fld (pe_uv 6) rfl))) pa_nil)))) (at_cons (at1_of (ps_set (i := 3) sc_Then_init.nd rfl (Or.inl rfl) (pe_op op_uAdd pe_int (pe_callB (cr_max rfl) (by rfl) T.max (by decide +kernel) (pa_cons (pe_lc (own := [("part", 6)]) (g := gName 6) (tt := tYes) rfl sc_Then_init.nd (pi_tup (pe_uv 1)) (blkOk_by (own := [("part", 6)]) (N := N_Then_init) (sc := defScope s_Then_init) (by decide +kernel)) (fun _ _ _ _ _ => pg_name (i := 6) sc_Then_init.nd rfl (Or.inl rfl)) (fun _ _ _ _ _ => pts_nil) (fun _ _ _ _ _ => (pe_fld (pe_uv 6) rfl))) pa_nil))))) (at_cons (at1_of (ps_setLc (i := 4) (own := [("part", 6)]) (g := gName 6) (tt := tYes) rfl sc_Then_init.nd rfl rfl (sw_true rfl rfl rfl (by decide +kernel)) (pi_tup (pe_uv 1)) (blkOk_by (own := [("part", 6)]) (N := N_Then_init) (sc := defScope s_Then_init) (by decide +kernel)) (fun _ _ _ _ _ => pg_name (i := 6) sc_Then_init.nd rfl (Or.inl rfl)) (fun _ _ _ _ _ => pts_nil) (fun _ _ _ _ _ => (pe_ifExp (pt_u (pe_callB cr_uIsi (by rfl) T.isinstance (by decide +kernel) (pa_cons (pe_uv 6) (pa_cons (pe_gs T.g_Either) pa_nil)))) (pe_can (h__in_brackets.can hr) (pa_cons (pe_uv 6) pa_nil)) (pe_fld (pe_uv 6) rfl))))) (at_cons (at1_of (ps_set (i := 5) sc_Then_init.nd rfl (Or.inl rfl) (pe_callB (cr_all rfl) (by rfl) T.all (by decide +kernel) (pa_cons (pe_lc (own := [("part", 6)]) (g := gName 6) (tt := tYes) rfl sc_Then_init.nd (pi_tup (pe_uv 1)) (blkOk_by (own := [("part", 6)]) (N := N_Then_init) (sc := defScope s_Then_init) (by decide +kernel)) (fun _ _ _ _ _ => pg_name (i := 6) sc_Then_init.nd rfl (Or.inl rfl)) (fun _ _ _ _ _ => pts_nil) (fun _ _ _ _ _ => (pe_fld (pe_uv 6) rfl))) pa_nil)))) (at_cons (at_sup (i := 0) S rfl rfl F (hr.mono (Nat.le_succ _)) (passes_call tkE fun _ _ _ _ z => z) (pa_cons (pe_uv 2) (pa_cons (pe_uv 3) (pa_cons (pe_join (pe_lit (l := [32]) (by decide +kernel)) (pe_uv 4)) (pa_cons (pe_uv 5) pa_nil)))) rfl rfl rfl rfl rfl rfl rfl rfl rfl) (at_cons (at1_of (ps_fld (pe_uv 0) (pe_uv 1) rfl)) (at_of pss_nil)))))))

abbrev s_Either_init : Stmt := meth 23 0
abbrev N_Either_init : List Str := ["self", "parts", "size", "depth", "texts", "empty", "part"]
theorem sc_Either_init : ScopeS N_Either_init ["self", "parts"] (defScope s_Either_init) := ⟨rfl, rfl, rfl, by decide +kernel, rfl, by decide +kernel, by decide +kernel, by decide +kernel⟩
def t_Either_init (K : PySem.W.Frag) (c : Ad) (C g : Addr) (pPattern : Sp) (E : XK) : TS :=
  (tSeq (tAsg (tCB (rSum K) (tCons (tLc (iTup K (uV 1)) (gName 6) tYes (tFld K (uV 6) "size") [6]) tNil)) (gName 2)) (tSeq (tAsg (tOp (uAdd K) (tC (.int 1)) (tCB (rMax K) (tCons (tLc (iTup K (uV 1)) (gName 6) tYes (tFld K (uV 6) "depth") [6]) tNil))) (gName 3)) (tSeq (tAsg (tLc (iTup K (uV 1)) (gName 6) tYes (tFld K (uV 6) "_text") [6]) (gName 4)) (tSeq (tAsg (tCB (rAny K) (tCons (tLc (iTup K (uV 1)) (gName 6) tYes (tFld K (uV 6) "_empty") [6]) tNil)) (gName 5)) (tSeq (tSup 0 C g pPattern E (tCons (uV 2) (tCons (uV 3) (tCons (uJoin K (tC (.str (sOf [32, 124, 32]))) (uV 4)) (tCons (uV 5) tNil))))) (tSeq (sFld K (uV 0) (uV 1) "parts") tNext))))))
theorem d_Either_init {P : Program} {w : World} {K : PySem.W.Frag} {mg : Str → Option Value} {base : Heap} {f cda cc D C g : Addr} {A : Around} {outer : List Env} {s0 : Shared} {H0 : Hp} {E : XK} {c : Ad} {pPattern  : Sp} {k : Nat} (T : Txt K mg c) (S : Sup P K mg f cc cda D C g "self") (F : FnR P w K mg base (CX P w) k g pPattern) (hr : Room (k + 1) (XS P w K mg base N_Either_init "Either.__init__" s_Either_init f cda cc A outer s0 H0 E).A) :
    PAt (XS P w K mg base N_Either_init "Either.__init__" s_Either_init f cda cc A outer s0 H0 E) (defBody s_Either_init) (defBody s_Either_init) (t_Either_init K c C g pPattern E) := by
  have tkE : Takes (XS P w K mg base N_Either_init "Either.__init__" s_Either_init f cda cc A outer s0 H0 E) (fun cls d _ H => E cls d H) := takes_of rfl rfl rfl rfl
  exact (at_cons (at1_of (ps_set (i := 2) sc_Either_init.nd rfl (Or.inl rfl) (pe_callB (cr_sum rfl) (by rfl) T.sum (by decide +kernel) (pa_cons (pe_lc (own := [("part", 6)]) (g := gName 6) (tt := tYes) rfl sc_Either_init.nd (pi_tup (pe_uv 1)) (blkOk_by (own := [("part", 6)]) (N := N_Either_init) (sc := defScope s_Either_init) (by decide +kernel)) (fun _ _ _ _ _ => pg_name (i := 6) sc_Either_init.nd rfl (Or.inl rfl)) (fun _ _ _ _ _ => pts_nil) (fun _ _ _ _ _ => (pe_fld (pe_uv 6) rfl))) pa_nil)))) (at_cons (at1_of (ps_set (i := 3) sc_Either_init.nd rfl (Or.inl rfl) (pe_op op_uAdd pe_int (pe_callB (cr_max rfl) (by rfl) T.max (by decide +kernel) (pa_cons (pe_lc (own := [("part", 6)]) (g := gName 6) (tt := tYes) rfl sc_Either_init.nd (pi_tup (pe_uv 1)) (blkOk_by (own := [("part", 6)]) (N := N_Either_init) (sc := defScope s_Either_init) (by decide +kernel)) (fun _ _ _ _ _ => pg_name (i := 6) sc_Either_init.nd rfl (Or.inl rfl)) (fun _ _ _ _ _ => pts_nil) (fun _ _ _ _ _ => (pe_fld (pe_uv 6) rfl))) pa_nil))))) (at_cons (at1_of (ps_setLc (i := 4) (own := [("part", 6)]) (g := gName 6) (tt := tYes) rfl sc_Either_init.nd rfl rfl (sw_true rfl rfl rfl (by decide +kernel)) (pi_tup (pe_uv 1)) (blkOk_by (own := [("part", 6)]) (N := N_Either_init) (sc := defScope s_Either_init) (by decide +kernel)) (fun _ _ _ _ _ => pg_name (i := 6) sc_Either_init.nd rfl (Or.inl rfl)) (fun _ _ _ _ _ => pts_nil) (fun _ _ _ _ _ => (pe_fld (pe_uv 6) rfl)))) (at_cons (at1_of (ps_set (i := 5) sc_Either_init.nd rfl (Or.inl rfl) (pe_callB (cr_any rfl) (by rfl) T.any (by decide +kernel) (pa_cons (pe_lc (own := [("part", 6)]) (g := gName 6) (tt := tYes) rfl sc_Either_init.nd (pi_tup (pe_uv 1)) (blkOk_by (own := [("part", 6)]) (N := N_Either_init) (sc := defScope s_Either_init) (by decide +kernel)) (fun _ _ _ _ _ => pg_name (i := 6) sc_Either_init.nd rfl (Or.inl rfl)) (fun _ _ _ _ _ => pts_nil) (fun _ _ _ _ _ => (pe_fld (pe_uv 6) rfl))) pa_nil)))) (at_cons (at_sup (i := 0) S rfl rfl F (hr.mono (Nat.le_succ _)) (passes_call tkE fun _ _ _ _ z => z) (pa_cons (pe_uv 2) (pa_cons (pe_uv 3) (pa_cons (pe_join (pe_lit (l := [32, 124, 32]) (by decide +kernel)) (pe_uv 4)) (pa_cons (pe_uv 5) pa_nil)))) rfl rfl rfl rfl rfl rfl rfl rfl rfl) (at_cons (at1_of (ps_fld (pe_uv 0) (pe_uv 1) rfl)) (at_of pss_nil)))))))

abbrev s_Many_init : Stmt := meth 24 0
abbrev N_Many_init : List Str := ["self", "body", "text"]
theorem sc_Many_init : ScopeS N_Many_init ["self", "body"] (defScope s_Many_init) := ⟨rfl, rfl, rfl, by decide +kernel, rfl, by decide +kernel, by decide +kernel, by decide +kernel⟩
def t_Many_init (K : PySem.W.Frag) (c : Ad) (C g : Addr) (pPattern : Sp) (p_in_brackets : Sp) (E : XK) : TS :=
  (tSeq (tAsg (tFld K (uV 1) "_text") (gName 2)) (tSeq (tIfS (tOr (uB (tCB (uIsi K) (tCons (uV 1) (tCons (tC (.ref c.Then)) tNil)))) (uB (tCB (uIsi K) (tCons (uV 1) (tCons (tC (.ref c.Either)) tNil))))) (tAsg (tCan p_in_brackets E0 (tCons (uV 1) tNil)) (gName 2)) tNext) (tSeq (tSup 0 C g pPattern E (tCons (tFld K (uV 1) "size") (tCons (tOp (uAdd K) (tFld K (uV 1) "depth") (tC (.int 1))) (tCons (tOp (uAdd K) (uV 2) (tC (.str (sOf [42])))) (tCons (tC (.bl true)) tNil))))) (tSeq (sFld K (uV 0) (uV 1) "body") tNext))))
theorem d_Many_init {P : Program} {w : World} {K : PySem.W.Frag} {mg : Str → Option Value} {base : Heap} {f cda cc D C g : Addr} {A : Around} {outer : List Env} {s0 : Shared} {H0 : Hp} {E : XK} {c : Ad} {pPattern p_in_brackets : Sp} {k : Nat} (T : Txt K mg c) (S : Sup P K mg f cc cda D C g "self") (F : FnR P w K mg base (CX P w) k g pPattern) (hr : Room (k + 1) (XS P w K mg base N_Many_init "Many.__init__" s_Many_init f cda cc A outer s0 H0 E).A) (h__in_brackets : Has P w K mg base CX0 k "_in_brackets" p_in_brackets) :
    PAt (XS P w K mg base N_Many_init "Many.__init__" s_Many_init f cda cc A outer s0 H0 E) (defBody s_Many_init) (defBody s_Many_init) (t_Many_init K c C g pPattern p_in_brackets E) := by
  have tkE : Takes (XS P w K mg base N_Many_init "Many.__init__" s_Many_init f cda cc A outer s0 H0 E) (fun cls d _ H => E cls d H) := takes_of rfl rfl rfl rfl
  exact (at_cons (at1_of (ps_set (i := 2) sc_Many_init.nd rfl (Or.inl rfl) (pe_fld (pe_uv 1) rfl))) (at_cons (at1_of (ps_if (PW.pt (pw_or (pt_u (pe_callB cr_uIsi (by rfl) T.isinstance (by decide +kernel) (pa_cons (pe_uv 1) (pa_cons (pe_gs T.g_Then) pa_nil)))) (pw_or1 (pt_u (pe_callB cr_uIsi (by rfl) T.isinstance (by decide +kernel) (pa_cons (pe_uv 1) (pa_cons (pe_gs T.g_Either) pa_nil))))))) (pss_one (ps_set (i := 2) sc_Many_init.nd rfl (Or.inl rfl) (pe_can (h__in_brackets.can hr) (pa_cons (pe_uv 1) pa_nil)))) pss_nil)) (at_cons (at_sup (i := 0) S rfl rfl F (hr.mono (Nat.le_succ _)) (passes_call tkE fun _ _ _ _ z => z) (pa_cons (pe_fld (pe_uv 1) rfl) (pa_cons (pe_op op_uAdd (pe_fld (pe_uv 1) rfl) pe_int) (pa_cons (pe_op op_uAdd (pe_uv 2) (pe_lit (l := [42]) (by decide +kernel))) (pa_cons pe_bl pa_nil)))) rfl rfl rfl rfl rfl rfl rfl rfl rfl) (at_cons (at1_of (ps_fld (pe_uv 0) (pe_uv 1) rfl)) (at_of pss_nil)))))

end L2.WB
namespace L2.WB
open PySem PySem.Spec PyProof.Rows
open K02 (T isL isK isI)
def fs4 (s d : Int) (x : Str) (e : Bool) : List (Str × V) := putF "_empty" (.bl e) (putF "_text" (.str x) (putF "depth" (.int d) (putF "size" (.int s) [])))
theorem look_ne {f g : Str} {v : V} {fs : List (Str × V)} (h : g ≠ f) : (putF f v fs).lookup g = fs.lookup g := by rw [lookup_putF, if_neg h]
theorem look_eq {f : Str} {v : V} {fs : List (Str × V)} : (putF f v fs).lookup f = some v := by rw [lookup_putF, if_pos rfl]
theorem pf4 {t : T} {e : Bool} : PF (fs4 (K02.size t) (K02.depth t) (sOf (K02.text t)) e) t := by
  unfold fs4
  refine ⟨?_, ?_, ?_, ⟨e, look_eq⟩, ?_⟩
  · rw [look_ne (by decide), look_ne (by decide), look_ne (by decide), look_eq]
  · rw [look_ne (by decide), look_ne (by decide), look_eq]
  · rw [look_ne (by decide), look_eq]
  · rw [look_ne (by decide), look_ne (by decide), look_ne (by decide), look_ne (by decide)]
    rfl
theorem PF.put {t : T} {fs : List (Str × V)} {f : Str} {v : V} (h : PF fs t) (hf : f ≠ "size" ∧ f ≠ "depth" ∧ f ≠ "_text" ∧ f ≠ "_empty" ∧ f ≠ "text") : PF (putF f v fs) t := by
  obtain ⟨b, hb⟩ := h.empty
  exact ⟨by rw [look_ne hf.1.symm]; exact h.size, by rw [look_ne hf.2.1.symm]; exact h.depth, by rw [look_ne hf.2.2.1.symm]; exact h.text, ⟨b, by rw [look_ne hf.2.2.2.1.symm]; exact hb⟩, by rw [look_ne hf.2.2.2.2.symm]; exact h.meth⟩
theorem fs4_len {s d : Int} {x : Str} {e : Bool} : (fs4 s d x e).length ≤ 4 := by
  unfold fs4
  have h1 := length_putF "_empty" (.bl e) (putF "_text" (.str x) (putF "depth" (.int d) (putF "size" (.int s) [])))
  have h2 := length_putF "_text" (.str x) (putF "depth" (.int d) (putF "size" (.int s) []))
  have h3 := length_putF "depth" (.int d) (putF "size" (.int s) [])
  have h4 := length_putF "size" (.int s) []
  simp only [List.length_nil] at h4
  omega
/-- Pattern.__init__ -/
def spPat (K : PySem.W.Frag) (c : Ad) : Sp := fun vs H Q E => ∃ (a : Addr) (s d : Int) (x : Str) (e : Bool) (g : Tg) (dx : Addr), vs = [.ref a, .int s, .int d, .str x, .bl e] ∧ H a = some (.ins (c.at g) dx []) ∧ s ≤ 2000 ∧
  (d ≤ 40 → ∀ H2, SameBut a H H2 → H2 a = some (.ins (c.at g) dx (fs4 s d x e)) → Q .non H2) ∧ (40 < d → Xc E H c.TooDeep "depth" (.int d))
/-- C.__init__ -/
def spNew (c : Ad) (g : Tg) (R : List V → Hp → T → Prop) : Sp := fun vs H Q E => ∃ a dx args t, vs = .ref a :: args ∧ H a = some (.ins (c.at g) dx []) ∧ R args H t ∧ K02.size t ≤ 2000 ∧
  (K02.depth t ≤ 40 → ∀ H2, SameBut a H H2 → PatAt c H2 (.ref a) t → Q .non H2) ∧ (40 < K02.depth t → Xc E H c.TooDeep "depth" (.int (K02.depth t)))
section
variable {K : PySem.W.Frag} {c : Ad} {H : Hp} {Q : VK} {E : XK} {vs : List V} {v : V} {t : T} {k : Tg} {R : List V → Hp → T → Prop}
/-- a call of a class -/
theorem make_ok (hR : ∀ H2, Same H H2 → R vs H2 t) (hz : K02.size t ≤ 2000) (q : K02.depth t ≤ 40 → ∀ x H2, Same H H2 → PatAt c H2 (.ref x) t → Q (.ref x) H2) (e : 40 < K02.depth t → Xc E H c.TooDeep "depth" (.int (K02.depth t))) :
    ∀ x dx, H x = none → H dx = none → dx ≠ x → spNew c k R (.ref x :: vs) (upd (upd H dx (.own x)) x (.ins (c.at k) dx [])) (fun v H2 => v = .non ∧ Q (.ref x) H2) E := by
  intro x dx nx nd ne
  have s : Same H (upd (upd H dx (.own x)) x (.ins (c.at k) dx [])) := fun b o hb => by
    rw [upd_ne (ne_of_none hb nx), upd_ne (ne_of_none hb nd)]
    exact hb
  refine ⟨x, dx, vs, t, rfl, upd_same, hR _ s, hz, fun hd H2 s2 p => ⟨rfl, q hd x H2 (fun b o hb => s2 b o (ne_of_none hb nx) (s b o hb)) p⟩, fun hd => (e hd).from s⟩
theorem q_Pattern_init (F : ClsF K c) (h : spPat K c vs H Q E) : t_Pattern_init K c E (fin0 Q) (start N_Pattern_init vs) H := by
  obtain ⟨a, s, d, x, e, g, dx, rfl, ha, hs, q1, q2⟩ := h
  show t_Pattern_init K c E (fin0 Q) [some (.ref a), some (.int s), some (.int d), some (.str x), some (.bl e)] H
  dsimp only [t_Pattern_init, tSeq, tAsg, tIfS, tRet, tRetN, tDrop, tNext, tOp, tUn, tCons, tNil, tTup, tLst, tC, tCB, tCan, tCanW, tAnd, tOr, tNot, tB, tIf, uB, uAndV, uOrV, uNotV, uNeg, uV, gName, gSub, tAug, ipI, tPart, tNoPart, tSl, tBM, tBM0, uLen, uAbs, uInt, uAdd, uSub, uMod, uFdiv, uMul, uCmp, uLt, uLe, uGt, uGe, tFld, StX.tMakeR, tRz, tCanS, sFld, start, fin0, List.getElem?_cons_zero, List.getElem?_cons_succ, List.map_cons, List.map_nil, List.length_cons, List.length_nil, List.replicate, List.cons_append, List.nil_append, Nat.reduceSub, Nat.reduceAdd, List.set_cons_zero, List.set_cons_succ]
  refine ifF (decide_eq_false (by omega)) ?_
  refine ifD (fun hd => ?_) fun hd => ?_
  · exact fun dd H2 nd s2 e2 => q2 hd dd H2 s2 e2
  · refine ⟨a, _, dx, _, rfl, ha, F.cls g, (F.no g).1, by simp, a, _, dx, _, rfl, upd_same, F.cls g, (F.no g).2.1, ?_, a, _, dx, _, rfl, upd_same, F.cls g, (F.no g).2.2.1, ?_, a, _, dx, _, rfl, upd_same, F.cls g, (F.no g).2.2.2.1, ?_, ?_⟩
    · have := length_putF "size" (.int s) []; simp only [List.length_nil] at this; omega
    · have h3 := length_putF "depth" (.int d) (putF "size" (.int s) [])
      have := length_putF "size" (.int s) []; simp only [List.length_nil] at this; omega
    · have h2 := length_putF "_text" (.str x) (putF "depth" (.int d) (putF "size" (.int s) []))
      have h3 := length_putF "depth" (.int d) (putF "size" (.int s) [])
      have := length_putF "size" (.int s) []; simp only [List.length_nil] at this; omega
    · refine q1 (by omega) _ (fun b o hb ho => ?_) upd_same
      rw [upd_ne hb, upd_ne hb, upd_ne hb, upd_ne hb]
      exact ho
/-- the reading of super().__init__ -/
theorem sup_ok {g : Addr} {ta : TA} {D : Ends} {σ : St} {a dx : Addr} (hσ : σ[0]? = some (some (.ref a))) (ha : H a = some (.ins (c.at k) dx [])) {s d : Int} {x : Str} {e : Bool}
    (h : ∀ q, H q = none → ∀ R : List V → Hp → Prop, (∀ H2, Same (upd H q (.met g a)) H2 → R [.int s, .int d, .str x, .bl e] H2) → ta σ (upd H q (.met g a)) R) (hs : s ≤ 2000) (q1 : d ≤ 40 → ∀ H2, SameBut a H H2 → H2 a = some (.ins (c.at k) dx (fs4 s d x e)) → D.nx σ H2) (q2 : 40 < d → Xc E H c.TooDeep "depth" (.int d)) : tSup 0 (c.at k) g (spPat K c) E ta D σ H := by
  refine ⟨a, dx, [], hσ, ha, fun q hq => h q hq _ fun H2 s2 => ⟨s2 _ _ upd_same, a, s, d, x, e, k, dx, rfl, s2 _ _ (get_new ha hq), hs, fun hd H3 s3 h3 => q1 hd H3 (fun b o hb ho => s3 b o hb (s2 _ _ (get_new ho hq))) h3, fun hd => (q2 hd).from fun b o ho => s2 _ _ (get_new ho hq)⟩⟩
def rNothing : List V → Hp → T → Prop := fun args _ t => args = [] ∧ t = .z
def rStay : List V → Hp → T → Prop := fun args _ t => args = [] ∧ t = .s
def rStep : List V → Hp → T → Prop := fun args _ t => ∃ l b, args = [.str (sOf [l]), .bl b] ∧ isL l = true ∧ t = .i (if b = true then [l, 39] else [l])
def rTest : List V → Hp → T → Prop := fun args _ t => ∃ l, args = [.str (sOf [l])] ∧ isK l = true ∧ t = .i [63, l]
def rMany (c : Ad) : List V → Hp → T → Prop := fun args H t => ∃ v b, args = [v] ∧ PatAt c H v b ∧ Ok b ∧ t = .m b
def rThen (c : Ad) : List V → Hp → T → Prop := fun args H t => ∃ q ws ts, args = [.ref q] ∧ H q = some (.tup ws) ∧ Pats c H ws ts ∧ ts ≠ [] ∧ t = .n ts ∧ Ok t ∧ ∀ x ∈ ts, Ok x
def rEither (c : Ad) : List V → Hp → T → Prop := fun args H t => ∃ q ws ts, args = [.ref q] ∧ H q = some (.tup ws) ∧ Pats c H ws ts ∧ ts ≠ [] ∧ t = .o ts ∧ Ok t ∧ ∀ x ∈ ts, Ok x
theorem q_Nothing_init {g : Addr} (h : spNew c .Nothing rNothing vs H Q E) : t_Nothing_init K c c.Nothing g (spPat K c) E (fin0 Q) (start N_Nothing_init vs) H := by
  obtain ⟨a, dx, args, t, rfl, ha, ⟨rfl, rfl⟩, hz, q1, q2⟩ := h
  show t_Nothing_init K c c.Nothing g (spPat K c) E (fin0 Q) [some (.ref a)] H
  unfold t_Nothing_init
  refine sup_ok (k := .Nothing) (D := { fin0 Q with nx := _ }) rfl ha (s := 0) (d := 1) (x := sOf [48]) (e := false) (fun q hq R hR => hR _ (Same.refl _)) (by decide) (fun _ H2 s2 h2 => ?_) fun hd => absurd hd (by decide)
  exact q1 (by simp [K02.depth]) H2 s2 (.z h2 (pf4 (t := .z)))
theorem q_Stay_init {g : Addr} (h : spNew c .Stay rStay vs H Q E) : t_Stay_init K c c.Stay g (spPat K c) E (fin0 Q) (start N_Stay_init vs) H := by
  obtain ⟨a, dx, args, t, rfl, ha, ⟨rfl, rfl⟩, hz, q1, q2⟩ := h
  show t_Stay_init K c c.Stay g (spPat K c) E (fin0 Q) [some (.ref a)] H
  unfold t_Stay_init
  refine sup_ok (k := .Stay) (D := { fin0 Q with nx := _ }) rfl ha (s := 0) (d := 1) (x := sOf [49]) (e := true) (fun q hq R hR => hR _ (Same.refl _)) (by decide) (fun _ H2 s2 h2 => ?_) fun hd => absurd hd (by decide)
  exact q1 (by simp [K02.depth]) H2 s2 (.s h2 (pf4 (t := .s)))
theorem q_Step_init {g : Addr} (F : ClsF K c) (h : spNew c .Step rStep vs H Q E) : t_Step_init K c c.Step g (spPat K c) (spB isLs) E (fin0 Q) (start N_Step_init vs) H := by
  obtain ⟨a, dx, args, t, rfl, ha, ⟨l, b, rfl, hL, rfl⟩, hz, q1, q2⟩ := h
  show t_Step_init K c c.Step g (spPat K c) (spB isLs) E (fin0 Q) [some (.ref a), some (.str (sOf [l])), some (.bl b)] H
  unfold t_Step_init
  refine ⟨[l], rfl, by simp, fun H0 s0 => ?_⟩
  refine ifF (b := !isL l) (by rw [hL]; rfl) ?_
  have ha0 := s0 _ _ ha
  refine sup_ok (k := .Step) (D := { fin0 Q with nx := _ }) rfl ha0 (s := 1) (d := 1) (x := sOf (if b = true then [l, 39] else [l])) (e := false) (fun q hq R hR => ?_) (by decide) (fun _ H2 s2 h2 => ?_) fun hd => absurd hd (by decide)
  · cases b with
    | true =>
      dsimp only [tSeq, tAsg, tIfS, tRet, tRetN, tDrop, tNext, tOp, tUn, tCons, tNil, tTup, tLst, tC, tCB, tCan, tCanW, tAnd, tOr, tNot, tB, tIf, uB, uAndV, uOrV, uNotV, uNeg, uV, gName, gSub, tAug, ipI, tPart, tNoPart, tSl, tBM, tBM0, uLen, uAbs, uInt, uAdd, uSub, uMod, uFdiv, uMul, uCmp, uLt, uLe, uGt, uGe, tFld, StX.tMakeR, tRz, tCanS, sFld, start, fin0, List.getElem?_cons_zero, List.getElem?_cons_succ, List.map_cons, List.map_nil, List.length_cons, List.length_nil, List.replicate, List.cons_append, List.nil_append, Nat.reduceSub, Nat.reduceAdd, List.set_cons_zero, List.set_cons_succ]
      refine iteT ⟨sl_ok (show 1 + 1 ≤ 1000000 by decide), ?_⟩
      rw [sOf_add]
      exact hR _ (Same.refl _)
    | false =>
      dsimp only [tSeq, tAsg, tIfS, tRet, tRetN, tDrop, tNext, tOp, tUn, tCons, tNil, tTup, tLst, tC, tCB, tCan, tCanW, tAnd, tOr, tNot, tB, tIf, uB, uAndV, uOrV, uNotV, uNeg, uV, gName, gSub, tAug, ipI, tPart, tNoPart, tSl, tBM, tBM0, uLen, uAbs, uInt, uAdd, uSub, uMod, uFdiv, uMul, uCmp, uLt, uLe, uGt, uGe, tFld, StX.tMakeR, tRz, tCanS, sFld, start, fin0, List.getElem?_cons_zero, List.getElem?_cons_succ, List.map_cons, List.map_nil, List.length_cons, List.length_nil, List.replicate, List.cons_append, List.nil_append, Nat.reduceSub, Nat.reduceAdd, List.set_cons_zero, List.set_cons_succ]
      exact iteF (hR _ (Same.refl _))
  · have p : PF (fs4 1 1 (sOf (if b = true then [l, 39] else [l])) false) (.i (if b = true then [l, 39] else [l])) := by
      have z := pf4 (t := .i (if b = true then [l, 39] else [l])) (e := false)
      simp only [K02.size, K02.depth, K02.text] at z
      exact z
    have hl := fs4_len (s := 1) (d := 1) (x := sOf (if b = true then [l, 39] else [l])) (e := false)
    have hl2 := length_putF "letter" (.str (sOf [l])) (fs4 1 1 (sOf (if b = true then [l, 39] else [l])) false)
    refine ⟨a, _, dx, _, rfl, h2, F.cls .Step, (F.no .Step).2.2.2.2.2.1, by omega, a, _, dx, _, rfl, upd_same, F.cls .Step, (F.no .Step).2.2.2.2.2.2.1, by omega, ?_⟩
    refine q1 (by simp [K02.depth]) _ (fun b o hb ho => ?_) (.i upd_same ((p.put (by decide)).put (by decide)))
    rw [upd_ne hb, upd_ne hb]
    exact s2 b o hb (s0 b o ho)
theorem q_Test_init {g : Addr} (F : ClsF K c) (h : spNew c .Test rTest vs H Q E) : t_Test_init K c c.Test g (spPat K c) (spB isKs) E (fin0 Q) (start N_Test_init vs) H := by
  obtain ⟨a, dx, args, t, rfl, ha, ⟨l, rfl, hL, rfl⟩, hz, q1, q2⟩ := h
  show t_Test_init K c c.Test g (spPat K c) (spB isKs) E (fin0 Q) [some (.ref a), some (.str (sOf [l]))] H
  unfold t_Test_init
  refine ⟨[l], rfl, by simp, fun H0 s0 => ?_⟩
  refine ifF (b := !isK l) (by rw [hL]; rfl) ?_
  have ha0 := s0 _ _ ha
  refine sup_ok (k := .Test) (D := { fin0 Q with nx := _ }) rfl ha0 (s := 1) (d := 1) (x := sOf [63, l]) (e := false) (fun q hq R hR => ?_) (by decide) (fun _ H2 s2 h2 => ?_) fun hd => absurd hd (by decide)
  · refine ⟨sl_ok (show 1 + 1 ≤ 1000000 by decide), ?_⟩
    rw [sOf_add]
    exact hR _ (Same.refl _)
  · have p : PF (fs4 1 1 (sOf [63, l]) false) (.i [63, l]) := by
      have z := pf4 (t := .i [63, l]) (e := false)
      simp only [K02.size, K02.depth, K02.text] at z
      exact z
    have hl := fs4_len (s := 1) (d := 1) (x := sOf [63, l]) (e := false)
    refine ⟨a, _, dx, _, rfl, h2, F.cls .Test, (F.no .Test).2.2.2.2.2.2.2.1, by omega, ?_⟩
    refine q1 (by simp [K02.depth]) _ (fun b o hb ho => ?_) (.k upd_same (p.put (by decide)))
    rw [upd_ne hb]
    exact s2 b o hb (s0 b o ho)
theorem q_Many_init {g : Addr} (F : ClsF K c) (h : spNew c .Many (rMany c) vs H Q E) : t_Many_init K c c.Many g (spPat K c) (spInBr c) E (fin0 Q) (start N_Many_init vs) H := by
  obtain ⟨a, dx, args, t, rfl, ha, ⟨v, b, rfl, p, ok, rfl⟩, hz, q1, q2⟩ := h
  show t_Many_init K c c.Many g (spPat K c) (spInBr c) E (fin0 Q) [some (.ref a), some v, none] H
  unfold t_Many_init
  have hlen := ok.len
  obtain ⟨a1, C1, dx1, fs1, e1, e2, e3, e4, e5⟩ := fd_text F p
  refine ⟨a1, C1, dx1, fs1, _, e1, e2, e3, e4, e5, ?_⟩
  -- behind the choice of the text
  have rest : ∀ (x : List Nat) (H0 : Hp), x = K02.brk (b.isN || b.isO) (K02.text b) → Same H H0 →
      tSeq (tSup 0 c.Many g (spPat K c) E (tCons (tFld K (uV 1) "size") (tCons (tOp (uAdd K) (tFld K (uV 1) "depth") (tC (.int 1))) (tCons (tOp (uAdd K) (uV 2) (tC (.str (sOf [42])))) (tCons (tC (.bl true)) tNil))))) (tSeq (sFld K (uV 0) (uV 1) "body") tNext) (fin0 Q) [some (.ref a), some v, some (.str (sOf x))] H0 := fun x H0 ex s0 => by
    have ha0 := s0 _ _ ha
    have p0 := p.keep (Same.kp s0)
    have hx : x.length ≤ 160003 := by
      have := K02.brk_len (b.isN || b.isO) (K02.text b)
      rw [ex]; omega
    refine sup_ok (k := .Many) (D := { fin0 Q with nx := _ }) rfl ha0 (s := K02.size b) (d := (K02.depth b : Int) + 1) (x := sOf (x ++ [42])) (e := true) (fun q hq R hR => ?_) (by simp only [K02.size] at hz; omega) (fun hd H2 s2 h2 => ?_) fun hd => ?_
    · have p1 := p0.keep (Same.kp (same_new (o := .met g a) hq))
      obtain ⟨a2, C2, dx2, fs2, f1, f2, f3, f4, f5⟩ := fd_size F p1
      refine ⟨a2, C2, dx2, fs2, _, f1, f2, f3, f4, f5, ?_⟩
      obtain ⟨a2, C2, dx2, fs2, f1, f2, f3, f4, f5⟩ := fd_depth F p1
      refine ⟨a2, C2, dx2, fs2, _, f1, f2, f3, f4, f5, sl_ok (by rw [sOf_len, sOf_len]; simp only [List.length_cons, List.length_nil]; omega), ?_⟩
      rw [sOf_add]
      exact hR _ (Same.refl _)
    · have pf : PF (fs4 (K02.size b) ((K02.depth b : Int) + 1) (sOf (x ++ [42])) true) (.m b) := by
        have z := pf4 (t := .m b) (e := true)
        have e6 : K02.text (.m b) = x ++ [42] := by rw [ex]; simp only [K02.text]
        have e7 : ((K02.depth (.m b) : Nat) : Int) = (K02.depth b : Int) + 1 := by simp only [K02.depth]; omega
        have e8 : K02.size (.m b) = K02.size b := by simp only [K02.size]
        rw [e6, e7, e8] at z
        exact z
      have hl := fs4_len (s := K02.size b) (d := (K02.depth b : Int) + 1) (x := sOf (x ++ [42])) (e := true)
      refine ⟨a, _, dx, _, rfl, h2, F.cls .Many, (F.no .Many).2.2.2.2.2.2.2.2, by omega, ?_⟩
      refine q1 (by simp only [K02.depth]; omega) _ (fun b o hb ho => ?_) (.m upd_same (pf.put (by decide)))
      rw [upd_ne hb]
      exact s2 b o hb (s0 b o ho)
    · have e7 : ((K02.depth (.m b) : Nat) : Int) = (K02.depth b : Int) + 1 := by simp only [K02.depth]; omega
      have := (q2 (by simp only [K02.depth]; omega)).from s0
      rw [e7] at this
      exact this
  -- which text
  have brk : ∀ H0, Same H H0 → (b.isN || b.isO) = true → spInBr c [v] H0 (fun x H1 => tSeq (tSup 0 c.Many g (spPat K c) E (tCons (tFld K (uV 1) "size") (tCons (tOp (uAdd K) (tFld K (uV 1) "depth") (tC (.int 1))) (tCons (tOp (uAdd K) (uV 2) (tC (.str (sOf [42])))) (tCons (tC (.bl true)) tNil))))) (tSeq (sFld K (uV 0) (uV 1) "body") tNext) (fin0 Q) [some (.ref a), some v, some x] H1) E0 := fun H0 s0 hb =>
    ⟨v, b, rfl, p.keep (Same.kp s0), ok, fun H1 s1 => rest _ H1 (by rw [hb]; rfl) (s0.trans s1)⟩
  dsimp only [tSeq, tAsg, tIfS, tRet, tRetN, tDrop, tNext, tOp, tUn, tCons, tNil, tTup, tLst, tC, tCB, tCan, tCanW, tAnd, tOr, tNot, tB, tIf, uB, uAndV, uOrV, uNotV, uNeg, uV, gName, gSub, tAug, ipI, tPart, tNoPart, tSl, tBM, tBM0, uLen, uAbs, uInt, uAdd, uSub, uMod, uFdiv, uMul, uCmp, uLt, uLe, uGt, uGe, tFld, StX.tMakeR, tRz, tCanS, sFld, start, fin0, List.getElem?_cons_zero, List.getElem?_cons_succ, List.map_cons, List.map_nil, List.length_cons, List.length_nil, List.replicate, List.cons_append, List.nil_append, Nat.reduceSub, Nat.reduceAdd, List.set_cons_zero, List.set_cons_succ]
  refine isi_pat F p .Then (by decide) ?_
  show if b.isN = true then _ else _
  cases hN : b.isN with
  | true => exact iteT (iteT (brk H (Same.refl H) (by rw [hN]; rfl)))
  | false =>
    refine iteF (isi_pat F p .Either (by decide) ?_)
    show if b.isO = true then _ else _
    cases hO : b.isO with
    | true => exact iteT (brk H (Same.refl H) (by rw [hN, hO]; rfl))
    | false => exact iteF (rest (K02.text b) H (by rw [hN, hO]; rfl) (Same.refl H))
end
end L2.WB
namespace L2.WB
open PySem PySem.Spec PyProof.Rows
open K02 (T isL isK isI)
/-- a new instance, not yet with fields, is no pattern: patterns stay where only it changes -/
theorem PF.nn {t : T} {fs : List (Str × V)} (h : PF fs t) : fs ≠ [] := fun e => by
  have := h.size
  rw [e] at this
  cases this
mutual
theorem PatAt.but {c : Ad} {H H2 : Hp} {a C dx : Addr} (ha : H a = some (.ins C dx [])) (k : ∀ b o, b ≠ a → H b = some o → H2 b = some o) : ∀ {v : V} {t : T}, PatAt c H v t → PatAt c H2 v t
  | _, _, .z h f => .z (k _ _ (fun e => f.nn (by rw [e, ha] at h; cases h; rfl)) h) f
  | _, _, .s h f => .s (k _ _ (fun e => f.nn (by rw [e, ha] at h; cases h; rfl)) h) f
  | _, _, .i h f => .i (k _ _ (fun e => f.nn (by rw [e, ha] at h; cases h; rfl)) h) f
  | _, _, .k h f => .k (k _ _ (fun e => f.nn (by rw [e, ha] at h; cases h; rfl)) h) f
  | _, _, .m h f => .m (k _ _ (fun e => f.nn (by rw [e, ha] at h; cases h; rfl)) h) f
  | _, _, .n h f p q b => .n (k _ _ (fun e => f.nn (by rw [e, ha] at h; cases h; rfl)) h) f p (k _ _ (fun e => by rw [e, ha] at q; cases q) q) (b.but ha k)
  | _, _, .o h f p q b => .o (k _ _ (fun e => f.nn (by rw [e, ha] at h; cases h; rfl)) h) f p (k _ _ (fun e => by rw [e, ha] at q; cases q) q) (b.but ha k)
theorem Pats.but {c : Ad} {H H2 : Hp} {a C dx : Addr} (ha : H a = some (.ins C dx [])) (k : ∀ b o, b ≠ a → H b = some o → H2 b = some o) : ∀ {vs : List V} {ts : List T}, Pats c H vs ts → Pats c H2 vs ts
  | _, _, .nil => .nil
  | _, _, .cons x y => .cons (x.but ha k) (y.but ha k)
end
section
variable {K : PySem.W.Frag} {c : Ad} {H : Hp} {Q : VK} {E : XK} {vs : List V} {v : V} {t : T} {k : Tg} {R : List V → Hp → T → Prop}
/-- a list made of each part of a tuple of patterns -/
theorem lc_pats {σ : St} {i j : Nat} {q : Addr} {ws : List V} {ts : List T} {te : TE} (P : List T → List V → Prop) (hσ : σ[i]? = some (some (.ref q))) (hq : H q = some (.tup ws)) (hp : Pats c H ws ts) (hl : ws.length ≤ 1000000) (h0 : P [] [])
    (hs : ∀ (x : V) (u : T) (H1 : Hp) (R : VK), u ∈ ts → PatAt c H1 x u → Same H H1 → (∀ y H2, Same H1 H2 → (∀ pre xs, P pre xs → P (pre ++ [u]) (xs ++ [y])) → R y H2) → te ((wipe σ [j]).set j (some x)) H1 R)
    (hd : ∀ D H2 xs, Same H H2 → H2 D = some (.lst xs) → P ts xs → Q (.ref D) H2) : tLc (iTup K (uV i)) (gName j) tYes te [j] σ H Q := by
  have hu : uV i σ H = fun Q => Q (.ref q) H := by
    funext Q
    unfold uV
    rw [hσ]
  unfold tLc iTup
  rw [hu]
  refine ⟨q, rfl, ⟨ws, sqT hq⟩, fun D nD => ?_⟩
  have keep : ∀ {H1 : Hp}, (∀ b o, H b = some o → H1 b = some o) → SqT K H1 q ws := fun h => sqT (h _ _ hq)
  refine lc_tup (K := K) (a := q) (xs := ws) (fun n H1 => Same H H1 ∧ ∃ xs, H1 D = some (.lst xs) ∧ xs.length = n ∧ P (ts.take n) xs) ⟨same_new nD, [], upd_same, rfl, h0⟩ (fun n H1 _ h => keep h.1) ?_ ?_
  · intro n x H1 hx ⟨s1, xs, eD, en, pP⟩
    obtain ⟨u, hu, pu⟩ := hp.get hx
    have hn : n < ts.length := (List.getElem?_eq_some_iff.mp hu).1
    refine ⟨?_, ?_⟩
    · show ((σ.set j none).set j (some x)).set j none = σ.set j none
      rw [List.set_set, List.set_set]
    · refine hs x u H1 _ (List.mem_of_getElem? hu) (pu.keep (Same.kp s1)) s1 fun y H2 s2 hP => ?_
      have s12 := s1.trans s2
      refine ⟨xs, s2 _ _ eD, ?_, ?_⟩
      · rw [en, sizeLine_eq]
        have := hp.len
        omega
      · refine ⟨fun b o hb => ?_, _, upd_same, by rw [List.length_append, en]; rfl, ?_⟩
        · rw [upd_ne (ne_of_none hb nD)]
          exact s12 b o hb
        · rw [List.take_add_one, hu]
          exact hP _ _ pP
  · rintro H1 ⟨s1, xs, eD, en, pP⟩
    rw [hp.len, List.take_length] at pP
    exact hd D H1 xs s1 eD pP
theorem sum_sizes (ts : List T) : ((ts.map fun t => (K02.size t : Int)).sum : Int) = (K02.sizes ts : Int) := by
  induction ts with
  | nil => rfl
  | cons t r ih =>
    rw [List.map_cons, List.sum_cons, ih]
    simp only [K02.sizes]
    omega
theorem max_depths {ts : List T} {m : Int} (hm : m ∈ ts.map fun t => (K02.depth t : Int)) (hle : ∀ y ∈ ts.map (fun t => (K02.depth t : Int)), y ≤ m) : m = (K02.maxL (K02.depths ts) : Nat) := by
  obtain ⟨t, ht, rfl⟩ := List.mem_map.mp hm
  have h1 : K02.depth t ≤ K02.maxL (K02.depths ts) := K02.le_maxL (by rw [K02.depths_map]; exact List.mem_map_of_mem ht)
  have h2 : K02.maxL (K02.depths ts) ∈ K02.depths ts := K02.maxL_mem (by rw [K02.depths_map]; intro e; rw [List.map_eq_nil_iff] at e; rw [e] at ht; cases ht)
  rw [K02.depths_map] at h2
  obtain ⟨u, hu, e⟩ := List.mem_map.mp h2
  rw [K02.depths_map]
  have h3 := hle _ (List.mem_map_of_mem hu)
  rw [K02.depths_map] at h1
  omega
theorem max_ok {D : Addr} {ts : List T} (h : H D = some (.lst (ts.map fun t => V.int (K02.depth t)))) (hn : ts ≠ []) (q : Q (.int (K02.maxL (K02.depths ts))) H) : rMax K [.ref D] H Q := by
  refine ⟨D, ts.map fun t => (K02.depth t : Int), rfl, ?_, ?_, fun m hm hle => ?_⟩
  · have := sqL (K := K) h
    rw [List.map_map]
    exact this
  · rw [List.length_map]
    exact List.length_pos_iff.mpr hn
  · rw [max_depths hm hle]
    exact q
theorem sum_ok {D : Addr} {ts : List T} (h : H D = some (.lst (ts.map fun t => V.int (K02.size t)))) (q : Q (.int (K02.sizes ts)) H) : rSum K [.ref D] H Q := by
  refine ⟨D, ts.map fun t => (K02.size t : Int), rfl, ?_, ?_⟩
  · have := sqL (K := K) h
    rw [List.map_map]
    exact this
  · rw [sum_sizes]
    exact q
/-- the length of what is joined -/
theorem sum_lens (ls : List (List Nat)) : ((ls.map sOf).map (·.length)).sum = (ls.map List.length).sum := by
  rw [List.map_map]
  rfl
theorem join_ok3 {D : Addr} {sep : List Nat} {ls : List (List Nat)} {σ : St} {i : Nat} (hσ : σ[i]? = some (some (.ref D))) (h : H D = some (.lst (tv ls))) (hz : (ls.map List.length).sum + ls.length * sep.length ≤ 16777216) (q : Q (.str (sOf (K02.joinL sep ls))) H) : uJoin K (tC (.str (sOf sep))) (uV i) σ H Q := by
  have hu : ∀ Q : VK, Q (.ref D) H → uV i σ H Q := fun Q q => by
    unfold uV
    rw [hσ]
    exact q
  refine ⟨⟨_, rfl⟩, hu _ ⟨sOf sep, D, ls.map sOf, rfl, rfl, .inl ?_, ?_, ?_⟩⟩
  · rw [List.map_map]
    exact sqL h
  · rw [sum_lens, List.length_map, sOf_len]
    exact hz
  · rw [join_sOf]
    exact q
theorem q_Then_init {g : Addr} (F : ClsF K c) (h : spNew c .Then (rThen c) vs H Q E) : t_Then_init K c c.Then g (spPat K c) (spInBr c) E (fin0 Q) (start N_Then_init vs) H := by
  obtain ⟨a, dx, args, t, rfl, ha, ⟨q0, ws, ts, rfl, hq, hp, hn, rfl, okn, ok⟩, hz, q1, q2⟩ := h
  show t_Then_init K c c.Then g (spPat K c) (spInBr c) E (fin0 Q) [some (.ref a), some (.ref q0), none, none, none, none, none] H
  have hwl : ws.length ≤ 1000000 := by
    have h1 := okn.wt
    have h2 := okn.sf
    unfold K02.SF at h2
    have h3 := K02.wts_big (ps := ts) fun p hp => K02.wt_pos ((K02.SFs_iff ts).mp h2.2.1 p hp) (h2.2.2 p hp).1
    simp only [K02.wt] at h1
    have := hp.len
    omega
  dsimp only [t_Then_init, tSeq, tAsg, tIfS, tRet, tRetN, tDrop, tNext, tOp, tUn, tCons, tNil, tTup, tLst, tC, tCB, tCan, tCanW, tAnd, tOr, tNot, tB, tIf, uB, uAndV, uOrV, uNotV, uNeg, uV, gName, gSub, tAug, ipI, tPart, tNoPart, tSl, tBM, tBM0, uLen, uAbs, uInt, uAdd, uSub, uMod, uFdiv, uMul, uCmp, uLt, uLe, uGt, uGe, tFld, StX.tMakeR, tRz, tCanS, sFld, start, fin0, List.getElem?_cons_zero, List.getElem?_cons_succ, List.map_cons, List.map_nil, List.length_cons, List.length_nil, List.replicate, List.cons_append, List.nil_append, Nat.reduceSub, Nat.reduceAdd, List.set_cons_zero, List.set_cons_succ]
  refine lc_pats (fun us xs => xs = us.map fun t => V.int (K02.size t)) rfl hq hp hwl rfl (fun x u H1 R hu pu s1 hR => ?_) fun D1 H1 xs s1 eD1 eP => ?_
  · obtain ⟨b1, b2, b3, b4, f1, f2, f3, f4, f5⟩ := fd_size F pu
    exact ⟨b1, b2, b3, b4, _, f1, f2, f3, f4, f5, hR _ H1 (Same.refl _) fun pre xs e => by rw [e, List.map_append]; rfl⟩
  subst eP
  refine sum_ok eD1 ?_
  refine lc_pats (fun us xs => xs = us.map fun t => V.int (K02.depth t)) rfl (s1 _ _ hq) (hp.keep (Same.kp s1)) hwl rfl (fun x u H1 R hu pu s1 hR => ?_) fun D2 H2 xs s2 eD2 eP => ?_
  · obtain ⟨b1, b2, b3, b4, f1, f2, f3, f4, f5⟩ := fd_depth F pu
    exact ⟨b1, b2, b3, b4, _, f1, f2, f3, f4, f5, hR _ H1 (Same.refl _) fun pre xs e => by rw [e, List.map_append]; rfl⟩
  subst eP
  have s12 := s1.trans s2
  refine max_ok eD2 hn ?_
  refine lc_pats (fun us xs => xs = tv (us.map fun p => K02.brk p.isO (K02.text p))) rfl (s12 _ _ hq) (hp.keep (Same.kp s12)) hwl rfl (fun x u H1 R hu pu s1 hR => ?_) fun D3 H3 xs s3 eD3 eP => ?_
  · dsimp only [wipe, tSeq, tAsg, tIfS, tRet, tRetN, tDrop, tNext, tOp, tUn, tCons, tNil, tTup, tLst, tC, tCB, tCan, tCanW, tAnd, tOr, tNot, tB, tIf, uB, uAndV, uOrV, uNotV, uNeg, uV, gName, gSub, tAug, ipI, tPart, tNoPart, tSl, tBM, tBM0, uLen, uAbs, uInt, uAdd, uSub, uMod, uFdiv, uMul, uCmp, uLt, uLe, uGt, uGe, tFld, StX.tMakeR, tRz, tCanS, sFld, start, fin0, List.getElem?_cons_zero, List.getElem?_cons_succ, List.map_cons, List.map_nil, List.length_cons, List.length_nil, List.replicate, List.cons_append, List.nil_append, Nat.reduceSub, Nat.reduceAdd, List.set_cons_zero, List.set_cons_succ]
    refine isi_pat F pu .Either (by decide) ?_
    show if u.isO = true then _ else _
    cases hO : u.isO with
    | true =>
      refine iteT ⟨x, u, rfl, pu, ok u hu, fun H2 s2 => hR _ H2 s2 fun pre xs e => ?_⟩
      rw [e]
      unfold tv
      simp [hO, K02.brk]
    | false =>
      refine iteF ?_
      obtain ⟨b1, b2, b3, b4, f1, f2, f3, f4, f5⟩ := fd_text F pu
      refine ⟨b1, b2, b3, b4, _, f1, f2, f3, f4, f5, hR _ H1 (Same.refl _) fun pre xs e => ?_⟩
      rw [e]
      unfold tv
      simp [hO, K02.brk]
  subst eP
  have s123 := s12.trans s3
  refine lc_pats (fun us xs => ∃ bs : List Bool, xs = bs.map V.bl) rfl (s123 _ _ hq) (hp.keep (Same.kp s123)) hwl ⟨[], rfl⟩ (fun x u H1 R hu pu s1 hR => ?_) fun D4 H4 xs s4 eD4 eP => ?_
  · obtain ⟨b1, b2, b3, b4, b5, f1, f2, f3, f4, f5⟩ := fd_empty F pu
    exact ⟨b1, b2, b3, b4, _, f1, f2, f3, f4, f5, hR _ H1 (Same.refl _) fun pre xs ⟨bs, e⟩ => ⟨bs ++ [b5], by rw [e, List.map_append]; rfl⟩⟩
  obtain ⟨bs, rfl⟩ := eP
  have s1234 := s123.trans s4
  refine ⟨D4, bs, rfl, sqL eD4, ?_⟩
  have et : K02.text (.n ts) = K02.joinL [32] (ts.map fun p => K02.brk p.isO (K02.text p)) := by simp only [K02.text]; rw [K02.textsN_map]
  have ed : ((K02.depth (.n ts) : Nat) : Int) = 1 + (K02.maxL (K02.depths ts) : Nat) := by simp only [K02.depth]; omega
  have es : K02.size (.n ts) = K02.sizes ts := by simp only [K02.size]
  have elen := okn.len
  have ejl := K02.joinL_len (a := 1) (sep := [32]) rfl (ts.map fun p => K02.brk p.isO (K02.text p)) (by intro e; rw [List.map_eq_nil_iff] at e; exact hn e)
  rw [List.length_map, ← et] at ejl
  refine sup_ok (k := .Then) (D := { fin0 Q with nx := _ }) rfl (s1234 _ _ ha) (s := (K02.sizes ts : Nat)) (d := 1 + (K02.maxL (K02.depths ts) : Nat)) (x := sOf (K02.text (.n ts))) (e := bs.all id) (fun q hq R hR => ?_) (by rw [← es]; omega) (fun hd H5 s5 h5 => ?_) fun hd => ?_
  · have eD5 : upd H4 q (.met g a) D3 = some (.lst (tv (ts.map fun p => K02.brk p.isO (K02.text p)))) := get_new (s4 _ _ eD3) hq
    dsimp only [tSeq, tAsg, tIfS, tRet, tRetN, tDrop, tNext, tOp, tUn, tCons, tNil, tTup, tLst, tC, tCB, tCan, tCanW, tAnd, tOr, tNot, tB, tIf, uB, uAndV, uOrV, uNotV, uNeg, uV, gName, gSub, tAug, ipI, tPart, tNoPart, tSl, tBM, tBM0, uLen, uAbs, uInt, uAdd, uSub, uMod, uFdiv, uMul, uCmp, uLt, uLe, uGt, uGe, tFld, StX.tMakeR, tRz, tCanS, sFld, start, fin0, List.getElem?_cons_zero, List.getElem?_cons_succ, List.map_cons, List.map_nil, List.length_cons, List.length_nil, List.replicate, List.cons_append, List.nil_append, Nat.reduceSub, Nat.reduceAdd, List.set_cons_zero, List.set_cons_succ]
    refine join_ok3 (sep := [32]) (i := 4) rfl eD5 (by rw [List.length_map, show ([32] : List Nat).length = 1 from rfl]; omega) ?_
    rw [← et]
    exact hR _ (Same.refl _)
  · have pf : PF (fs4 (K02.sizes ts : Nat) (1 + (K02.maxL (K02.depths ts) : Nat)) (sOf (K02.text (.n ts))) (bs.all id)) (.n ts) := by
      have z := pf4 (t := .n ts) (e := bs.all id)
      rw [ed, es] at z
      exact z
    have hl := fs4_len (s := (K02.sizes ts : Nat)) (d := 1 + (K02.maxL (K02.depths ts) : Nat)) (x := sOf (K02.text (.n ts))) (e := bs.all id)
    refine ⟨a, _, dx, _, rfl, h5, F.cls .Then, (F.no .Then).2.2.2.2.1, by omega, ?_⟩
    have kq : ∀ b o, b ≠ a → H b = some o → upd H5 a (.ins (c.at .Then) dx (putF "parts" (.ref q0) (fs4 (K02.sizes ts : Nat) (1 + (K02.maxL (K02.depths ts) : Nat)) (sOf (K02.text (.n ts))) (bs.all id)))) b = some o := fun b o hb ho => by
      rw [upd_ne hb]
      exact s5 b o hb (s1234 b o ho)
    have kp : ∀ {vs : List V} {us : List T}, Pats c H vs us → (∀ u ∈ us, K02.SF u) → Pats c (upd H5 a (.ins (c.at .Then) dx (putF "parts" (.ref q0) (fs4 (K02.sizes ts : Nat) (1 + (K02.maxL (K02.depths ts) : Nat)) (sOf (K02.text (.n ts))) (bs.all id))))) vs us := fun hh _ => hh.but ha kq
    refine q1 (by omega) _ kq (.n upd_same (pf.put (by decide)) look_eq (kq _ _ (fun e => by rw [e, ha] at hq; cases hq) hq) (kp hp fun u hu => (ok u hu).sf))
  · have := (q2 (by omega)).from s1234
    rw [ed] at this
    exact this
theorem q_Either_init {g : Addr} (F : ClsF K c) (h : spNew c .Either (rEither c) vs H Q E) : t_Either_init K c c.Either g (spPat K c) E (fin0 Q) (start N_Either_init vs) H := by
  obtain ⟨a, dx, args, t, rfl, ha, ⟨q0, ws, ts, rfl, hq, hp, hn, rfl, okn, ok⟩, hz, q1, q2⟩ := h
  show t_Either_init K c c.Either g (spPat K c) E (fin0 Q) [some (.ref a), some (.ref q0), none, none, none, none, none] H
  have hwl : ws.length ≤ 1000000 := by
    have h1 := okn.wt
    have h2 := okn.sf
    unfold K02.SF at h2
    have h3 := K02.wts_big (ps := ts) fun p hp => K02.wt_pos ((K02.SFs_iff ts).mp h2.2.1 p hp) (h2.2.2.2 p hp).1
    simp only [K02.wt] at h1
    have := hp.len
    omega
  dsimp only [t_Either_init, tSeq, tAsg, tIfS, tRet, tRetN, tDrop, tNext, tOp, tUn, tCons, tNil, tTup, tLst, tC, tCB, tCan, tCanW, tAnd, tOr, tNot, tB, tIf, uB, uAndV, uOrV, uNotV, uNeg, uV, gName, gSub, tAug, ipI, tPart, tNoPart, tSl, tBM, tBM0, uLen, uAbs, uInt, uAdd, uSub, uMod, uFdiv, uMul, uCmp, uLt, uLe, uGt, uGe, tFld, StX.tMakeR, tRz, tCanS, sFld, start, fin0, List.getElem?_cons_zero, List.getElem?_cons_succ, List.map_cons, List.map_nil, List.length_cons, List.length_nil, List.replicate, List.cons_append, List.nil_append, Nat.reduceSub, Nat.reduceAdd, List.set_cons_zero, List.set_cons_succ]
  refine lc_pats (fun us xs => xs = us.map fun t => V.int (K02.size t)) rfl hq hp hwl rfl (fun x u H1 R hu pu s1 hR => ?_) fun D1 H1 xs s1 eD1 eP => ?_
  · obtain ⟨b1, b2, b3, b4, f1, f2, f3, f4, f5⟩ := fd_size F pu
    exact ⟨b1, b2, b3, b4, _, f1, f2, f3, f4, f5, hR _ H1 (Same.refl _) fun pre xs e => by rw [e, List.map_append]; rfl⟩
  subst eP
  refine sum_ok eD1 ?_
  refine lc_pats (fun us xs => xs = us.map fun t => V.int (K02.depth t)) rfl (s1 _ _ hq) (hp.keep (Same.kp s1)) hwl rfl (fun x u H1 R hu pu s1 hR => ?_) fun D2 H2 xs s2 eD2 eP => ?_
  · obtain ⟨b1, b2, b3, b4, f1, f2, f3, f4, f5⟩ := fd_depth F pu
    exact ⟨b1, b2, b3, b4, _, f1, f2, f3, f4, f5, hR _ H1 (Same.refl _) fun pre xs e => by rw [e, List.map_append]; rfl⟩
  subst eP
  have s12 := s1.trans s2
  refine max_ok eD2 hn ?_
  refine lc_pats (fun us xs => xs = tv (us.map K02.text)) rfl (s12 _ _ hq) (hp.keep (Same.kp s12)) hwl rfl (fun x u H1 R hu pu s1 hR => ?_) fun D3 H3 xs s3 eD3 eP => ?_
  · obtain ⟨b1, b2, b3, b4, f1, f2, f3, f4, f5⟩ := fd_text F pu
    refine ⟨b1, b2, b3, b4, _, f1, f2, f3, f4, f5, hR _ H1 (Same.refl _) fun pre xs e => ?_⟩
    rw [e]
    unfold tv
    simp
  subst eP
  have s123 := s12.trans s3
  refine lc_pats (fun us xs => ∃ bs : List Bool, xs = bs.map V.bl) rfl (s123 _ _ hq) (hp.keep (Same.kp s123)) hwl ⟨[], rfl⟩ (fun x u H1 R hu pu s1 hR => ?_) fun D4 H4 xs s4 eD4 eP => ?_
  · obtain ⟨b1, b2, b3, b4, b5, f1, f2, f3, f4, f5⟩ := fd_empty F pu
    exact ⟨b1, b2, b3, b4, _, f1, f2, f3, f4, f5, hR _ H1 (Same.refl _) fun pre xs ⟨bs, e⟩ => ⟨bs ++ [b5], by rw [e, List.map_append]; rfl⟩⟩
  obtain ⟨bs, rfl⟩ := eP
  have s1234 := s123.trans s4
  refine ⟨D4, bs, rfl, sqL eD4, ?_⟩
  have et : K02.text (.o ts) = K02.joinL [32, 124, 32] (ts.map K02.text) := by simp only [K02.text]; rw [K02.textsO_map]
  have ed : ((K02.depth (.o ts) : Nat) : Int) = 1 + (K02.maxL (K02.depths ts) : Nat) := by simp only [K02.depth]; omega
  have es : K02.size (.o ts) = K02.sizes ts := by simp only [K02.size]
  have elen := okn.len
  have ejl := K02.joinL_len (a := 3) (sep := [32, 124, 32]) rfl (ts.map K02.text) (by intro e; rw [List.map_eq_nil_iff] at e; exact hn e)
  rw [List.length_map, ← et] at ejl
  refine sup_ok (k := .Either) (D := { fin0 Q with nx := _ }) rfl (s1234 _ _ ha) (s := (K02.sizes ts : Nat)) (d := 1 + (K02.maxL (K02.depths ts) : Nat)) (x := sOf (K02.text (.o ts))) (e := bs.any id) (fun q hq R hR => ?_) (by rw [← es]; omega) (fun hd H5 s5 h5 => ?_) fun hd => ?_
  · have eD5 : upd H4 q (.met g a) D3 = some (.lst (tv (ts.map K02.text))) := get_new (s4 _ _ eD3) hq
    dsimp only [tSeq, tAsg, tIfS, tRet, tRetN, tDrop, tNext, tOp, tUn, tCons, tNil, tTup, tLst, tC, tCB, tCan, tCanW, tAnd, tOr, tNot, tB, tIf, uB, uAndV, uOrV, uNotV, uNeg, uV, gName, gSub, tAug, ipI, tPart, tNoPart, tSl, tBM, tBM0, uLen, uAbs, uInt, uAdd, uSub, uMod, uFdiv, uMul, uCmp, uLt, uLe, uGt, uGe, tFld, StX.tMakeR, tRz, tCanS, sFld, start, fin0, List.getElem?_cons_zero, List.getElem?_cons_succ, List.map_cons, List.map_nil, List.length_cons, List.length_nil, List.replicate, List.cons_append, List.nil_append, Nat.reduceSub, Nat.reduceAdd, List.set_cons_zero, List.set_cons_succ]
    refine join_ok3 (sep := [32, 124, 32]) (i := 4) rfl eD5 (by rw [List.length_map, show ([32, 124, 32] : List Nat).length = 3 from rfl]; omega) ?_
    rw [← et]
    exact hR _ (Same.refl _)
  · have pf : PF (fs4 (K02.sizes ts : Nat) (1 + (K02.maxL (K02.depths ts) : Nat)) (sOf (K02.text (.o ts))) (bs.any id)) (.o ts) := by
      have z := pf4 (t := .o ts) (e := bs.any id)
      rw [ed, es] at z
      exact z
    have hl := fs4_len (s := (K02.sizes ts : Nat)) (d := 1 + (K02.maxL (K02.depths ts) : Nat)) (x := sOf (K02.text (.o ts))) (e := bs.any id)
    refine ⟨a, _, dx, _, rfl, h5, F.cls .Either, (F.no .Either).2.2.2.2.1, by omega, ?_⟩
    have kq : ∀ b o, b ≠ a → H b = some o → upd H5 a (.ins (c.at .Either) dx (putF "parts" (.ref q0) (fs4 (K02.sizes ts : Nat) (1 + (K02.maxL (K02.depths ts) : Nat)) (sOf (K02.text (.o ts))) (bs.any id)))) b = some o := fun b o hb ho => by
      rw [upd_ne hb]
      exact s5 b o hb (s1234 b o ho)
    have kp : ∀ {vs : List V} {us : List T}, Pats c H vs us → (∀ u ∈ us, K02.SF u) → Pats c (upd H5 a (.ins (c.at .Either) dx (putF "parts" (.ref q0) (fs4 (K02.sizes ts : Nat) (1 + (K02.maxL (K02.depths ts) : Nat)) (sOf (K02.text (.o ts))) (bs.any id))))) vs us := fun hh _ => hh.but ha kq
    refine q1 (by omega) _ kq (.o upd_same (pf.put (by decide)) look_eq (kq _ _ (fun e => by rw [e, ha] at hq; cases hq) hq) (kp hp fun u hu => (ok u hu).sf))
  · have := (q2 (by omega)).from s1234
    rw [ed] at this
    exact this
end
end L2.WB
namespace L2.WB
open PySem PySem.Spec PyProof.Rows
open K02 (T isL isK isI g40 lthen leither lagain flatN flatO wts sizes)
/-- a pattern comes out, or TooDeep(41) -/
def Out (c : Ad) (H : Hp) (Q : VK) (E : XK) : Option T → Prop
  | some t => ∀ v H2, Same H H2 → PatAt c H2 v t → Q v H2
  | none => Xc E H c.TooDeep "depth" (.int 41)
theorem Out.from {c : Ad} {H H1 : Hp} {Q : VK} {E : XK} {o : Option T} (h : Out c H Q E o) (s : Same H H1) : Out c H1 Q E o := by
  cases o with
  | some t => exact fun v H2 s2 => h v H2 (s.trans s2)
  | none => exact Xc.from h s
noncomputable def gd40 (t : T) : Option T := if g40 t = true then some t else none
def spAgain (c : Ad) : Sp := fun vs H Q E => ∃ v t, vs = [v] ∧ PatAt c H v t ∧ Ok t ∧ K02.depth t ≤ 40 ∧ K02.size t ≤ 2000 ∧ Out c H Q E (gd40 (lagain t))
def leafT (g : List Nat) : T := if g = [48] then .z else if g = [49] then .s else .i g
def spBase (c : Ad) : Sp := fun vs H Q E => ∃ g, vs = [.str (sOf g)] ∧ K02.leafTok g = true ∧ ∀ v H2, Same H H2 → PatAt c H2 v (leafT g) → Q v H2
section
variable {K : PySem.W.Frag} {c : Ad} {H : Hp} {Q : VK} {E : XK} {vs : List V} {v : V} {t : T} {k : Tg} {R : List V → Hp → T → Prop}
/-- a class called, what comes out -/
theorem make_out (hR : ∀ H2, Same H H2 → R vs H2 t) (hz : K02.size t ≤ 2000) (hd : K02.depth t ≤ 41) (q : Out c H Q E (gd40 t)) :
    ∀ x dx, H x = none → H dx = none → dx ≠ x → spNew c k R (.ref x :: vs) (upd (upd H dx (.own x)) x (.ins (c.at k) dx [])) (fun v H2 => v = .non ∧ Q (.ref x) H2) E := by
  refine make_ok hR hz (fun h x H2 s2 p => ?_) fun h => ?_
  · have : gd40 t = some t := by unfold gd40; rw [if_pos (K02.g40_of h (Nat.le_refl _))]
    rw [this] at q
    exact q _ H2 s2 p
  · have : gd40 t = none := by unfold gd40; rw [if_neg]; intro e; have := of_decide_eq_true e; omega
    rw [this] at q
    have e : K02.depth t = 41 := by omega
    rw [e]
    exact q
theorem make_small (hR : ∀ H2, Same H H2 → R vs H2 t) (hz : K02.size t ≤ 2000) (hd : K02.depth t ≤ 40) (q : ∀ v H2, Same H H2 → PatAt c H2 v t → Q v H2) :
    ∀ x dx, H x = none → H dx = none → dx ≠ x → spNew c k R (.ref x :: vs) (upd (upd H dx (.own x)) x (.ins (c.at k) dx [])) (fun v H2 => v = .non ∧ Q (.ref x) H2) E :=
  make_ok hR hz (fun h x H2 s2 p => q _ H2 s2 p) fun h => by omega
theorem gd40_ok (h : K02.depth t ≤ 40) : gd40 t = some t := by unfold gd40; rw [if_pos (K02.g40_of h (Nat.le_refl _))]
theorem q_again (F : ClsF K c) (h : spAgain c vs H Q E) : t_again K c (spNew c .Stay rStay) (spNew c .Many (rMany c)) E (fin0 Q) (start N_again vs) H := by
  obtain ⟨v, t, rfl, p, ok, hd, hz, q⟩ := h
  show t_again K c (spNew c .Stay rStay) (spNew c .Many (rMany c)) E (fin0 Q) [some v] H
  dsimp only [t_again, tSeq, tAsg, tIfS, tRet, tRetN, tDrop, tNext, tOp, tUn, tCons, tNil, tTup, tLst, tC, tCB, tCan, tCanW, tAnd, tOr, tNot, tB, tIf, uB, uAndV, uOrV, uNotV, uNeg, uV, gName, gSub, tAug, ipI, tPart, tNoPart, tSl, tBM, tBM0, uLen, uAbs, uInt, uAdd, uSub, uMod, uFdiv, uMul, uCmp, uLt, uLe, uGt, uGe, tFld, StX.tMakeR, tRz, tCanS, sFld, start, fin0, List.getElem?_cons_zero, List.getElem?_cons_succ, List.map_cons, List.map_nil, List.length_cons, List.length_nil, List.replicate, List.cons_append, List.nil_append, Nat.reduceSub, Nat.reduceAdd, List.set_cons_zero, List.set_cons_succ]
  have stay : (t.isZ || t.isS) = true → ∀ x dx, H x = none → H dx = none → dx ≠ x → spNew c .Stay rStay [.ref x] (upd (upd H dx (.own x)) x (.ins c.Stay dx [])) (fun v H2 => v = .non ∧ Q (.ref x) H2) E := fun hzs => by
    have e : lagain t = .s := by
      cases t with
      | z => rfl
      | s => rfl
      | _ => cases hzs
    rw [e, gd40_ok (by simp [K02.depth])] at q
    exact make_small (k := .Stay) (t := .s) (fun H2 _ => ⟨rfl, rfl⟩) (by simp [K02.size]) (by simp [K02.depth]) q
  refine isi_pat F p .Nothing (by decide) ?_
  show if t.isZ = true then _ else _
  cases hZ : t.isZ with
  | true => exact iteT (iteT (stay (by rw [hZ]; rfl)))
  | false =>
    refine iteF (isi_pat F p .Stay (by decide) ?_)
    show if t.isS = true then _ else _
    cases hS : t.isS with
    | true => exact iteT (stay (by rw [hZ, hS]; rfl))
    | false =>
      refine iteF (isi_pat F p .Many (by decide) ?_)
      show if t.isM = true then _ else _
      cases hM : t.isM with
      | true =>
        have e : lagain t = t := by
          cases t with
          | m => rfl
          | _ => cases hM
        rw [e, gd40_ok hd] at q
        exact iteT (q v H (Same.refl H) p)
      | false =>
        have e : lagain t = .m t := by
          cases t with
          | z => cases hZ
          | s => cases hS
          | m => cases hM
          | _ => rfl
        rw [e] at q
        exact iteF (make_out (k := .Many) (fun H2 s2 => ⟨v, t, rfl, p.keep (Same.kp s2), ok, rfl⟩) (by simp only [K02.size]; exact hz) (by simp only [K02.depth]; omega) q)
theorem q__base (h : spBase c vs H Q E) : t__base K c (spNew c .Nothing rNothing) (spNew c .Stay rStay) (spNew c .Test rTest) (spNew c .Step rStep) E (fin0 Q) (start N__base vs) H := by
  obtain ⟨g, rfl, hg, q⟩ := h
  show t__base K c (spNew c .Nothing rNothing) (spNew c .Stay rStay) (spNew c .Test rTest) (spNew c .Step rStep) E (fin0 Q) [some (.str (sOf g))] H
  dsimp only [t__base, tSeq, tAsg, tIfS, tRet, tRetN, tDrop, tNext, tOp, tUn, tCons, tNil, tTup, tLst, tC, tCB, tCan, tCanW, tAnd, tOr, tNot, tB, tIf, uB, uAndV, uOrV, uNotV, uNeg, uV, gName, gSub, tAug, ipI, tPart, tNoPart, tSl, tBM, tBM0, uLen, uAbs, uInt, uAdd, uSub, uMod, uFdiv, uMul, uCmp, uLt, uLe, uGt, uGe, tFld, StX.tMakeR, tRz, tCanS, sFld, start, fin0, List.getElem?_cons_zero, List.getElem?_cons_succ, List.map_cons, List.map_nil, List.length_cons, List.length_nil, List.replicate, List.cons_append, List.nil_append, Nat.reduceSub, Nat.reduceAdd, List.set_cons_zero, List.set_cons_succ]
  dsimp only [uEq]
  simp only [dec_sOf]
  unfold leafT at q
  refine ifD (fun e => ?_) fun e => ?_
  · rw [if_pos e] at q
    exact make_small (k := .Nothing) (t := .z) (fun H2 _ => ⟨rfl, rfl⟩) (by simp [K02.size]) (by simp [K02.depth]) q
  rw [if_neg e] at q
  refine ifD (fun e2 => ?_) fun e2 => ?_
  · rw [if_pos e2] at q
    exact make_small (k := .Stay) (t := .s) (fun H2 _ => ⟨rfl, rfl⟩) (by simp [K02.size]) (by simp [K02.depth]) q
  rw [if_neg e2] at q
  have hi : isI g = true := by
    unfold K02.leafTok at hg
    simpa [e, e2] using hg
  match g, hi, q with
  | [d], hi, q =>
    have hi : isL d = true := hi
    refine ix_txt (a := 0) (d := d) (by simp) rfl rfl ?_
    dsimp only
    rw [dec_sOf]
    refine ifF (decide_eq_false (by have := K02.isL_ne hi; simp; omega)) ?_
    refine ix_txt (a := 0) (d := d) (by simp) rfl rfl ⟨sl_ok (by simp [sOf_len]), ?_⟩
    exact make_small (k := .Step) (t := .i [d]) (fun H2 _ => ⟨d, false, rfl, hi, rfl⟩) (by simp [K02.size]) (by simp [K02.depth]) q
  | [d, e], hi, q =>
    have hi : ((isL d && e == 39) || (d == 63 && isK e)) = true := hi
    refine ix_txt (a := 0) (d := d) (by simp) rfl rfl ?_
    dsimp only
    rw [dec_sOf]
    by_cases h63 : d = 63
    · subst h63
      have hk : isK e = true := by
        have : isL 63 = false := by decide
        rw [this] at hi
        simpa using hi
      refine ifT (decide_eq_true rfl) (ix_txt (a := 1) (d := e) (by simp) rfl rfl ?_)
      exact make_small (k := .Test) (t := .i [63, e]) (fun H2 _ => ⟨e, rfl, hk, rfl⟩) (by simp [K02.size]) (by simp [K02.depth]) q
    · have h2 : isL d = true ∧ e = 39 := by
        have : (d == 63) = false := by simpa using h63
        rw [this] at hi
        simpa using hi
      obtain ⟨hL, rfl⟩ := h2
      refine ifF (decide_eq_false (by simpa using h63)) ?_
      refine ix_txt (a := 0) (d := d) (by simp) rfl rfl ⟨sl_ok (by simp [sOf_len]), ?_⟩
      exact make_small (k := .Step) (t := .i [d, 39]) (fun H2 _ => ⟨d, true, rfl, hL, rfl⟩) (by simp [K02.size]) (by simp [K02.depth]) q
/-- a row of patterns that is put together -/
structure Row (ts : List T) : Prop where
  tr : ∀ t ∈ ts, K02.SF t ∧ K02.depth t ≤ 40
  sz : sizes ts ≤ 2000
  wt : wts ts ≤ 20000
  len : ts.length ≤ 1000000
theorem wt_mem {ts : List T} {t : T} (h : t ∈ ts) : K02.wt t ≤ wts ts := by
  induction ts with
  | nil => cases h
  | cons a r ih =>
    simp only [wts]
    rcases List.mem_cons.mp h with e | e
    · rw [e]; omega
    · have := ih e; omega
theorem Row.ok {ts : List T} (h : Row ts) {t : T} (ht : t ∈ ts) : Ok t := ⟨(h.tr t ht).1, Nat.le_trans (wt_mem ht) h.wt⟩
/-- the body's promise: the parts as a tuple -/
def spSeqB (c : Ad) (f : List T → T) : Sp := fun vs H Q E => ∃ p ws ts, vs = [.ref p] ∧ H p = some (.tup ws) ∧ Pats c H ws ts ∧ Row ts ∧ Out c H Q E (gd40 (f ts))
def spSeq (c : Ad) (f : List T → T) : Sp := fun vs H Q E => ∃ ts, Pats c H vs ts ∧ Row ts ∧ Out c H Q E (gd40 (f ts))
theorem flatN_z {ts : List T} (hs : ∀ t ∈ ts, K02.SF t) (hz : ∀ t ∈ ts, t.isZ = false) : K02.hasZ (flatN ts) = false := by
  unfold K02.hasZ
  rw [List.any_eq_false]
  intro q hq e
  have := (K02.flatN_mem hs q hq).2.2.2 e
  have := hz _ this
  cases this
theorem flatN_hasZ {ts : List T} (h : ∃ t ∈ ts, t.isZ = true) : K02.hasZ (flatN ts) = true := by
  obtain ⟨t, ht, hz⟩ := h
  induction ts with
  | nil => cases ht
  | cons a r ih =>
    rcases List.mem_cons.mp ht with e | e
    · subst e
      cases t with
      | z => rfl
      | _ => cases hz
    · have := ih e
      cases a with
      | n qs =>
        show K02.hasZ (qs ++ flatN r) = true
        rw [K02.hasZ_app, this, Bool.or_true]
      | s => exact this
      | z => rfl
      | i w => show K02.hasZ ([.i w] ++ flatN r) = true; rw [K02.hasZ_app, this, Bool.or_true]
      | o w => show K02.hasZ ([.o w] ++ flatN r) = true; rw [K02.hasZ_app, this, Bool.or_true]
      | m w => show K02.hasZ ([.m w] ++ flatN r) = true; rw [K02.hasZ_app, this, Bool.or_true]
def seqN : T → List T
  | .n qs => qs
  | .s => []
  | p => [p]
theorem flatN_snoc (ts : List T) (t : T) : flatN (ts ++ [t]) = flatN ts ++ seqN t := by
  rw [K02.flatN_app]
  cases t <;> simp [flatN, seqN]
theorem flat_len {ts : List T} (hs : ∀ t ∈ ts, K02.SF t) (hz : ∀ t ∈ ts, t.isZ = false) : (flatN ts).length ≤ wts ts := by
  have h1 := K02.wts_big (ps := flatN ts) fun p hp => by
    obtain ⟨a, b, _, d⟩ := K02.flatN_mem hs p hp
    refine K02.wt_pos a ?_
    cases e : p.isZ with
    | false => rfl
    | true => exact absurd (hz _ (d e)) (by simp [T.isZ])
  exact Nat.le_trans h1 (K02.wts_flatN ts)
theorem len_zero (n : Nat) : decide ((n : Int) = 0) = decide (n = 0) := decide_eq_decide.mpr (by omega)
theorem len_one (n : Nat) : decide ((n : Int) = 1) = decide (n = 1) := decide_eq_decide.mpr (by omega)
theorem pats_one {l : List V} {ts : List T} (h : Pats c H l ts) (hl : l.length = 1) : ∃ v t, l = [v] ∧ ts = [t] ∧ PatAt c H v t := by
  cases h with
  | nil => cases hl
  | cons a b =>
    cases b with
    | nil => exact ⟨_, _, rfl, rfl, a⟩
    | cons _ _ => simp at hl
theorem q_then (F : ClsF K c) (h : spSeqB c lthen vs H Q E) : t_then K c (spNew c .Nothing rNothing) (spNew c .Stay rStay) (spNew c .Then (rThen c)) E (fin0 Q) (start N_then vs) H := by
  obtain ⟨p0, ws, ts, rfl, hp0, hp, row, q⟩ := h
  show t_then K c (spNew c .Nothing rNothing) (spNew c .Stay rStay) (spNew c .Then (rThen c)) E (fin0 Q) [some (.ref p0), none, none] H
  have hsf : ∀ t ∈ ts, K02.SF t := fun t ht => (row.tr t ht).1
  dsimp only [t_then, tSeq, tAsg, tIfS, tRet, tRetN, tDrop, tNext, tOp, tUn, tCons, tNil, tTup, tLst, tC, tCB, tCan, tCanW, tAnd, tOr, tNot, tB, tIf, uB, uAndV, uOrV, uNotV, uNeg, uV, gName, gSub, tAug, ipI, tPart, tNoPart, tSl, tBM, tBM0, uLen, uAbs, uInt, uAdd, uSub, uMod, uFdiv, uMul, uCmp, uLt, uLe, uGt, uGe, tFld, StX.tMakeR, tRz, tCanS, sFld, start, fin0, List.getElem?_cons_zero, List.getElem?_cons_succ, List.map_cons, List.map_nil, List.length_cons, List.length_nil, List.replicate, List.cons_append, List.nil_append, Nat.reduceSub, Nat.reduceAdd, List.set_cons_zero, List.set_cons_succ]
  refine ⟨by decide +kernel, fun o ho => ?_⟩
  have s0 := same_new (o := .lst []) ho
  refine ⟨p0, rfl, ⟨ws, sqT (s0 _ _ hp0)⟩, for_tup (K := K) (a := p0) (xs := ws) (fun i σ H1 => ∃ y us, σ = [some (.ref p0), some (.ref o), y] ∧ Same H H1 ∧ H1 o = some (.lst us) ∧ Pats c H1 us (flatN (ts.take i)) ∧ ∀ t ∈ ts.take i, t.isZ = false) ⟨none, [], rfl, s0, upd_same, .nil, by simp⟩ (fun i σ H1 _ ⟨_, _, _, s1, _⟩ => sqT (s1 _ _ hp0)) ?_ ?_⟩
  · rintro i x σ H1 hx ⟨y, us, rfl, s1, eo, pu, hz⟩
    obtain ⟨u, hu, pat⟩ := hp.get hx
    have pat1 := pat.keep (Same.kp s1)
    have hut : u ∈ ts := List.mem_of_getElem? hu
    have tk : ts.take (i + 1) = ts.take i ++ [u] := by rw [List.take_add_one, hu]; rfl
    have hin : ∀ t ∈ ts.take i, t ∈ ts := fun t ht => List.mem_of_mem_take ht
    have lu : us.length ≤ 20000 := by
      have h1 := pu.len
      have h2 := flat_len (ts := ts.take i) (fun t ht => hsf t (hin t ht)) hz
      have h3 : wts (ts.take i) ≤ wts ts := by
        have := K02.wts_app (ts.take i) (ts.drop i)
        rw [List.take_append_drop] at this
        omega
      have := row.wt
      omega
    dsimp only [tSeq, tAsg, tIfS, tRet, tRetN, tDrop, tNext, tOp, tUn, tCons, tNil, tTup, tLst, tC, tCB, tCan, tCanW, tAnd, tOr, tNot, tB, tIf, uB, uAndV, uOrV, uNotV, uNeg, uV, gName, gSub, tAug, ipI, tPart, tNoPart, tSl, tBM, tBM0, uLen, uAbs, uInt, uAdd, uSub, uMod, uFdiv, uMul, uCmp, uLt, uLe, uGt, uGe, tFld, StX.tMakeR, tRz, tCanS, sFld, start, fin0, List.getElem?_cons_zero, List.getElem?_cons_succ, List.map_cons, List.map_nil, List.length_cons, List.length_nil, List.replicate, List.cons_append, List.nil_append, Nat.reduceSub, Nat.reduceAdd, List.set_cons_zero, List.set_cons_succ]
    refine isi_pat F pat1 .Nothing (by decide) ?_
    show if u.isZ = true then _ else _
    cases hZ : u.isZ with
    | true =>
      refine iteT ?_
      have e : lthen ts = .z := by unfold lthen; rw [if_pos (flatN_hasZ ⟨u, hut, hZ⟩)]
      rw [e, gd40_ok (by simp [K02.depth])] at q
      exact make_small (k := .Nothing) (t := .z) (fun H2 _ => ⟨rfl, rfl⟩) (by simp [K02.size]) (by simp [K02.depth]) fun v H2 s2 => q v H2 (s1.trans s2)
    | false =>
      have hz2 : ∀ t ∈ ts.take (i + 1), t.isZ = false := fun t ht => by
        rw [tk, List.mem_append, List.mem_singleton] at ht
        rcases ht with ht | ht
        · exact hz t ht
        · rw [ht]; exact hZ
      have keepO : ∀ ys, ∀ b x, H b = some x → upd H1 o (.lst ys) b = some x := fun ys b x hb => by
        rw [upd_ne (ne_of_none hb ho)]
        exact s1 b x hb
      have kpo : ∀ ys, Kp H1 (upd H1 o (.lst ys)) := fun ys => (but_upd (st := o)).kp eo
      refine iteF (isi_pat F pat1 .Then (by decide) ?_)
      show if u.isN = true then _ else _
      cases hN : u.isN with
      | true =>
        refine iteT ⟨tyl eo, ?_⟩
        obtain ⟨b1, b2, b3, b4, q1, qs, qt, f1, f2, f3, f4, f5, f6, f7, f8⟩ := fd_parts F pat1 (.inl hN)
        refine ⟨b1, b2, b3, b4, _, f1, f2, f3, f4, f5, us, qs, eo, .inr (sqT f6), ?_, ?_⟩
        · have h1 := f7.len
          have h2 : qt.length ≤ 20000 := by
            have hsu := hsf u hut
            rcases f8 with e | e
            · rw [e] at hsu
              have hsu0 := hsu
              unfold K02.SF at hsu
              have := K02.wts_big (ps := qt) fun p hp => K02.wt_pos ((K02.SFs_iff qt).mp hsu.2.1 p hp) (hsu.2.2 p hp).1
              have h3 := wt_mem hut
              rw [e] at h3
              simp only [K02.wt] at h3
              have := row.wt
              omega
            · rw [e] at hN; cases hN
          exact sl_ok (by omega)
        · refine ⟨_, _, rfl, keepO _, upd_same, ?_, hz2⟩
          rw [tk, flatN_snoc]
          rcases f8 with e | e
          · subst e
            exact (pu.app f7).keep (kpo _)
          · rw [e] at hN; cases hN
      | false =>
        refine iteF (isi_pat F pat1 .Stay (by decide) ?_)
        show if (!u.isS) = true then _ else _
        cases hS : u.isS with
        | true =>
          refine iteF ⟨_, _, rfl, s1, eo, ?_, hz2⟩
          rw [tk, flatN_snoc]
          cases u with
          | s => simpa [seqN] using pu
          | _ => cases hS
        | false =>
          refine iteT (app_ok2 eo (by omega) ⟨_, _, rfl, keepO _, upd_same, ?_, hz2⟩)
          rw [tk, flatN_snoc]
          have : seqN u = [u] := by
            cases u with
            | n => cases hN
            | s => cases hS
            | _ => rfl
          rw [this]
          exact (pu.app (.cons pat1 .nil)).keep (kpo _)
  · rintro σ H1 ⟨y, us, rfl, s1, eo, pu, hz⟩
    rw [hp.len, List.take_length] at pu hz
    have hl := pu.len
    have lu := flat_len hsf hz
    have hw := row.wt
    have e1 : lthen ts = K02.wrap .s .n (flatN ts) := by unfold lthen; rw [if_neg (by rw [flatN_z hsf hz]; exact Bool.false_ne_true)]
    have hfm := K02.flatN_mem hsf
    have hfd := K02.flatN_depth fun t ht => (row.tr t ht).2
    have hfz := K02.hasZ_false (flatN_z hsf hz)
    have hsz := K02.sizes_flatN ts
    have hwt := K02.wts_flatN ts
    have hsz2 := row.sz
    have hSF := K02.SF_lthen hsf
    rw [e1] at hSF
    rw [e1] at q
    have q := q.from s1
    dsimp only [tSeq, tAsg, tIfS, tRet, tRetN, tDrop, tNext, tOp, tUn, tCons, tNil, tTup, tLst, tC, tCB, tCan, tCanW, tAnd, tOr, tNot, tB, tIf, uB, uAndV, uOrV, uNotV, uNeg, uV, gName, gSub, tAug, ipI, tPart, tNoPart, tSl, tBM, tBM0, uLen, uAbs, uInt, uAdd, uSub, uMod, uFdiv, uMul, uCmp, uLt, uLe, uGt, uGe, tFld, StX.tMakeR, tRz, tCanS, sFld, start, fin0, List.getElem?_cons_zero, List.getElem?_cons_succ, List.map_cons, List.map_nil, List.length_cons, List.length_nil, List.replicate, List.cons_append, List.nil_append, Nat.reduceSub, Nat.reduceAdd, List.set_cons_zero, List.set_cons_succ]
    refine ⟨us, .inl (sqL eo), ?_⟩
    dsimp only [uEq]
    rw [len_zero]
    generalize flatN ts = f at pu hl lu q hfm hfd hfz hsz hwt hSF
    refine ifD (fun c0 => ?_) fun c0 => ?_
    · have : f = [] := List.eq_nil_of_length_eq_zero (by omega)
      subst this
      have q : Out c H1 Q E (gd40 .s) := q
      rw [gd40_ok (by simp [K02.depth])] at q
      exact make_small (k := .Stay) (t := .s) (fun H2 _ => ⟨rfl, rfl⟩) (by simp [K02.size]) (by simp [K02.depth]) q
    · refine ⟨us, .inl (sqL eo), ?_⟩
      rw [len_one]
      refine ifD (fun c1 => ?_) fun c1 => ?_
      · obtain ⟨v, t, rfl, rfl, pt⟩ := pats_one pu c1
        have q : Out c H1 Q E (gd40 t) := q
        rw [gd40_ok (hfd t (by simp))] at q
        exact ix_lst eo (atI_nat (j := 0) rfl) (q v H1 (Same.refl H1) pt)
      · refine ⟨us, sqL eo, fun l nl => ?_⟩
        have ef : K02.wrap .s .n f = .n f := by
          match f, hl with
          | [], hl => simp only [List.length_nil] at hl; exact absurd hl c0
          | [_], hl => simp only [List.length_nil, List.length_cons] at hl; omega
          | a :: b :: r, _ => rfl
        rw [ef] at q hSF
        have s2 := same_new (o := .tup us) nl
        refine make_out (k := .Then) (fun H2 s3 => ⟨l, us, f, rfl, s3 _ _ upd_same, (pu.keep (Same.kp s2)).keep (Same.kp s3), ?_, rfl, ⟨hSF, by simp only [K02.wt]; omega⟩, fun x hx => ⟨(hfm x hx).1, by have := wt_mem hx; omega⟩⟩) (by simp only [K02.size]; omega) ?_ (q.from s2)
        · intro e
          rw [e] at hl
          exact c0 hl
        · have : K02.maxL (K02.depths f) ≤ 40 := K02.maxL_le fun x hx => by
            rw [K02.depths_map] at hx
            obtain ⟨z, hz, rfl⟩ := List.mem_map.mp hx
            exact hfd z hz
          simp only [K02.depth]
          omega
end
end L2.WB
namespace L2.WB
open PySem PySem.Spec PyProof.Rows
open K02 (T isL isK isI g40 lthen leither lagain flatN flatO wts sizes addU addU1)
/-- the dict of the texts that are there -/
def kvs (us : List T) : List (Key × V) := us.map fun u => ((Sum.inr (sOf (K02.text u)) : Key), V.bl true)
open Classical in
theorem val_kvs (s : List Nat) : ∀ us : List T, (valV (kvs us) (Sum.inr (sOf s))).isSome = decide (∃ u ∈ us, K02.text u = s)
  | [] => by simp [kvs, valV_nil]
  | u :: r => by
    have ih := val_kvs s r
    show (valV ((Sum.inr (sOf (K02.text u)), V.bl true) :: kvs r) (Sum.inr (sOf s))).isSome = _
    by_cases e : K02.text u = s
    · rw [valV_pos (by rw [e])]
      rw [decide_eq_true ⟨u, by simp, e⟩]
      rfl
    · rw [valV_neg (fun z => e (sOf_eq.mp (Sum.inr.inj z))), ih]
      by_cases h : ∃ u ∈ r, K02.text u = s
      · obtain ⟨x, hx, h⟩ := h
        rw [decide_eq_true ⟨x, hx, h⟩, decide_eq_true ⟨x, List.mem_cons_of_mem _ hx, h⟩]
      · rw [decide_eq_false h, decide_eq_false]
        rintro ⟨x, hx, hxs⟩
        rcases List.mem_cons.mp hx with z | z
        · rw [z] at hxs; exact e hxs
        · exact h ⟨x, z, hxs⟩
theorem kvs_put {us : List T} {u : T} (h : (valV (kvs us) (Sum.inr (sOf (K02.text u)))).isSome = false) : putK (kvs us) (Sum.inr (sOf (K02.text u))) (V.bl true) = kvs (us ++ [u]) := by
  have h2 : valV (kvs us) (Sum.inr (sOf (K02.text u))) = none := by
    cases e : valV (kvs us) (Sum.inr (sOf (K02.text u))) with
    | none => rfl
    | some x => rw [e] at h; cases h
  rw [putK_new _ h2]
  unfold kvs
  rw [List.map_append]
  rfl
def seqO : T → List T
  | .o qs => qs
  | p => [p]
theorem flatO_snoc (ts : List T) (t : T) : flatO (ts ++ [t]) = flatO ts ++ seqO t := by
  rw [K02.flatO_app]
  cases t <;> simp [flatO, seqO]
/-- what stands in the row -/
theorem addU_row {ts : List T} (hs : ∀ t ∈ ts, K02.SF t ∧ K02.depth t ≤ 40) : (∀ u ∈ addU [] (flatO ts), K02.SF u ∧ K02.depth u ≤ 40 ∧ u.isZ = false) ∧ wts (addU [] (flatO ts)) ≤ wts ts ∧ sizes (addU [] (flatO ts)) ≤ sizes ts ∧ (addU [] (flatO ts)).length ≤ wts ts := by
  obtain ⟨_, h2⟩ := K02.addU_spec (flatO ts) [] (by simp) (by simp)
  have hm := K02.flatO_mem fun t ht => (hs t ht).1
  have hd := K02.flatO_depth fun t ht => (hs t ht).2
  have h3 : ∀ u ∈ addU [] (flatO ts), K02.SF u ∧ K02.depth u ≤ 40 ∧ u.isZ = false := fun u hu => by
    obtain ⟨a, b⟩ := h2 u hu
    rcases b with b | b
    · cases b
    · exact ⟨(hm u b).1, hd u b, a⟩
  have hw := K02.wts_addU (flatO ts) []
  have hz := K02.sizes_addU (flatO ts) []
  have hw2 := K02.wts_flatO ts
  have hz2 := K02.sizes_flatO ts
  simp only [wts] at hw
  simp only [sizes] at hz
  have hl := K02.wts_big (ps := addU [] (flatO ts)) fun p hp => K02.wt_pos (h3 p hp).1 (h3 p hp).2.2
  exact ⟨h3, by omega, by omega, by omega⟩
section
variable {K : PySem.W.Frag} {c : Ad} {H : Hp} {Q : VK} {E : XK} {vs : List V} {v : V} {t : T} {k : Tg} {R : List V → Hp → T → Prop}
/-- the row and the dict, the trees that stand in both -/
structure EiAt (c : Ad) (H H1 : Hp) (o d : Addr) (us : List V) (ul : List T) : Prop where
  same : Same H H1
  row : H1 o = some (.lst us)
  seen : H1 d = some (.dK (kvs ul))
  pats : Pats c H1 us ul
theorem q_either (F : ClsF K c) (h : spSeqB c leither vs H Q E) : t_either K c (spNew c .Nothing rNothing) (spNew c .Either (rEither c)) E (fin0 Q) (start N_either vs) H := by
  obtain ⟨p0, ws, ts, rfl, hp0, hp, row, q⟩ := h
  show t_either K c (spNew c .Nothing rNothing) (spNew c .Either (rEither c)) E (fin0 Q) [some (.ref p0), none, none, none, none, none] H
  dsimp only [t_either, tDNewK, tSeq, tAsg, tIfS, tRet, tRetN, tDrop, tNext, tOp, tUn, tCons, tNil, tTup, tLst, tC, tCB, tCan, tCanW, tAnd, tOr, tNot, tB, tIf, uB, uAndV, uOrV, uNotV, uNeg, uV, gName, gSub, tAug, ipI, tPart, tNoPart, tSl, tBM, tBM0, uLen, uAbs, uInt, uAdd, uSub, uMod, uFdiv, uMul, uCmp, uLt, uLe, uGt, uGe, tFld, StX.tMakeR, tRz, tCanS, sFld, start, fin0, List.getElem?_cons_zero, List.getElem?_cons_succ, List.map_cons, List.map_nil, List.length_cons, List.length_nil, List.replicate, List.cons_append, List.nil_append, Nat.reduceSub, Nat.reduceAdd, List.set_cons_zero, List.set_cons_succ]
  refine ⟨by decide +kernel, fun o ho d hd => ?_⟩
  have ho1 : upd H o (.lst []) o = some (.lst []) := upd_same
  have hdo : d ≠ o := (ne_of_none ho1 hd).symm
  have hd0 : H d = none := by rw [upd_ne hdo] at hd; exact hd
  have s0 : Same H (upd (upd H o (.lst [])) d (.dK [])) := (same_new ho).trans (same_new hd)
  have e0 : EiAt c H (upd (upd H o (.lst [])) d (.dK [])) o d [] [] := ⟨s0, get_new ho1 hd, upd_same, .nil⟩
  refine ⟨p0, rfl, ⟨ws, sqT (s0 _ _ hp0)⟩, for_tup (K := K) (a := p0) (xs := ws) (fun i σ H1 => ∃ y3 y4 y5 us, σ = [some (.ref p0), some (.ref o), some (.ref d), y3, y4, y5] ∧ EiAt c H H1 o d us (addU [] (flatO (ts.take i)))) ⟨none, none, none, [], rfl, e0⟩ (fun i σ H1 _ ⟨_, _, _, _, _, e⟩ => sqT (e.same _ _ hp0)) ?_ ?_⟩
  · rintro i x σ H1 hx ⟨y3, y4, y5, us, rfl, e1⟩
    obtain ⟨u, hu, pat⟩ := hp.get hx
    have pat1 := pat.keep (Same.kp e1.same)
    have hut : u ∈ ts := List.mem_of_getElem? hu
    have tk : ts.take (i + 1) = ts.take i ++ [u] := by rw [List.take_add_one, hu]; rfl
    have hin : ∀ t ∈ ts.take (i + 1), K02.SF t ∧ K02.depth t ≤ 40 := fun t ht => row.tr t (List.mem_of_mem_take ht)
    have hwt : wts (ts.take (i + 1)) ≤ 20000 := by
      have := K02.wts_app (ts.take (i + 1)) (ts.drop (i + 1))
      rw [List.take_append_drop] at this
      have := row.wt
      omega
    -- the inner loop, over the tuple at q1
    have inner : ∀ (q1 : Addr) (ws1 : List V) (H2 : Hp), EiAt c H H2 o d us (addU [] (flatO (ts.take i))) → H2 q1 = some (.tup ws1) → Pats c H2 ws1 (seqO u) →
        tFor (iTup K (uV 4)) (gName 5) (tIfS (tAnd (tNot (uB (tCB (uIsi K) (tCons (uV 5) (tCons (tC (.ref c.Nothing)) tNil))))) (tB (tDNotIn (tFld K (uV 5) "_text") (uV 2)))) (tSeq (sDPut (uV 2) (tFld K (uV 5) "_text") (tC (.bl true))) (tDrop (tBM K "list" uApp (uV 1) (tCons (uV 5) tNil)))) tNext)
          { nx := fun σ H1 => ∃ y3 y4 y5 us, σ = [some (.ref p0), some (.ref o), some (.ref d), y3, y4, y5] ∧ EiAt c H H1 o d us (addU [] (flatO (ts.take (i + 1)))), rt := Q } [some (.ref p0), some (.ref o), some (.ref d), some x, some (.ref q1), y5] H2 := by
      intro q1 ws1 H2 e2 hq1 hp1
      have fl : flatO (ts.take (i + 1)) = flatO (ts.take i) ++ seqO u := by rw [tk, flatO_snoc]
      refine ⟨q1, rfl, ⟨ws1, sqT hq1⟩, for_tup (K := K) (a := q1) (xs := ws1) (fun j σ H3 => ∃ y5 us, σ = [some (.ref p0), some (.ref o), some (.ref d), some x, some (.ref q1), y5] ∧ EiAt c H H3 o d us (addU [] (flatO (ts.take i) ++ (seqO u).take j)) ∧ Kp H2 H3) ⟨y5, us, rfl, by rw [List.take_zero, List.append_nil]; exact e2, Kp.refl _⟩ (fun j σ H3 _ ⟨_, _, _, _, kp⟩ => sqT (kp _ _ hq1 (.inl ⟨_, rfl⟩))) ?_ ?_⟩
      · rintro j w σ H3 hw ⟨y5, us, rfl, e3, kp⟩
        obtain ⟨z, hz, patz⟩ := hp1.get hw
        have patz := patz.keep kp
        have tkj : (seqO u).take (j + 1) = (seqO u).take j ++ [z] := by rw [List.take_add_one, hz]; rfl
        have hzm : z ∈ seqO u := List.mem_of_getElem? hz
        have hzf : z ∈ flatO (ts.take (i + 1)) := by rw [fl]; exact List.mem_append_right _ hzm
        have hzs : K02.SF z := (K02.flatO_mem (fun t ht => (hin t ht).1) z hzf).1
        have ap : addU [] (flatO (ts.take i) ++ (seqO u).take (j + 1)) = addU1 (addU [] (flatO (ts.take i) ++ (seqO u).take j)) z := by
          rw [tkj, ← List.append_assoc, K02.addU_app]
          rfl
        have acc_sf : ∀ a ∈ addU [] (flatO (ts.take i) ++ (seqO u).take j), K02.SF a ∧ a.isZ = false := fun a ha => by
          obtain ⟨_, h2⟩ := K02.addU_spec (flatO (ts.take i) ++ (seqO u).take j) [] (by simp) (by simp)
          obtain ⟨b1, b2⟩ := h2 a ha
          rcases b2 with b2 | b2
          · cases b2
          · have : a ∈ flatO (ts.take (i + 1)) := by
              rw [fl]
              rcases List.mem_append.mp b2 with b2 | b2
              · exact List.mem_append_left _ b2
              · exact List.mem_append_right _ (List.mem_of_mem_take b2)
            exact ⟨(K02.flatO_mem (fun t ht => (hin t ht).1) a this).1, b1⟩
        have acc_len : (addU [] (flatO (ts.take i) ++ (seqO u).take j)).length ≤ 20000 := by
          have h1 := K02.wts_big (ps := addU [] (flatO (ts.take i) ++ (seqO u).take j)) fun p hp => K02.wt_pos (acc_sf p hp).1 (acc_sf p hp).2
          have h2 := K02.wts_addU (flatO (ts.take i) ++ (seqO u).take j) []
          simp only [wts] at h2
          have h3 := K02.wts_flatO (ts.take (i + 1))
          rw [fl, K02.wts_app] at h3
          rw [K02.wts_app] at h2
          have h4 := K02.wts_app ((seqO u).take j) ((seqO u).drop j)
          rw [List.take_append_drop] at h4
          omega
        generalize hA : addU [] (flatO (ts.take i) ++ (seqO u).take j) = A at ap acc_sf acc_len e3
        dsimp only [tDNotIn, sDPut, tSeq, tAsg, tIfS, tRet, tRetN, tDrop, tNext, tOp, tUn, tCons, tNil, tTup, tLst, tC, tCB, tCan, tCanW, tAnd, tOr, tNot, tB, tIf, uB, uAndV, uOrV, uNotV, uNeg, uV, gName, gSub, tAug, ipI, tPart, tNoPart, tSl, tBM, tBM0, uLen, uAbs, uInt, uAdd, uSub, uMod, uFdiv, uMul, uCmp, uLt, uLe, uGt, uGe, tFld, StX.tMakeR, tRz, tCanS, sFld, start, fin0, List.getElem?_cons_zero, List.getElem?_cons_succ, List.map_cons, List.map_nil, List.length_cons, List.length_nil, List.replicate, List.cons_append, List.nil_append, Nat.reduceSub, Nat.reduceAdd, List.set_cons_zero, List.set_cons_succ]
        have stay : addU1 A z = A → (∃ y5 us, [some (.ref p0), some (.ref o), some (.ref d), some x, some (.ref q1), some w] = [some (V.ref p0), some (.ref o), some (.ref d), some x, some (.ref q1), y5] ∧ EiAt c H H3 o d us (addU [] (flatO (ts.take i) ++ (seqO u).take (j + 1))) ∧ Kp H2 H3) := fun e => ⟨_, us, rfl, by rw [ap, e]; exact e3, kp⟩
        refine isi_pat F patz .Nothing (by decide) ?_
        show if (!z.isZ) = true then _ else _
        cases hZ : z.isZ with
        | true =>
          refine iteF (iteF (stay ?_))
          unfold addU1
          rw [if_pos (.inl hZ)]
        | false =>
          refine iteT ?_
          obtain ⟨b1, b2, b3, b4, f1, f2, f3, f4, f5⟩ := fd_text F patz
          refine ⟨b1, b2, b3, b4, _, f1, f2, f3, f4, f5, d, valV (kvs A) (Sum.inr (sOf (K02.text z))), rfl, DGet.k (k := Sum.inr (sOf (K02.text z))) e3.seen, _, rfl, ?_⟩
          have hval := val_kvs (K02.text z) A
          have hin2 : (∃ a ∈ A, K02.text a = K02.text z) ↔ z ∈ A := ⟨fun ⟨a, ha, e⟩ => by rw [← K02.text_inj (acc_sf a ha).1 hzs e]; exact ha, fun h => ⟨z, h, rfl⟩⟩
          refine ifB (fun e => ?_) fun e => ?_
          · have hv : (valV (kvs A) (Sum.inr (sOf (K02.text z)))).isSome = false := by simpa using e
            rw [hv] at hval
            have hnm : z ∉ A := fun h => by
              have := of_decide_eq_false hval.symm
              exact this (hin2.mpr h)
            have eA : addU1 A z = A ++ [z] := by
              unfold addU1
              rw [if_neg]
              rintro (h | h)
              · rw [hZ] at h; cases h
              · exact hnm h
            refine ⟨b1, b2, b3, b4, _, f1, f2, f3, f4, f5, d, _, rfl, DPut.k (k := Sum.inr (sOf (K02.text z))) e3.seen (by unfold kvs; rw [List.length_map, sizeLine_eq]; omega), ?_⟩
            rw [kvs_put hv]
            have eo : upd H3 d (.dK (kvs (A ++ [z]))) o = some (.lst us) := by rw [upd_ne (Ne.symm hdo)]; exact e3.row
            refine app_ok2 eo (by rw [e3.pats.len]; omega) ⟨_, us ++ [w], rfl, ⟨fun b y hb => ?_, upd_same, ?_, ?_⟩, ?_⟩
            · rw [upd_ne (ne_of_none hb ho), upd_ne (ne_of_none hb hd0)]
              exact e3.same b y hb
            · rw [upd_ne hdo, upd_same, ap, eA]
            · rw [ap, eA]
              have kp2 : Kp H3 (upd (upd H3 d (.dK (kvs (A ++ [z])))) o (.lst (us ++ [w]))) := fun a y ha ht => by
                have n1 : a ≠ o := fun e => by rw [e, e3.row] at ha; cases ha; rcases ht with ⟨_, ht⟩ | ⟨_, _, _, ht⟩ <;> cases ht
                have n2 : a ≠ d := fun e => by rw [e, e3.seen] at ha; cases ha; rcases ht with ⟨_, ht⟩ | ⟨_, _, _, ht⟩ <;> cases ht
                rw [upd_ne n1, upd_ne n2]
                exact ha
              exact (e3.pats.app (.cons patz .nil)).keep kp2
            · intro a y ha ht
              have ha := kp a y ha ht
              have n1 : a ≠ o := fun e => by rw [e, e3.row] at ha; cases ha; rcases ht with ⟨_, ht⟩ | ⟨_, _, _, ht⟩ <;> cases ht
              have n2 : a ≠ d := fun e => by rw [e, e3.seen] at ha; cases ha; rcases ht with ⟨_, ht⟩ | ⟨_, _, _, ht⟩ <;> cases ht
              rw [upd_ne n1, upd_ne n2]
              exact ha
          · have hv : (valV (kvs A) (Sum.inr (sOf (K02.text z)))).isSome = true := by simpa using e
            rw [hv] at hval
            have hm : z ∈ A := hin2.mp (of_decide_eq_true hval.symm)
            refine stay ?_
            unfold addU1
            rw [if_pos (.inr hm)]
      · rintro σ H3 ⟨y5, us, rfl, e3, kp⟩
        rw [hp1.len, List.take_length, ← fl] at e3
        exact ⟨_, _, _, us, rfl, e3⟩
    dsimp only [tSeq, tAsg, tIfS, tRet, tRetN, tDrop, tNext, tOp, tUn, tCons, tNil, tTup, tLst, tC, tCB, tCan, tCanW, tAnd, tOr, tNot, tB, tIf, uB, uAndV, uOrV, uNotV, uNeg, uV, gName, gSub, tAug, ipI, tPart, tNoPart, tSl, tBM, tBM0, uLen, uAbs, uInt, uAdd, uSub, uMod, uFdiv, uMul, uCmp, uLt, uLe, uGt, uGe, tFld, StX.tMakeR, tRz, tCanS, sFld, start, fin0, List.getElem?_cons_zero, List.getElem?_cons_succ, List.map_cons, List.map_nil, List.length_cons, List.length_nil, List.replicate, List.cons_append, List.nil_append, Nat.reduceSub, Nat.reduceAdd, List.set_cons_zero, List.set_cons_succ]
    refine isi_pat F pat1 .Either (by decide) ?_
    show if u.isO = true then _ else _
    cases hO : u.isO with
    | true =>
      refine iteT ?_
      obtain ⟨b1, b2, b3, b4, q1, qs, qt, f1, f2, f3, f4, f5, f6, f7, f8⟩ := fd_parts F pat1 (.inr hO)
      refine ⟨b1, b2, b3, b4, _, f1, f2, f3, f4, f5, inner q1 qs H1 e1 f6 ?_⟩
      rcases f8 with e | e
      · rw [e] at hO; cases hO
      · rw [e]; exact f7
    | false =>
      refine iteF ⟨by decide +kernel, fun q1 nq1 => inner q1 [x] _ ⟨e1.same.trans (same_new nq1), get_new e1.row nq1, get_new e1.seen nq1, e1.pats.keep (Same.kp (same_new nq1))⟩ upd_same ?_⟩
      have : seqO u = [u] := by
        cases u with
        | o => cases hO
        | _ => rfl
      rw [this]
      exact .cons (pat1.keep (Same.kp (same_new nq1))) .nil
  · rintro σ H1 ⟨y3, y4, y5, us, rfl, e1⟩
    rw [hp.len, List.take_length] at e1
    obtain ⟨h1, h2, h3, h4⟩ := addU_row row.tr
    have e2 : leither ts = K02.wrap .z .o (addU [] (flatO ts)) := rfl
    have hSF := K02.SF_leither fun t ht => (row.tr t ht).1
    rw [e2] at q hSF
    have q := q.from e1.same
    have eo := e1.row
    have pu := e1.pats
    have hl := pu.len
    have hw := row.wt
    have hsz2 := row.sz
    dsimp only [tSeq, tAsg, tIfS, tRet, tRetN, tDrop, tNext, tOp, tUn, tCons, tNil, tTup, tLst, tC, tCB, tCan, tCanW, tAnd, tOr, tNot, tB, tIf, uB, uAndV, uOrV, uNotV, uNeg, uV, gName, gSub, tAug, ipI, tPart, tNoPart, tSl, tBM, tBM0, uLen, uAbs, uInt, uAdd, uSub, uMod, uFdiv, uMul, uCmp, uLt, uLe, uGt, uGe, tFld, StX.tMakeR, tRz, tCanS, sFld, start, fin0, List.getElem?_cons_zero, List.getElem?_cons_succ, List.map_cons, List.map_nil, List.length_cons, List.length_nil, List.replicate, List.cons_append, List.nil_append, Nat.reduceSub, Nat.reduceAdd, List.set_cons_zero, List.set_cons_succ]
    refine ⟨us, .inl (sqL eo), ?_⟩
    dsimp only [uEq]
    rw [len_zero]
    generalize addU [] (flatO ts) = f at pu hl q h1 h2 h3 h4 hSF
    refine ifD (fun c0 => ?_) fun c0 => ?_
    · have : f = [] := List.eq_nil_of_length_eq_zero (by omega)
      subst this
      have q : Out c H1 Q E (gd40 .z) := q
      rw [gd40_ok (by simp [K02.depth])] at q
      exact make_small (k := .Nothing) (t := .z) (fun H2 _ => ⟨rfl, rfl⟩) (by simp [K02.size]) (by simp [K02.depth]) q
    · refine ⟨us, .inl (sqL eo), ?_⟩
      rw [len_one]
      refine ifD (fun c1 => ?_) fun c1 => ?_
      · obtain ⟨v, t, rfl, rfl, pt⟩ := pats_one pu c1
        have q : Out c H1 Q E (gd40 t) := q
        rw [gd40_ok (h1 t (by simp)).2.1] at q
        exact ix_lst eo (atI_nat (j := 0) rfl) (q v H1 (Same.refl H1) pt)
      · refine ⟨us, sqL eo, fun l nl => ?_⟩
        have ef : K02.wrap .z .o f = .o f := by
          match f, hl with
          | [], hl => simp only [List.length_nil] at hl; exact absurd hl c0
          | [_], hl => simp only [List.length_nil, List.length_cons] at hl; omega
          | a :: b :: r, _ => rfl
        rw [ef] at q hSF
        have s2 := same_new (o := .tup us) nl
        refine make_out (k := .Either) (fun H2 s3 => ⟨l, us, f, rfl, s3 _ _ upd_same, (pu.keep (Same.kp s2)).keep (Same.kp s3), ?_, rfl, ⟨hSF, by simp only [K02.wt]; omega⟩, fun x hx => ⟨(h1 x hx).1, by have := wt_mem hx; omega⟩⟩) (by simp only [K02.size]; omega) ?_ (q.from s2)
        · intro e
          rw [e] at hl
          exact c0 hl
        · have : K02.maxL (K02.depths f) ≤ 40 := K02.maxL_le fun x hx => by
            rw [K02.depths_map] at hx
            obtain ⟨z, hz, rfl⟩ := List.mem_map.mp hx
            exact (h1 z hz).2.1
          simp only [K02.depth]
          omega
end
end L2.WB
namespace L2.WB
open PySem PySem.Spec PyProof.Rows
open K02 (T isL isK isI g40 lthen leither lagain wts sizes galt gstep grun gbuild Lv rowsOf trun tstep yes lows Good)
/-- rows of patterns, by their lists' addresses -/
inductive RowsAt (c : Ad) (H : Hp) : List Addr → List (List T) → Prop
  | nil : RowsAt c H [] []
  | cons {r : Addr} {ws : List V} {row : List T} {rs : List Addr} {rows : List (List T)} : H r = some (.lst ws) → Pats c H ws row → RowsAt c H rs rows → RowsAt c H (r :: rs) (row :: rows)
theorem RowsAt.keep {c : Ad} {H H2 : Hp} (k : Kp H H2) : ∀ {rs : List Addr} {rows : List (List T)}, RowsAt c H rs rows → (∀ b ∈ rs, ∀ o, H b = some o → H2 b = some o) → RowsAt c H2 rs rows
  | _, _, .nil, _ => .nil
  | _, _, .cons h p r, f => .cons (f _ (by simp) _ h) (p.keep k) (r.keep k fun b hb => f b (List.mem_cons_of_mem _ hb))
theorem RowsAt.len {c : Ad} {H : Hp} : ∀ {rs : List Addr} {rows : List (List T)}, RowsAt c H rs rows → rs.length = rows.length
  | _, _, .nil => rfl
  | _, _, .cons _ _ r => congrArg (· + 1) r.len
theorem RowsAt.get {c : Ad} {H : Hp} : ∀ {rs : List Addr} {rows : List (List T)} {j : Nat} {r : Addr}, RowsAt c H rs rows → rs[j]? = some r → ∃ ws row, rows[j]? = some row ∧ H r = some (.lst ws) ∧ Pats c H ws row
  | _, _, _, _, .nil, h => by cases h
  | _, _, 0, _, .cons a p b, h => ⟨_, _, rfl, by rw [← Option.some.inj h]; exact a, p⟩
  | _, _, j + 1, _, .cons a p b, h => b.get (j := j) h
theorem RowsAt.app {c : Ad} {H : Hp} : ∀ {rs ss : List Addr} {rows sows : List (List T)}, RowsAt c H rs rows → RowsAt c H ss sows → RowsAt c H (rs ++ ss) (rows ++ sows)
  | _, _, _, _, .nil, h => h
  | _, _, _, _, .cons a p b, h => .cons a p (b.app h)
/-- what rows must be to be put together -/
structure RowsOk (rows : List (List T)) : Prop where
  tr : ∀ row ∈ rows, row ≠ [] ∧ ∀ t ∈ row, K02.SF t ∧ K02.depth t ≤ 40
  wt : (rows.map wts).sum ≤ 20000
  sz : (rows.map sizes).sum ≤ 2000
  ln : ∀ row ∈ rows, row.length ≤ 1000000
  len : rows.length ≤ 1000000
theorem mem_sum {f : List T → Nat} {rows : List (List T)} {row : List T} (h : row ∈ rows) : f row ≤ (rows.map f).sum := by
  induction rows with
  | nil => cases h
  | cons a r ih =>
    rw [List.map_cons, List.sum_cons]
    rcases List.mem_cons.mp h with e | e
    · rw [e]; omega
    · have := ih e; omega
theorem RowsOk.row {rows : List (List T)} (h : RowsOk rows) {row : List T} (hr : row ∈ rows) : Row row :=
  ⟨(h.tr row hr).2, Nat.le_trans (mem_sum (f := sizes) hr) h.sz, Nat.le_trans (mem_sum (f := wts) hr) h.wt, h.ln row hr⟩
def spAlt (c : Ad) : Sp := fun vs H Q E => ∃ a rs rows, vs = [.ref a] ∧ H a = some (.lst (rs.map V.ref)) ∧ RowsAt c H rs rows ∧ RowsOk rows ∧ Out c H Q E (galt g40 rows)
section
variable {K : PySem.W.Frag} {c : Ad} {H : Hp} {Q : VK} {E : XK} {vs : List V} {v : V} {t : T}
theorem q__alternative (h : spAlt c vs H Q E) : t__alternative K c (spSeq c lthen) (spSeq c leither) E (fin0 Q) (start N__alternative vs) H := by
  obtain ⟨a, rs, rows, rfl, ha, hr, ok, q⟩ := h
  show t__alternative K c (spSeq c lthen) (spSeq c leither) E (fin0 Q) [some (.ref a), none, none] H
  dsimp only [t__alternative, tSeq, tAsg, tIfS, tRet, tRetN, tDrop, tNext, tOp, tUn, tCons, tNil, tTup, tLst, tC, tCB, tCan, tCanW, tAnd, tOr, tNot, tB, tIf, uB, uAndV, uOrV, uNotV, uNeg, uV, gName, gSub, tAug, ipI, tPart, tNoPart, tSl, tBM, tBM0, uLen, uAbs, uInt, uAdd, uSub, uMod, uFdiv, uMul, uCmp, uLt, uLe, uGt, uGe, tFld, StX.tMakeR, tRz, tCanS, sFld, start, fin0, List.getElem?_cons_zero, List.getElem?_cons_succ, List.map_cons, List.map_nil, List.length_cons, List.length_nil, List.replicate, List.cons_append, List.nil_append, Nat.reduceSub, Nat.reduceAdd, List.set_cons_zero, List.set_cons_succ]
  refine ⟨a, rfl, ⟨_, sqL ha⟩, fun D nD => ?_⟩
  refine lc_list (K := K) (a := a) (xs := rs.map V.ref) (fun n H1 => Same H H1 ∧ ∃ xs, H1 D = some (.lst xs) ∧ Pats c H1 xs ((rows.take n).map lthen) ∧ ∀ row ∈ rows.take n, g40 (lthen row) = true) ⟨same_new nD, [], upd_same, .nil, by simp⟩ (fun n H1 _ h => sqL (h.1 _ _ ha)) ?_ ?_
  · intro n x H1 hx ⟨s1, xs, eD, pp, hg⟩
    rw [List.getElem?_map] at hx
    cases hrn : rs[n]? with
    | none => rw [hrn] at hx; cases hx
    | some r =>
      rw [hrn] at hx
      have hx := Option.some.inj hx
      subst hx
      obtain ⟨ws, row, hrow, er, pr⟩ := hr.get hrn
      have hmem : row ∈ rows := List.mem_of_getElem? hrow
      have tk : rows.take (n + 1) = rows.take n ++ [row] := by rw [List.take_add_one, hrow]; rfl
      refine ⟨rfl, ?_⟩
      refine ⟨ws, .inr (sqL (s1 _ _ er)), row, pr.keep (Same.kp s1), ok.row hmem, ?_⟩
      cases hgr : g40 (lthen row) with
      | true =>
        have e : gd40 (lthen row) = some (lthen row) := by unfold gd40; rw [if_pos hgr]
        rw [e]
        intro v H2 s2 pv
        have s12 := s1.trans s2
        refine ⟨xs, s2 _ _ eD, ?_, ?_⟩
        · have := pp.len
          rw [List.length_map, List.length_take] at this
          have := ok.len
          rw [sizeLine_eq]
          omega
        · have k : Kp H2 (upd H2 D (.lst (xs ++ [v]))) := (but_upd (st := D)).kp (s2 _ _ eD)
          refine ⟨fun b o hb => ?_, _, upd_same, ?_, fun row2 hr2 => ?_⟩
          · rw [upd_ne (ne_of_none hb nD)]
            exact s12 b o hb
          · rw [tk, List.map_append]
            exact ((pp.keep (Same.kp s2)).app (.cons pv .nil)).keep k
          · rw [tk, List.mem_append, List.mem_singleton] at hr2
            rcases hr2 with h | h
            · exact hg row2 h
            · rw [h]; exact hgr
      | false =>
        have e : gd40 (lthen row) = none := by unfold gd40; rw [hgr]; rfl
        have e2 : galt g40 rows = none := by
          unfold galt
          rw [if_neg]
          rw [Bool.and_eq_true]
          rintro ⟨h, _⟩
          have := List.all_eq_true.mp h row hmem
          rw [hgr] at this
          cases this
        rw [e2] at q
        rw [e]
        exact Xc.from q s1
  · rintro H1 ⟨s1, xs, eD, pp, hg⟩
    rw [List.length_map, hr.len, List.take_length] at pp hg
    have hmem : ∀ p ∈ rows.map lthen, K02.SF p ∧ K02.depth p ≤ 40 := fun p hp => by
      obtain ⟨row, hrow, rfl⟩ := List.mem_map.mp hp
      exact ⟨K02.SF_lthen fun t ht => ((ok.tr row hrow).2 t ht).1, of_decide_eq_true (hg row hrow)⟩
    have hr2 : ∀ row ∈ rows, row ≠ [] ∧ ∀ t ∈ row, K02.SF t := fun row hrow => ⟨(ok.tr row hrow).1, fun t ht => ((ok.tr row hrow).2 t ht).1⟩
    refine ⟨xs, .inr (sqL eD), rows.map lthen, pp, ⟨hmem, Nat.le_trans (K02.sizes_rows rows) ok.sz, Nat.le_trans (K02.wts_rows rows hr2) ok.wt, by rw [List.length_map]; exact ok.len⟩, ?_⟩
    have e : galt g40 rows = gd40 (leither (rows.map lthen)) := by
      unfold galt gd40
      rw [List.all_eq_true.mpr hg, Bool.true_and]
    rw [e] at q
    exact q.from s1
end
end L2.WB
namespace L2.WB
open PySem PySem.Spec PyProof.Rows
open K02 (T isL isK isI g40 lthen leither lagain wts sizes galt gstep grun gbuild Lv rowsOf trun tstep yes lows Good items cnt)
/-- a level's list, its done rows, its growing row -/
abbrev LA := Addr × List Addr × Addr
def ownL (x : LA) : List Addr := x.1 :: x.2.2 :: x.2.1
def ownS (ads : List LA) : List Addr := ads.flatMap ownL
structure LvAt (c : Ad) (H : Hp) (x : LA) (l : Lv) : Prop where
  at_ : H x.1 = some (.lst (x.2.1.map V.ref ++ [.ref x.2.2]))
  rows : RowsAt c H x.2.1 l.1.reverse
  top : ∃ ws, H x.2.2 = some (.lst ws) ∧ Pats c H ws l.2.reverse
inductive StkAt (c : Ad) (H : Hp) : List LA → List Lv → Prop
  | nil : StkAt c H [] []
  | cons {x : LA} {l : Lv} {ads : List LA} {st : List Lv} : LvAt c H x l → StkAt c H ads st → StkAt c H (x :: ads) (l :: st)
theorem LvAt.keep {c : Ad} {H H2 : Hp} {x : LA} {l : Lv} (h : LvAt c H x l) (k : Kp H H2) (f : ∀ b ∈ ownL x, ∀ o, H b = some o → H2 b = some o) : LvAt c H2 x l := by
  obtain ⟨ws, h1, h2⟩ := h.top
  exact ⟨f _ (by simp [ownL]) _ h.at_, h.rows.keep k fun b hb => f b (by simp [ownL, hb]), ws, f _ (by simp [ownL]) _ h1, h2.keep k⟩
theorem StkAt.keep {c : Ad} {H H2 : Hp} (k : Kp H H2) : ∀ {ads : List LA} {st : List Lv}, StkAt c H ads st → (∀ b ∈ ownS ads, ∀ o, H b = some o → H2 b = some o) → StkAt c H2 ads st
  | _, _, .nil, _ => .nil
  | _, _, .cons h r, f => .cons (h.keep k fun b hb => f b (by simp only [ownS, List.flatMap_cons, List.mem_append]; exact .inl hb)) (r.keep k fun b hb => f b (by simp only [ownS, List.flatMap_cons, List.mem_append]; exact .inr hb))
theorem StkAt.len {c : Ad} {H : Hp} : ∀ {ads : List LA} {st : List Lv}, StkAt c H ads st → ads.length = st.length
  | _, _, .nil => rfl
  | _, _, .cons _ r => congrArg (· + 1) r.len
/-- the builder's state in the heap; H0: the heap ahead -/
structure Bt (c : Ad) (H0 H : Hp) (L : Addr) (ads : List LA) (st : List Lv) : Prop where
  same : Same H0 H
  lv : H L = some (.lst (ads.map fun x => V.ref x.1).reverse)
  stk : StkAt c H ads st
  nd : (L :: ownS ads).Nodup
  fr : ∀ b ∈ L :: ownS ads, H0 b = none
theorem Bt.grow {c : Ad} {H0 H H2 : Hp} {L : Addr} {ads : List LA} {st : List Lv} (h : Bt c H0 H L ads st) (s : Same H H2) : Bt c H0 H2 L ads st :=
  ⟨h.same.trans s, s _ _ h.lv, h.stk.keep (Same.kp s) fun b _ o e => s b o e, h.nd, h.fr⟩
theorem Same.upd_new {H0 H : Hp} {b : Addr} {o : HO} (s : Same H0 H) (h : H0 b = none) : Same H0 (upd H b o) := fun a x e => by
  rw [upd_ne (ne_of_none e h)]
  exact s a x e
theorem kp_lst {H : Hp} {b : Addr} {xs ys : List V} (h : H b = some (.lst xs)) : Kp H (upd H b (.lst ys)) := (but_upd (st := b)).kp h
section
variable {K : PySem.W.Frag} {c : Ad} {H : Hp} {Q : VK} {E : XK} {vs : List V} {v : V} {t : T} {H0 : Hp} {L : Addr} {ads : List LA} {st : List Lv} {a r : Addr} {rs : List Addr} {rws : List (List T)} {sq : List T}
/-- the growing row of the top level is another one -/
theorem Bt.setTop {ws2 : List V} {sq2 : List T} (h : Bt c H0 H L ((a, rs, r) :: ads) ((rws, sq) :: st)) (p : Pats c H ws2 sq2.reverse) : Bt c H0 (upd H r (.lst ws2)) L ((a, rs, r) :: ads) ((rws, sq2) :: st) := by
  have nd := h.nd
  simp only [ownS, List.flatMap_cons, ownL, List.cons_append, List.nodup_cons, List.mem_cons, not_or, List.mem_append] at nd
  obtain ⟨⟨n1, n2, n3, n4⟩, ⟨n5, n6, n7⟩, ⟨n8, n9⟩, n10⟩ := nd
  cases h.stk with
  | cons lv rest =>
    obtain ⟨ws, hr, hp⟩ := lv.top
    have k := kp_lst (ys := ws2) hr
    refine ⟨Same.upd_new h.same (h.fr r (by simp [ownS, ownL])), ?_, .cons ⟨?_, ?_, ws2, upd_same, p.keep k⟩ (rest.keep k fun b hb o e => ?_), h.nd, h.fr⟩
    · rw [upd_ne n2]; exact h.lv
    · rw [upd_ne n5]; exact lv.at_
    · refine lv.rows.keep k fun b hb o e => ?_
      rw [upd_ne (show b ≠ r from fun z => n8 (by rw [← z]; exact hb))]
      exact e
    · rw [upd_ne (show b ≠ r from fun z => n9 (by rw [← z]; exact hb))]
      exact e
theorem Bt.mem (h : Bt c H0 H L ads st) {x : LA} (hx : x ∈ ads) : (∃ xs, H x.1 = some (.lst xs)) ∧ (∃ xs, H x.2.2 = some (.lst xs)) ∧ ∀ b ∈ x.2.1, ∃ xs, H b = some (.lst xs) := by
  have key : ∀ {ads : List LA} {st : List Lv}, StkAt c H ads st → ∀ x ∈ ads, (∃ xs, H x.1 = some (.lst xs)) ∧ (∃ xs, H x.2.2 = some (.lst xs)) ∧ ∀ b ∈ x.2.1, ∃ xs, H b = some (.lst xs) := by
    intro ads st h
    induction h with
    | nil => intro x hx; cases hx
    | cons lv _ ih =>
      intro x hx
      rcases List.mem_cons.mp hx with e | e
      · rw [e]
        obtain ⟨ws, h1, _⟩ := lv.top
        have rr : ∀ {rs : List Addr} {rows : List (List T)}, RowsAt c H rs rows → ∀ b ∈ rs, ∃ xs, H b = some (.lst xs) := by
          intro rs rows h
          induction h with
          | nil => intro b hb; cases hb
          | cons h0 _ _ ih => 
            intro b hb
            rcases List.mem_cons.mp hb with e | e
            · rw [e]; exact ⟨_, h0⟩
            · exact ih b e
        exact ⟨⟨_, lv.at_⟩, ⟨_, h1⟩, rr lv.rows⟩
      · exact ih x e
  exact key h.stk x hx
/-- all that is owned stands -/
theorem Bt.there (h : Bt c H0 H L ads st) {b : Addr} (hb : b ∈ L :: ownS ads) : ∃ xs, H b = some (.lst xs) := by
  rcases List.mem_cons.mp hb with e | e
  · rw [e]; exact ⟨_, h.lv⟩
  · unfold ownS at e
    rw [List.mem_flatMap] at e
    obtain ⟨x, hx, e⟩ := e
    obtain ⟨h1, h2, h3⟩ := h.mem hx
    simp only [ownL, List.mem_cons] at e
    rcases e with e | e | e
    · rw [e]; exact h1
    · rw [e]; exact h2
    · exact h3 b e
theorem Bt.new (h : Bt c H0 H L ads st) {b : Addr} (hb : H b = none) : b ∉ L :: ownS ads := fun z => by
  obtain ⟨xs, e⟩ := h.there z
  rw [hb] at e
  cases e
/-- a new row on the top level -/
theorem Bt.bar {r2 : Addr} (h : Bt c H0 H L ((a, rs, r) :: ads) ((rws, sq) :: st)) (n : H r2 = none) : Bt c H0 (upd (upd H r2 (.lst [])) a (.lst (rs.map V.ref ++ [.ref r] ++ [.ref r2]))) L ((a, rs ++ [r], r2) :: ads) ((sq.reverse :: rws, []) :: st) := by
  have hn := h.new n
  have n0 : H0 r2 = none := Same.free h.same n
  have nd := h.nd
  have fr := h.fr
  have s := same_new (o := .lst []) n
  have h1 := h.grow s
  simp only [ownS, List.flatMap_cons, ownL, List.cons_append, List.nodup_cons, List.mem_cons, not_or, List.mem_append] at nd hn fr
  obtain ⟨⟨n1, n2, n3, n4⟩, ⟨n5, n6, n7⟩, ⟨n8, n9⟩, n10⟩ := nd
  obtain ⟨m1, m2, m3, m4, m5⟩ := hn
  cases h1.stk with
  | cons lv rest =>
    obtain ⟨ws, hr, hp⟩ := lv.top
    have k := kp_lst (ys := rs.map V.ref ++ [.ref r] ++ [.ref r2]) lv.at_
    refine ⟨Same.upd_new h1.same (fr a (by simp)), ?_, .cons ⟨?_, ?_, [], ?_, .nil⟩ (rest.keep k fun b hb o e => ?_), ?_, ?_⟩
    · rw [upd_ne n1]; exact h1.lv
    · rw [upd_same, List.map_append]; rfl
    · show RowsAt c _ (rs ++ [r]) ((sq.reverse :: rws).reverse)
      rw [List.reverse_cons]
      refine (lv.rows.keep k fun b hb o e => ?_).app (.cons ?_ (hp.keep k) .nil)
      · rw [upd_ne (show b ≠ a from fun z => n6 (by rw [← z]; exact hb))]
        exact e
      · rw [upd_ne (Ne.symm n5)]; exact hr
    · show upd _ a _ r2 = _
      rw [upd_ne m2, upd_same]
    · rw [upd_ne (show b ≠ a from fun z => n7 (by rw [← z]; exact hb))]
      exact e
    · simp only [ownS, List.flatMap_cons, ownL, List.cons_append, List.nodup_cons, List.mem_cons, not_or, List.mem_append, List.nodup_append, List.not_mem_nil, or_false, not_false_eq_true, and_true, List.nodup_nil]
      have n10' := List.nodup_append.mp n10
      refine ⟨⟨n1, Ne.symm m1, ⟨⟨n3, n2⟩, n4⟩⟩, ⟨Ne.symm m2, ⟨n6, n5⟩, n7⟩, ⟨⟨m4, m3⟩, m5⟩, ⟨n10'.1, trivial, fun x hx y hy => by rw [hy]; exact fun z => n8 (by rw [← z]; exact hx)⟩, n10'.2.1, ?_⟩
      intro x hx y hy
      rcases hx with hx | hx
      · exact n10'.2.2 x hx y hy
      · rw [hx]
        exact fun z => n9 (by rw [z]; exact hy)
    · intro b hb
      simp only [ownS, List.flatMap_cons, ownL, List.cons_append, List.mem_cons, List.mem_append, List.not_mem_nil, or_false] at hb
      rcases hb with e | e | e | (e | e) | e
      · exact fr b (by simp [e])
      · exact fr b (by simp [e])
      · rw [e]; exact n0
      · exact fr b (by simp [e])
      · exact fr b (by simp [e])
      · exact fr b (.inr (.inr (.inr (.inr e))))
/-- a new level -/
theorem Bt.openL {r2 a2 : Addr} (h : Bt c H0 H L ads st) (n : H r2 = none) (n2 : upd H r2 (.lst []) a2 = none) :
    Bt c H0 (upd (upd (upd H r2 (.lst [])) a2 (.lst [.ref r2])) L (.lst ((ads.map fun x => V.ref x.1).reverse ++ [.ref a2]))) L ((a2, [], r2) :: ads) (([], []) :: st) := by
  have hn := h.new n
  have h1 := h.grow (same_new (o := .lst []) n)
  have hn2 := h1.new n2
  have h2 := h1.grow (same_new (o := .lst [.ref r2]) n2)
  have n0 : H0 r2 = none := Same.free h.same n
  have n02 : H0 a2 = none := Same.free h1.same n2
  have ne : r2 ≠ a2 := ne_of_none (upd_same : upd H r2 (.lst []) r2 = some (.lst [])) n2
  have nd := h.nd
  have fr := h.fr
  rw [List.nodup_cons] at nd
  rw [List.mem_cons, not_or] at hn hn2
  have k := kp_lst (ys := (ads.map fun x => V.ref x.1).reverse ++ [.ref a2]) h2.lv
  refine ⟨Same.upd_new h2.same (fr L (by simp)), ?_, .cons ⟨?_, .nil, [], ?_, .nil⟩ (h2.stk.keep k fun b hb o e => ?_), ?_, ?_⟩
  · rw [upd_same, List.map_cons, List.reverse_cons]
  · show upd _ L _ a2 = _
    rw [upd_ne hn2.1, upd_same]; rfl
  · show upd _ L _ r2 = _
    rw [upd_ne hn.1, upd_ne ne, upd_same]
  · rw [upd_ne (show b ≠ L from fun z => nd.1 (by rw [← z]; exact hb))]
    exact e
  · simp only [ownS, List.flatMap_cons, ownL, List.cons_append, List.nodup_cons, List.mem_cons, not_or, List.mem_append, List.nil_append]
    exact ⟨⟨Ne.symm hn2.1, Ne.symm hn.1, nd.1⟩, ⟨Ne.symm ne, hn2.2⟩, hn.2, nd.2⟩
  · intro b hb
    simp only [ownS, List.flatMap_cons, ownL, List.cons_append, List.mem_cons, List.nil_append] at hb
    rcases hb with e | e | e | e
    · exact fr b (by simp [e])
    · rw [e]; exact n02
    · rw [e]; exact n0
    · exact fr b (List.mem_cons_of_mem _ e)
/-- the top level taken off -/
theorem Bt.popL {l : Lv} {x : LA} (h : Bt c H0 H L (x :: ads) (l :: st)) : Bt c H0 (upd H L (.lst (ads.map fun x => V.ref x.1).reverse)) L ads st ∧ LvAt c (upd H L (.lst (ads.map fun x => V.ref x.1).reverse)) x l := by
  have nd := h.nd
  have fr := h.fr
  simp only [ownS, List.flatMap_cons, List.nodup_cons, List.mem_append, not_or] at nd
  have k := kp_lst (ys := (ads.map fun x => V.ref x.1).reverse) h.lv
  cases h.stk with
  | cons lv rest =>
    refine ⟨⟨Same.upd_new h.same (fr L (by simp)), upd_same, rest.keep k fun b hb o e => ?_, ?_, fun b hb => fr b ?_⟩, lv.keep k fun b hb o e => ?_⟩
    · rw [upd_ne (show b ≠ L from fun z => nd.1.2 (by rw [← z]; exact hb))]
      exact e
    · rw [List.nodup_cons]
      exact ⟨nd.1.2, (List.nodup_append.mp nd.2).2.1⟩
    · rcases List.mem_cons.mp hb with e | e
      · rw [e]; simp
      · simp only [ownS, List.flatMap_cons, List.mem_cons, List.mem_append]
        exact .inr (.inr e)
    · rw [upd_ne (show b ≠ L from fun z => nd.1.1 (by rw [← z]; exact hb))]
      exact e
end
/-- a step of the run, the first of what is left -/
theorem trun_split {G : T → Bool} : ∀ {A B : List (List Nat)} {s s2 : K02.Stk}, trun G s (A ++ B) = some s2 → ∃ s1, trun G s A = some s1 ∧ trun G s1 B = some s2
  | [], B, s, s2, h => ⟨s, rfl, h⟩
  | g :: A, B, s, s2, h => by
    have h : (tstep G s g).bind (fun x => trun G x (A ++ B)) = some s2 := h
    cases e : tstep G s g with
    | none => rw [e] at h; cases h
    | some x =>
      rw [e] at h
      obtain ⟨s1, h1, h2⟩ := trun_split (show trun G x (A ++ B) = some s2 from h)
      exact ⟨s1, by show (tstep G s g).bind _ = _; rw [e]; exact h1, h2⟩
theorem grun_app {G : T → Bool} : ∀ (A B : List (List Nat)) (s : List Lv), grun G s (A ++ B) = (grun G s A).bind fun x => grun G x B
  | [], B, s => rfl
  | g :: A, B, s => by
    show (gstep G s g).bind (fun x => grun G x (A ++ B)) = ((gstep G s g).bind fun x => grun G x A).bind fun x => grun G x B
    cases gstep G s g with
    | none => rfl
    | some x => exact grun_app A B x
theorem trun_take {G : T → Bool} {S : List (List Nat)} {s s2 : K02.Stk} {i : Nat} {g : List Nat} (h : trun G s S = some s2) (hg : S[i]? = some g) : ∃ s1 s3, trun G s (S.take i) = some s1 ∧ tstep G s1 g = some s3 ∧ trun G s (S.take (i + 1)) = some s3 := by
  have e : S = S.take (i + 1) ++ S.drop (i + 1) := (List.take_append_drop _ _).symm
  rw [e] at h
  obtain ⟨s3, h1, _⟩ := trun_split h
  have tk : S.take (i + 1) = S.take i ++ [g] := by rw [List.take_add_one, hg]; rfl
  have h2 := h1
  rw [tk] at h2
  obtain ⟨s1, h3, h4⟩ := trun_split h2
  have h4 : (tstep G s1 g).bind (fun x => some x) = some s3 := h4
  refine ⟨s1, s3, h3, ?_, h1⟩
  cases e : tstep G s1 g with
  | none => rw [e] at h4; cases h4
  | some x => rw [e] at h4; exact h4
theorem cnt_take (S : List (List Nat)) (i : Nat) : cnt (S.take i) ≤ cnt S := by
  have := K02.cnt_app (S.take i) (S.drop i)
  rw [List.take_append_drop] at this
  omega
theorem items_take (S : List (List Nat)) (i : Nat) : items (S.take i) ≤ items S := by
  have := K02.items_app (S.take i) (S.drop i)
  rw [List.take_append_drop] at this
  omega
/-- lengths in the builder's state: no more patterns and rows than signs -/
def Ng : List Lv → Nat
  | [] => 0
  | l :: r => (l.1.map (fun row => row.length + 1)).sum + l.2.length + 1 + Ng r
theorem gstep_len {st st2 : List Lv} {g : List Nat} (h : gstep g40 st g = some st2) : Ng st2 ≤ Ng st + 1 := by
  cases st with
  | nil => cases h
  | cons x r =>
    obtain ⟨rs, sq⟩ := x
    unfold gstep at h
    dsimp only at h
    by_cases c1 : g = [40]
    · rw [if_pos c1] at h
      have := Option.some.inj h
      subst this
      simp only [Ng, List.map_nil, List.sum_nil, List.length_nil]; omega
    rw [if_neg c1] at h
    by_cases c2 : g = [124]
    · rw [if_pos c2] at h
      have := Option.some.inj h
      subst this
      simp only [Ng, List.map_cons, List.sum_cons, List.length_reverse, List.length_nil]; omega
    rw [if_neg c2] at h
    by_cases c3 : g = [42]
    · rw [if_pos c3] at h
      cases sq with
      | nil => cases h
      | cons y q =>
        dsimp only at h
        split at h
        · have := Option.some.inj h
          subst this
          simp only [Ng, List.length_cons]; omega
        · cases h
    rw [if_neg c3] at h
    by_cases c4 : g = [41]
    · rw [if_pos c4] at h
      cases r with
      | nil => cases h
      | cons y r2 =>
        obtain ⟨rs2, sq2⟩ := y
        have h : (galt g40 (rowsOf (rs, sq))).map (fun e => (rs2, e :: sq2) :: r2) = some st2 := h
        cases ea : galt g40 (rowsOf (rs, sq)) with
        | none => rw [ea] at h; cases h
        | some t =>
          rw [ea] at h
          have := Option.some.inj h
          subst this
          simp only [Ng, List.length_cons]; omega
    rw [if_neg c4] at h
    by_cases c5 : g = [48]
    · rw [if_pos c5] at h
      have := Option.some.inj h
      subst this
      simp only [Ng, List.length_cons]; omega
    rw [if_neg c5] at h
    by_cases c6 : g = [49]
    · rw [if_pos c6] at h
      have := Option.some.inj h
      subst this
      simp only [Ng, List.length_cons]; omega
    rw [if_neg c6] at h
    have := Option.some.inj h
    subst this
    simp only [Ng, List.length_cons]; omega
theorem Ng_row {rs : List (List T)} {row : List T} (h : row ∈ rs) : row.length + 1 ≤ (rs.map (fun row => row.length + 1)).sum := mem_sum (f := fun row => row.length + 1) h
theorem Ng_rows (rs : List (List T)) : rs.length ≤ (rs.map (fun row => row.length + 1)).sum := by
  induction rs with
  | nil => simp
  | cons a r ih => rw [List.map_cons, List.sum_cons, List.length_cons]; omega
theorem Ng_top {l : Lv} {r : List Lv} : (l.1.map (fun row => row.length + 1)).sum + l.2.length + 1 ≤ Ng (l :: r) := by simp only [Ng]; omega
theorem Ng_len : ∀ st : List Lv, st.length ≤ Ng st
  | [] => by simp [Ng]
  | l :: r => by have := Ng_len r; simp only [Ng, List.length_cons]; omega
/-- the rows of a level may be put together -/
theorem rows_ok {l : Lv} {st : List Lv} {B M : Nat} (hg : Good (l :: st) B M) (hB : B ≤ 20000) (hM : M ≤ 2000) (hq : l.2 ≠ []) (hN : Ng (l :: st) ≤ 1000000) : RowsOk (rowsOf l) := by
  have h1 := hg.tr l (by simp)
  have hw := hg.wt
  have hz := hg.sz
  simp only [K02.Wg] at hw
  simp only [K02.Zg] at hz
  have hN2 := Ng_top (l := l) (r := st)
  have hN3 := Ng_rows l.1
  refine ⟨fun row hrow => ?_, by rw [K02.rowsOf_wts]; omega, by rw [K02.rowsOf_sizes]; omega, fun row hrow => ?_, ?_⟩
  · unfold rowsOf at hrow
    rcases List.mem_append.mp hrow with e | e
    · exact h1.1 row (by simpa using e)
    · rw [List.mem_singleton] at e
      rw [e]
      exact ⟨by simpa using hq, fun t ht => h1.2 t (by simpa using ht)⟩
  · unfold rowsOf at hrow
    rcases List.mem_append.mp hrow with e | e
    · have := Ng_row (rs := l.1) (row := row) (by simpa using e)
      omega
    · rw [List.mem_singleton] at e
      rw [e, List.length_reverse]
      omega
  · unfold rowsOf
    rw [List.length_append, List.length_reverse, List.length_singleton]
    omega
def spBuilt (c : Ad) : Sp := fun vs H Q E => ∃ a S al sq, vs = [.ref a] ∧ H a = some (.lst (tv S)) ∧ (∀ g ∈ S, K02.valid g = true) ∧ trun K02.yes [([], [])] S = some [(al, sq)] ∧ sq ≠ [] ∧ items S ≤ 2000 ∧ cnt S ≤ 20000 ∧ S.length ≤ 100000 ∧ Out c H Q E (gbuild g40 S)
end L2.WB
namespace L2.WB
open PySem PySem.Spec PyProof.Rows
open K02 (T isL isK isI g40 lthen leither lagain wts sizes galt gstep grun gbuild Lv rowsOf trun tstep yes lows Good items cnt)
theorem valid_leaf {g : List Nat} (h : K02.valid g = true) (h1 : g ≠ [40]) (h2 : g ≠ [124]) (h3 : g ≠ [42]) (h4 : g ≠ [41]) : K02.leafTok g = true := by
  unfold K02.valid at h
  unfold K02.leafTok
  simpa [h1, h2, h3, h4, Bool.or_assoc, Bool.or_comm, Bool.or_left_comm] using h
theorem ixN_last (n : Nat) : ixN (n + 1) (-1) = some n := by
  unfold ixN
  rw [if_neg (by decide), if_pos (by omega)]
  congr 1
  omega
section
variable {K : PySem.W.Frag} {c : Ad} {H : Hp} {Q : VK} {E : XK} {vs : List V} {v : V} {t : T}
theorem q__built (h : spBuilt c vs H Q E) : t__built K c (spAgain c) (spAlt c) (spBase c) E (fin0 Q) (start N__built vs) H := by
  obtain ⟨a, S, al, sq0, rfl, ha, hv, htr, hsq0, hM, hB, hS, q⟩ := h
  show t__built K c (spAgain c) (spAlt c) (spBase c) E (fin0 Q) [some (.ref a), none, none, none, none] H
  dsimp only [t__built, tSeq, tAsg, tIfS, tRet, tRetN, tDrop, tNext, tOp, tUn, tCons, tNil, tTup, tLst, tC, tCB, tCan, tCanW, tAnd, tOr, tNot, tB, tIf, uB, uAndV, uOrV, uNotV, uNeg, uV, gName, gSub, tAug, ipI, tPart, tNoPart, tSl, tBM, tBM0, uLen, uAbs, uInt, uAdd, uSub, uMod, uFdiv, uMul, uCmp, uLt, uLe, uGt, uGe, tFld, StX.tMakeR, tRz, tCanS, sFld, start, fin0, List.getElem?_cons_zero, List.getElem?_cons_succ, List.map_cons, List.map_nil, List.length_cons, List.length_nil, List.replicate, List.cons_append, List.nil_append, Nat.reduceSub, Nat.reduceAdd, List.set_cons_zero, List.set_cons_succ]
  -- [[[]]]
  refine ⟨by decide +kernel, fun r0 nr0 => ⟨by decide +kernel, fun a0 na0 => ⟨by decide +kernel, fun L nL => ?_⟩⟩⟩
  have ner : r0 ≠ a0 := ne_of_none (upd_same : upd H r0 (.lst []) r0 = some (.lst [])) na0
  have nrL : r0 ≠ L := ne_of_none (get_new (upd_same : upd H r0 (.lst []) r0 = some (.lst [])) na0) nL
  have naL : a0 ≠ L := ne_of_none (upd_same : upd (upd H r0 (.lst [])) a0 (.lst [.ref r0]) a0 = some (.lst [.ref r0])) nL
  have s3 : Same H (upd (upd (upd H r0 (.lst [])) a0 (.lst [.ref r0])) L (.lst [.ref a0])) := ((same_new nr0).trans (same_new na0)).trans (same_new nL)
  have nH : ∀ {b : Addr}, upd H r0 (.lst []) b = none → H b = none := fun h => Same.free (same_new nr0) h
  have bt0 : Bt c H (upd (upd (upd H r0 (.lst [])) a0 (.lst [.ref r0])) L (.lst [.ref a0])) L [(a0, [], r0)] [([], [])] := by
    refine ⟨s3, upd_same, .cons ⟨?_, .nil, [], ?_, .nil⟩ .nil, ?_, ?_⟩
    · exact get_new upd_same nL
    · exact get_new (get_new upd_same na0) nL
    · simp [ownS, ownL, Ne.symm naL, Ne.symm nrL, Ne.symm ner]
    · intro b hb
      simp only [ownS, List.flatMap_cons, List.flatMap_nil, ownL, List.append_nil, List.mem_cons, List.not_mem_nil, or_false] at hb
      rcases hb with e | e | e
      · rw [e]; exact Same.free ((same_new nr0).trans (same_new na0)) nL
      · rw [e]; exact nH na0
      · rw [e]; exact nr0
  refine ⟨a, rfl, ⟨_, sqL (s3 _ _ ha)⟩, for_list (K := K) (a := a) (xs := tv S) (fun i σ H1 => ∃ y2 y3 y4 ads st, σ = [some (.ref a), some (.ref L), y2, y3, y4] ∧ Bt c H H1 L ads st ∧ grun g40 [([], [])] (S.take i) = some st ∧ Ng st ≤ i + 1) ⟨none, none, none, _, _, rfl, bt0, rfl, by simp [Ng]⟩ (fun i σ H1 _ ⟨_, _, _, _, _, _, b, _⟩ => sqL (b.same _ _ ha)) ?_ ?_⟩
  · rintro i x σ H1 hx ⟨y2, y3, y4, ads, st, rfl, bt, hgr, hN⟩
    obtain ⟨g, hg, rfl⟩ : ∃ g, S[i]? = some g ∧ x = .str (sOf g) := by
      unfold tv at hx
      rw [List.getElem?_map] at hx
      cases e : S[i]? with
      | none => rw [e] at hx; cases hx
      | some g => rw [e] at hx; exact ⟨g, rfl, (Option.some.inj hx).symm⟩
    have hgv : K02.valid g = true := hv g (List.mem_of_getElem? hg)
    have hi : i < S.length := (List.getElem?_eq_some_iff.mp hg).1
    have tk : S.take (i + 1) = S.take i ++ [g] := by rw [List.take_add_one, hg]; rfl
    obtain ⟨s1, s3', ht1, ht2, ht3⟩ := trun_take htr hg
    have low1 : lows st = s1 := K02.grun_trun hgr ht1
    rw [← low1] at ht2
    have good := K02.grun_good (fun x hx => hv x (List.mem_of_mem_take hx)) hgr ht1 K02.good0
    have hcB : 0 + cnt (S.take i) ≤ 20000 := by have := cnt_take S i; omega
    have hiM : 0 + items (S.take i) ≤ 2000 := by have := items_take S i; omega
    -- the next state, or the refusal
    have step : ∀ st2, gstep g40 st g = some st2 → grun g40 [([], [])] (S.take (i + 1)) = some st2 := fun st2 e => by
      rw [tk, grun_app, hgr]
      show (gstep g40 st g).bind (fun x => some x) = _
      rw [e]; rfl
    have refuse : gstep g40 st g = none → Out c H Q E none := fun e => by
      have : gbuild g40 S = none := by
        have e2 : S = S.take (i + 1) ++ S.drop (i + 1) := (List.take_append_drop _ _).symm
        unfold gbuild
        rw [e2, grun_app, tk, grun_app, hgr]
        show (((gstep g40 st g).bind (fun x => some x)).bind _).bind _ = none
        rw [e]; rfl
      rw [this] at q
      exact q
    have next : ∀ st2, gstep g40 st g = some st2 → Ng st2 ≤ i + 1 + 1 := fun st2 e => by have := gstep_len e; omega
    cases st with
    | nil => cases ht2
    | cons l st =>
      obtain ⟨rws, sq⟩ := l
      cases ads with
      | nil => cases bt.stk
      | cons x ads =>
        obtain ⟨ta, trs, tr⟩ := x
        have lv := bt.lv
        rw [List.map_cons, List.reverse_cons] at lv
        have lvtop : LvAt c H1 (ta, trs, tr) (rws, sq) := by cases bt.stk with | cons a _ => exact a
        obtain ⟨ws, hws, hwp⟩ := lvtop.top
        have hws : H1 tr = some (.lst ws) := hws
        have hwp : Pats c H1 ws sq.reverse := hwp
        have hta : H1 ta = some (.lst (trs.map V.ref ++ [.ref tr])) := lvtop.at_
        have hNt := Ng_top (l := (rws, sq)) (r := st)
        have wl : ws.length ≤ 1000000 := by
          have := hwp.len
          rw [List.length_reverse] at this
          simp only at hNt
          omega
        dsimp only [tSeq, tAsg, tIfS, tRet, tRetN, tDrop, tNext, tOp, tUn, tCons, tNil, tTup, tLst, tC, tCB, tCan, tCanW, tAnd, tOr, tNot, tB, tIf, uB, uAndV, uOrV, uNotV, uNeg, uV, gName, gSub, tAug, ipI, tPart, tNoPart, tSl, tBM, tBM0, uLen, uAbs, uInt, uAdd, uSub, uMod, uFdiv, uMul, uCmp, uLt, uLe, uGt, uGe, tFld, StX.tMakeR, tRz, tCanS, sFld, start, fin0, List.getElem?_cons_zero, List.getElem?_cons_succ, List.map_cons, List.map_nil, List.length_cons, List.length_nil, List.replicate, List.cons_append, List.nil_append, Nat.reduceSub, Nat.reduceAdd, List.set_cons_zero, List.set_cons_succ]
        refine ix_lst lv (atI_last _ _) (ix_lst hta (atI_last _ _) ?_)
        dsimp only [uEq]
        have t40 : ∀ {k : List Nat}, g = k → decide (sOf g = sOf k) = true := fun e => by rw [dec_sOf]; exact decide_eq_true e
        have f40 : ∀ {k : List Nat}, g ≠ k → decide (sOf g = sOf k) = false := fun e => by rw [dec_sOf]; exact decide_eq_false e
        by_cases c1 : g = [40]
        · refine ifT (t40 c1) ⟨tyl bt.lv, ?_⟩
          refine ⟨by decide +kernel, fun r2 nr2 => ⟨by decide +kernel, fun a2 na2 => ?_⟩⟩
          have bo := bt.openL nr2 na2
          have e : gstep g40 ((rws, sq) :: st) g = some (([], []) :: (rws, sq) :: st) := by unfold gstep; simp [c1]
          refine ⟨_, get_new (get_new bt.lv nr2) na2, ?_, ?_⟩
          · rw [List.length_reverse, List.length_map, sizeLine_eq]
            have h1 := bt.stk.len
            have h2 := Ng_len ((rws, sq) :: st)
            omega
          · exact ⟨_, _, _, _, _, rfl, bo, step _ e, next _ e⟩
        by_cases c2 : g = [124]
        · refine ifF (f40 c1) (ifT (t40 c2) (ix_lst lv (atI_last _ _) ⟨tyl hta, by decide +kernel, fun r2 nr2 => ?_⟩))
          have bb := bt.bar nr2
          have e : gstep g40 ((rws, sq) :: st) g = some ((sq.reverse :: rws, []) :: st) := by unfold gstep; simp [c2]
          refine ⟨_, get_new hta nr2, ?_, _, _, _, _, _, rfl, bb, step _ e, next _ e⟩
          rw [List.length_append, List.length_map, List.length_singleton, sizeLine_eq]
          have h1 := lvtop.rows.len
          have h2 := Ng_rows rws
          have h3 : trs.length = rws.length := by simpa using h1
          simp only at hNt
          omega
        by_cases c3 : g = [42]
        · refine ifF (f40 c1) (ifF (f40 c2) (ifT (t40 c3) ?_))
          cases sq with
          | nil => subst c3; cases ht2
          | cons z zq =>
            rw [List.reverse_cons] at hwp
            obtain ⟨w1, w2, hw12, hz2⟩ : ∃ w1 v2, ws = w1 ++ [v2] ∧ Pats c H1 w1 zq.reverse ∧ PatAt c H1 v2 z := by
              have hl := hwp.len
              rw [List.length_append, List.length_singleton] at hl
              have e : ws = ws.take zq.reverse.length ++ ws.drop zq.reverse.length := (List.take_append_drop _ _).symm
              rw [e] at hwp
              obtain ⟨t1, t2, e2, p1, p2⟩ := hwp.split
              have l1 := p1.len
              rw [List.length_take] at l1
              have e3 := List.append_inj e2 (by omega)
              rw [← e3.1] at p1
              rw [← e3.2] at p2
              cases hd : ws.drop zq.reverse.length with
              | nil => rw [hd] at p2; cases p2
              | cons v2 r2 =>
                rw [hd] at p2
                cases p2 with
                | cons pv pn =>
                  cases pn
                  exact ⟨_, v2, by rw [← hd]; exact e, p1, pv⟩
            subst hw12
            obtain ⟨hp1, hpz⟩ := hz2
            have gz : K02.SF z ∧ K02.depth z ≤ 40 := (good.tr (rws, z :: zq) (by simp)).2 z (by simp)
            have hzw : K02.wt z ≤ 20000 := by
              have := good.wt
              simp only [K02.Wg, wts] at this
              omega
            have hzs : K02.size z ≤ 2000 := by
              have := good.sz
              simp only [K02.Zg, sizes] at this
              omega
            refine ix_lst hws (atI_last _ _) ⟨w2, z, rfl, hpz, ⟨gz.1, hzw⟩, gz.2, hzs, ?_⟩
            cases hgd : g40 (lagain z) with
            | false =>
              have e : gd40 (lagain z) = none := by unfold gd40; rw [hgd]; rfl
              rw [e]
              exact (refuse (by unfold gstep; simp [c3, hgd])).from bt.same
            | true =>
              have e : gd40 (lagain z) = some (lagain z) := by unfold gd40; rw [if_pos hgd]
              rw [e]
              intro v2 H2 s2 p2
              have bt2 := bt.grow s2
              have eg : gstep g40 ((rws, z :: zq) :: st) g = some ((rws, lagain z :: zq) :: st) := by unfold gstep; simp [c3, hgd]
              refine ⟨tr, w1 ++ [w2], -1, w1.length, rfl, rfl, s2 _ _ hws, by rw [List.length_append]; exact ixN_last _, ?_⟩
              have es : (w1 ++ [w2]).set w1.length v2 = w1 ++ [v2] := by simp
              rw [es]
              refine ⟨_, _, _, _, _, rfl, bt2.setTop (sq2 := lagain z :: zq) ?_, step _ eg, next _ eg⟩
              rw [List.reverse_cons]
              exact (hp1.keep (Same.kp s2)).app (.cons p2 .nil)
        by_cases c4 : g = [41]
        · refine ifF (f40 c1) (ifF (f40 c2) (ifF (f40 c3) (ifT (t40 c4) ?_)))
          cases st with
          | nil => subst c4; cases ht2
          | cons l2 st =>
            obtain ⟨rws2, sq2⟩ := l2
            have hsq : sq ≠ [] := fun e => by subst e; subst c4; cases ht2
            cases ads with
            | nil =>
              have h := bt.stk
              cases h with
              | cons _ h2 => cases h2
            | cons x2 ads =>
              obtain ⟨ta2, trs2, tr2⟩ := x2
              obtain ⟨bp, lp⟩ := bt.popL
              refine ⟨tyl bt.lv, ((ta2, trs2, tr2) :: ads |>.map fun x => V.ref x.1).reverse, .ref ta, lv, ?_⟩
              have lv2 := bp.lv
              rw [List.map_cons, List.reverse_cons] at lv2
              have lvtop2 : LvAt c (upd H1 L (.lst (((ta2, trs2, tr2) :: ads).map fun x => V.ref x.1).reverse)) (ta2, trs2, tr2) (rws2, sq2) := by
                cases bp.stk with | cons a _ => exact a
              obtain ⟨ws2, hws2, hwp2⟩ := lvtop2.top
              have hta2 := lvtop2.at_
              refine ix_lst (by rw [List.map_cons, List.reverse_cons] ; exact upd_same) (atI_last _ _) (ix_lst hta2 (atI_last _ _) ⟨tyl hws2, ?_⟩)
              have ro : RowsOk (rowsOf (rws, sq)) := rows_ok good hcB hiM hsq (by omega)
              obtain ⟨wt1, hwt1, hwt2⟩ := lp.top
              refine ⟨ta, trs ++ [tr], rowsOf (rws, sq), rfl, ?_, lp.rows.app (.cons hwt1 hwt2 .nil), ro, ?_⟩
              · rw [List.map_append]; exact lp.at_
              · cases eg : galt g40 (rowsOf (rws, sq)) with
                | none =>
                  exact (refuse (by unfold gstep; simp [c4, eg])).from bp.same
                | some t =>
                  intro v2 H2 s2 p2
                  have bt2 := bp.grow s2
                  have es : gstep g40 ((rws, sq) :: (rws2, sq2) :: st) g = some ((rws2, t :: sq2) :: st) := by unfold gstep; simp [c4, eg]
                  refine ⟨ws2, s2 _ _ hws2, ?_, _, _, _, _, _, rfl, bt2.setTop (sq2 := t :: sq2) ?_, step _ es, next _ es⟩
                  · have h1 := hwp2.len
                    rw [List.length_reverse] at h1
                    have h2 := Ng_top (l := (rws2, sq2)) (r := st)
                    have h3 : Ng ((rws, sq) :: (rws2, sq2) :: st) = (rws.map (fun row => row.length + 1)).sum + sq.length + 1 + Ng ((rws2, sq2) :: st) := rfl
                    simp only at h2 h1
                    rw [sizeLine_eq]
                    omega
                  · rw [List.reverse_cons]
                    exact (hwp2.keep (Same.kp s2)).app (.cons p2 .nil)
        · refine ifF (f40 c1) (ifF (f40 c2) (ifF (f40 c3) (ifF (f40 c4) ⟨tyl hws, g, rfl, valid_leaf hgv c1 c2 c3 c4, fun v2 H2 s2 p2 => ?_⟩)))
          have bt2 := bt.grow s2
          have eg : gstep g40 ((rws, sq) :: st) g = some ((rws, leafT g :: sq) :: st) := by
            unfold gstep leafT
            dsimp only
            rw [if_neg c1, if_neg c2, if_neg c3, if_neg c4]
            by_cases c5 : g = [48]
            · rw [if_pos c5, if_pos c5]
            · rw [if_neg c5, if_neg c5]
              by_cases c6 : g = [49]
              · rw [if_pos c6, if_pos c6]
              · rw [if_neg c6, if_neg c6]
          refine ⟨ws, s2 _ _ hws, by rw [sizeLine_eq]; omega, _, _, _, _, _, rfl, bt2.setTop (sq2 := leafT g :: sq) ?_, step _ eg, next _ eg⟩
          rw [List.reverse_cons]
          exact (hwp.keep (Same.kp s2)).app (.cons p2 .nil)
  · rintro σ H1 ⟨y2, y3, y4, ads, st, rfl, bt, hgr, hN⟩
    have hlen : (tv S).length = S.length := tv_len S
    rw [hlen, List.take_length] at hgr
    rw [hlen] at hN
    have low1 : lows st = [(al, sq0)] := K02.grun_trun hgr htr
    have good := K02.grun_good hv hgr htr K02.good0
    match st, low1, bt, hgr, hN, good with
    | [l], low1, bt, hgr, hN, good =>
      cases ads with
      | nil => cases bt.stk
      | cons x ads =>
        have hads : ads = [] := by
          have := bt.stk.len
          simpa using this
        subst hads
        obtain ⟨ta, trs, tr⟩ := x
        have lvtop : LvAt c H1 (ta, trs, tr) l := by cases bt.stk with | cons a _ => exact a
        obtain ⟨ws, hws, hwp⟩ := lvtop.top
        have hl2 : l.2 = sq0 := by
          have : [K02.low l] = [(al, sq0)] := low1
          rw [List.cons.injEq] at this
          exact congrArg Prod.snd this.1
        dsimp only [tSeq, tAsg, tIfS, tRet, tRetN, tDrop, tNext, tOp, tUn, tCons, tNil, tTup, tLst, tC, tCB, tCan, tCanW, tAnd, tOr, tNot, tB, tIf, uB, uAndV, uOrV, uNotV, uNeg, uV, gName, gSub, tAug, ipI, tPart, tNoPart, tSl, tBM, tBM0, uLen, uAbs, uInt, uAdd, uSub, uMod, uFdiv, uMul, uCmp, uLt, uLe, uGt, uGe, tFld, StX.tMakeR, tRz, tCanS, sFld, start, fin0, List.getElem?_cons_zero, List.getElem?_cons_succ, List.map_cons, List.map_nil, List.length_cons, List.length_nil, List.replicate, List.cons_append, List.nil_append, Nat.reduceSub, Nat.reduceAdd, List.set_cons_zero, List.set_cons_succ]
        refine ix_lst bt.lv (atI_nat (j := 0) rfl) ⟨ta, trs ++ [tr], rowsOf l, rfl, ?_, lvtop.rows.app (.cons hws hwp .nil), rows_ok good (by omega) (by omega) (by rw [hl2]; exact hsq0) (by omega), ?_⟩
        · rw [List.map_append]; exact lvtop.at_
        · have e : gbuild g40 S = galt g40 (rowsOf l) := by
            unfold gbuild
            rw [hgr]
            rfl
          rw [e] at q
          exact q.from bt.same
end
end L2.WB
namespace L2.WB
open PySem PySem.Spec PyProof.Rows
abbrev s__law_told : Stmt := top 50
abbrev N__law_told : List Str := ["text", "e", "made"]
theorem sc__law_told : FnScope N__law_told ["text"] (defScope s__law_told) := ⟨rfl, rfl, rfl, by decide +kernel, rfl, by decide +kernel, by decide +kernel⟩
def t__law_told (K : PySem.W.Frag) (c : Ad) (pread_pattern : Sp) : TS :=
  (tSeq (fun D σ H => (fun W => (tAsg (tCanW pread_pattern W (tCons (uV 0) tNil)) (gName 2))) (wAs K (.ref c.WaysError) 1 (fun a cls d => (tSeq (tIfS (tOr (tNot (uB (tCB (uIsE K cls d a) (tCons (uV 1) (tCons (tC (.ty "ValueError")) tNil))))) (uB (tCB (uIsE K cls d a) (tCons (uV 1) (tCons (tC (.ref c.BadItem)) tNil))))) (tRet (tTup (tCons (tC (.str (sOf [111, 116, 104, 101, 114]))) (tCons (tC (.int 0)) tNil)))) tNext) (tSeq (tIfS (tAnd (uB (tCB (uIsE K cls d a) (tCons (uV 1) (tCons (tC (.ref c.BadText)) tNil)))) (tNot (uB (tCB (uIsE K cls d a) (tCons (uV 1) (tCons (tTup (tCons (tC (.ref c.TooLong)) (tCons (tC (.ref c.TooDeep)) tNil))) tNil)))))) (tRet (tTup (tCons (tC (.str (sOf [98, 97, 100]))) (tCons (tXf a cls d c.BadText "at" (uV 1)) tNil)))) tNext) (tSeq (tIfS (tAnd (uB (tCB (uIsE K cls d a) (tCons (uV 1) (tCons (tC (.ref c.TooLong)) tNil)))) (tNot (uB (tCB (uIsE K cls d a) (tCons (uV 1) (tCons (tTup (tCons (tC (.ref c.BadText)) (tCons (tC (.ref c.TooDeep)) tNil))) tNil)))))) (tRet (tTup (tCons (tC (.str (sOf [108, 111, 110, 103]))) (tCons (tXf a cls d c.TooLong "many" (uV 1)) tNil)))) tNext) (tSeq (tIfS (tAnd (uB (tCB (uIsE K cls d a) (tCons (uV 1) (tCons (tC (.ref c.TooDeep)) tNil)))) (tNot (uB (tCB (uIsE K cls d a) (tCons (uV 1) (tCons (tTup (tCons (tC (.ref c.BadText)) (tCons (tC (.ref c.TooLong)) tNil))) tNil)))))) (tRet (tTup (tCons (tC (.str (sOf [100, 101, 101, 112]))) (tCons (tXf a cls d c.TooDeep "depth" (uV 1)) tNil)))) tNext) (tRet (tTup (tCons (tC (.str (sOf [111, 116, 104, 101, 114]))) (tCons (tC (.int 0)) tNil))))))))) (fun _ _ _ _ => False) D) D σ H) (tSeq (tIfS (tNot (uB (tCB (uIsi K) (tCons (uV 2) (tCons (tC (.ref c.Pattern)) tNil))))) (tRet (tTup (tCons (tC (.str (sOf [111, 116, 104, 101, 114]))) (tCons (tC (.int 1)) tNil)))) tNext) (tRet (tTup (tCons (tC (.str (sOf [109, 97, 100, 101]))) (tCons (uMtT K c (uV 2)) tNil))))))
theorem d__law_told {P : Program} {w : World} {K : PySem.W.Frag} {mg : Str → Option Value} {base : Heap} {f : Addr} {cdv : Value} {A : Around} {outer : List Env} {s0 : Shared} {H0 : Hp} {E : XK} {c : Ad} {pread_pattern : Sp} {k : Nat} (T : Txt K mg c) (hr : Room (k + 1) (X0 P w K mg base N__law_told "_law_told" s__law_told f cdv A outer s0 H0 E).A) (h_read_pattern : Has P w K mg base (CX P w) k "read_pattern" pread_pattern) (g_WaysError : mg "WaysError" = some (.ref c.WaysError)) (x_BadText : XfC K c.BadText ∧ PySem.W.findIn K (.ref c.BadText) "at" = some none) (x_TooLong : XfC K c.TooLong ∧ PySem.W.findIn K (.ref c.TooLong) "many" = some none) (x_TooDeep : XfC K c.TooDeep ∧ PySem.W.findIn K (.ref c.TooDeep) "depth" = some none) (m_text : HasText P w K mg base k c) :
    PSs (X0 P w K mg base N__law_told "_law_told" s__law_told f cdv A outer s0 H0 E) (defBody s__law_told) (t__law_told K c pread_pattern) := by
  exact (pss_cons (ps_try_as (i := 1) (c := .ref c.WaysError) (Wout := fun _ _ _ _ => False) (tb := fun W => (tAsg (tCanW pread_pattern W (tCons (uV 0) tNil)) (gName 2))) (ts := fun a cls d => (tSeq (tIfS (tOr (tNot (uB (tCB (uIsE K cls d a) (tCons (uV 1) (tCons (tC (.ty "ValueError")) tNil))))) (uB (tCB (uIsE K cls d a) (tCons (uV 1) (tCons (tC (.ref c.BadItem)) tNil))))) (tRet (tTup (tCons (tC (.str (sOf [111, 116, 104, 101, 114]))) (tCons (tC (.int 0)) tNil)))) tNext) (tSeq (tIfS (tAnd (uB (tCB (uIsE K cls d a) (tCons (uV 1) (tCons (tC (.ref c.BadText)) tNil)))) (tNot (uB (tCB (uIsE K cls d a) (tCons (uV 1) (tCons (tTup (tCons (tC (.ref c.TooLong)) (tCons (tC (.ref c.TooDeep)) tNil))) tNil)))))) (tRet (tTup (tCons (tC (.str (sOf [98, 97, 100]))) (tCons (tXf a cls d c.BadText "at" (uV 1)) tNil)))) tNext) (tSeq (tIfS (tAnd (uB (tCB (uIsE K cls d a) (tCons (uV 1) (tCons (tC (.ref c.TooLong)) tNil)))) (tNot (uB (tCB (uIsE K cls d a) (tCons (uV 1) (tCons (tTup (tCons (tC (.ref c.BadText)) (tCons (tC (.ref c.TooDeep)) tNil))) tNil)))))) (tRet (tTup (tCons (tC (.str (sOf [108, 111, 110, 103]))) (tCons (tXf a cls d c.TooLong "many" (uV 1)) tNil)))) tNext) (tSeq (tIfS (tAnd (uB (tCB (uIsE K cls d a) (tCons (uV 1) (tCons (tC (.ref c.TooDeep)) tNil)))) (tNot (uB (tCB (uIsE K cls d a) (tCons (uV 1) (tCons (tTup (tCons (tC (.ref c.BadText)) (tCons (tC (.ref c.TooLong)) tNil))) tNil)))))) (tRet (tTup (tCons (tC (.str (sOf [100, 101, 101, 112]))) (tCons (tXf a cls d c.TooDeep "depth" (uV 1)) tNil)))) tNext) (tRet (tTup (tCons (tC (.str (sOf [111, 116, 104, 101, 114]))) (tCons (tC (.int 0)) tNil))))))))) rfl rfl sc__law_told.nd rfl rfl ⟨by rfl, by decide, .inl g_WaysError⟩ takes0 (fun W pn xe tk _ => (pss_one (ps_set (i := 2) sc__law_told.nd rfl (Or.inl rfl) (pe_canW h_read_pattern hr tk (pa_cons (pe_uv 0) pa_nil))))) (fun a oe cls d pn hz hf => (pss_cons (ps_if (PW.pt (pw_or (pt_not (pt_u (pe_callB (cr_isE hz hf) (by rfl) T.isinstance (by decide +kernel) (pa_cons (pe_uv 1) (pa_cons (pe_bltn rfl T.ValueError (by decide +kernel) rfl) pa_nil))))) (pw_or1 (pt_u (pe_callB (cr_isE hz hf) (by rfl) T.isinstance (by decide +kernel) (pa_cons (pe_uv 1) (pa_cons (pe_gs T.g_BadItem) pa_nil))))))) (pss_one (ps_ret (pe_tup (pa_cons (pe_lit (l := [111, 116, 104, 101, 114]) (by decide +kernel)) (pa_cons pe_int pa_nil))))) pss_nil) (pss_cons (ps_if (PW.pt (pw_and (pt_u (pe_callB (cr_isE hz hf) (by rfl) T.isinstance (by decide +kernel) (pa_cons (pe_uv 1) (pa_cons (pe_gs T.g_BadText) pa_nil)))) (pw_and1 (pt_not (pt_u (pe_callB (cr_isE hz hf) (by rfl) T.isinstance (by decide +kernel) (pa_cons (pe_uv 1) (pa_cons (pe_tup (pa_cons (pe_gs T.g_TooLong) (pa_cons (pe_gs T.g_TooDeep) pa_nil))) pa_nil)))))))) (pss_one (ps_ret (pe_tup (pa_cons (pe_lit (l := [98, 97, 100]) (by decide +kernel)) (pa_cons (pe_xf x_BadText.1 x_BadText.2 hz hf (pe_uv 1)) pa_nil))))) pss_nil) (pss_cons (ps_if (PW.pt (pw_and (pt_u (pe_callB (cr_isE hz hf) (by rfl) T.isinstance (by decide +kernel) (pa_cons (pe_uv 1) (pa_cons (pe_gs T.g_TooLong) pa_nil)))) (pw_and1 (pt_not (pt_u (pe_callB (cr_isE hz hf) (by rfl) T.isinstance (by decide +kernel) (pa_cons (pe_uv 1) (pa_cons (pe_tup (pa_cons (pe_gs T.g_BadText) (pa_cons (pe_gs T.g_TooDeep) pa_nil))) pa_nil)))))))) (pss_one (ps_ret (pe_tup (pa_cons (pe_lit (l := [108, 111, 110, 103]) (by decide +kernel)) (pa_cons (pe_xf x_TooLong.1 x_TooLong.2 hz hf (pe_uv 1)) pa_nil))))) pss_nil) (pss_cons (ps_if (PW.pt (pw_and (pt_u (pe_callB (cr_isE hz hf) (by rfl) T.isinstance (by decide +kernel) (pa_cons (pe_uv 1) (pa_cons (pe_gs T.g_TooDeep) pa_nil)))) (pw_and1 (pt_not (pt_u (pe_callB (cr_isE hz hf) (by rfl) T.isinstance (by decide +kernel) (pa_cons (pe_uv 1) (pa_cons (pe_tup (pa_cons (pe_gs T.g_BadText) (pa_cons (pe_gs T.g_TooLong) pa_nil))) pa_nil)))))))) (pss_one (ps_ret (pe_tup (pa_cons (pe_lit (l := [100, 101, 101, 112]) (by decide +kernel)) (pa_cons (pe_xf x_TooDeep.1 x_TooDeep.2 hz hf (pe_uv 1)) pa_nil))))) pss_nil) (pss_one (ps_ret (pe_tup (pa_cons (pe_lit (l := [111, 116, 104, 101, 114]) (by decide +kernel)) (pa_cons pe_int pa_nil))))))))))) (pss_cons (ps_if (pt_not (pt_u (pe_callB cr_uIsi (by rfl) T.isinstance (by decide +kernel) (pa_cons (pe_uv 2) (pa_cons (pe_gs T.g_Pattern) pa_nil))))) (pss_one (ps_ret (pe_tup (pa_cons (pe_lit (l := [111, 116, 104, 101, 114]) (by decide +kernel)) (pa_cons pe_int pa_nil))))) pss_nil) (pss_one (ps_ret (pe_tup (pa_cons (pe_lit (l := [109, 97, 100, 101]) (by decide +kernel)) (pa_cons (pe_mtT m_text hr (pe_uv 2)) pa_nil)))))))

end L2.WB
namespace L2.WB
open PySem PySem.Spec PyProof.Rows
abbrev s__law_take : Stmt := top 39
abbrev N__law_take : List Str := ["state", "m", "digit"]
theorem sc__law_take : FnScope N__law_take ["state", "m"] (defScope s__law_take) := ⟨rfl, rfl, rfl, by decide +kernel, rfl, by decide +kernel, by decide +kernel⟩
def t__law_take (K : PySem.W.Frag) (c : Ad) : TS :=
  (tSeq (tIfS (tAnd (uB (tOp (uLt) (tOp (uIx K) (uV 0) (tC (.int 2))) (tC (.int 1)))) (uB (tOp (uLt) (tOp (uIx K) (uV 0) (tC (.int 1))) (tCB (uLen K) (tCons (tOp (uIx K) (uV 0) (tC (.int 0))) tNil))))) (tSeq (tAsg (tCB (uAbs) (tCons (tCB (uInt) (tCons (tOp (uIx K) (tOp (uIx K) (uV 0) (tC (.int 0))) (tOp (uIx K) (uV 0) (tC (.int 1)))) tNil)) tNil)) (gSub (uV 0) (tC (.int 2)) rSetL)) (tAsg (tOp (uAdd K) (tOp (uIx K) (uV 0) (tC (.int 1))) (tC (.int 1))) (gSub (uV 0) (tC (.int 1)) rSetL))) tNext) (tSeq (tAsg (tOp (uMod) (tCB (uInt) (tCons (tOp (uIx K) (uV 0) (tC (.int 2))) tNil)) (uV 1)) (gName 2)) (tSeq (tAsg (tOp (uFdiv) (tCB (uInt) (tCons (tOp (uIx K) (uV 0) (tC (.int 2))) tNil)) (uV 1)) (gSub (uV 0) (tC (.int 2)) rSetL)) (tRet (uV 2)))))
theorem d__law_take {P : Program} {w : World} {K : PySem.W.Frag} {mg : Str → Option Value} {base : Heap} {f : Addr} {cdv : Value} {A : Around} {outer : List Env} {s0 : Shared} {H0 : Hp} {E : XK} {c : Ad} {k : Nat} (T : Txt K mg c) (hr : Room (k + 1) (X0 P w K mg base N__law_take "_law_take" s__law_take f cdv A outer s0 H0 E).A) :
    PSs (X0 P w K mg base N__law_take "_law_take" s__law_take f cdv A outer s0 H0 E) (defBody s__law_take) (t__law_take K c) := by
  exact (pss_cons (ps_if (PW.pt (pw_and (pt_uc op_uLt (pe_ix ix_u (pe_uv 0) pe_int (fun _ _ => rfl)) pe_int (nomark _)) (pw_and1 (pt_uc op_uLt (pe_ix ix_u (pe_uv 0) pe_int (fun _ _ => rfl)) (pe_callB cr_uLen (by rfl) T.len (by decide +kernel) (pa_cons (pe_ix ix_u (pe_uv 0) pe_int (fun _ _ => rfl)) pa_nil)) (nomark _))))) (pss_cons (ps_asg (pe_callB cr_uAbs (by rfl) T.abs (by decide +kernel) (pa_cons (pe_callTy cr_uInt (by rfl) T.int (by decide +kernel) (pa_cons (pe_ix ix_u (pe_ix ix_u (pe_uv 0) pe_int (fun _ _ => rfl)) (pe_ix ix_u (pe_uv 0) pe_int (fun _ _ => rfl)) (fun _ _ => rfl)) pa_nil)) pa_nil)) (pg_sub (pe_uv 0) pe_int set_list)) (pss_one (ps_asg (pe_op op_uAdd (pe_ix ix_u (pe_uv 0) pe_int (fun _ _ => rfl)) pe_int) (pg_sub (pe_uv 0) pe_int set_list)))) pss_nil) (pss_cons (ps_set (i := 2) sc__law_take.nd rfl (Or.inl rfl) (pe_op op_uMod (pe_callTy cr_uInt (by rfl) T.int (by decide +kernel) (pa_cons (pe_ix ix_u (pe_uv 0) pe_int (fun _ _ => rfl)) pa_nil)) (pe_uv 1))) (pss_cons (ps_asg (pe_op op_uFdiv (pe_callTy cr_uInt (by rfl) T.int (by decide +kernel) (pa_cons (pe_ix ix_u (pe_uv 0) pe_int (fun _ _ => rfl)) pa_nil)) (pe_uv 1)) (pg_sub (pe_uv 0) pe_int set_list)) (pss_one (ps_ret (pe_uv 2))))))

abbrev s__law_item : Stmt := top 40
abbrev N__law_item : List Str := ["state", "shift", "letters", "kind", "place"]
theorem sc__law_item : FnScope N__law_item ["state", "shift"] (defScope s__law_item) := ⟨rfl, rfl, rfl, by decide +kernel, rfl, by decide +kernel, by decide +kernel⟩
def t__law_item (K : PySem.W.Frag) (c : Ad) (p_law_take : Sp) : TS :=
  (tSeq (tAsg (tC (.str (sOf lowers))) (gName 2)) (tSeq (tAsg (tCan p_law_take E0 (tCons (uV 0) (tCons (tC (.int 8)) tNil))) (gName 3)) (tSeq (tAsg (tOp (uMod) (tCB (uInt) (tCons (tOp (uAdd K) (uV 1) (tCan p_law_take E0 (tCons (uV 0) (tCons (tC (.int 3)) tNil)))) tNil)) (tC (.int 26))) (gName 4)) (tSeq (tIfS (uB (tOp (uEq K) (uV 3) (tC (.int 6)))) (tAsg (tCan p_law_take E0 (tCons (uV 0) (tCons (tC (.int 26)) tNil))) (gName 4)) tNext) (tSeq (tIfS (tOr (uB (tOp (uEq K) (uV 3) (tC (.int 3)))) (uB (tOp (uEq K) (uV 3) (tC (.int 4))))) (tRet (tOp (uAdd K) (tOp (uIx K) (uV 2) (uV 4)) (tC (.str (sOf [39]))))) tNext) (tSeq (tIfS (tOr (uB (tOp (uEq K) (uV 3) (tC (.int 5)))) (uB (tOp (uEq K) (uV 3) (tC (.int 7))))) (tRet (tOp (uAdd K) (tC (.str (sOf [63]))) (tOp (uIx K) (tC (.str (sOf uppers))) (uV 4)))) tNext) (tRet (tOp (uIx K) (uV 2) (uV 4)))))))))
theorem d__law_item {P : Program} {w : World} {K : PySem.W.Frag} {mg : Str → Option Value} {base : Heap} {f : Addr} {cdv : Value} {A : Around} {outer : List Env} {s0 : Shared} {H0 : Hp} {E : XK} {c : Ad} {p_law_take : Sp} {k : Nat} (T : Txt K mg c) (hr : Room (k + 1) (X0 P w K mg base N__law_item "_law_item" s__law_item f cdv A outer s0 H0 E).A) (h__law_take : Has P w K mg base CX0 k "_law_take" p_law_take) :
    PSs (X0 P w K mg base N__law_item "_law_item" s__law_item f cdv A outer s0 H0 E) (defBody s__law_item) (t__law_item K c p_law_take) := by
  have hu := hu201 hr
  exact (pss_cons (ps_set (i := 2) sc__law_item.nd rfl (Or.inl rfl) (pe_lit (l := lowers) (by decide +kernel))) (pss_cons (ps_set (i := 3) sc__law_item.nd rfl (Or.inl rfl) (pe_can (h__law_take.can hr) (pa_cons (pe_uv 0) (pa_cons pe_int pa_nil)))) (pss_cons (ps_set (i := 4) sc__law_item.nd rfl (Or.inl rfl) (pe_op op_uMod (pe_callTy cr_uInt (by rfl) T.int (by decide +kernel) (pa_cons (pe_op op_uAdd (pe_uv 1) (pe_can (h__law_take.can hr) (pa_cons (pe_uv 0) (pa_cons pe_int pa_nil)))) pa_nil)) pe_int)) (pss_cons (ps_if (pt_uc (op_uEq hu) (pe_uv 3) pe_int (nomark _)) (pss_one (ps_set (i := 4) sc__law_item.nd rfl (Or.inl rfl) (pe_can (h__law_take.can hr) (pa_cons (pe_uv 0) (pa_cons pe_int pa_nil))))) pss_nil) (pss_cons (ps_if (PW.pt (pw_or (pt_uc (op_uEq hu) (pe_uv 3) pe_int (nomark _)) (pw_or1 (pt_uc (op_uEq hu) (pe_uv 3) pe_int (nomark _))))) (pss_one (ps_ret (pe_op op_uAdd (pe_ix ix_u (pe_uv 2) (pe_uv 4) (fun _ _ => rfl)) (pe_lit (l := [39]) (by decide +kernel))))) pss_nil) (pss_cons (ps_if (PW.pt (pw_or (pt_uc (op_uEq hu) (pe_uv 3) pe_int (nomark _)) (pw_or1 (pt_uc (op_uEq hu) (pe_uv 3) pe_int (nomark _))))) (pss_one (ps_ret (pe_op op_uAdd (pe_lit (l := [63]) (by decide +kernel)) (pe_ix ix_u (pe_lit (l := uppers) (by decide +kernel)) (pe_uv 4) (fun _ _ => rfl))))) pss_nil) (pss_one (ps_ret (pe_ix ix_u (pe_uv 2) (pe_uv 4) (fun _ _ => rfl))))))))))

abbrev s__law_raw : Stmt := top 41
abbrev N__law_raw : List Str := ["state", "shift", "most", "stack", "k", "kind", "leaf", "spare", "act", "last"]
theorem sc__law_raw : FnScope N__law_raw ["state", "shift", "most"] (defScope s__law_raw) := ⟨rfl, rfl, rfl, by decide +kernel, rfl, by decide +kernel, by decide +kernel⟩
def t__law_raw (K : PySem.W.Frag) (c : Ad) (p_law_take p_law_item : Sp) : TS :=
  (tSeq (tAsg (tLst tNil) (gName 3)) (tSeq (tFor (iRng1 (tCons (tOp (uAdd K) (tC (.int 1)) (tCan p_law_take E0 (tCons (uV 0) (tCons (uV 2) tNil)))) tNil)) (gName 4) (tSeq (tAsg (tTup (tCons (tC (.str (sOf [105]))) (tCons (tCan p_law_item E0 (tCons (uV 0) (tCons (uV 1) tNil))) tNil))) (gName 6)) (tSeq (tAsg (tCan p_law_take E0 (tCons (uV 0) (tCons (tC (.int 9)) tNil))) (gName 7)) (tSeq (tIfS (uB (tOp (uEq K) (uV 7) (tC (.int 7)))) (tAsg (tTup (tCons (tC (.str (sOf [48]))) tNil)) (gName 6)) tNext) (tSeq (tIfS (uB (tOp (uEq K) (uV 7) (tC (.int 8)))) (tAsg (tTup (tCons (tC (.str (sOf [49]))) tNil)) (gName 6)) tNext) (tSeq (tDrop (tBM K "list" uApp (uV 3) (tCons (uV 6) tNil))) (tSeq (tAsg (tCan p_law_take E0 (tCons (uV 0) (tCons (tC (.int 6)) tNil))) (gName 8)) (tSeq (tIfS (tAnd (uB (tOp (uGt) (uV 8) (tC (.int 1)))) (uB (tOp (uGt) (tCB (uLen K) (tCons (uV 3) tNil)) (tC (.int 1))))) (tSeq (tAsg (tBM0 K "list" uPop (uV 3)) (gName 9)) (tAsg (tTup (tCons (tOp (uIx K) (tLst (tCons (tC (.str (sOf [110]))) (tCons (tC (.str (sOf [111]))) tNil))) (tOp (uSub) (tOp (uFdiv) (uV 8) (tC (.int 2))) (tC (.int 1)))) (tCons (tTup (tCons (tOp (uIx K) (uV 3) (tUn uNeg (tC (.int 1)))) (tCons (uV 9) tNil))) tNil))) (gSub (uV 3) (tUn uNeg (tC (.int 1))) rSetL))) tNext) (tIfS (tOr (uB (tOp (uEq K) (uV 8) (tC (.int 1)))) (tOr (uB (tOp (uEq K) (uV 8) (tC (.int 3)))) (uB (tOp (uEq K) (uV 8) (tC (.int 5)))))) (tAsg (tTup (tCons (tC (.str (sOf [109]))) (tCons (tOp (uIx K) (uV 3) (tUn uNeg (tC (.int 1)))) tNil))) (gSub (uV 3) (tUn uNeg (tC (.int 1))) rSetL)) tNext))))))))) (tSeq (tAsg (tOp (uIx K) (tLst (tCons (tC (.str (sOf [110]))) (tCons (tC (.str (sOf [111]))) tNil))) (tCan p_law_take E0 (tCons (uV 0) (tCons (tC (.int 2)) tNil)))) (gName 5)) (tSeq (tFor (iRng1 (tCons (tOp (uSub) (tCB (uLen K) (tCons (uV 3) tNil)) (tC (.int 1))) tNil)) (gName 4) (tSeq (tAsg (tBM0 K "list" uPop (uV 3)) (gName 9)) (tAsg (tTup (tCons (uV 5) (tCons (tTup (tCons (tOp (uIx K) (uV 3) (tUn uNeg (tC (.int 1)))) (tCons (uV 9) tNil))) tNil))) (gSub (uV 3) (tUn uNeg (tC (.int 1))) rSetL)))) (tRet (tOp (uIx K) (uV 3) (tC (.int 0))))))))
theorem d__law_raw {P : Program} {w : World} {K : PySem.W.Frag} {mg : Str → Option Value} {base : Heap} {f : Addr} {cdv : Value} {A : Around} {outer : List Env} {s0 : Shared} {H0 : Hp} {E : XK} {c : Ad} {p_law_take p_law_item : Sp} {k : Nat} (T : Txt K mg c) (hr : Room (k + 1) (X0 P w K mg base N__law_raw "_law_raw" s__law_raw f cdv A outer s0 H0 E).A) (h__law_take : Has P w K mg base CX0 k "_law_take" p_law_take) (h__law_item : Has P w K mg base CX0 k "_law_item" p_law_item) :
    PSs (X0 P w K mg base N__law_raw "_law_raw" s__law_raw f cdv A outer s0 H0 E) (defBody s__law_raw) (t__law_raw K c p_law_take p_law_item) := by
  have hu := hu201 hr
  have po : PassesOwn (model (X0 P w K mg base N__law_raw "_law_raw" s__law_raw f cdv A outer s0 H0 E).prog (X0 P w K mg base N__law_raw "_law_raw" s__law_raw f cdv A outer s0 H0 E).w) (X0 P w K mg base N__law_raw "_law_raw" s__law_raw f cdv A outer s0 H0 E).A (X0 P w K mg base N__law_raw "_law_raw" s__law_raw f cdv A outer s0 H0 E).env (X0 P w K mg base N__law_raw "_law_raw" s__law_raw f cdv A outer s0 H0 E).xe := PassesOwn.never
  exact (pss_cons (ps_set (i := 3) sc__law_raw.nd rfl (Or.inl rfl) (pe_lst pa_nil)) (pss_cons (ps_for po rfl (pi_range1 (by rfl) T.range (pa_cons (pe_op op_uAdd pe_int (pe_can (h__law_take.can hr) (pa_cons (pe_uv 0) (pa_cons (pe_uv 2) pa_nil)))) pa_nil)) (pg_name (i := 4) sc__law_raw.nd rfl (Or.inl rfl)) (pss_cons (ps_set (i := 6) sc__law_raw.nd rfl (Or.inl rfl) (pe_tup (pa_cons (pe_lit (l := [105]) (by decide +kernel)) (pa_cons (pe_can (h__law_item.can hr) (pa_cons (pe_uv 0) (pa_cons (pe_uv 1) pa_nil))) pa_nil)))) (pss_cons (ps_set (i := 7) sc__law_raw.nd rfl (Or.inl rfl) (pe_can (h__law_take.can hr) (pa_cons (pe_uv 0) (pa_cons pe_int pa_nil)))) (pss_cons (ps_if (pt_uc (op_uEq hu) (pe_uv 7) pe_int (nomark _)) (pss_one (ps_set (i := 6) sc__law_raw.nd rfl (Or.inl rfl) (pe_tup (pa_cons (pe_lit (l := [48]) (by decide +kernel)) pa_nil)))) pss_nil) (pss_cons (ps_if (pt_uc (op_uEq hu) (pe_uv 7) pe_int (nomark _)) (pss_one (ps_set (i := 6) sc__law_raw.nd rfl (Or.inl rfl) (pe_tup (pa_cons (pe_lit (l := [49]) (by decide +kernel)) pa_nil)))) pss_nil) (pss_cons (ps_expr (pe_app (pe_uv 3) (pa_cons (pe_uv 6) pa_nil))) (pss_cons (ps_set (i := 8) sc__law_raw.nd rfl (Or.inl rfl) (pe_can (h__law_take.can hr) (pa_cons (pe_uv 0) (pa_cons pe_int pa_nil)))) (pss_cons (ps_if (PW.pt (pw_and (pt_uc op_uGt (pe_uv 8) pe_int (nomark _)) (pw_and1 (pt_uc op_uGt (pe_callB cr_uLen (by rfl) T.len (by decide +kernel) (pa_cons (pe_uv 3) pa_nil)) pe_int (nomark _))))) (pss_cons (ps_set (i := 9) sc__law_raw.nd rfl (Or.inl rfl) (pe_pop (pe_uv 3))) (pss_one (ps_asg (pe_tup (pa_cons (pe_ix ix_u (pe_lst (pa_cons (pe_lit (l := [110]) (by decide +kernel)) (pa_cons (pe_lit (l := [111]) (by decide +kernel)) pa_nil))) (pe_op op_uSub (pe_op op_uFdiv (pe_uv 8) pe_int) pe_int) (fun _ _ => rfl)) (pa_cons (pe_tup (pa_cons (pe_ix ix_u (pe_uv 3) (pe_un un_uNeg pe_int) (fun _ _ => rfl)) (pa_cons (pe_uv 9) pa_nil))) pa_nil))) (pg_sub (pe_uv 3) (pe_un un_uNeg pe_int) set_list)))) pss_nil) (pss_one (ps_if (PW.pt (pw_or (pt_uc (op_uEq hu) (pe_uv 8) pe_int (nomark _)) (pw_or (pt_uc (op_uEq hu) (pe_uv 8) pe_int (nomark _)) (pw_or1 (pt_uc (op_uEq hu) (pe_uv 8) pe_int (nomark _)))))) (pss_one (ps_asg (pe_tup (pa_cons (pe_lit (l := [109]) (by decide +kernel)) (pa_cons (pe_ix ix_u (pe_uv 3) (pe_un un_uNeg pe_int) (fun _ _ => rfl)) pa_nil))) (pg_sub (pe_uv 3) (pe_un un_uNeg pe_int) set_list))) pss_nil)))))))))) (pss_cons (ps_set (i := 5) sc__law_raw.nd rfl (Or.inl rfl) (pe_ix ix_u (pe_lst (pa_cons (pe_lit (l := [110]) (by decide +kernel)) (pa_cons (pe_lit (l := [111]) (by decide +kernel)) pa_nil))) (pe_can (h__law_take.can hr) (pa_cons (pe_uv 0) (pa_cons pe_int pa_nil))) (fun _ _ => rfl))) (pss_cons (ps_for po rfl (pi_range1 (by rfl) T.range (pa_cons (pe_op op_uSub (pe_callB cr_uLen (by rfl) T.len (by decide +kernel) (pa_cons (pe_uv 3) pa_nil)) pe_int) pa_nil)) (pg_name (i := 4) sc__law_raw.nd rfl (Or.inl rfl)) (pss_cons (ps_set (i := 9) sc__law_raw.nd rfl (Or.inl rfl) (pe_pop (pe_uv 3))) (pss_one (ps_asg (pe_tup (pa_cons (pe_uv 5) (pa_cons (pe_tup (pa_cons (pe_ix ix_u (pe_uv 3) (pe_un un_uNeg pe_int) (fun _ _ => rfl)) (pa_cons (pe_uv 9) pa_nil))) pa_nil))) (pg_sub (pe_uv 3) (pe_un un_uNeg pe_int) set_list))))) (pss_one (ps_ret (pe_ix ix_u (pe_uv 3) pe_int (fun _ _ => rfl))))))))

abbrev s__law_then : Stmt := top 42
abbrev N__law_then : List Str := ["parts", "flat", "part"]
theorem sc__law_then : FnScope N__law_then ["parts"] (defScope s__law_then) := ⟨rfl, rfl, rfl, by decide +kernel, rfl, by decide +kernel, by decide +kernel⟩
def t__law_then (K : PySem.W.Frag) (c : Ad) : TS :=
  (tSeq (tAsg (tLst tNil) (gName 1)) (tSeq (tFor (iList K (uV 0)) (gName 2) (tIfS (uB (tOp (uEq K) (tOp (uIx K) (uV 2) (tC (.int 0))) (tC (.str (sOf [110]))))) (tAsg (tOp (uAdd K) (uV 1) (tCB (uList K) (tCons (tOp (uIx K) (uV 2) (tC (.int 1))) tNil))) (gName 1)) (tIfS (uB (tOp (uNe K) (tOp (uIx K) (uV 2) (tC (.int 0))) (tC (.str (sOf [49]))))) (tDrop (tBM K "list" uApp (uV 1) (tCons (uV 2) tNil))) tNext))) (tSeq (tIfS (uB (tOp (uIn K false) (tTup (tCons (tC (.str (sOf [48]))) tNil)) (uV 1))) (tRet (tTup (tCons (tC (.str (sOf [48]))) tNil))) tNext) (tSeq (tIfS (uB (tOp (uEq K) (tCB (uLen K) (tCons (uV 1) tNil)) (tC (.int 0)))) (tRet (tTup (tCons (tC (.str (sOf [49]))) tNil))) tNext) (tSeq (tIfS (uB (tOp (uEq K) (tCB (uLen K) (tCons (uV 1) tNil)) (tC (.int 1)))) (tRet (tOp (uIx K) (uV 1) (tC (.int 0)))) tNext) (tRet (tTup (tCons (tC (.str (sOf [110]))) (tCons (tCB (uTup K) (tCons (uV 1) tNil)) tNil)))))))))
theorem d__law_then {P : Program} {w : World} {K : PySem.W.Frag} {mg : Str → Option Value} {base : Heap} {f : Addr} {cdv : Value} {A : Around} {outer : List Env} {s0 : Shared} {H0 : Hp} {E : XK} {c : Ad} {k : Nat} (T : Txt K mg c) (hr : Room (k + 1) (X0 P w K mg base N__law_then "_law_then" s__law_then f cdv A outer s0 H0 E).A) :
    PSs (X0 P w K mg base N__law_then "_law_then" s__law_then f cdv A outer s0 H0 E) (defBody s__law_then) (t__law_then K c) := by
  have hu := hu201 hr
  have hu2 := hu202 hr
  have po : PassesOwn (model (X0 P w K mg base N__law_then "_law_then" s__law_then f cdv A outer s0 H0 E).prog (X0 P w K mg base N__law_then "_law_then" s__law_then f cdv A outer s0 H0 E).w) (X0 P w K mg base N__law_then "_law_then" s__law_then f cdv A outer s0 H0 E).A (X0 P w K mg base N__law_then "_law_then" s__law_then f cdv A outer s0 H0 E).env (X0 P w K mg base N__law_then "_law_then" s__law_then f cdv A outer s0 H0 E).xe := PassesOwn.never
  exact (pss_cons (ps_set (i := 1) sc__law_then.nd rfl (Or.inl rfl) (pe_lst pa_nil)) (pss_cons (ps_for po rfl (pi_list (pe_uv 0)) (pg_name (i := 2) sc__law_then.nd rfl (Or.inl rfl)) (pss_one (ps_if (pt_uc (op_uEq hu) (pe_ix ix_u (pe_uv 2) pe_int (fun _ _ => rfl)) (pe_lit (l := [110]) (by decide +kernel)) (nomark _)) (pss_one (ps_set (i := 1) sc__law_then.nd rfl (Or.inl rfl) (pe_op op_uAdd (pe_uv 1) (pe_callTy cr_uList (by rfl) T.list (by decide +kernel) (pa_cons (pe_ix ix_u (pe_uv 2) pe_int (fun _ _ => rfl)) pa_nil))))) (pss_one (ps_if (pt_uc (op_uNe hu) (pe_ix ix_u (pe_uv 2) pe_int (fun _ _ => rfl)) (pe_lit (l := [49]) (by decide +kernel)) (nomark _)) (pss_one (ps_expr (pe_app (pe_uv 1) (pa_cons (pe_uv 2) pa_nil)))) pss_nil))))) (pss_cons (ps_if (pt_uc (op_uIn hu2) (pe_tup (pa_cons (pe_lit (l := [48]) (by decide +kernel)) pa_nil)) (pe_uv 1) rfl) (pss_one (ps_ret (pe_tup (pa_cons (pe_lit (l := [48]) (by decide +kernel)) pa_nil)))) pss_nil) (pss_cons (ps_if (pt_uc (op_uEq hu) (pe_callB cr_uLen (by rfl) T.len (by decide +kernel) (pa_cons (pe_uv 1) pa_nil)) pe_int (nomark _)) (pss_one (ps_ret (pe_tup (pa_cons (pe_lit (l := [49]) (by decide +kernel)) pa_nil)))) pss_nil) (pss_cons (ps_if (pt_uc (op_uEq hu) (pe_callB cr_uLen (by rfl) T.len (by decide +kernel) (pa_cons (pe_uv 1) pa_nil)) pe_int (nomark _)) (pss_one (ps_ret (pe_ix ix_u (pe_uv 1) pe_int (fun _ _ => rfl)))) pss_nil) (pss_one (ps_ret (pe_tup (pa_cons (pe_lit (l := [110]) (by decide +kernel)) (pa_cons (pe_callTy cr_uTup (by rfl) T.tuple (by decide +kernel) (pa_cons (pe_uv 1) pa_nil)) pa_nil))))))))))

abbrev s__law_either : Stmt := top 43
abbrev N__law_either : List Str := ["parts", "flat", "part", "inner", "one"]
theorem sc__law_either : FnScope N__law_either ["parts"] (defScope s__law_either) := ⟨rfl, rfl, rfl, by decide +kernel, rfl, by decide +kernel, by decide +kernel⟩
def t__law_either (K : PySem.W.Frag) (c : Ad) : TS :=
  (tSeq (tAsg (tLst tNil) (gName 1)) (tSeq (tFor (iList K (uV 0)) (gName 2) (tSeq (tAsg (tLst (tCons (uV 2) tNil)) (gName 3)) (tSeq (tIfS (uB (tOp (uEq K) (tOp (uIx K) (uV 2) (tC (.int 0))) (tC (.str (sOf [111]))))) (tAsg (tCB (uList K) (tCons (tOp (uIx K) (uV 2) (tC (.int 1))) tNil)) (gName 3)) tNext) (tFor (iList K (uV 3)) (gName 4) (tIfS (tAnd (uB (tOp (uNe K) (uV 4) (tTup (tCons (tC (.str (sOf [48]))) tNil)))) (uB (tOp (uIn K true) (uV 4) (uV 1)))) (tDrop (tBM K "list" uApp (uV 1) (tCons (uV 4) tNil))) tNext))))) (tSeq (tIfS (uB (tOp (uEq K) (tCB (uLen K) (tCons (uV 1) tNil)) (tC (.int 0)))) (tRet (tTup (tCons (tC (.str (sOf [48]))) tNil))) tNext) (tSeq (tIfS (uB (tOp (uEq K) (tCB (uLen K) (tCons (uV 1) tNil)) (tC (.int 1)))) (tRet (tOp (uIx K) (uV 1) (tC (.int 0)))) tNext) (tRet (tTup (tCons (tC (.str (sOf [111]))) (tCons (tCB (uTup K) (tCons (uV 1) tNil)) tNil))))))))
theorem d__law_either {P : Program} {w : World} {K : PySem.W.Frag} {mg : Str → Option Value} {base : Heap} {f : Addr} {cdv : Value} {A : Around} {outer : List Env} {s0 : Shared} {H0 : Hp} {E : XK} {c : Ad} {k : Nat} (T : Txt K mg c) (hr : Room (k + 1) (X0 P w K mg base N__law_either "_law_either" s__law_either f cdv A outer s0 H0 E).A) :
    PSs (X0 P w K mg base N__law_either "_law_either" s__law_either f cdv A outer s0 H0 E) (defBody s__law_either) (t__law_either K c) := by
  have hu := hu201 hr
  have hu2 := hu202 hr
  have po : PassesOwn (model (X0 P w K mg base N__law_either "_law_either" s__law_either f cdv A outer s0 H0 E).prog (X0 P w K mg base N__law_either "_law_either" s__law_either f cdv A outer s0 H0 E).w) (X0 P w K mg base N__law_either "_law_either" s__law_either f cdv A outer s0 H0 E).A (X0 P w K mg base N__law_either "_law_either" s__law_either f cdv A outer s0 H0 E).env (X0 P w K mg base N__law_either "_law_either" s__law_either f cdv A outer s0 H0 E).xe := PassesOwn.never
  exact (pss_cons (ps_set (i := 1) sc__law_either.nd rfl (Or.inl rfl) (pe_lst pa_nil)) (pss_cons (ps_for po rfl (pi_list (pe_uv 0)) (pg_name (i := 2) sc__law_either.nd rfl (Or.inl rfl)) (pss_cons (ps_set (i := 3) sc__law_either.nd rfl (Or.inl rfl) (pe_lst (pa_cons (pe_uv 2) pa_nil))) (pss_cons (ps_if (pt_uc (op_uEq hu) (pe_ix ix_u (pe_uv 2) pe_int (fun _ _ => rfl)) (pe_lit (l := [111]) (by decide +kernel)) (nomark _)) (pss_one (ps_set (i := 3) sc__law_either.nd rfl (Or.inl rfl) (pe_callTy cr_uList (by rfl) T.list (by decide +kernel) (pa_cons (pe_ix ix_u (pe_uv 2) pe_int (fun _ _ => rfl)) pa_nil)))) pss_nil) (pss_one (ps_for po rfl (pi_list (pe_uv 3)) (pg_name (i := 4) sc__law_either.nd rfl (Or.inl rfl)) (pss_one (ps_if (PW.pt (pw_and (pt_uc (op_uNe hu) (pe_uv 4) (pe_tup (pa_cons (pe_lit (l := [48]) (by decide +kernel)) pa_nil)) (nomark _)) (pw_and1 (pt_uc (op_uNotIn hu2) (pe_uv 4) (pe_uv 1) rfl)))) (pss_one (ps_expr (pe_app (pe_uv 1) (pa_cons (pe_uv 4) pa_nil)))) pss_nil))))))) (pss_cons (ps_if (pt_uc (op_uEq hu) (pe_callB cr_uLen (by rfl) T.len (by decide +kernel) (pa_cons (pe_uv 1) pa_nil)) pe_int (nomark _)) (pss_one (ps_ret (pe_tup (pa_cons (pe_lit (l := [48]) (by decide +kernel)) pa_nil)))) pss_nil) (pss_cons (ps_if (pt_uc (op_uEq hu) (pe_callB cr_uLen (by rfl) T.len (by decide +kernel) (pa_cons (pe_uv 1) pa_nil)) pe_int (nomark _)) (pss_one (ps_ret (pe_ix ix_u (pe_uv 1) pe_int (fun _ _ => rfl)))) pss_nil) (pss_one (ps_ret (pe_tup (pa_cons (pe_lit (l := [111]) (by decide +kernel)) (pa_cons (pe_callTy cr_uTup (by rfl) T.tuple (by decide +kernel) (pa_cons (pe_uv 1) pa_nil)) pa_nil)))))))))

abbrev s__law_again : Stmt := top 44
abbrev N__law_again : List Str := ["body"]
theorem sc__law_again : FnScope N__law_again ["body"] (defScope s__law_again) := ⟨rfl, rfl, rfl, by decide +kernel, rfl, by decide +kernel, by decide +kernel⟩
def t__law_again (K : PySem.W.Frag) (c : Ad) : TS :=
  (tSeq (tIfS (tOr (uB (tOp (uEq K) (tOp (uIx K) (uV 0) (tC (.int 0))) (tC (.str (sOf [48]))))) (uB (tOp (uEq K) (tOp (uIx K) (uV 0) (tC (.int 0))) (tC (.str (sOf [49])))))) (tRet (tTup (tCons (tC (.str (sOf [49]))) tNil))) tNext) (tSeq (tIfS (uB (tOp (uEq K) (tOp (uIx K) (uV 0) (tC (.int 0))) (tC (.str (sOf [109]))))) (tRet (uV 0)) tNext) (tRet (tTup (tCons (tC (.str (sOf [109]))) (tCons (uV 0) tNil))))))
theorem d__law_again {P : Program} {w : World} {K : PySem.W.Frag} {mg : Str → Option Value} {base : Heap} {f : Addr} {cdv : Value} {A : Around} {outer : List Env} {s0 : Shared} {H0 : Hp} {E : XK} {c : Ad} {k : Nat} (T : Txt K mg c) (hr : Room (k + 1) (X0 P w K mg base N__law_again "_law_again" s__law_again f cdv A outer s0 H0 E).A) :
    PSs (X0 P w K mg base N__law_again "_law_again" s__law_again f cdv A outer s0 H0 E) (defBody s__law_again) (t__law_again K c) := by
  have hu := hu201 hr
  exact (pss_cons (ps_if (PW.pt (pw_or (pt_uc (op_uEq hu) (pe_ix ix_u (pe_uv 0) pe_int (fun _ _ => rfl)) (pe_lit (l := [48]) (by decide +kernel)) (nomark _)) (pw_or1 (pt_uc (op_uEq hu) (pe_ix ix_u (pe_uv 0) pe_int (fun _ _ => rfl)) (pe_lit (l := [49]) (by decide +kernel)) (nomark _))))) (pss_one (ps_ret (pe_tup (pa_cons (pe_lit (l := [49]) (by decide +kernel)) pa_nil)))) pss_nil) (pss_cons (ps_if (pt_uc (op_uEq hu) (pe_ix ix_u (pe_uv 0) pe_int (fun _ _ => rfl)) (pe_lit (l := [109]) (by decide +kernel)) (nomark _)) (pss_one (ps_ret (pe_uv 0))) pss_nil) (pss_one (ps_ret (pe_tup (pa_cons (pe_lit (l := [109]) (by decide +kernel)) (pa_cons (pe_uv 0) pa_nil)))))))

abbrev s__law_text : Stmt := top 45
abbrev N__law_text : List Str := ["tree", "texts", "part", "inner"]
theorem sc__law_text : FnScope N__law_text ["tree"] (defScope s__law_text) := ⟨rfl, rfl, rfl, by decide +kernel, rfl, by decide +kernel, by decide +kernel⟩
def t__law_text (K : PySem.W.Frag) (c : Ad) (p_law_text : Sp) : TS :=
  (tSeq (tIfS (uB (tOp (uEq K) (tCB (uLen K) (tCons (uV 0) tNil)) (tC (.int 1)))) (tRet (tOp (uIx K) (uV 0) (tC (.int 0)))) tNext) (tSeq (tIfS (uB (tOp (uEq K) (tOp (uIx K) (uV 0) (tC (.int 0))) (tC (.str (sOf [105]))))) (tRet (tOp (uIx K) (uV 0) (tC (.int 1)))) tNext) (tSeq (tIfS (uB (tOp (uEq K) (tOp (uIx K) (uV 0) (tC (.int 0))) (tC (.str (sOf [109]))))) (tSeq (tAsg (tCan p_law_text E0 (tCons (tOp (uIx K) (uV 0) (tC (.int 1))) tNil)) (gName 3)) (tSeq (tIfS (tOr (uB (tOp (uEq K) (tOp (uIx K) (tOp (uIx K) (uV 0) (tC (.int 1))) (tC (.int 0))) (tC (.str (sOf [110]))))) (uB (tOp (uEq K) (tOp (uIx K) (tOp (uIx K) (uV 0) (tC (.int 1))) (tC (.int 0))) (tC (.str (sOf [111])))))) (tAsg (tOp (uAdd K) (tOp (uAdd K) (tC (.str (sOf [40]))) (uV 3)) (tC (.str (sOf [41])))) (gName 3)) tNext) (tRet (tOp (uAdd K) (uV 3) (tC (.str (sOf [42]))))))) tNext) (tSeq (tAsg (tLst tNil) (gName 1)) (tSeq (tFor (iTup K (tOp (uIx K) (uV 0) (tC (.int 1)))) (gName 2) (tSeq (tAsg (tCan p_law_text E0 (tCons (uV 2) tNil)) (gName 3)) (tSeq (tIfS (tAnd (uB (tOp (uEq K) (tOp (uIx K) (uV 0) (tC (.int 0))) (tC (.str (sOf [110]))))) (uB (tOp (uEq K) (tOp (uIx K) (uV 2) (tC (.int 0))) (tC (.str (sOf [111])))))) (tAsg (tOp (uAdd K) (tOp (uAdd K) (tC (.str (sOf [40]))) (uV 3)) (tC (.str (sOf [41])))) (gName 3)) tNext) (tDrop (tBM K "list" uApp (uV 1) (tCons (uV 3) tNil)))))) (tSeq (tIfS (uB (tOp (uEq K) (tOp (uIx K) (uV 0) (tC (.int 0))) (tC (.str (sOf [110]))))) (tRet (uJoin K (tC (.str (sOf [32]))) (uV 1))) tNext) (tRet (uJoin K (tC (.str (sOf [32, 124, 32]))) (uV 1)))))))))
theorem d__law_text {P : Program} {w : World} {K : PySem.W.Frag} {mg : Str → Option Value} {base : Heap} {f : Addr} {cdv : Value} {A : Around} {outer : List Env} {s0 : Shared} {H0 : Hp} {E : XK} {c : Ad} {p_law_text : Sp} {k : Nat} (T : Txt K mg c) (hr : Room (k + 1) (X0 P w K mg base N__law_text "_law_text" s__law_text f cdv A outer s0 H0 E).A) (h__law_text : Has P w K mg base CX0 k "_law_text" p_law_text) :
    PSs (X0 P w K mg base N__law_text "_law_text" s__law_text f cdv A outer s0 H0 E) (defBody s__law_text) (t__law_text K c p_law_text) := by
  have hu := hu201 hr
  have po : PassesOwn (model (X0 P w K mg base N__law_text "_law_text" s__law_text f cdv A outer s0 H0 E).prog (X0 P w K mg base N__law_text "_law_text" s__law_text f cdv A outer s0 H0 E).w) (X0 P w K mg base N__law_text "_law_text" s__law_text f cdv A outer s0 H0 E).A (X0 P w K mg base N__law_text "_law_text" s__law_text f cdv A outer s0 H0 E).env (X0 P w K mg base N__law_text "_law_text" s__law_text f cdv A outer s0 H0 E).xe := PassesOwn.never
  exact (pss_cons (ps_if (pt_uc (op_uEq hu) (pe_callB cr_uLen (by rfl) T.len (by decide +kernel) (pa_cons (pe_uv 0) pa_nil)) pe_int (nomark _)) (pss_one (ps_ret (pe_ix ix_u (pe_uv 0) pe_int (fun _ _ => rfl)))) pss_nil) (pss_cons (ps_if (pt_uc (op_uEq hu) (pe_ix ix_u (pe_uv 0) pe_int (fun _ _ => rfl)) (pe_lit (l := [105]) (by decide +kernel)) (nomark _)) (pss_one (ps_ret (pe_ix ix_u (pe_uv 0) pe_int (fun _ _ => rfl)))) pss_nil) (pss_cons (ps_if (pt_uc (op_uEq hu) (pe_ix ix_u (pe_uv 0) pe_int (fun _ _ => rfl)) (pe_lit (l := [109]) (by decide +kernel)) (nomark _)) (pss_cons (ps_set (i := 3) sc__law_text.nd rfl (Or.inl rfl) (pe_can (h__law_text.can hr) (pa_cons (pe_ix ix_u (pe_uv 0) pe_int (fun _ _ => rfl)) pa_nil))) (pss_cons (ps_if (PW.pt (pw_or (pt_uc (op_uEq hu) (pe_ix ix_u (pe_ix ix_u (pe_uv 0) pe_int (fun _ _ => rfl)) pe_int (fun _ _ => rfl)) (pe_lit (l := [110]) (by decide +kernel)) (nomark _)) (pw_or1 (pt_uc (op_uEq hu) (pe_ix ix_u (pe_ix ix_u (pe_uv 0) pe_int (fun _ _ => rfl)) pe_int (fun _ _ => rfl)) (pe_lit (l := [111]) (by decide +kernel)) (nomark _))))) (pss_one (ps_set (i := 3) sc__law_text.nd rfl (Or.inl rfl) (pe_op op_uAdd (pe_op op_uAdd (pe_lit (l := [40]) (by decide +kernel)) (pe_uv 3)) (pe_lit (l := [41]) (by decide +kernel))))) pss_nil) (pss_one (ps_ret (pe_op op_uAdd (pe_uv 3) (pe_lit (l := [42]) (by decide +kernel))))))) pss_nil) (pss_cons (ps_set (i := 1) sc__law_text.nd rfl (Or.inl rfl) (pe_lst pa_nil)) (pss_cons (ps_for po rfl (pi_tup (pe_ix ix_u (pe_uv 0) pe_int (fun _ _ => rfl))) (pg_name (i := 2) sc__law_text.nd rfl (Or.inl rfl)) (pss_cons (ps_set (i := 3) sc__law_text.nd rfl (Or.inl rfl) (pe_can (h__law_text.can hr) (pa_cons (pe_uv 2) pa_nil))) (pss_cons (ps_if (PW.pt (pw_and (pt_uc (op_uEq hu) (pe_ix ix_u (pe_uv 0) pe_int (fun _ _ => rfl)) (pe_lit (l := [110]) (by decide +kernel)) (nomark _)) (pw_and1 (pt_uc (op_uEq hu) (pe_ix ix_u (pe_uv 2) pe_int (fun _ _ => rfl)) (pe_lit (l := [111]) (by decide +kernel)) (nomark _))))) (pss_one (ps_set (i := 3) sc__law_text.nd rfl (Or.inl rfl) (pe_op op_uAdd (pe_op op_uAdd (pe_lit (l := [40]) (by decide +kernel)) (pe_uv 3)) (pe_lit (l := [41]) (by decide +kernel))))) pss_nil) (pss_one (ps_expr (pe_app (pe_uv 1) (pa_cons (pe_uv 3) pa_nil))))))) (pss_cons (ps_if (pt_uc (op_uEq hu) (pe_ix ix_u (pe_uv 0) pe_int (fun _ _ => rfl)) (pe_lit (l := [110]) (by decide +kernel)) (nomark _)) (pss_one (ps_ret (pe_join (pe_lit (l := [32]) (by decide +kernel)) (pe_uv 1)))) pss_nil) (pss_one (ps_ret (pe_join (pe_lit (l := [32, 124, 32]) (by decide +kernel)) (pe_uv 1))))))))))

abbrev s__law_depth : Stmt := top 46
abbrev N__law_depth : List Str := ["tree", "part"]
theorem sc__law_depth : FnScope N__law_depth ["tree"] (defScope s__law_depth) := ⟨rfl, rfl, rfl, by decide +kernel, rfl, by decide +kernel, by decide +kernel⟩
def t__law_depth (K : PySem.W.Frag) (c : Ad) (p_law_depth : Sp) : TS :=
  (tSeq (tIfS (tOr (uB (tOp (uEq K) (tCB (uLen K) (tCons (uV 0) tNil)) (tC (.int 1)))) (uB (tOp (uEq K) (tOp (uIx K) (uV 0) (tC (.int 0))) (tC (.str (sOf [105])))))) (tRet (tC (.int 1))) tNext) (tSeq (tIfS (uB (tOp (uEq K) (tOp (uIx K) (uV 0) (tC (.int 0))) (tC (.str (sOf [109]))))) (tRet (tOp (uAdd K) (tC (.int 1)) (tCan p_law_depth E0 (tCons (tOp (uIx K) (uV 0) (tC (.int 1))) tNil)))) tNext) (tRet (tOp (uAdd K) (tC (.int 1)) (tCB (rMax K) (tCons (tLc (iTup K (tOp (uIx K) (uV 0) (tC (.int 1)))) (gName 1) tYes (tCan p_law_depth E0 (tCons (uV 1) tNil)) [1]) tNil))))))
theorem d__law_depth {P : Program} {w : World} {K : PySem.W.Frag} {mg : Str → Option Value} {base : Heap} {f : Addr} {cdv : Value} {A : Around} {outer : List Env} {s0 : Shared} {H0 : Hp} {E : XK} {c : Ad} {p_law_depth : Sp} {k : Nat} (T : Txt K mg c) (hr : Room (k + 1) (X0 P w K mg base N__law_depth "_law_depth" s__law_depth f cdv A outer s0 H0 E).A) (h__law_depth : Has P w K mg base CX0 k "_law_depth" p_law_depth) :
    PSs (X0 P w K mg base N__law_depth "_law_depth" s__law_depth f cdv A outer s0 H0 E) (defBody s__law_depth) (t__law_depth K c p_law_depth) := by
  have hu := hu201 hr
  exact (pss_cons (ps_if (PW.pt (pw_or (pt_uc (op_uEq hu) (pe_callB cr_uLen (by rfl) T.len (by decide +kernel) (pa_cons (pe_uv 0) pa_nil)) pe_int (nomark _)) (pw_or1 (pt_uc (op_uEq hu) (pe_ix ix_u (pe_uv 0) pe_int (fun _ _ => rfl)) (pe_lit (l := [105]) (by decide +kernel)) (nomark _))))) (pss_one (ps_ret pe_int)) pss_nil) (pss_cons (ps_if (pt_uc (op_uEq hu) (pe_ix ix_u (pe_uv 0) pe_int (fun _ _ => rfl)) (pe_lit (l := [109]) (by decide +kernel)) (nomark _)) (pss_one (ps_ret (pe_op op_uAdd pe_int (pe_can (h__law_depth.can hr) (pa_cons (pe_ix ix_u (pe_uv 0) pe_int (fun _ _ => rfl)) pa_nil))))) pss_nil) (pss_one (ps_ret (pe_op op_uAdd pe_int (pe_callB (cr_max rfl) (by rfl) T.max (by decide +kernel) (pa_cons (pe_lc (own := [("part", 1)]) (g := gName 1) (tt := tYes) rfl sc__law_depth.nd (pi_tup (pe_ix ix_u (pe_uv 0) pe_int (fun _ _ => rfl))) (blkOk_by (own := [("part", 1)]) (N := N__law_depth) (sc := defScope s__law_depth) (by decide +kernel)) (fun _ _ _ _ _ => pg_name (i := 1) sc__law_depth.nd rfl (Or.inl rfl)) (fun _ _ _ _ _ => pts_nil) (fun _ _ _ _ _ => (pe_can (h__law_depth.can hr) (pa_cons (pe_uv 1) pa_nil)))) pa_nil)))))))

abbrev s__law_signs : Stmt := top 47
abbrev N__law_signs : List Str := ["raw", "state", "signs", "part", "inner"]
theorem sc__law_signs : FnScope N__law_signs ["raw", "state"] (defScope s__law_signs) := ⟨rfl, rfl, rfl, by decide +kernel, rfl, by decide +kernel, by decide +kernel⟩
def t__law_signs (K : PySem.W.Frag) (c : Ad) (p_law_signs p_law_take : Sp) : TS :=
  (tSeq (tAsg (tLst (tCons (tOp (uIx K) (uV 0) (tUn uNeg (tC (.int 1)))) tNil)) (gName 2)) (tSeq (tIfS (uB (tOp (uEq K) (tOp (uIx K) (uV 0) (tC (.int 0))) (tC (.str (sOf [109]))))) (tSeq (tAsg (tCan p_law_signs E0 (tCons (tOp (uIx K) (uV 0) (tC (.int 1))) (tCons (uV 1) tNil))) (gName 2)) (tSeq (tIfS (uB (tOp (uGt) (tCB (uLen K) (tCons (uV 2) tNil)) (tC (.int 1)))) (tAsg (tOp (uAdd K) (tOp (uAdd K) (tLst (tCons (tC (.str (sOf [40]))) tNil)) (uV 2)) (tLst (tCons (tC (.str (sOf [41]))) tNil))) (gName 2)) tNext) (tAsg (tOp (uAdd K) (uV 2) (tLst (tCons (tC (.str (sOf [42]))) tNil))) (gName 2)))) tNext) (tSeq (tIfS (tOr (uB (tOp (uEq K) (tOp (uIx K) (uV 0) (tC (.int 0))) (tC (.str (sOf [110]))))) (uB (tOp (uEq K) (tOp (uIx K) (uV 0) (tC (.int 0))) (tC (.str (sOf [111])))))) (tSeq (tAsg (tLst tNil) (gName 2)) (tFor (iTup K (tOp (uIx K) (uV 0) (tC (.int 1)))) (gName 3) (tSeq (tAsg (tCan p_law_signs E0 (tCons (uV 3) (tCons (uV 1) tNil))) (gName 4)) (tSeq (tIfS (tAnd (uB (tOp (uEq K) (tOp (uIx K) (uV 0) (tC (.int 0))) (tC (.str (sOf [110]))))) (uB (tOp (uEq K) (tOp (uIx K) (uV 3) (tC (.int 0))) (tC (.str (sOf [111])))))) (tAsg (tOp (uAdd K) (tOp (uAdd K) (tLst (tCons (tC (.str (sOf [40]))) tNil)) (uV 4)) (tLst (tCons (tC (.str (sOf [41]))) tNil))) (gName 4)) tNext) (tSeq (tIfS (tAnd (uB (tOp (uEq K) (tOp (uIx K) (uV 0) (tC (.int 0))) (tC (.str (sOf [111]))))) (uB (tOp (uGt) (tCB (uLen K) (tCons (uV 2) tNil)) (tC (.int 0))))) (tAsg (tOp (uAdd K) (uV 2) (tLst (tCons (tC (.str (sOf [124]))) tNil))) (gName 2)) tNext) (tAsg (tOp (uAdd K) (uV 2) (uV 4)) (gName 2))))))) tNext) (tSeq (tIfS (uB (tOp (uEq K) (tCan p_law_take E0 (tCons (uV 1) (tCons (tC (.int 4)) tNil))) (tC (.int 1)))) (tAsg (tOp (uAdd K) (tOp (uAdd K) (tLst (tCons (tC (.str (sOf [40]))) tNil)) (uV 2)) (tLst (tCons (tC (.str (sOf [41]))) tNil))) (gName 2)) tNext) (tRet (uV 2))))))
theorem d__law_signs {P : Program} {w : World} {K : PySem.W.Frag} {mg : Str → Option Value} {base : Heap} {f : Addr} {cdv : Value} {A : Around} {outer : List Env} {s0 : Shared} {H0 : Hp} {E : XK} {c : Ad} {p_law_signs p_law_take : Sp} {k : Nat} (T : Txt K mg c) (hr : Room (k + 1) (X0 P w K mg base N__law_signs "_law_signs" s__law_signs f cdv A outer s0 H0 E).A) (h__law_signs : Has P w K mg base CX0 k "_law_signs" p_law_signs) (h__law_take : Has P w K mg base CX0 k "_law_take" p_law_take) :
    PSs (X0 P w K mg base N__law_signs "_law_signs" s__law_signs f cdv A outer s0 H0 E) (defBody s__law_signs) (t__law_signs K c p_law_signs p_law_take) := by
  have hu := hu201 hr
  have po : PassesOwn (model (X0 P w K mg base N__law_signs "_law_signs" s__law_signs f cdv A outer s0 H0 E).prog (X0 P w K mg base N__law_signs "_law_signs" s__law_signs f cdv A outer s0 H0 E).w) (X0 P w K mg base N__law_signs "_law_signs" s__law_signs f cdv A outer s0 H0 E).A (X0 P w K mg base N__law_signs "_law_signs" s__law_signs f cdv A outer s0 H0 E).env (X0 P w K mg base N__law_signs "_law_signs" s__law_signs f cdv A outer s0 H0 E).xe := PassesOwn.never
  exact (pss_cons (ps_set (i := 2) sc__law_signs.nd rfl (Or.inl rfl) (pe_lst (pa_cons (pe_ix ix_u (pe_uv 0) (pe_un un_uNeg pe_int) (fun _ _ => rfl)) pa_nil))) (pss_cons (ps_if (pt_uc (op_uEq hu) (pe_ix ix_u (pe_uv 0) pe_int (fun _ _ => rfl)) (pe_lit (l := [109]) (by decide +kernel)) (nomark _)) (pss_cons (ps_set (i := 2) sc__law_signs.nd rfl (Or.inl rfl) (pe_can (h__law_signs.can hr) (pa_cons (pe_ix ix_u (pe_uv 0) pe_int (fun _ _ => rfl)) (pa_cons (pe_uv 1) pa_nil)))) (pss_cons (ps_if (pt_uc op_uGt (pe_callB cr_uLen (by rfl) T.len (by decide +kernel) (pa_cons (pe_uv 2) pa_nil)) pe_int (nomark _)) (pss_one (ps_set (i := 2) sc__law_signs.nd rfl (Or.inl rfl) (pe_op op_uAdd (pe_op op_uAdd (pe_lst (pa_cons (pe_lit (l := [40]) (by decide +kernel)) pa_nil)) (pe_uv 2)) (pe_lst (pa_cons (pe_lit (l := [41]) (by decide +kernel)) pa_nil))))) pss_nil) (pss_one (ps_set (i := 2) sc__law_signs.nd rfl (Or.inl rfl) (pe_op op_uAdd (pe_uv 2) (pe_lst (pa_cons (pe_lit (l := [42]) (by decide +kernel)) pa_nil))))))) pss_nil) (pss_cons (ps_if (PW.pt (pw_or (pt_uc (op_uEq hu) (pe_ix ix_u (pe_uv 0) pe_int (fun _ _ => rfl)) (pe_lit (l := [110]) (by decide +kernel)) (nomark _)) (pw_or1 (pt_uc (op_uEq hu) (pe_ix ix_u (pe_uv 0) pe_int (fun _ _ => rfl)) (pe_lit (l := [111]) (by decide +kernel)) (nomark _))))) (pss_cons (ps_set (i := 2) sc__law_signs.nd rfl (Or.inl rfl) (pe_lst pa_nil)) (pss_one (ps_for po rfl (pi_tup (pe_ix ix_u (pe_uv 0) pe_int (fun _ _ => rfl))) (pg_name (i := 3) sc__law_signs.nd rfl (Or.inl rfl)) (pss_cons (ps_set (i := 4) sc__law_signs.nd rfl (Or.inl rfl) (pe_can (h__law_signs.can hr) (pa_cons (pe_uv 3) (pa_cons (pe_uv 1) pa_nil)))) (pss_cons (ps_if (PW.pt (pw_and (pt_uc (op_uEq hu) (pe_ix ix_u (pe_uv 0) pe_int (fun _ _ => rfl)) (pe_lit (l := [110]) (by decide +kernel)) (nomark _)) (pw_and1 (pt_uc (op_uEq hu) (pe_ix ix_u (pe_uv 3) pe_int (fun _ _ => rfl)) (pe_lit (l := [111]) (by decide +kernel)) (nomark _))))) (pss_one (ps_set (i := 4) sc__law_signs.nd rfl (Or.inl rfl) (pe_op op_uAdd (pe_op op_uAdd (pe_lst (pa_cons (pe_lit (l := [40]) (by decide +kernel)) pa_nil)) (pe_uv 4)) (pe_lst (pa_cons (pe_lit (l := [41]) (by decide +kernel)) pa_nil))))) pss_nil) (pss_cons (ps_if (PW.pt (pw_and (pt_uc (op_uEq hu) (pe_ix ix_u (pe_uv 0) pe_int (fun _ _ => rfl)) (pe_lit (l := [111]) (by decide +kernel)) (nomark _)) (pw_and1 (pt_uc op_uGt (pe_callB cr_uLen (by rfl) T.len (by decide +kernel) (pa_cons (pe_uv 2) pa_nil)) pe_int (nomark _))))) (pss_one (ps_set (i := 2) sc__law_signs.nd rfl (Or.inl rfl) (pe_op op_uAdd (pe_uv 2) (pe_lst (pa_cons (pe_lit (l := [124]) (by decide +kernel)) pa_nil))))) pss_nil) (pss_one (ps_set (i := 2) sc__law_signs.nd rfl (Or.inl rfl) (pe_op op_uAdd (pe_uv 2) (pe_uv 4)))))))))) pss_nil) (pss_cons (ps_if (pt_uc (op_uEq hu) (pe_can (h__law_take.can hr) (pa_cons (pe_uv 1) (pa_cons pe_int pa_nil))) pe_int (nomark _)) (pss_one (ps_set (i := 2) sc__law_signs.nd rfl (Or.inl rfl) (pe_op op_uAdd (pe_op op_uAdd (pe_lst (pa_cons (pe_lit (l := [40]) (by decide +kernel)) pa_nil)) (pe_uv 2)) (pe_lst (pa_cons (pe_lit (l := [41]) (by decide +kernel)) pa_nil))))) pss_nil) (pss_one (ps_ret (pe_uv 2)))))))

abbrev s__law_spaced : Stmt := top 48
abbrev N__law_spaced : List Str := ["signs", "state", "text", "sign"]
theorem sc__law_spaced : FnScope N__law_spaced ["signs", "state"] (defScope s__law_spaced) := ⟨rfl, rfl, rfl, by decide +kernel, rfl, by decide +kernel, by decide +kernel⟩
def t__law_spaced (K : PySem.W.Frag) (c : Ad) (p_law_take : Sp) : TS :=
  (tSeq (tAsg (tOp (uMul) (tC (.str (sOf [32]))) (tCan p_law_take E0 (tCons (uV 1) (tCons (tC (.int 2)) tNil)))) (gName 2)) (tSeq (tFor (iList K (uV 0)) (gName 3) (tAsg (tOp (uAdd K) (tOp (uAdd K) (uV 2) (uV 3)) (tOp (uMul) (tC (.str (sOf [32]))) (tCan p_law_take E0 (tCons (uV 1) (tCons (tC (.int 3)) tNil))))) (gName 2))) (tRet (uV 2))))
theorem d__law_spaced {P : Program} {w : World} {K : PySem.W.Frag} {mg : Str → Option Value} {base : Heap} {f : Addr} {cdv : Value} {A : Around} {outer : List Env} {s0 : Shared} {H0 : Hp} {E : XK} {c : Ad} {p_law_take : Sp} {k : Nat} (T : Txt K mg c) (hr : Room (k + 1) (X0 P w K mg base N__law_spaced "_law_spaced" s__law_spaced f cdv A outer s0 H0 E).A) (h__law_take : Has P w K mg base CX0 k "_law_take" p_law_take) :
    PSs (X0 P w K mg base N__law_spaced "_law_spaced" s__law_spaced f cdv A outer s0 H0 E) (defBody s__law_spaced) (t__law_spaced K c p_law_take) := by
  have po : PassesOwn (model (X0 P w K mg base N__law_spaced "_law_spaced" s__law_spaced f cdv A outer s0 H0 E).prog (X0 P w K mg base N__law_spaced "_law_spaced" s__law_spaced f cdv A outer s0 H0 E).w) (X0 P w K mg base N__law_spaced "_law_spaced" s__law_spaced f cdv A outer s0 H0 E).A (X0 P w K mg base N__law_spaced "_law_spaced" s__law_spaced f cdv A outer s0 H0 E).env (X0 P w K mg base N__law_spaced "_law_spaced" s__law_spaced f cdv A outer s0 H0 E).xe := PassesOwn.never
  exact (pss_cons (ps_set (i := 2) sc__law_spaced.nd rfl (Or.inl rfl) (pe_op op_uMul (pe_lit (l := [32]) (by decide +kernel)) (pe_can (h__law_take.can hr) (pa_cons (pe_uv 1) (pa_cons pe_int pa_nil))))) (pss_cons (ps_for po rfl (pi_list (pe_uv 0)) (pg_name (i := 3) sc__law_spaced.nd rfl (Or.inl rfl)) (pss_one (ps_set (i := 2) sc__law_spaced.nd rfl (Or.inl rfl) (pe_op op_uAdd (pe_op op_uAdd (pe_uv 2) (pe_uv 3)) (pe_op op_uMul (pe_lit (l := [32]) (by decide +kernel)) (pe_can (h__law_take.can hr) (pa_cons (pe_uv 1) (pa_cons pe_int pa_nil)))))))) (pss_one (ps_ret (pe_uv 2)))))

abbrev s__law_asked : Stmt := top 51
abbrev N__law_asked : List Str := ["text", "deep", "read", "due", "told"]
theorem sc__law_asked : FnScope N__law_asked ["text", "deep"] (defScope s__law_asked) := ⟨rfl, rfl, rfl, by decide +kernel, rfl, by decide +kernel, by decide +kernel⟩
def t__law_asked (K : PySem.W.Frag) (c : Ad) (p_law_read p_law_text p_law_told : Sp) : TS :=
  (tSeq (tAsg (tCan p_law_read E0 (tCons (uV 0) tNil)) (gName 2)) (tSeq (tAsg (tTup (tCons (tC (.str (sOf [109, 97, 100, 101]))) (tCons (tCan p_law_text E0 (tCons (tOp (uIx K) (uV 2) (tC (.int 1))) tNil)) tNil))) (gName 3)) (tSeq (tIfS (uB (tOp (uGe) (tOp (uIx K) (uV 2) (tC (.int 0))) (tC (.int 0)))) (tAsg (tTup (tCons (tC (.str (sOf [98, 97, 100]))) (tCons (tOp (uIx K) (uV 2) (tC (.int 0))) tNil))) (gName 3)) (tIfS (uB (tOp (uGt) (tOp (uIx K) (uV 2) (tC (.int 2))) (tC (.int 2000)))) (tAsg (tTup (tCons (tC (.str (sOf [108, 111, 110, 103]))) (tCons (tOp (uIx K) (uV 2) (tC (.int 2))) tNil))) (gName 3)) (tIfS (uB (uV 1)) (tAsg (tTup (tCons (tC (.str (sOf [100, 101, 101, 112]))) (tCons (tC (.int 41)) tNil))) (gName 3)) tNext))) (tSeq (tAsg (tCan p_law_told E0 (tCons (uV 0) tNil)) (gName 4)) (tRet (uAndV (tOp (uEq K) (uV 4) (uV 3)) (uNotV (tCB (uIsi K) (tCons (tOp (uIx K) (uV 4) (tC (.int 1))) (tCons (tC (.ty "bool")) tNil))))))))))
theorem d__law_asked {P : Program} {w : World} {K : PySem.W.Frag} {mg : Str → Option Value} {base : Heap} {f : Addr} {cdv : Value} {A : Around} {outer : List Env} {s0 : Shared} {H0 : Hp} {E : XK} {c : Ad} {p_law_read p_law_text p_law_told : Sp} {k : Nat} (T : Txt K mg c) (hr : Room (k + 1) (X0 P w K mg base N__law_asked "_law_asked" s__law_asked f cdv A outer s0 H0 E).A) (h__law_read : Has P w K mg base CX0 k "_law_read" p_law_read) (h__law_text : Has P w K mg base CX0 k "_law_text" p_law_text) (h__law_told : Has P w K mg base CX0 k "_law_told" p_law_told) :
    PSs (X0 P w K mg base N__law_asked "_law_asked" s__law_asked f cdv A outer s0 H0 E) (defBody s__law_asked) (t__law_asked K c p_law_read p_law_text p_law_told) := by
  have hu := hu201 hr
  exact (pss_cons (ps_set (i := 2) sc__law_asked.nd rfl (Or.inl rfl) (pe_can (h__law_read.can hr) (pa_cons (pe_uv 0) pa_nil))) (pss_cons (ps_set (i := 3) sc__law_asked.nd rfl (Or.inl rfl) (pe_tup (pa_cons (pe_lit (l := [109, 97, 100, 101]) (by decide +kernel)) (pa_cons (pe_can (h__law_text.can hr) (pa_cons (pe_ix ix_u (pe_uv 2) pe_int (fun _ _ => rfl)) pa_nil)) pa_nil)))) (pss_cons (ps_if (pt_uc op_uGe (pe_ix ix_u (pe_uv 2) pe_int (fun _ _ => rfl)) pe_int (nomark _)) (pss_one (ps_set (i := 3) sc__law_asked.nd rfl (Or.inl rfl) (pe_tup (pa_cons (pe_lit (l := [98, 97, 100]) (by decide +kernel)) (pa_cons (pe_ix ix_u (pe_uv 2) pe_int (fun _ _ => rfl)) pa_nil))))) (pss_one (ps_if (pt_uc op_uGt (pe_ix ix_u (pe_uv 2) pe_int (fun _ _ => rfl)) pe_int (nomark _)) (pss_one (ps_set (i := 3) sc__law_asked.nd rfl (Or.inl rfl) (pe_tup (pa_cons (pe_lit (l := [108, 111, 110, 103]) (by decide +kernel)) (pa_cons (pe_ix ix_u (pe_uv 2) pe_int (fun _ _ => rfl)) pa_nil))))) (pss_one (ps_if (pt_u (pe_uv 1)) (pss_one (ps_set (i := 3) sc__law_asked.nd rfl (Or.inl rfl) (pe_tup (pa_cons (pe_lit (l := [100, 101, 101, 112]) (by decide +kernel)) (pa_cons pe_int pa_nil))))) pss_nil))))) (pss_cons (ps_set (i := 4) sc__law_asked.nd rfl (Or.inl rfl) (pe_can (h__law_told.can hr) (pa_cons (pe_uv 0) pa_nil))) (pss_one (ps_ret (pe_andU (pe_cmpR (op_uEq hu) (pe_uv 4) (pe_uv 3) (nomark _)) (pe_one (pe_notU (pe_callB cr_uIsi (by rfl) T.isinstance (by decide +kernel) (pa_cons (pe_ix ix_u (pe_uv 4) pe_int (fun _ _ => rfl)) (pa_cons (pe_bltn rfl T.bool (by decide +kernel) rfl) pa_nil))))))))))))

abbrev s__law_bent : Stmt := top 52
abbrev N__law_bent : List Str := ["state", "text", "few", "odd", "k", "act", "at", "sign"]
theorem sc__law_bent : FnScope N__law_bent ["state", "text", "few"] (defScope s__law_bent) := ⟨rfl, rfl, rfl, by decide +kernel, rfl, by decide +kernel, by decide +kernel⟩
def t__law_bent (K : PySem.W.Frag) (c : Ad) (p_law_take : Sp) : TS :=
  (tSeq (tAsg (tOp (uAdd K) (tC (.str (sOf [33, 34, 35, 36, 38, 43, 44, 45, 46, 47, 50, 51, 52, 53, 54, 55, 56, 57, 58, 59, 60, 61, 62, 64, 91, 93, 94, 95, 123, 124, 125, 126, 10, 92]))) (tC (.str (sOf [97, 98, 99, 100, 101, 102, 103, 104, 105, 106, 107, 108, 109, 110, 111, 112, 113, 114, 115, 116, 117, 118, 119, 120, 121, 122, 65, 66, 67, 68, 69, 70, 71, 72, 73, 74, 75, 76, 77, 78, 79, 80, 81, 82, 83, 84, 85, 86, 87, 88, 89, 90])))) (gName 3)) (tSeq (tFor (iRng1 (tCons (tOp (uAdd K) (tC (.int 1)) (tCan p_law_take E0 (tCons (uV 0) (tCons (tC (.int 2)) tNil)))) tNil)) (gName 4) (tSeq (tAsg (tCan p_law_take E0 (tCons (uV 0) (tCons (tC (.int 3)) tNil))) (gName 5)) (tSeq (tAsg (tCan p_law_take E0 (tCons (uV 0) (tCons (tOp (uAdd K) (tCB (uLen K) (tCons (uV 1) tNil)) (tC (.int 1))) tNil))) (gName 6)) (tSeq (tAsg (tOp (uIx K) (uV 2) (tCan p_law_take E0 (tCons (uV 0) (tCons (tCB (uLen K) (tCons (uV 2) tNil)) tNil)))) (gName 7)) (tSeq (tIfS (uB (tOp (uEq K) (tCan p_law_take E0 (tCons (uV 0) (tCons (tC (.int 3)) tNil))) (tC (.int 2)))) (tAsg (tOp (uIx K) (uV 3) (tCan p_law_take E0 (tCons (uV 0) (tCons (tCB (uLen K) (tCons (uV 3) tNil)) tNil)))) (gName 7)) tNext) (tIfS (uB (tOp (uEq K) (uV 5) (tC (.int 0)))) (tAsg (tOp (uAdd K) (tOp (uAdd K) (tSl (uSl K) (uV 1) tNoPart (tPart (uV 6))) (uV 7)) (tSl (uSl K) (uV 1) (tPart (uV 6)) tNoPart)) (gName 1)) (tIfS (uB (tOp (uEq K) (uV 5) (tC (.int 1)))) (tAsg (tOp (uAdd K) (tOp (uAdd K) (tSl (uSl K) (uV 1) tNoPart (tPart (uV 6))) (uV 7)) (tSl (uSl K) (uV 1) (tPart (tOp (uAdd K) (uV 6) (tC (.int 1)))) tNoPart)) (gName 1)) (tAsg (tOp (uAdd K) (tSl (uSl K) (uV 1) tNoPart (tPart (uV 6))) (tSl (uSl K) (uV 1) (tPart (tOp (uAdd K) (uV 6) (tC (.int 1)))) tNoPart)) (gName 1))))))))) (tRet (uV 1))))
theorem d__law_bent {P : Program} {w : World} {K : PySem.W.Frag} {mg : Str → Option Value} {base : Heap} {f : Addr} {cdv : Value} {A : Around} {outer : List Env} {s0 : Shared} {H0 : Hp} {E : XK} {c : Ad} {p_law_take : Sp} {k : Nat} (T : Txt K mg c) (hr : Room (k + 1) (X0 P w K mg base N__law_bent "_law_bent" s__law_bent f cdv A outer s0 H0 E).A) (h__law_take : Has P w K mg base CX0 k "_law_take" p_law_take) :
    PSs (X0 P w K mg base N__law_bent "_law_bent" s__law_bent f cdv A outer s0 H0 E) (defBody s__law_bent) (t__law_bent K c p_law_take) := by
  have hu := hu201 hr
  have po : PassesOwn (model (X0 P w K mg base N__law_bent "_law_bent" s__law_bent f cdv A outer s0 H0 E).prog (X0 P w K mg base N__law_bent "_law_bent" s__law_bent f cdv A outer s0 H0 E).w) (X0 P w K mg base N__law_bent "_law_bent" s__law_bent f cdv A outer s0 H0 E).A (X0 P w K mg base N__law_bent "_law_bent" s__law_bent f cdv A outer s0 H0 E).env (X0 P w K mg base N__law_bent "_law_bent" s__law_bent f cdv A outer s0 H0 E).xe := PassesOwn.never
  exact (pss_cons (ps_set (i := 3) sc__law_bent.nd rfl (Or.inl rfl) (pe_op op_uAdd (pe_lit (l := [33, 34, 35, 36, 38, 43, 44, 45, 46, 47, 50, 51, 52, 53, 54, 55, 56, 57, 58, 59, 60, 61, 62, 64, 91, 93, 94, 95, 123, 124, 125, 126, 10, 92]) (by decide +kernel)) (pe_lit (l := [97, 98, 99, 100, 101, 102, 103, 104, 105, 106, 107, 108, 109, 110, 111, 112, 113, 114, 115, 116, 117, 118, 119, 120, 121, 122, 65, 66, 67, 68, 69, 70, 71, 72, 73, 74, 75, 76, 77, 78, 79, 80, 81, 82, 83, 84, 85, 86, 87, 88, 89, 90]) (by decide +kernel)))) (pss_cons (ps_for po rfl (pi_range1 (by rfl) T.range (pa_cons (pe_op op_uAdd pe_int (pe_can (h__law_take.can hr) (pa_cons (pe_uv 0) (pa_cons pe_int pa_nil)))) pa_nil)) (pg_name (i := 4) sc__law_bent.nd rfl (Or.inl rfl)) (pss_cons (ps_set (i := 5) sc__law_bent.nd rfl (Or.inl rfl) (pe_can (h__law_take.can hr) (pa_cons (pe_uv 0) (pa_cons pe_int pa_nil)))) (pss_cons (ps_set (i := 6) sc__law_bent.nd rfl (Or.inl rfl) (pe_can (h__law_take.can hr) (pa_cons (pe_uv 0) (pa_cons (pe_op op_uAdd (pe_callB cr_uLen (by rfl) T.len (by decide +kernel) (pa_cons (pe_uv 1) pa_nil)) pe_int) pa_nil)))) (pss_cons (ps_set (i := 7) sc__law_bent.nd rfl (Or.inl rfl) (pe_ix ix_u (pe_uv 2) (pe_can (h__law_take.can hr) (pa_cons (pe_uv 0) (pa_cons (pe_callB cr_uLen (by rfl) T.len (by decide +kernel) (pa_cons (pe_uv 2) pa_nil)) pa_nil))) (fun _ _ => rfl))) (pss_cons (ps_if (pt_uc (op_uEq hu) (pe_can (h__law_take.can hr) (pa_cons (pe_uv 0) (pa_cons pe_int pa_nil))) pe_int (nomark _)) (pss_one (ps_set (i := 7) sc__law_bent.nd rfl (Or.inl rfl) (pe_ix ix_u (pe_uv 3) (pe_can (h__law_take.can hr) (pa_cons (pe_uv 0) (pa_cons (pe_callB cr_uLen (by rfl) T.len (by decide +kernel) (pa_cons (pe_uv 3) pa_nil)) pa_nil))) (fun _ _ => rfl)))) pss_nil) (pss_one (ps_if (pt_uc (op_uEq hu) (pe_uv 5) pe_int (nomark _)) (pss_one (ps_set (i := 1) sc__law_bent.nd rfl (Or.inl rfl) (pe_op op_uAdd (pe_op op_uAdd (pe_slice sl_u (pe_uv 1) po_none (po_some (pe_uv 6))) (pe_uv 7)) (pe_slice sl_u (pe_uv 1) (po_some (pe_uv 6)) po_none)))) (pss_one (ps_if (pt_uc (op_uEq hu) (pe_uv 5) pe_int (nomark _)) (pss_one (ps_set (i := 1) sc__law_bent.nd rfl (Or.inl rfl) (pe_op op_uAdd (pe_op op_uAdd (pe_slice sl_u (pe_uv 1) po_none (po_some (pe_uv 6))) (pe_uv 7)) (pe_slice sl_u (pe_uv 1) (po_some (pe_op op_uAdd (pe_uv 6) pe_int)) po_none)))) (pss_one (ps_set (i := 1) sc__law_bent.nd rfl (Or.inl rfl) (pe_op op_uAdd (pe_slice sl_u (pe_uv 1) po_none (po_some (pe_uv 6))) (pe_slice sl_u (pe_uv 1) (po_some (pe_op op_uAdd (pe_uv 6) pe_int)) po_none))))))))))))) (pss_one (ps_ret (pe_uv 1)))))

end L2.WB
namespace L2.WB
open PySem PySem.Spec PyProof.Rows
open K02 (T isL isK isI g40 lthen leither lagain wts sizes galt gstep grun gbuild Lv rowsOf trun tstep yes lows Good items cnt scan)
theorem scan_len : ∀ (n : Nat) (cs : List Nat), cs.length ≤ n → ∀ (b : List Nat) (d p : Nat) (S : List (List Nat)), scan cs b d p = .ok S → S.length ≤ cs.length
  | _, [], _, b, d, p, S, h => by
    rw [K02.scan_nil] at h
    split at h
    · cases h
    · cases h; exact Nat.le_refl _
  | 0, c :: r, hn, _, _, _, _, _ => by simp at hn
  | n + 1, c :: r, hn, b, d, p, S, h => by
    rw [K02.scan_cons] at h
    have hr : r.length ≤ n := by simp only [List.length_cons] at hn; omega
    by_cases c1 : c = 32
    · rw [if_pos c1] at h
      have := scan_len n r hr _ _ _ _ h
      simp only [List.length_cons]
      omega
    · rw [if_neg c1] at h
      cases e : K02.signAt (c :: r) with
      | none => rw [e] at h; cases h
      | some g =>
        rw [e] at h
        dsimp only at h
        split at h
        · cases e2 : scan (r.drop (g.length - 1)) g (K02.dnext g d) (p + g.length) with
          | error q => rw [e2] at h; cases h
          | ok S2 =>
            rw [e2] at h
            have h : Except.ok (g :: S2) = Except.ok S := h
            cases h
            have := scan_len n _ (by rw [List.length_drop]; omega) _ _ _ _ e2
            rw [List.length_drop] at this
            simp only [List.length_cons]
            omega
        · cases h
theorem cntc_len (l : List Nat) : K02.cntc l ≤ l.length := List.countP_le_length
def spRead (c : Ad) : Sp := fun vs H Q E => ∃ l, vs = [.str (sOf l)] ∧ l.length ≤ 20000 ∧ match scan l [124] 0 0 with
  | .error q => Xc E H c.BadText "at" (.int (q : Nat))
  | .ok S => (2000 < items S → Xc E H c.TooLong "many" (.int (items S))) ∧ (items S ≤ 2000 → Out c H Q E (gbuild g40 S))
section
variable {K : PySem.W.Frag} {c : Ad} {H : Hp} {Q : VK} {E : XK} {vs : List V} {v : V} {t : T}
theorem q_read_pattern (h : spRead c vs H Q E) : t_read_pattern K c (spSigns c) (spB isI) (spBuilt c) E (fin0 Q) (start N_read_pattern vs) H := by
  obtain ⟨l, rfl, hl, q⟩ := h
  show t_read_pattern K c (spSigns c) (spB isI) (spBuilt c) E (fin0 Q) [some (.str (sOf l)), none, none, none] H
  dsimp only [t_read_pattern, tSeq, tAsg, tIfS, tRet, tRetN, tDrop, tNext, tOp, tUn, tCons, tNil, tTup, tLst, tC, tCB, tCan, tCanW, tAnd, tOr, tNot, tB, tIf, uB, uAndV, uOrV, uNotV, uNeg, uV, gName, gSub, tAug, ipI, tPart, tNoPart, tSl, tBM, tBM0, uLen, uAbs, uInt, uAdd, uSub, uMod, uFdiv, uMul, uCmp, uLt, uLe, uGt, uGe, tFld, StX.tMakeR, tRz, tCanS, sFld, start, fin0, List.getElem?_cons_zero, List.getElem?_cons_succ, List.map_cons, List.map_nil, List.length_cons, List.length_nil, List.replicate, List.cons_append, List.nil_append, Nat.reduceSub, Nat.reduceAdd, List.set_cons_zero, List.set_cons_succ]
  refine ⟨l, rfl, by omega, ?_⟩
  cases hs : scan l [124] 0 0 with
  | error p =>
    rw [hs] at q
    exact q
  | ok S =>
    rw [hs] at q
    obtain ⟨q1, q2⟩ := q
    obtain ⟨hv, hc⟩ := K02.scan_valid hs
    obtain ⟨w, al, sq, _, _, htr, hsq, _⟩ := K02.scan_ok_lgo hs
    have hlen := scan_len l.length l (Nat.le_refl _) _ _ _ _ hs
    have hcl := cntc_len l
    have hmem := K02.scan_mem l.length l (Nat.le_refl _) _ _ _ _ hs
    intro o H1 s1 eo
    have gl : ∀ g ∈ S, g.length ≤ 2 := fun g hg => by
      rcases K02.valid_cases (hv g hg) with ⟨x, rfl, _⟩ | ⟨x, rfl, _⟩ | ⟨x, rfl, _⟩ <;> simp
    refine ⟨o, rfl, ⟨_, sqL eo⟩, fun D nD => ?_⟩
    refine lc_list (K := K) (a := o) (xs := tv S) (fun n H2 => Same H1 H2 ∧ H2 D = some (.lst (tv ((S.take n).filter isI)))) ⟨same_new nD, by rw [upd_same]; rfl⟩ (fun n H2 _ h => sqL (h.1 _ _ eo)) ?_ ?_
    · rintro n x H2 hx ⟨s2, eD⟩
      obtain ⟨g, hg, rfl⟩ : ∃ g, S[n]? = some g ∧ x = .str (sOf g) := by
        unfold tv at hx
        rw [List.getElem?_map] at hx
        cases e : S[n]? with
        | none => rw [e] at hx; cases hx
        | some g => rw [e] at hx; exact ⟨g, rfl, (Option.some.inj hx).symm⟩
      have hgm := List.mem_of_getElem? hg
      have tk : S.take (n + 1) = S.take n ++ [g] := by rw [List.take_add_one, hg]; rfl
      have s12 := s1.trans s2
      refine ⟨rfl, g, rfl, by have := gl g hgm; omega, fun H3 s3 => ?_⟩
      show if isI g = true then _ else _
      have eD3 := s3 _ _ eD
      cases hI : isI g with
      | true =>
        refine iteT ⟨_, eD3, ?_, fun b u hb => ?_, ?_⟩
        · rw [tv_len, sizeLine_eq]
          have := List.length_filter_le isI (S.take n)
          rw [List.length_take] at this
          omega
        · rw [upd_ne (ne_of_none hb nD)]
          exact s3 b u (s2 b u hb)
        · rw [upd_same, tk, List.filter_append, tv_app]
          simp [hI]
      | false =>
        refine iteF ⟨s2.trans s3, ?_⟩
        rw [tk, List.filter_append, eD3]
        simp [hI]
    · rintro H2 ⟨s2, eD⟩
      rw [tv_len, List.take_length] at eD
      have s12 := s1.trans s2
      refine ⟨_, .inl (sqL eD), ?_⟩
      have el : ((tv (S.filter isI)).length : Int) = (items S : Int) := by rw [tv_len]; rfl
      rw [el]
      refine ifD (fun h => ?_) fun h => ?_
      · exact fun d H3 nd s3 e3 => q1 (by omega) d H3 (s12.trans s3) e3
      · exact ⟨o, S, al, sq, rfl, s2 _ _ eo, hv, htr, hsq, by omega, by omega, by omega, (q2 (by omega)).from s12⟩
end
end L2.WB
namespace L2.WB
open PySem PySem.Spec PyProof.Rows
open K02 (T isL isK isI g40 lthen leither lagain wts sizes galt gstep grun gbuild Lv rowsOf trun tstep yes lows Good items cnt scan)
inductive Xg where
  | BadText | BadItem | TooLong | TooDeep
  deriving DecidableEq
def Ad.xat (c : Ad) : Xg → Addr
  | .BadText => c.BadText
  | .BadItem => c.BadItem
  | .TooLong => c.TooLong
  | .TooDeep => c.TooDeep
/-- what the exceptions' classes say -/
structure ExF (K : PySem.W.Frag) (c : Ad) : Prop where
  exm : ∀ g, PySem.W.exmOne K (.ref (c.xat g)) (.ref c.WaysError) = some true
  exc : ∀ g, ExcC K (c.xat g)
  ve : ∀ g, PySem.W.kitOne K (.ref (c.xat g)) (.type "ValueError") = some true
  kit : ∀ g h, PySem.W.kitOne K (.ref (c.xat g)) (.ref (c.xat h)) = some (decide (g = h))
section
variable {K : PySem.W.Frag} {c : Ad} {H : Hp} {Q : VK} {E : XK} {vs : List V} {v : V} {t : T} {a dd : Addr} {fs : List (Str × V)}
theorem isE_ve (F : ExF K c) (g : Xg) (hd : H dd = some (.xd fs)) (q : Q (.bl true) H) : uIsE K (.ref (c.xat g)) (some dd) a [.ref a, .ty "ValueError"] H Q :=
  ⟨rfl, _, dd, fs, rfl, F.exc g, rfl, hd, .inl ⟨.type "ValueError", true, .ty _, F.ve g, q⟩⟩
theorem isE_one (F : ExF K c) (g h : Xg) (hd : H dd = some (.xd fs)) (q : Q (.bl (decide (g = h))) H) : uIsE K (.ref (c.xat g)) (some dd) a [.ref a, .ref (c.xat h)] H Q :=
  ⟨rfl, _, dd, fs, rfl, F.exc g, rfl, hd, .inl ⟨.ref (c.xat h), _, .own _, F.kit g h, q⟩⟩
theorem isE_two (F : ExF K c) (g h1 h2 : Xg) {p : Addr} (hd : H dd = some (.xd fs)) (hp : H p = some (.tup [.ref (c.xat h1), .ref (c.xat h2)])) (q : Q (.bl (decide (g = h1) || decide (g = h2))) H) : uIsE K (.ref (c.xat g)) (some dd) a [.ref a, .ref p] H Q := by
  refine ⟨rfl, _, dd, fs, rfl, F.exc g, rfl, hd, .inr ⟨p, _, [.ref (c.xat h1), .ref (c.xat h2)], _, rfl, hp, .cons (.own _) (.cons (.own _) .nil), ?_, q⟩⟩
  refine kitAny_cons (F.kit g h1) (fun e => ?_) fun e => by rw [e]; rfl
  rw [e, Bool.false_or]
  exact kitAny_cons (F.kit g h2) (fun e => by rw [e]; rfl) fun e => e
/-- what is told of a text -/
noncomputable def toldV (l : List Nat) : List V := match scan l [124] 0 0 with
  | .error q => [.str (sOf [98, 97, 100]), .int (q : Nat)]
  | .ok S => if 2000 < items S then [.str (sOf [108, 111, 110, 103]), .int (items S)] else match gbuild g40 S with
    | some t => [.str (sOf [109, 97, 100, 101]), .str (sOf (K02.text t))]
    | none => [.str (sOf [100, 101, 101, 112]), .int 41]
def spTold : Sp := fun vs H Q _ => ∃ l, vs = [.str (sOf l)] ∧ l.length ≤ 20000 ∧ ∀ p H2, Same H H2 → H2 p = some (.tup (toldV l)) → Q (.ref p) H2
theorem PatAt.isP (F : ClsF K c) (p : PatAt c H v t) (q : Q (.bl true) H) : uIsi K [v, .ref c.Pattern] H Q := by
  obtain ⟨a, g, dx, fs, rfl, h, f, _⟩ := p.obj
  exact .inl ⟨.ref (c.at g), .ref c.Pattern, _, .own _, F.tyx h, F.kitP g, q⟩
theorem PatAt.mtT (F : ClsF K c) (p : PatAt c H v t) (q : Q (.str (sOf (K02.text t))) H) {σ : St} {i : Nat} (hσ : σ[i]? = some (some v)) : uMtT K c (uV i) σ H Q := by
  obtain ⟨a, g, dx, fs, rfl, h, f, _⟩ := p.obj
  unfold uMtT uV
  rw [hσ]
  refine ⟨c.at g, dx, fs, _, ?_, h, F.cls g, (F.no g).2.2.1, f.meth, f.text, q⟩
  cases g <;> simp [patC, Ad.at]
theorem q__law_told (F : ClsF K c) (X : ExF K c) (h : spTold vs H Q E) : t__law_told K c (spRead c) (fin0 Q) (start N__law_told vs) H := by
  obtain ⟨l, rfl, hl, q⟩ := h
  show t__law_told K c (spRead c) (fin0 Q) [some (.str (sOf l)), none, none] H
  unfold t__law_told
  refine ⟨l, rfl, hl, ?_⟩
  unfold toldV at q
  cases hs : scan l [124] 0 0 with
  | error p =>
    rw [hs] at q
    intro d H2 s2 ed
    refine ⟨true, X.exm .BadText, fun _ a na => ?_, fun h => by cases h⟩
    dsimp only [tXf, tSeq, tAsg, tIfS, tRet, tRetN, tDrop, tNext, tOp, tUn, tCons, tNil, tTup, tLst, tC, tCB, tCan, tCanW, tAnd, tOr, tNot, tB, tIf, uB, uAndV, uOrV, uNotV, uNeg, uV, gName, gSub, tAug, ipI, tPart, tNoPart, tSl, tBM, tBM0, uLen, uAbs, uInt, uAdd, uSub, uMod, uFdiv, uMul, uCmp, uLt, uLe, uGt, uGe, tFld, StX.tMakeR, tRz, tCanS, sFld, start, fin0, List.getElem?_cons_zero, List.getElem?_cons_succ, List.map_cons, List.map_nil, List.length_cons, List.length_nil, List.replicate, List.cons_append, List.nil_append, Nat.reduceSub, Nat.reduceAdd, List.set_cons_zero, List.set_cons_succ]
    refine isE_ve X .BadText ed (iteF (isE_one X .BadText .BadItem ed ?_))
    refine iteF (isE_one X .BadText .BadText ed (iteT ⟨by decide +kernel, fun p1 n1 => ?_⟩))
    refine isE_two X .BadText .TooLong .TooDeep (get_new ed n1) upd_same (iteT ?_)
    exact ⟨rfl, rfl, d, _, _, rfl, get_new ed n1, rfl, by decide +kernel, fun p2 n2 => q p2 _ ((s2.trans (same_new n1)).trans (same_new n2)) upd_same⟩
  | ok S =>
    rw [hs] at q
    dsimp only at q
    refine ⟨fun hm => ?_, fun hm => ?_⟩
    · rw [if_pos hm] at q
      intro d H2 s2 ed
      refine ⟨true, X.exm .TooLong, fun _ a na => ?_, fun h => by cases h⟩
      dsimp only [tXf, tSeq, tAsg, tIfS, tRet, tRetN, tDrop, tNext, tOp, tUn, tCons, tNil, tTup, tLst, tC, tCB, tCan, tCanW, tAnd, tOr, tNot, tB, tIf, uB, uAndV, uOrV, uNotV, uNeg, uV, gName, gSub, tAug, ipI, tPart, tNoPart, tSl, tBM, tBM0, uLen, uAbs, uInt, uAdd, uSub, uMod, uFdiv, uMul, uCmp, uLt, uLe, uGt, uGe, tFld, StX.tMakeR, tRz, tCanS, sFld, start, fin0, List.getElem?_cons_zero, List.getElem?_cons_succ, List.map_cons, List.map_nil, List.length_cons, List.length_nil, List.replicate, List.cons_append, List.nil_append, Nat.reduceSub, Nat.reduceAdd, List.set_cons_zero, List.set_cons_succ]
      refine isE_ve X .TooLong ed (iteF (isE_one X .TooLong .BadItem ed ?_))
      refine iteF (isE_one X .TooLong .BadText ed (iteF (iteF ?_)))
      refine isE_one X .TooLong .TooLong ed (iteT ⟨by decide +kernel, fun p1 n1 => ?_⟩)
      refine isE_two X .TooLong .BadText .TooDeep (get_new ed n1) upd_same (iteT ?_)
      exact ⟨rfl, rfl, d, _, _, rfl, get_new ed n1, rfl, by decide +kernel, fun p2 n2 => q p2 _ ((s2.trans (same_new n1)).trans (same_new n2)) upd_same⟩
    · rw [if_neg (by omega)] at q
      cases hb : gbuild g40 S with
      | none =>
        rw [hb] at q
        intro d H2 s2 ed
        refine ⟨true, X.exm .TooDeep, fun _ a na => ?_, fun h => by cases h⟩
        dsimp only [tXf, tSeq, tAsg, tIfS, tRet, tRetN, tDrop, tNext, tOp, tUn, tCons, tNil, tTup, tLst, tC, tCB, tCan, tCanW, tAnd, tOr, tNot, tB, tIf, uB, uAndV, uOrV, uNotV, uNeg, uV, gName, gSub, tAug, ipI, tPart, tNoPart, tSl, tBM, tBM0, uLen, uAbs, uInt, uAdd, uSub, uMod, uFdiv, uMul, uCmp, uLt, uLe, uGt, uGe, tFld, StX.tMakeR, tRz, tCanS, sFld, start, fin0, List.getElem?_cons_zero, List.getElem?_cons_succ, List.map_cons, List.map_nil, List.length_cons, List.length_nil, List.replicate, List.cons_append, List.nil_append, Nat.reduceSub, Nat.reduceAdd, List.set_cons_zero, List.set_cons_succ]
        refine isE_ve X .TooDeep ed (iteF (isE_one X .TooDeep .BadItem ed ?_))
        refine iteF (isE_one X .TooDeep .BadText ed (iteF (iteF ?_)))
        refine isE_one X .TooDeep .TooLong ed (iteF (iteF ?_))
        refine isE_one X .TooDeep .TooDeep ed (iteT ⟨by decide +kernel, fun p1 n1 => ?_⟩)
        refine isE_two X .TooDeep .BadText .TooLong (get_new ed n1) upd_same (iteT ?_)
        exact ⟨rfl, rfl, d, _, _, rfl, get_new ed n1, rfl, by decide +kernel, fun p2 n2 => q p2 _ ((s2.trans (same_new n1)).trans (same_new n2)) upd_same⟩
      | some t =>
        rw [hb] at q
        intro v H2 s2 pv
        dsimp only [tSeq, tAsg, tIfS, tRet, tRetN, tDrop, tNext, tOp, tUn, tCons, tNil, tTup, tLst, tC, tCB, tCan, tCanW, tAnd, tOr, tNot, tB, tIf, uB, uAndV, uOrV, uNotV, uNeg, uV, gName, gSub, tAug, ipI, tPart, tNoPart, tSl, tBM, tBM0, uLen, uAbs, uInt, uAdd, uSub, uMod, uFdiv, uMul, uCmp, uLt, uLe, uGt, uGe, tFld, StX.tMakeR, tRz, tCanS, sFld, start, fin0, List.getElem?_cons_zero, List.getElem?_cons_succ, List.map_cons, List.map_nil, List.length_cons, List.length_nil, List.replicate, List.cons_append, List.nil_append, Nat.reduceSub, Nat.reduceAdd, List.set_cons_zero, List.set_cons_succ]
        refine pv.isP F (iteF ?_)
        refine pv.mtT F ?_ (i := 2) rfl
        exact ⟨by decide +kernel, fun p2 n2 => q p2 _ (s2.trans (same_new n2)) upd_same⟩
end
end L2.WB
namespace L2.WB
open PySem PySem.Spec PyProof.Rows
open K02 (T isL isK isI lthen leither lagain wts sizes flatN flatO addU addU1)
def hdc : T → List Nat
  | .z => [48]
  | .s => [49]
  | .i _ => [105]
  | .m _ => [109]
  | .n _ => [110]
  | .o _ => [111]
/-- a tree is a tuple; its head -/
theorem LT.obj {H : Hp} {v : V} {t : T} (h : LT H v t) : ∃ a xs, v = .ref a ∧ H a = some (.tup (.str (sOf (hdc t)) :: xs)) ∧ xs.length = (if t.isZ || t.isS then 0 else 1) := by
  cases h with
  | z h => exact ⟨_, [], rfl, h, rfl⟩
  | s h => exact ⟨_, [], rfl, h, rfl⟩
  | i h => exact ⟨_, [_], rfl, h, rfl⟩
  | m h _ => exact ⟨_, [_], rfl, h, rfl⟩
  | n h _ _ => exact ⟨_, [_], rfl, h, rfl⟩
  | o h _ _ => exact ⟨_, [_], rfl, h, rfl⟩
section
variable {K : PySem.W.Frag} {c : Ad} {H : Hp} {Q : VK} {E : XK} {vs : List V} {v : V} {t : T}
/-- tree[0] -/
theorem ix_hd (h : LT H v t) (q : Q (.str (sOf (hdc t))) H) : uIx K v (.int 0) H Q := by
  obtain ⟨a, xs, rfl, e, _⟩ := h.obj
  exact ix_tup2 e (atI_nat (j := 0) rfl) q
theorem hd_eq (t : T) (k : List Nat) : decide (sOf (hdc t) = sOf k) = decide (hdc t = k) := dec_sOf _ _
def spLAgain : Sp := fun vs H Q _ => ∃ v t, vs = [v] ∧ LT H v t ∧ ∀ v2 H2, Same H H2 → LT H2 v2 (lagain t) → Q v2 H2
theorem q__law_again (h : spLAgain vs H Q E) : t__law_again K c (fin0 Q) (start N__law_again vs) H := by
  obtain ⟨v, t, rfl, lt, q⟩ := h
  show t__law_again K c (fin0 Q) [some v] H
  dsimp only [t__law_again, tSeq, tAsg, tIfS, tRet, tRetN, tDrop, tNext, tOp, tUn, tCons, tNil, tTup, tLst, tC, tCB, tCan, tCanW, tAnd, tOr, tNot, tB, tIf, uB, uAndV, uOrV, uNotV, uNeg, uV, gName, gSub, tAug, ipI, tPart, tNoPart, tSl, tBM, tBM0, uLen, uAbs, uInt, uAdd, uSub, uMod, uFdiv, uMul, uCmp, uLt, uLe, uGt, uGe, tFld, StX.tMakeR, tRz, tCanS, sFld, start, fin0, List.getElem?_cons_zero, List.getElem?_cons_succ, List.map_cons, List.map_nil, List.length_cons, List.length_nil, List.replicate, List.cons_append, List.nil_append, Nat.reduceSub, Nat.reduceAdd, List.set_cons_zero, List.set_cons_succ]
  refine ix_hd lt ?_
  dsimp only [uEq]
  have one : lagain t = .s → 1 ≤ sizeLine ∧ ∀ p, H p = none → Q (.ref p) (upd H p (.tup [.str (sOf [49])])) := fun e => by
    refine ⟨by decide +kernel, fun p hp => q _ _ (same_new hp) ?_⟩
    rw [e]
    exact .s upd_same
  rw [dec_sOf]
  refine ifD (fun e => ?_) fun e => ?_
  · refine iteT (one ?_)
    cases t <;> first | rfl | (simp [hdc] at e; done)
  · refine ix_hd lt ?_
    dsimp only
    rw [dec_sOf]
    refine ifD (fun e2 => one ?_) fun e2 => ?_
    · cases t <;> first | rfl | (simp [hdc] at e2; done)
    · refine ix_hd lt ?_
      dsimp only
      rw [dec_sOf]
      refine ifD (fun e3 => ?_) fun e3 => ?_
      · have : lagain t = t := by cases t <;> first | rfl | (simp [hdc] at e3; done)
        rw [this] at q
        exact q v H (Same.refl H) lt
      · refine ⟨by decide +kernel, fun p hp => q _ _ (same_new hp) ?_⟩
        have : lagain t = .m t := by
          cases t with
          | z => exact absurd rfl e
          | s => exact absurd rfl e2
          | m => exact absurd rfl e3
          | _ => rfl
        rw [this]
        exact .m upd_same (lt.keep (Same.kp (same_new hp)))
/-- a list of trees that is put together -/
structure LRow (ts : List T) : Prop where
  asc : ∀ t ∈ ts, Asc t = true
  len : (flatN ts).length ≤ 100000 ∧ (flatO ts).length ≤ 100000
  dp : ∀ t ∈ ts, K02.depth t ≤ 90
def spLSeq (f : List T → T) : Sp := fun vs H Q _ => ∃ a ws ts, vs = [.ref a] ∧ H a = some (.lst ws) ∧ LTs H ws ts ∧ LRow ts ∧ ∀ v2 H2, Same H H2 → LT H2 v2 (f ts) → Q v2 H2
theorem asc_encs {ts : List T} (h : ∀ t ∈ ts, Asc t = true) : Ascs ts = true := by
  induction ts with
  | nil => rfl
  | cons a r ih =>
    unfold Ascs
    rw [h a (by simp), ih fun x hx => h x (List.mem_cons_of_mem _ hx)]
    rfl
theorem asc_mem {ts : List T} (h : Ascs ts = true) : ∀ t ∈ ts, Asc t = true := by
  induction ts with
  | nil => intro t ht; cases ht
  | cons a r ih =>
    unfold Ascs at h
    rw [Bool.and_eq_true] at h
    intro t ht
    rcases List.mem_cons.mp ht with e | e
    · rw [e]; exact h.1
    · exact ih h.2 t e
theorem asc_flatN {ts : List T} (h : ∀ t ∈ ts, Asc t = true) : ∀ t ∈ flatN ts, Asc t = true := by
  induction ts with
  | nil => intro t ht; cases ht
  | cons a r ih =>
    have ih := ih fun x hx => h x (List.mem_cons_of_mem _ hx)
    have h0 := h a (by simp)
    intro t ht
    cases a with
    | n qs =>
      rcases List.mem_append.mp (show t ∈ qs ++ flatN r from ht) with e | e
      · unfold Asc at h0; exact asc_mem h0 t e
      · exact ih t e
    | s => exact ih t ht
    | z => rcases List.mem_cons.mp (show t ∈ .z :: flatN r from ht) with e | e; (· rw [e]; exact h0); exact ih t e
    | i w => rcases List.mem_cons.mp (show t ∈ .i w :: flatN r from ht) with e | e; (· rw [e]; exact h0); exact ih t e
    | o w => rcases List.mem_cons.mp (show t ∈ .o w :: flatN r from ht) with e | e; (· rw [e]; exact h0); exact ih t e
    | m w => rcases List.mem_cons.mp (show t ∈ .m w :: flatN r from ht) with e | e; (· rw [e]; exact h0); exact ih t e
theorem asc_flatO {ts : List T} (h : ∀ t ∈ ts, Asc t = true) : ∀ t ∈ flatO ts, Asc t = true := by
  induction ts with
  | nil => intro t ht; cases ht
  | cons a r ih =>
    have ih := ih fun x hx => h x (List.mem_cons_of_mem _ hx)
    have h0 := h a (by simp)
    intro t ht
    cases a with
    | o qs =>
      rcases List.mem_append.mp (show t ∈ qs ++ flatO r from ht) with e | e
      · unfold Asc at h0; exact asc_mem h0 t e
      · exact ih t e
    | s => rcases List.mem_cons.mp (show t ∈ .s :: flatO r from ht) with e | e; (· rw [e]; exact h0); exact ih t e
    | z => rcases List.mem_cons.mp (show t ∈ .z :: flatO r from ht) with e | e; (· rw [e]; exact h0); exact ih t e
    | i w => rcases List.mem_cons.mp (show t ∈ .i w :: flatO r from ht) with e | e; (· rw [e]; exact h0); exact ih t e
    | n w => rcases List.mem_cons.mp (show t ∈ .n w :: flatO r from ht) with e | e; (· rw [e]; exact h0); exact ih t e
    | m w => rcases List.mem_cons.mp (show t ∈ .m w :: flatO r from ht) with e | e; (· rw [e]; exact h0); exact ih t e
open Classical in
theorem any_encs (u : T) : ∀ ts : List T, (encs ts).any (fun z => PyData.eqv z (enc u)) = decide (u ∈ ts)
  | [] => by simp [encs]
  | t :: ts => by
    rw [encs, List.any_cons, any_encs u ts, eqv_dec]
    rw [Bool.eq_iff_iff]
    simp only [Bool.or_eq_true, decide_eq_true_eq, List.mem_cons]
    exact ⟨fun h => h.elim (fun e => .inl e.symm) .inr, fun h => h.elim (fun e => .inl e.symm) .inr⟩
open Classical in
/-- a tree among a list of trees -/
theorem in_trees {neg : Bool} {p : Addr} {ws : List V} {ts : List T} {u : T} (hx : LT H v u) (hp : H p = some (.lst ws)) (hw : LTs H ws ts) (h1 : Asc u = true) (h2 : ∀ t ∈ ts, Asc t = true) (hd : K02.depth u ≤ 90) (q : Q (.bl (if neg = true then !decide (u ∈ ts) else decide (u ∈ ts))) H) : uIn K neg v (.ref p) H Q := by
  refine .inr ⟨enc u, encs ts, hx.dp, .lst (sqL hp) hw.dps, lay_enc u h1, lay_encs ts (asc_encs h2), ?_, ?_⟩
  · have := depth_enc u
    omega
  · rw [any_encs]
    exact q
theorem hasZ_mem (ts : List T) : K02.hasZ ts = true ↔ T.z ∈ ts := by
  unfold K02.hasZ
  rw [List.any_eq_true]
  constructor
  · rintro ⟨t, ht, e⟩
    cases t with
    | z => exact ht
    | _ => cases e
  · intro h
    exact ⟨.z, h, rfl⟩
theorem lts_one {l : List V} {ts : List T} (h : LTs H l ts) (hl : l.length = 1) : ∃ v t, l = [v] ∧ ts = [t] ∧ LT H v t := by
  cases h with
  | nil => cases hl
  | cons a b =>
    cases b with
    | nil => exact ⟨_, _, rfl, rfl, a⟩
    | cons _ _ => simp at hl
open Classical in
theorem q__law_then (h : spLSeq lthen vs H Q E) : t__law_then K c (fin0 Q) (start N__law_then vs) H := by
  obtain ⟨a, ws, ts, rfl, ha, hw, row, q⟩ := h
  show t__law_then K c (fin0 Q) [some (.ref a), none, none] H
  dsimp only [t__law_then, tSeq, tAsg, tIfS, tRet, tRetN, tDrop, tNext, tOp, tUn, tCons, tNil, tTup, tLst, tC, tCB, tCan, tCanW, tAnd, tOr, tNot, tB, tIf, uB, uAndV, uOrV, uNotV, uNeg, uV, gName, gSub, tAug, ipI, tPart, tNoPart, tSl, tBM, tBM0, uLen, uAbs, uInt, uAdd, uSub, uMod, uFdiv, uMul, uCmp, uLt, uLe, uGt, uGe, tFld, StX.tMakeR, tRz, tCanS, sFld, start, fin0, List.getElem?_cons_zero, List.getElem?_cons_succ, List.map_cons, List.map_nil, List.length_cons, List.length_nil, List.replicate, List.cons_append, List.nil_append, Nat.reduceSub, Nat.reduceAdd, List.set_cons_zero, List.set_cons_succ]
  refine ⟨by decide +kernel, fun o ho => ?_⟩
  have s0 := same_new (o := .lst []) ho
  have hasc := asc_flatN row.asc
  refine ⟨a, rfl, ⟨ws, sqL (s0 _ _ ha)⟩, for_list (K := K) (a := a) (xs := ws) (fun i σ H1 => ∃ y o us, σ = [some (.ref a), some (.ref o), y] ∧ H o = none ∧ Same H H1 ∧ H1 o = some (.lst us) ∧ LTs H1 us (flatN (ts.take i))) ⟨none, o, [], rfl, ho, s0, upd_same, .nil⟩ (fun i σ H1 _ ⟨_, _, _, _, _, s1, _⟩ => sqL (s1 _ _ ha)) ?_ ?_⟩
  · rintro i x σ H1 hx ⟨y, o, us, rfl, ho, s1, eo, pu⟩
    obtain ⟨u, hu, lt⟩ := hw.get hx
    have lt1 := lt.keep (Same.kp s1)
    have tk : ts.take (i + 1) = ts.take i ++ [u] := by rw [List.take_add_one, hu]; rfl
    have hlen : (flatN (ts.take (i + 1))).length ≤ 100000 := by
      have e : flatN ts = flatN (ts.take (i + 1)) ++ flatN (ts.drop (i + 1)) := by rw [← K02.flatN_app, List.take_append_drop]
      have := row.len.1
      rw [e, List.length_append] at this
      omega
    rw [tk, flatN_snoc, List.length_append] at hlen
    have lu := pu.len
    dsimp only [tSeq, tAsg, tIfS, tRet, tRetN, tDrop, tNext, tOp, tUn, tCons, tNil, tTup, tLst, tC, tCB, tCan, tCanW, tAnd, tOr, tNot, tB, tIf, uB, uAndV, uOrV, uNotV, uNeg, uV, gName, gSub, tAug, ipI, tPart, tNoPart, tSl, tBM, tBM0, uLen, uAbs, uInt, uAdd, uSub, uMod, uFdiv, uMul, uCmp, uLt, uLe, uGt, uGe, tFld, StX.tMakeR, tRz, tCanS, sFld, start, fin0, List.getElem?_cons_zero, List.getElem?_cons_succ, List.map_cons, List.map_nil, List.length_cons, List.length_nil, List.replicate, List.cons_append, List.nil_append, Nat.reduceSub, Nat.reduceAdd, List.set_cons_zero, List.set_cons_succ]
    refine ix_hd lt1 ?_
    dsimp only [uEq, uNe]
    rw [dec_sOf]
    refine ifD (fun e => ?_) fun e => ?_
    · cases lt1 with
      | @n _ _ vs3 _ h1 h2 h3 =>
        refine ix_tup2 h1 (atI_nat (j := 1) rfl) ⟨_, .inr (sqT h2), fun l nl => .inl ⟨us, _, get_new eo nl, upd_same, ?_, fun p hp => ?_⟩⟩
        · have h4 := h3.len
          simp only [seqN] at hlen
          rw [sizeLine_eq]
          omega
        · have k : Kp H1 (upd (upd H1 l (.lst vs3)) p (.lst (us ++ vs3))) := Same.kp ((same_new nl).trans (same_new hp))
          refine ⟨_, p, _, rfl, Same.free (s1.trans (same_new nl)) hp, (s1.trans (same_new nl)).trans (same_new hp), upd_same, ?_⟩
          rw [tk, flatN_snoc]
          exact (pu.keep k).app (h3.keep k)
      | _ => simp [hdc] at e
    · refine ix_hd lt1 ?_
      dsimp only
      rw [dec_sOf, ← decide_not]
      refine ifD (fun e2 => ?_) fun e2 => ?_
      · have es : seqN u = [u] := by
          cases u with
          | n => exact absurd rfl e
          | s => exact absurd rfl e2
          | _ => rfl
        rw [es] at hlen
        refine app_ok2 eo (by omega) ⟨_, o, _, rfl, ho, fun b z hb => ?_, upd_same, ?_⟩
        · rw [upd_ne (ne_of_none hb ho)]
          exact s1 b z hb
        · rw [tk, flatN_snoc, es]
          exact (pu.app (.cons lt1 .nil)).keep (kp_lst eo)
      · have es : u = .s := by
          cases u with
          | s => rfl
          | _ => exact absurd (by simp [hdc]) e2
        refine ⟨_, o, us, rfl, ho, s1, eo, ?_⟩
        rw [tk, flatN_snoc, es]
        simpa [seqN] using pu
  · rintro σ H1 ⟨y, o, us, rfl, ho, s1, eo, pu⟩
    rw [hw.len, List.take_length] at pu
    have lu := pu.len
    have hl := row.len.1
    dsimp only [tSeq, tAsg, tIfS, tRet, tRetN, tDrop, tNext, tOp, tUn, tCons, tNil, tTup, tLst, tC, tCB, tCan, tCanW, tAnd, tOr, tNot, tB, tIf, uB, uAndV, uOrV, uNotV, uNeg, uV, gName, gSub, tAug, ipI, tPart, tNoPart, tSl, tBM, tBM0, uLen, uAbs, uInt, uAdd, uSub, uMod, uFdiv, uMul, uCmp, uLt, uLe, uGt, uGe, tFld, StX.tMakeR, tRz, tCanS, sFld, start, fin0, List.getElem?_cons_zero, List.getElem?_cons_succ, List.map_cons, List.map_nil, List.length_cons, List.length_nil, List.replicate, List.cons_append, List.nil_append, Nat.reduceSub, Nat.reduceAdd, List.set_cons_zero, List.set_cons_succ]
    refine ⟨by decide +kernel, fun p hp => ?_⟩
    have s2 := same_new (o := .tup [.str (sOf [48])]) hp
    have pu2 := pu.keep (Same.kp s2)
    refine in_trees (neg := false) (u := .z) (.z upd_same) (s2 _ _ eo) pu2 rfl hasc (by simp [K02.depth]) ?_
    have s12 := s1.trans s2
    have eo2 := s2 _ _ eo
    unfold lthen at q
    generalize flatN ts = f at pu2 lu hl hasc q
    refine ifB (fun e => ?_) fun e => ?_
    · have e : T.z ∈ f := of_decide_eq_true e
      rw [if_pos ((hasZ_mem f).mpr e)] at q
      exact ⟨by decide +kernel, fun p2 hp2 => q _ _ (s12.trans (same_new hp2)) (.z upd_same)⟩
    · have e : T.z ∉ f := of_decide_eq_false e
      rw [if_neg (fun z => e ((hasZ_mem f).mp z))] at q
      refine ⟨us, .inl (sqL eo2), ?_⟩
      dsimp only [uEq]
      rw [len_zero]
      refine ifD (fun c0 => ?_) fun c0 => ?_
      · have : f = [] := List.eq_nil_of_length_eq_zero (by omega)
        subst this
        exact ⟨by decide +kernel, fun p2 hp2 => q _ _ (s12.trans (same_new hp2)) (.s upd_same)⟩
      · refine ⟨us, .inl (sqL eo2), ?_⟩
        rw [len_one]
        refine ifD (fun c1 => ?_) fun c1 => ?_
        · obtain ⟨v, t, rfl, rfl, pt⟩ := lts_one pu2 c1
          exact ix_lst eo2 (atI_nat (j := 0) rfl) (q v _ s12 pt)
        · have ef : K02.wrap .s .n f = .n f := by
            match f, lu with
            | [], lu => simp only [List.length_nil] at lu; exact absurd lu c0
            | [_], lu => simp only [List.length_nil, List.length_cons] at lu; omega
            | a :: b :: r, _ => rfl
          rw [ef] at q
          refine ⟨us, sqL eo2, fun l nl => ⟨by decide +kernel, fun p3 hp3 => ?_⟩⟩
          refine q _ _ ((s12.trans (same_new nl)).trans (same_new hp3)) (.n upd_same (get_new upd_same hp3) ((pu2.keep (Same.kp (same_new nl))).keep (Same.kp (same_new hp3))))
end
end L2.WB
namespace L2.WB
open PySem PySem.Spec PyProof.Rows
open K02 (T isL isK isI lthen leither lagain wts sizes flatN flatO addU addU1)
section
variable {K : PySem.W.Frag} {c : Ad} {H : Hp} {Q : VK} {E : XK} {vs : List V} {v : V} {t : T}
structure EiL (H H1 : Hp) (o : Addr) (us : List V) (ul : List T) : Prop where
  same : Same H H1
  row : H1 o = some (.lst us)
  pats : LTs H1 us ul
theorem flatO_len (ts : List T) (i : Nat) : (flatO (ts.take i)).length ≤ (flatO ts).length := by
  have e : flatO ts = flatO (ts.take i) ++ flatO (ts.drop i) := by rw [← K02.flatO_app, List.take_append_drop]
  rw [e, List.length_append]
  omega
theorem addU_len (acc l : List T) : (addU acc l).length ≤ acc.length + l.length := by
  induction l generalizing acc with
  | nil => simp [addU]
  | cons a r ih =>
    have := ih (addU1 acc a)
    have h2 : (addU1 acc a).length ≤ acc.length + 1 := by
      unfold addU1
      split
      · omega
      · simp
    show (addU (addU1 acc a) r).length ≤ _
    simp only [List.length_cons]
    omega
/-- x != y of two trees -/
theorem ne_trees {x y : V} {t u : T} (hx : LT H x t) (hy : LT H y u) (h1 : Asc t = true) (h2 : Asc u = true) (hd : K02.depth u ≤ 90) (q : ∀ b : Bool, (b = true ↔ t ≠ u) → Q (.bl b) H) : uNe K x y H Q := by
  obtain ⟨a, xs, rfl, _⟩ := hx.obj
  obtain ⟨b, ys, rfl, _⟩ := hy.obj
  refine ⟨enc t, enc u, hx.dp, hy.dp, lay_enc t h1, lay_enc u h2, ?_, q _ ?_⟩
  · have := depth_enc u
    omega
  · have := eqv_enc t u
    show (!PyData.eqv (enc t) (enc u)) = true ↔ _
    cases e : PyData.eqv (enc t) (enc u) with
    | true => simp [this.mp e]
    | false =>
      refine ⟨fun _ z => ?_, fun _ => rfl⟩
      rw [this.mpr z] at e
      cases e
open Classical in
theorem q__law_either (h : spLSeq leither vs H Q E) : t__law_either K c (fin0 Q) (start N__law_either vs) H := by
  obtain ⟨a, ws, ts, rfl, ha, hw, row, q⟩ := h
  show t__law_either K c (fin0 Q) [some (.ref a), none, none, none, none] H
  dsimp only [t__law_either, tSeq, tAsg, tIfS, tRet, tRetN, tDrop, tNext, tOp, tUn, tCons, tNil, tTup, tLst, tC, tCB, tCan, tCanW, tAnd, tOr, tNot, tB, tIf, uB, uAndV, uOrV, uNotV, uNeg, uV, gName, gSub, tAug, ipI, tPart, tNoPart, tSl, tBM, tBM0, uLen, uAbs, uInt, uAdd, uSub, uMod, uFdiv, uMul, uCmp, uLt, uLe, uGt, uGe, tFld, StX.tMakeR, tRz, tCanS, sFld, start, fin0, List.getElem?_cons_zero, List.getElem?_cons_succ, List.map_cons, List.map_nil, List.length_cons, List.length_nil, List.replicate, List.cons_append, List.nil_append, Nat.reduceSub, Nat.reduceAdd, List.set_cons_zero, List.set_cons_succ]
  refine ⟨by decide +kernel, fun o ho => ?_⟩
  have s0 := same_new (o := .lst []) ho
  have hasc := asc_flatO row.asc
  have hdp : ∀ t ∈ flatO ts, K02.depth t ≤ 90 := K02.flatO_depth row.dp
  refine ⟨a, rfl, ⟨ws, sqL (s0 _ _ ha)⟩, for_list (K := K) (a := a) (xs := ws) (fun i σ H1 => ∃ y2 y3 y4 us, σ = [some (.ref a), some (.ref o), y2, y3, y4] ∧ EiL H H1 o us (addU [] (flatO (ts.take i)))) ⟨none, none, none, [], rfl, s0, upd_same, .nil⟩ (fun i σ H1 _ ⟨_, _, _, _, _, e⟩ => sqL (e.same _ _ ha)) ?_ ?_⟩
  · rintro i x σ H1 hx ⟨y2, y3, y4, us, rfl, e1⟩
    obtain ⟨u, hu, lt⟩ := hw.get hx
    have lt1 := lt.keep (Same.kp e1.same)
    have tk : ts.take (i + 1) = ts.take i ++ [u] := by rw [List.take_add_one, hu]; rfl
    have fl : flatO (ts.take (i + 1)) = flatO (ts.take i) ++ seqO u := by rw [tk, flatO_snoc]
    have hlen := flatO_len ts (i + 1)
    have hl2 := row.len.2
    have hin : ∀ z ∈ flatO (ts.take (i + 1)), z ∈ flatO ts := fun z hz => by
      have e : flatO ts = flatO (ts.take (i + 1)) ++ flatO (ts.drop (i + 1)) := by rw [← K02.flatO_app, List.take_append_drop]
      rw [e]
      exact List.mem_append_left _ hz
    have inner : ∀ (q1 : Addr) (ws1 : List V) (y3 : V) (H2 : Hp), EiL H H2 o us (addU [] (flatO (ts.take i))) → H2 q1 = some (.lst ws1) → q1 ≠ o → LTs H2 ws1 (seqO u) →
        tFor (iList K (uV 3)) (gName 4) (tIfS (tAnd (uB (tOp (uNe K) (uV 4) (tTup (tCons (tC (.str (sOf [48]))) tNil)))) (uB (tOp (uIn K true) (uV 4) (uV 1)))) (tDrop (tBM K "list" uApp (uV 1) (tCons (uV 4) tNil))) tNext)
          { nx := fun σ H1 => ∃ y2 y3 y4 us, σ = [some (.ref a), some (.ref o), y2, y3, y4] ∧ EiL H H1 o us (addU [] (flatO (ts.take (i + 1)))), rt := Q } [some (.ref a), some (.ref o), some x, some (.ref q1), y4] H2 := by
      intro q1 ws1 y3 H2 e2 hq1 hqo hp1
      refine ⟨q1, rfl, ⟨ws1, sqL hq1⟩, for_list (K := K) (a := q1) (xs := ws1) (fun j σ H3 => ∃ y4 us, σ = [some (.ref a), some (.ref o), some x, some (.ref q1), y4] ∧ EiL H H3 o us (addU [] (flatO (ts.take i) ++ (seqO u).take j)) ∧ Kp H2 H3 ∧ H3 q1 = some (.lst ws1)) ⟨y4, us, rfl, by rw [List.take_zero, List.append_nil]; exact e2, Kp.refl _, hq1⟩ (fun j σ H3 _ ⟨_, _, _, _, _, h⟩ => sqL h) ?_ ?_⟩
      · rintro j w σ H3 hw ⟨y4, us, rfl, e3, kp, hq3⟩
        obtain ⟨z, hz, patz⟩ := hp1.get hw
        have patz := patz.keep kp
        have tkj : (seqO u).take (j + 1) = (seqO u).take j ++ [z] := by rw [List.take_add_one, hz]; rfl
        have hzm : z ∈ seqO u := List.mem_of_getElem? hz
        have hzf : z ∈ flatO ts := hin z (by rw [fl]; exact List.mem_append_right _ hzm)
        have ap : addU [] (flatO (ts.take i) ++ (seqO u).take (j + 1)) = addU1 (addU [] (flatO (ts.take i) ++ (seqO u).take j)) z := by
          rw [tkj, ← List.append_assoc, K02.addU_app]
          rfl
        have acc_m : ∀ b ∈ addU [] (flatO (ts.take i) ++ (seqO u).take j), b ∈ flatO ts := fun b hb => by
          obtain ⟨_, h2⟩ := K02.addU_spec (flatO (ts.take i) ++ (seqO u).take j) [] (by simp) (by simp)
          obtain ⟨_, b2⟩ := h2 b hb
          rcases b2 with b2 | b2
          · cases b2
          · refine hin b ?_
            rw [fl]
            rcases List.mem_append.mp b2 with b2 | b2
            · exact List.mem_append_left _ b2
            · exact List.mem_append_right _ (List.mem_of_mem_take b2)
        have acc_len : (addU [] (flatO (ts.take i) ++ (seqO u).take j)).length ≤ 100000 := by
          have h2 := addU_len [] (flatO (ts.take i) ++ (seqO u).take j)
          rw [fl, List.length_append] at hlen
          rw [List.length_append, List.length_take] at h2
          simp only [List.length_nil] at h2
          omega
        generalize hA : addU [] (flatO (ts.take i) ++ (seqO u).take j) = A at ap acc_m acc_len e3
        dsimp only [tSeq, tAsg, tIfS, tRet, tRetN, tDrop, tNext, tOp, tUn, tCons, tNil, tTup, tLst, tC, tCB, tCan, tCanW, tAnd, tOr, tNot, tB, tIf, uB, uAndV, uOrV, uNotV, uNeg, uV, gName, gSub, tAug, ipI, tPart, tNoPart, tSl, tBM, tBM0, uLen, uAbs, uInt, uAdd, uSub, uMod, uFdiv, uMul, uCmp, uLt, uLe, uGt, uGe, tFld, StX.tMakeR, tRz, tCanS, sFld, start, fin0, List.getElem?_cons_zero, List.getElem?_cons_succ, List.map_cons, List.map_nil, List.length_cons, List.length_nil, List.replicate, List.cons_append, List.nil_append, Nat.reduceSub, Nat.reduceAdd, List.set_cons_zero, List.set_cons_succ]
        refine ⟨by decide +kernel, fun p hp => ?_⟩
        have s4 := same_new (o := .tup [.str (sOf [48])]) hp
        have e4 : EiL H (upd H3 p (.tup [.str (sOf [48])])) o us A := ⟨e3.same.trans s4, s4 _ _ e3.row, e3.pats.keep (Same.kp s4)⟩
        have stay : addU1 A z = A → (∃ y4 us, [some (.ref a), some (.ref o), some x, some (.ref q1), some w] = [some (V.ref a), some (.ref o), some x, some (.ref q1), y4] ∧ EiL H (upd H3 p (.tup [.str (sOf [48])])) o us (addU [] (flatO (ts.take i) ++ (seqO u).take (j + 1))) ∧ Kp H2 (upd H3 p (.tup [.str (sOf [48])])) ∧ upd H3 p (.tup [.str (sOf [48])]) q1 = some (.lst ws1)) := fun e => ⟨_, us, rfl, by rw [ap, e]; exact e4, kp.trans (Same.kp s4), s4 _ _ hq3⟩
        refine ne_trees (t := z) (u := .z) (patz.keep (Same.kp s4)) (.z upd_same) (hasc z hzf) rfl (by simp [K02.depth]) fun b hb => ?_
        dsimp only
        refine ifB (fun eb => ?_) fun eb => ?_
        · have nz : z ≠ .z := hb.mp eb
          refine in_trees (neg := true) (patz.keep (Same.kp s4)) e4.row e4.pats (hasc z hzf) (fun t ht => hasc t (acc_m t ht)) (hdp z hzf) ?_
          have hzz : z.isZ = false := by
            cases z with
            | z => exact absurd rfl nz
            | _ => rfl
          show if (!decide (z ∈ A)) = true then _ else _
          by_cases hm : z ∈ A
          · rw [decide_eq_true hm]
            refine iteF (stay ?_)
            unfold addU1
            rw [if_pos (.inr hm)]
          · rw [decide_eq_false hm]
            refine iteT ?_
            have eA : addU1 A z = A ++ [z] := by
              unfold addU1
              rw [if_neg]
              rintro (h | h)
              · rw [hzz] at h; cases h
              · exact hm h
            have k5 : Kp (upd H3 p (.tup [.str (sOf [48])])) (upd (upd H3 p (.tup [.str (sOf [48])])) o (.lst (us ++ [w]))) := kp_lst e4.row
            refine app_ok2 e4.row (by rw [e4.pats.len]; omega) ⟨_, us ++ [w], rfl, ⟨fun b y hb => ?_, upd_same, ?_⟩, (kp.trans (Same.kp s4)).trans k5, ?_⟩
            · rw [upd_ne (ne_of_none hb ho)]
              exact e4.same b y hb
            · rw [ap, eA]
              exact (e4.pats.app (.cons (patz.keep (Same.kp s4)) .nil)).keep k5
            · rw [upd_ne hqo]
              exact s4 _ _ hq3
        · have ez : z = .z := by
            by_cases h : z = .z
            · exact h
            · rw [hb.mpr h] at eb; cases eb
          refine iteF (stay ?_)
          unfold addU1
          rw [if_pos (.inl (by rw [ez]; rfl))]
      · rintro σ H3 ⟨y4, us, rfl, e3, kp, _⟩
        rw [hp1.len, List.take_length, ← fl] at e3
        exact ⟨_, _, _, us, rfl, e3⟩
    dsimp only [tSeq, tAsg, tIfS, tRet, tRetN, tDrop, tNext, tOp, tUn, tCons, tNil, tTup, tLst, tC, tCB, tCan, tCanW, tAnd, tOr, tNot, tB, tIf, uB, uAndV, uOrV, uNotV, uNeg, uV, gName, gSub, tAug, ipI, tPart, tNoPart, tSl, tBM, tBM0, uLen, uAbs, uInt, uAdd, uSub, uMod, uFdiv, uMul, uCmp, uLt, uLe, uGt, uGe, tFld, StX.tMakeR, tRz, tCanS, sFld, start, fin0, List.getElem?_cons_zero, List.getElem?_cons_succ, List.map_cons, List.map_nil, List.length_cons, List.length_nil, List.replicate, List.cons_append, List.nil_append, Nat.reduceSub, Nat.reduceAdd, List.set_cons_zero, List.set_cons_succ]
    refine ⟨by decide +kernel, fun l1 n1 => ?_⟩
    have s2 := same_new (o := .lst [x]) n1
    have lt2 := lt1.keep (Same.kp s2)
    have e2 : EiL H (upd H1 l1 (.lst [x])) o us (addU [] (flatO (ts.take i))) := ⟨e1.same.trans s2, s2 _ _ e1.row, e1.pats.keep (Same.kp s2)⟩
    have n1o : l1 ≠ o := (ne_of_none e1.row n1).symm
    refine ix_hd lt2 ?_
    dsimp only [uEq]
    rw [dec_sOf]
    refine ifD (fun e => ?_) fun e => ?_
    · cases lt2 with
      | @o _ _ vs3 _ h1 h2 h3 =>
        refine ix_tup2 h1 (atI_nat (j := 1) rfl) ⟨_, .inr (sqT h2), fun l nl => ?_⟩
        have s3 := same_new (o := .lst vs3) nl
        refine inner l vs3 (.ref l) _ ⟨e2.same.trans s3, s3 _ _ e2.row, e2.pats.keep (Same.kp s3)⟩ upd_same (ne_of_none e2.row nl).symm (h3.keep (Same.kp s3))
      | _ => simp [hdc] at e
    · have es : seqO u = [u] := by
        cases u with
        | o => exact absurd rfl e
        | _ => rfl
      exact inner l1 [x] (.ref l1) _ e2 upd_same n1o (by rw [es]; exact .cons lt2 .nil)
  · rintro σ H1 ⟨y2, y3, y4, us, rfl, e1⟩
    rw [hw.len, List.take_length] at e1
    have pu := e1.pats
    have eo := e1.row
    have s1 := e1.same
    have lu := pu.len
    dsimp only [tSeq, tAsg, tIfS, tRet, tRetN, tDrop, tNext, tOp, tUn, tCons, tNil, tTup, tLst, tC, tCB, tCan, tCanW, tAnd, tOr, tNot, tB, tIf, uB, uAndV, uOrV, uNotV, uNeg, uV, gName, gSub, tAug, ipI, tPart, tNoPart, tSl, tBM, tBM0, uLen, uAbs, uInt, uAdd, uSub, uMod, uFdiv, uMul, uCmp, uLt, uLe, uGt, uGe, tFld, StX.tMakeR, tRz, tCanS, sFld, start, fin0, List.getElem?_cons_zero, List.getElem?_cons_succ, List.map_cons, List.map_nil, List.length_cons, List.length_nil, List.replicate, List.cons_append, List.nil_append, Nat.reduceSub, Nat.reduceAdd, List.set_cons_zero, List.set_cons_succ]
    have e2 : leither ts = K02.wrap .z .o (addU [] (flatO ts)) := rfl
    rw [e2] at q
    generalize addU [] (flatO ts) = f at pu lu q
    refine ⟨us, .inl (sqL eo), ?_⟩
    dsimp only [uEq]
    rw [len_zero]
    refine ifD (fun c0 => ?_) fun c0 => ?_
    · have : f = [] := List.eq_nil_of_length_eq_zero (by omega)
      subst this
      exact ⟨by decide +kernel, fun p2 hp2 => q _ _ (s1.trans (same_new hp2)) (.z upd_same)⟩
    · refine ⟨us, .inl (sqL eo), ?_⟩
      rw [len_one]
      refine ifD (fun c1 => ?_) fun c1 => ?_
      · obtain ⟨v, t, rfl, rfl, pt⟩ := lts_one pu c1
        exact ix_lst eo (atI_nat (j := 0) rfl) (q v _ s1 pt)
      · have ef : K02.wrap .z .o f = .o f := by
          match f, lu with
          | [], lu => simp only [List.length_nil] at lu; exact absurd lu c0
          | [_], lu => simp only [List.length_nil, List.length_cons] at lu; omega
          | a :: b :: r, _ => rfl
        rw [ef] at q
        refine ⟨us, sqL eo, fun l nl => ⟨by decide +kernel, fun p3 hp3 => ?_⟩⟩
        refine q _ _ ((s1.trans (same_new nl)).trans (same_new hp3)) (.o upd_same (get_new upd_same hp3) ((pu.keep (Same.kp (same_new nl))).keep (Same.kp (same_new hp3))))
end
end L2.WB
namespace L2.WB
open PySem PySem.Spec PyProof.Rows
open K02 (T isL isK isI lthen leither lagain wts sizes flatN flatO addU addU1)
def spLText (n : Nat) : Sp := fun vs H Q _ => ∃ v t, vs = [v] ∧ LT H v t ∧ K02.depth t ≤ n ∧ Ok t ∧ ∀ H2, Same H H2 → Q (.str (sOf (K02.text t))) H2
def spLDepth (n : Nat) : Sp := fun vs H Q _ => ∃ v t, vs = [v] ∧ LT H v t ∧ K02.depth t ≤ n ∧ K02.SF t ∧ K02.wt t ≤ 20000 ∧ ∀ H2, Same H H2 → Q (.int (K02.depth t)) H2
theorem okN {ts : List T} (h : Ok (.n ts)) : ∀ t ∈ ts, Ok t := fun t ht => by
  have h1 := h.sf
  have h2 := h.wt
  unfold K02.SF at h1
  simp only [K02.wt] at h2
  exact ⟨(K02.SFs_iff ts).mp h1.2.1 t ht, Nat.le_trans (wt_mem ht) h2⟩
theorem okO {ts : List T} (h : Ok (.o ts)) : ∀ t ∈ ts, Ok t := fun t ht => by
  have h1 := h.sf
  have h2 := h.wt
  unfold K02.SF at h1
  simp only [K02.wt] at h2
  exact ⟨(K02.SFs_iff ts).mp h1.2.1 t ht, Nat.le_trans (wt_mem ht) h2⟩
theorem okM {t : T} (h : Ok (.m t)) : Ok t := by
  have h1 := h.sf
  have h2 := h.wt
  unfold K02.SF at h1
  simp only [K02.wt] at h2
  exact ⟨h1.1, by omega⟩
theorem okN_ne {ts : List T} (h : K02.SF (.n ts)) : ts ≠ [] := fun e => by
  unfold K02.SF at h
  rw [e] at h
  simp at h
theorem okO_ne {ts : List T} (h : K02.SF (.o ts)) : ts ≠ [] := fun e => by
  unfold K02.SF at h
  rw [e] at h
  simp at h
theorem okN_len {ts : List T} (h : Ok (.n ts)) : ts.length ≤ 20000 := by
  have h1 := h.sf
  have h2 := h.wt
  unfold K02.SF at h1
  simp only [K02.wt] at h2
  have := K02.wts_big (ps := ts) fun p hp => K02.wt_pos ((K02.SFs_iff ts).mp h1.2.1 p hp) (h1.2.2 p hp).1
  omega
theorem okO_len {ts : List T} (h : Ok (.o ts)) : ts.length ≤ 20000 := by
  have h1 := h.sf
  have h2 := h.wt
  unfold K02.SF at h1
  simp only [K02.wt] at h2
  have := K02.wts_big (ps := ts) fun p hp => K02.wt_pos ((K02.SFs_iff ts).mp h1.2.1 p hp) (h1.2.2.2 p hp).1
  omega
section
variable {K : PySem.W.Frag} {c : Ad} {H : Hp} {Q : VK} {E : XK} {vs : List V} {v : V} {t : T}
theorem len_tup {a : Addr} {xs : List V} (h : H a = some (.tup xs)) (q : Q (.int xs.length) H) : ∃ ys, (SqL K H a ys ∨ SqT K H a ys) ∧ Q (.int ys.length) H := ⟨xs, .inr (sqT h), q⟩
theorem hd_isO (u : T) : decide (hdc u = [111]) = u.isO := by cases u <;> simp [hdc, T.isO]
theorem hd_isN (u : T) : decide (hdc u = [110]) = u.isN := by cases u <;> simp [hdc, T.isN]
theorem add_brk {x : List Nat} {R : Prop} (hx : x.length ≤ 200000) (r : R) : (sOf [40]).length + (sOf x).length ≤ sizeLine ∧ (sOf [40] ++ sOf x).length + (sOf [41]).length ≤ sizeLine ∧ R := by
  refine ⟨sl_ok (by rw [sOf_len, sOf_len]; simp only [List.length_cons, List.length_nil]; omega), ?_, r⟩
  rw [sOf_add]
  exact sl_ok (by rw [sOf_len, sOf_len]; simp only [List.length_append, List.length_cons, List.length_nil]; omega)
/-- for x in tree[1] -/
theorem for_ix1 {i : Nat} {a q : Addr} {x0 : V} {ws : List V} {g : TG} {tb : TS} {D : Ends} {σ : St} (hσ : σ[i]? = some (some (.ref a))) (h1 : H a = some (.tup [x0, .ref q])) (h2 : H q = some (.tup ws))
    (hW : ∃ W : Nat → Nat → St → Hp → Prop, (∃ m, W 0 m σ H) ∧ ∀ i m σ H, W i m σ H →
      ((Itt K q).stop i H ∧ D.nx σ H) ∨ ((Itt K q).go i H ∧ ∃ N : St → Hp → Prop, (∀ σ2 H2, N σ2 H2 → ∃ m2, m2 < m ∧ W (i + 1) m2 σ2 H2) ∧ ∀ x H2, (Itt K q).yld i H x H2 → g x σ H2 fun σ2 H2 => tb { D with nx := N, ct := N, bk := D.nx } σ2 H2)) :
    tFor (iTup K (tOp (uIx K) (uV i) (tC (.int 1)))) g tb D σ H := by
  have hu : ∀ R : VK, R (.ref a) H → uV i σ H R := fun R r => by
    unfold uV
    rw [hσ]
    exact r
  unfold tFor iTup tOp tC
  refine hu _ ?_
  refine ix_tup2 h1 (atI_nat (j := 1) rfl) ?_
  exact ⟨q, rfl, ⟨ws, sqT h2⟩, hW⟩
theorem q__law_text {n : Nat} (h : spLText (n + 1) vs H Q E) : t__law_text K c (spLText n) (fin0 Q) (start N__law_text vs) H := by
  obtain ⟨v, t, rfl, lt, hd, ok, q⟩ := h
  show t__law_text K c (spLText n) (fin0 Q) [some v, none, none, none] H
  have hlen := ok.len
  cases lt with
  | z h1 =>
    dsimp only [t__law_text, tSeq, tAsg, tIfS, tRet, tRetN, tDrop, tNext, tOp, tUn, tCons, tNil, tTup, tLst, tC, tCB, tCan, tCanW, tAnd, tOr, tNot, tB, tIf, uB, uAndV, uOrV, uNotV, uNeg, uV, gName, gSub, tAug, ipI, tPart, tNoPart, tSl, tBM, tBM0, uLen, uAbs, uInt, uAdd, uSub, uMod, uFdiv, uMul, uCmp, uLt, uLe, uGt, uGe, tFld, StX.tMakeR, tRz, tCanS, sFld, start, fin0, List.getElem?_cons_zero, List.getElem?_cons_succ, List.map_cons, List.map_nil, List.length_cons, List.length_nil, List.replicate, List.cons_append, List.nil_append, Nat.reduceSub, Nat.reduceAdd, List.set_cons_zero, List.set_cons_succ]
    refine ⟨_, .inr (sqT h1), ?_⟩
    dsimp only [uEq]
    exact ifT (by decide) (ix_tup2 h1 (atI_nat (j := 0) rfl) (by have := q H (Same.refl H); simpa [K02.text] using this))
  | s h1 =>
    dsimp only [t__law_text, tSeq, tAsg, tIfS, tRet, tRetN, tDrop, tNext, tOp, tUn, tCons, tNil, tTup, tLst, tC, tCB, tCan, tCanW, tAnd, tOr, tNot, tB, tIf, uB, uAndV, uOrV, uNotV, uNeg, uV, gName, gSub, tAug, ipI, tPart, tNoPart, tSl, tBM, tBM0, uLen, uAbs, uInt, uAdd, uSub, uMod, uFdiv, uMul, uCmp, uLt, uLe, uGt, uGe, tFld, StX.tMakeR, tRz, tCanS, sFld, start, fin0, List.getElem?_cons_zero, List.getElem?_cons_succ, List.map_cons, List.map_nil, List.length_cons, List.length_nil, List.replicate, List.cons_append, List.nil_append, Nat.reduceSub, Nat.reduceAdd, List.set_cons_zero, List.set_cons_succ]
    refine ⟨_, .inr (sqT h1), ?_⟩
    dsimp only [uEq]
    exact ifT (by decide) (ix_tup2 h1 (atI_nat (j := 0) rfl) (by have := q H (Same.refl H); simpa [K02.text] using this))
  | i h1 =>
    dsimp only [t__law_text, tSeq, tAsg, tIfS, tRet, tRetN, tDrop, tNext, tOp, tUn, tCons, tNil, tTup, tLst, tC, tCB, tCan, tCanW, tAnd, tOr, tNot, tB, tIf, uB, uAndV, uOrV, uNotV, uNeg, uV, gName, gSub, tAug, ipI, tPart, tNoPart, tSl, tBM, tBM0, uLen, uAbs, uInt, uAdd, uSub, uMod, uFdiv, uMul, uCmp, uLt, uLe, uGt, uGe, tFld, StX.tMakeR, tRz, tCanS, sFld, start, fin0, List.getElem?_cons_zero, List.getElem?_cons_succ, List.map_cons, List.map_nil, List.length_cons, List.length_nil, List.replicate, List.cons_append, List.nil_append, Nat.reduceSub, Nat.reduceAdd, List.set_cons_zero, List.set_cons_succ]
    refine ⟨_, .inr (sqT h1), ?_⟩
    dsimp only [uEq]
    refine ifF (decide_eq_false (by simp)) (ix_tup2 h1 (atI_nat (j := 0) rfl) ?_)
    dsimp only
    exact ifT (decide_eq_true rfl) (ix_tup2 h1 (atI_nat (j := 1) rfl) (by have := q H (Same.refl H); simpa [K02.text] using this))
  | @m a w b h1 h2 =>
    dsimp only [t__law_text, tSeq, tAsg, tIfS, tRet, tRetN, tDrop, tNext, tOp, tUn, tCons, tNil, tTup, tLst, tC, tCB, tCan, tCanW, tAnd, tOr, tNot, tB, tIf, uB, uAndV, uOrV, uNotV, uNeg, uV, gName, gSub, tAug, ipI, tPart, tNoPart, tSl, tBM, tBM0, uLen, uAbs, uInt, uAdd, uSub, uMod, uFdiv, uMul, uCmp, uLt, uLe, uGt, uGe, tFld, StX.tMakeR, tRz, tCanS, sFld, start, fin0, List.getElem?_cons_zero, List.getElem?_cons_succ, List.map_cons, List.map_nil, List.length_cons, List.length_nil, List.replicate, List.cons_append, List.nil_append, Nat.reduceSub, Nat.reduceAdd, List.set_cons_zero, List.set_cons_succ]
    refine ⟨_, .inr (sqT h1), ?_⟩
    dsimp only [uEq]
    refine ifF (decide_eq_false (by simp)) (ix_tup2 h1 (atI_nat (j := 0) rfl) ?_)
    dsimp only
    refine ifF (by rw [dec_sOf]; decide) (ix_tup2 h1 (atI_nat (j := 0) rfl) ?_)
    dsimp only
    refine ifT (decide_eq_true rfl) (ix_tup2 h1 (atI_nat (j := 1) rfl) ?_)
    have okb := okM ok
    have hlb := okb.len
    refine ⟨w, b, rfl, h2, by simp only [K02.depth] at hd; omega, okb, fun H2 s2 => ?_⟩
    have h12 := s2 _ _ h1
    have h22 := h2.keep (Same.kp s2)
    have et : K02.text (.m b) = K02.brk (b.isN || b.isO) (K02.text b) ++ [42] := by simp only [K02.text]
    have last : ∀ x : List Nat, x = K02.brk (b.isN || b.isO) (K02.text b) → (sOf x).length + (sOf [42]).length ≤ sizeLine ∧ Q (.str (sOf x ++ sOf [42])) H2 := fun x ex => by
      rw [sOf_add, ex, ← et]
      refine ⟨sl_ok ?_, q H2 s2⟩
      have := K02.brk_len (b.isN || b.isO) (K02.text b)
      rw [sOf_len, sOf_len]
      simp only [List.length_cons, List.length_nil]
      omega
    refine ix_tup2 h12 (atI_nat (j := 1) rfl) (ix_hd h22 ?_)
    dsimp only
    rw [dec_sOf, hd_isN]
    cases hN : b.isN with
    | true =>
      refine iteT (iteT (add_brk (by omega) ?_))
      rw [sOf_add, sOf_add]
      exact last _ (by rw [hN]; rfl)
    | false =>
      refine iteF (ix_tup2 h12 (atI_nat (j := 1) rfl) (ix_hd h22 ?_))
      dsimp only
      rw [dec_sOf, hd_isO]
      cases hO : b.isO with
      | true =>
        refine iteT (add_brk (by omega) ?_)
        rw [sOf_add, sOf_add]
        exact last _ (by rw [hN, hO]; rfl)
      | false => exact iteF (last _ (by rw [hN, hO]; rfl))
  | @n a q1 ws ts h1 h2 h3 =>
    dsimp only [t__law_text, tSeq, tAsg, tIfS, tRet, tRetN, tDrop, tNext, tOp, tUn, tCons, tNil, tTup, tLst, tC, tCB, tCan, tCanW, tAnd, tOr, tNot, tB, tIf, uB, uAndV, uOrV, uNotV, uNeg, uV, gName, gSub, tAug, ipI, tPart, tNoPart, tSl, tBM, tBM0, uLen, uAbs, uInt, uAdd, uSub, uMod, uFdiv, uMul, uCmp, uLt, uLe, uGt, uGe, tFld, StX.tMakeR, tRz, tCanS, sFld, start, fin0, List.getElem?_cons_zero, List.getElem?_cons_succ, List.map_cons, List.map_nil, List.length_cons, List.length_nil, List.replicate, List.cons_append, List.nil_append, Nat.reduceSub, Nat.reduceAdd, List.set_cons_zero, List.set_cons_succ]
    refine ⟨_, .inr (sqT h1), ?_⟩
    dsimp only [uEq]
    refine ifF (decide_eq_false (by simp)) (ix_tup2 h1 (atI_nat (j := 0) rfl) ?_)
    dsimp only
    refine ifF (by rw [dec_sOf]; decide) (ix_tup2 h1 (atI_nat (j := 0) rfl) ?_)
    dsimp only
    refine ifF (by rw [dec_sOf]; decide) ?_
    refine ⟨by decide +kernel, fun o no => ?_⟩
    have s0 := same_new (o := .lst []) no
    refine for_ix1 (i := 0) rfl (s0 _ _ h1) (s0 _ _ h2) (for_tup (K := K) (a := q1) (xs := ws) (fun i σ H1 => ∃ y2 y3, σ = [some (.ref a), some (.ref o), y2, y3] ∧ Same H H1 ∧ H1 o = some (.lst (tv ((ts.take i).map fun p => K02.brk p.isO (K02.text p))))) ⟨none, none, rfl, s0, upd_same⟩ (fun i σ H1 _ ⟨_, _, _, s1, _⟩ => sqT (s1 _ _ h2)) ?_ ?_)
    · rintro i x σ H1 hx ⟨y2, y3, rfl, s1, eo⟩
      obtain ⟨u, hu, ltu⟩ := h3.get hx
      have hum : u ∈ ts := List.mem_of_getElem? hu
      have oku := okN ok u hum
      have tk : ts.take (i + 1) = ts.take i ++ [u] := by rw [List.take_add_one, hu]; rfl
      have hi : i < ts.length := (List.getElem?_eq_some_iff.mp hu).1
      dsimp only [tSeq, tAsg, tIfS, tRet, tRetN, tDrop, tNext, tOp, tUn, tCons, tNil, tTup, tLst, tC, tCB, tCan, tCanW, tAnd, tOr, tNot, tB, tIf, uB, uAndV, uOrV, uNotV, uNeg, uV, gName, gSub, tAug, ipI, tPart, tNoPart, tSl, tBM, tBM0, uLen, uAbs, uInt, uAdd, uSub, uMod, uFdiv, uMul, uCmp, uLt, uLe, uGt, uGe, tFld, StX.tMakeR, tRz, tCanS, sFld, start, fin0, List.getElem?_cons_zero, List.getElem?_cons_succ, List.map_cons, List.map_nil, List.length_cons, List.length_nil, List.replicate, List.cons_append, List.nil_append, Nat.reduceSub, Nat.reduceAdd, List.set_cons_zero, List.set_cons_succ]
      refine ⟨x, u, rfl, ltu.keep (Same.kp s1), by have := K02.depth_part hum; omega, oku, fun H2 s2 => ?_⟩
      have s12 := s1.trans s2
      have eo2 := s2 _ _ eo
      have ltu2 := ltu.keep (Same.kp s12)
      have ap : ∀ y : List Nat, y = K02.brk u.isO (K02.text u) → tyV K "list" (.ref o) H2 ∧ uApp (.ref o) [.str (sOf y)] H2 fun x_1 H1 => ∃ y2 y3, [some (V.ref a), some (.ref o), some x, some (.str (sOf y))] = [some (.ref a), some (.ref o), y2, y3] ∧ Same H H1 ∧ H1 o = some (.lst (tv ((ts.take (i + 1)).map fun p => K02.brk p.isO (K02.text p)))) := fun y ey => by
        refine app_ok2 eo2 ?_ ⟨_, _, rfl, fun b z hb => ?_, ?_⟩
        · rw [tv_len, List.length_map, List.length_take]
          have := okN_len ok
          omega
        · rw [upd_ne (ne_of_none hb no)]
          exact s12 b z hb
        · rw [upd_same, tk, List.map_append, tv_app, ey]
          rfl
      refine ix_tup2 (s12 _ _ h1) (atI_nat (j := 0) rfl) ?_
      dsimp only [uEq]
      refine ifT (by rw [dec_sOf]; decide) ?_
      refine ix_hd ltu2 ?_
      dsimp only
      rw [dec_sOf, hd_isO]
      cases hO : u.isO with
      | true =>
        have := oku.len
        refine iteT (add_brk (by omega) ?_)
        rw [sOf_add, sOf_add]
        exact ap _ (by rw [hO]; rfl)
      | false => exact iteF (ap _ (by rw [hO]; rfl))
    · rintro σ H1 ⟨y2, y3, rfl, s1, eo⟩
      rw [h3.len, List.take_length] at eo
      dsimp only [tSeq, tAsg, tIfS, tRet, tRetN, tDrop, tNext, tOp, tUn, tCons, tNil, tTup, tLst, tC, tCB, tCan, tCanW, tAnd, tOr, tNot, tB, tIf, uB, uAndV, uOrV, uNotV, uNeg, uV, gName, gSub, tAug, ipI, tPart, tNoPart, tSl, tBM, tBM0, uLen, uAbs, uInt, uAdd, uSub, uMod, uFdiv, uMul, uCmp, uLt, uLe, uGt, uGe, tFld, StX.tMakeR, tRz, tCanS, sFld, start, fin0, List.getElem?_cons_zero, List.getElem?_cons_succ, List.map_cons, List.map_nil, List.length_cons, List.length_nil, List.replicate, List.cons_append, List.nil_append, Nat.reduceSub, Nat.reduceAdd, List.set_cons_zero, List.set_cons_succ]
      refine ix_tup2 (s1 _ _ h1) (atI_nat (j := 0) rfl) ?_
      have et : K02.text (.n ts) = K02.joinL [32] (ts.map fun p => K02.brk p.isO (K02.text p)) := by simp only [K02.text]; rw [K02.textsN_map]
      have ejl := K02.joinL_len (a := 1) (sep := [32]) rfl (ts.map fun p => K02.brk p.isO (K02.text p)) (by intro e; rw [List.map_eq_nil_iff] at e; exact okN_ne ok.sf e)
      rw [List.length_map, ← et] at ejl
      have := okN_len ok
      dsimp only [uEq]
      refine ifT (by rw [dec_sOf]; decide) ?_
      refine (join_ok3 (sep := [32]) (i := 1) rfl eo (by rw [List.length_map, show ([32] : List Nat).length = 1 from rfl]; omega) ?_)
      rw [← et]
      exact q H1 s1
  | @o a q1 ws ts h1 h2 h3 =>
    dsimp only [t__law_text, tSeq, tAsg, tIfS, tRet, tRetN, tDrop, tNext, tOp, tUn, tCons, tNil, tTup, tLst, tC, tCB, tCan, tCanW, tAnd, tOr, tNot, tB, tIf, uB, uAndV, uOrV, uNotV, uNeg, uV, gName, gSub, tAug, ipI, tPart, tNoPart, tSl, tBM, tBM0, uLen, uAbs, uInt, uAdd, uSub, uMod, uFdiv, uMul, uCmp, uLt, uLe, uGt, uGe, tFld, StX.tMakeR, tRz, tCanS, sFld, start, fin0, List.getElem?_cons_zero, List.getElem?_cons_succ, List.map_cons, List.map_nil, List.length_cons, List.length_nil, List.replicate, List.cons_append, List.nil_append, Nat.reduceSub, Nat.reduceAdd, List.set_cons_zero, List.set_cons_succ]
    refine ⟨_, .inr (sqT h1), ?_⟩
    dsimp only [uEq]
    refine ifF (decide_eq_false (by simp)) (ix_tup2 h1 (atI_nat (j := 0) rfl) ?_)
    dsimp only
    refine ifF (by rw [dec_sOf]; decide) (ix_tup2 h1 (atI_nat (j := 0) rfl) ?_)
    dsimp only
    refine ifF (by rw [dec_sOf]; decide) ?_
    refine ⟨by decide +kernel, fun o no => ?_⟩
    have s0 := same_new (o := .lst []) no
    refine for_ix1 (i := 0) rfl (s0 _ _ h1) (s0 _ _ h2) (for_tup (K := K) (a := q1) (xs := ws) (fun i σ H1 => ∃ y2 y3, σ = [some (.ref a), some (.ref o), y2, y3] ∧ Same H H1 ∧ H1 o = some (.lst (tv ((ts.take i).map K02.text)))) ⟨none, none, rfl, s0, upd_same⟩ (fun i σ H1 _ ⟨_, _, _, s1, _⟩ => sqT (s1 _ _ h2)) ?_ ?_)
    · rintro i x σ H1 hx ⟨y2, y3, rfl, s1, eo⟩
      obtain ⟨u, hu, ltu⟩ := h3.get hx
      have hum : u ∈ ts := List.mem_of_getElem? hu
      have oku := okO ok u hum
      have tk : ts.take (i + 1) = ts.take i ++ [u] := by rw [List.take_add_one, hu]; rfl
      have hi : i < ts.length := (List.getElem?_eq_some_iff.mp hu).1
      dsimp only [tSeq, tAsg, tIfS, tRet, tRetN, tDrop, tNext, tOp, tUn, tCons, tNil, tTup, tLst, tC, tCB, tCan, tCanW, tAnd, tOr, tNot, tB, tIf, uB, uAndV, uOrV, uNotV, uNeg, uV, gName, gSub, tAug, ipI, tPart, tNoPart, tSl, tBM, tBM0, uLen, uAbs, uInt, uAdd, uSub, uMod, uFdiv, uMul, uCmp, uLt, uLe, uGt, uGe, tFld, StX.tMakeR, tRz, tCanS, sFld, start, fin0, List.getElem?_cons_zero, List.getElem?_cons_succ, List.map_cons, List.map_nil, List.length_cons, List.length_nil, List.replicate, List.cons_append, List.nil_append, Nat.reduceSub, Nat.reduceAdd, List.set_cons_zero, List.set_cons_succ]
      refine ⟨x, u, rfl, ltu.keep (Same.kp s1), by have := K02.depth_partO hum; omega, oku, fun H2 s2 => ?_⟩
      have s12 := s1.trans s2
      have eo2 := s2 _ _ eo
      refine ix_tup2 (s12 _ _ h1) (atI_nat (j := 0) rfl) ?_
      dsimp only [uEq]
      refine ifF (by rw [dec_sOf]; decide) ?_
      refine iteF (app_ok2 eo2 ?_ ⟨_, _, rfl, fun b z hb => ?_, ?_⟩)
      · rw [tv_len, List.length_map, List.length_take]
        have := okO_len ok
        omega
      · rw [upd_ne (ne_of_none hb no)]
        exact s12 b z hb
      · rw [upd_same, tk, List.map_append, tv_app]
        rfl
    · rintro σ H1 ⟨y2, y3, rfl, s1, eo⟩
      rw [h3.len, List.take_length] at eo
      dsimp only [tSeq, tAsg, tIfS, tRet, tRetN, tDrop, tNext, tOp, tUn, tCons, tNil, tTup, tLst, tC, tCB, tCan, tCanW, tAnd, tOr, tNot, tB, tIf, uB, uAndV, uOrV, uNotV, uNeg, uV, gName, gSub, tAug, ipI, tPart, tNoPart, tSl, tBM, tBM0, uLen, uAbs, uInt, uAdd, uSub, uMod, uFdiv, uMul, uCmp, uLt, uLe, uGt, uGe, tFld, StX.tMakeR, tRz, tCanS, sFld, start, fin0, List.getElem?_cons_zero, List.getElem?_cons_succ, List.map_cons, List.map_nil, List.length_cons, List.length_nil, List.replicate, List.cons_append, List.nil_append, Nat.reduceSub, Nat.reduceAdd, List.set_cons_zero, List.set_cons_succ]
      refine ix_tup2 (s1 _ _ h1) (atI_nat (j := 0) rfl) ?_
      have et : K02.text (.o ts) = K02.joinL [32, 124, 32] (ts.map K02.text) := by simp only [K02.text]; rw [K02.textsO_map]
      have ejl := K02.joinL_len (a := 3) (sep := [32, 124, 32]) rfl (ts.map K02.text) (by intro e; rw [List.map_eq_nil_iff] at e; exact okO_ne ok.sf e)
      rw [List.length_map, ← et] at ejl
      have := okO_len ok
      dsimp only [uEq]
      refine ifF (by rw [dec_sOf]; decide) ?_
      refine (join_ok3 (sep := [32, 124, 32]) (i := 1) rfl eo (by rw [List.length_map, show ([32, 124, 32] : List Nat).length = 3 from rfl]; omega) ?_)
      rw [← et]
      exact q H1 s1
end
end L2.WB
namespace L2.WB
open PySem PySem.Spec PyProof.Rows
abbrev s__law_read : Stmt := top 49
abbrev N__law_read : List Str := ["text", "alts", "seqs", "where", "items", "at", "sign", "ready", "last"]
theorem sc__law_read : FnScope N__law_read ["text"] (defScope s__law_read) := ⟨rfl, rfl, rfl, by decide +kernel, rfl, by decide +kernel, by decide +kernel⟩
def t__law_read (K : PySem.W.Frag) (c : Ad) (p_law_again p_law_then p_law_either : Sp) : TS :=
  (tSeq (tAsg (tLst (tCons (tLst tNil) tNil)) (gName 1)) (tSeq (tAsg (tLst (tCons (tLst tNil) tNil)) (gName 2)) (tSeq (tAsg (tC (.str (sOf [110, 101, 101, 100]))) (gName 3)) (tSeq (tAsg (tC (.int 0)) (gName 4)) (tSeq (tFor (iRng1 (tCons (tCB (uLen K) (tCons (uV 0) tNil)) tNil)) (gName 5) (tSeq (tAsg (tOp (uIx K) (uV 0) (uV 5)) (gName 6)) (tSeq (tAsg (uOrV (tOp (uEq K) (uV 3) (tC (.str (sOf [108, 101, 116, 116, 101, 114])))) (uOrV (tOp (uEq K) (uV 3) (tC (.str (sOf [98, 97, 115, 101])))) (tOp (uEq K) (uV 3) (tC (.str (sOf [115, 116, 97, 114])))))) (gName 7)) (tIfS (uB (tOp (uEq K) (uV 3) (tC (.str (sOf [109, 97, 114, 107]))))) (tSeq (tIfS (uB (tOp (uIn K true) (uV 6) (tC (.str (sOf uppers))))) (tRet (tTup (tCons (uV 5) (tCons (tTup (tCons (tC (.str (sOf [48]))) tNil)) (tCons (uV 4) tNil))))) tNext) (tSeq (tDrop (tBM K "list" uApp (tOp (uIx K) (uV 2) (tUn uNeg (tC (.int 1)))) (tCons (tTup (tCons (tC (.str (sOf [105]))) (tCons (tOp (uAdd K) (tC (.str (sOf [63]))) (uV 6)) tNil))) tNil))) (tSeq (tAsg (tOp (uAdd K) (uV 4) (tC (.int 1))) (gName 4)) (tAsg (tC (.str (sOf [98, 97, 115, 101]))) (gName 3))))) (tIfS (uB (tOp (uEq K) (uV 6) (tC (.str (sOf [32]))))) (tIfS (uB (tOp (uEq K) (uV 3) (tC (.str (sOf [108, 101, 116, 116, 101, 114]))))) (tAsg (tC (.str (sOf [98, 97, 115, 101]))) (gName 3)) tNext) (tIfS (tAnd (uB (tOp (uEq K) (uV 6) (tC (.str (sOf [39]))))) (uB (tOp (uEq K) (uV 3) (tC (.str (sOf [108, 101, 116, 116, 101, 114])))))) (tSeq (tAsg (tBM0 K "list" uPop (tOp (uIx K) (uV 2) (tUn uNeg (tC (.int 1))))) (gName 8)) (tSeq (tDrop (tBM K "list" uApp (tOp (uIx K) (uV 2) (tUn uNeg (tC (.int 1)))) (tCons (tTup (tCons (tC (.str (sOf [105]))) (tCons (tOp (uAdd K) (tOp (uIx K) (uV 8) (tC (.int 1))) (tC (.str (sOf [39])))) tNil))) tNil))) (tAsg (tC (.str (sOf [98, 97, 115, 101]))) (gName 3)))) (tIfS (tAnd (uB (tOp (uEq K) (uV 6) (tC (.str (sOf [42]))))) (tAnd (uB (uV 7)) (uB (tOp (uNe K) (uV 3) (tC (.str (sOf [115, 116, 97, 114]))))))) (tSeq (tDrop (tBM K "list" uApp (tOp (uIx K) (uV 2) (tUn uNeg (tC (.int 1)))) (tCons (tCan p_law_again E0 (tCons (tBM0 K "list" uPop (tOp (uIx K) (uV 2) (tUn uNeg (tC (.int 1))))) tNil)) tNil))) (tAsg (tC (.str (sOf [115, 116, 97, 114]))) (gName 3))) (tIfS (tAnd (uB (tOp (uEq K) (uV 6) (tC (.str (sOf [124]))))) (uB (uV 7))) (tSeq (tDrop (tBM K "list" uApp (tOp (uIx K) (uV 1) (tUn uNeg (tC (.int 1)))) (tCons (tCan p_law_then E0 (tCons (tBM0 K "list" uPop (uV 2)) tNil)) tNil))) (tSeq (tDrop (tBM K "list" uApp (uV 2) (tCons (tLst tNil) tNil))) (tAsg (tC (.str (sOf [110, 101, 101, 100]))) (gName 3)))) (tIfS (tAnd (uB (tOp (uEq K) (uV 6) (tC (.str (sOf [41]))))) (tAnd (uB (uV 7)) (uB (tOp (uGt) (tCB (uLen K) (tCons (uV 1) tNil)) (tC (.int 1)))))) (tSeq (tDrop (tBM K "list" uApp (tOp (uIx K) (uV 1) (tUn uNeg (tC (.int 1)))) (tCons (tCan p_law_then E0 (tCons (tBM0 K "list" uPop (uV 2)) tNil)) tNil))) (tSeq (tDrop (tBM K "list" uApp (tOp (uIx K) (uV 2) (tUn uNeg (tC (.int 1)))) (tCons (tCan p_law_either E0 (tCons (tBM0 K "list" uPop (uV 1)) tNil)) tNil))) (tAsg (tC (.str (sOf [98, 97, 115, 101]))) (gName 3)))) (tIfS (tAnd (uB (tOp (uEq K) (uV 6) (tC (.str (sOf [40]))))) (uB (tOp (uLt) (tCB (uLen K) (tCons (uV 1) tNil)) (tC (.int 61))))) (tSeq (tDrop (tBM K "list" uApp (uV 1) (tCons (tLst tNil) tNil))) (tSeq (tDrop (tBM K "list" uApp (uV 2) (tCons (tLst tNil) tNil))) (tAsg (tC (.str (sOf [110, 101, 101, 100]))) (gName 3)))) (tIfS (uB (tOp (uEq K) (uV 6) (tC (.str (sOf [63]))))) (tAsg (tC (.str (sOf [109, 97, 114, 107]))) (gName 3)) (tIfS (uB (tOp (uIn K false) (uV 6) (tC (.str (sOf lowers))))) (tSeq (tDrop (tBM K "list" uApp (tOp (uIx K) (uV 2) (tUn uNeg (tC (.int 1)))) (tCons (tTup (tCons (tC (.str (sOf [105]))) (tCons (uV 6) tNil))) tNil))) (tSeq (tAsg (tOp (uAdd K) (uV 4) (tC (.int 1))) (gName 4)) (tAsg (tC (.str (sOf [108, 101, 116, 116, 101, 114]))) (gName 3)))) (tIfS (tOr (uB (tOp (uEq K) (uV 6) (tC (.str (sOf [48]))))) (uB (tOp (uEq K) (uV 6) (tC (.str (sOf [49])))))) (tSeq (tDrop (tBM K "list" uApp (tOp (uIx K) (uV 2) (tUn uNeg (tC (.int 1)))) (tCons (tTup (tCons (uV 6) tNil)) tNil))) (tAsg (tC (.str (sOf [98, 97, 115, 101]))) (gName 3))) (tRet (tTup (tCons (uV 5) (tCons (tTup (tCons (tC (.str (sOf [48]))) tNil)) (tCons (uV 4) tNil)))))))))))))))))) (tSeq (tIfS (tOr (uB (tOp (uEq K) (uV 3) (tC (.str (sOf [110, 101, 101, 100]))))) (tOr (uB (tOp (uEq K) (uV 3) (tC (.str (sOf [109, 97, 114, 107]))))) (uB (tOp (uGt) (tCB (uLen K) (tCons (uV 1) tNil)) (tC (.int 1)))))) (tRet (tTup (tCons (tCB (uLen K) (tCons (uV 0) tNil)) (tCons (tTup (tCons (tC (.str (sOf [48]))) tNil)) (tCons (uV 4) tNil))))) tNext) (tSeq (tDrop (tBM K "list" uApp (tOp (uIx K) (uV 1) (tUn uNeg (tC (.int 1)))) (tCons (tCan p_law_then E0 (tCons (tBM0 K "list" uPop (uV 2)) tNil)) tNil))) (tRet (tTup (tCons (tUn uNeg (tC (.int 1))) (tCons (tCan p_law_either E0 (tCons (tBM0 K "list" uPop (uV 1)) tNil)) (tCons (uV 4) tNil))))))))))))
theorem d__law_read {P : Program} {w : World} {K : PySem.W.Frag} {mg : Str → Option Value} {base : Heap} {f : Addr} {cdv : Value} {A : Around} {outer : List Env} {s0 : Shared} {H0 : Hp} {E : XK} {c : Ad} {p_law_again p_law_then p_law_either : Sp} {k : Nat} (T : Txt K mg c) (hr : Room (k + 1) (X0 P w K mg base N__law_read "_law_read" s__law_read f cdv A outer s0 H0 E).A) (h__law_again : Has P w K mg base CX0 k "_law_again" p_law_again) (h__law_then : Has P w K mg base CX0 k "_law_then" p_law_then) (h__law_either : Has P w K mg base CX0 k "_law_either" p_law_either) :
    PSs (X0 P w K mg base N__law_read "_law_read" s__law_read f cdv A outer s0 H0 E) (defBody s__law_read) (t__law_read K c p_law_again p_law_then p_law_either) := by
  have hu := hu201 hr
  have hu2 := hu202 hr
  have po : PassesOwn (model (X0 P w K mg base N__law_read "_law_read" s__law_read f cdv A outer s0 H0 E).prog (X0 P w K mg base N__law_read "_law_read" s__law_read f cdv A outer s0 H0 E).w) (X0 P w K mg base N__law_read "_law_read" s__law_read f cdv A outer s0 H0 E).A (X0 P w K mg base N__law_read "_law_read" s__law_read f cdv A outer s0 H0 E).env (X0 P w K mg base N__law_read "_law_read" s__law_read f cdv A outer s0 H0 E).xe := PassesOwn.never
  exact (pss_cons (ps_set (i := 1) sc__law_read.nd rfl (Or.inl rfl) (pe_lst (pa_cons (pe_lst pa_nil) pa_nil))) (pss_cons (ps_set (i := 2) sc__law_read.nd rfl (Or.inl rfl) (pe_lst (pa_cons (pe_lst pa_nil) pa_nil))) (pss_cons (ps_set (i := 3) sc__law_read.nd rfl (Or.inl rfl) (pe_lit (l := [110, 101, 101, 100]) (by decide +kernel))) (pss_cons (ps_set (i := 4) sc__law_read.nd rfl (Or.inl rfl) pe_int) (pss_cons (ps_for po rfl (pi_range1 (by rfl) T.range (pa_cons (pe_callB cr_uLen (by rfl) T.len (by decide +kernel) (pa_cons (pe_uv 0) pa_nil)) pa_nil)) (pg_name (i := 5) sc__law_read.nd rfl (Or.inl rfl)) (pss_cons (ps_set (i := 6) sc__law_read.nd rfl (Or.inl rfl) (pe_ix ix_u (pe_uv 0) (pe_uv 5) (fun _ _ => rfl))) (pss_cons (ps_set (i := 7) sc__law_read.nd rfl (Or.inl rfl) (pe_orU (pe_cmpR (op_uEq hu) (pe_uv 3) (pe_lit (l := [108, 101, 116, 116, 101, 114]) (by decide +kernel)) (nomark _)) (pe_orU (pe_cmpR (op_uEq hu) (pe_uv 3) (pe_lit (l := [98, 97, 115, 101]) (by decide +kernel)) (nomark _)) (pe_one (pe_cmpR (op_uEq hu) (pe_uv 3) (pe_lit (l := [115, 116, 97, 114]) (by decide +kernel)) (nomark _)))))) (pss_one (ps_if (pt_uc (op_uEq hu) (pe_uv 3) (pe_lit (l := [109, 97, 114, 107]) (by decide +kernel)) (nomark _)) (pss_cons (ps_if (pt_uc (op_uNotIn hu2) (pe_uv 6) (pe_lit (l := uppers) (by decide +kernel)) rfl) (pss_one (ps_ret (pe_tup (pa_cons (pe_uv 5) (pa_cons (pe_tup (pa_cons (pe_lit (l := [48]) (by decide +kernel)) pa_nil)) (pa_cons (pe_uv 4) pa_nil)))))) pss_nil) (pss_cons (ps_expr (pe_app (pe_ix ix_u (pe_uv 2) (pe_un un_uNeg pe_int) (fun _ _ => rfl)) (pa_cons (pe_tup (pa_cons (pe_lit (l := [105]) (by decide +kernel)) (pa_cons (pe_op op_uAdd (pe_lit (l := [63]) (by decide +kernel)) (pe_uv 6)) pa_nil))) pa_nil))) (pss_cons (ps_set (i := 4) sc__law_read.nd rfl (Or.inl rfl) (pe_op op_uAdd (pe_uv 4) pe_int)) (pss_one (ps_set (i := 3) sc__law_read.nd rfl (Or.inl rfl) (pe_lit (l := [98, 97, 115, 101]) (by decide +kernel))))))) (pss_one (ps_if (pt_uc (op_uEq hu) (pe_uv 6) (pe_lit (l := [32]) (by decide +kernel)) (nomark _)) (pss_one (ps_if (pt_uc (op_uEq hu) (pe_uv 3) (pe_lit (l := [108, 101, 116, 116, 101, 114]) (by decide +kernel)) (nomark _)) (pss_one (ps_set (i := 3) sc__law_read.nd rfl (Or.inl rfl) (pe_lit (l := [98, 97, 115, 101]) (by decide +kernel)))) pss_nil)) (pss_one (ps_if (PW.pt (pw_and (pt_uc (op_uEq hu) (pe_uv 6) (pe_lit (l := [39]) (by decide +kernel)) (nomark _)) (pw_and1 (pt_uc (op_uEq hu) (pe_uv 3) (pe_lit (l := [108, 101, 116, 116, 101, 114]) (by decide +kernel)) (nomark _))))) (pss_cons (ps_set (i := 8) sc__law_read.nd rfl (Or.inl rfl) (pe_pop (pe_ix ix_u (pe_uv 2) (pe_un un_uNeg pe_int) (fun _ _ => rfl)))) (pss_cons (ps_expr (pe_app (pe_ix ix_u (pe_uv 2) (pe_un un_uNeg pe_int) (fun _ _ => rfl)) (pa_cons (pe_tup (pa_cons (pe_lit (l := [105]) (by decide +kernel)) (pa_cons (pe_op op_uAdd (pe_ix ix_u (pe_uv 8) pe_int (fun _ _ => rfl)) (pe_lit (l := [39]) (by decide +kernel))) pa_nil))) pa_nil))) (pss_one (ps_set (i := 3) sc__law_read.nd rfl (Or.inl rfl) (pe_lit (l := [98, 97, 115, 101]) (by decide +kernel)))))) (pss_one (ps_if (PW.pt (pw_and (pt_uc (op_uEq hu) (pe_uv 6) (pe_lit (l := [42]) (by decide +kernel)) (nomark _)) (pw_and (pt_u (pe_uv 7)) (pw_and1 (pt_uc (op_uNe hu) (pe_uv 3) (pe_lit (l := [115, 116, 97, 114]) (by decide +kernel)) (nomark _)))))) (pss_cons (ps_expr (pe_app (pe_ix ix_u (pe_uv 2) (pe_un un_uNeg pe_int) (fun _ _ => rfl)) (pa_cons (pe_can (h__law_again.can hr) (pa_cons (pe_pop (pe_ix ix_u (pe_uv 2) (pe_un un_uNeg pe_int) (fun _ _ => rfl))) pa_nil)) pa_nil))) (pss_one (ps_set (i := 3) sc__law_read.nd rfl (Or.inl rfl) (pe_lit (l := [115, 116, 97, 114]) (by decide +kernel))))) (pss_one (ps_if (PW.pt (pw_and (pt_uc (op_uEq hu) (pe_uv 6) (pe_lit (l := [124]) (by decide +kernel)) (nomark _)) (pw_and1 (pt_u (pe_uv 7))))) (pss_cons (ps_expr (pe_app (pe_ix ix_u (pe_uv 1) (pe_un un_uNeg pe_int) (fun _ _ => rfl)) (pa_cons (pe_can (h__law_then.can hr) (pa_cons (pe_pop (pe_uv 2)) pa_nil)) pa_nil))) (pss_cons (ps_expr (pe_app (pe_uv 2) (pa_cons (pe_lst pa_nil) pa_nil))) (pss_one (ps_set (i := 3) sc__law_read.nd rfl (Or.inl rfl) (pe_lit (l := [110, 101, 101, 100]) (by decide +kernel)))))) (pss_one (ps_if (PW.pt (pw_and (pt_uc (op_uEq hu) (pe_uv 6) (pe_lit (l := [41]) (by decide +kernel)) (nomark _)) (pw_and (pt_u (pe_uv 7)) (pw_and1 (pt_uc op_uGt (pe_callB cr_uLen (by rfl) T.len (by decide +kernel) (pa_cons (pe_uv 1) pa_nil)) pe_int (nomark _)))))) (pss_cons (ps_expr (pe_app (pe_ix ix_u (pe_uv 1) (pe_un un_uNeg pe_int) (fun _ _ => rfl)) (pa_cons (pe_can (h__law_then.can hr) (pa_cons (pe_pop (pe_uv 2)) pa_nil)) pa_nil))) (pss_cons (ps_expr (pe_app (pe_ix ix_u (pe_uv 2) (pe_un un_uNeg pe_int) (fun _ _ => rfl)) (pa_cons (pe_can (h__law_either.can hr) (pa_cons (pe_pop (pe_uv 1)) pa_nil)) pa_nil))) (pss_one (ps_set (i := 3) sc__law_read.nd rfl (Or.inl rfl) (pe_lit (l := [98, 97, 115, 101]) (by decide +kernel)))))) (pss_one (ps_if (PW.pt (pw_and (pt_uc (op_uEq hu) (pe_uv 6) (pe_lit (l := [40]) (by decide +kernel)) (nomark _)) (pw_and1 (pt_uc op_uLt (pe_callB cr_uLen (by rfl) T.len (by decide +kernel) (pa_cons (pe_uv 1) pa_nil)) pe_int (nomark _))))) (pss_cons (ps_expr (pe_app (pe_uv 1) (pa_cons (pe_lst pa_nil) pa_nil))) (pss_cons (ps_expr (pe_app (pe_uv 2) (pa_cons (pe_lst pa_nil) pa_nil))) (pss_one (ps_set (i := 3) sc__law_read.nd rfl (Or.inl rfl) (pe_lit (l := [110, 101, 101, 100]) (by decide +kernel)))))) (pss_one (ps_if (pt_uc (op_uEq hu) (pe_uv 6) (pe_lit (l := [63]) (by decide +kernel)) (nomark _)) (pss_one (ps_set (i := 3) sc__law_read.nd rfl (Or.inl rfl) (pe_lit (l := [109, 97, 114, 107]) (by decide +kernel)))) (pss_one (ps_if (pt_uc (op_uIn hu2) (pe_uv 6) (pe_lit (l := lowers) (by decide +kernel)) rfl) (pss_cons (ps_expr (pe_app (pe_ix ix_u (pe_uv 2) (pe_un un_uNeg pe_int) (fun _ _ => rfl)) (pa_cons (pe_tup (pa_cons (pe_lit (l := [105]) (by decide +kernel)) (pa_cons (pe_uv 6) pa_nil))) pa_nil))) (pss_cons (ps_set (i := 4) sc__law_read.nd rfl (Or.inl rfl) (pe_op op_uAdd (pe_uv 4) pe_int)) (pss_one (ps_set (i := 3) sc__law_read.nd rfl (Or.inl rfl) (pe_lit (l := [108, 101, 116, 116, 101, 114]) (by decide +kernel)))))) (pss_one (ps_if (PW.pt (pw_or (pt_uc (op_uEq hu) (pe_uv 6) (pe_lit (l := [48]) (by decide +kernel)) (nomark _)) (pw_or1 (pt_uc (op_uEq hu) (pe_uv 6) (pe_lit (l := [49]) (by decide +kernel)) (nomark _))))) (pss_cons (ps_expr (pe_app (pe_ix ix_u (pe_uv 2) (pe_un un_uNeg pe_int) (fun _ _ => rfl)) (pa_cons (pe_tup (pa_cons (pe_uv 6) pa_nil)) pa_nil))) (pss_one (ps_set (i := 3) sc__law_read.nd rfl (Or.inl rfl) (pe_lit (l := [98, 97, 115, 101]) (by decide +kernel))))) (pss_one (ps_ret (pe_tup (pa_cons (pe_uv 5) (pa_cons (pe_tup (pa_cons (pe_lit (l := [48]) (by decide +kernel)) pa_nil)) (pa_cons (pe_uv 4) pa_nil))))))))))))))))))))))))))))) (pss_cons (ps_if (PW.pt (pw_or (pt_uc (op_uEq hu) (pe_uv 3) (pe_lit (l := [110, 101, 101, 100]) (by decide +kernel)) (nomark _)) (pw_or (pt_uc (op_uEq hu) (pe_uv 3) (pe_lit (l := [109, 97, 114, 107]) (by decide +kernel)) (nomark _)) (pw_or1 (pt_uc op_uGt (pe_callB cr_uLen (by rfl) T.len (by decide +kernel) (pa_cons (pe_uv 1) pa_nil)) pe_int (nomark _)))))) (pss_one (ps_ret (pe_tup (pa_cons (pe_callB cr_uLen (by rfl) T.len (by decide +kernel) (pa_cons (pe_uv 0) pa_nil)) (pa_cons (pe_tup (pa_cons (pe_lit (l := [48]) (by decide +kernel)) pa_nil)) (pa_cons (pe_uv 4) pa_nil)))))) pss_nil) (pss_cons (ps_expr (pe_app (pe_ix ix_u (pe_uv 1) (pe_un un_uNeg pe_int) (fun _ _ => rfl)) (pa_cons (pe_can (h__law_then.can hr) (pa_cons (pe_pop (pe_uv 2)) pa_nil)) pa_nil))) (pss_one (ps_ret (pe_tup (pa_cons (pe_un un_uNeg pe_int) (pa_cons (pe_can (h__law_either.can hr) (pa_cons (pe_pop (pe_uv 1)) pa_nil)) (pa_cons (pe_uv 4) pa_nil)))))))))))))

abbrev s__law_brackets : Stmt := top 53
abbrev N__law_brackets : List Str := ["state", "letter", "many", "few", "right", "wrong", "inner", "side"]
theorem sc__law_brackets : FnScope N__law_brackets ["state", "letter"] (defScope s__law_brackets) := ⟨rfl, rfl, rfl, by decide +kernel, rfl, by decide +kernel, by decide +kernel⟩
def t__law_brackets (K : PySem.W.Frag) (c : Ad) (p_law_take p_law_asked : Sp) : TS :=
  (tSeq (tAsg (tOp (uAdd K) (tC (.int 58)) (tCan p_law_take E0 (tCons (uV 0) (tCons (tC (.int 5)) tNil)))) (gName 2)) (tSeq (tAsg (tCan p_law_take E0 (tCons (uV 0) (tCons (tC (.int 3)) tNil))) (gName 3)) (tSeq (tAsg (tCan p_law_asked E0 (tCons (tOp (uAdd K) (tOp (uAdd K) (tOp (uMul) (tC (.str (sOf [40]))) (uV 2)) (uV 1)) (tOp (uMul) (tC (.str (sOf [41]))) (uV 2))) (tCons (tC (.bl false)) tNil))) (gName 4)) (tSeq (tAsg (tCan p_law_asked E0 (tCons (tOp (uAdd K) (tOp (uAdd K) (tOp (uMul) (tC (.str (sOf [40]))) (uV 2)) (uV 1)) (tOp (uMul) (tC (.str (sOf [41]))) (tOp (uSub) (tOp (uAdd K) (uV 2) (uV 3)) (tC (.int 1))))) (tCons (tC (.bl false)) tNil))) (gName 5)) (tSeq (tAsg (tOp (uAdd K) (tOp (uAdd K) (tOp (uAdd K) (tOp (uAdd K) (tOp (uAdd K) (tC (.str (sOf [40]))) (uV 1)) (tC (.str (sOf [32, 124, 32])))) (uV 1)) (tC (.str (sOf [39])))) (tC (.str (sOf [41, 42])))) (gName 6)) (tSeq (tAsg (tCan p_law_asked E0 (tCons (tOp (uAdd K) (tOp (uAdd K) (tOp (uMul) (tC (.str (sOf [40]))) (uV 2)) (uV 6)) (tOp (uMul) (tC (.str (sOf [41]))) (uV 2))) (tCons (tC (.bl false)) tNil))) (gName 7)) (tRet (uAndV (uV 4) (uAndV (uV 5) (uAndV (uV 7) (tCan p_law_asked E0 (tCons (tOp (uAdd K) (tOp (uAdd K) (tOp (uMul) (tC (.str (sOf [40]))) (tC (.int 60))) (uV 1)) (tOp (uMul) (tC (.str (sOf [41]))) (tC (.int 60)))) (tCons (tC (.bl false)) tNil)))))))))))))
theorem d__law_brackets {P : Program} {w : World} {K : PySem.W.Frag} {mg : Str → Option Value} {base : Heap} {f : Addr} {cdv : Value} {A : Around} {outer : List Env} {s0 : Shared} {H0 : Hp} {E : XK} {c : Ad} {p_law_take p_law_asked : Sp} {k : Nat} (T : Txt K mg c) (hr : Room (k + 1) (X0 P w K mg base N__law_brackets "_law_brackets" s__law_brackets f cdv A outer s0 H0 E).A) (h__law_take : Has P w K mg base CX0 k "_law_take" p_law_take) (h__law_asked : Has P w K mg base CX0 k "_law_asked" p_law_asked) :
    PSs (X0 P w K mg base N__law_brackets "_law_brackets" s__law_brackets f cdv A outer s0 H0 E) (defBody s__law_brackets) (t__law_brackets K c p_law_take p_law_asked) := by
  exact (pss_cons (ps_set (i := 2) sc__law_brackets.nd rfl (Or.inl rfl) (pe_op op_uAdd pe_int (pe_can (h__law_take.can hr) (pa_cons (pe_uv 0) (pa_cons pe_int pa_nil))))) (pss_cons (ps_set (i := 3) sc__law_brackets.nd rfl (Or.inl rfl) (pe_can (h__law_take.can hr) (pa_cons (pe_uv 0) (pa_cons pe_int pa_nil)))) (pss_cons (ps_set (i := 4) sc__law_brackets.nd rfl (Or.inl rfl) (pe_can (h__law_asked.can hr) (pa_cons (pe_op op_uAdd (pe_op op_uAdd (pe_op op_uMul (pe_lit (l := [40]) (by decide +kernel)) (pe_uv 2)) (pe_uv 1)) (pe_op op_uMul (pe_lit (l := [41]) (by decide +kernel)) (pe_uv 2))) (pa_cons pe_bl pa_nil)))) (pss_cons (ps_set (i := 5) sc__law_brackets.nd rfl (Or.inl rfl) (pe_can (h__law_asked.can hr) (pa_cons (pe_op op_uAdd (pe_op op_uAdd (pe_op op_uMul (pe_lit (l := [40]) (by decide +kernel)) (pe_uv 2)) (pe_uv 1)) (pe_op op_uMul (pe_lit (l := [41]) (by decide +kernel)) (pe_op op_uSub (pe_op op_uAdd (pe_uv 2) (pe_uv 3)) pe_int))) (pa_cons pe_bl pa_nil)))) (pss_cons (ps_set (i := 6) sc__law_brackets.nd rfl (Or.inl rfl) (pe_op op_uAdd (pe_op op_uAdd (pe_op op_uAdd (pe_op op_uAdd (pe_op op_uAdd (pe_lit (l := [40]) (by decide +kernel)) (pe_uv 1)) (pe_lit (l := [32, 124, 32]) (by decide +kernel))) (pe_uv 1)) (pe_lit (l := [39]) (by decide +kernel))) (pe_lit (l := [41, 42]) (by decide +kernel)))) (pss_cons (ps_set (i := 7) sc__law_brackets.nd rfl (Or.inl rfl) (pe_can (h__law_asked.can hr) (pa_cons (pe_op op_uAdd (pe_op op_uAdd (pe_op op_uMul (pe_lit (l := [40]) (by decide +kernel)) (pe_uv 2)) (pe_uv 6)) (pe_op op_uMul (pe_lit (l := [41]) (by decide +kernel)) (pe_uv 2))) (pa_cons pe_bl pa_nil)))) (pss_one (ps_ret (pe_andU (pe_uv 4) (pe_andU (pe_uv 5) (pe_andU (pe_uv 7) (pe_one (pe_can (h__law_asked.can hr) (pa_cons (pe_op op_uAdd (pe_op op_uAdd (pe_op op_uMul (pe_lit (l := [40]) (by decide +kernel)) pe_int) (pe_uv 1)) (pe_op op_uMul (pe_lit (l := [41]) (by decide +kernel)) pe_int)) (pa_cons pe_bl pa_nil)))))))))))))))

abbrev s__law_items : Stmt := top 54
abbrev N__law_items : List Str := ["state", "letter", "many", "joint", "ends", "text"]
theorem sc__law_items : FnScope N__law_items ["state", "letter"] (defScope s__law_items) := ⟨rfl, rfl, rfl, by decide +kernel, rfl, by decide +kernel, by decide +kernel⟩
def t__law_items (K : PySem.W.Frag) (c : Ad) (p_law_take p_law_asked : Sp) : TS :=
  (tSeq (tAsg (tOp (uAdd K) (tC (.int 1999)) (tCan p_law_take E0 (tCons (uV 0) (tCons (tC (.int 4)) tNil)))) (gName 2)) (tSeq (tAsg (tOp (uIx K) (tLst (tCons (tC (.str (sOf [32]))) (tCons (tC (.str (sOf [32, 124, 32]))) (tCons (tC (.str (sOf []))) (tCons (tC (.str (sOf [124]))) (tCons (tC (.str (sOf [32, 49, 32]))) tNil)))))) (tCan p_law_take E0 (tCons (uV 0) (tCons (tC (.int 5)) tNil)))) (gName 3)) (tSeq (tAsg (tLst (tCons (tC (.str (sOf []))) (tCons (tC (.str (sOf [32, 48]))) (tCons (tC (.str (sOf [42]))) (tCons (tOp (uAdd K) (tOp (uAdd K) (tC (.str (sOf [32, 124, 32]))) (uV 1)) (tC (.str (sOf [39])))) (tCons (tC (.str (sOf [32, 124]))) (tCons (tC (.str (sOf [41]))) (tCons (tC (.str (sOf [63]))) (tCons (tC (.str (sOf [10]))) tNil))))))))) (gName 4)) (tSeq (tAsg (uJoin K (uV 3) (tOp (uMul) (tLst (tCons (uV 1) tNil)) (uV 2))) (gName 5)) (tSeq (tIfS (tOr (tNot (uB (tCan p_law_asked E0 (tCons (uV 5) (tCons (tC (.bl false)) tNil))))) (tNot (uB (tCan p_law_asked E0 (tCons (tOp (uAdd K) (uV 5) (tOp (uIx K) (uV 4) (tCan p_law_take E0 (tCons (uV 0) (tCons (tC (.int 8)) tNil))))) (tCons (tC (.bl false)) tNil)))))) (tRet (tC (.bl false))) tNext) (tRet (tCan p_law_asked E0 (tCons (tOp (uAdd K) (tC (.str (sOf [48, 32]))) (uV 5)) (tCons (tC (.bl false)) tNil)))))))))
theorem d__law_items {P : Program} {w : World} {K : PySem.W.Frag} {mg : Str → Option Value} {base : Heap} {f : Addr} {cdv : Value} {A : Around} {outer : List Env} {s0 : Shared} {H0 : Hp} {E : XK} {c : Ad} {p_law_take p_law_asked : Sp} {k : Nat} (T : Txt K mg c) (hr : Room (k + 1) (X0 P w K mg base N__law_items "_law_items" s__law_items f cdv A outer s0 H0 E).A) (h__law_take : Has P w K mg base CX0 k "_law_take" p_law_take) (h__law_asked : Has P w K mg base CX0 k "_law_asked" p_law_asked) :
    PSs (X0 P w K mg base N__law_items "_law_items" s__law_items f cdv A outer s0 H0 E) (defBody s__law_items) (t__law_items K c p_law_take p_law_asked) := by
  exact (pss_cons (ps_set (i := 2) sc__law_items.nd rfl (Or.inl rfl) (pe_op op_uAdd pe_int (pe_can (h__law_take.can hr) (pa_cons (pe_uv 0) (pa_cons pe_int pa_nil))))) (pss_cons (ps_set (i := 3) sc__law_items.nd rfl (Or.inl rfl) (pe_ix ix_u (pe_lst (pa_cons (pe_lit (l := [32]) (by decide +kernel)) (pa_cons (pe_lit (l := [32, 124, 32]) (by decide +kernel)) (pa_cons (pe_lit (l := []) (by decide +kernel)) (pa_cons (pe_lit (l := [124]) (by decide +kernel)) (pa_cons (pe_lit (l := [32, 49, 32]) (by decide +kernel)) pa_nil)))))) (pe_can (h__law_take.can hr) (pa_cons (pe_uv 0) (pa_cons pe_int pa_nil))) (fun _ _ => rfl))) (pss_cons (ps_set (i := 4) sc__law_items.nd rfl (Or.inl rfl) (pe_lst (pa_cons (pe_lit (l := []) (by decide +kernel)) (pa_cons (pe_lit (l := [32, 48]) (by decide +kernel)) (pa_cons (pe_lit (l := [42]) (by decide +kernel)) (pa_cons (pe_op op_uAdd (pe_op op_uAdd (pe_lit (l := [32, 124, 32]) (by decide +kernel)) (pe_uv 1)) (pe_lit (l := [39]) (by decide +kernel))) (pa_cons (pe_lit (l := [32, 124]) (by decide +kernel)) (pa_cons (pe_lit (l := [41]) (by decide +kernel)) (pa_cons (pe_lit (l := [63]) (by decide +kernel)) (pa_cons (pe_lit (l := [10]) (by decide +kernel)) pa_nil)))))))))) (pss_cons (ps_set (i := 5) sc__law_items.nd rfl (Or.inl rfl) (pe_join (pe_uv 3) (pe_op op_uMul (pe_lst (pa_cons (pe_uv 1) pa_nil)) (pe_uv 2)))) (pss_cons (ps_if (PW.pt (pw_or (pt_not (pt_u (pe_can (h__law_asked.can hr) (pa_cons (pe_uv 5) (pa_cons pe_bl pa_nil))))) (pw_or1 (pt_not (pt_u (pe_can (h__law_asked.can hr) (pa_cons (pe_op op_uAdd (pe_uv 5) (pe_ix ix_u (pe_uv 4) (pe_can (h__law_take.can hr) (pa_cons (pe_uv 0) (pa_cons pe_int pa_nil))) (fun _ _ => rfl))) (pa_cons pe_bl pa_nil)))))))) (pss_one (ps_ret pe_bl)) pss_nil) (pss_one (ps_ret (pe_can (h__law_asked.can hr) (pa_cons (pe_op op_uAdd (pe_lit (l := [48, 32]) (by decide +kernel)) (pe_uv 5)) (pa_cons pe_bl pa_nil))))))))))

abbrev s__law_deep : Stmt := top 55
abbrev N__law_deep : List Str := ["state", "letter", "deep", "tree", "leaf", "k", "text", "more", "ways", "way"]
theorem sc__law_deep : FnScope N__law_deep ["state", "letter"] (defScope s__law_deep) := ⟨rfl, rfl, rfl, by decide +kernel, rfl, by decide +kernel, by decide +kernel⟩
def t__law_deep (K : PySem.W.Frag) (c : Ad) (p_law_take p_law_again p_law_either p_law_then p_law_depth p_law_text p_law_asked : Sp) : TS :=
  (tSeq (tAsg (tOp (uAdd K) (tC (.int 39)) (tCan p_law_take E0 (tCons (uV 0) (tCons (tC (.int 3)) tNil)))) (gName 2)) (tSeq (tAsg (tTup (tCons (tC (.str (sOf [105]))) (tCons (uV 1) tNil))) (gName 3)) (tSeq (tAsg (tTup (tCons (tC (.str (sOf [105]))) (tCons (tOp (uAdd K) (uV 1) (tC (.str (sOf [39])))) tNil))) (gName 4)) (tSeq (tFor (iRng1 (tCons (tOp (uSub) (uV 2) (tC (.int 1))) tNil)) (gName 5) (tSeq (tAsg (tLc (iList K (tLst (tCons (tC (.int 0)) (tCons (tC (.int 1)) (tCons (tC (.int 2)) tNil))))) (gName 9) (uB (tOp (uNe K) (tOp (uIx K) (uV 3) (tC (.int 0))) (tOp (uIx K) (tC (.str (sOf [110, 111, 109]))) (uV 9)))) (uV 9) [9]) (gName 8)) (tSeq (tAsg (tOp (uIx K) (uV 8) (tOp (uMod) (tCB (uInt) (tCons (tCan p_law_take E0 (tCons (uV 0) (tCons (tC (.int 6)) tNil))) tNil)) (tCB (uLen K) (tCons (uV 8) tNil)))) (gName 9)) (tAsg (tOp (uIx K) (tLst (tCons (tCan p_law_then E0 (tCons (tLst (tCons (uV 3) (tCons (uV 4) tNil))) tNil)) (tCons (tCan p_law_either E0 (tCons (tLst (tCons (uV 3) (tCons (uV 4) tNil))) tNil)) (tCons (tCan p_law_again E0 (tCons (uV 3) tNil)) tNil)))) (uV 9)) (gName 3))))) (tSeq (tIfS (uB (tOp (uNe K) (tCan p_law_depth E0 (tCons (uV 3) tNil)) (uV 2))) (tRet (tC (.bl false))) tNext) (tSeq (tAsg (tCan p_law_text E0 (tCons (uV 3) tNil)) (gName 6)) (tSeq (tAsg (uJoin K (tC (.str (sOf [32]))) (tOp (uMul) (tLst (tCons (uV 1) tNil)) (tC (.int 2000)))) (gName 7)) (tSeq (tIfS (tOr (tNot (uB (tCan p_law_asked E0 (tCons (uV 6) (tCons (tOp (uGt) (uV 2) (tC (.int 40))) tNil))))) (tNot (uB (tCan p_law_asked E0 (tCons (tOp (uAdd K) (tOp (uAdd K) (tC (.str (sOf [40]))) (uV 6)) (tC (.str (sOf [41, 32, 48])))) (tCons (tOp (uGt) (uV 2) (tC (.int 40))) tNil)))))) (tRet (tC (.bl false))) tNext) (tSeq (tIfS (tOr (tNot (uB (tCan p_law_asked E0 (tCons (tOp (uAdd K) (tOp (uAdd K) (uV 6) (tC (.str (sOf [32, 124, 32])))) (uV 7)) (tCons (tC (.bl false)) tNil))))) (tNot (uB (tCan p_law_asked E0 (tCons (tOp (uAdd K) (uV 6) (tC (.str (sOf [41])))) (tCons (tC (.bl false)) tNil)))))) (tRet (tC (.bl false))) tNext) (tRet (tCan p_law_asked E0 (tCons (tOp (uAdd K) (tOp (uAdd K) (tOp (uAdd K) (uV 6) (tC (.str (sOf [32, 124, 32])))) (uV 7)) (tC (.str (sOf [63])))) (tCons (tC (.bl false)) tNil)))))))))))))
theorem d__law_deep {P : Program} {w : World} {K : PySem.W.Frag} {mg : Str → Option Value} {base : Heap} {f : Addr} {cdv : Value} {A : Around} {outer : List Env} {s0 : Shared} {H0 : Hp} {E : XK} {c : Ad} {p_law_take p_law_again p_law_either p_law_then p_law_depth p_law_text p_law_asked : Sp} {k : Nat} (T : Txt K mg c) (hr : Room (k + 1) (X0 P w K mg base N__law_deep "_law_deep" s__law_deep f cdv A outer s0 H0 E).A) (h__law_take : Has P w K mg base CX0 k "_law_take" p_law_take) (h__law_again : Has P w K mg base CX0 k "_law_again" p_law_again) (h__law_either : Has P w K mg base CX0 k "_law_either" p_law_either) (h__law_then : Has P w K mg base CX0 k "_law_then" p_law_then) (h__law_depth : Has P w K mg base CX0 k "_law_depth" p_law_depth) (h__law_text : Has P w K mg base CX0 k "_law_text" p_law_text) (h__law_asked : Has P w K mg base CX0 k "_law_asked" p_law_asked) :
    PSs (X0 P w K mg base N__law_deep "_law_deep" s__law_deep f cdv A outer s0 H0 E) (defBody s__law_deep) (t__law_deep K c p_law_take p_law_again p_law_either p_law_then p_law_depth p_law_text p_law_asked) := by
  have hu := hu201 hr
  have po : PassesOwn (model (X0 P w K mg base N__law_deep "_law_deep" s__law_deep f cdv A outer s0 H0 E).prog (X0 P w K mg base N__law_deep "_law_deep" s__law_deep f cdv A outer s0 H0 E).w) (X0 P w K mg base N__law_deep "_law_deep" s__law_deep f cdv A outer s0 H0 E).A (X0 P w K mg base N__law_deep "_law_deep" s__law_deep f cdv A outer s0 H0 E).env (X0 P w K mg base N__law_deep "_law_deep" s__law_deep f cdv A outer s0 H0 E).xe := PassesOwn.never
  exact (pss_cons (ps_set (i := 2) sc__law_deep.nd rfl (Or.inl rfl) (pe_op op_uAdd pe_int (pe_can (h__law_take.can hr) (pa_cons (pe_uv 0) (pa_cons pe_int pa_nil))))) (pss_cons (ps_set (i := 3) sc__law_deep.nd rfl (Or.inr rfl) (pe_tup (pa_cons (pe_lit (l := [105]) (by decide +kernel)) (pa_cons (pe_uv 1) pa_nil)))) (pss_cons (ps_set (i := 4) sc__law_deep.nd rfl (Or.inl rfl) (pe_tup (pa_cons (pe_lit (l := [105]) (by decide +kernel)) (pa_cons (pe_op op_uAdd (pe_uv 1) (pe_lit (l := [39]) (by decide +kernel))) pa_nil)))) (pss_cons (ps_for po rfl (pi_range1 (by rfl) T.range (pa_cons (pe_op op_uSub (pe_uv 2) pe_int) pa_nil)) (pg_name (i := 5) sc__law_deep.nd rfl (Or.inl rfl)) (pss_cons (ps_setLc (i := 8) (own := [("way", 9)]) (g := gName 9) (tt := (uB (tOp (uNe K) (tOp (uIx K) (uV 3) (tC (.int 0))) (tOp (uIx K) (tC (.str (sOf [110, 111, 109]))) (uV 9))))) rfl sc__law_deep.nd rfl rfl (sw_true rfl rfl rfl (by decide +kernel)) (pi_list (pe_lst (pa_cons pe_int (pa_cons pe_int (pa_cons pe_int pa_nil))))) (blkOk_by (own := [("way", 9)]) (N := N__law_deep) (sc := defScope s__law_deep) (by decide +kernel)) (fun _ _ _ _ _ => pg_name (i := 9) sc__law_deep.nd rfl (Or.inl rfl)) (fun _ _ _ _ _ => (pts_one (pt_uc (op_uNe hu) (pe_ix ix_u (pe_uv 3) pe_int (fun _ _ => rfl)) (pe_ix ix_u (pe_lit (l := [110, 111, 109]) (by decide +kernel)) (pe_uv 9) (fun _ _ => rfl)) (nomark _)))) (fun _ _ _ _ _ => (pe_uv 9))) (pss_cons (ps_set (i := 9) sc__law_deep.nd rfl (Or.inl rfl) (pe_ix ix_u (pe_uv 8) (pe_op op_uMod (pe_callTy cr_uInt (by rfl) T.int (by decide +kernel) (pa_cons (pe_can (h__law_take.can hr) (pa_cons (pe_uv 0) (pa_cons pe_int pa_nil))) pa_nil)) (pe_callB cr_uLen (by rfl) T.len (by decide +kernel) (pa_cons (pe_uv 8) pa_nil))) (fun _ _ => rfl))) (pss_one (ps_set (i := 3) sc__law_deep.nd rfl (Or.inr rfl) (pe_ix ix_u (pe_lst (pa_cons (pe_can (h__law_then.can hr) (pa_cons (pe_lst (pa_cons (pe_uv 3) (pa_cons (pe_uv 4) pa_nil))) pa_nil)) (pa_cons (pe_can (h__law_either.can hr) (pa_cons (pe_lst (pa_cons (pe_uv 3) (pa_cons (pe_uv 4) pa_nil))) pa_nil)) (pa_cons (pe_can (h__law_again.can hr) (pa_cons (pe_uv 3) pa_nil)) pa_nil)))) (pe_uv 9) (fun _ _ => rfl))))))) (pss_cons (ps_if (pt_uc (op_uNe hu) (pe_can (h__law_depth.can hr) (pa_cons (pe_uv 3) pa_nil)) (pe_uv 2) (nomark _)) (pss_one (ps_ret pe_bl)) pss_nil) (pss_cons (ps_set (i := 6) sc__law_deep.nd rfl (Or.inl rfl) (pe_can (h__law_text.can hr) (pa_cons (pe_uv 3) pa_nil))) (pss_cons (ps_set (i := 7) sc__law_deep.nd rfl (Or.inl rfl) (pe_join (pe_lit (l := [32]) (by decide +kernel)) (pe_op op_uMul (pe_lst (pa_cons (pe_uv 1) pa_nil)) pe_int))) (pss_cons (ps_if (PW.pt (pw_or (pt_not (pt_u (pe_can (h__law_asked.can hr) (pa_cons (pe_uv 6) (pa_cons (pe_cmpR op_uGt (pe_uv 2) pe_int (nomark _)) pa_nil))))) (pw_or1 (pt_not (pt_u (pe_can (h__law_asked.can hr) (pa_cons (pe_op op_uAdd (pe_op op_uAdd (pe_lit (l := [40]) (by decide +kernel)) (pe_uv 6)) (pe_lit (l := [41, 32, 48]) (by decide +kernel))) (pa_cons (pe_cmpR op_uGt (pe_uv 2) pe_int (nomark _)) pa_nil)))))))) (pss_one (ps_ret pe_bl)) pss_nil) (pss_cons (ps_if (PW.pt (pw_or (pt_not (pt_u (pe_can (h__law_asked.can hr) (pa_cons (pe_op op_uAdd (pe_op op_uAdd (pe_uv 6) (pe_lit (l := [32, 124, 32]) (by decide +kernel))) (pe_uv 7)) (pa_cons pe_bl pa_nil))))) (pw_or1 (pt_not (pt_u (pe_can (h__law_asked.can hr) (pa_cons (pe_op op_uAdd (pe_uv 6) (pe_lit (l := [41]) (by decide +kernel))) (pa_cons pe_bl pa_nil)))))))) (pss_one (ps_ret pe_bl)) pss_nil) (pss_one (ps_ret (pe_can (h__law_asked.can hr) (pa_cons (pe_op op_uAdd (pe_op op_uAdd (pe_op op_uAdd (pe_uv 6) (pe_lit (l := [32, 124, 32]) (by decide +kernel))) (pe_uv 7)) (pe_lit (l := [63]) (by decide +kernel))) (pa_cons pe_bl pa_nil))))))))))))))

abbrev s_law : Stmt := top 56
abbrev N_law : List Str := ["script", "state", "mode", "shift", "letter", "few", "raw", "text", "loose", "k", "bent", "one"]
theorem sc_law : FnScope N_law ["script"] (defScope s_law) := ⟨rfl, rfl, rfl, by decide +kernel, rfl, by decide +kernel, by decide +kernel⟩
def t_law (K : PySem.W.Frag) (c : Ad) (p_law_take p_law_raw p_law_spaced p_law_signs p_law_bent p_law_asked p_law_brackets p_law_items p_law_deep p_law_told p_law_text p_law_read : Sp) : TS :=
  (tSeq (tAsg (tLst (tCons (tCB (uList K) (tCons (tSl (uSl K) (uV 0) tNoPart (tPart (tC (.int 63)))) tNil)) (tCons (tC (.int 0)) (tCons (tC (.int 0)) tNil)))) (gName 1)) (tSeq (tAsg (tCan p_law_take E0 (tCons (uV 1) (tCons (tC (.int 8)) tNil))) (gName 2)) (tSeq (tAsg (tCan p_law_take E0 (tCons (uV 1) (tCons (tC (.int 26)) tNil))) (gName 3)) (tSeq (tAsg (tOp (uIx K) (tC (.str (sOf lowers))) (uV 3)) (gName 4)) (tSeq (tAsg (tOp (uAdd K) (tOp (uAdd K) (tOp (uAdd K) (tC (.str (sOf [32, 39, 63, 124, 42, 40, 41, 48, 49]))) (uV 4)) (tOp (uIx K) (tC (.str (sOf uppers))) (uV 3))) (tOp (uIx K) (tC (.str (sOf lowers))) (tOp (uSub) (tC (.int 25)) (uV 3)))) (gName 5)) (tSeq (tAsg (tCan p_law_raw E0 (tCons (uV 1) (tCons (uV 3) (tCons (tC (.int 12)) tNil)))) (gName 6)) (tSeq (tAsg (tCan p_law_spaced E0 (tCons (tCan p_law_signs E0 (tCons (uV 6) (tCons (uV 1) tNil))) (tCons (uV 1) tNil))) (gName 7)) (tSeq (tAsg (tC (.str (sOf []))) (gName 8)) (tSeq (tFor (iRng1 (tCons (tCan p_law_take E0 (tCons (uV 1) (tCons (tC (.int 25)) tNil))) tNil)) (gName 9) (tAsg (tOp (uAdd K) (uV 8) (tOp (uIx K) (uV 5) (tCan p_law_take E0 (tCons (uV 1) (tCons (tCB (uLen K) (tCons (uV 5) tNil)) tNil))))) (gName 8))) (tSeq (tAsg (tCan p_law_bent E0 (tCons (uV 1) (tCons (uV 7) (tCons (uV 5) tNil)))) (gName 10)) (tSeq (tFor (iList K (tLst (tCons (uV 7) (tCons (uV 10) (tCons (uV 8) (tCons (tC (.str (sOf []))) (tCons (tOp (uAdd K) (uV 7) (tC (.str (sOf [41])))) (tCons (tOp (uAdd K) (tC (.str (sOf [40]))) (uV 7)) (tCons (tOp (uAdd K) (uV 7) (tC (.str (sOf [32, 124])))) (tCons (tOp (uAdd K) (uV 7) (tC (.str (sOf [10])))) (tCons (tOp (uAdd K) (uV 7) (tC (.str (sOf [32, 63])))) (tCons (tOp (uAdd K) (tC (.str (sOf [42]))) (uV 7)) tNil)))))))))))) (gName 11) (tIfS (tNot (uB (tCan p_law_asked E0 (tCons (uV 11) (tCons (tC (.bl false)) tNil))))) (tRet (tC (.bl false))) tNext)) (tSeq (tIfS (tAnd (uB (tOp (uEq K) (uV 2) (tC (.int 1)))) (tNot (uB (tCan p_law_brackets E0 (tCons (uV 1) (tCons (uV 4) tNil)))))) (tRet (tC (.bl false))) tNext) (tSeq (tIfS (tAnd (uB (tOp (uEq K) (uV 2) (tC (.int 2)))) (tNot (uB (tCan p_law_items E0 (tCons (uV 1) (tCons (uV 4) tNil)))))) (tRet (tC (.bl false))) tNext) (tSeq (tIfS (tAnd (uB (tOp (uEq K) (uV 2) (tC (.int 3)))) (tNot (uB (tCan p_law_deep E0 (tCons (uV 1) (tCons (uV 4) tNil)))))) (tRet (tC (.bl false))) tNext) (tRet (tOp (uEq K) (tCan p_law_told E0 (tCons (uV 7) tNil)) (tTup (tCons (tC (.str (sOf [109, 97, 100, 101]))) (tCons (tCan p_law_text E0 (tCons (tOp (uIx K) (tCan p_law_read E0 (tCons (uV 7) tNil)) (tC (.int 1))) tNil)) tNil)))))))))))))))))))
theorem d_law {P : Program} {w : World} {K : PySem.W.Frag} {mg : Str → Option Value} {base : Heap} {f : Addr} {cdv : Value} {A : Around} {outer : List Env} {s0 : Shared} {H0 : Hp} {E : XK} {c : Ad} {p_law_take p_law_raw p_law_spaced p_law_signs p_law_bent p_law_asked p_law_brackets p_law_items p_law_deep p_law_told p_law_text p_law_read : Sp} {k : Nat} (T : Txt K mg c) (hr : Room (k + 1) (X0 P w K mg base N_law "law" s_law f cdv A outer s0 H0 E).A) (h__law_take : Has P w K mg base CX0 k "_law_take" p_law_take) (h__law_raw : Has P w K mg base CX0 k "_law_raw" p_law_raw) (h__law_spaced : Has P w K mg base CX0 k "_law_spaced" p_law_spaced) (h__law_signs : Has P w K mg base CX0 k "_law_signs" p_law_signs) (h__law_bent : Has P w K mg base CX0 k "_law_bent" p_law_bent) (h__law_asked : Has P w K mg base CX0 k "_law_asked" p_law_asked) (h__law_brackets : Has P w K mg base CX0 k "_law_brackets" p_law_brackets) (h__law_items : Has P w K mg base CX0 k "_law_items" p_law_items) (h__law_deep : Has P w K mg base CX0 k "_law_deep" p_law_deep) (h__law_told : Has P w K mg base CX0 k "_law_told" p_law_told) (h__law_text : Has P w K mg base CX0 k "_law_text" p_law_text) (h__law_read : Has P w K mg base CX0 k "_law_read" p_law_read) :
    PSs (X0 P w K mg base N_law "law" s_law f cdv A outer s0 H0 E) (defBody s_law) (t_law K c p_law_take p_law_raw p_law_spaced p_law_signs p_law_bent p_law_asked p_law_brackets p_law_items p_law_deep p_law_told p_law_text p_law_read) := by
  have hu := hu201 hr
  have po : PassesOwn (model (X0 P w K mg base N_law "law" s_law f cdv A outer s0 H0 E).prog (X0 P w K mg base N_law "law" s_law f cdv A outer s0 H0 E).w) (X0 P w K mg base N_law "law" s_law f cdv A outer s0 H0 E).A (X0 P w K mg base N_law "law" s_law f cdv A outer s0 H0 E).env (X0 P w K mg base N_law "law" s_law f cdv A outer s0 H0 E).xe := PassesOwn.never
  exact (pss_cons (ps_set (i := 1) sc_law.nd rfl (Or.inl rfl) (pe_lst (pa_cons (pe_callTy cr_uList (by rfl) T.list (by decide +kernel) (pa_cons (pe_slice sl_u (pe_uv 0) po_none (po_some pe_int)) pa_nil)) (pa_cons pe_int (pa_cons pe_int pa_nil))))) (pss_cons (ps_set (i := 2) sc_law.nd rfl (Or.inl rfl) (pe_can (h__law_take.can hr) (pa_cons (pe_uv 1) (pa_cons pe_int pa_nil)))) (pss_cons (ps_set (i := 3) sc_law.nd rfl (Or.inl rfl) (pe_can (h__law_take.can hr) (pa_cons (pe_uv 1) (pa_cons pe_int pa_nil)))) (pss_cons (ps_set (i := 4) sc_law.nd rfl (Or.inl rfl) (pe_ix ix_u (pe_lit (l := lowers) (by decide +kernel)) (pe_uv 3) (fun _ _ => rfl))) (pss_cons (ps_set (i := 5) sc_law.nd rfl (Or.inl rfl) (pe_op op_uAdd (pe_op op_uAdd (pe_op op_uAdd (pe_lit (l := [32, 39, 63, 124, 42, 40, 41, 48, 49]) (by decide +kernel)) (pe_uv 4)) (pe_ix ix_u (pe_lit (l := uppers) (by decide +kernel)) (pe_uv 3) (fun _ _ => rfl))) (pe_ix ix_u (pe_lit (l := lowers) (by decide +kernel)) (pe_op op_uSub pe_int (pe_uv 3)) (fun _ _ => rfl)))) (pss_cons (ps_set (i := 6) sc_law.nd rfl (Or.inl rfl) (pe_can (h__law_raw.can hr) (pa_cons (pe_uv 1) (pa_cons (pe_uv 3) (pa_cons pe_int pa_nil))))) (pss_cons (ps_set (i := 7) sc_law.nd rfl (Or.inl rfl) (pe_can (h__law_spaced.can hr) (pa_cons (pe_can (h__law_signs.can hr) (pa_cons (pe_uv 6) (pa_cons (pe_uv 1) pa_nil))) (pa_cons (pe_uv 1) pa_nil)))) (pss_cons (ps_set (i := 8) sc_law.nd rfl (Or.inl rfl) (pe_lit (l := []) (by decide +kernel))) (pss_cons (ps_for po rfl (pi_range1 (by rfl) T.range (pa_cons (pe_can (h__law_take.can hr) (pa_cons (pe_uv 1) (pa_cons pe_int pa_nil))) pa_nil)) (pg_name (i := 9) sc_law.nd rfl (Or.inl rfl)) (pss_one (ps_set (i := 8) sc_law.nd rfl (Or.inl rfl) (pe_op op_uAdd (pe_uv 8) (pe_ix ix_u (pe_uv 5) (pe_can (h__law_take.can hr) (pa_cons (pe_uv 1) (pa_cons (pe_callB cr_uLen (by rfl) T.len (by decide +kernel) (pa_cons (pe_uv 5) pa_nil)) pa_nil))) (fun _ _ => rfl)))))) (pss_cons (ps_set (i := 10) sc_law.nd rfl (Or.inl rfl) (pe_can (h__law_bent.can hr) (pa_cons (pe_uv 1) (pa_cons (pe_uv 7) (pa_cons (pe_uv 5) pa_nil))))) (pss_cons (ps_for po rfl (pi_list (pe_lst (pa_cons (pe_uv 7) (pa_cons (pe_uv 10) (pa_cons (pe_uv 8) (pa_cons (pe_lit (l := []) (by decide +kernel)) (pa_cons (pe_op op_uAdd (pe_uv 7) (pe_lit (l := [41]) (by decide +kernel))) (pa_cons (pe_op op_uAdd (pe_lit (l := [40]) (by decide +kernel)) (pe_uv 7)) (pa_cons (pe_op op_uAdd (pe_uv 7) (pe_lit (l := [32, 124]) (by decide +kernel))) (pa_cons (pe_op op_uAdd (pe_uv 7) (pe_lit (l := [10]) (by decide +kernel))) (pa_cons (pe_op op_uAdd (pe_uv 7) (pe_lit (l := [32, 63]) (by decide +kernel))) (pa_cons (pe_op op_uAdd (pe_lit (l := [42]) (by decide +kernel)) (pe_uv 7)) pa_nil)))))))))))) (pg_name (i := 11) sc_law.nd rfl (Or.inl rfl)) (pss_one (ps_if (pt_not (pt_u (pe_can (h__law_asked.can hr) (pa_cons (pe_uv 11) (pa_cons pe_bl pa_nil))))) (pss_one (ps_ret pe_bl)) pss_nil))) (pss_cons (ps_if (PW.pt (pw_and (pt_uc (op_uEq hu) (pe_uv 2) pe_int (nomark _)) (pw_and1 (pt_not (pt_u (pe_can (h__law_brackets.can hr) (pa_cons (pe_uv 1) (pa_cons (pe_uv 4) pa_nil)))))))) (pss_one (ps_ret pe_bl)) pss_nil) (pss_cons (ps_if (PW.pt (pw_and (pt_uc (op_uEq hu) (pe_uv 2) pe_int (nomark _)) (pw_and1 (pt_not (pt_u (pe_can (h__law_items.can hr) (pa_cons (pe_uv 1) (pa_cons (pe_uv 4) pa_nil)))))))) (pss_one (ps_ret pe_bl)) pss_nil) (pss_cons (ps_if (PW.pt (pw_and (pt_uc (op_uEq hu) (pe_uv 2) pe_int (nomark _)) (pw_and1 (pt_not (pt_u (pe_can (h__law_deep.can hr) (pa_cons (pe_uv 1) (pa_cons (pe_uv 4) pa_nil)))))))) (pss_one (ps_ret pe_bl)) pss_nil) (pss_one (ps_ret (pe_cmpR (op_uEq hu) (pe_can (h__law_told.can hr) (pa_cons (pe_uv 7) pa_nil)) (pe_tup (pa_cons (pe_lit (l := [109, 97, 100, 101]) (by decide +kernel)) (pa_cons (pe_can (h__law_text.can hr) (pa_cons (pe_ix ix_u (pe_can (h__law_read.can hr) (pa_cons (pe_uv 7) pa_nil)) pe_int (fun _ _ => rfl)) pa_nil)) pa_nil))) (nomark _))))))))))))))))))

end L2.WB
namespace L2.WB
open PySem PySem.Spec PyProof.Rows
open K02 (T isL isK isI lthen leither lagain wts sizes flatN flatO addU addU1)
section
variable {K : PySem.W.Frag} {c : Ad} {H : Hp} {Q : VK} {E : XK} {vs : List V} {v : V} {t : T}
/-- a list made of each part of a tree -/
theorem lc_lts {σ : St} {i j : Nat} {a q : Addr} {x0 : V} {ws : List V} {ts : List T} {te : TE} (f : T → V) (hσ : σ[i]? = some (some (.ref a))) (h1 : H a = some (.tup [x0, .ref q])) (hq : H q = some (.tup ws)) (hp : LTs H ws ts) (hl : ws.length ≤ 1000000)
    (hs : ∀ (x : V) (u : T) (H1 : Hp) (R : VK), u ∈ ts → LT H1 x u → Same H H1 → (∀ H2, Same H1 H2 → R (f u) H2) → te ((wipe σ [j]).set j (some x)) H1 R)
    (hd : ∀ D H2, Same H H2 → H2 D = some (.lst (ts.map f)) → Q (.ref D) H2) : tLc (iTup K (tOp (uIx K) (uV i) (tC (.int 1)))) (gName j) tYes te [j] σ H Q := by
  have hu : ∀ R : VK, R (.ref a) H → uV i σ H R := fun R r => by
    unfold uV
    rw [hσ]
    exact r
  unfold tLc iTup tOp tC
  refine hu _ ?_
  refine ix_tup2 h1 (atI_nat (j := 1) rfl) ?_
  refine ⟨q, rfl, ⟨ws, sqT hq⟩, fun D nD => ?_⟩
  refine lc_tup (K := K) (a := q) (xs := ws) (fun n H1 => Same H H1 ∧ H1 D = some (.lst ((ts.take n).map f))) ⟨same_new nD, upd_same⟩ (fun n H1 _ h => sqT (h.1 _ _ hq)) ?_ ?_
  · intro n x H1 hx ⟨s1, eD⟩
    obtain ⟨u, hu, pu⟩ := hp.get hx
    have hn : n < ts.length := (List.getElem?_eq_some_iff.mp hu).1
    refine ⟨?_, ?_⟩
    · show ((σ.set j none).set j (some x)).set j none = σ.set j none
      rw [List.set_set, List.set_set]
    · refine hs x u H1 _ (List.mem_of_getElem? hu) (pu.keep (Same.kp s1)) s1 fun H2 s2 => ?_
      have s12 := s1.trans s2
      refine ⟨_, s2 _ _ eD, ?_, fun b o hb => ?_, ?_⟩
      · rw [List.length_map, List.length_take, sizeLine_eq]
        have := hp.len
        omega
      · rw [upd_ne (ne_of_none hb nD)]
        exact s12 b o hb
      · rw [upd_same, List.take_add_one, hu, List.map_append]
        rfl
  · rintro H1 ⟨s1, eD⟩
    rw [hp.len, List.take_length] at eD
    exact hd D H1 s1 eD
theorem q__law_depth {n : Nat} (h : spLDepth (n + 1) vs H Q E) : t__law_depth K c (spLDepth n) (fin0 Q) (start N__law_depth vs) H := by
  obtain ⟨v, t, rfl, lt, hd, hsf, hwt, q⟩ := h
  have ok : Ok t := ⟨hsf, hwt⟩
  show t__law_depth K c (spLDepth n) (fin0 Q) [some v, none] H
  cases lt with
  | z h1 =>
    dsimp only [t__law_depth, tSeq, tAsg, tIfS, tRet, tRetN, tDrop, tNext, tOp, tUn, tCons, tNil, tTup, tLst, tC, tCB, tCan, tCanW, tAnd, tOr, tNot, tB, tIf, uB, uAndV, uOrV, uNotV, uNeg, uV, gName, gSub, tAug, ipI, tPart, tNoPart, tSl, tBM, tBM0, uLen, uAbs, uInt, uAdd, uSub, uMod, uFdiv, uMul, uCmp, uLt, uLe, uGt, uGe, tFld, StX.tMakeR, tRz, tCanS, sFld, start, fin0, List.getElem?_cons_zero, List.getElem?_cons_succ, List.map_cons, List.map_nil, List.length_cons, List.length_nil, List.replicate, List.cons_append, List.nil_append, Nat.reduceSub, Nat.reduceAdd, List.set_cons_zero, List.set_cons_succ]
    refine ⟨_, .inr (sqT h1), ?_⟩
    dsimp only [uEq]
    exact ifT (by decide) (iteT (by have := q H (Same.refl H); simpa [K02.depth] using this))
  | s h1 =>
    dsimp only [t__law_depth, tSeq, tAsg, tIfS, tRet, tRetN, tDrop, tNext, tOp, tUn, tCons, tNil, tTup, tLst, tC, tCB, tCan, tCanW, tAnd, tOr, tNot, tB, tIf, uB, uAndV, uOrV, uNotV, uNeg, uV, gName, gSub, tAug, ipI, tPart, tNoPart, tSl, tBM, tBM0, uLen, uAbs, uInt, uAdd, uSub, uMod, uFdiv, uMul, uCmp, uLt, uLe, uGt, uGe, tFld, StX.tMakeR, tRz, tCanS, sFld, start, fin0, List.getElem?_cons_zero, List.getElem?_cons_succ, List.map_cons, List.map_nil, List.length_cons, List.length_nil, List.replicate, List.cons_append, List.nil_append, Nat.reduceSub, Nat.reduceAdd, List.set_cons_zero, List.set_cons_succ]
    refine ⟨_, .inr (sqT h1), ?_⟩
    dsimp only [uEq]
    exact ifT (by decide) (iteT (by have := q H (Same.refl H); simpa [K02.depth] using this))
  | i h1 =>
    dsimp only [t__law_depth, tSeq, tAsg, tIfS, tRet, tRetN, tDrop, tNext, tOp, tUn, tCons, tNil, tTup, tLst, tC, tCB, tCan, tCanW, tAnd, tOr, tNot, tB, tIf, uB, uAndV, uOrV, uNotV, uNeg, uV, gName, gSub, tAug, ipI, tPart, tNoPart, tSl, tBM, tBM0, uLen, uAbs, uInt, uAdd, uSub, uMod, uFdiv, uMul, uCmp, uLt, uLe, uGt, uGe, tFld, StX.tMakeR, tRz, tCanS, sFld, start, fin0, List.getElem?_cons_zero, List.getElem?_cons_succ, List.map_cons, List.map_nil, List.length_cons, List.length_nil, List.replicate, List.cons_append, List.nil_append, Nat.reduceSub, Nat.reduceAdd, List.set_cons_zero, List.set_cons_succ]
    refine ⟨_, .inr (sqT h1), ?_⟩
    dsimp only [uEq]
    refine ifF (decide_eq_false (by simp)) (ix_tup2 h1 (atI_nat (j := 0) rfl) ?_)
    dsimp only
    exact ifT (decide_eq_true rfl) (by have := q H (Same.refl H); simpa [K02.depth] using this)
  | @m a w b h1 h2 =>
    dsimp only [t__law_depth, tSeq, tAsg, tIfS, tRet, tRetN, tDrop, tNext, tOp, tUn, tCons, tNil, tTup, tLst, tC, tCB, tCan, tCanW, tAnd, tOr, tNot, tB, tIf, uB, uAndV, uOrV, uNotV, uNeg, uV, gName, gSub, tAug, ipI, tPart, tNoPart, tSl, tBM, tBM0, uLen, uAbs, uInt, uAdd, uSub, uMod, uFdiv, uMul, uCmp, uLt, uLe, uGt, uGe, tFld, StX.tMakeR, tRz, tCanS, sFld, start, fin0, List.getElem?_cons_zero, List.getElem?_cons_succ, List.map_cons, List.map_nil, List.length_cons, List.length_nil, List.replicate, List.cons_append, List.nil_append, Nat.reduceSub, Nat.reduceAdd, List.set_cons_zero, List.set_cons_succ]
    refine ⟨_, .inr (sqT h1), ?_⟩
    dsimp only [uEq]
    refine ifF (decide_eq_false (by simp)) (ix_tup2 h1 (atI_nat (j := 0) rfl) ?_)
    dsimp only
    refine ifF (by rw [dec_sOf]; decide) (ix_tup2 h1 (atI_nat (j := 0) rfl) ?_)
    dsimp only
    refine ifT (decide_eq_true rfl) (ix_tup2 h1 (atI_nat (j := 1) rfl) ?_)
    refine ⟨w, b, rfl, h2, by simp only [K02.depth] at hd; omega, (okM ok).sf, (okM ok).wt, fun H2 s2 => ?_⟩
    have := q H2 s2
    simp only [K02.depth] at this
    rw [show ((1 + K02.depth b : Nat) : Int) = 1 + (K02.depth b : Int) by omega] at this
    exact this
  | @n a q1 ws ts h1 h2 h3 =>
    dsimp only [t__law_depth, tSeq, tAsg, tIfS, tRet, tRetN, tDrop, tNext, tOp, tUn, tCons, tNil, tTup, tLst, tC, tCB, tCan, tCanW, tAnd, tOr, tNot, tB, tIf, uB, uAndV, uOrV, uNotV, uNeg, uV, gName, gSub, tAug, ipI, tPart, tNoPart, tSl, tBM, tBM0, uLen, uAbs, uInt, uAdd, uSub, uMod, uFdiv, uMul, uCmp, uLt, uLe, uGt, uGe, tFld, StX.tMakeR, tRz, tCanS, sFld, start, fin0, List.getElem?_cons_zero, List.getElem?_cons_succ, List.map_cons, List.map_nil, List.length_cons, List.length_nil, List.replicate, List.cons_append, List.nil_append, Nat.reduceSub, Nat.reduceAdd, List.set_cons_zero, List.set_cons_succ]
    refine ⟨_, .inr (sqT h1), ?_⟩
    dsimp only [uEq]
    refine ifF (decide_eq_false (by simp)) (ix_tup2 h1 (atI_nat (j := 0) rfl) ?_)
    dsimp only
    refine ifF (by rw [dec_sOf]; decide) (ix_tup2 h1 (atI_nat (j := 0) rfl) ?_)
    dsimp only
    refine ifF (by rw [dec_sOf]; decide) ?_
    refine lc_lts (fun u => V.int (K02.depth u)) (i := 0) (j := 1) rfl h1 h2 h3 (by have := okN_len ok; have := h3.len; omega) (fun x u H1 R hu ltu s1 hR => ?_) fun D H2 s2 eD => ?_
    · exact ⟨x, u, rfl, ltu, by have := K02.depth_part hu; omega, (okN ok u hu).sf, (okN ok u hu).wt, hR⟩
    · refine max_ok eD (okN_ne ok.sf) ?_
      have := q H2 s2
      simp only [K02.depth] at this
      rw [show ((1 + K02.maxL (K02.depths ts) : Nat) : Int) = 1 + ((K02.maxL (K02.depths ts) : Nat) : Int) by omega] at this
      exact this
  | @o a q1 ws ts h1 h2 h3 =>
    dsimp only [t__law_depth, tSeq, tAsg, tIfS, tRet, tRetN, tDrop, tNext, tOp, tUn, tCons, tNil, tTup, tLst, tC, tCB, tCan, tCanW, tAnd, tOr, tNot, tB, tIf, uB, uAndV, uOrV, uNotV, uNeg, uV, gName, gSub, tAug, ipI, tPart, tNoPart, tSl, tBM, tBM0, uLen, uAbs, uInt, uAdd, uSub, uMod, uFdiv, uMul, uCmp, uLt, uLe, uGt, uGe, tFld, StX.tMakeR, tRz, tCanS, sFld, start, fin0, List.getElem?_cons_zero, List.getElem?_cons_succ, List.map_cons, List.map_nil, List.length_cons, List.length_nil, List.replicate, List.cons_append, List.nil_append, Nat.reduceSub, Nat.reduceAdd, List.set_cons_zero, List.set_cons_succ]
    refine ⟨_, .inr (sqT h1), ?_⟩
    dsimp only [uEq]
    refine ifF (decide_eq_false (by simp)) (ix_tup2 h1 (atI_nat (j := 0) rfl) ?_)
    dsimp only
    refine ifF (by rw [dec_sOf]; decide) (ix_tup2 h1 (atI_nat (j := 0) rfl) ?_)
    dsimp only
    refine ifF (by rw [dec_sOf]; decide) ?_
    refine lc_lts (fun u => V.int (K02.depth u)) (i := 0) (j := 1) rfl h1 h2 h3 (by have := okO_len ok; have := h3.len; omega) (fun x u H1 R hu ltu s1 hR => ?_) fun D H2 s2 eD => ?_
    · exact ⟨x, u, rfl, ltu, by have := K02.depth_partO hu; omega, (okO ok u hu).sf, (okO ok u hu).wt, hR⟩
    · refine max_ok eD (okO_ne ok.sf) ?_
      have := q H2 s2
      simp only [K02.depth] at this
      rw [show ((1 + K02.maxL (K02.depths ts) : Nat) : Int) = 1 + ((K02.maxL (K02.depths ts) : Nat) : Int) by omega] at this
      exact this
end
end L2.WB
namespace K02
def Nk : Stk → Nat
  | [] => 0
  | l :: r => l.1.length + l.2.length + Nk r
structure Inv2 (s : RS) (W N : Nat) : Prop where
  sf : SFk s.stk
  wt : Wk s.stk ≤ W
  n : Nk s.stk ≤ N
  ne : ∀ al sq r, s.stk = (al, sq) :: r → (s.w ≠ .need → s.w ≠ .mark → sq ≠ []) ∧ (s.w = .letter → ∃ c q, sq = .i [c] :: q ∧ isL c = true)
theorem inv0 : Inv2 init 0 0 := ⟨sf0, by simp [init, Wk, wts], by simp [init, Nk], fun al sq r h => ⟨fun h => absurd rfl h, fun h => by cases h⟩⟩
def wcb (c : Nat) : Nat := if wc c = true then 1 else 0
theorem lst_inv {c W N : Nat} {s s2 : RS} (h : lst yes 60 c s = some s2) (I : Inv2 s W N) : Inv2 s2 (W + wcb c) (N + 1) ∧ ∀ B, 1 ≤ B → W + wcb c ≤ B → lst (gd B) 60 c s = some s2 := by
  obtain ⟨w, stk, k⟩ := s
  cases stk with
  | nil => cases h
  | cons x r =>
    obtain ⟨al, sq⟩ := x
    have hal : ∀ t ∈ al, SF t := (I.sf (al, sq) (by simp)).1
    have hsq : ∀ t ∈ sq, SF t := (I.sf (al, sq) (by simp)).2
    have hr : SFk r := fun l hl => I.sf l (List.mem_cons_of_mem _ hl)
    have hw : wts al + wts sq + Wk r ≤ W := I.wt
    have hn : al.length + sq.length + Nk r ≤ N := I.n
    obtain ⟨hne, hlet⟩ := I.ne al sq r rfl
    have hne : w ≠ .need → w ≠ .mark → sq ≠ [] := hne
    have hlet : w = .letter → ∃ c q, sq = .i [c] :: q ∧ isL c = true := hlet
    have push : ∀ {l : List T × List T} {r : Stk}, (∀ t ∈ l.1, SF t) → (∀ t ∈ l.2, SF t) → SFk r → SFk (l :: r) := fun h1 h2 h3 z hz => by
      rcases List.mem_cons.mp hz with e | e
      · rw [e]; exact ⟨h1, h2⟩
      · exact h3 z e
    have cons : ∀ {t : T} {l : List T}, SF t → (∀ t ∈ l, SF t) → ∀ x ∈ t :: l, SF x := fun h1 h2 x hx => by
      rcases List.mem_cons.mp hx with e | e
      · rw [e]; exact h1
      · exact h2 x e
    have h : lstep yes 60 c w al sq r k = some s2 := h
    show _ ∧ ∀ B, 1 ≤ B → W + wcb c ≤ B → lstep (gd B) 60 c w al sq r k = some s2
    unfold lstep at h ⊢
    by_cases hm : w = .mark
    · rw [if_pos hm] at h
      simp only [if_pos hm]
      by_cases hk : isK c = true
      · rw [if_pos hk] at h
        have := Option.some.inj h
        subst this
        have hc : wcb c = 1 := by simp [wcb, wc, hk]
        refine ⟨⟨push hal (cons (by simp [SF, isI, hk]) hsq) hr, by simp only [Wk, wts, wt]; omega, by simp only [Nk, List.length_cons]; omega, fun al2 sq2 r2 e => ?_⟩, fun B _ _ => by rw [if_pos hk]⟩
        simp only [List.cons.injEq, Prod.mk.injEq] at e
        rw [← e.1.2]
        exact ⟨fun _ _ => by simp, fun h => by cases h⟩
      · rw [if_neg hk] at h; cases h
    rw [if_neg hm] at h
    simp only [if_neg hm]
    by_cases h32 : c = 32
    · rw [if_pos h32] at h
      simp only [if_pos h32]
      have := Option.some.inj h
      subst this
      refine ⟨⟨I.sf, Nat.le_trans I.wt (by omega), Nat.le_trans I.n (by omega), fun al2 sq2 r2 e => ?_⟩, fun B _ _ => rfl⟩
      simp only [List.cons.injEq, Prod.mk.injEq] at e
      rw [← e.1.2]
      by_cases hl : w = .letter
      · refine ⟨fun _ _ => hne (by rw [hl]; simp) hm, fun z => by rw [if_pos hl] at z; cases z⟩
      · simp only [if_neg hl]
        exact ⟨hne, fun z => absurd z hl⟩
    rw [if_neg h32] at h
    simp only [if_neg h32]
    by_cases h39 : c = 39 ∧ w = .letter
    · rw [if_pos h39] at h
      simp only [if_pos h39]
      obtain ⟨d, q, rfl, hd⟩ := hlet h39.2
      have := Option.some.inj h
      subst this
      have hs : SF (.i ([d] ++ [39])) := by simp [SF, isI, hd]
      have hq : ∀ t ∈ q, SF t := fun t ht => hsq t (List.mem_cons_of_mem _ ht)
      refine ⟨⟨push hal (cons hs hq) hr, ?_, ?_, fun al2 sq2 r2 e => ?_⟩, fun B _ _ => rfl⟩
      · simp only [Wk, wts, wt] at hw ⊢; omega
      · simp only [Nk, List.length_cons] at hn ⊢; omega
      · simp only [List.cons.injEq, Prod.mk.injEq] at e
        rw [← e.1.2]
        exact ⟨fun _ _ => by simp, fun h => by cases h⟩
    rw [if_neg h39] at h
    simp only [if_neg h39]
    by_cases h42 : c = 42 ∧ w ≠ .need ∧ w ≠ .star
    · rw [if_pos h42] at h
      simp only [if_pos h42]
      cases sq with
      | nil => cases h
      | cons x q =>
        dsimp only at h
        rw [if_pos (show yes _ = true from rfl)] at h
        have := Option.some.inj h
        subst this
        have hc : wcb c = 1 := by rw [h42.1]; decide
        have hx := SF_lagain (hsq x (by simp))
        have hl := wt_lagain x
        simp only [wts] at hw
        refine ⟨⟨push hal (cons hx fun t ht => hsq t (List.mem_cons_of_mem _ ht)) hr, by simp only [Wk, wts]; omega, by simp only [Nk, List.length_cons] at hn ⊢; omega, fun al2 sq2 r2 e => ?_⟩, fun B hB hWB => by
          dsimp only
          rw [if_pos (wt_le hB hx hl (by omega))]⟩
        simp only [List.cons.injEq, Prod.mk.injEq] at e
        rw [← e.1.2]
        exact ⟨fun _ _ => by simp, fun h => by cases h⟩
    rw [if_neg h42] at h
    simp only [if_neg h42]
    by_cases h124 : c = 124 ∧ w ≠ .need
    · rw [if_pos h124] at h
      simp only [if_pos h124]
      rw [if_pos (show yes _ = true from rfl)] at h
      have := Option.some.inj h
      subst this
      have hl := wt_lthen (SFrev hsq) (by simpa using hne h124.2 hm)
      rw [wts_rev] at hl
      have hsf := SF_lthen (SFrev hsq)
      have hpos : 1 ≤ sq.length := List.length_pos_iff.mpr (hne h124.2 hm)
      refine ⟨⟨push (cons hsf hal) (by simp) hr, by simp only [Wk, wts]; omega, by simp only [Nk, List.length_cons, List.length_nil]; omega, fun al2 sq2 r2 e => ?_⟩, fun B hB hWB => by rw [if_pos (wt_le hB hsf hl (by omega))]⟩
      exact ⟨fun h => absurd rfl h, fun h => by cases h⟩
    rw [if_neg h124] at h
    simp only [if_neg h124]
    by_cases h41 : c = 41 ∧ w ≠ .need ∧ r ≠ []
    · rw [if_pos h41] at h
      simp only [if_pos h41]
      cases r with
      | nil => cases h
      | cons y r2 =>
        obtain ⟨al2, sq2⟩ := y
        dsimp only at h
        rw [show (yes (lthen sq.reverse) && yes (leither (lthen sq.reverse :: al).reverse)) = true from rfl, if_pos rfl] at h
        have := Option.some.inj h
        subst this
        have hl := wt_lthen (SFrev hsq) (by simpa using hne h41.2.1 hm)
        rw [wts_rev] at hl
        have hsf := SF_lthen (SFrev hsq)
        have hsl := SFrev (cons hsf hal)
        have he := wt_leither (lthen sq.reverse :: al).reverse
        rw [wts_rev] at he
        have hsum : wts (lthen sq.reverse :: al) = wt (lthen sq.reverse) + wts al := by simp [wts]
        have hse := SF_leither hsl
        have h2 := hr (al2, sq2) (by simp)
        have hpos : 1 ≤ sq.length := List.length_pos_iff.mpr (hne h41.2.1 hm)
        simp only [Wk] at hw
        simp only [Nk] at hn
        refine ⟨⟨push h2.1 (cons hse h2.2) fun l hl => hr l (List.mem_cons_of_mem _ hl), by simp only [Wk, wts]; omega, by simp only [Nk, List.length_cons]; omega, fun al3 sq3 r3 e => ?_⟩, fun B hB hWB => by
          dsimp only
          rw [wt_le hB hsf hl (by omega), wt_le hB hse (Nat.le_refl _) (by omega)]
          rfl⟩
        simp only [List.cons.injEq, Prod.mk.injEq] at e
        rw [← e.1.2]
        exact ⟨fun _ _ => by simp, fun h => by cases h⟩
    rw [if_neg h41] at h
    simp only [if_neg h41]
    by_cases h40 : c = 40 ∧ r.length < 60
    · rw [if_pos h40] at h
      simp only [if_pos h40]
      have := Option.some.inj h
      subst this
      exact ⟨⟨push (by simp) (by simp) I.sf, by simp only [Wk, wts]; omega, by simp only [Nk, List.length_nil]; omega, fun al2 sq2 r2 e => ⟨fun h => absurd rfl h, fun h => by cases h⟩⟩, fun B _ _ => rfl⟩
    rw [if_neg h40] at h
    simp only [if_neg h40]
    by_cases h63 : c = 63
    · rw [if_pos h63] at h
      simp only [if_pos h63]
      have := Option.some.inj h
      subst this
      exact ⟨⟨I.sf, Nat.le_trans I.wt (by omega), Nat.le_trans I.n (by omega), fun al2 sq2 r2 e => ⟨fun _ h => absurd rfl h, fun h => by cases h⟩⟩, fun B _ _ => rfl⟩
    rw [if_neg h63] at h
    simp only [if_neg h63]
    by_cases hL : isL c = true
    · rw [if_pos hL] at h
      simp only [if_pos hL]
      have := Option.some.inj h
      subst this
      have hc : wcb c = 1 := by simp [wcb, wc, hL]
      refine ⟨⟨push hal (cons (by simp [SF, isI, hL]) hsq) hr, by simp only [Wk, wts, wt]; omega, by simp only [Nk, List.length_cons]; omega, fun al2 sq2 r2 e => ?_⟩, fun B _ _ => rfl⟩
      simp only [List.cons.injEq, Prod.mk.injEq] at e
      rw [← e.1.2]
      exact ⟨fun _ _ => by simp, fun _ => ⟨c, sq, rfl, hL⟩⟩
    rw [if_neg hL] at h
    simp only [if_neg hL]
    by_cases h48 : c = 48
    · rw [if_pos h48] at h
      simp only [if_pos h48]
      have := Option.some.inj h
      subst this
      refine ⟨⟨push hal (cons (by simp [SF]) hsq) hr, by simp only [Wk, wts, wt]; omega, by simp only [Nk, List.length_cons]; omega, fun al2 sq2 r2 e => ?_⟩, fun B _ _ => rfl⟩
      simp only [List.cons.injEq, Prod.mk.injEq] at e
      rw [← e.1.2]
      exact ⟨fun _ _ => by simp, fun h => by cases h⟩
    rw [if_neg h48] at h
    simp only [if_neg h48]
    by_cases h49 : c = 49
    · rw [if_pos h49] at h
      simp only [if_pos h49]
      have := Option.some.inj h
      subst this
      have hc : wcb c = 1 := by rw [h49]; decide
      refine ⟨⟨push hal (cons (by simp [SF]) hsq) hr, by simp only [Wk, wts, wt]; omega, by simp only [Nk, List.length_cons]; omega, fun al2 sq2 r2 e => ?_⟩, fun B _ _ => rfl⟩
      simp only [List.cons.injEq, Prod.mk.injEq] at e
      rw [← e.1.2]
      exact ⟨fun _ _ => by simp, fun h => by cases h⟩
    rw [if_neg h49] at h
    cases h
theorem lgo_app {G : T → Bool} {L : Nat} : ∀ (a b : List Nat) (s : RS) (p : Nat), lgo G L (a ++ b) s p = match lgo G L a s p with
    | .inl q => .inl q
    | .inr s2 => lgo G L b s2 (p + a.length)
  | [], b, s, p => rfl
  | c :: a, b, s, p => by
    show (match lst G L c s with | none => Sum.inl p | some s2 => lgo G L (a ++ b) s2 (p + 1)) = match (match lst G L c s with | none => Sum.inl p | some s2 => lgo G L a s2 (p + 1)) with
      | .inl q => .inl q
      | .inr s2 => lgo G L b s2 (p + (a.length + 1))
    cases lst G L c s with
    | none => rfl
    | some s2 =>
      dsimp only
      rw [lgo_app a b s2 (p + 1), Nat.add_assoc, Nat.add_comm 1]
theorem run_inv : ∀ (a : List Nat) (s : RS) (p : Nat) (s2 : RS) (W N : Nat), lgo yes 60 a s p = .inr s2 → Inv2 s W N → Inv2 s2 (W + cntc a) (N + a.length) ∧ ∀ B, 1 ≤ B → W + cntc a ≤ B → lgo (gd B) 60 a s p = .inr s2
  | [], s, p, s2, W, N, h, I => by
    have := Sum.inr.inj (show Sum.inr s = Sum.inr s2 from h)
    subst this
    exact ⟨I, fun _ _ _ => rfl⟩
  | c :: a, s, p, s2, W, N, h, I => by
    rw [lgo_cons] at h
    cases e : lst yes 60 c s with
    | none => rw [e] at h; cases h
    | some s1 =>
      rw [e] at h
      obtain ⟨I1, g1⟩ := lst_inv e I
      obtain ⟨I2, g2⟩ := run_inv a s1 (p + 1) s2 _ _ h I1
      have ec : cntc (c :: a) = wcb c + cntc a := by
        unfold cntc wcb
        rw [List.countP_cons]
        omega
      refine ⟨?_, fun B hB hW => ?_⟩
      · rw [ec, ← Nat.add_assoc, List.length_cons, show N + (a.length + 1) = N + 1 + a.length by omega]
        exact I2
      · rw [lgo_cons, g1 B hB (by omega)]
        exact g2 B hB (by omega)
/-- the trees on the way are not deep -/
def DB (B : Nat) (s : RS) : Prop := ∀ l ∈ s.stk, (∀ t ∈ l.1, depth t ≤ B) ∧ ∀ t ∈ l.2, depth t ≤ B
theorem lst_dp {B c : Nat} {s s2 : RS} (hB : 1 ≤ B) (h : lst (gd B) 60 c s = some s2) (I : DB B s) : DB B s2 := by
  obtain ⟨w, stk, k⟩ := s
  cases stk with
  | nil => cases h
  | cons x r =>
    obtain ⟨al, sq⟩ := x
    have hal : ∀ t ∈ al, depth t ≤ B := (I (al, sq) (by simp)).1
    have hsq : ∀ t ∈ sq, depth t ≤ B := (I (al, sq) (by simp)).2
    have hr : ∀ l ∈ r, (∀ t ∈ l.1, depth t ≤ B) ∧ ∀ t ∈ l.2, depth t ≤ B := fun l hl => I l (List.mem_cons_of_mem _ hl)
    have push : ∀ {l : List T × List T} {r : Stk} {w : W} {k : Nat}, (∀ t ∈ l.1, depth t ≤ B) → (∀ t ∈ l.2, depth t ≤ B) → (∀ l ∈ r, (∀ t ∈ l.1, depth t ≤ B) ∧ ∀ t ∈ l.2, depth t ≤ B) → DB B ⟨w, l :: r, k⟩ := fun h1 h2 h3 z hz => by
      rcases List.mem_cons.mp hz with e | e
      · rw [e]; exact ⟨h1, h2⟩
      · exact h3 z e
    have cons : ∀ {t : T} {l : List T}, depth t ≤ B → (∀ t ∈ l, depth t ≤ B) → ∀ x ∈ t :: l, depth x ≤ B := fun h1 h2 x hx => by
      rcases List.mem_cons.mp hx with e | e
      · rw [e]; exact h1
      · exact h2 x e
    have it : ∀ v : List Nat, depth (.i v) ≤ B := fun v => by simp only [depth]; omega
    have h : lstep (gd B) 60 c w al sq r k = some s2 := h
    unfold lstep at h
    split at h
    · split at h
      · have := Option.some.inj h; subst this; exact push hal (cons (it _) hsq) hr
      · cases h
    split at h
    · have := Option.some.inj h; subst this; exact I
    split at h
    · split at h
      · rename_i v q e
        have := Option.some.inj h; subst this
        exact push hal (cons (it _) fun t ht => hsq t (List.mem_cons_of_mem _ ht)) hr
      · cases h
    split at h
    · split at h
      · rename_i x q e
        split at h
        · rename_i hg
          have := Option.some.inj h; subst this
          exact push hal (cons (of_decide_eq_true hg) fun t ht => hsq t (List.mem_cons_of_mem _ ht)) hr
        · cases h
      · cases h
    split at h
    · split at h
      · rename_i hg
        have := Option.some.inj h; subst this
        exact push (cons (of_decide_eq_true hg) hal) (by simp) hr
      · cases h
    split at h
    · split at h
      · rename_i al2 sq2 r2 _ _
        split at h
        · rename_i hg
          rw [Bool.and_eq_true] at hg
          have := Option.some.inj h; subst this
          have h2 := hr (al2, sq2) (by simp)
          exact push h2.1 (cons (of_decide_eq_true hg.2) h2.2) fun l hl => hr l (List.mem_cons_of_mem _ hl)
        · cases h
      · cases h
    split at h
    · have := Option.some.inj h; subst this; exact push (by simp) (by simp) I
    split at h
    · have := Option.some.inj h; subst this; exact I
    split at h
    · have := Option.some.inj h; subst this; exact push hal (cons (it _) hsq) hr
    split at h
    · have := Option.some.inj h; subst this; exact push hal (cons (by simp only [depth]; omega) hsq) hr
    split at h
    · have := Option.some.inj h; subst this; exact push hal (cons (by simp only [depth]; omega) hsq) hr
    cases h
theorem run_dp {B : Nat} (hB : 1 ≤ B) : ∀ (a : List Nat) (s : RS) (p : Nat) (s2 : RS), lgo (gd B) 60 a s p = .inr s2 → DB B s → DB B s2
  | [], s, p, s2, h, I => by
    have := Sum.inr.inj (show Sum.inr s = Sum.inr s2 from h)
    subst this
    exact I
  | c :: a, s, p, s2, h, I => by
    rw [lgo_cons] at h
    cases e : lst (gd B) 60 c s with
    | none => rw [e] at h; cases h
    | some s1 =>
      rw [e] at h
      exact run_dp hB a s1 (p + 1) s2 h (lst_dp hB e I)
theorem db0 (B : Nat) : DB B init := fun l hl => by
  have : l = ([], []) := by simpa [init] using hl
  rw [this]
  exact ⟨by simp, by simp⟩
theorem lst_yes {G : T → Bool} {L c : Nat} {s s2 : RS} (h : lst G L c s = some s2) : lst yes L c s = some s2 := by
  obtain ⟨w, stk, k⟩ := s
  cases stk with
  | nil => cases h
  | cons x r =>
    obtain ⟨al, sq⟩ := x
    have h : lstep G L c w al sq r k = some s2 := h
    show lstep yes L c w al sq r k = some s2
    unfold lstep at h ⊢
    have y : ∀ t, yes t = true := fun _ => rfl
    by_cases hm : w = .mark
    · rw [if_pos hm] at h ⊢; exact h
    rw [if_neg hm] at h ⊢
    by_cases h32 : c = 32
    · rw [if_pos h32] at h ⊢; exact h
    rw [if_neg h32] at h ⊢
    by_cases h39 : c = 39 ∧ w = .letter
    · rw [if_pos h39] at h ⊢; exact h
    rw [if_neg h39] at h ⊢
    by_cases h42 : c = 42 ∧ w ≠ .need ∧ w ≠ .star
    · rw [if_pos h42] at h ⊢
      cases sq with
      | nil => cases h
      | cons x q =>
        dsimp only at h ⊢
        rw [if_pos (y _)]
        split at h
        · exact h
        · cases h
    rw [if_neg h42] at h ⊢
    by_cases h124 : c = 124 ∧ w ≠ .need
    · rw [if_pos h124] at h ⊢
      rw [if_pos (y _)]
      split at h
      · exact h
      · cases h
    rw [if_neg h124] at h ⊢
    by_cases h41 : c = 41 ∧ w ≠ .need ∧ r ≠ []
    · rw [if_pos h41] at h ⊢
      cases r with
      | nil => cases h
      | cons z r2 =>
        obtain ⟨al2, sq2⟩ := z
        dsimp only at h ⊢
        rw [y, y, show (true && true) = true from rfl, if_pos rfl]
        split at h
        · exact h
        · cases h
    rw [if_neg h41] at h ⊢
    exact h
theorem lgo_yes {G : T → Bool} {L : Nat} : ∀ (a : List Nat) (s : RS) (p : Nat) (s2 : RS), lgo G L a s p = .inr s2 → lgo yes L a s p = .inr s2
  | [], s, p, s2, h => h
  | c :: a, s, p, s2, h => by
    rw [lgo_cons] at h ⊢
    cases e : lst G L c s with
    | none => rw [e] at h; cases h
    | some s1 =>
      rw [e] at h
      rw [lst_yes e]
      exact lgo_yes a s1 (p + 1) s2 h
/-- on its way the reader meets no tree that is too deep -/
def Mid (l : List Nat) : Prop := ∀ a b s, l = a ++ b → lgo yes 60 a init 0 = .inr s → lgo (gd 80) 60 a init 0 = .inr s
theorem mid_light {l : List Nat} (h : cntc l ≤ 80) : Mid l := fun a b s e ha => by
  refine (run_inv a init 0 s 0 0 ha inv0).2 80 (by decide) ?_
  rw [e, cntc_app] at h
  omega
theorem mid_run {l : List Nat} {s2 : RS} (h : lgo (gd 80) 60 l init 0 = .inr s2) : Mid l := fun a b s e ha => by
  rw [e, lgo_app] at h
  cases e2 : lgo (gd 80) 60 a init 0 with
  | inl q => rw [e2] at h; cases h
  | inr s1 =>
    have := lgo_yes a init 0 s1 e2
    rw [ha] at this
    rw [Sum.inr.inj this]
theorem mid_err {l : List Nat} {c : Nat} {s2 : RS} (h : lgo (gd 80) 60 l init 0 = .inr s2) (hc : lst yes 60 c s2 = none) : Mid (l ++ [c]) := fun a b s e ha => by
  rcases List.eq_nil_or_concat b with rfl | ⟨b2, x, rfl⟩
  · rw [List.append_nil] at e
    rw [← e, lgo_app, lgo_yes l init 0 s2 h] at ha
    dsimp only at ha
    rw [lgo_none hc] at ha
    cases ha
  · rw [List.concat_eq_append, ← List.append_assoc] at e
    have := List.append_inj_left' e rfl
    exact mid_run h a b2 s this ha
theorem lst_flat {c : Nat} {s s2 : RS} (h : lst yes 60 c s = some s2) (h40 : c ≠ 40) (I : FlatOk s.stk) : lst (gd 80) 60 c s = some s2 ∧ FlatOk s2.stk := by
  obtain ⟨w, stk, k⟩ := s
  obtain ⟨al, sq, e, hal, hsq⟩ := I
  have e : stk = [(al, sq)] := e
  subst e
  have h : lstep yes 60 c w al sq [] k = some s2 := h
  show lstep (gd 80) 60 c w al sq [] k = some s2 ∧ _
  have gg : ∀ {t : T} {d : Nat}, depth t ≤ d → d ≤ 80 → gd 80 t = true := fun h1 h2 => decide_eq_true (Nat.le_trans h1 h2)
  have cons : ∀ {t : T}, depth t ≤ 1 → ∀ x ∈ t :: sq, depth x ≤ 1 ∨ (x.isM = true ∧ depth x ≤ 2) := fun h1 x hx => by
    rcases List.mem_cons.mp hx with e | e
    · rw [e]; exact .inl h1
    · exact hsq x e
  unfold lstep at h ⊢
  by_cases hm : w = .mark
  · rw [if_pos hm] at h ⊢
    by_cases hk : isK c = true
    · rw [if_pos hk] at h ⊢
      have := Option.some.inj h
      subst this
      exact ⟨rfl, al, _, rfl, hal, cons (by simp [depth])⟩
    · rw [if_neg hk] at h; cases h
  rw [if_neg hm] at h ⊢
  by_cases h32 : c = 32
  · rw [if_pos h32] at h ⊢
    have := Option.some.inj h
    subst this
    exact ⟨rfl, al, sq, rfl, hal, hsq⟩
  rw [if_neg h32] at h ⊢
  by_cases h39 : c = 39 ∧ w = .letter
  · rw [if_pos h39] at h ⊢
    split at h
    · rename_i v q
      have := Option.some.inj h
      subst this
      refine ⟨rfl, al, _, rfl, hal, fun x hx => ?_⟩
      rcases List.mem_cons.mp hx with e | e
      · rw [e]; left; simp [depth]
      · exact hsq x (List.mem_cons_of_mem _ e)
    · cases h
  rw [if_neg h39] at h ⊢
  by_cases h42 : c = 42 ∧ w ≠ .need ∧ w ≠ .star
  · rw [if_pos h42] at h ⊢
    cases sq with
    | nil => cases h
    | cons x q =>
      dsimp only at h ⊢
      rw [if_pos (show yes _ = true from rfl)] at h
      have hx := again_flat (hsq x (by simp))
      rw [if_pos (gg (flat_two hx) (by decide))]
      have := Option.some.inj h
      subst this
      refine ⟨rfl, al, _, rfl, hal, fun t ht => ?_⟩
      rcases List.mem_cons.mp ht with e | e
      · rw [e]; exact hx
      · exact hsq t (List.mem_cons_of_mem _ e)
  rw [if_neg h42] at h ⊢
  by_cases h124 : c = 124 ∧ w ≠ .need
  · rw [if_pos h124] at h ⊢
    rw [if_pos (show yes _ = true from rfl)] at h
    have hl : depth (lthen sq.reverse) ≤ 3 := depth_lthen fun p hp => flat_two (hsq p (by simpa using hp))
    rw [if_pos (gg hl (by decide))]
    have := Option.some.inj h
    subst this
    refine ⟨rfl, _, _, rfl, fun t ht => ?_, by simp⟩
    rcases List.mem_cons.mp ht with e | e
    · rw [e]; exact hl
    · exact hal t e
  rw [if_neg h124] at h ⊢
  have h41 : ¬ (c = 41 ∧ w ≠ .need ∧ ([] : Stk) ≠ []) := fun h => h.2.2 rfl
  rw [if_neg h41] at h ⊢
  have h40' : ¬ (c = 40 ∧ ([] : Stk).length < 60) := fun h => h40 h.1
  rw [if_neg h40'] at h ⊢
  by_cases h63 : c = 63
  · rw [if_pos h63] at h ⊢
    have := Option.some.inj h
    subst this
    exact ⟨rfl, al, sq, rfl, hal, hsq⟩
  rw [if_neg h63] at h ⊢
  by_cases hL : isL c = true
  · rw [if_pos hL] at h ⊢
    have := Option.some.inj h
    subst this
    exact ⟨rfl, al, _, rfl, hal, cons (by simp [depth])⟩
  rw [if_neg hL] at h ⊢
  by_cases h48 : c = 48
  · rw [if_pos h48] at h ⊢
    have := Option.some.inj h
    subst this
    exact ⟨rfl, al, _, rfl, hal, cons (by simp [depth])⟩
  rw [if_neg h48] at h ⊢
  by_cases h49 : c = 49
  · rw [if_pos h49] at h ⊢
    have := Option.some.inj h
    subst this
    exact ⟨rfl, al, _, rfl, hal, cons (by simp [depth])⟩
  rw [if_neg h49] at h
  cases h
theorem run_flat : ∀ (a : List Nat) (s : RS) (p : Nat) (s2 : RS), lgo yes 60 a s p = .inr s2 → 40 ∉ a → FlatOk s.stk → lgo (gd 80) 60 a s p = .inr s2
  | [], s, p, s2, h, _, _ => h
  | c :: a, s, p, s2, h, hn, I => by
    rw [lgo_cons] at h ⊢
    cases e : lst yes 60 c s with
    | none => rw [e] at h; cases h
    | some s1 =>
      rw [e] at h
      obtain ⟨h1, h2⟩ := lst_flat e (fun z => hn (by rw [z]; simp)) I
      rw [h1]
      exact run_flat a s1 (p + 1) s2 h (fun z => hn (List.mem_cons_of_mem _ z)) h2
theorem mid_flat {l : List Nat} (h : 40 ∉ l) : Mid l := fun a b s e ha =>
  run_flat a init 0 s ha (fun z => h (by rw [e]; exact List.mem_append_left _ z)) ⟨[], [], rfl, by simp, by simp⟩
theorem gd80 : ∀ u, depth u ≤ 80 → gd 80 u = true := fun u h => decide_eq_true h
theorem mid_deep {t : T} (hs : SF t) (hd : depth t ≤ 41) : Mid (text t) := by
  obtain ⟨w, al, sq, _, _, _, _, _, h⟩ := rt_text (G := gd 80) (L := 60) (D := 80) gd80 hs (by omega) (by omega)
  exact mid_run h.end
theorem mid_close {t : T} (hs : SF t) (hd : depth t ≤ 41) : Mid (text t ++ [41]) := by
  obtain ⟨w, al, sq, _, hm, _, _, _, h⟩ := rt_text (G := gd 80) (L := 60) (D := 80) gd80 hs (by omega) (by omega)
  have hL : isL 41 = false := by decide
  exact mid_err h.end (by simp [lst, lstep, hm, hL])
theorem mid_deep0 {t : T} (hs : SF t) (hd : depth t ≤ 41) : Mid (40 :: text t ++ [41] ++ [32] ++ [48]) := by
  have a := (rt_all (G := gd 80) (L := 60) (D := 80) gd80 _ t hs (Nat.le_refl _) (by omega)).2 .need [] [] [] 0 (by simp) (by simp only [List.length_nil]; omega)
  have b := go_space (G := gd 80) (L := 60) (w := .base) (al := []) (sq := [t]) (r := []) (k := 0 + size t) (by simp)
  have c := go_zero (G := gd 80) (L := 60) (w := .base) (al := []) (sq := [t]) (r := []) (k := 0 + size t) (by simp)
  exact mid_run ((a.app b).app c).end
theorem mid_over {t : T} {c : Nat} (hc : isL c = true) (hs : SF t) (hd : depth t ≤ 41) : Mid (text t ++ [32] ++ [124] ++ [32] ++ joinL [32] (List.replicate 2000 [c])) := by
  obtain ⟨w, al, sq, _, _, _, _, h⟩ := go_over (G := gd 80) (D := 80) gd80 (by omega) hc hs hd
  exact mid_run h.end
theorem mid_over_mark {t : T} {c : Nat} (hc : isL c = true) (hs : SF t) (hd : depth t ≤ 41) : Mid (text t ++ [32] ++ [124] ++ [32] ++ joinL [32] (List.replicate 2000 [c]) ++ [63]) := by
  obtain ⟨w, al, sq, _, hm, _, _, h⟩ := go_over (G := gd 80) (D := 80) gd80 (by omega) hc hs hd
  have hL : isL 63 = false := by decide
  have b := Go.one (G := gd 80) (L := 60) (c := 63) (s := ⟨w, [(al, sq)], size t + 2000⟩) (s2 := ⟨.mark, [(al, sq)], size t + 2000⟩) (by simp [lst, lstep, hm, hL])
  exact mid_run (h.app b).end
end K02
namespace L2.WB
open PySem PySem.Spec PyProof.Rows
open K02 (T isL isK isI lthen leither lagain wts sizes flatN flatO addU addU1)
inductive LRows (H : Hp) : List Addr → List (List T) → Prop
  | nil : LRows H [] []
  | cons {r : Addr} {ws : List V} {row : List T} {rs : List Addr} {rows : List (List T)} : H r = some (.lst ws) → LTs H ws row → LRows H rs rows → LRows H (r :: rs) (row :: rows)
theorem LRows.keep {H H2 : Hp} (k : Kp H H2) : ∀ {rs : List Addr} {rows : List (List T)}, LRows H rs rows → (∀ b ∈ rs, ∀ o, H b = some o → H2 b = some o) → LRows H2 rs rows
  | _, _, .nil, _ => .nil
  | _, _, .cons h p r, f => .cons (f _ (by simp) _ h) (p.keep k) (r.keep k fun b hb => f b (List.mem_cons_of_mem _ hb))
theorem LRows.there {H : Hp} : ∀ {rs : List Addr} {rows : List (List T)}, LRows H rs rows → ∀ b ∈ rs, ∃ xs, H b = some (.lst xs)
  | _, _, .nil, b, hb => by cases hb
  | _, _, .cons h _ r, b, hb => by
    rcases List.mem_cons.mp hb with e | e
    · rw [e]; exact ⟨_, h⟩
    · exact r.there b e
structure Rs (H0 H : Hp) (A B : Addr) (as : List Addr) (als : List (List T)) (bs : List Addr) (sqs : List (List T)) : Prop where
  same : Same H0 H
  la : H A = some (.lst (as.map V.ref).reverse)
  lb : H B = some (.lst (bs.map V.ref).reverse)
  ra : LRows H as als
  rb : LRows H bs sqs
  nd : (A :: B :: (as ++ bs)).Nodup
  fr : ∀ b ∈ A :: B :: (as ++ bs), H0 b = none
section
variable {H0 H H2 : Hp} {A B b r : Addr} {as bs : List Addr} {als sqs : List (List T)} {s s2 : List T} {ws2 : List V}
theorem Rs.swap (h : Rs H0 H A B as als bs sqs) : Rs H0 H B A bs sqs as als := by
  refine ⟨h.same, h.lb, h.la, h.rb, h.ra, ?_, fun b hb => h.fr b ?_⟩
  · have nd := h.nd
    simp only [List.nodup_cons, List.mem_cons, List.mem_append, not_or] at nd ⊢
    have n2 := List.nodup_append.mp nd.2.2
    refine ⟨⟨Ne.symm nd.1.1, nd.2.1.2, nd.2.1.1⟩, ⟨nd.1.2.2, nd.1.2.1⟩, ?_⟩
    rw [List.nodup_append]
    exact ⟨n2.2.1, n2.1, fun x hx y hy => (n2.2.2 y hy x hx).symm⟩
  · simp only [List.mem_cons, List.mem_append] at hb ⊢
    rcases hb with e | e | e | e
    · exact .inr (.inl e)
    · exact .inl e
    · exact .inr (.inr (.inr e))
    · exact .inr (.inr (.inl e))
theorem Rs.grow (h : Rs H0 H A B as als bs sqs) (s : Same H H2) : Rs H0 H2 A B as als bs sqs :=
  ⟨h.same.trans s, s _ _ h.la, s _ _ h.lb, h.ra.keep (Same.kp s) fun b _ o e => s b o e, h.rb.keep (Same.kp s) fun b _ o e => s b o e, h.nd, h.fr⟩
theorem Rs.new (h : Rs H0 H A B as als bs sqs) {x : Addr} (hx : H x = none) : x ≠ A ∧ x ≠ B ∧ x ∉ as ∧ x ∉ bs := by
  refine ⟨fun e => ?_, fun e => ?_, fun e => ?_, fun e => ?_⟩
  · have := h.la; rw [← e, hx] at this; cases this
  · have := h.lb; rw [← e, hx] at this; cases this
  · obtain ⟨_, z⟩ := h.ra.there x e; rw [hx] at z; cases z
  · obtain ⟨_, z⟩ := h.rb.there x e; rw [hx] at z; cases z
/-- the top list of B is another one -/
theorem Rs.setB (h : Rs H0 H A B as als (b :: bs) (s :: sqs)) (p : LTs H ws2 s2) : Rs H0 (upd H b (.lst ws2)) A B as als (b :: bs) (s2 :: sqs) := by
  have nd := h.nd
  simp only [List.nodup_cons, List.mem_cons, List.mem_append, not_or, List.nodup_append] at nd
  obtain ⟨⟨n1, n2, n3, n4⟩, ⟨n5, n6, n7⟩, n8, n9, n10⟩ := nd
  cases h.rb with
  | cons hb hp hr =>
    have k := kp_lst (ys := ws2) hb
    refine ⟨Same.upd_new h.same (h.fr b (by simp)), ?_, ?_, h.ra.keep k fun x hx o e => ?_, .cons upd_same (p.keep k) (hr.keep k fun x hx o e => ?_), h.nd, h.fr⟩
    · rw [upd_ne n3]; exact h.la
    · rw [upd_ne n6]; exact h.lb
    · rw [upd_ne (show x ≠ b from fun z => n10 x hx b (by simp) z)]; exact e
    · rw [upd_ne (show x ≠ b from fun z => n9.1 (by rw [← z]; exact hx))]; exact e
/-- B's top taken off -/
theorem Rs.popB (h : Rs H0 H A B as als (b :: bs) (s :: sqs)) : Rs H0 (upd H B (.lst (bs.map V.ref).reverse)) A B as als bs sqs ∧ ∃ ws, upd H B (.lst (bs.map V.ref).reverse) b = some (.lst ws) ∧ LTs (upd H B (.lst (bs.map V.ref).reverse)) ws s := by
  have nd := h.nd
  simp only [List.nodup_cons, List.mem_cons, List.mem_append, not_or, List.nodup_append] at nd
  obtain ⟨⟨n1, n2, n3, n4⟩, ⟨n5, n6, n7⟩, n8, n9, n10⟩ := nd
  cases h.rb with
  | @cons _ ws _ _ _ hb hp hr =>
    have k := kp_lst (ys := (bs.map V.ref).reverse) h.lb
    refine ⟨⟨Same.upd_new h.same (h.fr B (by simp)), ?_, upd_same, h.ra.keep k fun x hx o e => ?_, hr.keep k fun x hx o e => ?_, ?_, fun x hx => h.fr x ?_⟩, ws, ?_, hp.keep k⟩
    · rw [upd_ne n1]; exact h.la
    · rw [upd_ne (show x ≠ B from fun z => n5 (by rw [← z]; exact hx))]; exact e
    · rw [upd_ne (show x ≠ B from fun z => n7 (by rw [← z]; exact hx))]; exact e
    · simp only [List.nodup_cons, List.mem_cons, List.mem_append, not_or, List.nodup_append]
      exact ⟨⟨n1, n2, n4⟩, ⟨n5, n7⟩, n8, n9.2, fun x hx y hy => n10 x hx y (by simp [hy])⟩
    · simp only [List.mem_cons, List.mem_append] at hx ⊢
      rcases hx with e | e | e | e
      · exact .inl e
      · exact .inr (.inl e)
      · exact .inr (.inr (.inl e))
      · exact .inr (.inr (.inr (.inr e)))
    · rw [upd_ne (Ne.symm n6)]; exact hb
/-- a new list on B -/
theorem Rs.pushB (h : Rs H0 H A B as als bs sqs) (n : H r = none) : Rs H0 (upd (upd H r (.lst [])) B (.lst ((bs.map V.ref).reverse ++ [.ref r]))) A B as als (r :: bs) ([] :: sqs) := by
  obtain ⟨m1, m2, m3, m4⟩ := h.new n
  have h1 := h.grow (same_new (o := .lst []) n)
  have n0 : H0 r = none := Same.free h.same n
  have nd := h.nd
  simp only [List.nodup_cons, List.mem_cons, List.mem_append, not_or, List.nodup_append] at nd
  obtain ⟨⟨n1, n2, n4⟩, ⟨n5, n7⟩, n8, n9, n10⟩ := nd
  have k := kp_lst (ys := (bs.map V.ref).reverse ++ [.ref r]) h1.lb
  refine ⟨Same.upd_new h1.same (h.fr B (by simp)), ?_, ?_, h1.ra.keep k fun x hx o e => ?_, .cons ?_ .nil (h1.rb.keep k fun x hx o e => ?_), ?_, ?_⟩
  · rw [upd_ne n1]; exact h1.la
  · rw [upd_same, List.map_cons, List.reverse_cons]
  · rw [upd_ne (show x ≠ B from fun z => n5 (by rw [← z]; exact hx))]; exact e
  · rw [upd_ne m2, upd_same]
  · rw [upd_ne (show x ≠ B from fun z => n7 (by rw [← z]; exact hx))]; exact e
  · simp only [List.nodup_cons, List.mem_cons, List.mem_append, not_or, List.nodup_append]
    refine ⟨⟨n1, n2, Ne.symm m1, n4⟩, ⟨n5, Ne.symm m2, n7⟩, n8, ⟨m4, n9⟩, fun x hx y hy => ?_⟩
    rcases hy with e | e
    · rw [e]; exact fun z => m3 (by rw [← z]; exact hx)
    · exact n10 x hx y e
  · intro x hx
    simp only [List.mem_cons, List.mem_append] at hx
    rcases hx with e | e | e | e | e
    · exact h.fr x (by simp [e])
    · exact h.fr x (by simp [e])
    · exact h.fr x (by simp [e])
    · rw [e]; exact n0
    · exact h.fr x (by simp [e])
end
mutual
theorem asc_sf : ∀ t : T, K02.SF t → Asc t = true
  | .z, _ => rfl
  | .s, _ => rfl
  | .i w, h => by
    unfold K02.SF at h
    unfold Asc
    match w, h with
    | [c], h =>
      have h : isL c = true := h
      unfold isL at h
      simp at h
      simp
      omega
    | [c, d], h =>
      have h : ((isL c && d == 39) || (c == 63 && isK d)) = true := h
      unfold isL isK at h
      simp at h
      simp
      omega
  | .m b, h => by
    unfold K02.SF at h
    unfold Asc
    exact asc_sf b h.1
  | .n ps, h => by
    unfold K02.SF at h
    unfold Asc
    exact asc_sfs ps h.2.1
  | .o ps, h => by
    unfold K02.SF at h
    unfold Asc
    exact asc_sfs ps h.2.1
theorem asc_sfs : ∀ ts : List T, K02.SFs ts → Ascs ts = true
  | [], _ => rfl
  | t :: ts, h => by
    unfold K02.SFs at h
    unfold Ascs
    rw [asc_sf t h.1, asc_sfs ts h.2]
    rfl
end
theorem flatN_len {ts : List T} (h : ∀ t ∈ ts, K02.SF t) : (flatN ts).length ≤ wts ts + ts.length := by
  induction ts with
  | nil => simp [flatN]
  | cons a r ih =>
    have ih := ih fun x hx => h x (List.mem_cons_of_mem _ hx)
    have h0 := h a (by simp)
    cases a with
    | n qs =>
      have h1 := h0
      unfold K02.SF at h1
      have := K02.wts_big (ps := qs) fun p hp => K02.wt_pos ((K02.SFs_iff qs).mp h1.2.1 p hp) (h1.2.2 p hp).1
      show (qs ++ flatN r).length ≤ _
      simp only [List.length_append, wts, K02.wt, List.length_cons]
      omega
    | s => show (flatN r).length ≤ _; simp only [wts, K02.wt, List.length_cons]; omega
    | z => show (T.z :: flatN r).length ≤ _; simp only [wts, K02.wt, List.length_cons]; omega
    | i w => show (T.i w :: flatN r).length ≤ _; simp only [wts, K02.wt, List.length_cons]; omega
    | o w => show (T.o w :: flatN r).length ≤ _; simp only [wts, K02.wt, List.length_cons]; omega
    | m w => show (T.m w :: flatN r).length ≤ _; simp only [wts, K02.wt, List.length_cons]; omega
theorem flatO_len2 {ts : List T} (h : ∀ t ∈ ts, K02.SF t) : (flatO ts).length ≤ wts ts + ts.length := by
  induction ts with
  | nil => simp [flatO]
  | cons a r ih =>
    have ih := ih fun x hx => h x (List.mem_cons_of_mem _ hx)
    have h0 := h a (by simp)
    cases a with
    | o qs =>
      have h1 := h0
      unfold K02.SF at h1
      have := K02.wts_big (ps := qs) fun p hp => K02.wt_pos ((K02.SFs_iff qs).mp h1.2.1 p hp) (h1.2.2.2 p hp).1
      show (qs ++ flatO r).length ≤ _
      simp only [List.length_append, wts, K02.wt, List.length_cons]
      omega
    | s => show (T.s :: flatO r).length ≤ _; simp only [wts, K02.wt, List.length_cons]; omega
    | z => show (T.z :: flatO r).length ≤ _; simp only [wts, K02.wt, List.length_cons]; omega
    | i w => show (T.i w :: flatO r).length ≤ _; simp only [wts, K02.wt, List.length_cons]; omega
    | n w => show (T.n w :: flatO r).length ≤ _; simp only [wts, K02.wt, List.length_cons]; omega
    | m w => show (T.m w :: flatO r).length ≤ _; simp only [wts, K02.wt, List.length_cons]; omega
theorem lrow_of {ts : List T} (h : ∀ t ∈ ts, K02.SF t ∧ K02.depth t ≤ 90) (hw : wts ts ≤ 40000) (hl : ts.length ≤ 40000) : LRow ts := by
  have h1 := flatN_len fun t ht => (h t ht).1
  have h2 := flatO_len2 fun t ht => (h t ht).1
  exact ⟨fun t ht => asc_sf t (h t ht).1, ⟨by omega, by omega⟩, fun t ht => (h t ht).2⟩
end L2.WB
namespace L2.WB
open PySem PySem.Spec PyProof.Rows
open K02 (T isL isK isI lthen leither lagain wts sizes flatN flatO addU addU1 W RS lgo lst init yes scan items trun lfin Mid)
def wS : W → List Nat
  | .need => [110, 101, 101, 100]
  | .letter => [108, 101, 116, 116, 101, 114]
  | .base => [98, 97, 115, 101]
  | .star => [115, 116, 97, 114]
  | .mark => [109, 97, 114, 107]
def RdOut (l : List Nat) (i k : Int) (t : T) : Prop := match scan l [124] 0 0 with
  | .error q => i = (q : Nat) ∧ t = .z
  | .ok S => i = -1 ∧ k = (items S : Nat) ∧ ∃ al sq, trun yes [([], [])] S = some [(al, sq)] ∧ sq ≠ [] ∧ t = lfin (al, sq)
def spLRead : Sp := fun vs H Q _ => ∃ l, vs = [.str (sOf l)] ∧ l.length ≤ 20000 ∧ Mid l ∧ ∀ p v i k t H2, Same H H2 → H2 p = some (.tup [.int i, v, .int k]) → LT H2 v t → RdOut l i k t → Q (.ref p) H2
theorem scan_err_of {l : List Nat} {q : Nat} (h : lgo yes 60 l init 0 = .inl q) : scan l [124] 0 0 = .error q := by
  cases e : scan l [124] 0 0 with
  | error p =>
    rcases K02.scan_error_lgo e with a | ⟨s2, a, _, _⟩
    · rw [h] at a
      rw [Sum.inl.inj a]
    · rw [h] at a; cases a
  | ok S =>
    obtain ⟨w, al, sq, _, _, _, _, a⟩ := K02.scan_ok_lgo e
    rw [h] at a; cases a
theorem scan_bad_of {l : List Nat} {s : RS} (h : lgo yes 60 l init 0 = .inr s) (hb : K02.bad s = true) : scan l [124] 0 0 = .error l.length := by
  cases e : scan l [124] 0 0 with
  | error p =>
    rcases K02.scan_error_lgo e with a | ⟨s2, _, _, a⟩
    · rw [h] at a; cases a
    · rw [a]
  | ok S =>
    obtain ⟨w, al, sq, h1, h2, _, _, a⟩ := K02.scan_ok_lgo e
    rw [h] at a
    have := Sum.inr.inj a
    subst this
    unfold K02.bad at hb
    simp [h1, h2] at hb
section
variable {K : PySem.W.Frag} {c : Ad} {H : Hp} {Q : VK} {E : XK} {vs : List V} {v : V} {t : T} {σ : St}
theorem or3 {ta tb tc : TE} {p1 p2 p3 : Bool} (ha : ∀ R : VK, R (.bl p1) H → ta σ H R) (hb : ∀ R : VK, R (.bl p2) H → tb σ H R) (hc : ∀ R : VK, R (.bl p3) H → tc σ H R) (q : Q (.bl (p1 || p2 || p3)) H) : uOrV ta (uOrV tb tc) σ H Q := by
  refine ha _ ?_
  cases p1 with
  | true => exact iteT q
  | false =>
    refine iteF (hb _ ?_)
    cases p2 with
    | true => exact iteT q
    | false => exact iteF (hc _ q)
theorem wS_eq (w x : W) : decide (sOf (wS w) = sOf (wS x)) = decide (w = x) := by
  rw [dec_sOf]
  cases w <;> cases x <;> decide
/-- (i, ('0',), k) -/
theorem out_err {l : List Nat} {H1 : Hp} {i k : Int} {q : Nat} (s : Same H H1) (hs : scan l [124] 0 0 = .error q) (hi : i = (q : Int)) (qq : ∀ p v i k t H2, Same H H2 → H2 p = some (.tup [.int i, v, .int k]) → LT H2 v t → RdOut l i k t → Q (.ref p) H2) :
    1 ≤ sizeLine ∧ ∀ p, H1 p = none → 3 ≤ sizeLine ∧ ∀ p2, upd H1 p (.tup [.str (sOf [48])]) p2 = none → Q (.ref p2) (upd (upd H1 p (.tup [.str (sOf [48])])) p2 (.tup [.int i, .ref p, .int k])) := by
  refine ⟨by decide +kernel, fun p hp => ⟨by decide +kernel, fun p2 hp2 => ?_⟩⟩
  refine qq p2 (.ref p) i k .z _ ((s.trans (same_new hp)).trans (same_new hp2)) upd_same (.z (get_new upd_same hp2)) ?_
  unfold RdOut
  rw [hs]
  exact ⟨hi, rfl⟩
theorem if2 {p q : Prop} [Decidable p] [Decidable q] {A B : Prop} (h1 : p → q → A) (h2 : ¬ (p ∧ q) → B) : if decide p = true then if decide q = true then A else B else B :=
  ifD (fun a => ifD (fun b => h1 a b) fun b => h2 fun h => b h.2) fun a => h2 fun h => a h.1
theorem if3 {p q : Prop} {b : Bool} [Decidable p] [Decidable q] {A B : Prop} (h1 : p → q → b = true → A) (h2 : ¬ (p ∧ q ∧ b = true) → B) : if decide p = true then if decide q = true then if b = true then A else B else B else B :=
  ifD (fun a => ifD (fun c => ifB (fun e => h1 a c e) fun e => h2 fun h => by rw [h.2.2] at e; cases e) fun c => h2 fun h => c h.2.1) fun a => h2 fun h => a h.1
theorem ifL2 {p q : Prop} [Decidable p] [Decidable q] {S : List V → Prop} {xs : List V} (hx : S xs) {A B : Prop} {f : List V → Prop} [∀ xs, Decidable (f xs)] (h1 : p → q → f xs → A) (h2 : ¬ (p ∧ q ∧ f xs) → B) : if decide p = true then if decide q = true then ∃ ys, S ys ∧ if decide (f ys) = true then A else B else B else B :=
  ifD (fun a => ifD (fun c => ⟨xs, hx, ifD (fun e => h1 a c e) fun e => h2 fun h => e h.2.2⟩) fun c => h2 fun h => c h.2.1) fun a => h2 fun h => a h.1
theorem ifL1 {p : Prop} [Decidable p] {S : List V → Prop} {xs : List V} (hx : S xs) {A B : Prop} {f : List V → Prop} [∀ xs, Decidable (f xs)] (h1 : p → f xs → A) (h2 : ¬ (p ∧ f xs) → B) : if decide p = true then ∃ ys, S ys ∧ if decide (f ys) = true then A else B else B :=
  ifD (fun a => ⟨xs, hx, ifD (fun e => h1 a e) fun e => h2 fun h => e h.2⟩) fun a => h2 fun h => a h.1
theorem LTs.last {H : Hp} {ws : List V} {x : T} {q : List T} (h : LTs H ws (x :: q).reverse) : ∃ w1 v, ws = w1 ++ [v] ∧ LTs H w1 q.reverse ∧ LT H v x := by
  rw [List.reverse_cons] at h
  have hl := h.len
  rw [List.length_append, List.length_singleton] at hl
  have e : ws = ws.take q.reverse.length ++ ws.drop q.reverse.length := (List.take_append_drop _ _).symm
  rw [e] at h
  obtain ⟨t1, t2, e2, p1, p2⟩ := h.split
  have l1 := p1.len
  rw [List.length_take] at l1
  have e3 := List.append_inj e2 (by omega)
  rw [← e3.1] at p1
  rw [← e3.2] at p2
  cases hd : ws.drop q.reverse.length with
  | nil => rw [hd] at p2; cases p2
  | cons v2 r2 =>
    rw [hd] at p2
    cases p2 with
    | cons pv pn =>
      cases pn
      exact ⟨_, v2, by rw [← hd]; exact e, p1, pv⟩
theorem Rs.topB {H0 H : Hp} {A B b : Addr} {as bs : List Addr} {als sqs : List (List T)} {s : List T} (h : Rs H0 H A B as als (b :: bs) (s :: sqs)) : ∃ ws, H b = some (.lst ws) ∧ LTs H ws s := by
  cases h.rb with
  | cons h1 h2 _ => exact ⟨_, h1, h2⟩
theorem LRows.len {H : Hp} : ∀ {rs : List Addr} {rows : List (List T)}, LRows H rs rows → rs.length = rows.length
  | _, _, .nil => rfl
  | _, _, .cons _ _ r => by simp [r.len]
theorem q__law_read (h : spLRead vs H Q E) : t__law_read K c spLAgain (spLSeq lthen) (spLSeq leither) (fin0 Q) (start N__law_read vs) H := by
  obtain ⟨l, rfl, hl, hmid, qq⟩ := h
  show t__law_read K c spLAgain (spLSeq lthen) (spLSeq leither) (fin0 Q) [some (.str (sOf l)), none, none, none, none, none, none, none, none] H
  unfold t__law_read
  refine ⟨by decide +kernel, fun a0 na0 => ⟨(show 1 ≤ sizeLine by decide +kernel), fun A nA => ⟨by decide +kernel, fun b0 nb0 => ⟨(show 1 ≤ sizeLine by decide +kernel), fun B nB => ?_⟩⟩⟩⟩
  have s1 := same_new (o := .lst []) na0
  have s2 := s1.trans (same_new (o := .lst [.ref a0]) nA)
  have s3 := s2.trans (same_new (o := .lst []) nb0)
  have s4 := s3.trans (same_new (o := .lst [.ref b0]) nB)
  have e1 : upd H a0 (.lst []) a0 = some (.lst []) := upd_same
  have e2 : upd (upd H a0 (.lst [])) A (.lst [.ref a0]) A = some (.lst [.ref a0]) := upd_same
  have e3 : upd (upd (upd H a0 (.lst [])) A (.lst [.ref a0])) b0 (.lst []) b0 = some (.lst []) := upd_same
  have rs0 : Rs H (upd (upd (upd (upd H a0 (.lst [])) A (.lst [.ref a0])) b0 (.lst [])) B (.lst [.ref b0])) A B [a0] [[]] [b0] [[]] := by
    have n1 := ne_of_none e1 nA
    have n2 := ne_of_none (get_new e1 nA) nb0
    have n3 := ne_of_none (get_new (get_new e1 nA) nb0) nB
    have n4 := ne_of_none e2 nb0
    have n5 := ne_of_none (get_new e2 nb0) nB
    have n6 := ne_of_none e3 nB
    refine ⟨s4, get_new (get_new e2 nb0) nB, upd_same, .cons (get_new (get_new (get_new e1 nA) nb0) nB) .nil .nil, .cons (get_new e3 nB) .nil .nil, ?_, ?_⟩
    · simp [Ne.symm n1, n2, n3, n4, n5, n6, Ne.symm n3, Ne.symm n6]
    · intro x hx
      simp only [List.mem_cons, List.cons_append, List.nil_append, List.not_mem_nil, or_false] at hx
      rcases hx with e | e | e | e
      · rw [e]; exact Same.free s1 nA
      · rw [e]; exact Same.free s3 nB
      · rw [e]; exact na0
      · rw [e]; exact Same.free s2 nb0
  refine ⟨sl_ok (by rw [sOf_len]; omega), _, rfl, ?_, ?_, for_range (lo := 0) (n := l.length) (fun i σ H1 => ∃ w k stk as bs y5 y6 y7 y8, σ = [some (.str (sOf l)), some (.ref A), some (.ref B), some (.str (sOf (wS w))), some (.int (k : Nat)), y5, y6, y7, y8] ∧ Rs H H1 A B as (stk.map fun x => x.1.reverse) bs (stk.map fun x => x.2.reverse) ∧ lgo yes 60 (l.take i) init 0 = .inr ⟨w, stk, k⟩ ∧ stk ≠ [] ∧ stk.length ≤ i + 1) ⟨.need, 0, [([], [])], [a0], [b0], none, none, none, none, rfl, rs0, rfl, by simp, by simp⟩ ?_ ?_⟩
  · have := (sOf_len l); omega
  · have := (sOf_len l); omega
  · rintro i σ H1 hi ⟨w, k, stk, as, bs, y5, y6, y7, y8, rfl, rs, hgo, hsn, hsl⟩
    obtain ⟨ch, hch⟩ : ∃ ch, l[i]? = some ch := ⟨l[i], List.getElem?_eq_getElem hi⟩
    have tk : l.take (i + 1) = l.take i ++ [ch] := by rw [List.take_add_one, hch]; rfl
    have lsp : l = l.take i ++ ch :: l.drop (i + 1) := by
      have e : l = l.take (i + 1) ++ l.drop (i + 1) := (List.take_append_drop _ _).symm
      rw [tk, List.append_assoc] at e
      exact e
    have tlen : (l.take i).length = i := by rw [List.length_take]; omega
    have hg1 := hmid (l.take i) (ch :: l.drop (i + 1)) _ lsp hgo
    obtain ⟨I, _⟩ := K02.run_inv (l.take i) init 0 _ 0 0 hgo K02.inv0
    have D := K02.run_dp (by decide) (l.take i) init 0 _ hg1 (K02.db0 80)
    have cle : K02.cntc (l.take i) ≤ i := by have := List.countP_le_length (p := K02.wc) (l := l.take i); unfold K02.cntc; omega
    have next : ∀ s2, lst yes 60 ch ⟨w, stk, k⟩ = some s2 → lgo yes 60 (l.take (i + 1)) init 0 = .inr s2 ∧ lst (K02.gd 80) 60 ch ⟨w, stk, k⟩ = some s2 := fun s2 e => by
      have h1 : lgo yes 60 (l.take (i + 1)) init 0 = .inr s2 := by
        rw [tk, K02.lgo_app, hgo]
        show (match lst yes 60 ch ⟨w, stk, k⟩ with | none => _ | some s2 => _) = _
        rw [e]; rfl
      refine ⟨h1, ?_⟩
      have h2 := hmid (l.take (i + 1)) (l.drop (i + 1)) s2 (List.take_append_drop _ _).symm h1
      rw [tk, K02.lgo_app, hg1] at h2
      have h2 : (match lst (K02.gd 80) 60 ch ⟨w, stk, k⟩ with | none => Sum.inl _ | some s2 => lgo (K02.gd 80) 60 [] s2 _) = .inr s2 := h2
      cases e3 : lst (K02.gd 80) 60 ch ⟨w, stk, k⟩ with
      | none => rw [e3] at h2; cases h2
      | some s3 => rw [e3] at h2; rw [Sum.inr.inj h2]
    have stop : lst yes 60 ch ⟨w, stk, k⟩ = none → scan l [124] 0 0 = .error i := fun e => by
      refine scan_err_of ?_
      rw [lsp, K02.lgo_app, hgo]
      show (match lst yes 60 ch ⟨w, stk, k⟩ with | none => Sum.inl (0 + (l.take i).length) | some s2 => _) = _
      rw [e, tlen, Nat.zero_add]
    have hwt : K02.Wk stk ≤ 0 + K02.cntc (l.take i) := I.wt
    have hNk : K02.Nk stk ≤ 0 + (l.take i).length := I.n
    cases stk with
    | nil => exact absurd rfl hsn
    | cons x r =>
      obtain ⟨al, sq⟩ := x
      obtain ⟨hne, hlet⟩ := I.ne al sq r rfl
      have hne : w ≠ .need → w ≠ .mark → sq ≠ [] := hne
      have hlet : w = .letter → ∃ c q, sq = .i [c] :: q ∧ isL c = true := hlet
      have hsf := I.sf (al, sq) (by simp)
      have hdp := D (al, sq) (by simp)
      simp only [K02.Wk, K02.Nk] at hwt hNk
      rw [List.length_cons] at hsl
      cases bs with
      | nil => cases rs.rb
      | cons b bs =>
        cases as with
        | nil => cases rs.ra
        | cons a as =>
          have nx : K02.lstep yes 60 ch w al sq r k = lst yes 60 ch ⟨w, (al, sq) :: r, k⟩ := rfl
          obtain ⟨ws, hb, hws⟩ := rs.topB
          have hB : H1 B = some (.lst ((bs.map V.ref).reverse ++ [.ref b])) := by rw [← List.reverse_cons, ← List.map_cons]; exact rs.lb
          have hA : H1 A = some (.lst ((as.map V.ref).reverse ++ [.ref a])) := by rw [← List.reverse_cons, ← List.map_cons]; exact rs.la
          have hwl : ws.length ≤ i := by have := hws.len; rw [List.length_reverse] at this; dsimp only at this; omega
          have hal : as.length = r.length := by have := rs.ra.len; simpa using this
          have hbl : bs.length = r.length := by have := rs.rb.len; simpa using this
          dsimp only [tSeq, tAsg, tOp, uV, tC, gName, List.getElem?_cons_zero, List.getElem?_cons_succ, List.set_cons_zero, List.set_cons_succ]
          refine ix_txt (a := i) (by omega) (by simp) hch ?_
          refine or3 (p1 := decide (sOf (wS w) = sOf (wS .letter))) (p2 := decide (sOf (wS w) = sOf (wS .base))) (p3 := decide (sOf (wS w) = sOf (wS .star))) (fun R q => q) (fun R q => q) (fun R q => q) ?_
          have wm : decide (sOf (wS w) = sOf [109, 97, 114, 107]) = decide (w = .mark) := wS_eq w .mark
          have wl : decide (sOf (wS w) = sOf [108, 101, 116, 116, 101, 114]) = decide (w = .letter) := wS_eq w .letter
          have wt : decide (sOf (wS w) = sOf [115, 116, 97, 114]) = decide (w = .star) := wS_eq w .star
          have rdy : (decide (sOf (wS w) = sOf (wS .letter)) || (decide (sOf (wS w) = sOf (wS .base)) || decide (sOf (wS w) = sOf (wS .star)))) = decide (w ≠ .need ∧ w ≠ .mark) := by
            rw [wS_eq, wS_eq, wS_eq]; cases w <;> rfl
          dsimp only [tSeq, tAsg, tIfS, tRet, tRetN, tDrop, tNext, tOp, tUn, tCons, tNil, tTup, tLst, tC, tCB, tCan, tCanW, tAnd, tOr, tNot, tB, tIf, uB, uAndV, uOrV, uNotV, uNeg, uV, gName, gSub, tAug, ipI, tPart, tNoPart, tSl, tBM, tBM0, uLen, uAbs, uInt, uAdd, uSub, uMod, uFdiv, uMul, uCmp, uLt, uLe, uGt, uGe, tFld, StX.tMakeR, tRz, tCanS, sFld, start, fin0, List.getElem?_cons_zero, List.getElem?_cons_succ, List.map_cons, List.map_nil, List.length_cons, List.length_nil, List.replicate, List.cons_append, List.nil_append, Nat.reduceSub, Nat.reduceAdd, List.set_cons_zero, List.set_cons_succ, uEq, uNe]
          simp only [Bool.or_assoc]
          rw [rdy]
          have dc : ∀ x : Nat, decide (sOf [ch] = sOf [x]) = decide (ch = x) := fun x => by rw [dec_sOf]; simp
          rw [wm, dc 32, dc 39, wl, dc 42, dc 124, dc 41, dc 40, dc 63, dc 48, dc 49]
          have fin : ∀ {H2 : Hp} (w2 : W) (k2 : Nat) {stk2 : K02.Stk} {as2 bs2 : List Addr}, Rs H H2 A B as2 (stk2.map fun x => x.1.reverse) bs2 (stk2.map fun x => x.2.reverse) → lst yes 60 ch ⟨w, (al, sq) :: r, k⟩ = some ⟨w2, stk2, k2⟩ → stk2 ≠ [] → stk2.length ≤ i + 1 + 1 → ∀ (kv : Int) (z5 z6 z7 z8 : Option V), kv = ((k2 : Nat) : Int) → ∃ w k stk as bs y5 y6 y7 y8, [some (V.str (sOf l)), some (.ref A), some (.ref B), some (.str (sOf (wS w2))), some (.int kv), z5, z6, z7, z8] = [some (V.str (sOf l)), some (.ref A), some (.ref B), some (.str (sOf (wS w))), some (.int (k : Nat)), y5, y6, y7, y8] ∧ Rs H H2 A B as (stk.map fun x => x.1.reverse) bs (stk.map fun x => x.2.reverse) ∧ lgo yes 60 (l.take (i + 1)) init 0 = .inr ⟨w, stk, k⟩ ∧ stk ≠ [] ∧ stk.length ≤ i + 1 + 1 := fun w2 k2 stk2 as2 bs2 r2 e h1 h2 kv z5 z6 z7 z8 ek => ⟨w2, k2, stk2, as2, bs2, z5, z6, z7, z8, by rw [ek], r2, (next _ e).1, h1, h2⟩
          have leaf : ∀ {H2 : Hp} {v : V} {t : T} {QQ : VK}, Same H1 H2 → LT H2 v t → (Rs H (upd H2 b (.lst (ws ++ [v]))) A B (a :: as) (((al, t :: sq) :: r).map fun x => x.1.reverse) (b :: bs) (((al, t :: sq) :: r).map fun x => x.2.reverse) → QQ .non (upd H2 b (.lst (ws ++ [v])))) → uApp (.ref b) [v] H2 QQ := fun {H2 v t QQ} s lt q => by
            refine ⟨ws, s _ _ hb, by rw [sizeLine_eq]; omega, q ?_⟩
            have r2 := (rs.grow s).setB (s2 := (t :: sq).reverse) (ws2 := ws ++ [v]) (by rw [List.reverse_cons]; exact (hws.keep (Same.kp s)).app (.cons lt .nil))
            exact r2
          refine ifD (fun cm => ?_) fun cm => ?_
          · refine notin_uppers K ?_
            cases hk : isK ch with
            | false => exact iteT (out_err rs.same (stop (by rw [← nx]; unfold K02.lstep; simp [cm, hk])) (by simp) qq)
            | true =>
              refine iteF (ix_lst hB (atI_last _ _) ?_)
              refine ⟨tyl hb, (show 2 ≤ sizeLine by decide +kernel), by decide +kernel, fun p hp => leaf (same_new hp) (.i (upd_same.trans (by rw [sOf_add]))) fun rs2 => ?_⟩
              exact fin .base (k + 1) rs2 (by show K02.lstep yes 60 ch w al sq r k = _; unfold K02.lstep; simp [cm, hk]) (by simp) (by simp; omega) _ _ _ _ _ (by push_cast; rfl)
          refine ifD (fun c32 => ?_) fun c32 => ?_
          · refine ifD (fun c1 => ?_) fun c1 => ?_
            · exact fin .base k rs (by show K02.lstep yes 60 ch w al sq r k = _; unfold K02.lstep; simp [cm, c32, c1]) (by simp) (by simp; omega) _ _ _ _ _ rfl
            · exact fin w k rs (by show K02.lstep yes 60 ch w al sq r k = _; unfold K02.lstep; simp [cm, c32, c1]) (by simp) (by simp; omega) _ _ _ _ _ rfl
          have hrw : LRow sq.reverse := lrow_of (fun t ht => ⟨hsf.2 t (by simpa using ht), Nat.le_trans (hdp.2 t (by simpa using ht)) (by decide)⟩) (by rw [K02.wts_rev]; omega) (by rw [List.length_reverse]; omega)
          refine if2 (fun c1 c2 => ?_) fun c39 => ?_
          · obtain ⟨d, q, e, hd⟩ := hlet c2
            subst e
            obtain ⟨w1, v, e, hw1, hv⟩ := hws.last
            subst e
            have r2 := rs.setB (s2 := q.reverse) (ws2 := w1) hw1
            refine ix_lst hB (atI_last _ _) ⟨tyl hb, w1, v, hb, ?_⟩
            have hv2 := hv.keep (kp_lst (ys := w1) hb)
            have nBb : B ≠ b := by have := rs.nd; simp only [List.nodup_cons, List.mem_cons, List.mem_append, not_or] at this; exact this.2.1.2.1
            refine ix_lst ((upd_ne nBb).trans hB) (atI_last _ _) ⟨tyl upd_same, ?_⟩
            cases hv2 with
            | i h0 =>
              refine ix_tup2 h0 (atI_nat (j := 1) rfl) ⟨(show 2 ≤ sizeLine by decide +kernel), by decide +kernel, fun p hp => ⟨w1, get_new upd_same hp, by rw [List.length_append] at hwl; rw [sizeLine_eq]; omega, ?_⟩⟩
              have s4 := same_new (o := .tup [.str (sOf [105]), .str (sOf [d] ++ sOf [39])]) hp
              have r3 := (r2.grow s4).setB (s2 := (T.i ([d] ++ [39]) :: q).reverse) (ws2 := w1 ++ [.ref p]) (by rw [List.reverse_cons]; exact ((hw1.keep (kp_lst hb)).keep (Same.kp s4)).app (.cons (.i (upd_same.trans (by rw [sOf_add]))) .nil))
              exact fin .base k (stk2 := (al, T.i ([d] ++ [39]) :: q) :: r) r3 (by show K02.lstep yes 60 ch w al _ r k = _; unfold K02.lstep; simp [cm, c32, c1, c2]) (by simp) (by simp; omega) _ _ _ _ _ rfl
          refine if3 (fun c1 c2 c3 => ?_) fun c42 => ?_
          · obtain ⟨x, q, e⟩ : ∃ x q, sq = x :: q := by
              cases sq with
              | nil => exact absurd rfl (hne c2.1 c2.2)
              | cons x q => exact ⟨x, q, rfl⟩
            subst e
            have c3 : w ≠ .star := by rw [wt] at c3; simpa using c3
            obtain ⟨w1, v, e, hw1, hv⟩ := hws.last
            subst e
            have r2 := rs.setB (s2 := q.reverse) (ws2 := w1) hw1
            refine ix_lst hB (atI_last _ _) ⟨tyl hb, ix_lst hB (atI_last _ _) ⟨tyl hb, w1, v, hb, v, x, rfl, hv.keep (kp_lst hb), fun v2 H3 s3 lt3 => ⟨w1, s3 _ _ upd_same, by rw [List.length_append] at hwl; rw [sizeLine_eq]; omega, ?_⟩⟩⟩
            have r3 := (r2.grow s3).setB (s2 := (lagain x :: q).reverse) (ws2 := w1 ++ [v2]) (by rw [List.reverse_cons]; exact ((hw1.keep (kp_lst hb)).keep (Same.kp s3)).app (.cons lt3 .nil))
            exact fin .star k (stk2 := (al, lagain x :: q) :: r) r3 (by show K02.lstep yes 60 ch w al _ r k = _; unfold K02.lstep; simp [cm, c32, c1, c2, c3, yes]) (by simp) (by simp; omega) _ _ _ _ _ rfl
          refine if2 (fun c1 c2 => ?_) fun c124 => ?_
          · obtain ⟨r2, ws2, hb2, hws2⟩ := rs.popB
            have r2 : Rs H (upd H1 B (.lst (bs.map V.ref).reverse)) A B (a :: as) (al.reverse :: r.map fun x => x.1.reverse) bs (r.map fun x => x.2.reverse) := r2
            obtain ⟨was, ha, hwas⟩ := rs.swap.topB
            obtain ⟨was2, ha2, hwas2⟩ := r2.swap.topB
            have hwl2 := hwas2.len
            rw [List.length_reverse] at hwl2
            refine ix_lst hA (atI_last _ _) ⟨tyl ha, tyl hB, _, .ref b, hB, b, ws2, sq.reverse, rfl, hb2, hws2, hrw, fun v2 H3 s3 lt3 => ⟨was2, s3 _ _ ha2, by rw [sizeLine_eq]; omega, ?_⟩⟩
            have r3 := ((r2.grow s3).swap.setB (s2 := (lthen sq.reverse :: al).reverse) (ws2 := was2 ++ [v2]) (by rw [List.reverse_cons]; exact (hwas2.keep (Same.kp s3)).app (.cons lt3 .nil))).swap
            refine ⟨tyl r3.lb, by decide +kernel, fun p hp => ⟨_, (r3.grow (same_new hp)).lb, by rw [List.length_reverse, List.length_map, sizeLine_eq]; omega, ?_⟩⟩
            exact fin .need k (stk2 := (lthen sq.reverse :: al, []) :: r) (r3.pushB hp) (by show K02.lstep yes 60 ch w al _ r k = _; unfold K02.lstep; simp [cm, c32, c1, c2, yes]) (by simp) (by simp; omega) _ _ _ _ _ rfl
          have hlA : ((((a :: as).map V.ref).reverse).length : Int) = (r.length : Int) + 1 := by simp [hal]
          refine ifL2 (xs := ((a :: as).map V.ref).reverse) (.inl (sqL rs.la)) (fun c1 c2 c3 => ?_) fun c41 => ?_
          · have hr : r ≠ [] := fun e => by subst e; rw [hlA] at c3; simp at c3
            cases r with
            | nil => exact absurd rfl hr
            | cons y r =>
              obtain ⟨al2, sq2⟩ := y
              cases as with
              | nil => simp at hal
              | cons a2 as =>
                cases bs with
                | nil => simp at hbl
                | cons b2 bs =>
                  simp only [K02.Wk, K02.Nk] at hwt hNk
                  obtain ⟨r2, ws2, hb2, hws2⟩ := rs.popB
                  have r2 : Rs H (upd H1 B (.lst ((b2 :: bs).map V.ref).reverse)) A B (a :: a2 :: as) (al.reverse :: al2.reverse :: r.map fun x => x.1.reverse) (b2 :: bs) (sq2.reverse :: r.map fun x => x.2.reverse) := r2
                  obtain ⟨was, ha, hwas⟩ := rs.swap.topB
                  obtain ⟨was2, ha2, hwas2⟩ := r2.swap.topB
                  have hwl2 := hwas2.len
                  rw [List.length_reverse] at hwl2
                  refine ix_lst hA (atI_last _ _) ⟨tyl ha, tyl hB, _, .ref b, hB, b, ws2, sq.reverse, rfl, hb2, hws2, hrw, fun v2 H3 s3 lt3 => ⟨was2, s3 _ _ ha2, by rw [sizeLine_eq]; omega, ?_⟩⟩
                  have r3 := ((r2.grow s3).swap.setB (s2 := (lthen sq.reverse :: al).reverse) (ws2 := was2 ++ [v2]) (by rw [List.reverse_cons]; exact (hwas2.keep (Same.kp s3)).app (.cons lt3 .nil)))
                  have lb3 := r3.la
                  rw [List.map_cons, List.reverse_cons] at lb3
                  obtain ⟨wb, hb4, hwb4⟩ := r3.swap.topB
                  have la3 := r3.lb
                  rw [List.map_cons, List.reverse_cons] at la3
                  obtain ⟨r4, ws4, ha4, hws4⟩ := r3.popB
                  have r4 := r4.swap
                  obtain ⟨wb5, hb5, hwb5⟩ := r4.topB
                  have hwl5 := hwb5.len
                  rw [List.length_reverse] at hwl5
                  have hlw := K02.wt_lthen (K02.SFrev hsf.2) (by simpa using hne c2.1 c2.2)
                  rw [K02.wts_rev] at hlw
                  have hrw2 : LRow (lthen sq.reverse :: al).reverse := by
                    refine lrow_of (fun t ht => ?_) (by rw [K02.wts_rev]; simp only [wts]; dsimp only at hwt hlw; omega) (by rw [List.length_reverse, List.length_cons]; omega)
                    rw [List.mem_reverse, List.mem_cons] at ht
                    rcases ht with e | e
                    · rw [e]
                      exact ⟨K02.SF_lthen (K02.SFrev hsf.2), Nat.le_trans (K02.depth_lthen (d := 80) fun p hp => hdp.2 p (by simpa using hp)) (by decide)⟩
                    · exact ⟨hsf.1 t e, Nat.le_trans (hdp.1 t e) (by decide)⟩
                  refine ix_lst lb3 (atI_last _ _) ⟨tyl hb4, tyl la3, _, .ref a, la3, a, ws4, _, rfl, ha4, hws4, hrw2, fun v4 H5 s5 lt5 => ⟨wb5, s5 _ _ hb5, by rw [sizeLine_eq]; omega, ?_⟩⟩
                  have r6 := (r4.grow s5).setB (s2 := (leither (lthen sq.reverse :: al).reverse :: sq2).reverse) (ws2 := wb5 ++ [v4]) (by rw [List.reverse_cons]; exact (hwb5.keep (Same.kp s5)).app (.cons lt5 .nil))
                  exact fin .base k (stk2 := (al2, leither (lthen sq.reverse :: al).reverse :: sq2) :: r) r6 (by show K02.lstep yes 60 ch w al _ _ k = _; unfold K02.lstep; simp [cm, c32, c1, c2, yes]) (by simp) (by simp at hsl ⊢; omega) _ _ _ _ _ rfl
          refine ifL1 (xs := ((a :: as).map V.ref).reverse) (.inl (sqL rs.la)) (fun c1 c2 => ?_) fun c40 => ?_
          · rw [hlA] at c2
            refine ⟨tyl rs.la, by decide +kernel, fun p hp => ⟨_, (rs.grow (same_new hp)).la, by rw [List.length_reverse, List.length_map, List.length_cons, sizeLine_eq]; omega, ?_⟩⟩
            have r2 := rs.swap.pushB hp
            refine ⟨tyl r2.la, by decide +kernel, fun p2 hp2 => ⟨_, (r2.grow (same_new hp2)).la, by rw [List.length_reverse, List.length_map, List.length_cons, sizeLine_eq]; omega, ?_⟩⟩
            exact fin .need k (stk2 := ([], []) :: (al, sq) :: r) (r2.swap.pushB hp2) (by show K02.lstep yes 60 ch w al _ r k = _; unfold K02.lstep; simp [cm, c32, c1]; omega) (by simp) (by simp; omega) _ _ _ _ _ rfl
          have e41 : ¬ (ch = 41 ∧ w ≠ .need ∧ r ≠ []) := fun h => c41 ⟨h.1, ⟨h.2.1, cm⟩, by
            show (1 : Int) < _
            rw [hlA]
            have := List.length_pos_iff.mpr h.2.2
            omega⟩
          have e40 : ¬ (ch = 40 ∧ r.length < 60) := fun h => c40 ⟨h.1, by show _ < (61 : Int); rw [hlA]; omega⟩
          have e124 : ¬ (ch = 124 ∧ w ≠ .need) := fun h => c124 ⟨h.1, h.2, cm⟩
          have e42 : ¬ (ch = 42 ∧ w ≠ .need ∧ w ≠ .star) := fun h => c42 ⟨h.1, ⟨h.2.1, cm⟩, by rw [wt]; simpa using h.2.2⟩
          have e39 : ¬ (ch = 39 ∧ w = .letter) := c39
          have red : lst yes 60 ch ⟨w, (al, sq) :: r, k⟩ = if ch = 63 then some ⟨.mark, (al, sq) :: r, k⟩ else if isL ch then some ⟨.letter, (al, .i [ch] :: sq) :: r, k + 1⟩ else if ch = 48 then some ⟨.base, (al, .z :: sq) :: r, k⟩ else if ch = 49 then some ⟨.base, (al, .s :: sq) :: r, k⟩ else none := by
            show K02.lstep yes 60 ch w al sq r k = _
            unfold K02.lstep
            rw [if_neg cm, if_neg c32, if_neg e39, if_neg e42, if_neg e124, if_neg e41, if_neg e40]
          refine ifD (fun c63 => ?_) fun c63 => ?_
          · exact fin .mark k rs (by rw [red, if_pos c63]) (by simp) (by simp; omega) _ _ _ _ _ rfl
          rw [if_neg c63] at red
          refine in_lowers K ?_
          cases hL : isL ch with
          | true =>
            refine iteT (ix_lst hB (atI_last _ _) ⟨tyl hb, by decide +kernel, fun p hp => leaf (same_new hp) (.i upd_same) fun rs2 => ?_⟩)
            exact fin .letter (k + 1) rs2 (by rw [red, if_pos hL]) (by simp) (by simp; omega) _ _ _ _ _ (by push_cast; rfl)
          | false =>
            rw [if_neg (by rw [hL]; decide)] at red
            refine iteF ?_
            have hd48 : ch = 48 → sOf [ch] = sOf [48] := fun e => by rw [e]
            have hd49 : ch = 49 → sOf [ch] = sOf [49] := fun e => by rw [e]
            refine ifD (fun c48 => ?_) fun c48 => ?_
            · rw [if_pos trivial]
              refine ix_lst hB (atI_last _ _) ⟨tyl hb, by decide +kernel, fun p hp => leaf (same_new hp) (.z (by rw [upd_same, hd48 c48])) fun rs2 => ?_⟩
              exact fin .base k rs2 (by rw [red, if_pos c48]) (by simp) (by simp; omega) _ _ _ _ _ rfl
            rw [if_neg c48] at red
            refine ifD (fun c49 => ?_) fun c49 => ?_
            · refine ix_lst hB (atI_last _ _) ⟨tyl hb, by decide +kernel, fun p hp => leaf (same_new hp) (.s (by rw [upd_same, hd49 c49])) fun rs2 => ?_⟩
              exact fin .base k rs2 (by rw [red, if_pos c49]) (by simp) (by simp; omega) _ _ _ _ _ rfl
            rw [if_neg c49] at red
            exact out_err rs.same (stop red) (by simp) qq
  · rintro σ H1 ⟨w, k, stk, as, bs, y5, y6, y7, y8, rfl, rs, hgo, hsn, hsl⟩
    rw [List.take_length] at hgo
    have hend := hmid l [] _ (by simp) hgo
    obtain ⟨I, _⟩ := K02.run_inv l init 0 _ 0 0 hgo K02.inv0
    have D := K02.run_dp (by decide) l init 0 _ hend (K02.db0 80)
    have cle : K02.cntc l ≤ 20000 := by have := List.countP_le_length (p := K02.wc) (l := l); unfold K02.cntc; omega
    have hwt : K02.Wk stk ≤ 0 + K02.cntc l := I.wt
    have hNk : K02.Nk stk ≤ 0 + l.length := I.n
    have wm : decide (sOf (wS w) = sOf [109, 97, 114, 107]) = decide (w = .mark) := wS_eq w .mark
    have wn : decide (sOf (wS w) = sOf [110, 101, 101, 100]) = decide (w = .need) := wS_eq w .need
    have hlA : (((as.map V.ref).reverse).length : Int) = (stk.length : Int) := by have := rs.ra.len; simp at this; simp [this]
    dsimp only [tSeq, tAsg, tIfS, tRet, tRetN, tDrop, tNext, tOp, tUn, tCons, tNil, tTup, tLst, tC, tCB, tCan, tCanW, tAnd, tOr, tNot, tB, tIf, uB, uAndV, uOrV, uNotV, uNeg, uV, gName, gSub, tAug, ipI, tPart, tNoPart, tSl, tBM, tBM0, uLen, uAbs, uInt, uAdd, uSub, uMod, uFdiv, uMul, uCmp, uLt, uLe, uGt, uGe, tFld, StX.tMakeR, tRz, tCanS, sFld, start, fin0, List.getElem?_cons_zero, List.getElem?_cons_succ, List.map_cons, List.map_nil, List.length_cons, List.length_nil, List.replicate, List.cons_append, List.nil_append, Nat.reduceSub, Nat.reduceAdd, List.set_cons_zero, List.set_cons_succ, uEq]
    rw [wm, wn]
    have err2 : K02.bad ⟨w, stk, k⟩ = true → (sOf l).length ≤ sizeLine ∧ 1 ≤ sizeLine ∧ ∀ p, H1 p = none → 3 ≤ sizeLine ∧ ∀ p2, upd H1 p (.tup [.str (sOf [48])]) p2 = none → Q (.ref p2) (upd (upd H1 p (.tup [.str (sOf [48])])) p2 (.tup [.int ((sOf l).length : Int), .ref p, .int (k : Int)])) := fun hb => ⟨sl_ok (by rw [sOf_len]; omega), out_err rs.same (scan_bad_of hgo hb) (by rw [sOf_len]) qq⟩
    refine ifD (fun c1 => iteT (err2 (by simp [K02.bad, c1]))) fun c1 => ?_
    refine ifD (fun c2 => iteT (err2 (by simp [K02.bad, c2]))) fun c2 => ?_
    refine ⟨_, .inl (sqL rs.la), ?_⟩
    rw [hlA]
    refine ifD (fun c3 => err2 (by simp [K02.bad]; omega)) fun c3 => ?_
    cases stk with
    | nil => exact absurd rfl hsn
    | cons x r =>
      cases r with
      | cons y r => simp at c3; omega
      | nil =>
        obtain ⟨al, sq⟩ := x
        obtain ⟨hne, _⟩ := I.ne al sq [] rfl
        have hne : sq ≠ [] := hne c1 c2
        have hsf := I.sf (al, sq) (by simp)
        have hdp := D (al, sq) (by simp)
        simp only [K02.Wk, K02.Nk] at hwt hNk
        cases bs with
        | nil => cases rs.rb
        | cons b bs =>
          cases as with
          | nil => cases rs.ra
          | cons a as =>
            obtain ⟨S, hS, htr, hk⟩ := K02.lgo_scan_ok hgo c1 c2
            have hrw : LRow sq.reverse := lrow_of (fun t ht => ⟨hsf.2 t (by simpa using ht), Nat.le_trans (hdp.2 t (by simpa using ht)) (by decide)⟩) (by rw [K02.wts_rev]; omega) (by rw [List.length_reverse]; omega)
            have hB : H1 B = some (.lst ((bs.map V.ref).reverse ++ [.ref b])) := by rw [← List.reverse_cons, ← List.map_cons]; exact rs.lb
            have hA : H1 A = some (.lst ((as.map V.ref).reverse ++ [.ref a])) := by rw [← List.reverse_cons, ← List.map_cons]; exact rs.la
            obtain ⟨r2, ws2, hb2, hws2⟩ := rs.popB
            have r2 : Rs H (upd H1 B (.lst (bs.map V.ref).reverse)) A B (a :: as) [al.reverse] bs [] := r2
            obtain ⟨was, ha, hwas⟩ := rs.swap.topB
            obtain ⟨was2, ha2, hwas2⟩ := r2.swap.topB
            have hwl2 := hwas2.len
            rw [List.length_reverse] at hwl2
            refine ix_lst hA (atI_last _ _) ⟨tyl ha, tyl hB, _, .ref b, hB, b, ws2, sq.reverse, rfl, hb2, hws2, hrw, fun v2 H3 s3 lt3 => ⟨was2, s3 _ _ ha2, by rw [sizeLine_eq]; omega, ?_⟩⟩
            have r3 := ((r2.grow s3).swap.setB (s2 := (lthen sq.reverse :: al).reverse) (ws2 := was2 ++ [v2]) (by rw [List.reverse_cons]; exact (hwas2.keep (Same.kp s3)).app (.cons lt3 .nil)))
            have la3 := r3.lb
            rw [List.map_cons, List.reverse_cons] at la3
            obtain ⟨r4, ws4, ha4, hws4⟩ := r3.popB
            have hlw := K02.wt_lthen (K02.SFrev hsf.2) (by simpa using hne)
            rw [K02.wts_rev] at hlw
            have hrw2 : LRow (lthen sq.reverse :: al).reverse := by
              refine lrow_of (fun t ht => ?_) (by rw [K02.wts_rev]; simp only [wts]; dsimp only at hwt hlw; omega) (by rw [List.length_reverse, List.length_cons]; omega)
              rw [List.mem_reverse, List.mem_cons] at ht
              rcases ht with e | e
              · rw [e]
                exact ⟨K02.SF_lthen (K02.SFrev hsf.2), Nat.le_trans (K02.depth_lthen (d := 80) fun p hp => hdp.2 p (by simpa using hp)) (by decide)⟩
              · exact ⟨hsf.1 t e, Nat.le_trans (hdp.1 t e) (by decide)⟩
            refine ⟨tyl la3, _, .ref a, la3, a, ws4, _, rfl, ha4, hws4, hrw2, fun v4 H5 s5 lt5 => ⟨by decide +kernel, fun p hp => ?_⟩⟩
            refine qq p v4 (-1) k _ _ ((r4.same.trans s5).trans (same_new hp)) upd_same (lt5.keep (Same.kp (same_new hp))) ?_
            unfold RdOut
            rw [hS]
            exact ⟨rfl, by rw [hk], al, sq, htr, hne, rfl⟩
end
end L2.WB
namespace K02
theorem joinL_mem {sep : List Nat} {c : Nat} : ∀ {ls : List (List Nat)}, c ∈ joinL sep ls → c ∈ sep ∨ ∃ l ∈ ls, c ∈ l
  | [], h => by simp [joinL] at h
  | [a], h => .inr ⟨a, by simp, by simpa [joinL] using h⟩
  | a :: b :: r, h => by
    have h : c ∈ a ++ sep ++ joinL sep (b :: r) := by simpa [joinL] using h
    rw [List.mem_append, List.mem_append] at h
    rcases h with (h | h) | h
    · exact .inr ⟨a, by simp, h⟩
    · exact .inl h
    · rcases joinL_mem h with h | ⟨l, hl, h⟩
      · exact .inl h
      · exact .inr ⟨l, List.mem_cons_of_mem _ hl, h⟩
theorem brk_mem {b : Bool} {l : List Nat} {c : Nat} (h : c ∈ brk b l) : c = 40 ∨ c = 41 ∨ c ∈ l := by
  unfold brk at h
  cases b <;> simp at h
  · exact .inr (.inr h)
  · rcases h with h | h | h <;> simp [h]
theorem text_asc : ∀ (d : Nat) (t : T), depth t ≤ d → SF t → ∀ c ∈ text t, c < 200 := by
  intro d
  induction d with
  | zero => intro t h; have := depth_pos t; omega
  | succ d ih =>
    intro t hd hs c hc
    cases t with
    | z => simp [text] at hc; omega
    | s => simp [text] at hc; omega
    | i w =>
      unfold SF at hs
      match w, hs with
      | [x], hs =>
        have hs : isL x = true := hs
        unfold isL at hs
        simp at hs
        simp [text] at hc
        omega
      | [x, y], hs =>
        have hs : ((isL x && y == 39) || (x == 63 && isK y)) = true := hs
        unfold isL isK at hs
        simp at hs
        simp [text] at hc
        omega
    | m b =>
      unfold SF at hs
      have := ih b (by simp only [depth] at hd; omega) hs.1
      simp only [text, List.mem_append, List.mem_singleton] at hc
      rcases hc with hc | hc
      · rcases brk_mem hc with e | e | e
        · omega
        · omega
        · exact this c e
      · omega
    | n ps =>
      have hd2 := hd
      unfold SF at hs
      simp only [text] at hc
      rcases joinL_mem hc with e | ⟨l, hl, hc⟩
      · simp at e; omega
      · rw [textsN_map, List.mem_map] at hl
        obtain ⟨p, hp, rfl⟩ := hl
        rcases brk_mem hc with e | e | e
        · omega
        · omega
        · exact ih p (by have := depth_part hp; omega) ((SFs_iff ps).mp hs.2.1 p hp) c e
    | o ps =>
      unfold SF at hs
      simp only [text] at hc
      rcases joinL_mem hc with e | ⟨l, hl, hc⟩
      · simp at e; omega
      · rw [textsO_map, List.mem_map] at hl
        obtain ⟨p, hp, rfl⟩ := hl
        exact ih p (by have := depth_partO hp; omega) ((SFs_iff ps).mp hs.2.1 p hp) c hc
end K02
namespace L2.WB
open PySem PySem.Spec PyProof.Rows
open K02 (T isL isK isI lthen leither lagain wts sizes flatN flatO addU addU1 scan items trun yes lfin Mid gbuild g40 AskOk)
def FlatV : V → Prop := fun x => (∃ l, x = .str (sOf l) ∧ PyData.strOk (sOf l) = true) ∨ ∃ i : Int, x = .int i
section
variable {K : PySem.W.Frag} {c : Ad} {H : Hp} {Q : VK} {E : XK} {vs : List V} {v x : V} {t : T}
theorem eq_told {p1 p2 : Addr} {k : List Nat} (hk : PyData.strOk (sOf k) = true) (h1 : H p1 = some (.tup [.str (sOf k), x])) (h2 : H p2 = some (.tup [.str (sOf k), x])) (hx : FlatV x) (q : Q (.bl true) H) : uEq K (.ref p1) (.ref p2) H Q := by
  show rEqG K false (.ref p1) (.ref p2) H Q
  rcases hx with ⟨l, rfl, ol⟩ | ⟨i, rfl⟩
  · refine ⟨_, _, .tup (sqT h1) (.cons (.str _) (.cons (.str _) .nil)), .tup (sqT h2) (.cons (.str _) (.cons (.str _) .nil)), by simp [PyData.canLay0, PyData.canLayAll0, *], by simp [PyData.canLay0, PyData.canLayAll0, *], by simp [PyData.depth, PyData.depthAll], ?_⟩
    have e : PyData.eqv (.tuple [.str (sOf k), .str (sOf l)]) (.tuple [.str (sOf k), .str (sOf l)]) = true := by simp [PyData.eqv, PyData.eqvAll]
    rw [e]; exact q
  · refine ⟨_, _, .tup (sqT h1) (.cons (.str _) (.cons (.int _) .nil)), .tup (sqT h2) (.cons (.str _) (.cons (.int _) .nil)), by simp [PyData.canLay0, PyData.canLayAll0, *], by simp [PyData.canLay0, PyData.canLayAll0, *], by simp [PyData.depth, PyData.depthAll], ?_⟩
    have e : PyData.eqv (.tuple [.str (sOf k), .int i]) (.tuple [.str (sOf k), .int i]) = true := by simp [PyData.eqv, PyData.eqvAll]
    rw [e]; exact q
theorem isi_nb (hx : FlatV x) (q : Q (.bl false) H) : uIsi K [x, .ty "bool"] H Q := by
  rcases hx with ⟨l, rfl, ol⟩ | ⟨i, rfl⟩
  · exact .inl ⟨.type "str", .type "bool", false, .ty _, .base (.str _), kit_ty (by decide +kernel), q⟩
  · exact .inl ⟨.type "int", .type "bool", false, .ty _, .base (.int _), kit_ty (by decide +kernel), q⟩
def spAsked : Sp := fun vs H Q _ => ∃ l deep, vs = [.str (sOf l), .bl deep] ∧ l.length ≤ 20000 ∧ Mid l ∧ AskOk l deep ∧ ∀ H2, Same H H2 → Q (.bl true) H2
theorem q__law_asked (h : spAsked vs H Q E) : t__law_asked K c spLRead (spLText 45) spTold (fin0 Q) (start N__law_asked vs) H := by
  obtain ⟨l, deep, rfl, hl, hmid, hask, q⟩ := h
  show t__law_asked K c spLRead (spLText 45) spTold (fin0 Q) [some (.str (sOf l)), some (.bl deep), none, none, none] H
  dsimp only [t__law_asked, tSeq, tAsg, tIfS, tRet, tRetN, tDrop, tNext, tOp, tUn, tCons, tNil, tTup, tLst, tC, tCB, tCan, tCanW, tAnd, tOr, tNot, tB, tIf, uB, uAndV, uOrV, uNotV, uNeg, uV, gName, gSub, tAug, ipI, tPart, tNoPart, tSl, tBM, tBM0, uLen, uAbs, uInt, uAdd, uSub, uMod, uFdiv, uMul, uCmp, uLt, uLe, uGt, uGe, tFld, StX.tMakeR, tRz, tCanS, sFld, start, fin0, List.getElem?_cons_zero, List.getElem?_cons_succ, List.map_cons, List.map_nil, List.length_cons, List.length_nil, List.replicate, List.cons_append, List.nil_append, Nat.reduceSub, Nat.reduceAdd, List.set_cons_zero, List.set_cons_succ]
  refine ⟨l, rfl, hl, hmid, fun p v i k t H2 s2 hp lt ro => ?_⟩
  have hp1 := hp
  have rs : ∀ {H3 : Hp}, Same H2 H3 → H3 p = some (.tup [.int i, v, .int k]) := fun s => s _ _ hp
  -- the tree is light
  have okt : K02.depth t ≤ 45 ∧ Ok t := by
    unfold RdOut at ro
    cases hs : scan l [124] 0 0 with
    | error e =>
      rw [hs] at ro
      rw [ro.2]
      exact ⟨by decide, ⟨by simp [K02.SF], by decide⟩⟩
    | ok S =>
      rw [hs] at ro
      obtain ⟨_, _, al, sq, htr, hne, rfl⟩ := ro
      obtain ⟨hv, hc⟩ := K02.scan_valid hs
      obtain ⟨h1, h2, _⟩ := K02.read_sf hv htr hne
      have h3 : K02.cntc l ≤ 20000 := by have := List.countP_le_length (p := K02.wc) (l := l); unfold K02.cntc; omega
      exact ⟨(hask S al sq hs htr hne).1, ⟨h1, by omega⟩⟩
  refine ix_tup2 hp (atI_nat (j := 1) rfl) ⟨v, t, rfl, lt, okt.1, okt.2, fun H3 s3 => ⟨by decide +kernel, fun pm nm => ?_⟩⟩
  have s4 := s3.trans (same_new (o := .tup [.str (sOf [109, 97, 100, 101]), .str (sOf (K02.text t))]) nm)
  have hpm : upd H3 pm (.tup [.str (sOf [109, 97, 100, 101]), .str (sOf (K02.text t))]) pm = some (.tup [.str (sOf [109, 97, 100, 101]), .str (sOf (K02.text t))]) := upd_same
  refine ix_tup2 (rs s4) (atI_nat (j := 0) rfl) ?_
  dsimp only
  unfold RdOut at ro
  cases hs : scan l [124] 0 0 with
  | error e =>
    rw [hs] at ro
    obtain ⟨rfl, rfl⟩ := ro
    refine ifT (decide_eq_true (by omega)) (ix_tup2 (rs s4) (atI_nat (j := 0) rfl) ⟨by decide +kernel, fun pd nd => ?_⟩)
    have tv : toldV l = [.str (sOf [98, 97, 100]), .int (e : Nat)] := by unfold toldV; rw [hs]
    exact ⟨l, rfl, hl, fun p1 H4 s5 e4 => eq_told (by decide +kernel) (by rw [e4, tv]) (s5 _ _ upd_same) (.inr ⟨_, rfl⟩) (iteT (ix_tup2 (by rw [e4, tv]) (atI_nat (j := 1) rfl) (isi_nb (.inr ⟨_, rfl⟩) (q H4 (((s2.trans s4).trans (same_new nd)).trans s5)))))⟩
  | ok S =>
    rw [hs] at ro
    obtain ⟨rfl, rfl, al, sq, htr, hne, rfl⟩ := ro
    refine ifF (decide_eq_false (by decide)) (ix_tup2 (rs s4) (atI_nat (j := 2) rfl) ?_)
    dsimp only
    refine ifD (fun hm => ?_) fun hm => ?_
    · refine ix_tup2 (rs s4) (atI_nat (j := 2) rfl) ⟨by decide +kernel, fun pd nd => ?_⟩
      have tv : toldV l = [.str (sOf [108, 111, 110, 103]), .int (items S)] := by unfold toldV; rw [hs]; dsimp only; rw [if_pos (by omega)]
      exact ⟨l, rfl, hl, fun p1 H4 s5 e4 => eq_told (by decide +kernel) (by rw [e4, tv]) (s5 _ _ upd_same) (.inr ⟨_, rfl⟩) (iteT (ix_tup2 (by rw [e4, tv]) (atI_nat (j := 1) rfl) (isi_nb (.inr ⟨_, rfl⟩) (q H4 (((s2.trans s4).trans (same_new nd)).trans s5)))))⟩
    · have hb := (hask S al sq hs htr hne).2 (by omega)
      cases deep with
      | true =>
        refine iteT ⟨by decide +kernel, fun pd nd => ?_⟩
        have tv : toldV l = [.str (sOf [100, 101, 101, 112]), .int 41] := by unfold toldV; rw [hs]; dsimp only; rw [if_neg (by omega), hb]; rfl
        exact ⟨l, rfl, hl, fun p1 H4 s5 e4 => eq_told (by decide +kernel) (by rw [e4, tv]) (s5 _ _ upd_same) (.inr ⟨_, rfl⟩) (iteT (ix_tup2 (by rw [e4, tv]) (atI_nat (j := 1) rfl) (isi_nb (.inr ⟨_, rfl⟩) (q H4 (((s2.trans s4).trans (same_new nd)).trans s5)))))⟩
      | false =>
        refine iteF ?_
        have tv : toldV l = [.str (sOf [109, 97, 100, 101]), .str (sOf (K02.text (lfin (al, sq))))] := by unfold toldV; rw [hs]; dsimp only; rw [if_neg (by omega), hb]; rfl
        exact ⟨l, rfl, hl, fun p1 H4 s5 e4 => eq_told (by decide +kernel) (by rw [e4, tv]) (s5 _ _ hpm) (.inl ⟨_, rfl, strOk_sOf fun c hc => by have := K02.text_asc _ _ (Nat.le_refl _) okt.2.sf c hc; omega⟩) (iteT (ix_tup2 (by rw [e4, tv]) (atI_nat (j := 1) rfl) (isi_nb (.inl ⟨_, rfl, strOk_sOf fun c hc => by have := K02.text_asc _ _ (Nat.le_refl _) okt.2.sf c hc; omega⟩) (q H4 ((s2.trans s4).trans s5)))))⟩
end
end L2.WB
namespace L2.WB
open PySem PySem.Spec PyProof.Rows
open K02 (T isL isK isI lthen leither lagain)
def StAt (H : Hp) (st a : Addr) : Prop := ∃ (xs : List V) (i d : Nat), a ≠ st ∧ H st = some (.lst [.ref a, .int (i : Nat), .int (d : Nat)]) ∧ H a = some (.lst xs) ∧ ∀ x ∈ xs, ∃ n : Int, x = .int n
theorem StAt.same {H H2 : Hp} {st a : Addr} (h : StAt H st a) (s : Same H H2) : StAt H2 st a := by
  obtain ⟨xs, i, d, h1, h2, h3, h4⟩ := h
  exact ⟨xs, i, d, h1, s _ _ h2, s _ _ h3, h4⟩
theorem StAt.lst {H : Hp} {st a : Addr} (h : StAt H st a) : ∃ xs, H st = some (.lst xs) := by
  obtain ⟨xs, i, d, h1, h2, h3, h4⟩ := h
  exact ⟨_, h2⟩
theorem StAt.kp {H H2 : Hp} {st a : Addr} (h : StAt H st a) (s : SameBut st H H2) : Kp H H2 := by
  obtain ⟨xs, e⟩ := h.lst
  exact s.kp e
theorem StAt.upd {H : Hp} {st a S : Addr} {o : HO} (h : StAt H st a) (h1 : S ≠ st) (h2 : S ≠ a) : StAt (upd H S o) st a := by
  obtain ⟨xs, i, d, e1, e2, e3, e4⟩ := h
  exact ⟨xs, i, d, e1, by rw [upd_ne (Ne.symm h1)]; exact e2, by rw [upd_ne (Ne.symm h2)]; exact e3, e4⟩
theorem StAt.new {H : Hp} {st a S : Addr} (h : StAt H st a) (n : H S = none) : S ≠ st ∧ S ≠ a := by
  obtain ⟨xs, i, d, e1, e2, e3, e4⟩ := h
  exact ⟨fun e => (by rw [e, e2] at n; cases n), fun e => (by rw [e, e3] at n; cases n)⟩
theorem but_new {H H1 : Hp} {st S : Addr} {o : HO} (s : SameBut st H H1) (n : H S = none) : SameBut st H (upd H1 S o) := fun b x hb e => by
  have : b ≠ S := fun z => by rw [z, n] at e; cases e
  rw [upd_ne this]
  exact s b x hb e
section
variable {K : PySem.W.Frag} {c : Ad} {H : Hp} {Q : VK} {E : XK} {vs : List V} {v x : V} {t : T}
def spTake : Sp := fun vs H Q _ => ∃ (st a : Addr) (m : Nat), vs = [.ref st, .int (m : Nat)] ∧ StAt H st a ∧ 1 ≤ m ∧ m < 1073741824 ∧ ∀ (r : Nat) H2, r < m → SameBut st H H2 → StAt H2 st a → Q (.int (r : Nat)) H2
theorem q__law_take (h : spTake vs H Q E) : t__law_take K c (fin0 Q) (start N__law_take vs) H := by
  obtain ⟨st, a, m, rfl, sa, hm1, hm2, q⟩ := h
  show t__law_take K c (fin0 Q) [some (.ref st), some (.int (m : Nat)), none] H
  obtain ⟨xs, i, d, hne, hst, ha, hxs⟩ := sa
  have fin : ∀ {H1 : Hp} {i d : Nat}, SameBut st H H1 → H1 st = some (.lst [.ref a, .int (i : Nat), .int (d : Nat)]) → Q (.int ((d : Nat) % (m : Nat) : Int)) (upd H1 st (.lst [.ref a, .int (i : Nat), .int ((d : Nat) / (m : Nat) : Int)])) := fun {H1 i d} s1 h1 => by
    rw [← Int.natCast_emod, ← Int.natCast_ediv]
    refine q (d % m) _ (Nat.mod_lt _ hm1) (s1.trans but_upd) ⟨xs, i, d / m, hne, upd_same, ?_, hxs⟩
    rw [upd_ne hne]
    exact s1 _ _ hne ha
  have tail : ∀ {H1 : Hp} {i d : Nat}, SameBut st H H1 → H1 st = some (.lst [.ref a, .int (i : Nat), .int (d : Nat)]) → (tSeq (tAsg (tOp (uMod) (tCB (uInt) (tCons (tOp (uIx K) (uV 0) (tC (.int 2))) tNil)) (uV 1)) (gName 2)) (tSeq (tAsg (tOp (uFdiv) (tCB (uInt) (tCons (tOp (uIx K) (uV 0) (tC (.int 2))) tNil)) (uV 1)) (gSub (uV 0) (tC (.int 2)) rSetL)) (tRet (uV 2)))) (fin0 Q) [some (.ref st), some (.int (m : Nat)), none] H1 := fun {H1 i d} s1 h1 => by
    dsimp only [tSeq, tAsg, tIfS, tRet, tRetN, tDrop, tNext, tOp, tUn, tCons, tNil, tTup, tLst, tC, tCB, tCan, tCanW, tAnd, tOr, tNot, tB, tIf, uB, uAndV, uOrV, uNotV, uNeg, uV, gName, gSub, tAug, ipI, tPart, tNoPart, tSl, tBM, tBM0, uLen, uAbs, uInt, uAdd, uSub, uMod, uFdiv, uMul, uCmp, uLt, uLe, uGt, uGe, tFld, StX.tMakeR, tRz, tCanS, sFld, start, fin0, List.getElem?_cons_zero, List.getElem?_cons_succ, List.map_cons, List.map_nil, List.length_cons, List.length_nil, List.replicate, List.cons_append, List.nil_append, Nat.reduceSub, Nat.reduceAdd, List.set_cons_zero, List.set_cons_succ]
    refine ix_lst h1 (atI_nat (j := 2) rfl) ⟨by omega, ix_lst h1 (atI_nat (j := 2) rfl) ⟨⟨by omega, by omega⟩, st, _, 2, 2, rfl, rfl, h1, rfl, ?_⟩⟩
    exact fin s1 h1
  unfold t__law_take
  show (tIfS _ _ _) _ _ _
  dsimp only [tIfS, tAnd, uB, tB, tSeq, tAsg, tOp, uV, tC, gName, List.getElem?_cons_zero, List.getElem?_cons_succ, List.set_cons_zero, List.set_cons_succ]
  refine ix_lst hst (atI_nat (j := 2) rfl) ?_
  dsimp only [uLt, uCmp]
  refine ifD (fun c1 => ?_) fun c1 => tail (SameBut.refl _ _) hst
  refine ix_lst hst (atI_nat (j := 1) rfl) ?_
  dsimp only [tCB, tCons, tNil, tSeq, tAsg, tOp, uV, tC, gName, List.getElem?_cons_zero, List.getElem?_cons_succ, List.set_cons_zero, List.set_cons_succ]
  refine ix_lst hst (atI_nat (j := 0) rfl) ⟨xs, .inl (sqL ha), ?_⟩
  dsimp only
  refine ifD (fun c2 => ?_) fun c2 => tail (SameBut.refl _ _) hst
  obtain ⟨n, en⟩ := hxs xs[i] (List.getElem_mem (show i < xs.length by omega))
  refine ix_lst hst (atI_nat (j := 0) rfl) (ix_lst hst (atI_nat (j := 1) rfl) (ix_lst ha (atI_nat (j := i) (List.getElem?_eq_getElem (by omega))) ?_))
  rw [en]
  dsimp only [uInt, uAbs]
  refine ⟨st, _, 2, 2, rfl, rfl, hst, rfl, ?_⟩
  have e1 : (if n < 0 then -n else n) = ((n.natAbs : Nat) : Int) := by split <;> omega
  rw [e1]
  dsimp only [List.set_cons_succ, List.set_cons_zero]
  have hs1 : upd H st (.lst [.ref a, .int (i : Nat), .int (n.natAbs : Nat)]) st = some (.lst [.ref a, .int (i : Nat), .int (n.natAbs : Nat)]) := upd_same
  show (tOp _ _ _) _ _ _
  dsimp only [tOp, tC, uV, gSub, List.getElem?_cons_zero, List.getElem?_cons_succ]
  refine ix_lst hs1 (atI_nat (j := 1) rfl) ?_
  dsimp only [uAdd]
  refine ⟨st, _, 1, 1, rfl, rfl, hs1, rfl, ?_⟩
  exact tail (i := i + 1) (d := n.natAbs) (but_upd.trans but_upd) upd_same
theorem lowers_at : ∀ p, p < 26 → lowers[p]? = some (97 + p) := by decide
theorem uppers_at : ∀ p, p < 26 → uppers[p]? = some (65 + p) := by decide
theorem low_isL {p : Nat} (h : p < 26) : isL (97 + p) = true := by unfold isL; simp; omega
theorem up_isK {p : Nat} (h : p < 26) : isK (65 + p) = true := by unfold isK; simp; omega
theorem ix_low {p : Nat} {i : Int} (ei : i = (p : Int)) (h : p < 26) (q : Q (.str (sOf [97 + p])) H) : uIx K (.str (sOf lowers)) (.int i) H Q := ix_txt (by decide) ei (lowers_at p h) q
theorem ix_up {p : Nat} {i : Int} (ei : i = (p : Int)) (h : p < 26) (q : Q (.str (sOf [65 + p])) H) : uIx K (.str (sOf uppers)) (.int i) H Q := ix_txt (by decide) ei (uppers_at p h) q
def spLItem : Sp := fun vs H Q _ => ∃ (st a : Addr) (s : Nat), vs = [.ref st, .int (s : Nat)] ∧ StAt H st a ∧ s < 26 ∧ ∀ (w : List Nat) H2, isI w = true → SameBut st H H2 → StAt H2 st a → Q (.str (sOf w)) H2
theorem q__law_item (h : spLItem vs H Q E) : t__law_item K c spTake (fin0 Q) (start N__law_item vs) H := by
  obtain ⟨st, a, s, rfl, sa, hs, q⟩ := h
  show t__law_item K c spTake (fin0 Q) [some (.ref st), some (.int (s : Nat)), none, none, none] H
  unfold t__law_item
  refine ⟨st, a, 8, rfl, sa, by decide, by decide, fun kd H1 hk s1 sa1 => ?_⟩
  refine ⟨st, a, 3, rfl, sa1, by decide, by decide, fun r H2 hr s2 sa2 => ?_⟩
  have fin : ∀ {H3 : Hp} {p : Nat} {i : Int}, SameBut st H H3 → StAt H3 st a → p < 26 → i = (p : Int) → (tSeq (tIfS (tOr (uB (tOp (uEq K) (uV 3) (tC (.int 3)))) (uB (tOp (uEq K) (uV 3) (tC (.int 4))))) (tRet (tOp (uAdd K) (tOp (uIx K) (uV 2) (uV 4)) (tC (.str (sOf [39]))))) tNext) (tSeq (tIfS (tOr (uB (tOp (uEq K) (uV 3) (tC (.int 5)))) (uB (tOp (uEq K) (uV 3) (tC (.int 7))))) (tRet (tOp (uAdd K) (tC (.str (sOf [63]))) (tOp (uIx K) (tC (.str (sOf uppers))) (uV 4)))) tNext) (tRet (tOp (uIx K) (uV 2) (uV 4))))) (fin0 Q) [some (.ref st), some (.int (s : Nat)), some (.str (sOf lowers)), some (.int (kd : Nat)), some (.int i)] H3 := fun {H3 p i} s3 sa3 hp ei => by
    have q1 := q [97 + p] H3 (by simp [isI, low_isL hp]) s3 sa3
    have q2 := q [97 + p, 39] H3 (by simp [isI, low_isL hp]) s3 sa3
    have q3 := q [63, 65 + p] H3 (by simp [isI, up_isK hp]) s3 sa3
    have a2 : sOf [97 + p] ++ sOf [39] = sOf [97 + p, 39] := by rw [sOf_add]; rfl
    have a3 : sOf [63] ++ sOf [65 + p] = sOf [63, 65 + p] := by rw [sOf_add]; rfl
    rw [← a2] at q2
    rw [← a3] at q3
    have l1 : ∀ a b : Nat, (sOf [a]).length + (sOf [b]).length ≤ sizeLine := fun a b => by rw [sOf_len, sOf_len]; exact (show 2 ≤ sizeLine by decide +kernel)
    dsimp only [tSeq, tAsg, tIfS, tRet, tRetN, tDrop, tNext, tOp, tUn, tCons, tNil, tTup, tLst, tC, tCB, tCan, tCanW, tAnd, tOr, tNot, tB, tIf, uB, uAndV, uOrV, uNotV, uNeg, uV, gName, gSub, tAug, ipI, tPart, tNoPart, tSl, tBM, tBM0, uLen, uAbs, uInt, uAdd, uSub, uMod, uFdiv, uMul, uCmp, uLt, uLe, uGt, uGe, tFld, StX.tMakeR, tRz, tCanS, sFld, start, fin0, List.getElem?_cons_zero, List.getElem?_cons_succ, List.map_cons, List.map_nil, List.length_cons, List.length_nil, List.replicate, List.cons_append, List.nil_append, Nat.reduceSub, Nat.reduceAdd, List.set_cons_zero, List.set_cons_succ, uEq]
    refine ifD (fun _ => iteT (ix_low ei hp ⟨l1 _ _, q2⟩)) fun _ => ?_
    refine ifD (fun _ => ix_low ei hp ⟨l1 _ _, q2⟩) fun _ => ?_
    refine ifD (fun _ => iteT (ix_up ei hp ⟨l1 _ _, q3⟩)) fun _ => ?_
    refine ifD (fun _ => ix_up ei hp ⟨l1 _ _, q3⟩) fun _ => ?_
    exact ix_low ei hp q1
  refine ⟨by omega, ?_⟩
  dsimp only [gName, List.set_cons_zero, List.set_cons_succ]
  show (tIfS _ _ _) _ _ _
  dsimp only [tIfS, uB, tB, tOp, uV, tC, uEq, List.getElem?_cons_zero, List.getElem?_cons_succ, List.set_cons_zero, List.set_cons_succ]
  refine ifD (fun _ => ?_) fun _ => ?_
  · refine ⟨st, a, 26, rfl, sa2, by decide, by decide, fun r2 H3 hr2 s3 sa3 => ?_⟩
    exact fin ((s1.trans s2).trans s3) sa3 hr2 rfl
  · exact fin (p := (s + r) % 26) (s1.trans s2) sa2 (Nat.mod_lt _ (by decide)) (by omega)
end
end L2.WB
namespace K02
theorem inos_app : ∀ (a b : List T), inos (a ++ b) = inos a + inos b
  | [], b => by simp [inos]
  | x :: a, b => by simp only [List.cons_append, inos, inos_app a b]; omega
theorem lvss_app : ∀ (a b : List T), lvss (a ++ b) = lvss a + lvss b
  | [], b => by simp [lvss]
  | x :: a, b => by simp only [List.cons_append, lvss, lvss_app a b]; omega
theorem Raws_app : ∀ {a b : List T}, Raws (a ++ b) ↔ Raws a ∧ Raws b
  | [], b => by simp [Raws]
  | x :: a, b => by simp only [List.cons_append, Raws, Raws_app (a := a) (b := b), and_assoc]
def mkT (b : Bool) (ps : List T) : T := if b then .n ps else .o ps
end K02
namespace L2.WB
open PySem PySem.Spec PyProof.Rows
open K02 (T isL isK isI lthen leither lagain Raw Raws lvs lvss ino inos mkT)
def kw (b : Bool) : List Nat := if b then [110] else [111]
theorem LT.mk {H : Hp} {b : Bool} {a q : Addr} {vs : List V} {ts : List T} (h : H a = some (.tup [.str (sOf (kw b)), .ref q])) (h2 : H q = some (.tup vs)) (h3 : LTs H vs ts) : LT H (.ref a) (mkT b ts) := by
  cases b
  · exact .o h h2 h3
  · exact .n h h2 h3
/-- the law's stack of raw trees: n leaves in all -/
def SInv (H0 H : Hp) (st a S : Addr) (n L b : Nat) : Prop := ∃ ws ts, H S = some (.lst ws) ∧ LTs H ws ts ∧ Raws ts ∧ lvss ts = n ∧ inos ts + ts.length ≤ b ∧ ts.length = L ∧ SameBut st H0 H ∧ StAt H st a
section
variable {K : PySem.W.Frag} {c : Ad} {H H1 : Hp} {Q : VK} {E : XK} {vs : List V} {v x : V} {t : T}
theorem LTs.top {ws : List V} {ts : List T} (h : LTs H ws ts) (hn : ts ≠ []) : ∃ w1 v t1 t, ws = w1 ++ [v] ∧ ts = t1 ++ [t] ∧ LTs H w1 t1 ∧ LT H v t := by
  obtain ⟨t, q, e⟩ : ∃ t q, ts = (t :: q).reverse := by
    cases h2 : ts.reverse with
    | nil => simp at h2; exact absurd h2 hn
    | cons t q => exact ⟨t, q, by rw [← h2, List.reverse_reverse]⟩
  subst e
  obtain ⟨w1, v, e, h1, h2⟩ := h.last
  exact ⟨w1, v, q.reverse, t, e, by simp, h1, h2⟩
/-- the top of the stack is set to a new tree -/
theorem SInv.set {H0 : Hp} {st a S : Addr} {n L b : Nat} {ws2 : List V} {w1 : List V} {t1 : List T} (hS : H1 S = some (.lst ws2)) (h1 : LTs H1 w1 t1) (h2 : LT H1 v t) (hr : Raws t1) (hr2 : Raw t) (hl : lvss t1 + lvs t = n) (hi : inos t1 + ino t + t1.length + 1 ≤ b) (hL : t1.length + 1 = L) (n0 : H0 S = none) (s : SameBut st H0 H1) (sa : StAt H1 st a) (d1 : S ≠ st) (d2 : S ≠ a) : SInv H0 (upd H1 S (.lst (w1 ++ [v]))) st a S n L b := by
  have k := kp_lst (ys := w1 ++ [v]) hS
  refine ⟨_, t1 ++ [t], upd_same, (h1.keep k).app (.cons (h2.keep k) .nil), K02.Raws_app.mpr ⟨hr, hr2, trivial⟩, ?_, ?_, by simpa using hL, but_new s n0, sa.upd d1 d2⟩
  · rw [K02.lvss_app]; simpa [lvss] using hl
  · rw [K02.inos_app, List.length_append]; simp only [inos, List.length_singleton]; omega
structure Lst (H0 : Hp) (st a S : Addr) : Prop where
  n0 : H0 S = none
  d1 : S ≠ st
  d2 : S ≠ a
abbrev sR (st S : Addr) (s m : Nat) (y4 y5 y6 y7 y8 y9 : Option V) : St := [some (.ref st), some (.int (s : Nat)), some (.int (m : Nat)), some (.ref S), y4, y5, y6, y7, y8, y9]
section
variable {H0 : Hp} {st a S : Addr} {n L b s m ac : Nat} {e : Ends} {y4 y5 y6 y7 y8 y9 : Option V}
theorem setN (n : Nat) (w : List V) (v v2 : V) : (w ++ [v]).set w.length v2 = w ++ [v2] := by simp
theorem raw_m (z : Lst H0 st a S) (I : SInv H0 H1 st a S n L b) (hL : 1 ≤ L) (hE : ∀ H3 y6 y7 y8 y9, SInv H0 H3 st a S n L (b + 1) → e.nx (sR st S s m y4 y5 y6 y7 y8 y9) H3) : (tIfS (tOr (uB (tOp (uEq K) (uV 8) (tC (.int 1)))) (tOr (uB (tOp (uEq K) (uV 8) (tC (.int 3)))) (uB (tOp (uEq K) (uV 8) (tC (.int 5)))))) (tAsg (tTup (tCons (tC (.str (sOf [109]))) (tCons (tOp (uIx K) (uV 3) (tUn uNeg (tC (.int 1)))) tNil))) (gSub (uV 3) (tUn uNeg (tC (.int 1))) rSetL)) tNext) e (sR st S s m y4 y5 y6 y7 (some (.int (ac : Nat))) y9) H1 := by
  obtain ⟨ws, ts, hS, h1, h2, h3, h4, h5, h6, h7⟩ := I
  have hn : ts ≠ [] := fun e => by rw [e] at h5; simp at h5; omega
  obtain ⟨w1, v, t1, t, rfl, rfl, p1, p2⟩ := h1.top hn
  rw [K02.Raws_app] at h2
  have nxt : e.nx (sR st S s m y4 y5 y6 y7 (some (.int (ac : Nat))) y9) H1 := hE _ _ _ _ _ ⟨_, _, hS, h1, K02.Raws_app.mpr h2, h3, by omega, h5, h6, h7⟩
  have go : 2 ≤ sizeLine ∧ ∀ p, H1 p = none → rSetL (.ref S) (.int (-1)) (.ref p) (upd H1 p (.tup [.str (sOf [109]), v])) fun H3 => e.nx (sR st S s m y4 y5 y6 y7 (some (.int (ac : Nat))) y9) H3 := by
    refine ⟨by decide +kernel, fun p np => ?_⟩
    have sm := same_new (o := .tup [.str (sOf [109]), v]) np
    refine ⟨S, w1 ++ [v], -1, w1.length, rfl, rfl, sm _ _ hS, by rw [List.length_append]; exact ixN_last _, ?_⟩
    rw [setN n]
    refine hE _ _ _ _ _ (SInv.set (sm _ _ hS) (p1.keep (Same.kp sm)) (.m upd_same (p2.keep (Same.kp sm))) h2.1 ?_ ?_ ?_ ?_ z.n0 (h6.trans (Same.but sm)) (h7.same sm) z.d1 z.d2)
    · exact h2.2.1
    · rw [K02.lvss_app] at h3; simpa [lvs, lvss] using h3
    · rw [K02.inos_app, List.length_append] at h4; simp only [inos, ino, List.length_singleton] at h4 ⊢; omega
    · simpa using h5
  dsimp only [tSeq, tAsg, tIfS, tRet, tRetN, tDrop, tNext, tOp, tUn, tCons, tNil, tTup, tLst, tC, tCB, tCan, tCanW, tAnd, tOr, tNot, tB, tIf, uB, uAndV, uOrV, uNotV, uNeg, uV, gName, gSub, tAug, ipI, tPart, tNoPart, tSl, tBM, tBM0, uLen, uAbs, uInt, uAdd, uSub, uMod, uFdiv, uMul, uCmp, uLt, uLe, uGt, uGe, tFld, StX.tMakeR, tRz, tCanS, sFld, start, fin0, List.getElem?_cons_zero, List.getElem?_cons_succ, List.map_cons, List.map_nil, List.length_cons, List.length_nil, List.replicate, List.cons_append, List.nil_append, Nat.reduceSub, Nat.reduceAdd, List.set_cons_zero, List.set_cons_succ, uEq]
  refine ifD (fun _ => iteT (ix_lst hS (atI_last _ _) go)) fun _ => ?_
  refine ifD (fun _ => iteT (ix_lst hS (atI_last _ _) go)) fun _ => ?_
  refine ifD (fun _ => ix_lst hS (atI_last _ _) go) fun _ => nxt
/-- the two trees at the top become one -/
theorem merge_set (z : Lst H0 st a S) {H3 : Hp} {w2 : List V} {u v : V} {t2 : List T} {t' t : T} {bb : Bool} {p q : Addr} (hS : H3 S = some (.lst (w2 ++ [u]))) (p3 : LTs H3 w2 t2) (p4 : LT H3 u t') (p5 : LT H3 v t) (h6 : SameBut st H0 H3) (h7 : StAt H3 st a) (nq : H3 q = none) (np : upd H3 q (.tup [u, v]) p = none)
    (h2 : Raws (t2 ++ [t'] ++ [t])) (h3 : lvss (t2 ++ [t'] ++ [t]) = n) (h4 : inos (t2 ++ [t'] ++ [t]) + (t2 ++ [t'] ++ [t]).length ≤ b) (h5 : (t2 ++ [t'] ++ [t]).length = L) :
    upd (upd H3 q (.tup [u, v])) p (.tup [.str (sOf (kw bb)), .ref q]) S = some (.lst (w2 ++ [u])) ∧ SInv H0 (upd (upd (upd H3 q (.tup [u, v])) p (.tup [.str (sOf (kw bb)), .ref q])) S (.lst (w2 ++ [.ref p]))) st a S n (L - 1) b := by
  have s1 := same_new (o := .tup [u, v]) nq
  have s2 := same_new (o := .tup [.str (sOf (kw bb)), .ref q]) np
  have s12 := s1.trans s2
  have hS2 := s12 _ _ hS
  refine ⟨hS2, ?_⟩
  simp only [K02.Raws_app, K02.lvss_app, K02.inos_app, List.length_append, List.length_singleton] at h2 h3 h4 h5
  simp only [lvss, inos, Raws] at h2 h3 h4 h5
  refine SInv.set hS2 (p3.keep (Same.kp s12)) (LT.mk (b := bb) (vs := [u, v]) (ts := [t', t]) upd_same (get_new upd_same np) ((LTs.cons p4 (.cons p5 .nil)).keep (Same.kp s12))) h2.1.1 ?_ ?_ ?_ ?_ z.n0 (h6.trans (Same.but s12)) (h7.same s12) z.d1 z.d2
  · cases bb
    · exact ⟨rfl, h2.1.2.1, h2.2.1, trivial⟩
    · exact ⟨rfl, h2.1.2.1, h2.2.1, trivial⟩
  · cases bb <;> simp [mkT, lvs, lvss] <;> omega
  · cases bb <;> simp [mkT, ino, inos] <;> omega
  · omega
theorem kw_at {ac : Nat} (h1 : (1 : Int) < ac) (h2 : ac < 6) : atI [V.str (sOf [110]), V.str (sOf [111])] ((ac : Int) / 2 - 1) = some (.str (sOf (kw (decide (ac < 4))))) := by
  have : ac = 2 ∨ ac = 3 ∨ ac = 4 ∨ ac = 5 := by omega
  rcases this with rfl | rfl | rfl | rfl <;> rfl
theorem raw_merge (z : Lst H0 st a S) (I : SInv H0 H1 st a S n L b) (hL : 1 ≤ L) (hac : ac < 6) (hE : ∀ H3 L2 y6 y7 y8 y9, 1 ≤ L2 → L2 ≤ L → SInv H0 H3 st a S n L2 (b + 1) → e.nx (sR st S s m y4 y5 y6 y7 y8 y9) H3) : (tSeq (tIfS (tAnd (uB (tOp (uGt) (uV 8) (tC (.int 1)))) (uB (tOp (uGt) (tCB (uLen K) (tCons (uV 3) tNil)) (tC (.int 1))))) (tSeq (tAsg (tBM0 K "list" uPop (uV 3)) (gName 9)) (tAsg (tTup (tCons (tOp (uIx K) (tLst (tCons (tC (.str (sOf [110]))) (tCons (tC (.str (sOf [111]))) tNil))) (tOp (uSub) (tOp (uFdiv) (uV 8) (tC (.int 2))) (tC (.int 1)))) (tCons (tTup (tCons (tOp (uIx K) (uV 3) (tUn uNeg (tC (.int 1)))) (tCons (uV 9) tNil))) tNil))) (gSub (uV 3) (tUn uNeg (tC (.int 1))) rSetL))) tNext) (tIfS (tOr (uB (tOp (uEq K) (uV 8) (tC (.int 1)))) (tOr (uB (tOp (uEq K) (uV 8) (tC (.int 3)))) (uB (tOp (uEq K) (uV 8) (tC (.int 5)))))) (tAsg (tTup (tCons (tC (.str (sOf [109]))) (tCons (tOp (uIx K) (uV 3) (tUn uNeg (tC (.int 1)))) tNil))) (gSub (uV 3) (tUn uNeg (tC (.int 1))) rSetL)) tNext)) e (sR st S s m y4 y5 y6 y7 (some (.int (ac : Nat))) y9) H1 := by
  have skip := raw_m (K := K) (s := s) (m := m) (y4 := y4) (y5 := y5) (y6 := y6) (y7 := y7) (ac := ac) (y9 := y9) z I hL fun H3 z6 z7 z8 z9 I3 => hE H3 L z6 z7 z8 z9 hL (Nat.le_refl _) I3
  obtain ⟨ws, ts, hS, h1, h2, h3, h4, h5, h6, h7⟩ := I
  have hn : ts ≠ [] := fun e => by rw [e] at h5; simp at h5; omega
  show (tIfS _ _ _) _ _ _
  dsimp only [tIfS, tAnd, uB, tB, tOp, uV, tC, tCB, tCons, tNil, uGt, uCmp, uLen, List.getElem?_cons_zero, List.getElem?_cons_succ]
  refine ifD (fun c1 => ⟨ws, .inl (sqL hS), ifD (fun c2 => ?_) fun c2 => skip⟩) fun c1 => skip
  obtain ⟨w1, v, t1, t, rfl, rfl, p1, p2⟩ := h1.top hn
  have hl := p1.len
  rw [List.length_append, List.length_singleton] at h5 c2
  have hn1 : t1 ≠ [] := fun e => by rw [e] at hl; simp at hl; rw [hl] at c2; simp at c2
  obtain ⟨w2, u, t2, t', rfl, rfl, p3, p4⟩ := p1.top hn1
  rw [K02.Raws_app, K02.Raws_app] at h2
  have hbut := but_new (o := .lst (w2 ++ [u])) h6 z.n0
  have hst2 := h7.upd (o := .lst (w2 ++ [u])) z.d1 z.d2
  have hS2 : upd H1 S (.lst (w2 ++ [u])) S = some (.lst (w2 ++ [u])) := upd_same
  have k := kp_lst (ys := w2 ++ [u]) hS
  dsimp only [tSeq, tAsg, tIfS, tRet, tRetN, tDrop, tNext, tOp, tUn, tCons, tNil, tTup, tLst, tC, tCB, tCan, tCanW, tAnd, tOr, tNot, tB, tIf, uB, uAndV, uOrV, uNotV, uNeg, uV, gName, gSub, tAug, ipI, tPart, tNoPart, tSl, tBM, tBM0, uLen, uAbs, uInt, uAdd, uSub, uMod, uFdiv, uMul, uCmp, uLt, uLe, uGt, uGe, tFld, StX.tMakeR, tRz, tCanS, sFld, start, fin0, List.getElem?_cons_zero, List.getElem?_cons_succ, List.map_cons, List.map_nil, List.length_cons, List.length_nil, List.replicate, List.cons_append, List.nil_append, Nat.reduceSub, Nat.reduceAdd, List.set_cons_zero, List.set_cons_succ]
  refine ⟨tyl hS, _, v, hS, (show 2 ≤ sizeLine by decide +kernel), fun l nl => ⟨by decide, ?_⟩⟩
  have sl := same_new (o := .lst [.str (sOf [110]), .str (sOf [111])]) nl
  refine ix_lst upd_same (kw_at c1 hac) (ix_lst (sl _ _ hS2) (atI_last _ _) ⟨(show 2 ≤ sizeLine by decide +kernel), fun q nq => ⟨(show 2 ≤ sizeLine by decide +kernel), fun p np => ?_⟩⟩)
  have ks := k.trans (Same.kp sl)
  obtain ⟨m1, m2⟩ := merge_set (n := n) (L := L) (b := b) (bb := decide (ac < 4)) z (sl _ _ hS2) (p3.keep ks) (p4.keep ks) (p2.keep ks) (hbut.trans (Same.but sl)) (hst2.same sl) nq np (by rw [K02.Raws_app, K02.Raws_app]; exact h2) h3 h4 (by rw [List.length_append, List.length_singleton]; exact h5)
  refine ⟨S, w2 ++ [u], -1, w2.length, rfl, rfl, m1, by rw [List.length_append]; exact ixN_last _, ?_⟩
  rw [setN n]
  exact raw_m (K := K) (s := s) (m := m) (ac := ac) z m2 (by rw [List.length_append, List.length_singleton] at h5; omega) fun H3 z6 z7 z8 z9 I3 => hE H3 (L - 1) z6 z7 z8 z9 (by rw [List.length_append, List.length_singleton] at h5; omega) (by omega) I3
theorem raw_push (z : Lst H0 st a S) (I : SInv H0 H1 st a S n L b) (hL : L ≤ 100) (lt : LT H1 x t) (r1 : Raw t) (r2 : lvs t = 1) (r3 : ino t = 0) (hE : ∀ H3 L2 y6 y7 y8 y9, 1 ≤ L2 → L2 ≤ L + 1 → SInv H0 H3 st a S (n + 1) L2 (b + 2) → e.nx (sR st S s m y4 y5 y6 y7 y8 y9) H3) : ((tSeq (tDrop (tBM K "list" uApp (uV 3) (tCons (uV 6) tNil))) (tSeq (tAsg (tCan spTake E0 (tCons (uV 0) (tCons (tC (.int 6)) tNil))) (gName 8)) (tSeq (tIfS (tAnd (uB (tOp (uGt) (uV 8) (tC (.int 1)))) (uB (tOp (uGt) (tCB (uLen K) (tCons (uV 3) tNil)) (tC (.int 1))))) (tSeq (tAsg (tBM0 K "list" uPop (uV 3)) (gName 9)) (tAsg (tTup (tCons (tOp (uIx K) (tLst (tCons (tC (.str (sOf [110]))) (tCons (tC (.str (sOf [111]))) tNil))) (tOp (uSub) (tOp (uFdiv) (uV 8) (tC (.int 2))) (tC (.int 1)))) (tCons (tTup (tCons (tOp (uIx K) (uV 3) (tUn uNeg (tC (.int 1)))) (tCons (uV 9) tNil))) tNil))) (gSub (uV 3) (tUn uNeg (tC (.int 1))) rSetL))) tNext) (tIfS (tOr (uB (tOp (uEq K) (uV 8) (tC (.int 1)))) (tOr (uB (tOp (uEq K) (uV 8) (tC (.int 3)))) (uB (tOp (uEq K) (uV 8) (tC (.int 5)))))) (tAsg (tTup (tCons (tC (.str (sOf [109]))) (tCons (tOp (uIx K) (uV 3) (tUn uNeg (tC (.int 1)))) tNil))) (gSub (uV 3) (tUn uNeg (tC (.int 1))) rSetL)) tNext))))) e (sR st S s m y4 y5 (some x) y7 y8 y9) H1 := by
  obtain ⟨ws, ts, hS, h1, h2, h3, h4, h5, h6, h7⟩ := I
  have hl := h1.len
  have I2 := SInv.set (n := n + 1) (L := L + 1) (b := b + 1) hS h1 lt h2 r1 (by omega) (by omega) (by omega) z.n0 h6 h7 z.d1 z.d2
  have sa2 : StAt (upd H1 S (.lst (ws ++ [x]))) st a := h7.upd z.d1 z.d2
  show (tDrop _) _ _ _
  dsimp only [tDrop, tBM, uV, tC, tCons, tNil, List.getElem?_cons_zero, List.getElem?_cons_succ]
  refine ⟨tyl hS, ws, hS, by rw [sizeLine_eq]; omega, st, a, 6, rfl, sa2, by decide, by decide, fun ac H3 hac s3 sa3 => ?_⟩
  have I3 : SInv H0 H3 st a S (n + 1) (L + 1) (b + 1) := by
    obtain ⟨ws', ts', hS', g1, g2, g3, g4, g5, g6, g7⟩ := I2
    exact ⟨ws', ts', s3 _ _ z.d1 hS', g1.keep (sa2.kp s3), g2, g3, g4, g5, g6.trans s3, sa3⟩
  exact raw_merge (K := K) (s := s) (m := m) (ac := ac) z I3 (by omega) hac hE
theorem raw_turn (z : Lst H0 st a S) (hs : s < 26) (I : SInv H0 H1 st a S n L b) (hL : L ≤ 100) (hE : ∀ H3 L2 y6 y7 y8 y9, 1 ≤ L2 → L2 ≤ L + 1 → SInv H0 H3 st a S (n + 1) L2 (b + 2) → e.nx (sR st S s m y4 y5 y6 y7 y8 y9) H3) : ((tSeq (tAsg (tTup (tCons (tC (.str (sOf [105]))) (tCons (tCan spLItem E0 (tCons (uV 0) (tCons (uV 1) tNil))) tNil))) (gName 6)) (tSeq (tAsg (tCan spTake E0 (tCons (uV 0) (tCons (tC (.int 9)) tNil))) (gName 7)) (tSeq (tIfS (uB (tOp (uEq K) (uV 7) (tC (.int 7)))) (tAsg (tTup (tCons (tC (.str (sOf [48]))) tNil)) (gName 6)) tNext) (tSeq (tIfS (uB (tOp (uEq K) (uV 7) (tC (.int 8)))) (tAsg (tTup (tCons (tC (.str (sOf [49]))) tNil)) (gName 6)) tNext) (tSeq (tDrop (tBM K "list" uApp (uV 3) (tCons (uV 6) tNil))) (tSeq (tAsg (tCan spTake E0 (tCons (uV 0) (tCons (tC (.int 6)) tNil))) (gName 8)) (tSeq (tIfS (tAnd (uB (tOp (uGt) (uV 8) (tC (.int 1)))) (uB (tOp (uGt) (tCB (uLen K) (tCons (uV 3) tNil)) (tC (.int 1))))) (tSeq (tAsg (tBM0 K "list" uPop (uV 3)) (gName 9)) (tAsg (tTup (tCons (tOp (uIx K) (tLst (tCons (tC (.str (sOf [110]))) (tCons (tC (.str (sOf [111]))) tNil))) (tOp (uSub) (tOp (uFdiv) (uV 8) (tC (.int 2))) (tC (.int 1)))) (tCons (tTup (tCons (tOp (uIx K) (uV 3) (tUn uNeg (tC (.int 1)))) (tCons (uV 9) tNil))) tNil))) (gSub (uV 3) (tUn uNeg (tC (.int 1))) rSetL))) tNext) (tIfS (tOr (uB (tOp (uEq K) (uV 8) (tC (.int 1)))) (tOr (uB (tOp (uEq K) (uV 8) (tC (.int 3)))) (uB (tOp (uEq K) (uV 8) (tC (.int 5)))))) (tAsg (tTup (tCons (tC (.str (sOf [109]))) (tCons (tOp (uIx K) (uV 3) (tUn uNeg (tC (.int 1)))) tNil))) (gSub (uV 3) (tUn uNeg (tC (.int 1))) rSetL)) tNext))))))))) e (sR st S s m y4 y5 y6 y7 y8 y9) H1 := by
  have grow : ∀ {H3 : Hp}, SameBut st H1 H3 → StAt H3 st a → SInv H0 H3 st a S n L b := fun {H3} s3 sa3 => by
    obtain ⟨ws', ts', hS', g1, g2, g3, g4, g5, g6, g7⟩ := I
    exact ⟨ws', ts', s3 _ _ z.d1 hS', g1.keep (g7.kp s3), g2, g3, g4, g5, g6.trans s3, sa3⟩
  have sa1 : StAt H1 st a := I.choose_spec.choose_spec.2.2.2.2.2.2.2
  refine ⟨st, a, s, rfl, sa1, hs, fun w H2 hw s2 sa2 => ⟨(show 2 ≤ sizeLine by decide +kernel), fun p np => ?_⟩⟩
  have sp := same_new (o := .tup [.str (sOf [105]), .str (sOf w)]) np
  have bp := Same.but (st := st) sp
  refine ⟨st, a, 9, rfl, sa2.same sp, by decide, by decide, fun r H3 hr s3 sa3 => ?_⟩
  have s03 := (s2.trans bp).trans s3
  have kp3 := (sa2.same sp).kp s3
  have lt0 : LT H3 (.ref p) (.i w) := LT.keep kp3 (.i upd_same)
  dsimp only [gName, List.set_cons_zero, List.set_cons_succ]
  -- '1' or what is there
  have st2 : ∀ {H4 : Hp} {v : V} {t : T}, SameBut st H1 H4 → StAt H4 st a → LT H4 v t → Raw t → lvs t = 1 → ino t = 0 → ((tSeq (tIfS (uB (tOp (uEq K) (uV 7) (tC (.int 8)))) (tAsg (tTup (tCons (tC (.str (sOf [49]))) tNil)) (gName 6)) tNext) (tSeq (tDrop (tBM K "list" uApp (uV 3) (tCons (uV 6) tNil))) (tSeq (tAsg (tCan spTake E0 (tCons (uV 0) (tCons (tC (.int 6)) tNil))) (gName 8)) (tSeq (tIfS (tAnd (uB (tOp (uGt) (uV 8) (tC (.int 1)))) (uB (tOp (uGt) (tCB (uLen K) (tCons (uV 3) tNil)) (tC (.int 1))))) (tSeq (tAsg (tBM0 K "list" uPop (uV 3)) (gName 9)) (tAsg (tTup (tCons (tOp (uIx K) (tLst (tCons (tC (.str (sOf [110]))) (tCons (tC (.str (sOf [111]))) tNil))) (tOp (uSub) (tOp (uFdiv) (uV 8) (tC (.int 2))) (tC (.int 1)))) (tCons (tTup (tCons (tOp (uIx K) (uV 3) (tUn uNeg (tC (.int 1)))) (tCons (uV 9) tNil))) tNil))) (gSub (uV 3) (tUn uNeg (tC (.int 1))) rSetL))) tNext) (tIfS (tOr (uB (tOp (uEq K) (uV 8) (tC (.int 1)))) (tOr (uB (tOp (uEq K) (uV 8) (tC (.int 3)))) (uB (tOp (uEq K) (uV 8) (tC (.int 5)))))) (tAsg (tTup (tCons (tC (.str (sOf [109]))) (tCons (tOp (uIx K) (uV 3) (tUn uNeg (tC (.int 1)))) tNil))) (gSub (uV 3) (tUn uNeg (tC (.int 1))) rSetL)) tNext)))))) e (sR st S s m y4 y5 (some v) (some (.int (r : Nat))) y8 y9) H4 := fun {H4 v t} s4 sa4 lt4 q1 q2 q3 => by
    show (tIfS _ _ _) _ _ _
    dsimp only [tIfS, uB, tB, tOp, uV, tC, uEq, List.getElem?_cons_zero, List.getElem?_cons_succ]
    refine ifD (fun _ => ?_) fun _ => raw_push (K := K) z (grow s4 sa4) hL lt4 q1 q2 q3 hE
    refine ⟨by decide +kernel, fun p2 np2 => ?_⟩
    have sp2 := same_new (o := .tup [.str (sOf [49])]) np2
    exact raw_push (K := K) (t := .s) z (grow (s4.trans (Same.but sp2)) (sa4.same sp2)) hL (.s upd_same) trivial rfl rfl hE
  show (tIfS _ _ _) _ _ _
  dsimp only [tIfS, uB, tB, tOp, uV, tC, uEq, List.getElem?_cons_zero, List.getElem?_cons_succ]
  refine ifD (fun _ => ?_) fun _ => st2 s03 sa3 lt0 hw rfl rfl
  refine ⟨by decide +kernel, fun p2 np2 => ?_⟩
  have sp2 := same_new (o := .tup [.str (sOf [48])]) np2
  exact st2 (t := .z) (s03.trans (Same.but sp2)) (sa3.same sp2) (.z upd_same) trivial rfl rfl
end
def spLRaw : Sp := fun vs H Q _ => ∃ (st a : Addr) (s m : Nat), vs = [.ref st, .int (s : Nat), .int (m : Nat)] ∧ StAt H st a ∧ s < 26 ∧ 1 ≤ m ∧ m ≤ 12 ∧ ∀ v t H2, SameBut st H H2 → StAt H2 st a → LT H2 v t → Raw t → lvs t ≤ m → ino t + 1 ≤ 2 * m → Q v H2
theorem q__law_raw (h : spLRaw vs H Q E) : t__law_raw K c spTake spLItem (fin0 Q) (start N__law_raw vs) H := by
  obtain ⟨st, a, s, m, rfl, sa, hs, hm1, hm2, q⟩ := h
  show t__law_raw K c spTake spLItem (fin0 Q) [some (.ref st), some (.int (s : Nat)), some (.int (m : Nat)), none, none, none, none, none, none, none] H
  unfold t__law_raw
  refine ⟨by decide +kernel, fun S nS => ?_⟩
  obtain ⟨d1, d2⟩ := sa.new nS
  have sa0 := sa.same (same_new (o := .lst []) nS)
  have b0 := Same.but (st := st) (same_new (o := .lst []) nS)
  have eS : upd H S (.lst []) S = some (.lst []) := upd_same
  refine ⟨st, a, m, rfl, sa0, hm1, by omega, fun r H1 hr s1 sa1 => ?_⟩
  have z : Lst H st a S := ⟨nS, d1, d2⟩
  have I0 : SInv H H1 st a S 0 0 0 := ⟨[], [], s1 _ _ d1 eS, .nil, trivial, rfl, by simp [inos], rfl, b0.trans s1, sa1⟩
  refine ⟨((1 + r : Nat) : Int), by simp, by omega, by omega, for_range (lo := 0) (n := 1 + r) (fun i σ H2 => ∃ L y4 y5 y6 y7 y8 y9, σ = sR st S s m y4 y5 y6 y7 y8 y9 ∧ L ≤ i ∧ (0 < i → 1 ≤ L) ∧ SInv H H2 st a S i L (2 * i)) ⟨0, none, none, none, none, none, none, rfl, Nat.le_refl _, fun h => absurd h (by decide), I0⟩ ?_ ?_⟩
  · rintro i σ H2 hi ⟨L, y4, y5, y6, y7, y8, y9, rfl, hL, _, I⟩
    refine raw_turn (K := K) z hs I (by omega) fun H3 L2 z6 z7 z8 z9 h1 h2 I3 => ?_
    exact ⟨L2, _, _, z6, z7, z8, z9, rfl, by omega, fun _ => h1, I3⟩
  · rintro σ H2 ⟨L, y4, y5, y6, y7, y8, y9, rfl, hL, hL1, I⟩
    have hL1 := hL1 (by omega)
    have saI : StAt H2 st a := I.choose_spec.choose_spec.2.2.2.2.2.2.2
    have I2 := I
    obtain ⟨ws, ts, hS, h1, h2, h3, h4, h5, h6, h7⟩ := I2
    refine ⟨(show 2 ≤ sizeLine by decide +kernel), fun l nl => ?_⟩
    have sl := same_new (o := .lst [.str (sOf [110]), .str (sOf [111])]) nl
    have dl : l ≠ st := (saI.new nl).1
    refine ⟨st, a, 2, rfl, saI.same sl, by decide, by decide, fun r2 H3 hr2 s3 sa3 => ?_⟩
    have e3 : H3 l = some (.lst [.str (sOf [110]), .str (sOf [111])]) := s3 _ _ dl upd_same
    have at2 : atI [V.str (sOf [110]), V.str (sOf [111])] (r2 : Nat) = some (.str (sOf (kw (decide (r2 = 0))))) := by
      have : r2 = 0 ∨ r2 = 1 := by omega
      rcases this with rfl | rfl <;> rfl
    refine ix_lst e3 at2 ?_
    have I3 : SInv H H3 st a S (1 + r) L (2 * (1 + r)) := ⟨ws, ts, s3 _ _ d1 (sl _ _ hS), (h1.keep (Same.kp sl)).keep ((saI.same sl).kp s3), h2, h3, h4, h5, (h6.trans (Same.but sl)).trans s3, sa3⟩
    have hS3 : H3 S = some (.lst ws) := s3 _ _ d1 (sl _ _ hS)
    have hlen := h1.len
    refine ⟨ws, .inl (sqL hS3), ((L - 1 : Nat) : Int), ?_, by omega, by omega, for_range (lo := 0) (n := L - 1) (fun i σ H4 => ∃ y4 y6 y7 y8 y9, σ = sR st S s m y4 (some (.str (sOf (kw (decide (r2 = 0)))))) y6 y7 y8 y9 ∧ SInv H H4 st a S (1 + r) (L - i) (2 * (1 + r))) ⟨_, _, _, _, _, rfl, I3⟩ ?_ ?_⟩
    · rw [show ((ws.length : Int) - 1) = ((L - 1 : Nat) : Int) by omega]
    · rintro i σ H4 hi ⟨z4, z6, z7, z8, z9, rfl, I4⟩
      obtain ⟨ws, ts, hS, h1, h2, h3, h4, h5, h6, h7⟩ := I4
      have hn : ts ≠ [] := fun e => by rw [e] at h5; simp at h5; omega
      obtain ⟨w1, v, t1, t, rfl, rfl, p1, p2⟩ := h1.top hn
      have h5' := h5
      rw [List.length_append, List.length_singleton] at h5'
      have hn1 : t1 ≠ [] := fun e => by rw [e] at h5'; simp at h5'; omega
      obtain ⟨w2, u, t2, t', rfl, rfl, p3, p4⟩ := p1.top hn1
      have hbut := but_new (o := .lst (w2 ++ [u])) h6 nS
      have hst2 := h7.upd (o := .lst (w2 ++ [u])) d1 d2
      have hS2 : upd H4 S (.lst (w2 ++ [u])) S = some (.lst (w2 ++ [u])) := upd_same
      have k := kp_lst (ys := w2 ++ [u]) hS
      dsimp only [tSeq, tAsg, tIfS, tRet, tRetN, tDrop, tNext, tOp, tUn, tCons, tNil, tTup, tLst, tC, tCB, tCan, tCanW, tAnd, tOr, tNot, tB, tIf, uB, uAndV, uOrV, uNotV, uNeg, uV, gName, gSub, tAug, ipI, tPart, tNoPart, tSl, tBM, tBM0, uLen, uAbs, uInt, uAdd, uSub, uMod, uFdiv, uMul, uCmp, uLt, uLe, uGt, uGe, tFld, StX.tMakeR, tRz, tCanS, sFld, start, fin0, List.getElem?_cons_zero, List.getElem?_cons_succ, List.map_cons, List.map_nil, List.length_cons, List.length_nil, List.replicate, List.cons_append, List.nil_append, Nat.reduceSub, Nat.reduceAdd, List.set_cons_zero, List.set_cons_succ]
      refine ⟨tyl hS, _, v, hS, ix_lst hS2 (atI_last _ _) ⟨(show 2 ≤ sizeLine by decide +kernel), fun q nq => ⟨(show 2 ≤ sizeLine by decide +kernel), fun p np => ?_⟩⟩⟩
      obtain ⟨m1, m2⟩ := merge_set (n := 1 + r) (L := L - i) (b := 2 * (1 + r)) (bb := decide (r2 = 0)) z hS2 (p3.keep k) (p4.keep k) (p2.keep k) hbut hst2 nq np h2 h3 h4 h5
      refine ⟨S, w2 ++ [u], -1, w2.length, rfl, rfl, m1, by rw [List.length_append]; exact ixN_last _, ?_⟩
      rw [setN 0]
      exact ⟨_, _, _, _, _, rfl, by rw [show L - (i + 1) = L - i - 1 by omega]; exact m2⟩
    · rintro σ H4 ⟨z4, z6, z7, z8, z9, rfl, I4⟩
      obtain ⟨ws, ts, hS, h1, h2, h3, h4, h5, h6, h7⟩ := I4
      have hn : ts ≠ [] := fun e => by rw [e] at h5; simp at h5; omega
      obtain ⟨w1, v, t1, t, rfl, rfl, p1, p2⟩ := h1.top hn
      rw [List.length_append, List.length_singleton] at h5
      have e1 : t1 = [] := List.length_eq_zero_iff.mp (by omega)
      subst e1
      cases p1
      rw [List.nil_append] at hS h2 h3 h4
      dsimp only [tSeq, tAsg, tIfS, tRet, tRetN, tDrop, tNext, tOp, tUn, tCons, tNil, tTup, tLst, tC, tCB, tCan, tCanW, tAnd, tOr, tNot, tB, tIf, uB, uAndV, uOrV, uNotV, uNeg, uV, gName, gSub, tAug, ipI, tPart, tNoPart, tSl, tBM, tBM0, uLen, uAbs, uInt, uAdd, uSub, uMod, uFdiv, uMul, uCmp, uLt, uLe, uGt, uGe, tFld, StX.tMakeR, tRz, tCanS, sFld, start, fin0, List.getElem?_cons_zero, List.getElem?_cons_succ, List.map_cons, List.map_nil, List.length_cons, List.length_nil, List.replicate, List.cons_append, List.nil_append, Nat.reduceSub, Nat.reduceAdd, List.set_cons_zero, List.set_cons_succ]
      refine ix_lst hS (atI_nat (j := 0) rfl) (q v t H4 h6 h7 p2 h2.1 ?_ ?_)
      · simp only [lvss] at h3; omega
      · simp only [inos, List.length_singleton] at h4; omega
end
end L2.WB
namespace K02
mutual
theorem raw_depth : ∀ {t : T}, Raw t → depth t ≤ ino t + 1
  | .z, _ => by simp [depth, ino]
  | .s, _ => by simp [depth, ino]
  | .i _, _ => by simp [depth, ino]
  | .m b, h => by unfold Raw at h; have := raw_depth (t := b) h; simp only [depth, ino]; omega
  | .n ps, h => by
    unfold Raw at h
    match ps, h with
    | [a, b], h =>
      have h1 := raw_depth (t := a) h.2.1
      have h2 := raw_depth (t := b) h.2.2.1
      have : depth (.n [a, b]) ≤ max (depth a) (depth b) + 1 := by simp [depth, depths, maxL]; omega
      simp only [ino, inos]; omega
  | .o ps, h => by
    unfold Raw at h
    match ps, h with
    | [a, b], h =>
      have h1 := raw_depth (t := a) h.2.1
      have h2 := raw_depth (t := b) h.2.2.1
      have : depth (.o [a, b]) ≤ max (depth a) (depth b) + 1 := by simp [depth, depths, maxL]; omega
      simp only [ino, inos]; omega
end
end K02
namespace L2.WB
open PySem PySem.Spec PyProof.Rows
open K02 (T isL isK isI lthen leither lagain Raw Raws lvs lvss ino inos mkT SgOk Acc cnt)
section
variable {K : PySem.W.Frag} {c : Ad} {H H1 : Hp} {Q : VK} {E : XK} {vs : List V} {v x : V} {t : T} {σ : St}
def spLSigns (n : Nat) : Sp := fun vs H Q _ => ∃ (v : V) (st a : Addr) (t : T), vs = [v, .ref st] ∧ LT H v t ∧ Raw t ∧ K02.depth t ≤ n ∧ ino t ≤ 23 ∧ lvs t ≤ 12 ∧ StAt H st a ∧ ∀ p S H2, SameBut st H H2 → StAt H2 st a → H2 p = some (.lst (tv S)) → SgOk t S → Q (.ref p) H2
theorem add_lst {p q : Addr} {S R : List (List Nat)} (h1 : H p = some (.lst (tv S))) (h2 : H q = some (.lst (tv R))) (hl : S.length + R.length ≤ 100000) (k : ∀ l, H l = none → Q (.ref l) (upd H l (.lst (tv (S ++ R))))) : uAdd K (.ref p) (.ref q) H Q := by
  refine .inl ⟨_, _, h1, h2, by rw [tv_len, tv_len]; exact sl_ok (by omega), fun l nl => ?_⟩
  have e : tv S ++ tv R = tv (S ++ R) := by simp [tv]
  rw [e]
  exact k l nl
/-- brackets around the list in a slot -/
theorem brk_lst {i : Nat} {p : Addr} {S : List (List Nat)} (hσ : σ[i]? = some (some (.ref p))) (h : H p = some (.lst (tv S))) (hl : S.length ≤ 1000) (k : ∀ l H2, Same H H2 → H2 l = some (.lst (tv ([[40]] ++ S ++ [[41]]))) → Q (.ref l) H2) : (tOp (uAdd K) (tOp (uAdd K) (tLst (tCons (tC (.str (sOf [40]))) tNil)) (uV i)) (tLst (tCons (tC (.str (sOf [41]))) tNil))) σ H Q := by
  have hu : ∀ {H : Hp} {R : VK}, R (.ref p) H → uV i σ H R := fun r => by
    unfold uV
    rw [hσ]
    exact r
  dsimp only [tOp, tLst, tCons, tNil, tC]
  refine ⟨(show 1 ≤ sizeLine by decide +kernel), fun a1 n1 => hu ?_⟩
  have s1 := same_new (o := .lst (tv [[40]])) n1
  refine add_lst (S := [[40]]) (R := S) upd_same (s1 _ _ h) (by simp; omega) fun l2 n2 => ?_
  have s2 := same_new (o := .lst (tv ([[40]] ++ S))) n2
  refine ⟨(show 1 ≤ sizeLine by decide +kernel), fun a3 n3 => ?_⟩
  have s3 := same_new (o := .lst (tv [[41]])) n3
  refine add_lst (S := [[40]] ++ S) (R := [[41]]) (get_new upd_same n3) upd_same (by simp; omega) fun l4 n4 => ?_
  exact k l4 _ (((s1.trans s2).trans s3).trans (same_new n4)) upd_same
variable {st a : Addr}
theorem np_of {p : Addr} {S : List (List Nat)} (sa : StAt H1 st a) (e : H1 p = some (.lst (tv S))) : p ≠ st := fun z => by
  obtain ⟨xs, i, d, _, e2, _, _⟩ := sa
  rw [z, e2] at e
  cases S <;> simp [tv] at e
theorem sg_end {p : Addr} {S : List (List Nat)} {x0 y3 y4 : Option V} (sa : StAt H1 st a) (e : H1 p = some (.lst (tv S))) (hl : S.length ≤ 1000) (hq : ∀ p S2 H2, SameBut st H1 H2 → StAt H2 st a → H2 p = some (.lst (tv S2)) → S2 = S ∨ S2 = [[40]] ++ S ++ [[41]] → Q (.ref p) H2) : ((tSeq (tIfS (uB (tOp (uEq K) (tCan spTake E0 (tCons (uV 1) (tCons (tC (.int 4)) tNil))) (tC (.int 1)))) (tAsg (tOp (uAdd K) (tOp (uAdd K) (tLst (tCons (tC (.str (sOf [40]))) tNil)) (uV 2)) (tLst (tCons (tC (.str (sOf [41]))) tNil))) (gName 2)) tNext) (tRet (uV 2)))) (fin0 Q) [x0, some (.ref st), some (.ref p), y3, y4] H1 := by
  have np : p ≠ st := fun z => by
    obtain ⟨xs, i, d, _, e2, _, _⟩ := sa
    rw [z, e2] at e
    cases S <;> simp [tv] at e
  refine ⟨st, a, 4, rfl, sa, by decide, by decide, fun r H2 hr s2 sa2 => ?_⟩
  have e2 := s2 _ _ np e
  dsimp only [uEq, tC]
  refine ifD (fun _ => ?_) fun _ => hq p S H2 s2 sa2 e2 (.inl rfl)
  refine brk_lst (i := 2) rfl e2 hl fun l H3 s3 e3 => ?_
  exact hq l _ H3 (s2.trans (Same.but s3)) (sa2.same s3) e3 (.inr rfl)
/-- not a row: the middle part does nothing -/
theorem sg_skip {n : Nat} {w : Addr} {hd : List Nat} {xs : List V} {y1 y2 y3 y4 : Option V} {D : Ends} (h1 : H1 w = some (.tup xs)) (a2 : atI xs 0 = some (.str (sOf hd))) (d2 : hd ≠ [110]) (d3 : hd ≠ [111]) (k : ((tSeq (tIfS (uB (tOp (uEq K) (tCan spTake E0 (tCons (uV 1) (tCons (tC (.int 4)) tNil))) (tC (.int 1)))) (tAsg (tOp (uAdd K) (tOp (uAdd K) (tLst (tCons (tC (.str (sOf [40]))) tNil)) (uV 2)) (tLst (tCons (tC (.str (sOf [41]))) tNil))) (gName 2)) tNext) (tRet (uV 2)))) D [some (.ref w), y1, y2, y3, y4] H1) : ((tSeq (tIfS (tOr (uB (tOp (uEq K) (tOp (uIx K) (uV 0) (tC (.int 0))) (tC (.str (sOf [110]))))) (uB (tOp (uEq K) (tOp (uIx K) (uV 0) (tC (.int 0))) (tC (.str (sOf [111])))))) (tSeq (tAsg (tLst tNil) (gName 2)) (tFor (iTup K (tOp (uIx K) (uV 0) (tC (.int 1)))) (gName 3) (tSeq (tAsg (tCan (spLSigns n) E0 (tCons (uV 3) (tCons (uV 1) tNil))) (gName 4)) (tSeq (tIfS (tAnd (uB (tOp (uEq K) (tOp (uIx K) (uV 0) (tC (.int 0))) (tC (.str (sOf [110]))))) (uB (tOp (uEq K) (tOp (uIx K) (uV 3) (tC (.int 0))) (tC (.str (sOf [111])))))) (tAsg (tOp (uAdd K) (tOp (uAdd K) (tLst (tCons (tC (.str (sOf [40]))) tNil)) (uV 4)) (tLst (tCons (tC (.str (sOf [41]))) tNil))) (gName 4)) tNext) (tSeq (tIfS (tAnd (uB (tOp (uEq K) (tOp (uIx K) (uV 0) (tC (.int 0))) (tC (.str (sOf [111]))))) (uB (tOp (uGt) (tCB (uLen K) (tCons (uV 2) tNil)) (tC (.int 0))))) (tAsg (tOp (uAdd K) (uV 2) (tLst (tCons (tC (.str (sOf [124]))) tNil))) (gName 2)) tNext) (tAsg (tOp (uAdd K) (uV 2) (uV 4)) (gName 2))))))) tNext) (tSeq (tIfS (uB (tOp (uEq K) (tCan spTake E0 (tCons (uV 1) (tCons (tC (.int 4)) tNil))) (tC (.int 1)))) (tAsg (tOp (uAdd K) (tOp (uAdd K) (tLst (tCons (tC (.str (sOf [40]))) tNil)) (uV 2)) (tLst (tCons (tC (.str (sOf [41]))) tNil))) (gName 2)) tNext) (tRet (uV 2))))) D [some (.ref w), y1, y2, y3, y4] H1 := by
  show (tIfS _ _ _) _ _ _
  dsimp only [tIfS, uB, tB, tOp, tOr, uV, tC, List.getElem?_cons_zero, List.getElem?_cons_succ]
  refine ix_tup2 h1 a2 ?_
  dsimp only [uEq]
  refine ifF (by rw [dec_sOf]; exact decide_eq_false d2) (ix_tup2 h1 a2 ?_)
  dsimp only
  exact ifF (by rw [dec_sOf]; exact decide_eq_false d3) k
/-- what stands after i parts -/
def SgI (bn : Bool) (x y : T) (i : Nat) (S : List (List Nat)) : Prop := match i with
  | 0 => S = []
  | 1 => ∃ e, Acc (2 * ino x + 2) S e ∧ cnt S ≤ lvs x + ino x ∧ S.length ≤ 6 * (lvs x + ino x) + (if bn then 2 else 0)
  | _ => ∃ e, Acc (2 * (ino x + ino y) + 2) S e ∧ cnt S ≤ lvs x + ino x + (lvs y + ino y) ∧ S.length + 2 ≤ 6 * (lvs x + ino x) + 6 * (lvs y + ino y) + 6 ∧ 2 ≤ S.length
theorem cnt0 : cnt [[40]] = 0 ∧ cnt [[41]] = 0 ∧ cnt [[124]] = 0 := by decide
theorem sg_row {n : Nat} {bn : Bool} {w q1 : Addr} {v1 v2 : V} {x y : T} {y2 y3 y4 : Option V} (sa : StAt H st a) (h1 : H w = some (.tup [.str (sOf (kw bn)), .ref q1])) (h2 : H q1 = some (.tup [v1, v2])) (l1 : LT H v1 x) (l2 : LT H v2 y) (r1 : Raw x) (r2 : Raw y) (d1 : K02.depth x ≤ n) (d2 : K02.depth y ≤ n) (hi : ino x + ino y ≤ 22) (hv : lvs x + lvs y ≤ 12)
    (k : ∀ {H1 : Hp} {p : Addr} {S : List (List Nat)} {y3 y4 : Option V} {e : List Nat}, SameBut st H H1 → StAt H1 st a → H1 p = some (.lst (tv S)) → Acc (2 * (ino x + ino y) + 2) S e → cnt S ≤ lvs x + ino x + (lvs y + ino y) → S.length + 2 ≤ 6 * (lvs x + ino x) + 6 * (lvs y + ino y) + 6 → 2 ≤ S.length → ((tSeq (tIfS (uB (tOp (uEq K) (tCan spTake E0 (tCons (uV 1) (tCons (tC (.int 4)) tNil))) (tC (.int 1)))) (tAsg (tOp (uAdd K) (tOp (uAdd K) (tLst (tCons (tC (.str (sOf [40]))) tNil)) (uV 2)) (tLst (tCons (tC (.str (sOf [41]))) tNil))) (gName 2)) tNext) (tRet (uV 2)))) (fin0 Q) [some (.ref w), some (.ref st), some (.ref p), y3, y4] H1) :
    ((tSeq (tIfS (tOr (uB (tOp (uEq K) (tOp (uIx K) (uV 0) (tC (.int 0))) (tC (.str (sOf [110]))))) (uB (tOp (uEq K) (tOp (uIx K) (uV 0) (tC (.int 0))) (tC (.str (sOf [111])))))) (tSeq (tAsg (tLst tNil) (gName 2)) (tFor (iTup K (tOp (uIx K) (uV 0) (tC (.int 1)))) (gName 3) (tSeq (tAsg (tCan (spLSigns n) E0 (tCons (uV 3) (tCons (uV 1) tNil))) (gName 4)) (tSeq (tIfS (tAnd (uB (tOp (uEq K) (tOp (uIx K) (uV 0) (tC (.int 0))) (tC (.str (sOf [110]))))) (uB (tOp (uEq K) (tOp (uIx K) (uV 3) (tC (.int 0))) (tC (.str (sOf [111])))))) (tAsg (tOp (uAdd K) (tOp (uAdd K) (tLst (tCons (tC (.str (sOf [40]))) tNil)) (uV 4)) (tLst (tCons (tC (.str (sOf [41]))) tNil))) (gName 4)) tNext) (tSeq (tIfS (tAnd (uB (tOp (uEq K) (tOp (uIx K) (uV 0) (tC (.int 0))) (tC (.str (sOf [111]))))) (uB (tOp (uGt) (tCB (uLen K) (tCons (uV 2) tNil)) (tC (.int 0))))) (tAsg (tOp (uAdd K) (uV 2) (tLst (tCons (tC (.str (sOf [124]))) tNil))) (gName 2)) tNext) (tAsg (tOp (uAdd K) (uV 2) (uV 4)) (gName 2))))))) tNext) (tSeq (tIfS (uB (tOp (uEq K) (tCan spTake E0 (tCons (uV 1) (tCons (tC (.int 4)) tNil))) (tC (.int 1)))) (tAsg (tOp (uAdd K) (tOp (uAdd K) (tLst (tCons (tC (.str (sOf [40]))) tNil)) (uV 2)) (tLst (tCons (tC (.str (sOf [41]))) tNil))) (gName 2)) tNext) (tRet (uV 2))))) (fin0 Q) [some (.ref w), some (.ref st), y2, y3, y4] H := by
  have core : ((tSeq (tAsg (tLst tNil) (gName 2)) (tFor (iTup K (tOp (uIx K) (uV 0) (tC (.int 1)))) (gName 3) (tSeq (tAsg (tCan (spLSigns n) E0 (tCons (uV 3) (tCons (uV 1) tNil))) (gName 4)) (tSeq (tIfS (tAnd (uB (tOp (uEq K) (tOp (uIx K) (uV 0) (tC (.int 0))) (tC (.str (sOf [110]))))) (uB (tOp (uEq K) (tOp (uIx K) (uV 3) (tC (.int 0))) (tC (.str (sOf [111])))))) (tAsg (tOp (uAdd K) (tOp (uAdd K) (tLst (tCons (tC (.str (sOf [40]))) tNil)) (uV 4)) (tLst (tCons (tC (.str (sOf [41]))) tNil))) (gName 4)) tNext) (tSeq (tIfS (tAnd (uB (tOp (uEq K) (tOp (uIx K) (uV 0) (tC (.int 0))) (tC (.str (sOf [111]))))) (uB (tOp (uGt) (tCB (uLen K) (tCons (uV 2) tNil)) (tC (.int 0))))) (tAsg (tOp (uAdd K) (uV 2) (tLst (tCons (tC (.str (sOf [124]))) tNil))) (gName 2)) tNext) (tAsg (tOp (uAdd K) (uV 2) (uV 4)) (gName 2)))))))) { fin0 Q with nx := ((tSeq (tIfS (uB (tOp (uEq K) (tCan spTake E0 (tCons (uV 1) (tCons (tC (.int 4)) tNil))) (tC (.int 1)))) (tAsg (tOp (uAdd K) (tOp (uAdd K) (tLst (tCons (tC (.str (sOf [40]))) tNil)) (uV 2)) (tLst (tCons (tC (.str (sOf [41]))) tNil))) (gName 2)) tNext) (tRet (uV 2)))) (fin0 Q) } [some (.ref w), some (.ref st), y2, y3, y4] H := by
    refine ⟨by decide +kernel, fun o no => ?_⟩
    have s0 := same_new (o := .lst []) no
    have kp0 := Same.kp s0
    refine for_ix1 (i := 0) rfl (s0 _ _ h1) (s0 _ _ h2) (for_tup (K := K) (a := q1) (xs := [v1, v2]) (fun i σ H1 => ∃ p S y3 y4, σ = [some (.ref w), some (.ref st), some (.ref p), y3, y4] ∧ SameBut st H H1 ∧ StAt H1 st a ∧ H1 p = some (.lst (tv S)) ∧ SgI bn x y i S) ⟨o, [], y3, y4, rfl, Same.but s0, sa.same s0, upd_same, rfl⟩ (fun i σ H1 _ ⟨_, _, _, _, _, s1, _⟩ => sqT (sa.kp s1 _ _ h2 (.inl ⟨_, rfl⟩))) ?_ ?_)
    · rintro i z σ H1 hz ⟨p, S, z3, z4, rfl, s1, sa1, ep, sg⟩
      have k1 := sa.kp s1
      have h1' := k1 _ _ h1 (.inl ⟨_, rfl⟩)
      dsimp only [gName, List.set_cons_zero, List.set_cons_succ]
      obtain ⟨u, hzu, hru, hdu, hiu, hvu, hu⟩ : ∃ u, LT H z u ∧ Raw u ∧ K02.depth u ≤ n ∧ ino u ≤ 22 ∧ lvs u ≤ 12 ∧ ((i = 0 ∧ u = x) ∨ (i = 1 ∧ u = y)) := by
        match i, hz with
        | 0, hz => cases hz; exact ⟨x, l1, r1, d1, by omega, by omega, .inl ⟨rfl, rfl⟩⟩
        | 1, hz => cases hz; exact ⟨y, l2, r2, d2, by omega, by omega, .inr ⟨rfl, rfl⟩⟩
      refine ⟨z, st, a, u, rfl, hzu.keep k1, hru, hdu, by omega, hvu, sa1, fun p2 R H2 s2 sa2 ep2 sgu => ?_⟩
      have np : p ≠ st := np_of sa1 ep
      have np2 : p2 ≠ st := np_of sa2 ep2
      have ep' := s2 _ _ np ep
      have k2 := k1.trans (sa1.kp s2)
      have h2' := k2 _ _ h1 (.inl ⟨_, rfl⟩)
      have hzu2 := hzu.keep k2
      have sb2 := s1.trans s2
      obtain ⟨e, g1, g2, g3, g4⟩ := sgu
      dsimp only [gName, List.set_cons_zero, List.set_cons_succ]
      -- the last part: signs + inner
      have join : ∀ {H3 : Hp} {pa pb : Addr} {S3 R3 : List (List Nat)} {e3 : List Nat}, Same H2 H3 → H3 pa = some (.lst (tv S3)) → H3 pb = some (.lst (tv R3)) → Acc (2 * ino u + 2) R3 e3 → cnt R3 ≤ lvs u + ino u → R3.length ≤ 6 * (lvs u + ino u) + (if bn then 2 else 0) → (S3 = S ∨ (bn = false ∧ S3 = S ++ [[124]] ∧ S ≠ [])) → (bn = false → S ≠ [] → S3 ≠ S) → (tAsg (tOp (uAdd K) (uV 2) (uV 4)) (gName 2)) { fin0 Q with nx := fun σ H1 => ∃ p S y3 y4, σ = [some (.ref w), some (.ref st), some (.ref p), y3, y4] ∧ SameBut st H H1 ∧ StAt H1 st a ∧ H1 p = some (.lst (tv S)) ∧ SgI bn x y (i + 1) S } [some (.ref w), some (.ref st), some (.ref pa), some z, some (.ref pb)] H3 := fun {H3 pa pb S3 R3 e3} s3 ea eb q1 q2 q3 q4 q5 => by
        dsimp only [tAsg, tOp, uV, tC, gName, List.getElem?_cons_zero, List.getElem?_cons_succ, List.set_cons_zero, List.set_cons_succ]
        have hR3 : 1 ≤ R3.length := List.length_pos_iff.mpr q1.ne
        have fit : S3.length + R3.length ≤ 100000 := by
          rcases hu with ⟨rfl, rfl⟩ | ⟨rfl, rfl⟩
          · have sg : S = [] := sg
            rcases q4 with rfl | ⟨_, _, h⟩
            · rw [sg]; simp; cases bn <;> simp at q3 <;> omega
            · exact absurd sg h
          · obtain ⟨e0, _, _, m3⟩ := sg
            rcases q4 with rfl | ⟨_, rfl, h⟩
            · cases bn <;> simp at q3 m3 <;> omega
            · simp; cases bn <;> simp at q3 m3 <;> omega
        refine add_lst ea eb fit fun l nl => ⟨l, S3 ++ R3, _, _, rfl, sb2.trans (Same.but (s3.trans (same_new nl))), sa2.same (s3.trans (same_new nl)), upd_same, ?_⟩
        rcases hu with ⟨rfl, rfl⟩ | ⟨rfl, rfl⟩
        · have sg : S = [] := sg
          rcases q4 with rfl | ⟨_, _, h⟩
          · rw [sg]; exact ⟨e3, q1, q2, q3⟩
          · exact absurd sg h
        · obtain ⟨e0, m1, m2, m3⟩ := sg
          have hS : 1 ≤ S.length := List.length_pos_iff.mpr m1.ne
          rcases q4 with rfl | ⟨hb, rfl, h⟩
          · have hbn : bn = true := by
              cases bn with
              | true => rfl
              | false => exact absurd rfl (q5 rfl m1.ne)
            subst hbn
            refine ⟨e3, K02.acc_app (m1.mono (by omega)) (q1.mono (by omega)), by rw [K02.cnt_app]; omega, ?_, by rw [List.length_append]; omega⟩
            rw [List.length_append]; simp at m3 q3; omega
          · subst hb
            refine ⟨e3, K02.acc_bar (m1.mono (by omega)) (q1.mono (by omega)), by rw [K02.cnt_app, K02.cnt_app, cnt0.2.2]; omega, ?_, by simp; omega⟩
            simp at m3 q3 ⊢; omega
      -- the bar
      have bar : ∀ {H3 : Hp} {pb : Addr} {R3 : List (List Nat)} {e3 : List Nat}, Same H2 H3 → H3 pb = some (.lst (tv R3)) → Acc (2 * ino u + 2) R3 e3 → cnt R3 ≤ lvs u + ino u → R3.length ≤ 6 * (lvs u + ino u) + (if bn then 2 else 0) → ((tSeq (tIfS (tAnd (uB (tOp (uEq K) (tOp (uIx K) (uV 0) (tC (.int 0))) (tC (.str (sOf [111]))))) (uB (tOp (uGt) (tCB (uLen K) (tCons (uV 2) tNil)) (tC (.int 0))))) (tAsg (tOp (uAdd K) (uV 2) (tLst (tCons (tC (.str (sOf [124]))) tNil))) (gName 2)) tNext) (tAsg (tOp (uAdd K) (uV 2) (uV 4)) (gName 2)))) { fin0 Q with nx := fun σ H1 => ∃ p S y3 y4, σ = [some (.ref w), some (.ref st), some (.ref p), y3, y4] ∧ SameBut st H H1 ∧ StAt H1 st a ∧ H1 p = some (.lst (tv S)) ∧ SgI bn x y (i + 1) S } [some (.ref w), some (.ref st), some (.ref p), some z, some (.ref pb)] H3 := fun {H3 pb R3 e3} s3 eb q1 q2 q3 => by
        show (tIfS _ _ _) _ _ _
        dsimp only [tIfS, uB, tB, tAnd, tOp, uV, tC, tCB, tCons, tNil, uLen, uGt, uCmp, List.getElem?_cons_zero, List.getElem?_cons_succ]
        refine ix_tup2 (s3 _ _ h2') (atI_nat (j := 0) rfl) ?_
        dsimp only [uEq]
        cases bn with
        | true => exact ifF (by rw [dec_sOf]; decide) (join s3 (s3 _ _ ep') eb q1 q2 q3 (.inl rfl) (fun h => by cases h))
        | false =>
          refine ifT (by rw [dec_sOf]; decide) ⟨_, .inl (sqL (s3 _ _ ep')), ?_⟩
          rw [tv_len]
          refine ifD (fun c1 => ?_) fun c1 => ?_
          · have hne : S ≠ [] := fun e => by rw [e] at c1; simp at c1
            refine ⟨(show 1 ≤ sizeLine by decide +kernel), fun l nl => ?_⟩
            have sl := same_new (o := .lst (tv [[124]])) nl
            have hSl : S.length ≤ 1000 := by
              rcases hu with ⟨rfl, rfl⟩ | ⟨rfl, rfl⟩
              · have sg : S = [] := sg
                exact absurd sg hne
              · obtain ⟨e0, _, _, m3⟩ := sg
                simp at m3; omega
            refine add_lst (S := S) (R := [[124]]) (sl _ _ (s3 _ _ ep')) upd_same (by simp; omega) fun l2 nl2 => ?_
            have sl2 := same_new (o := .lst (tv (S ++ [[124]]))) nl2
            exact join ((s3.trans sl).trans sl2) upd_same (sl2 _ _ (sl _ _ eb)) q1 q2 q3 (.inr ⟨rfl, rfl, hne⟩) (fun _ _ h => by simp at h)
          · have hne : S = [] := by
              cases S with
              | nil => rfl
              | cons g S => simp at c1
            exact join s3 (s3 _ _ ep') eb q1 q2 q3 (.inl rfl) (fun _ h => absurd hne h)
      show (tIfS _ _ _) _ _ _
      dsimp only [tIfS, uB, tB, tAnd, tOp, uV, tC, List.getElem?_cons_zero, List.getElem?_cons_succ]
      refine ix_tup2 h2' (atI_nat (j := 0) rfl) ?_
      dsimp only [uEq]
      have keep : ((tSeq (tIfS (tAnd (uB (tOp (uEq K) (tOp (uIx K) (uV 0) (tC (.int 0))) (tC (.str (sOf [111]))))) (uB (tOp (uGt) (tCB (uLen K) (tCons (uV 2) tNil)) (tC (.int 0))))) (tAsg (tOp (uAdd K) (uV 2) (tLst (tCons (tC (.str (sOf [124]))) tNil))) (gName 2)) tNext) (tAsg (tOp (uAdd K) (uV 2) (uV 4)) (gName 2)))) { fin0 Q with nx := fun σ H1 => ∃ p S y3 y4, σ = [some (.ref w), some (.ref st), some (.ref p), y3, y4] ∧ SameBut st H H1 ∧ StAt H1 st a ∧ H1 p = some (.lst (tv S)) ∧ SgI bn x y (i + 1) S } [some (.ref w), some (.ref st), some (.ref p), some z, some (.ref p2)] H2 := bar (Same.refl _) ep2 (g1.mono (by omega)) g3 (by omega)
      cases bn with
      | false => exact ifF (by rw [dec_sOf]; decide) keep
      | true =>
        refine ifT (by rw [dec_sOf]; decide) (ix_hd hzu2 ?_)
        dsimp only
        refine ifB (fun _ => ?_) fun _ => keep
        refine brk_lst (i := 4) rfl ep2 (by omega) fun l H3 s3 e3 => ?_
        exact bar s3 e3 (K02.acc_brk g1) (by rw [K02.cnt_app, K02.cnt_app, cnt0.1, cnt0.2.1]; omega) (by simp; omega)
    · rintro σ H1 ⟨p, S, z3, z4, rfl, s1, sa1, ep, e, g1, g2, g3, g4⟩
      exact k s1 sa1 ep g1 g2 g3 g4
  show (tIfS _ _ _) _ _ _
  dsimp only [tIfS, uB, tB, tOp, tOr, uV, tC, List.getElem?_cons_zero, List.getElem?_cons_succ]
  refine ix_tup2 h1 (atI_nat (j := 0) rfl) ?_
  dsimp only [uEq]
  cases bn with
  | true => exact ifT (by rw [dec_sOf]; decide) (iteT core)
  | false =>
    refine ifF (by rw [dec_sOf]; decide) (ix_tup2 h1 (atI_nat (j := 0) rfl) ?_)
    dsimp only
    exact ifT (by rw [dec_sOf]; decide) core
theorem q__law_signs {n : Nat} (h : spLSigns (n + 1) vs H Q E) : t__law_signs K c (spLSigns n) spTake (fin0 Q) (start N__law_signs vs) H := by
  obtain ⟨v, st, a, t, rfl, lt, hr, hd, hi, hv, sa, q⟩ := h
  show t__law_signs K c (spLSigns n) spTake (fin0 Q) [some v, some (.ref st), none, none, none] H
  -- the end
  have fin : ∀ {H1 : Hp} {p : Addr} {S : List (List Nat)} {x0 y3 y4 : Option V} {e : List Nat}, SameBut st H H1 → StAt H1 st a → H1 p = some (.lst (tv S)) → Acc (2 * ino t) S e → (S.length = 1 → e ≠ [42]) → cnt S ≤ lvs t + ino t → S.length + 2 ≤ 6 * (lvs t + ino t) → ((tSeq (tIfS (uB (tOp (uEq K) (tCan spTake E0 (tCons (uV 1) (tCons (tC (.int 4)) tNil))) (tC (.int 1)))) (tAsg (tOp (uAdd K) (tOp (uAdd K) (tLst (tCons (tC (.str (sOf [40]))) tNil)) (uV 2)) (tLst (tCons (tC (.str (sOf [41]))) tNil))) (gName 2)) tNext) (tRet (uV 2)))) (fin0 Q) [x0, some (.ref st), some (.ref p), y3, y4] H1 := fun {H1 p S x0 y3 y4 e} s1 sa1 ep g1 g2 g3 g4 => by
    obtain ⟨k1, k2⟩ := K02.sg_last g1 g2 g3 g4
    refine sg_end sa1 ep (by omega) fun p2 S2 H2 s2 sa2 e2 o => q p2 S2 H2 (s1.trans s2) sa2 e2 ?_
    rcases o with rfl | rfl
    · exact k1
    · exact k2
  have leaf : ∀ {w : Addr} {g : List Nat} {hd : List Nat} {xs : List V}, H w = some (.tup xs) → atI xs (-1) = some (.str (sOf g)) → atI xs 0 = some (.str (sOf hd)) → hd ≠ [109] → hd ≠ [110] → hd ≠ [111] → K02.leafTok g = true → ino t = 0 → lvs t = 1 → t__law_signs K c (spLSigns n) spTake (fin0 Q) [some (.ref w), some (.ref st), none, none, none] H := fun {w g hd xs} h1 a1 a2 d1 d2 d3 hg hi0 hv1 => by
    unfold t__law_signs
    refine ix_tup2 h1 a1 ⟨(show 1 ≤ sizeLine by decide +kernel), fun p np => ?_⟩
    have sp := same_new (o := .lst [.str (sOf g)]) np
    dsimp only [gName, List.set_cons_zero, List.set_cons_succ]
    show (tIfS _ _ _) _ _ _
    dsimp only [tIfS, uB, tB, tOp, tOr, uV, tC, List.getElem?_cons_zero, List.getElem?_cons_succ]
    refine ix_tup2 (sp _ _ h1) a2 ?_
    dsimp only [uEq]
    refine ifF (by rw [dec_sOf]; exact decide_eq_false d1) (sg_skip (n := n) (sp _ _ h1) a2 d2 d3 ?_)
    have hn := K02.leaf_ne hg
    refine fin (S := [g]) (e := g) (Same.but sp) (sa.same sp) upd_same ((K02.acc_leaf hg).mono (by omega)) (fun _ => hn.2.2.1) ?_ (by rw [hi0, hv1]; exact (show 3 ≤ 6 by decide))
    rw [hi0, hv1]
    exact Nat.le_trans (List.countP_le_length) (by simp)
  have row : ∀ {bn : Bool} {w q1 : Addr} {v1 v2 : V} {x y : T}, H w = some (.tup [.str (sOf (kw bn)), .ref q1]) → H q1 = some (.tup [v1, v2]) → LT H v1 x → LT H v2 y → Raw x → Raw y → K02.depth x ≤ n → K02.depth y ≤ n → ino t = 1 + (ino x + ino y) → lvs t = lvs x + lvs y → t__law_signs K c (spLSigns n) spTake (fin0 Q) [some (.ref w), some (.ref st), none, none, none] H := fun {bn w q1 v1 v2 x y} h1 h2 l1 l2 r1 r2 d1 d2 ei ev => by
    unfold t__law_signs
    refine ix_tup2 h1 (atI_last [_] _) ⟨(show 1 ≤ sizeLine by decide +kernel), fun p np => ?_⟩
    have sp := same_new (o := .lst [.ref q1]) np
    dsimp only [gName, List.set_cons_zero, List.set_cons_succ]
    show (tIfS _ _ _) _ _ _
    dsimp only [tIfS, uB, tB, tOp, uV, tC, List.getElem?_cons_zero, List.getElem?_cons_succ]
    refine ix_tup2 (sp _ _ h1) (atI_nat (j := 0) rfl) ?_
    dsimp only [uEq]
    refine ifF (by cases bn <;> (rw [dec_sOf]; decide)) ?_
    refine sg_row (sa.same sp) (sp _ _ h1) (sp _ _ h2) (l1.keep (Same.kp sp)) (l2.keep (Same.kp sp)) r1 r2 d1 d2 (by omega) (by omega) fun {H1 p2 S z3 z4 e} s1 sa1 ep g1 g2 g3 g4 => ?_
    exact fin ((Same.but sp).trans s1) sa1 ep (g1.mono (by omega)) (fun h => by omega) (by omega) (by omega)
  cases lt with
  | z h1 => exact leaf h1 (atI_last [] _) (atI_nat (j := 0) rfl) (by decide) (by decide) (by decide) (by decide) rfl rfl
  | s h1 => exact leaf h1 (atI_last [] _) (atI_nat (j := 0) rfl) (by decide) (by decide) (by decide) (by decide) rfl rfl
  | @i _ w h1 => exact leaf h1 (atI_last [_] _) (atI_nat (j := 0) rfl) (by decide) (by decide) (by decide) (by unfold K02.leafTok; have hr : isI w = true := hr; rw [hr]; rfl) rfl rfl
  | @m a1 w b h1 h2 =>
    have hr : Raw b := hr
    unfold t__law_signs
    refine ix_tup2 h1 (atI_last [_] _) ⟨(show 1 ≤ sizeLine by decide +kernel), fun p0 np0 => ?_⟩
    have s0 := same_new (o := .lst [w]) np0
    dsimp only [gName, List.set_cons_zero, List.set_cons_succ]
    show (tIfS _ _ _) _ _ _
    dsimp only [tIfS, uB, tB, tOp, tOr, uV, tC, List.getElem?_cons_zero, List.getElem?_cons_succ]
    refine ix_tup2 (s0 _ _ h1) (atI_nat (j := 0) rfl) ?_
    dsimp only [uEq]
    refine ifT (by rw [dec_sOf]; decide) ?_
    dsimp only [tSeq, tAsg, tCan, tCons, tNil, tOp, uV, tC, gName, List.getElem?_cons_zero, List.getElem?_cons_succ, List.set_cons_zero, List.set_cons_succ]
    refine ix_tup2 (s0 _ _ h1) (atI_nat (j := 1) rfl) ?_
    have hi2 : ino b + 1 ≤ 23 := by simp only [ino] at hi; omega
    have hv2 : lvs b ≤ 12 := by simp only [lvs] at hv; exact hv
    refine ⟨w, st, a, b, rfl, h2.keep (Same.kp s0), hr, by simp only [K02.depth] at hd; omega, by omega, hv2, sa.same s0, fun p S H2 s2 sa2 ep sg => ?_⟩
    obtain ⟨e, g1, g2, g3, g4⟩ := sg
    have kp2 := (Same.kp s0).trans ((sa.same s0).kp s2)
    have sb2 := (Same.but (st := st) s0).trans s2
    have h1' := kp2 _ _ h1 (.inl ⟨_, rfl⟩)
    have hSn : 1 ≤ S.length := List.length_pos_iff.mpr g1.ne
    have star : ∀ {H3 : Hp} {p3 : Addr} {S3 : List (List Nat)} {e3 : List Nat}, Same H2 H3 → H3 p3 = some (.lst (tv S3)) → Acc (2 * ino b + 2) S3 e3 → e3 ≠ [42] → cnt S3 ≤ lvs b + ino b → S3.length ≤ S.length + 2 → (tAsg (tOp (uAdd K) (uV 2) (tLst (tCons (tC (.str (sOf [42]))) tNil))) (gName 2)) { fin0 Q with nx := fun σ H => ((tSeq (tIfS (tOr (uB (tOp (uEq K) (tOp (uIx K) (uV 0) (tC (.int 0))) (tC (.str (sOf [110]))))) (uB (tOp (uEq K) (tOp (uIx K) (uV 0) (tC (.int 0))) (tC (.str (sOf [111])))))) (tSeq (tAsg (tLst tNil) (gName 2)) (tFor (iTup K (tOp (uIx K) (uV 0) (tC (.int 1)))) (gName 3) (tSeq (tAsg (tCan (spLSigns n) E0 (tCons (uV 3) (tCons (uV 1) tNil))) (gName 4)) (tSeq (tIfS (tAnd (uB (tOp (uEq K) (tOp (uIx K) (uV 0) (tC (.int 0))) (tC (.str (sOf [110]))))) (uB (tOp (uEq K) (tOp (uIx K) (uV 3) (tC (.int 0))) (tC (.str (sOf [111])))))) (tAsg (tOp (uAdd K) (tOp (uAdd K) (tLst (tCons (tC (.str (sOf [40]))) tNil)) (uV 4)) (tLst (tCons (tC (.str (sOf [41]))) tNil))) (gName 4)) tNext) (tSeq (tIfS (tAnd (uB (tOp (uEq K) (tOp (uIx K) (uV 0) (tC (.int 0))) (tC (.str (sOf [111]))))) (uB (tOp (uGt) (tCB (uLen K) (tCons (uV 2) tNil)) (tC (.int 0))))) (tAsg (tOp (uAdd K) (uV 2) (tLst (tCons (tC (.str (sOf [124]))) tNil))) (gName 2)) tNext) (tAsg (tOp (uAdd K) (uV 2) (uV 4)) (gName 2))))))) tNext) (tSeq (tIfS (uB (tOp (uEq K) (tCan spTake E0 (tCons (uV 1) (tCons (tC (.int 4)) tNil))) (tC (.int 1)))) (tAsg (tOp (uAdd K) (tOp (uAdd K) (tLst (tCons (tC (.str (sOf [40]))) tNil)) (uV 2)) (tLst (tCons (tC (.str (sOf [41]))) tNil))) (gName 2)) tNext) (tRet (uV 2))))) (fin0 Q) σ H } [some (.ref a1), some (.ref st), some (.ref p3), none, none] H3 := fun {H3 p3 S3 e3} s3 e1 q1 q2 q3 q4 => by
      dsimp only [tAsg, tOp, uV, tLst, tCons, tNil, tC, gName, List.getElem?_cons_zero, List.getElem?_cons_succ, List.set_cons_zero, List.set_cons_succ]
      refine ⟨(show 1 ≤ sizeLine by decide +kernel), fun l nl => ?_⟩
      refine add_lst (S := S3) (R := [[42]]) (get_new e1 nl) upd_same (by simp; omega) fun l2 nl2 => ?_
      have sx := (s3.trans (same_new (o := .lst (tv [[42]])) nl)).trans (same_new (o := .lst (tv (S3 ++ [[42]]))) nl2)
      have hS3 : 1 ≤ S3.length := List.length_pos_iff.mpr q1.ne
      refine sg_skip (n := n) (sx _ _ h1') (atI_nat (j := 0) rfl) (by decide) (by decide) ?_
      refine fin (S := S3 ++ [[42]]) (e := [42]) (sb2.trans (Same.but sx)) (sa2.same sx) upd_same ((K02.acc_star q1 q2).mono (by simp only [ino]; omega)) (fun h => by rw [List.length_append, List.length_singleton] at h; omega) ?_ ?_
      · rw [K02.cnt_app, show cnt [[42]] = 1 by decide]
        simp only [ino, lvs]
        omega
      · rw [List.length_append, List.length_singleton]
        simp only [ino, lvs]
        omega
    show (tIfS _ _ _) _ _ _
    dsimp only [tIfS, uB, tB, tCB, tCons, tNil, tOp, uV, tC, uLen, uGt, uCmp, List.getElem?_cons_zero, List.getElem?_cons_succ]
    refine ⟨_, .inl (sqL ep), ?_⟩
    rw [tv_len]
    refine ifD (fun c1 => ?_) fun c1 => ?_
    · refine brk_lst (i := 2) rfl ep (by omega) fun l H3 s3 e3 => ?_
      exact star s3 e3 ((K02.acc_brk g1).mono (by omega)) (by decide) (by rw [K02.cnt_app, K02.cnt_app, show cnt [[40]] = 0 by decide, show cnt [[41]] = 0 by decide]; omega) (by simp)
    · exact star (Same.refl _) ep (g1.mono (by omega)) (g2 (by omega)) g3 (by omega)
  | @n a1 q1 ws ts h1 h2 h3 =>
    have hr : ts.length = 2 ∧ Raws ts := hr
    match ts, hr with
    | [x, y], hr =>
      obtain ⟨v1, v2, rfl, l1, l2⟩ : ∃ v1 v2, ws = [v1, v2] ∧ LT H v1 x ∧ LT H v2 y := by
        cases h3 with
        | cons a1 b1 => cases b1 with
          | cons a2 b2 => cases b2; exact ⟨_, _, rfl, a1, a2⟩
      exact row (bn := true) h1 h2 l1 l2 hr.2.1 hr.2.2.1 (by have := K02.depth_part (ps := [x, y]) (q := x) (by simp); omega) (by have := K02.depth_part (ps := [x, y]) (q := y) (by simp); omega) (by simp [ino, inos]) (by simp [lvs, lvss])
  | @o a1 q1 ws ts h1 h2 h3 =>
    have hr : ts.length = 2 ∧ Raws ts := hr
    match ts, hr with
    | [x, y], hr =>
      obtain ⟨v1, v2, rfl, l1, l2⟩ : ∃ v1 v2, ws = [v1, v2] ∧ LT H v1 x ∧ LT H v2 y := by
        cases h3 with
        | cons a1 b1 => cases b1 with
          | cons a2 b2 => cases b2; exact ⟨_, _, rfl, a1, a2⟩
      exact row (bn := false) h1 h2 l1 l2 hr.2.1 hr.2.2.1 (by have := K02.depth_partO (ps := [x, y]) (q := x) (by simp); omega) (by have := K02.depth_partO (ps := [x, y]) (q := y) (by simp); omega) (by simp [ino, inos]) (by simp [lvs, lvss])
end
end L2.WB
namespace K02
theorem valid_len {g : List Nat} (h : valid g = true) : g.length ≤ 2 := by
  by_cases hi : isI g = true
  · match g, hi with
    | [c], h => simp
    | [c, d], h => simp
  · unfold valid at h
    simp only [hi] at h
    simp at h
    rcases h with h | h <;> first | (simp [h]; done) | skip
    all_goals (rcases h with h | h <;> first | (simp [h]; done) | skip)
    all_goals (rcases h with h | h <;> first | (simp [h]; done) | skip)
    all_goals (rcases h with h | h <;> first | (simp [h]; done) | skip)
    all_goals (rcases h with h | h <;> first | (simp [h]; done) | skip)
end K02
namespace L2.WB
open PySem PySem.Spec PyProof.Rows
open K02 (T isL isK isI lthen leither lagain)
section
variable {K : PySem.W.Frag} {c : Ad} {H H1 : Hp} {Q : VK} {E : XK} {vs : List V} {v x : V} {t : T} {σ : St}
def spLSpaced : Sp := fun vs H Q _ => ∃ (p st a : Addr) (S : List (List Nat)), vs = [.ref p, .ref st] ∧ H p = some (.lst (tv S)) ∧ (∀ g ∈ S, K02.valid g = true) ∧ S.length ≤ 1000 ∧ StAt H st a ∧ ∀ l H2, SameBut st H H2 → StAt H2 st a → K02.Sp S l → l.length ≤ 2 + 4 * S.length → Q (.str (sOf l)) H2
theorem q__law_spaced (h : spLSpaced vs H Q E) : t__law_spaced K c spTake (fin0 Q) (start N__law_spaced vs) H := by
  obtain ⟨p, st, a, S, rfl, ep, hv, hl, sa, q⟩ := h
  show t__law_spaced K c spTake (fin0 Q) [some (.ref p), some (.ref st), none, none] H
  have np := np_of sa ep
  unfold t__law_spaced
  refine ⟨st, a, 2, rfl, sa, by decide, by decide, fun r H1 hr s1 sa1 => ?_⟩
  refine ⟨by omega, by omega, by rw [sOf_len]; decide, ?_⟩
  rw [rep_sOf]
  dsimp only [gName, List.set_cons_zero, List.set_cons_succ]
  refine ⟨p, rfl, ⟨_, sqL (s1 _ _ np ep)⟩, for_list (K := K) (a := p) (xs := tv S) (fun i σ H2 => ∃ l y3, σ = [some (.ref p), some (.ref st), some (.str (sOf l)), y3] ∧ SameBut st H H2 ∧ StAt H2 st a ∧ K02.Sp (S.take i) l ∧ l.length ≤ 2 + 4 * i) ⟨_, none, rfl, s1, sa1, by simpa using K02.Sp.blanks r, by simp; omega⟩ (fun i σ H2 _ ⟨_, _, _, s2, _⟩ => sqL (s2 _ _ np ep)) ?_ ?_⟩
  · rintro i z σ H2 hz ⟨l, y3, rfl, s2, sa2, sp, ll⟩
    obtain ⟨g, hg, rfl⟩ : ∃ g, S[i]? = some g ∧ z = .str (sOf g) := by
      unfold tv at hz
      rw [List.getElem?_map] at hz
      cases e : S[i]? with
      | none => rw [e] at hz; cases hz
      | some g => rw [e] at hz; exact ⟨g, rfl, (Option.some.inj hz).symm⟩
    have hgv := hv g (List.mem_of_getElem? hg)
    have hgl := K02.valid_len hgv
    have hi : i < S.length := (List.getElem?_eq_some_iff.mp hg).1
    have tk : S.take (i + 1) = S.take i ++ [g] := by rw [List.take_add_one, hg]; rfl
    dsimp only [tSeq, tAsg, tIfS, tRet, tRetN, tDrop, tNext, tOp, tUn, tCons, tNil, tTup, tLst, tC, tCB, tCan, tCanW, tAnd, tOr, tNot, tB, tIf, uB, uAndV, uOrV, uNotV, uNeg, uV, gName, gSub, tAug, ipI, tPart, tNoPart, tSl, tBM, tBM0, uLen, uAbs, uInt, uAdd, uSub, uMod, uFdiv, uMul, uCmp, uLt, uLe, uGt, uGe, tFld, StX.tMakeR, tRz, tCanS, sFld, start, fin0, List.getElem?_cons_zero, List.getElem?_cons_succ, List.map_cons, List.map_nil, List.length_cons, List.length_nil, List.replicate, List.cons_append, List.nil_append, Nat.reduceSub, Nat.reduceAdd, List.set_cons_zero, List.set_cons_succ]
    refine ⟨sl_ok (by rw [sOf_len, sOf_len]; omega), st, a, 3, rfl, sa2, by decide, by decide, fun r2 H3 hr2 s3 sa3 => ?_⟩
    refine ⟨by omega, by omega, by rw [sOf_len]; decide, ?_⟩
    rw [rep_sOf, sOf_add]
    refine ⟨sl_ok (by rw [sOf_len, sOf_len, List.length_append, List.length_replicate]; omega), l ++ g ++ List.replicate r2 32, _, by rw [sOf_add]; rfl, s2.trans s3, sa3, ?_, ?_⟩
    · rw [tk]
      have := (sp.app (K02.Sp.one hgv)).app (K02.Sp.blanks r2)
      simpa using this
    · simp only [List.length_append, List.length_replicate]; omega
  · rintro σ H2 ⟨l, y3, rfl, s2, sa2, sp, ll⟩
    rw [tv_len, List.take_length] at sp
    rw [tv_len] at ll
    exact q l H2 s2 sa2 sp ll
end
end L2.WB
namespace K02
theorem cntc_one (c : Nat) : cntc [c] ≤ 1 := by unfold cntc; exact Nat.le_trans List.countP_le_length (by simp)
theorem cntc_cut (l : List Nat) (i : Nat) : cntc (l.take i) + cntc (l.drop i) = cntc l := by rw [← cntc_app, List.take_append_drop]
theorem cntc_drop (l : List Nat) (i : Nat) : cntc (l.drop (i + 1)) ≤ cntc (l.drop i) := by
  have := cntc_cut (l.drop i) 1
  rw [List.drop_drop] at this
  omega
end K02
namespace L2.WB
open PySem PySem.Spec PyProof.Rows
open K02 (T isL isK isI lthen leither lagain cntc)
section
variable {K : PySem.W.Frag} {c : Ad} {H H1 : Hp} {Q : VK} {E : XK} {vs : List V} {v x : V} {t : T} {σ : St}
def spLBent : Sp := fun vs H Q _ => ∃ (st a : Addr) (l few : List Nat), vs = [.ref st, .str (sOf l), .str (sOf few)] ∧ StAt H st a ∧ l.length ≤ 10000 ∧ 1 ≤ few.length ∧ few.length ≤ 1000 ∧ ∀ l2 H2, SameBut st H H2 → StAt H2 st a → cntc l2 ≤ cntc l + 2 → l2.length ≤ l.length + 2 → Q (.str (sOf l2)) H2
theorem q__law_bent (h : spLBent vs H Q E) : t__law_bent K c spTake (fin0 Q) (start N__law_bent vs) H := by
  obtain ⟨st, a, l, few, rfl, sa, hl, hf1, hf2, q⟩ := h
  show t__law_bent K c spTake (fin0 Q) [some (.ref st), some (.str (sOf l)), some (.str (sOf few)), none, none, none, none, none] H
  unfold t__law_bent
  obtain ⟨odd, ho1, ho2, hoe⟩ : ∃ odd : List Nat, 1 ≤ odd.length ∧ odd.length ≤ 200 ∧ sOf [33, 34, 35, 36, 38, 43, 44, 45, 46, 47, 50, 51, 52, 53, 54, 55, 56, 57, 58, 59, 60, 61, 62, 64, 91, 93, 94, 95, 123, 124, 125, 126, 10, 92] ++ sOf [97, 98, 99, 100, 101, 102, 103, 104, 105, 106, 107, 108, 109, 110, 111, 112, 113, 114, 115, 116, 117, 118, 119, 120, 121, 122, 65, 66, 67, 68, 69, 70, 71, 72, 73, 74, 75, 76, 77, 78, 79, 80, 81, 82, 83, 84, 85, 86, 87, 88, 89, 90] = sOf odd := ⟨_, (by decide), (by decide), sOf_add _ _⟩
  refine ⟨sl_ok (by rw [sOf_len, sOf_len]; decide), ?_⟩
  rw [hoe]
  dsimp only [gName, List.set_cons_zero, List.set_cons_succ]
  refine ⟨st, a, 2, rfl, sa, by decide, by decide, fun r H1 hr s1 sa1 => ?_⟩
  refine ⟨((1 + r : Nat) : Int), by simp, by omega, by omega, for_range (lo := 0) (n := 1 + r) (fun i σ H2 => ∃ l2 y4 y5 y6 y7, σ = [some (.ref st), some (.str (sOf l2)), some (.str (sOf few)), some (.str (sOf odd)), y4, y5, y6, y7] ∧ SameBut st H H2 ∧ StAt H2 st a ∧ cntc l2 ≤ cntc l + i ∧ l2.length ≤ l.length + i) ⟨l, _, _, _, _, rfl, s1, sa1, by omega, by omega⟩ ?_ ?_⟩
  · rintro i σ H2 hi ⟨l2, y4, y5, y6, y7, rfl, s2, sa2, h1, h2⟩
    refine ⟨st, a, 3, rfl, sa2, by decide, by decide, fun act H3 hact s3 sa3 => ?_⟩
    dsimp only [gName, List.set_cons_zero, List.set_cons_succ]
    have hll : (sOf l2).length = l2.length := sOf_len l2
    refine ⟨sl_ok (by omega), ?_⟩
    refine ⟨st, a, l2.length + 1, by rw [hll]; rfl, sa3, by omega, by omega, fun at_ H4 hat s4 sa4 => ?_⟩
    dsimp only [gName, List.set_cons_zero, List.set_cons_succ]
    refine ⟨sl_ok (by rw [sOf_len]; omega), ?_⟩
    refine ⟨st, a, few.length, by rw [sOf_len], sa4, by omega, by omega, fun f1 H5 hf s5 sa5 => ?_⟩
    refine ix_txt (a := f1) (by omega) rfl (List.getElem?_eq_getElem hf) ?_
    dsimp only [gName, List.set_cons_zero, List.set_cons_succ]
    have fin : ∀ {H6 : Hp} {ch : Nat} {D : Ends}, SameBut st H H6 → StAt H6 st a → (∀ l3 y4 y5 y6 y7, cntc l3 ≤ cntc l + (i + 1) → l3.length ≤ l.length + (i + 1) → D.nx [some (.ref st), some (.str (sOf l3)), some (.str (sOf few)), some (.str (sOf odd)), y4, y5, y6, y7] H6) → ((tIfS (uB (tOp (uEq K) (uV 5) (tC (.int 0)))) (tAsg (tOp (uAdd K) (tOp (uAdd K) (tSl (uSl K) (uV 1) tNoPart (tPart (uV 6))) (uV 7)) (tSl (uSl K) (uV 1) (tPart (uV 6)) tNoPart)) (gName 1)) (tIfS (uB (tOp (uEq K) (uV 5) (tC (.int 1)))) (tAsg (tOp (uAdd K) (tOp (uAdd K) (tSl (uSl K) (uV 1) tNoPart (tPart (uV 6))) (uV 7)) (tSl (uSl K) (uV 1) (tPart (tOp (uAdd K) (uV 6) (tC (.int 1)))) tNoPart)) (gName 1)) (tAsg (tOp (uAdd K) (tSl (uSl K) (uV 1) tNoPart (tPart (uV 6))) (tSl (uSl K) (uV 1) (tPart (tOp (uAdd K) (uV 6) (tC (.int 1)))) tNoPart)) (gName 1))))) D [some (.ref st), some (.str (sOf l2)), some (.str (sOf few)), some (.str (sOf odd)), some (.int (0 + (i : Nat))), some (.int (act : Nat)), some (.int (at_ : Nat)), some (.str (sOf [ch]))] H6 := fun {H6 ch D} s6 sa6 hD => by
      have c1 := K02.cntc_one ch
      have c2 := K02.cntc_cut l2 at_
      have c3 := K02.cntc_drop l2 at_
      have t1 : (l2.take at_).length ≤ l2.length := by rw [List.length_take]; omega
      have t2 : (l2.take at_).length + (l2.drop at_).length = l2.length := by rw [← List.length_append, List.take_append_drop]
      have t3 : (l2.drop (at_ + 1)).length ≤ (l2.drop at_).length := by rw [List.length_drop, List.length_drop]; omega
      have r1 := hD (l2.take at_ ++ [ch] ++ l2.drop at_) (some (.int (0 + (i : Nat)))) (some (.int (act : Nat))) (some (.int (at_ : Nat))) (some (.str (sOf [ch]))) (by rw [K02.cntc_app, K02.cntc_app]; omega) (by simp only [List.length_append, List.length_singleton]; omega)
      have r2 := hD (l2.take at_ ++ [ch] ++ l2.drop (at_ + 1)) (some (.int (0 + (i : Nat)))) (some (.int (act : Nat))) (some (.int (at_ : Nat))) (some (.str (sOf [ch]))) (by rw [K02.cntc_app, K02.cntc_app]; omega) (by simp only [List.length_append, List.length_singleton]; omega)
      have r3 := hD (l2.take at_ ++ l2.drop (at_ + 1)) (some (.int (0 + (i : Nat)))) (some (.int (act : Nat))) (some (.int (at_ : Nat))) (some (.str (sOf [ch]))) (by rw [K02.cntc_app]; omega) (by simp only [List.length_append]; omega)
      have z1 : (sOf l2).length ≤ sizeLine := sl_ok (by omega)
      dsimp only [tSeq, tAsg, tIfS, tRet, tRetN, tDrop, tNext, tOp, tUn, tCons, tNil, tTup, tLst, tC, tCB, tCan, tCanW, tAnd, tOr, tNot, tB, tIf, uB, uAndV, uOrV, uNotV, uNeg, uV, gName, gSub, tAug, ipI, tPart, tNoPart, tSl, tBM, tBM0, uLen, uAbs, uInt, uAdd, uSub, uMod, uFdiv, uMul, uCmp, uLt, uLe, uGt, uGe, tFld, StX.tMakeR, tRz, tCanS, sFld, start, fin0, List.getElem?_cons_zero, List.getElem?_cons_succ, List.map_cons, List.map_nil, List.length_cons, List.length_nil, List.replicate, List.cons_append, List.nil_append, Nat.reduceSub, Nat.reduceAdd, List.set_cons_zero, List.set_cons_succ, uEq, uSl]
      refine ifD (fun _ => ⟨_, rfl, z1, ?_⟩) fun _ => ifD (fun _ => ⟨_, rfl, z1, ?_⟩) fun _ => ⟨_, rfl, z1, ?_⟩
      · rw [cut_to, sOf_add]
        refine ⟨sl_ok (by rw [sOf_len, sOf_len]; simp only [List.length_singleton]; omega), _, rfl, z1, ?_⟩
        rw [cut_from]
        rw [sOf_add]
        exact ⟨sl_ok (by rw [sOf_len, sOf_len, List.length_append]; simp only [List.length_singleton]; omega), r1⟩
      · rw [cut_to, sOf_add]
        refine ⟨sl_ok (by rw [sOf_len, sOf_len]; simp only [List.length_singleton]; omega), _, rfl, z1, ?_⟩
        rw [show ((at_ : Int) + 1) = ((at_ + 1 : Nat) : Int) by push_cast; rfl, cut_from]
        rw [sOf_add]
        exact ⟨sl_ok (by rw [sOf_len, sOf_len, List.length_append]; simp only [List.length_singleton]; omega), r2⟩
      · rw [cut_to]
        refine ⟨_, rfl, z1, ?_⟩
        rw [show ((at_ : Int) + 1) = ((at_ + 1 : Nat) : Int) by push_cast; rfl, cut_from]
        rw [sOf_add]
        exact ⟨sl_ok (by rw [sOf_len, sOf_len]; omega), r3⟩
    refine ⟨st, a, 3, rfl, sa5, by decide, by decide, fun r3 H6 hr3 s6 sa6 => ?_⟩
    have s06 := (((s2.trans s3).trans s4).trans s5).trans s6
    dsimp only [uEq, tC]
    refine ifD (fun _ => ?_) fun _ => ?_
    · dsimp only [tSeq, tAsg, tCan, tCB, uLen, tCons, tNil, tOp, uV, tC, gName, List.getElem?_cons_zero, List.getElem?_cons_succ, List.set_cons_zero, List.set_cons_succ]
      refine ⟨sl_ok (by rw [sOf_len]; omega), st, a, odd.length, by rw [sOf_len], sa6, by omega, by omega, fun f2 H7 hf2 s7 sa7 => ?_⟩
      refine ix_txt (a := f2) (by omega) rfl (List.getElem?_eq_getElem hf2) ?_
      exact fin (s06.trans s7) sa7 fun l3 z4 z5 z6 z7 k1 k2 => ⟨l3, z4, z5, z6, z7, rfl, s06.trans s7, sa7, k1, k2⟩
    · exact fin s06 sa6 fun l3 z4 z5 z6 z7 k1 k2 => ⟨l3, z4, z5, z6, z7, rfl, s06, sa6, k1, k2⟩
  · rintro σ H2 ⟨l2, y4, y5, y6, y7, rfl, s2, sa2, h1, h2⟩
    exact q l2 H2 s2 sa2 (by omega) (by omega)
end
end L2.WB
namespace L2.WB
open PySem PySem.Spec PyProof.Rows
open K02 (T isL isK isI lthen leither lagain cntc)
section
variable {K : PySem.W.Frag} {c : Ad} {H H1 : Hp} {Q : VK} {E : XK} {vs : List V} {v x : V} {t : T} {σ : St}
theorem asked_light {l : List Nat} (h1 : l.length ≤ 20000) (h2 : cntc l ≤ 40) (q : ∀ H2, Same H H2 → Q (.bl true) H2) : spAsked [.str (sOf l), .bl false] H Q E :=
  ⟨l, false, rfl, h1, K02.mid_light (by omega), K02.ask_light h2, q⟩
theorem cntc_rep0 (n : Nat) {d : Nat} (h : K02.wc d = false) : cntc (List.replicate n d) = 0 := by
  unfold cntc
  rw [List.countP_replicate, h]
  rfl
/-- a * b brackets, a text between -/
theorem br_mul {n : Int} {m : Nat} {d : Nat} (e : n = (m : Int)) (h : m ≤ 1000) (q : Q (.str (sOf (List.replicate m d))) H) : uMul (.str (sOf [d])) (.int n) H Q := by
  rw [e]
  refine ⟨by omega, by omega, by rw [sOf_len]; exact (show 1 ≤ 15 by decide), ?_⟩
  rw [rep_sOf]
  exact q
theorem add_s {l r : List Nat} (h : l.length + r.length ≤ 100000) (q : Q (.str (sOf (l ++ r))) H) : uAdd K (.str (sOf l)) (.str (sOf r)) H Q := by
  refine ⟨sl_ok (by rw [sOf_len, sOf_len]; omega), ?_⟩
  rw [sOf_add]
  exact q
theorem add_i {i j : Int} (q : Q (.int (i + j)) H) : uAdd K (.int i) (.int j) H Q := q
def spLBr : Sp := fun vs H Q _ => ∃ (st a : Addr) (ch : Nat), vs = [.ref st, .str (sOf [ch])] ∧ isL ch = true ∧ StAt H st a ∧ ∀ H2, SameBut st H H2 → StAt H2 st a → Q (.bl true) H2
theorem q__law_brackets (h : spLBr vs H Q E) : t__law_brackets K c spTake spAsked (fin0 Q) (start N__law_brackets vs) H := by
  obtain ⟨st, a, ch, rfl, hch, sa, q⟩ := h
  show t__law_brackets K c spTake spAsked (fin0 Q) [some (.ref st), some (.str (sOf [ch])), none, none, none, none, none, none] H
  have w40 := fun n => cntc_rep0 n (d := 40) (by decide)
  have w41 := fun n => cntc_rep0 n (d := 41) (by decide)
  have w1 := K02.cntc_one ch
  unfold t__law_brackets
  refine ⟨st, a, 5, rfl, sa, by decide, by decide, fun r H1 hr s1 sa1 => ?_⟩
  dsimp only [uAdd, tC, gName, List.set_cons_zero, List.set_cons_succ]
  refine ⟨st, a, 3, rfl, sa1, by decide, by decide, fun f H2 hf s2 sa2 => ?_⟩
  have e1 : ((58 : Int) + (r : Int)) = ((58 + r : Nat) : Int) := by push_cast; rfl
  rw [e1]
  dsimp only [tSeq, tAsg, tIfS, tRet, tRetN, tDrop, tNext, tOp, tUn, tCons, tNil, tTup, tLst, tC, tCB, tCan, tCanW, tAnd, tOr, tNot, tB, tIf, uB, uAndV, uOrV, uNotV, uNeg, uV, gName, gSub, tAug, ipI, tPart, tNoPart, tSl, tBM, tBM0, uLen, uAbs, uInt, uSub, uMod, uFdiv, uCmp, uLt, uLe, uGt, uGe, tFld, StX.tMakeR, tRz, tCanS, sFld, start, fin0, List.getElem?_cons_zero, List.getElem?_cons_succ, List.map_cons, List.map_nil, List.length_cons, List.length_nil, List.replicate, List.cons_append, List.nil_append, Nat.reduceSub, Nat.reduceAdd, List.set_cons_zero, List.set_cons_succ]
  refine br_mul (m := 58 + r) rfl (by omega) (add_s (by simp; omega) (br_mul (m := 58 + r) rfl (by omega) (add_s (by simp; omega) ?_)))
  refine asked_light (by simp; omega) (by rw [K02.cntc_app, K02.cntc_app, w40, w41]; omega) fun H3 s3 => ?_
  refine br_mul (m := 58 + r) rfl (by omega) (add_s (by simp; omega) ?_)
  refine add_i ?_
  dsimp only
  refine br_mul (m := 58 + r + f - 1) (by omega) (by omega) (add_s (by simp; omega) ?_)
  refine asked_light (by simp; omega) (by rw [K02.cntc_app, K02.cntc_app, w40, w41]; omega) fun H4 s4 => ?_
  dsimp only
  refine add_s (by simp) (add_s (by simp) (add_s (by simp) (add_s (by simp) (add_s (by simp) ?_))))
  refine br_mul (m := 58 + r) rfl (by omega) (add_s (by simp; omega) (br_mul (m := 58 + r) rfl (by omega) (add_s (by simp; omega) ?_)))
  have w3 : cntc [40, 124] = 0 := by decide
  refine asked_light (by simp; omega) ?_ fun H5 s5 => ?_
  · simp only [K02.cntc_app, w40, w41]
    have a1 : cntc [40] = 0 := by decide
    have a2 : cntc [32, 124, 32] = 0 := by decide
    have a3 : cntc [39] = 0 := by decide
    have a4 : cntc [41, 42] = 1 := by decide
    omega
  dsimp only
  refine iteT (iteT (iteT ?_))
  refine br_mul (m := 60) rfl (by omega) (add_s (by simp) (br_mul (m := 60) rfl (by omega) (add_s (by simp) ?_)))
  refine asked_light (by simp) (by rw [K02.cntc_app, K02.cntc_app, w40, w41]; omega) fun H6 s6 => ?_
  have sx := ((s3.trans s4).trans s5).trans s6
  exact q H6 ((s1.trans s2).trans (Same.but sx)) (sa2.same sx)
end
end L2.WB
namespace L2.WB
open PySem PySem.Spec PyProof.Rows
open K02 (T isL isK isI lthen leither lagain cntc)
section
variable {K : PySem.W.Frag} {c : Ad} {H H1 : Hp} {Q : VK} {E : XK} {vs : List V} {v x : V} {t : T} {σ : St}
theorem asked_flat {l : List Nat} (h1 : l.length ≤ 20000) (h2 : 40 ∉ l) (q : ∀ H2, Same H H2 → Q (.bl true) H2) : spAsked [.str (sOf l), .bl false] H Q E :=
  ⟨l, false, rfl, h1, K02.mid_flat h2, K02.ask_flat h2, q⟩
theorem joinL_le {sep : List Nat} {ch : Nat} : ∀ n : Nat, (K02.joinL sep (List.replicate n [ch])).length ≤ n * (1 + sep.length)
  | 0 => by simp [K02.joinL]
  | 1 => by simp [K02.joinL, List.replicate]
  | n + 2 => by
    have ih := joinL_le (sep := sep) (ch := ch) (n + 1)
    have e : K02.joinL sep (List.replicate (n + 2) [ch]) = [ch] ++ sep ++ K02.joinL sep (List.replicate (n + 1) [ch]) := rfl
    rw [e, List.length_append, List.length_append]
    have : (n + 2) * (1 + sep.length) = (n + 1) * (1 + sep.length) + (1 + sep.length) := by rw [Nat.add_mul (n + 1) 1, Nat.one_mul]
    simp only [List.length_singleton]
    omega
theorem joinL_not {sep : List Nat} {ch d n : Nat} (h1 : d ∉ sep) (h2 : d ≠ ch) : d ∉ K02.joinL sep (List.replicate n [ch]) := fun h => by
  rcases K02.joinL_mem h with h | ⟨l, hl, h⟩
  · exact h1 h
  · rw [List.eq_of_mem_replicate hl] at h
    simp at h
    exact h2 h
theorem join_mul {to te tn : TE} {sep : List Nat} {ch n : Nat} (hto : ∀ {R : VK} {H : Hp}, R (.str (sOf sep)) H → to σ H R) (hte : ∀ {R : VK} {H : Hp}, R (.str (sOf [ch])) H → te σ H R) (htn : ∀ {R : VK} {H : Hp}, R (.int (n : Nat)) H → tn σ H R) (hn : n ≤ 5000) (hs : sep.length ≤ 100) (k : ∀ H2, Same H H2 → Q (.str (sOf (K02.joinL sep (List.replicate n [ch])))) H2) : uJoin K to (tOp uMul (tLst (tCons te tNil)) tn) σ H Q := by
  have one : 1 ≤ sizeLine := by decide +kernel
  refine hto ⟨⟨_, rfl⟩, ?_⟩
  dsimp only [tOp, tLst, tCons, tNil]
  refine hte ⟨one, fun p np => ?_⟩
  refine htn ?_
  refine ⟨[.str (sOf [ch])], upd_same, by omega, by omega, ?_, fun p2 np2 => ?_⟩
  · rw [show ((n : Nat) : Int).toNat = n from rfl]
    exact sl_ok (by simp only [List.length_singleton]; omega)
  · rw [show ((n : Nat) : Int).toNat = n from rfl]
    refine ⟨sOf sep, p2, (List.replicate n [ch]).map sOf, rfl, rfl, .inl ?_, ?_, ?_⟩
    · have e : (List.replicate n [V.str (sOf [ch])]).flatten = ((List.replicate n [ch]).map sOf).map V.str := by simp
      rw [← e]
      exact sqL upd_same
    · rw [sum_lens, List.length_map, sOf_len, List.length_replicate]
      have : ((List.replicate n [ch]).map List.length).sum = n := by simp
      rw [this]
      have := Nat.mul_le_mul hn hs
      omega
    · rw [join_sOf]
      exact k _ ((same_new np).trans (same_new np2))
theorem q__law_items (h : spLBr vs H Q E) : t__law_items K c spTake spAsked (fin0 Q) (start N__law_items vs) H := by
  obtain ⟨st, a, ch, rfl, hch, sa, q⟩ := h
  show t__law_items K c spTake spAsked (fin0 Q) [some (.ref st), some (.str (sOf [ch])), none, none, none, none] H
  have hc40 : (40 : Nat) ≠ ch := fun e => by rw [← e] at hch; revert hch; decide
  unfold t__law_items
  refine ⟨st, a, 4, rfl, sa, by decide, by decide, fun r H1 hr s1 sa1 => ?_⟩
  refine add_i ?_
  dsimp only [tC, gName, List.set_cons_zero, List.set_cons_succ]
  have e1 : ((1999 : Int) + (r : Int)) = ((1999 + r : Nat) : Int) := by push_cast; rfl
  rw [e1]
  refine ⟨by decide +kernel, fun l1 n1 => ?_⟩
  have sn := same_new (o := .lst [.str (sOf [32]), .str (sOf [32, 124, 32]), .str (sOf []), .str (sOf [124]), .str (sOf [32, 49, 32])]) n1
  have dl : l1 ≠ st := (sa1.new n1).1
  refine ⟨st, a, 5, rfl, sa1.same sn, by decide, by decide, fun j H2 hj s2 sa2 => ?_⟩
  obtain ⟨sep, hs1, hs2, hs3⟩ : ∃ sep : List Nat, atI [V.str (sOf [32]), .str (sOf [32, 124, 32]), .str (sOf []), .str (sOf [124]), .str (sOf [32, 49, 32])] (j : Nat) = some (.str (sOf sep)) ∧ 40 ∉ sep ∧ sep.length ≤ 3 := by
    have : j = 0 ∨ j = 1 ∨ j = 2 ∨ j = 3 ∨ j = 4 := by omega
    rcases this with rfl | rfl | rfl | rfl | rfl
    · exact ⟨_, rfl, by decide, by decide⟩
    · exact ⟨_, rfl, by decide, by decide⟩
    · exact ⟨_, rfl, by decide, by decide⟩
    · exact ⟨_, rfl, by decide, by decide⟩
    · exact ⟨_, rfl, by decide, by decide⟩
  refine ix_lst (s2 _ _ dl upd_same) hs1 ?_
  have s02 := (s1.trans (Same.but sn)).trans s2
  dsimp only [gName, List.set_cons_zero, List.set_cons_succ]
  dsimp only [tSeq, tAsg, tIfS, tRet, tRetN, tDrop, tNext, tOp, tUn, tCons, tNil, tTup, tLst, tC, tCB, tCan, tCanW, tAnd, tOr, tNot, tB, tIf, uB, uAndV, uOrV, uNotV, uNeg, uV, gName, gSub, tAug, ipI, tPart, tNoPart, tSl, tBM, tBM0, uLen, uAbs, uInt, uSub, uMod, uFdiv, uCmp, uLt, uLe, uGt, uGe, tFld, StX.tMakeR, tRz, tCanS, sFld, start, fin0, List.getElem?_cons_zero, List.getElem?_cons_succ, List.map_cons, List.map_nil, List.length_cons, List.length_nil, List.replicate, List.cons_append, List.nil_append, Nat.reduceSub, Nat.reduceAdd, List.set_cons_zero, List.set_cons_succ]
  refine add_s (by simp) (add_s (by simp) ⟨(show 8 ≤ sizeLine by decide +kernel), fun l2 n2 => ?_⟩)
  generalize hends : [V.str (sOf []), V.str (sOf [32, 48]), V.str (sOf [42]), V.str (sOf ([32, 124, 32] ++ [ch] ++ [39])), V.str (sOf [32, 124]), V.str (sOf [41]), V.str (sOf [63]), V.str (sOf [10])] = ends
  have sn2 := same_new (o := .lst ends) n2
  have dl2 : l2 ≠ st := (sa2.new n2).1
  have j1 := joinL_le (sep := sep) (ch := ch) (1999 + r)
  have j2 : (1999 + r) * (1 + sep.length) ≤ 2002 * 4 := Nat.mul_le_mul (by omega) (by omega)
  have j3 := joinL_not (d := 40) (n := 1999 + r) hs2 hc40
  refine join_mul (sep := sep) (ch := ch) (n := 1999 + r) (fun h => h) (fun h => h) (fun h => h) (by omega) (by omega) fun H3 s3 => ?_
  generalize K02.joinL sep (List.replicate (1999 + r) [ch]) = tx at *
  have sa3 := (sa2.same sn2).same s3
  refine asked_flat (by omega) j3 fun H4 s4 => ?_
  dsimp only
  refine iteF ?_
  have sa4 := sa3.same s4
  refine ⟨st, a, 8, rfl, sa4, by decide, by decide, fun e He he s5 sa5 => ?_⟩
  obtain ⟨en, k1, k2, k3⟩ : ∃ en : List Nat, atI ends (e : Nat) = some (.str (sOf en)) ∧ 40 ∉ en ∧ en.length ≤ 10 := by
    subst hends
    have : e = 0 ∨ e = 1 ∨ e = 2 ∨ e = 3 ∨ e = 4 ∨ e = 5 ∨ e = 6 ∨ e = 7 := by omega
    rcases this with rfl | rfl | rfl | rfl | rfl | rfl | rfl | rfl
    · exact ⟨_, rfl, by decide, by decide⟩
    · exact ⟨_, rfl, by decide, by decide⟩
    · exact ⟨_, rfl, by decide, by decide⟩
    · exact ⟨_, rfl, by simp [hc40], by simp⟩
    · exact ⟨_, rfl, by decide, by decide⟩
    · exact ⟨_, rfl, by decide, by decide⟩
    · exact ⟨_, rfl, by decide, by decide⟩
    · exact ⟨_, rfl, by decide, by decide⟩
  refine ix_lst (s5 _ _ dl2 (s4 _ _ (s3 _ _ upd_same))) k1 (add_s (by omega) ?_)
  refine asked_flat (by rw [List.length_append]; omega) (by rw [List.mem_append]; exact fun h => h.elim j3 k2) fun H6 s6 => ?_
  dsimp only
  refine iteF (add_s (by simp; omega) ?_)
  refine asked_flat (by rw [List.length_append]; simp only [List.length_cons, List.length_nil]; omega) (by rw [List.mem_append]; exact fun h => h.elim (by decide) j3) fun H7 s7 => ?_
  exact q H7 ((s02.trans (Same.but ((sn2.trans s3).trans s4))).trans (s5.trans (Same.but (s6.trans s7)))) (sa5.same (s6.trans s7))
end
end L2.WB
namespace L2.WB
open PySem PySem.Spec PyProof.Rows
open K02 (T isL isK isI lthen leither lagain cntc Fam)
def okw (t : T) (w : Nat) : Bool := match w with
  | 0 => !decide (hdc t = [110])
  | 1 => !decide (hdc t = [111])
  | _ => !decide (hdc t = [109])
def wys (t : T) : List Nat := [0, 1, 2].filter (okw t)
theorem wys_len (t : T) : 1 ≤ (wys t).length := by cases t <;> simp [wys, okw, hdc]
theorem wys_ok {t : T} {j w : Nat} (h : (wys t)[j]? = some w) : (w = 0 ∧ t.isN = false) ∨ (w = 1 ∧ t.isO = false) ∨ (w = 2 ∧ t.isM = false) := by
  have := List.mem_of_getElem? h
  unfold wys at this
  rw [List.mem_filter] at this
  obtain ⟨h1, h2⟩ := this
  simp only [List.mem_cons, List.not_mem_nil, or_false] at h1
  rcases h1 with rfl | rfl | rfl
  · left; cases t <;> simp [okw, hdc, T.isN] at h2 ⊢
  · right; left; cases t <;> simp [okw, hdc, T.isO] at h2 ⊢
  · right; right; cases t <;> simp [okw, hdc, T.isM] at h2 ⊢
section
variable {K : PySem.W.Frag} {c : Ad} {H H1 : Hp} {Q : VK} {E : XK} {vs : List V} {v x : V} {t : T} {σ : St}
theorem lc_ways {y0 y1 y2 y4 y5 y6 y7 y8 y9 : Option V} (lt : LT H v t) (hd : ∀ D H2, Same H H2 → H2 D = some (.lst ((wys t).map fun w => V.int (w : Nat))) → Q (.ref D) H2) : ((tLc (iList K (tLst (tCons (tC (.int 0)) (tCons (tC (.int 1)) (tCons (tC (.int 2)) tNil))))) (gName 9) (uB (tOp (uNe K) (tOp (uIx K) (uV 3) (tC (.int 0))) (tOp (uIx K) (tC (.str (sOf [110, 111, 109]))) (uV 9)))) (uV 9) [9])) [y0, y1, y2, some v, y4, y5, y6, y7, y8, y9] H Q := by
  refine ⟨(show 3 ≤ sizeLine by decide +kernel), fun l nl => ?_⟩
  have sl := same_new (o := .lst [.int 0, .int 1, .int 2]) nl
  refine ⟨l, rfl, ⟨_, sqL upd_same⟩, fun D nD => ?_⟩
  refine lc_list (K := K) (a := l) (xs := [.int 0, .int 1, .int 2]) (fun n H1 => Same (upd H l (.lst [.int 0, .int 1, .int 2])) H1 ∧ H1 D = some (.lst ((([0, 1, 2] : List Nat).take n).filter (okw t) |>.map fun w => V.int (w : Nat)))) ⟨same_new nD, upd_same⟩ (fun n H1 _ h => sqL (h.1 _ _ upd_same)) ?_ ?_
  · intro n z H1 hz ⟨s1, eD⟩
    refine ⟨rfl, ?_⟩
    have lt1 := lt.keep ((Same.kp sl).trans (Same.kp s1))
    have grow : ∀ (acc : List V), Same (upd H l (.lst [.int 0, .int 1, .int 2])) (upd H1 D (.lst acc)) := fun acc b o hb => by
      rw [upd_ne (ne_of_none hb nD)]
      exact s1 b o hb
    match n, hz with
    | 0, hz =>
      cases hz
      dsimp only [uB, tB, tOp, uV, tC, wipe, List.getElem?_cons_zero, List.getElem?_cons_succ, List.set_cons_zero, List.set_cons_succ]
      refine ix_hd lt1 (ix_txt (l := [110, 111, 109]) (a := 0) (d := 110) (by decide) rfl rfl ?_)
      dsimp only [uNe]
      rw [dec_sOf]
      refine ifB (fun e => ?_) fun e => ?_
      · refine ⟨_, eD, ?_, grow _, ?_⟩
        · refine Nat.lt_of_le_of_lt (m := 3) ?_ (by decide +kernel)
          rw [List.length_map]
          exact Nat.le_trans (List.length_filter_le _ _) (by simp)
        · rw [upd_same]
          have e2 : okw t 0 = true := e
          simp [List.take, List.filter, e2]
      · refine ⟨s1, ?_⟩
        have e2 : okw t 0 = false := e
        rw [eD]
        simp [List.take, List.filter, e2]
    | 1, hz =>
      cases hz
      dsimp only [uB, tB, tOp, uV, tC, wipe, List.getElem?_cons_zero, List.getElem?_cons_succ, List.set_cons_zero, List.set_cons_succ]
      refine ix_hd lt1 (ix_txt (l := [110, 111, 109]) (a := 1) (d := 111) (by decide) rfl rfl ?_)
      dsimp only [uNe]
      rw [dec_sOf]
      refine ifB (fun e => ?_) fun e => ?_
      · refine ⟨_, eD, ?_, grow _, ?_⟩
        · refine Nat.lt_of_le_of_lt (m := 3) ?_ (by decide +kernel)
          rw [List.length_map]
          exact Nat.le_trans (List.length_filter_le _ _) (by simp)
        · rw [upd_same]
          have e2 : okw t 1 = true := e
          simp [List.take, List.filter, e2] ; split <;> simp
      · refine ⟨s1, ?_⟩
        have e2 : okw t 1 = false := e
        rw [eD]
        simp [List.take, List.filter, e2]
    | 2, hz =>
      cases hz
      dsimp only [uB, tB, tOp, uV, tC, wipe, List.getElem?_cons_zero, List.getElem?_cons_succ, List.set_cons_zero, List.set_cons_succ]
      refine ix_hd lt1 (ix_txt (l := [110, 111, 109]) (a := 2) (d := 109) (by decide) rfl rfl ?_)
      dsimp only [uNe]
      rw [dec_sOf]
      refine ifB (fun e => ?_) fun e => ?_
      · refine ⟨_, eD, ?_, grow _, ?_⟩
        · refine Nat.lt_of_le_of_lt (m := 3) ?_ (by decide +kernel)
          rw [List.length_map]
          exact Nat.le_trans (List.length_filter_le _ _) (by simp)
        · rw [upd_same]
          have e2 : okw t 2 = true := e
          simp [List.take, List.filter, e2] ; split <;> split <;> simp
      · refine ⟨s1, ?_⟩
        have e2 : okw t 2 = false := e
        rw [eD]
        simp [List.take, List.filter, e2]
  · rintro H1 ⟨s1, eD⟩
    exact hd D H1 (sl.trans s1) eD
theorem q__law_deep (h : spLBr vs H Q E) : t__law_deep K c spTake spLAgain (spLSeq leither) (spLSeq lthen) (spLDepth 45) (spLText 45) spAsked (fin0 Q) (start N__law_deep vs) H := by
  obtain ⟨st, a, ch, rfl, hch, sa, q⟩ := h
  show t__law_deep K c spTake spLAgain (spLSeq leither) (spLSeq lthen) (spLDepth 45) (spLText 45) spAsked (fin0 Q) [some (.ref st), some (.str (sOf [ch])), none, none, none, none, none, none, none, none] H
  unfold t__law_deep
  refine ⟨st, a, 3, rfl, sa, by decide, by decide, fun r H1 hr s1 sa1 => ?_⟩
  refine add_i ?_
  have e1 : ((39 : Int) + (r : Int)) = ((39 + r : Nat) : Int) := by push_cast; rfl
  dsimp only [tC, gName, List.set_cons_zero, List.set_cons_succ]
  rw [e1]
  refine ⟨(show 2 ≤ sizeLine by decide +kernel), fun p1 n1 => ?_⟩
  dsimp only [gName, List.set_cons_zero, List.set_cons_succ]
  refine ⟨sl_ok (by rw [sOf_len, sOf_len]; exact (show 2 ≤ 1000000 by decide)), (show 2 ≤ sizeLine by decide +kernel), fun p2 n2 => ?_⟩
  rw [sOf_add]
  have sp1 := same_new (o := .tup [.str (sOf [105]), .str (sOf [ch])]) n1
  have sp2 := same_new (o := .tup [.str (sOf [105]), .str (sOf ([ch] ++ [39]))]) n2
  dsimp only [gName, List.set_cons_zero, List.set_cons_succ]
  have lt0 : LT (upd (upd H1 p1 (.tup [.str (sOf [105]), .str (sOf [ch])])) p2 (.tup [.str (sOf [105]), .str (sOf ([ch] ++ [39]))])) (.ref p1) (.i [ch]) := .i (get_new upd_same n2)
  have ltl : LT (upd (upd H1 p1 (.tup [.str (sOf [105]), .str (sOf [ch])])) p2 (.tup [.str (sOf [105]), .str (sOf ([ch] ++ [39]))])) (.ref p2) (.i [ch, 39]) := .i upd_same
  have sb := s1.trans (Same.but (sp1.trans sp2))
  have sa2 := sa1.same (sp1.trans sp2)
  refine ⟨((38 + r : Nat) : Int), ?_, by omega, by omega, for_range (lo := 0) (n := 38 + r) (fun i σ H2 => ∃ v t y5 y6 y7 y8 y9, σ = [some (.ref st), some (.str (sOf [ch])), some (.int ((39 + r : Nat) : Int)), some v, some (.ref p2), y5, y6, y7, y8, y9] ∧ SameBut st H H2 ∧ StAt H2 st a ∧ LT H2 v t ∧ LT H2 (.ref p2) (.i [ch, 39]) ∧ Fam ch t (i + 1)) ⟨_, _, none, none, none, none, none, rfl, sb, sa2, lt0, ltl, K02.fam0 hch⟩ ?_ ?_⟩
  · rw [show (((39 + r : Nat) : Int) - 1) = ((38 + r : Nat) : Int) by omega]
  · rintro i σ H2 hi ⟨v, t, y5, y6, y7, y8, y9, rfl, s2, sa2, lt, ll, fam⟩
    dsimp only [gName, List.set_cons_zero, List.set_cons_succ]
    dsimp only [tSeq, tAsg]
    refine lc_ways lt fun D H3 s3 eD => ?_
    dsimp only [gName, List.set_cons_zero, List.set_cons_succ]
    have sa3 := sa2.same s3
    have nD : D ≠ st := fun e => by
      obtain ⟨xs, i2, d2, _, e2, _, _⟩ := sa3
      rw [e, e2] at eD
      cases hw : wys t with
      | nil => rw [hw] at eD; cases eD
      | cons w ws => rw [hw] at eD; simp at eD
    refine ⟨st, a, 6, rfl, sa3, by decide, by decide, fun r2 H4 hr2 s4 sa4 => ?_⟩
    have eD4 := s4 _ _ nD eD
    have wl := wys_len t
    refine ⟨_, .inl (sqL eD4), ?_⟩
    rw [List.length_map]
    refine ⟨by omega, ?_⟩
    have hj : r2 % (wys t).length < (wys t).length := Nat.mod_lt _ wl
    have hw := List.getElem?_eq_getElem hj
    refine ix_lst eD4 (v := .int ((wys t)[r2 % (wys t).length] : Nat)) ?_ ?_
    · rw [← Int.natCast_emod]
      refine atI_nat ?_
      rw [List.getElem?_map, hw]
      rfl
    have ok := wys_ok hw
    generalize (wys t)[r2 % (wys t).length] = wd at ok
    have k34 := (Same.kp s3).trans (sa3.kp s4)
    have lt4 := lt.keep k34
    have ll4 := ll.keep k34
    have s04 := (s2.trans (Same.but s3)).trans s4
    dsimp only [gName, List.set_cons_zero, List.set_cons_succ]
    have row : LRow [t, .i [ch, 39]] := lrow_of (fun u hu => by
      simp only [List.mem_cons, List.not_mem_nil, or_false] at hu
      rcases hu with rfl | rfl
      · exact ⟨fam.sf, by rw [fam.depth]; omega⟩
      · exact ⟨K02.fam_leaf hch, by simp [K02.depth]⟩) (by have := fam.wt; simp only [K02.wts, K02.wt]; omega) (by simp)
    dsimp only [tSeq, tAsg, tIfS, tRet, tRetN, tDrop, tNext, tOp, tUn, tCons, tNil, tTup, tLst, tC, tCB, tCan, tCanW, tAnd, tOr, tNot, tB, tIf, uB, uAndV, uOrV, uNotV, uNeg, uV, gName, gSub, tAug, ipI, tPart, tNoPart, tSl, tBM, tBM0, uLen, uAbs, uInt, uSub, uMod, uFdiv, uCmp, uLt, uLe, uGt, uGe, tFld, StX.tMakeR, tRz, tCanS, sFld, start, fin0, List.getElem?_cons_zero, List.getElem?_cons_succ, List.map_cons, List.map_nil, List.length_cons, List.length_nil, List.replicate, List.cons_append, List.nil_append, Nat.reduceSub, Nat.reduceAdd, List.set_cons_zero, List.set_cons_succ]
    refine ⟨(show 2 ≤ sizeLine by decide +kernel), fun pa na => ?_⟩
    have sa_ := same_new (o := .lst [v, .ref p2]) na
    refine ⟨pa, [v, .ref p2], [t, .i [ch, 39]], rfl, upd_same, (LTs.cons lt4 (.cons ll4 .nil)).keep (Same.kp sa_), row, fun v5 H5 s5 l5 => ?_⟩
    have s45 := sa_.trans s5
    refine ⟨(show 2 ≤ sizeLine by decide +kernel), fun pb nb => ?_⟩
    have sb_ := same_new (o := .lst [v, .ref p2]) nb
    refine ⟨pb, [v, .ref p2], [t, .i [ch, 39]], rfl, upd_same, (LTs.cons lt4 (.cons ll4 .nil)).keep ((Same.kp s45).trans (Same.kp sb_)), row, fun v6 H6 s6 l6 => ?_⟩
    have s46 := s45.trans (sb_.trans s6)
    refine ⟨v, t, rfl, lt4.keep (Same.kp s46), fun v7 H7 s7 l7 => ?_⟩
    refine ⟨(show 3 ≤ sizeLine by decide +kernel), fun pc nc => ?_⟩
    have sc_ := same_new (o := .lst [v5, v6, v7]) nc
    have s47 := s46.trans (s7.trans sc_)
    have m5 := l5.keep ((Same.kp (sb_.trans s6)).trans (Same.kp (s7.trans sc_)))
    have m6 := l6.keep (Same.kp (s7.trans sc_))
    have m7 := l7.keep (Same.kp sc_)
    have mm := ll4.keep (Same.kp s47)
    have sb4 := s04.trans (Same.but s47)
    have sa5 := sa4.same s47
    rcases ok with ⟨rfl, hn⟩ | ⟨rfl, hn⟩ | ⟨rfl, hn⟩
    · exact ix_lst upd_same (atI_nat (xs := [v5, v6, v7]) (j := 0) rfl) ⟨_, _, _, _, _, _, _, rfl, sb4, sa5, m5, mm, K02.fam_then hch fam hn⟩
    · exact ix_lst upd_same (atI_nat (xs := [v5, v6, v7]) (j := 1) rfl) ⟨_, _, _, _, _, _, _, rfl, sb4, sa5, m6, mm, K02.fam_either hch fam hn⟩
    · exact ix_lst upd_same (atI_nat (xs := [v5, v6, v7]) (j := 2) rfl) ⟨_, _, _, _, _, _, _, rfl, sb4, sa5, m7, mm, K02.fam_again fam hn⟩
  · rintro σ H2 ⟨v, t, y5, y6, y7, y8, y9, rfl, s2, sa2, lt, ll, fam⟩
    have fd := fam.depth
    have fw := fam.wt
    have ok : Ok t := ⟨fam.sf, by omega⟩
    have tl := K02.text_le fam.sf
    refine ⟨v, t, rfl, lt, by omega, fam.sf, by omega, fun H3 s3 => ?_⟩
    dsimp only [uNe, uV, List.getElem?_cons_zero, List.getElem?_cons_succ]
    refine ifF (by rw [fd]; simp; omega) ?_
    refine ⟨v, t, rfl, lt.keep (Same.kp s3), by omega, ok, fun H4 s4 => ?_⟩
    dsimp only [gName, List.set_cons_zero, List.set_cons_succ]
    dsimp only [tSeq, tAsg]
    refine join_mul (sep := [32]) (ch := ch) (n := 2000) (fun h => h) (fun h => h) (fun h => h) (by omega) (by simp) fun H5 s5 => ?_
    have jl := joinL_le (sep := [32]) (ch := ch) 2000
    have jl : (K02.joinL [32] (List.replicate 2000 [ch])).length ≤ 4000 := by simpa using jl
    have ao := K02.ask_over hch fam.sf (by omega) fam.size
    have am := K02.ask_over_mark hch fam.sf (by omega)
    have mo := K02.mid_over hch fam.sf (by omega)
    have mm := K02.mid_over_mark hch fam.sf (by omega)
    have ac := K02.ask_close fam.sf (by omega)
    have mc := K02.mid_close fam.sf (by omega)
    have ad := K02.ask_deep fam.sf (by omega)
    have md := K02.mid_deep fam.sf (by omega)
    have a0 := K02.ask_deep0 fam.sf (by omega)
    have m0 := K02.mid_deep0 fam.sf (by omega)
    generalize K02.joinL [32] (List.replicate 2000 [ch]) = jt at *
    generalize hx : K02.text t = tx at *
    have dd : decide ((40 : Int) < ((39 + r : Nat) : Int)) = decide (40 < K02.depth t) := by
      rw [Bool.eq_iff_iff, decide_eq_true_eq, decide_eq_true_eq]; omega
    have b1 : tx ++ [32, 124, 32] ++ jt = tx ++ [32] ++ [124] ++ [32] ++ jt := by simp
    have b2 : [40] ++ tx ++ [41, 32, 48] = 40 :: tx ++ [41] ++ [32] ++ [48] := by simp
    rw [← b1] at ao am mo mm
    rw [← b2] at a0 m0
    dsimp only [tSeq, tAsg, tIfS, tRet, tRetN, tDrop, tNext, tOp, tUn, tCons, tNil, tTup, tLst, tC, tCB, tCan, tCanW, tAnd, tOr, tNot, tB, tIf, uB, uAndV, uOrV, uNotV, uNeg, uV, gName, gSub, tAug, ipI, tPart, tNoPart, tSl, tBM, tBM0, uLen, uAbs, uInt, uSub, uMod, uFdiv, uCmp, uLt, uLe, uGt, uGe, tFld, StX.tMakeR, tRz, tCanS, sFld, start, fin0, List.getElem?_cons_zero, List.getElem?_cons_succ, List.map_cons, List.map_nil, List.length_cons, List.length_nil, List.replicate, List.cons_append, List.nil_append, Nat.reduceSub, Nat.reduceAdd, List.set_cons_zero, List.set_cons_succ]
    rw [dd]
    refine ⟨tx, _, rfl, by omega, md, ad, fun H6 s6 => ?_⟩
    dsimp only
    refine iteF (add_s (by simp; omega) (add_s (by simp; omega) ?_))
    refine ⟨_, _, rfl, by simp; omega, m0, a0, fun H7 s7 => ?_⟩
    dsimp only
    refine iteF (add_s (by simp; omega) (add_s (by simp; omega) ?_))
    refine ⟨_, _, rfl, by simp; omega, mo, ao, fun H8 s8 => ?_⟩
    dsimp only
    refine iteF (add_s (by simp; omega) ?_)
    refine ⟨_, _, rfl, by simp; omega, mc, ac, fun H9 s9 => ?_⟩
    dsimp only
    refine iteF (add_s (by simp; omega) (add_s (by simp; omega) (add_s (by simp; omega) ?_)))
    refine ⟨_, _, rfl, by simp; omega, mm, am, fun H10 s10 => ?_⟩
    have sz := ((((((s3.trans s4).trans s5).trans s6).trans s7).trans s8).trans s9).trans s10
    exact q H10 (s2.trans (Same.but sz)) (sa2.same sz)
end
end L2.WB
namespace L2.WB
open PySem PySem.Spec PyProof.Rows
open K02 (cntc)
theorem ten_all {l l2 l3 : List Nat} (h1 : l.length ≤ 1000) (h2 : l2.length ≤ 2000) (h3 : l3.length ≤ 2000) (c1 : cntc l ≤ 35) (c2 : cntc l2 ≤ 40) (c3 : cntc l3 ≤ 40) : ∀ z ∈ [l, l2, l3, [], l ++ [41], [40] ++ l, l ++ [32, 124], l ++ [10], l ++ [32, 63], [42] ++ l], z.length ≤ 20000 ∧ cntc z ≤ 40 := by
  have w : ∀ a b : List Nat, cntc (a ++ b) = cntc a + cntc b := K02.cntc_app
  have k1 : cntc [41] = 0 := by decide
  have k2 : cntc [40] = 0 := by decide
  have k3 : cntc [32, 124] = 0 := by decide
  have k4 : cntc [10] = 0 := by decide
  have k5 : cntc [32, 63] = 0 := by decide
  have k6 : cntc [42] = 1 := by decide
  have k7 : cntc [] = 0 := by decide
  intro z hz
  simp only [List.mem_cons, List.not_mem_nil, or_false] at hz
  rcases hz with e | e | e | e | e | e | e | e | e | e <;> subst e <;> (constructor <;> (try simp only [w, k1, k2, k3, k4, k5, k6, k7, List.length_append, List.length_cons, List.length_nil]) <;> omega)
end L2.WB
namespace L2.WB
open PySem PySem.Spec PyProof.Rows
open K02 (T isL isK isI lthen leither lagain cntc Fam Raw lvs ino SgOk)
section
variable {K : PySem.W.Frag} {c : Ad} {H H1 : Hp} {Q : VK} {E : XK} {vs : List V} {v x : V} {t : T} {σ : St}
theorem cut_mem {xs : List V} {z : V} {lo hi : Option Int} (h : z ∈ cutV xs lo hi) : z ∈ xs := by
  unfold cutV at h
  exact List.mem_of_mem_drop (List.mem_of_mem_take h)
abbrev sL (sc st : Addr) (mode s ch : Nat) (few : List Nat) (v : V) (l : List Nat) (y8 y9 y10 y11 : Option V) : St := [some (.ref sc), some (.ref st), some (.int (mode : Nat)), some (.int (s : Nat)), some (.str (sOf [ch])), some (.str (sOf few)), some v, some (.str (sOf l)), y8, y9, y10, y11]
theorem law_ten {sc st a : Addr} {mode s ch : Nat} {few l l2 l3 : List Nat} {y9 y11 : Option V} {D : Ends} {H6 : Hp} (sa6 : StAt H6 st a) (b0 : l.length ≤ 1000) (b1 : l2.length ≤ 2000) (b2 : l3.length ≤ 2000) (b5 : cntc l ≤ 35) (b3 : cntc l2 ≤ 40) (b4 : cntc l3 ≤ 40)
    (m1 : ∀ {H7 : Hp} {y11 : Option V}, StAt H7 st a → D.nx (sL sc st mode s ch few v l (some (.str (sOf l3))) y9 (some (.str (sOf l2))) y11) H7) : ((tFor (iList K (tLst (tCons (uV 7) (tCons (uV 10) (tCons (uV 8) (tCons (tC (.str (sOf []))) (tCons (tOp (uAdd K) (uV 7) (tC (.str (sOf [41])))) (tCons (tOp (uAdd K) (tC (.str (sOf [40]))) (uV 7)) (tCons (tOp (uAdd K) (uV 7) (tC (.str (sOf [32, 124])))) (tCons (tOp (uAdd K) (uV 7) (tC (.str (sOf [10])))) (tCons (tOp (uAdd K) (uV 7) (tC (.str (sOf [32, 63])))) (tCons (tOp (uAdd K) (tC (.str (sOf [42]))) (uV 7)) tNil)))))))))))) (gName 11) (tIfS (tNot (uB (tCan spAsked E0 (tCons (uV 11) (tCons (tC (.bl false)) tNil))))) (tRet (tC (.bl false))) tNext))) D (sL sc st mode s ch few v l (some (.str (sOf l3))) y9 (some (.str (sOf l2))) y11) H6 := by
  unfold tFor iList
  dsimp only [tLst, tCons, tNil, tOp, uV, tC, List.getElem?_cons_zero, List.getElem?_cons_succ]
  have f : ∀ {x y : List Nat} , x.length ≤ 2000 → y.length ≤ 2000 → x.length + y.length ≤ 100000 := fun h h2 => by omega
  refine add_s (f (by omega) (by decide)) ?_
  refine add_s (f (by decide) (by omega)) ?_
  refine add_s (f (by omega) (by decide)) ?_
  refine add_s (f (by omega) (by decide)) ?_
  refine add_s (f (by omega) (by decide)) ?_
  refine add_s (f (by decide) (by omega)) ?_
  refine ⟨(show 10 ≤ sizeLine by decide +kernel), fun p6 n6 => ?_⟩
  have hall := ten_all b0 b1 b2 b5 b3 b4
  generalize hx6 : [l, l2, l3, [], l ++ [41], [40] ++ l, l ++ [32, 124], l ++ [10], l ++ [32, 63], [42] ++ l] = xs6 at hall
  have etv : [V.str (sOf l), .str (sOf l2), .str (sOf l3), .str (sOf []), .str (sOf (l ++ [41])), .str (sOf ([40] ++ l)), .str (sOf (l ++ [32, 124])), .str (sOf (l ++ [10])), .str (sOf (l ++ [32, 63])), .str (sOf ([42] ++ l))] = tv xs6 := by rw [← hx6]; rfl
  rw [etv]
  have s6 := same_new (o := .lst (tv xs6)) n6
  have e6 : upd H6 p6 (.lst (tv xs6)) p6 = some (.lst (tv xs6)) := upd_same
  clear etv hx6 f
  refine ⟨p6, rfl, ⟨_, sqL e6⟩, for_list (K := K) (a := p6) (xs := tv xs6) (fun i σ H7 => ∃ y11, σ = sL sc st mode s ch few v l (some (.str (sOf l3))) y9 (some (.str (sOf l2))) y11 ∧ Same (upd H6 p6 (.lst (tv xs6))) H7) ⟨_, rfl, Same.refl _⟩ (fun i σ H7 _ ⟨_, _, s7⟩ => sqL (s7 _ _ e6)) ?_ ?_⟩
  · rintro i z σ H7 hz ⟨y11, rfl, s7⟩
    obtain ⟨g, hg, rfl⟩ : ∃ g, xs6[i]? = some g ∧ z = .str (sOf g) := by
      unfold tv at hz
      rw [List.getElem?_map] at hz
      cases e : xs6[i]? with
      | none => rw [e] at hz; cases hz
      | some g => rw [e] at hz; exact ⟨g, rfl, (Option.some.inj hz).symm⟩
    obtain ⟨q1, q2⟩ := hall g (List.mem_of_getElem? hg)
    dsimp only [tSeq, tAsg, tIfS, tRet, tRetN, tDrop, tNext, tOp, tUn, tCons, tNil, tTup, tLst, tC, tCB, tCan, tCanW, tAnd, tOr, tNot, tB, tIf, uB, uAndV, uOrV, uNotV, uNeg, uV, gName, gSub, tAug, ipI, tPart, tNoPart, tSl, tBM, tBM0, uLen, uAbs, uInt, uAdd, uSub, uMod, uFdiv, uMul, uCmp, uLt, uLe, uGt, uGe, tFld, StX.tMakeR, tRz, tCanS, sFld, start, fin0, List.getElem?_cons_zero, List.getElem?_cons_succ, List.map_cons, List.map_nil, List.length_cons, List.length_nil, List.replicate, List.cons_append, List.nil_append, Nat.reduceSub, Nat.reduceAdd, List.set_cons_zero, List.set_cons_succ]
    refine asked_light q1 q2 fun H8 s8 => ?_
    exact iteF ⟨_, rfl, s7.trans s8⟩
  · rintro σ H7 ⟨y11, rfl, s7⟩
    exact m1 (sa6.same (s6.trans s7))
end
end L2.WB
namespace L2.WB
open PySem PySem.Spec PyProof.Rows
open K02 (T isL isK isI lthen leither lagain cntc Fam Raw lvs ino SgOk)
section
variable {K : PySem.W.Frag} {c : Ad} {H H1 : Hp} {Q : VK} {E : XK} {vs : List V} {v x : V} {t : T} {σ : St}
def spLaw : Sp := fun vs H Q _ => ∃ (sc : Addr) (xs : List V), vs = [.ref sc] ∧ SqL (K := K) H sc xs ∧ (∀ z ∈ xs, ∃ n : Int, z = .int n) ∧ ∀ H2, Q (.bl true) H2
theorem seq_run {t u : TS} {D : Ends} {σ : St} {H : Hp} (h : t { D with nx := u D } σ H) : tSeq t u D σ H := h
theorem q_law (h : spLaw (K := K) vs H Q E) : t_law K c spTake spLRaw spLSpaced (spLSigns 24) spLBent spAsked spLBr spLBr spLBr spTold (spLText 45) spLRead (fin0 Q) (start N_law vs) H := by
  obtain ⟨sc, xs, rfl, hsc, hxs, q⟩ := h
  show t_law K c spTake spLRaw spLSpaced (spLSigns 24) spLBent spAsked spLBr spLBr spLBr spTold (spLText 45) spLRead (fin0 Q) [some (.ref sc), none, none, none, none, none, none, none, none, none, none, none] H
  unfold t_law
  refine ⟨63, rfl, xs, hsc, fun p0 n0 => ?_⟩
  refine ⟨_, .inl (sqL upd_same), fun a na => ⟨(show 3 ≤ sizeLine by decide +kernel), fun st nst => ?_⟩⟩
  have sa : StAt (upd (upd (upd H p0 (.lst (cutV xs none (some 63)))) a (.lst (cutV xs none (some 63)))) st (.lst [.ref a, .int 0, .int 0])) st a := by
    refine ⟨_, 0, 0, ?_, upd_same, get_new upd_same nst, fun z hz => hxs z (cut_mem hz)⟩
    exact ne_of_none upd_same nst
  generalize (upd (upd (upd H p0 (.lst (cutV xs none (some 63)))) a (.lst (cutV xs none (some 63)))) st (.lst [.ref a, .int 0, .int 0])) = Ha at *
  dsimp only [gName, List.set_cons_zero, List.set_cons_succ]
  refine ⟨st, a, 8, rfl, sa, by decide, by decide, fun mode H1 hmode s1 sa1 => ?_⟩
  dsimp only [gName, List.set_cons_zero, List.set_cons_succ]
  refine ⟨st, a, 26, rfl, sa1, by decide, by decide, fun s H2 hs s2 sa2 => ?_⟩
  dsimp only [gName, List.set_cons_zero, List.set_cons_succ]
  dsimp only [tSeq, tAsg, tOp, uV, tC, gName, List.getElem?_cons_zero, List.getElem?_cons_succ, List.set_cons_zero, List.set_cons_succ]
  refine ix_low rfl hs ?_
  have hch : isL (97 + s) = true := low_isL hs
  generalize 97 + s = ch at *
  refine add_s (by simp) (ix_up rfl hs (add_s (by simp) ?_))
  dsimp only [uSub]
  refine ix_low (p := 25 - s) (by omega) (by omega) (add_s (by simp) ?_)
  obtain ⟨few, hf1, hf2, hfe⟩ : ∃ few : List Nat, 1 ≤ few.length ∧ few.length ≤ 1000 ∧ few = [32, 39, 63, 124, 42, 40, 41, 48, 49] ++ [ch] ++ [65 + s] ++ [97 + (25 - s)] := ⟨_, by simp, by simp, rfl⟩
  rw [← hfe]
  have s12 := s1.trans s2
  refine ⟨st, a, s, 12, rfl, sa2, hs, by decide, by decide, fun v t H3 s3 sa3 lt hr hlv hio => ?_⟩
  refine ⟨v, st, a, t, rfl, lt, hr, by have := K02.raw_depth hr; omega, by omega, hlv, sa3, fun p S H4 s4 sa4 ep sg => ?_⟩
  obtain ⟨e, g1, g2, g3, g4⟩ := sg
  refine ⟨p, st, a, S, rfl, ep, g1.vd, by omega, sa4, fun l H5 s5 sa5 sp hl => ?_⟩
  have hcl : cntc l ≤ 35 := by rw [sp.cnt]; omega
  obtain ⟨al, sq, hscan, htr, hne, hit⟩ := K02.raw_read g1 (by omega) sp (by omega)
  have hll : l.length ≤ 1000 := by omega
  -- the end
  have fin : ∀ {H6 : Hp} {y8 y9 y10 y11 : Option V}, ((tRet (tOp (uEq K) (tCan spTold E0 (tCons (uV 7) tNil)) (tTup (tCons (tC (.str (sOf [109, 97, 100, 101]))) (tCons (tCan (spLText 45) E0 (tCons (tOp (uIx K) (tCan spLRead E0 (tCons (uV 7) tNil)) (tC (.int 1))) tNil)) tNil)))))) (fin0 Q) [some (.ref sc), some (.ref st), some (.int (mode : Nat)), some (.int (s : Nat)), some (.str (sOf [ch])), some (.str (sOf few)), some v, some (.str (sOf l)), y8, y9, y10, y11] H6 := fun {H6 y8 y9 y10 y11} => by
    obtain ⟨hv, hc⟩ := K02.scan_valid hscan
    obtain ⟨z1, z2, _⟩ := K02.read_sf hv htr hne
    have hask := K02.ask_light (l := l) (by omega) S al sq hscan htr hne
    have ok : Ok (K02.lfin (al, sq)) := ⟨z1, by omega⟩
    have hb := hask.2 hit
    dsimp only [tSeq, tAsg, tIfS, tRet, tRetN, tDrop, tNext, tOp, tUn, tCons, tNil, tTup, tLst, tC, tCB, tCan, tCanW, tAnd, tOr, tNot, tB, tIf, uB, uAndV, uOrV, uNotV, uNeg, uV, gName, gSub, tAug, ipI, tPart, tNoPart, tSl, tBM, tBM0, uLen, uAbs, uInt, uAdd, uSub, uMod, uFdiv, uMul, uCmp, uLt, uLe, uGt, uGe, tFld, StX.tMakeR, tRz, tCanS, sFld, start, fin0, List.getElem?_cons_zero, List.getElem?_cons_succ, List.map_cons, List.map_nil, List.length_cons, List.length_nil, List.replicate, List.cons_append, List.nil_append, Nat.reduceSub, Nat.reduceAdd, List.set_cons_zero, List.set_cons_succ]
    refine ⟨l, rfl, by omega, fun p1 H7 s7 e7 => ⟨l, rfl, by omega, K02.mid_light (by omega), fun p2 v2 i2 k2 t2 H8 s8 e8 lt2 ro => ?_⟩⟩
    unfold RdOut at ro
    rw [hscan] at ro
    obtain ⟨rfl, rfl, al2, sq2, htr2, _, rfl⟩ := ro
    rw [htr] at htr2
    have e9 := Option.some.inj htr2
    rw [List.cons.injEq] at e9
    rw [← e9.1] at lt2
    refine ix_tup2 e8 (atI_nat (j := 1) rfl) ⟨v2, _, rfl, lt2, hask.1, ok, fun H9 s9 => ⟨(show 2 ≤ sizeLine by decide +kernel), fun p3 n3 => ?_⟩⟩
    have tv : toldV l = [.str (sOf [109, 97, 100, 101]), .str (sOf (K02.text (K02.lfin (al, sq))))] := by unfold toldV; rw [hscan]; dsimp only; rw [if_neg (by omega), hb]; rfl
    have sn := same_new (o := .tup [.str (sOf [109, 97, 100, 101]), .str (sOf (K02.text (K02.lfin (al, sq))))]) n3
    refine eq_told (by decide +kernel) ?_ upd_same (.inl ⟨_, rfl, strOk_sOf fun c hc => by have := K02.text_asc _ _ (Nat.le_refl _) ok.sf c hc; omega⟩) (q _)
    rw [((s8.trans s9).trans sn) _ _ e7, tv]
  have m3 : ∀ {H6 : Hp} {y8 y9 y10 y11 : Option V}, StAt H6 st a → ((tSeq (tIfS (tAnd (uB (tOp (uEq K) (uV 2) (tC (.int 3)))) (tNot (uB (tCan spLBr E0 (tCons (uV 1) (tCons (uV 4) tNil)))))) (tRet (tC (.bl false))) tNext) (tRet (tOp (uEq K) (tCan spTold E0 (tCons (uV 7) tNil)) (tTup (tCons (tC (.str (sOf [109, 97, 100, 101]))) (tCons (tCan (spLText 45) E0 (tCons (tOp (uIx K) (tCan spLRead E0 (tCons (uV 7) tNil)) (tC (.int 1))) tNil)) tNil))))))) (fin0 Q) [some (.ref sc), some (.ref st), some (.int (mode : Nat)), some (.int (s : Nat)), some (.str (sOf [ch])), some (.str (sOf few)), some v, some (.str (sOf l)), y8, y9, y10, y11] H6 := fun {H6 y8 y9 y10 y11} sa6 => by
    show (tIfS _ _ _) _ _ _
    dsimp only [tIfS, tAnd, tNot, uB, tB, tOp, uV, tC, tCan, tCons, tNil, uEq, List.getElem?_cons_zero, List.getElem?_cons_succ]
    refine ifD (fun _ => ⟨st, a, ch, rfl, hch, sa6, fun H7 s7 sa7 => ?_⟩) fun _ => fin
    exact iteF fin
  have m2 : ∀ {H6 : Hp} {y8 y9 y10 y11 : Option V}, StAt H6 st a → ((tSeq (tIfS (tAnd (uB (tOp (uEq K) (uV 2) (tC (.int 2)))) (tNot (uB (tCan spLBr E0 (tCons (uV 1) (tCons (uV 4) tNil)))))) (tRet (tC (.bl false))) tNext) (tSeq (tIfS (tAnd (uB (tOp (uEq K) (uV 2) (tC (.int 3)))) (tNot (uB (tCan spLBr E0 (tCons (uV 1) (tCons (uV 4) tNil)))))) (tRet (tC (.bl false))) tNext) (tRet (tOp (uEq K) (tCan spTold E0 (tCons (uV 7) tNil)) (tTup (tCons (tC (.str (sOf [109, 97, 100, 101]))) (tCons (tCan (spLText 45) E0 (tCons (tOp (uIx K) (tCan spLRead E0 (tCons (uV 7) tNil)) (tC (.int 1))) tNil)) tNil)))))))) (fin0 Q) [some (.ref sc), some (.ref st), some (.int (mode : Nat)), some (.int (s : Nat)), some (.str (sOf [ch])), some (.str (sOf few)), some v, some (.str (sOf l)), y8, y9, y10, y11] H6 := fun {H6 y8 y9 y10 y11} sa6 => by
    show (tIfS _ _ _) _ _ _
    dsimp only [tIfS, tAnd, tNot, uB, tB, tOp, uV, tC, tCan, tCons, tNil, uEq, List.getElem?_cons_zero, List.getElem?_cons_succ]
    refine ifD (fun _ => ⟨st, a, ch, rfl, hch, sa6, fun H7 s7 sa7 => ?_⟩) fun _ => m3 sa6
    exact iteF (m3 sa7)
  have m1 : ∀ {H6 : Hp} {y8 y9 y10 y11 : Option V}, StAt H6 st a → ((tSeq (tIfS (tAnd (uB (tOp (uEq K) (uV 2) (tC (.int 1)))) (tNot (uB (tCan spLBr E0 (tCons (uV 1) (tCons (uV 4) tNil)))))) (tRet (tC (.bl false))) tNext) (tSeq (tIfS (tAnd (uB (tOp (uEq K) (uV 2) (tC (.int 2)))) (tNot (uB (tCan spLBr E0 (tCons (uV 1) (tCons (uV 4) tNil)))))) (tRet (tC (.bl false))) tNext) (tSeq (tIfS (tAnd (uB (tOp (uEq K) (uV 2) (tC (.int 3)))) (tNot (uB (tCan spLBr E0 (tCons (uV 1) (tCons (uV 4) tNil)))))) (tRet (tC (.bl false))) tNext) (tRet (tOp (uEq K) (tCan spTold E0 (tCons (uV 7) tNil)) (tTup (tCons (tC (.str (sOf [109, 97, 100, 101]))) (tCons (tCan (spLText 45) E0 (tCons (tOp (uIx K) (tCan spLRead E0 (tCons (uV 7) tNil)) (tC (.int 1))) tNil)) tNil))))))))) (fin0 Q) [some (.ref sc), some (.ref st), some (.int (mode : Nat)), some (.int (s : Nat)), some (.str (sOf [ch])), some (.str (sOf few)), some v, some (.str (sOf l)), y8, y9, y10, y11] H6 := fun {H6 y8 y9 y10 y11} sa6 => by
    show (tIfS _ _ _) _ _ _
    dsimp only [tIfS, tAnd, tNot, uB, tB, tOp, uV, tC, tCan, tCons, tNil, uEq, List.getElem?_cons_zero, List.getElem?_cons_succ]
    refine ifD (fun _ => ⟨st, a, ch, rfl, hch, sa6, fun H7 s7 sa7 => ?_⟩) fun _ => m2 sa6
    exact iteF (m2 sa7)
  have m0 : ∀ {H6 : Hp} {y9 y11 : Option V} {l2 l3 : List Nat}, StAt H6 st a → l2.length ≤ 2000 → l3.length ≤ 2000 → cntc l2 ≤ 40 → cntc l3 ≤ 40 → ((tSeq (tFor (iList K (tLst (tCons (uV 7) (tCons (uV 10) (tCons (uV 8) (tCons (tC (.str (sOf []))) (tCons (tOp (uAdd K) (uV 7) (tC (.str (sOf [41])))) (tCons (tOp (uAdd K) (tC (.str (sOf [40]))) (uV 7)) (tCons (tOp (uAdd K) (uV 7) (tC (.str (sOf [32, 124])))) (tCons (tOp (uAdd K) (uV 7) (tC (.str (sOf [10])))) (tCons (tOp (uAdd K) (uV 7) (tC (.str (sOf [32, 63])))) (tCons (tOp (uAdd K) (tC (.str (sOf [42]))) (uV 7)) tNil)))))))))))) (gName 11) (tIfS (tNot (uB (tCan spAsked E0 (tCons (uV 11) (tCons (tC (.bl false)) tNil))))) (tRet (tC (.bl false))) tNext)) (tSeq (tIfS (tAnd (uB (tOp (uEq K) (uV 2) (tC (.int 1)))) (tNot (uB (tCan spLBr E0 (tCons (uV 1) (tCons (uV 4) tNil)))))) (tRet (tC (.bl false))) tNext) (tSeq (tIfS (tAnd (uB (tOp (uEq K) (uV 2) (tC (.int 2)))) (tNot (uB (tCan spLBr E0 (tCons (uV 1) (tCons (uV 4) tNil)))))) (tRet (tC (.bl false))) tNext) (tSeq (tIfS (tAnd (uB (tOp (uEq K) (uV 2) (tC (.int 3)))) (tNot (uB (tCan spLBr E0 (tCons (uV 1) (tCons (uV 4) tNil)))))) (tRet (tC (.bl false))) tNext) (tRet (tOp (uEq K) (tCan spTold E0 (tCons (uV 7) tNil)) (tTup (tCons (tC (.str (sOf [109, 97, 100, 101]))) (tCons (tCan (spLText 45) E0 (tCons (tOp (uIx K) (tCan spLRead E0 (tCons (uV 7) tNil)) (tC (.int 1))) tNil)) tNil)))))))))) (fin0 Q) [some (.ref sc), some (.ref st), some (.int (mode : Nat)), some (.int (s : Nat)), some (.str (sOf [ch])), some (.str (sOf few)), some v, some (.str (sOf l)), some (.str (sOf l3)), y9, some (.str (sOf l2)), y11] H6 := fun {H6 y9 y11 l2 l3} sa6 b1 b2 b3 b4 =>
    seq_run (law_ten (l2 := l2) (l3 := l3) sa6 hll b1 b2 hcl b3 b4 fun sa7 => m1 sa7)
  dsimp only
  refine ⟨st, a, 25, rfl, sa5, by decide, by decide, fun r H6 hr s6 sa6 => ?_⟩
  refine ⟨((r : Nat) : Int), rfl, by omega, by omega, for_range (lo := 0) (n := r) (fun i σ H7 => ∃ lo y9 y10 y11, σ = [some (.ref sc), some (.ref st), some (.int (mode : Nat)), some (.int (s : Nat)), some (.str (sOf [ch])), some (.str (sOf few)), some v, some (.str (sOf l)), some (.str (sOf lo)), y9, y10, y11] ∧ StAt H7 st a ∧ lo.length ≤ i) ⟨[], _, _, _, rfl, sa6, by simp⟩ ?_ ?_⟩
  · rintro i σ H7 hi ⟨lo, y9, y10, y11, rfl, sa7, hlo⟩
    dsimp only [tSeq, tAsg, tIfS, tRet, tRetN, tDrop, tNext, tOp, tUn, tCons, tNil, tTup, tLst, tC, tCB, tCan, tCanW, tAnd, tOr, tNot, tB, tIf, uB, uAndV, uOrV, uNotV, uNeg, uV, gName, gSub, tAug, ipI, tPart, tNoPart, tSl, tBM, tBM0, uLen, uAbs, uInt, uSub, uMod, uFdiv, uCmp, uLt, uLe, uGt, uGe, tFld, StX.tMakeR, tRz, tCanS, sFld, start, fin0, List.getElem?_cons_zero, List.getElem?_cons_succ, List.map_cons, List.map_nil, List.length_cons, List.length_nil, List.replicate, List.cons_append, List.nil_append, Nat.reduceSub, Nat.reduceAdd, List.set_cons_zero, List.set_cons_succ]
    refine ⟨sl_ok (by rw [sOf_len]; omega), st, a, few.length, by rw [sOf_len], sa7, by omega, by omega, fun f1 H8 hf s8 sa8 => ?_⟩
    refine ix_txt (a := f1) (by omega) rfl (List.getElem?_eq_getElem hf) (add_s (by simp; omega) ?_)
    exact ⟨_, _, _, _, rfl, sa8, by simp; omega⟩
  · rintro σ H7 ⟨lo, y9, y10, y11, rfl, sa7, hlo⟩
    refine ⟨st, a, l, few, rfl, sa7, by omega, hf1, hf2, fun l2 H8 s8 sa8 h1 h2 => ?_⟩
    have : cntc lo ≤ 24 := Nat.le_trans List.countP_le_length (by omega)
    exact m0 sa8 (by omega) (by omega) (by omega) (by omega)
end
end L2.WB
namespace L2.WB
open PySem PySem.Spec PyProof.Rows
open K02 (T isL isK isI lthen leither lagain)
section
variable {P : Program} {w : World} {K : PySem.W.Frag} {mg : Str → Option Value} {base : Heap} {c : Ad} {H : Hp} {Q : VK} {E : XK} {vs : List V} {CX1 : CXT} {x : Str} {sp : Sp} {j k : Nat} {C : Addr} {fld : Str}
theorem Has.mono (h : Has P w K mg base CX1 j x sp) (le : j ≤ k) : Has P w K mg base CX1 k x sp := by
  obtain ⟨f, h1, h2, h3⟩ := h
  exact ⟨f, h1, h2, h3.mono le⟩
theorem HasMk.mono (h : HasMk P w K mg base CX1 j x C sp) (le : j ≤ k) : HasMk P w K mg base CX1 k x C sp := by
  obtain ⟨f, h1, h2, h3⟩ := h
  exact ⟨f, h1, h2, h3.mono le⟩
theorem ExK.mono (h : ExK P w K mg base j x C fld) (le : j ≤ k) : ExK P w K mg base k x C fld := by
  obtain ⟨fI, fd, ps, h1, h2, h3, h4⟩ := h.init
  exact ⟨h.at_, h.oex, h.nof, fI, fd, ps, h1, h2, h3, h4.mono le⟩
theorem HasText.mono (h : HasText P w K mg base j c) (le : j ≤ k) : HasText P w K mg base k c := by
  obtain ⟨f, h1, h2, h3⟩ := h
  exact ⟨f, h1, h2.mono le, h3⟩
/-- a def of the module stands -/
def DefAt (K : PySem.W.Frag) (mg : Str → Option Value) (x : Str) (st : Stmt) : Prop := ∃ f fd, mg x = some (.ref f) ∧ Fun K x x st f fd
abbrev BindsAll (x : Str) (st : Stmt) (ps : List Str) : Prop := ∀ (kV doc pm : Value) (an : Option Addr) (cdv ct : Value) (us : List Value), us.length = ps.length → bindArgs (PySem.W.fnOf x x (defArgs st) (defBody st) (defScope st) .none kV doc pm an cdv ct) ⟨us, []⟩ = pure (ps.zip us)
abbrev Len (sp : Sp) (n : Nat) : Prop := ∀ vs H Q E, sp vs H Q E → vs.length = n
theorem has0 {st : Stmt} {N ps : List Str} {t : TS} (k : Nat) (D : DefAt K mg x st) (S : FnScope N ps (defScope st)) (len : Len sp ps.length) (hb : BindsAll x st ps)
    (hd : ∀ (f : Addr) (cdv : Value) (A : Around) (outer : List Env) (s0 : Shared) (H0 : Hp) (E : XK), Room (k + 1) (X0 P w K mg base N x st f cdv A outer s0 H0 E).A → PSs (X0 P w K mg base N x st f cdv A outer s0 H0 E) (defBody st) t)
    (hq : ∀ vs H Q E, sp vs H Q E → t (fin0 Q) (start N vs) H) : Has P w K mg base CX0 (k + 2) x sp := by
  obtain ⟨f, fd, h1, F⟩ := D
  have G : FnOk P w K mg base CX0 (k + 2) f fd ps sp := F.ok S len (k := k + 1) fun cdv A outer s H vs Q E hr h => ⟨t, hd f cdv A outer s H E hr, hq vs H Q E h⟩
  exact ⟨f, h1, F.kp, (G.raw (F.binds hb) .nil).imp fun vs H Q E h => by rw [List.append_nil]; exact h⟩
theorem hasR {st : Stmt} {N ps : List Str} {t : XK → TS} (k : Nat) (D : DefAt K mg x st) (S : FnScope N ps (defScope st)) (len : Len sp ps.length) (hb : BindsAll x st ps)
    (hd : ∀ (f : Addr) (cdv : Value) (A : Around) (outer : List Env) (s0 : Shared) (H0 : Hp) (E : XK), Room (k + 1) (XR P w K mg base N x st f cdv A outer s0 H0 E).A → PSs (XR P w K mg base N x st f cdv A outer s0 H0 E) (defBody st) (t E))
    (hq : ∀ vs H Q E, sp vs H Q E → t E (fin0 Q) (start N vs) H) : Has P w K mg base (L2.CX P w) (k + 2) x sp := by
  obtain ⟨f, fd, h1, F⟩ := D
  have G : FnOk P w K mg base (L2.CX P w) (k + 2) f fd ps sp := F.okX S len (k := k + 1) fun cdv A outer s H vs Q E hr h => ⟨t E, hd f cdv A outer s H E hr, hq vs H Q E h⟩
  exact ⟨f, h1, F.kp, (G.raw (F.binds hb) .nil).imp fun vs H Q E h => by rw [List.append_nil]; exact h⟩
theorem sp_len {f : List T → T} : ∀ ws rest : List V, ws.length = ([] : List Str).length → ws = [] := fun ws _ h => List.length_eq_zero_iff.mp h
/-- def f( *parts) -/
theorem hasStar {st : Stmt} {N : List Str} {pv : Str} {t : XK → TS} {g : List T → T} (k : Nat) (D : DefAt K mg x st) (S : FnScope N [pv] (defScope st))
    (hb : ∀ (kV doc pm : Value) (an : Option Addr) (cdv ct : Value) (rest : List Value), bindArgs (PySem.W.fnOf x x (defArgs st) (defBody st) (defScope st) .none kV doc pm an cdv ct) ⟨rest, []⟩ = (newTuple rest >>= fun t => pure [(pv, t)]))
    (hd : ∀ (f : Addr) (cdv : Value) (A : Around) (outer : List Env) (s0 : Shared) (H0 : Hp) (E : XK), Room (k + 1) (XR P w K mg base N x st f cdv A outer s0 H0 E).A → PSs (XR P w K mg base N x st f cdv A outer s0 H0 E) (defBody st) (t E))
    (hq : ∀ vs H Q E, spSeqB c g vs H Q E → t E (fin0 Q) (start N vs) H) : Has P w K mg base (L2.CX P w) (k + 2) x (spSeq c g) := by
  obtain ⟨f, fd, h1, F⟩ := D
  obtain ⟨oc, od, kV, doc, pm, an, cdv, ct, osl, rfl, lk, hcd⟩ := F.ex
  refine ⟨f, h1, F.kp, (StX.fn_star (ps := []) (pv := pv) (k := k + 1) lk hcd S StX.cxUp (fun us rest hl => ?_) (sp := spSeqB c g) fun A outer s H vs Q E hr h => ⟨t E, hd f cdv A outer s H E hr, hq vs H Q E h⟩).imp fun vs H Q E h => ?_⟩
  · have e : us = [] := List.length_eq_zero_iff.mp hl
    subst e
    exact hb kV doc pm an cdv ct rest
  · obtain ⟨ts, p, r, o⟩ := h
    refine ⟨[], vs, rfl, rfl, ?_, fun q hn => ?_⟩
    · rw [p.len]
      exact Nat.le_trans r.len (by decide +kernel)
    · have s := same_new (o := .tup vs) hn
      exact ⟨q, vs, ts, rfl, upd_same, p.keep (Same.kp s), r, o.from s⟩
/-- a method whose only free name is the class's cell -/
def FunS (K : PySem.W.Frag) (x qual : Str) (st : Stmt) (f cc cda D : Addr) (dV : Value) : Prop := ∃ (oc : Value) (od : Option Addr) (kV doc pm : Value) (an : Option Addr) (ct : Value) (osl : Array (Option Value)),
  K.lookup f = some ⟨oc, od, .func (PySem.W.fnX x qual (defArgs st) (defBody st) (defScope st) [("__class__", cc)] dV kV doc pm an (.ref cda) ct), osl⟩ ∧ PySem.W.codeIn K (.ref cda) qual = true ∧
  ∃ cl cld csl, K.lookup cc = some ⟨cl, cld, .cell (some (.ref D)), csl⟩
abbrev BindsS (K : PySem.W.Frag) (x qual : Str) (st : Stmt) (ps : List Str) (cc : Addr) (dV : Value) : Prop := ∀ (kV doc pm : Value) (an : Option Addr) (cdv ct : Value), Binds K (PySem.W.fnX x qual (defArgs st) (defBody st) (defScope st) [("__class__", cc)] dV kV doc pm an cdv ct) ps []
theorem bindsS {qual : Str} {st : Stmt} {ps : List Str} {cc : Addr} (h : ∀ (kV doc pm : Value) (an : Option Addr) (cdv ct : Value) (us : List Value), us.length = ps.length → bindArgs (PySem.W.fnX x qual (defArgs st) (defBody st) (defScope st) [("__class__", cc)] .none kV doc pm an cdv ct) ⟨us, []⟩ = pure (ps.zip us)) : BindsS K x qual st ps cc .none :=
  fun kV doc pm an cdv ct => .all (h kV doc pm an cdv ct)
/-- defaults stand, all parameters are given -/
theorem bindsD {qual : Str} {st : Stmt} {ps : List Str} {cc TT : Addr} (hT : ∃ o y n, K.lookup TT = some o ∧ o.data = .seq #[y] n)
    (h : ∀ (kV doc pm : Value) (an : Option Addr) (cdv ct : Value) (us : List Value) (y : Value), us.length = ps.length → ∃ k, bindArgs (PySem.W.fnX x qual (defArgs st) (defBody st) (defScope st) [("__class__", cc)] (.ref TT) kV doc pm an cdv ct) ⟨us, []⟩ = seqItems? (.ref TT) >>= k ∧ k (some #[y]) = pure (ps.zip us)) : BindsS K x qual st ps cc (.ref TT) := by
  obtain ⟨o, y, n, lT, oT⟩ := hT
  intro kV doc pm an cdv ct s us X hl
  rw [List.append_nil] at hl ⊢
  obtain ⟨k, e1, e2⟩ := h kV doc pm an cdv ct us y hl
  refine BindsTo.of_looks fun M => ?_
  rw [e1]
  exact looks_items X lT oT (.of_pure e2)
theorem fnS {CX1 : CXT} {qual : Str} {st : Stmt} {N ps : List Str} {f cc cda D : Addr} {dV : Value} {t : XK → TS} (k : Nat) (F : FunS K x qual st f cc cda D dV) (S : ScopeS N ps (defScope st)) (len : Len sp ps.length) (hb : BindsS K x qual st ps cc dV)
    (hd : ∀ (A : Around) (outer : List Env) (s0 : Shared) (H0 : Hp) (E : XK), Room (k + 1) (cxS CX1 P w K mg base N qual (defScope st) f (.ref cda) cc A outer s0 H0 E).A → PAt (cxS CX1 P w K mg base N qual (defScope st) f (.ref cda) cc A outer s0 H0 E) (defBody st) (defBody st) (t E))
    (hq : ∀ vs H Q E, sp vs H Q E → t E (fin0 Q) (start N vs) H) : ∃ fd, Binds K fd ps [] ∧ FnOk P w K mg base CX1 (k + 2) f fd ps sp := by
  obtain ⟨oc, od, kV, doc, pm, an, ct, osl, lk, hcd, cl, cld, csl, hcc⟩ := F
  exact ⟨_, hb kV doc pm an (.ref cda) ct, fn_ofS (k := k + 1) lk hcd hcc S len fun A outer s H vs Q E hr h => ⟨t E, hd A outer s H E hr, hq vs H Q E h⟩⟩
theorem q_exc {C : Addr} {msg : List Nat} (h : spEx K C fld vs H Q E) : (tSeq (tSupX K 0 C (tCons (tC (.str (sOf msg))) tNil)) (tSeq (tOst K fld (uV 0) (uV 1)) tNext)) (fin0 Q) (start ["self", x] vs) H := by
  obtain ⟨a, v, rfl, ea, ox, nf, q⟩ := h
  show (tSeq (tSupX K 0 C (tCons (tC (.str (sOf msg))) tNil)) (tSeq (tOst K fld (uV 0) (uV 1)) tNext)) (fin0 Q) [some (.ref a), some v] H
  refine ⟨a, rfl, ea, ox, fun p np => ?_⟩
  have nea : a ≠ p := ne_of_none ea np
  refine ⟨upd_same, get_new ea np, (show 1 ≤ 1000 by decide), ?_⟩
  refine ⟨a, C, rfl, ox, nf, .inl ⟨get_new ea np, fun dx nd ne => ?_⟩⟩
  have ndp : dx ≠ p := fun e => by rw [e, upd_same] at nd; cases nd
  have nd0 : H dx = none := by rw [upd_ne ndp] at nd; exact nd
  refine q dx _ (fun b o hb => ?_) nd0 ne upd_same (by rw [upd_ne ne]; exact upd_same) fun b o hba hb => ?_
  · by_cases hba : b = a
    · subst hba
      rw [upd_same] at hb ⊢
      exact hb
    · rw [upd_ne hba] at hb ⊢
      rw [upd_ne (ne_of_none hb nd0), upd_ne (ne_of_none hb np)]
      exact hb
  · rw [upd_ne hba, upd_ne (ne_of_none hb nd0), upd_ne (ne_of_none hb np)]
    exact hb
theorem q_Pattern_text (h : spText K vs H Q E) : t_Pattern_text K c (fin0 Q) (start N_Pattern_text vs) H := by
  obtain ⟨a, C, dx, fs, t, rfl, ea, hc, na, l, q⟩ := h
  show t_Pattern_text K c (fin0 Q) [some (.ref a)] H
  exact ⟨a, C, dx, fs, t, rfl, ea, hc, na, l, q⟩
end
end L2.WB
namespace L2.WB
open PySem PySem.Spec PyProof.Rows
open He (ga ma refV frG frG_at frG_in eqO eqO_ok ba Fa)
def refsC (g : Addr → Option Obj) (a : Addr) : List Addr := match g a with
  | some o => (match o.data with
    | .func fd => refV fd.code ++ refV fd.defaults ++ fd.closure.map (·.2)
    | .cls cd => [cd.ns]
    | .dict es _ => es.toList.flatMap fun e => refV e.val
    | _ => [])
  | none => []
def goC (g : Addr → Option Obj) : Nat → List Addr → List Addr
  | 0, _ => []
  | n + 1, l => (l ++ goC g n (l.flatMap (refsC g)))
def asC (g : Addr → Option Obj) : List Addr := cStatics :: goC g 5 [mainGlobals]
abbrev FnC : Type := Option (Str × Str × Arguments × FuncBody × Scope × Addr × List Str × Addr)
def fnC (K : PySem.W.Frag) (a : Addr) : FnC := match K.lookup a with
  | some ⟨_, _, .func fd, _⟩ => some (fd.name, fd.qualname, fd.params, fd.body, fd.scope, fd.globals, fd.closure.map (·.1), fd.builtins)
  | _ => none
structure Dd where
  at_ : PySem.W.Frag → Addr
  x : Str
  qual : Str
  st : Stmt
  cl : List Str := []
  dfl : Bool := false
def Dd.val (d : Dd) : FnC := some (d.x, d.qual, defArgs d.st, .stmts (defBody d.st), defScope d.st, mainGlobals, d.cl, builtinsNs)
def noneB : Value → Bool
  | .none => true
  | _ => false
def Dd.ok (K : PySem.W.Frag) (d : Dd) : Bool := PySem.W.keepIn K (.ref (d.at_ K)) && (match K.lookup (d.at_ K) with
  | some ⟨_, _, .func fd, _⟩ => PySem.W.codeIn K fd.code d.qual && (noneB fd.defaults || d.dfl)
  | _ => false)
def refOf : Value → Addr
  | .ref a => a
  | _ => 0
theorem refOf_eq : ∀ {v : Value}, refOf v ≠ 0 → v = .ref (refOf v) := fun {v} h => by
  cases v <;> first | rfl | exact absurd rfl h
def cdOf (K : PySem.W.Frag) (f : Addr) : Addr := match K.lookup f with
  | some ⟨_, _, .func fd, _⟩ => refOf fd.code
  | _ => 0
def ccOf (K : PySem.W.Frag) (f : Addr) : Addr := match K.lookup f with
  | some ⟨_, _, .func fd, _⟩ => (match fd.closure with
    | [(_, a)] => a
    | _ => 0)
  | _ => 0
def dfOf (K : PySem.W.Frag) (f : Addr) : Addr := match K.lookup f with
  | some ⟨_, _, .func fd, _⟩ => refOf fd.defaults
  | _ => 0
def seqB (K : PySem.W.Frag) (a : Addr) : Bool := match K.lookup a with
  | some ⟨_, _, .seq its _, _⟩ => (match its.toList with
    | [_] => true
    | _ => false)
  | _ => false
theorem seqB_ok {K : PySem.W.Frag} {a : Addr} (h : seqB K a = true) : ∃ o y n, K.lookup a = some o ∧ o.data = .seq #[y] n := by
  unfold seqB at h
  split at h
  · rename_i its _ _ e
    split at h
    · rename_i y q
      obtain ⟨l⟩ := its
      simp only at q
      subst q
      exact ⟨_, y, _, e, rfl⟩
    · cases h
  · cases h
theorem Dd.plain {K : PySem.W.Frag} {d : Dd} (e : fnC K (d.at_ K) = d.val) (c : d.ok K = true) (hc : d.cl = []) (hdf : d.dfl = false) : ∃ fd, Fun K d.x d.qual d.st (d.at_ K) fd := by
  obtain ⟨kp, c2⟩ := ba c
  unfold fnC at e
  cases q : K.lookup (d.at_ K) with
  | none =>
    rw [q] at c2
    cases c2
  | some o =>
    obtain ⟨oc, od, dt, osl⟩ := o
    rw [q] at c2 e
    cases dt with
    | func fd =>
      obtain ⟨n1, n2, n3, n4, n5, n6, n7, n8, n9, n10, n11, n12, n13, n14, n15⟩ := fd
      have e2 : (some (n1, n2, n3, n4, n5, n6, n7.map (·.1), n15) : FnC) = some (d.x, d.qual, defArgs d.st, .stmts (defBody d.st), defScope d.st, mainGlobals, d.cl, builtinsNs) := e
      simp only [Option.some.injEq, Prod.mk.injEq] at e2
      obtain ⟨h1, h2, h3, h4, h5, h6, h7, h8⟩ := e2
      rw [hc] at h7
      have h7 := List.map_eq_nil_iff.mp h7
      subst h1 h2 h3 h4 h5 h6 h7 h8
      have c3 : (PySem.W.codeIn K n13 d.qual && (noneB n8 || d.dfl)) = true := c2
      obtain ⟨k1, k2⟩ := ba c3
      rw [hdf] at k2
      have k3 : noneB n8 = true := by simpa using k2
      have k4 : n8 = .none := by cases n8 <;> first | rfl | cases k3
      subst k4
      exact ⟨_, ⟨oc, od, n9, n10, n11, n12, n13, n14, osl, rfl, q, k1⟩, kp⟩
    | _ => cases c2
/-- the cell's content -/
def cellB (K : PySem.W.Frag) (cc D : Addr) : Bool := match K.lookup cc with
  | some ⟨_, _, .cell (some (.ref E)), _⟩ => decide (E = D)
  | _ => false
theorem cellB_ok {K : PySem.W.Frag} {cc D : Addr} (h : cellB K cc D = true) : ∃ cl cld csl, K.lookup cc = some ⟨cl, cld, .cell (some (.ref D)), csl⟩ := by
  unfold cellB at h
  split at h
  · rename_i a b c d e
    rw [of_decide_eq_true h] at e
    exact ⟨_, _, _, e⟩
  · cases h
/-- the code object's file -/
def fileB (K : PySem.W.Frag) (P : Program) (cda : Addr) : Bool := match K.lookup cda with
  | some ⟨_, _, .fields vs, _⟩ => (match vs[2]? with
    | some (Value.str z _) => decide (z = P.main.file)
    | _ => false)
  | _ => false
theorem fileB_ok {K : PySem.W.Frag} {P : Program} {cda : Addr} (h : fileB K P cda = true) : ∃ ccl cdd vs ccs tf, K.lookup cda = some ⟨ccl, cdd, .fields vs, ccs⟩ ∧ vs[2]? = some (Value.str P.main.file tf) := by
  unfold fileB at h
  split at h
  · rename_i a b vs c e
    split at h
    · rename_i z t e2
      have h3 := of_decide_eq_true h
      rw [h3] at e2
      exact ⟨_, _, vs, _, t, e, e2⟩
    · cases h
  · cases h
theorem Dd.meth {K : PySem.W.Frag} {d : Dd} {D : Addr} (e : fnC K (d.at_ K) = d.val) (c : d.ok K = true) (hc : d.cl = [("__class__" : Str)]) (hcd : cdOf K (d.at_ K) ≠ 0) (hcell : cellB K (ccOf K (d.at_ K)) D = true) :
    ∃ dV, FunS K d.x d.qual d.st (d.at_ K) (ccOf K (d.at_ K)) (cdOf K (d.at_ K)) D dV ∧ (d.dfl = false → dV = .none) ∧ (dfOf K (d.at_ K) ≠ 0 → dV = .ref (dfOf K (d.at_ K))) := by
  obtain ⟨kp, c2⟩ := ba c
  unfold fnC at e
  cases q : K.lookup (d.at_ K) with
  | none =>
    rw [q] at c2
    cases c2
  | some o =>
    obtain ⟨oc, od, dt, osl⟩ := o
    rw [q] at c2 e
    cases dt with
    | func fd =>
      obtain ⟨n1, n2, n3, n4, n5, n6, n7, n8, n9, n10, n11, n12, n13, n14, n15⟩ := fd
      have e2 : (some (n1, n2, n3, n4, n5, n6, n7.map (·.1), n15) : FnC) = some (d.x, d.qual, defArgs d.st, .stmts (defBody d.st), defScope d.st, mainGlobals, d.cl, builtinsNs) := e
      simp only [Option.some.injEq, Prod.mk.injEq] at e2
      obtain ⟨h1, h2, h3, h4, h5, h6, h7, h8⟩ := e2
      rw [hc] at h7
      have h9 : ∃ cc : Addr, n7 = [(("__class__" : Str), cc)] := by
        match n7, h7 with
        | [(a, b)], h7 =>
          have h7 : [a] = [("__class__" : Str)] := h7
          cases h7
          exact ⟨b, rfl⟩
      obtain ⟨cc, rfl⟩ := h9
      subst h1 h2 h3 h4 h5 h6 h8
      have c3 : (PySem.W.codeIn K n13 d.qual && (noneB n8 || d.dfl)) = true := c2
      obtain ⟨k1, k2⟩ := ba c3
      have e5 : cdOf K (d.at_ K) = refOf n13 := by unfold cdOf; rw [q]
      have e6 : ccOf K (d.at_ K) = cc := by unfold ccOf; rw [q]
      rw [e6] at hcell ⊢
      have e7 : n13 = .ref (cdOf K (d.at_ K)) := by
        rw [e5] at hcd ⊢
        exact refOf_eq hcd
      have e8 : dfOf K (d.at_ K) = refOf n8 := by unfold dfOf; rw [q]
      rw [e8]
      generalize cdOf K (d.at_ K) = cda at *
      subst e7
      refine ⟨n8, ⟨oc, od, n9, n10, n11, n12, n14, osl, q, k1, cellB_ok hcell⟩, fun hdf => ?_, refOf_eq⟩
      rw [hdf] at k2
      have k3 : noneB n8 = true := by simpa using k2
      cases n8 <;> first | rfl | cases k3
    | _ => cases c2
abbrev AlC : Type := Bool × List FnC
def obsC (ck : PySem.W.Frag → Bool) (ds : List Dd) (K : PySem.W.Frag) : AlC := (ck K && ds.all fun d => d.ok K, ds.map fun d => fnC K (d.at_ K))
def valC (ds : List Dd) : AlC := (true, ds.map Dd.val)
def SaysC (ck : PySem.W.Frag → Bool) (ds : List Dd) (K : PySem.W.Frag) : Prop := obsC ck ds K = valC ds
def obsCG (ck : PySem.W.Frag → Bool) (ds : List Dd) (g : Addr → Option Obj) : AlC := obsC ck ds (frG g (asC g))
def hookC (ck : PySem.W.Frag → Bool) (ds : List Dd) : PySem.W.Hook where
  α := AlC
  obs := fun s => obsCG ck ds s.heap.get?
  val := fun _ => valC ds
  says := fun _ h => ∃ K : PySem.W.Frag, K.In h ∧ SaysC ck ds K
  of := fun _ _ e => ⟨_, frG_in, e⟩
  keeps := fun _ _ _ ⟨K, hK, c⟩ k => ⟨K, PySem.W.Frag.In.keeps hK k, c⟩
theorem obsCG_eq {ck : PySem.W.Frag → Bool} {ds : List Dd} {g : Addr → Option Obj} {s : Shared} (h : ∀ a, g a = s.heap.get? a) : obsCG ck ds g = (hookC ck ds).obs s := by
  have e : g = s.heap.get? := funext h
  rw [e] <;> rfl
section
variable {ck : PySem.W.Frag → Bool} {ds : List Dd} {K : PySem.W.Frag}
theorem SaysC.chk (c : SaysC ck ds K) : ck K = true := (ba (show (ck K && ds.all fun d => d.ok K) = true from congrArg (fun z : AlC => z.1) c)).1
theorem SaysC.def_ (c : SaysC ck ds K) (i : Nat) {d : Dd} (h : ds[i]? = some d) : fnC K (d.at_ K) = d.val ∧ d.ok K = true := by
  have c2 := (ba (show (ck K && ds.all fun d => d.ok K) = true from congrArg (fun z : AlC => z.1) c)).2
  have e : ds.map (fun d => fnC K (d.at_ K)) = ds.map Dd.val := congrArg (fun z : AlC => z.2) c
  have e2 : (ds.map fun d => fnC K (d.at_ K))[i]? = (ds.map Dd.val)[i]? := by rw [e]
  rw [List.getElem?_map, List.getElem?_map, h] at e2
  exact ⟨Option.some.inj e2, List.all_eq_true.mp c2 d (List.mem_of_getElem? h)⟩
end
/-- the class at C is an exception class of the program's own over ValueError -/
def oexB (K : PySem.W.Frag) (C : Addr) : Bool := match K.lookup C with
  | some ⟨.type "type", _, .cls cd, sl⟩ => (match cd.mro, sl.toList with
    | .ref C' :: bm, [_, _, _, _, some (.builtin n), _] => (decide (C' = C) && (decide (n = "ValueError.__new__") && (!cd.hasDel && (cd.hasDict && PySem.HandSPX.refsVE bm))))
    | _, _ => false)
  | _ => false
def oexAll (K : PySem.W.Frag) (C : Addr) : Bool := oexB K C && (eqO (PySem.W.findIn K (.ref C) "__setattr__") (some (some (.builtin "object.__setattr__"))) && (decide (PySem.W.subIn K (.ref C) (.type "BaseException") = some true) &&
  (decide (PySem.W.typeIn K (.ref C) = some (.type "type")) && PySem.W.keepIn K (.ref C))))
theorem oex_ok {K : PySem.W.Frag} {C : Addr} (h : oexAll K C = true) : OexC K C := by
  obtain ⟨h1, h⟩ := ba h
  obtain ⟨h2, h⟩ := ba h
  obtain ⟨h3, h⟩ := ba h
  obtain ⟨h4, h5⟩ := ba h
  refine ⟨?_, eqO_ok h2, of_decide_eq_true h3, of_decide_eq_true h4, h5⟩
  unfold oexB at h1
  split at h1
  · rename_i dd cd sl ho
    split at h1
    · rename_i C' bm k0 k1 k2 k3 n k5 hm hs
      obtain ⟨q1, h1⟩ := ba h1
      obtain ⟨q2, h1⟩ := ba h1
      obtain ⟨q3, h1⟩ := ba h1
      obtain ⟨q4, q5⟩ := ba h1
      have q1 := of_decide_eq_true q1
      have q2 := of_decide_eq_true q2
      obtain ⟨nm, bs, mro, ns, qn, hd, sn, sub, ab, col, del⟩ := cd
      dsimp only at hm q3 q4
      have q3 : del = false := by cases del <;> first | rfl | cases q3
      subst q1 q2 q3 q4 hm
      have hsl : sl = #[k0, k1, k2, k3, some (.builtin "ValueError.__new__"), k5] := by
        obtain ⟨l⟩ := sl
        simp only at hs
        rw [hs]
      subst hsl
      exact ⟨nm, qn, ns, bs, bm, sn, sub, ab, col, dd, k0, k1, k2, k3, k5, ho, q5⟩
    · cases h1
  · cases h1
def excB (K : PySem.W.Frag) (D : Addr) : Bool := eqO (PySem.W.findIn K (.ref D) "__getattribute__") (some (some (.builtin "BaseException.__getattribute__"))) && (eqO (PySem.W.findIn K (.ref D) "__getattr__") (some none) &&
  (decide (PySem.W.subIn K (.ref D) (.type "BaseException") = some true) && (PySem.W.hasDictIn K D && (eqO (PySem.W.findIn K (.ref D) "__class__") (some (some (.builtin "object.__class__"))) &&
  (eqO (PySem.W.specialIn K (.builtin "object.__class__") "__get__") (some (some (.builtin "getset_descriptor.__get__"))) && (decide (PySem.W.takesIn K (.builtin "object.__class__") = some true) && decide (PySem.W.mroIn K D (.type "object") = some true)))))))
theorem excB_ok {K : PySem.W.Frag} {D : Addr} (h : excB K D = true) : ExcC K D := by
  obtain ⟨h1, h⟩ := ba h
  obtain ⟨h2, h⟩ := ba h
  obtain ⟨h3, h⟩ := ba h
  obtain ⟨h4, h⟩ := ba h
  obtain ⟨h5, h⟩ := ba h
  obtain ⟨h6, h⟩ := ba h
  obtain ⟨h7, h8⟩ := ba h
  exact ⟨eqO_ok h1, eqO_ok h2, of_decide_eq_true h3, h4, eqO_ok h5, eqO_ok h6, of_decide_eq_true h7, of_decide_eq_true h8⟩
def isC (K : PySem.W.Frag) (C : Addr) : Bool := (PySem.W.clsIn K C).isSome
def supB (P : Program) (K : PySem.W.Frag) (f D C g : Addr) : Bool := cellB K (ccOf K f) D && (fileB K P (cdOf K f) && (isC K D && (isC K C && (decide (PySem.W.mroIn K C (.ref D) = some true) &&
  (eqO (PySem.W.ks_superIn K C D "__init__") (some (some (.ref g))) && (decide (PySem.W.typeIn K (.ref g) = some (.type "function")) && (PySem.W.fnIn K g && (eqO (PySem.W.nsIn K cStatics "thirdparty.any") (some none) && Nat.blt 0 (cdOf K f)))))))))
def supXB (P : Program) (K : PySem.W.Frag) (f D C : Addr) : Bool := cellB K (ccOf K f) D && (fileB K P (cdOf K f) && (isC K D && (isC K C && (decide (PySem.W.mroIn K C (.ref D) = some true) &&
  (eqO (PySem.W.ks_superIn K C D "__init__") (some (some (.builtin "ValueError.__init__"))) && (decide (PySem.W.subIn K (.ref C) (.type "ValueError") = some true) && (eqO (PySem.W.nsIn K cStatics "thirdparty.any") (some none) && Nat.blt 0 (cdOf K f))))))))
theorem FunS.first {K : PySem.W.Frag} {x qual : Str} {st : Stmt} {f cc cda D : Addr} {dV : Value} {slf : Str} (F : FunS K x qual st f cc cda D dV) (h : ((defArgs st).posonlyargs ++ (defArgs st).args).head?.map (·.arg) = some slf) :
    ∃ oc od fd osl ar, K.lookup f = some ⟨oc, od, .func fd, osl⟩ ∧ (fd.params.posonlyargs ++ fd.params.args).head? = some ar ∧ ar.arg = slf := by
  obtain ⟨oc, od, kV, doc, pm, an, ct, osl, lk, _⟩ := F
  obtain ⟨ar, h1, h2⟩ := Option.map_eq_some_iff.mp h
  exact ⟨_, _, _, _, ar, lk, h1, h2⟩
theorem sup_mk {P : Program} {K : PySem.W.Frag} {mg : Str → Option Value} {x qual : Str} {st : Stmt} {f D C g : Addr} {dV : Value} {slf : Str} (F : FunS K x qual st f (ccOf K f) (cdOf K f) D dV) (h : supB P K f D C g = true)
    (hs : ((defArgs st).posonlyargs ++ (defArgs st).args).head?.map (·.arg) = some slf) (hm : mg "super" = none) (ht : (P.main.scope.names.lookup ("super" : Str)).isSome = false) : Sup P K mg f (ccOf K f) (cdOf K f) D C g slf := by
  obtain ⟨h1, h⟩ := ba h
  obtain ⟨h2, h⟩ := ba h
  obtain ⟨h3, h⟩ := ba h
  obtain ⟨h4, h⟩ := ba h
  obtain ⟨h5, h⟩ := ba h
  obtain ⟨h6, h⟩ := ba h
  obtain ⟨h7, h⟩ := ba h
  obtain ⟨h8, h⟩ := ba h
  obtain ⟨h9, h10⟩ := ba h
  exact ⟨F.first hs, fileB_ok h2, cellB_ok h1, Option.isSome_iff_exists.mp h3, Option.isSome_iff_exists.mp h4, of_decide_eq_true h5, eqO_ok h6, of_decide_eq_true h7, h8, eqO_ok h9, hm, ht⟩
theorem supX_mk {P : Program} {K : PySem.W.Frag} {mg : Str → Option Value} {x qual : Str} {st : Stmt} {f D C : Addr} {dV : Value} {slf : Str} (F : FunS K x qual st f (ccOf K f) (cdOf K f) D dV) (h : supXB P K f D C = true)
    (hs : ((defArgs st).posonlyargs ++ (defArgs st).args).head?.map (·.arg) = some slf) (hm : mg "super" = none) (ht : (P.main.scope.names.lookup ("super" : Str)).isSome = false) : SupX P K mg f (ccOf K f) (cdOf K f) D C slf := by
  obtain ⟨h1, h⟩ := ba h
  obtain ⟨h2, h⟩ := ba h
  obtain ⟨h3, h⟩ := ba h
  obtain ⟨h4, h⟩ := ba h
  obtain ⟨h5, h⟩ := ba h
  obtain ⟨h6, h⟩ := ba h
  obtain ⟨h7, h⟩ := ba h
  obtain ⟨h8, h9⟩ := ba h
  exact ⟨F.first hs, fileB_ok h2, cellB_ok h1, Option.isSome_iff_exists.mp h3, Option.isSome_iff_exists.mp h4, of_decide_eq_true h5, eqO_ok h6, of_decide_eq_true h7, eqO_ok h8, hm, ht⟩
end L2.WB
namespace L2.WB
open PySem PySem.Spec PyProof.Rows
open He (ga ma eqO eqO_ok ba Fa glo_ok free_ok int_ok str_ok cls_ok noat_ok meth_ok mkr_ok exm_ok)
open K02 (T isL isK isI lthen leither lagain)
def prg : Program := PySem.Challenge.pw_waysbyviews_k02_pattern_refused
def aC (K : PySem.W.Frag) : Ad where
  WaysError := ga K "WaysError"
  BadText := ga K "BadText"
  BadItem := ga K "BadItem"
  TooLong := ga K "TooLong"
  TooDeep := ga K "TooDeep"
  Pattern := ga K "Pattern"
  Nothing := ga K "Nothing"
  Stay := ga K "Stay"
  Step := ga K "Step"
  Test := ga K "Test"
  Then := ga K "Then"
  Either := ga K "Either"
  Many := ga K "Many"
def dsP : List Dd := [
  ⟨fun K => ga K "is_letter", "is_letter", "is_letter", s_is_letter, [], false⟩,
  ⟨fun K => ga K "is_mark", "is_mark", "is_mark", s_is_mark, [], false⟩,
  ⟨fun K => ga K "is_step", "is_step", "is_step", s_is_step, [], false⟩,
  ⟨fun K => ga K "is_item", "is_item", "is_item", s_is_item, [], false⟩,
  ⟨fun K => ga K "_in_brackets", "_in_brackets", "_in_brackets", s__in_brackets, [], false⟩,
  ⟨fun K => ga K "then", "then", "then", s_then, [], false⟩,
  ⟨fun K => ga K "either", "either", "either", s_either, [], false⟩,
  ⟨fun K => ga K "again", "again", "again", s_again, [], false⟩,
  ⟨fun K => ga K "read_pattern", "read_pattern", "read_pattern", s_read_pattern, [], false⟩,
  ⟨fun K => ga K "_signs_of", "_signs_of", "_signs_of", s__signs_of, [], false⟩,
  ⟨fun K => ga K "_sign_at", "_sign_at", "_sign_at", s__sign_at, [], false⟩,
  ⟨fun K => ga K "_may_stand", "_may_stand", "_may_stand", s__may_stand, [], false⟩,
  ⟨fun K => ga K "_built", "_built", "_built", s__built, [], false⟩,
  ⟨fun K => ga K "_alternative", "_alternative", "_alternative", s__alternative, [], false⟩,
  ⟨fun K => ga K "_base", "_base", "_base", s__base, [], false⟩,
  ⟨fun K => ga K "_law_take", "_law_take", "_law_take", s__law_take, [], false⟩,
  ⟨fun K => ga K "_law_item", "_law_item", "_law_item", s__law_item, [], false⟩,
  ⟨fun K => ga K "_law_raw", "_law_raw", "_law_raw", s__law_raw, [], false⟩,
  ⟨fun K => ga K "_law_then", "_law_then", "_law_then", s__law_then, [], false⟩,
  ⟨fun K => ga K "_law_either", "_law_either", "_law_either", s__law_either, [], false⟩,
  ⟨fun K => ga K "_law_again", "_law_again", "_law_again", s__law_again, [], false⟩,
  ⟨fun K => ga K "_law_text", "_law_text", "_law_text", s__law_text, [], false⟩,
  ⟨fun K => ga K "_law_depth", "_law_depth", "_law_depth", s__law_depth, [], false⟩,
  ⟨fun K => ga K "_law_signs", "_law_signs", "_law_signs", s__law_signs, [], false⟩,
  ⟨fun K => ga K "_law_spaced", "_law_spaced", "_law_spaced", s__law_spaced, [], false⟩,
  ⟨fun K => ga K "_law_read", "_law_read", "_law_read", s__law_read, [], false⟩,
  ⟨fun K => ga K "_law_told", "_law_told", "_law_told", s__law_told, [], false⟩,
  ⟨fun K => ga K "_law_asked", "_law_asked", "_law_asked", s__law_asked, [], false⟩,
  ⟨fun K => ga K "_law_bent", "_law_bent", "_law_bent", s__law_bent, [], false⟩,
  ⟨fun K => ga K "_law_brackets", "_law_brackets", "_law_brackets", s__law_brackets, [], false⟩,
  ⟨fun K => ga K "_law_items", "_law_items", "_law_items", s__law_items, [], false⟩,
  ⟨fun K => ga K "_law_deep", "_law_deep", "_law_deep", s__law_deep, [], false⟩,
  ⟨fun K => ga K "law", "law", "law", s_law, [], false⟩]
def dsM : List Dd := [
  ⟨fun K => ma K (ga K "Pattern") "__init__", "__init__", "Pattern.__init__", s_Pattern_init, [], false⟩,
  ⟨fun K => ma K (ga K "Pattern") "text", "text", "Pattern.text", s_Pattern_text, [], false⟩,
  ⟨fun K => ma K (ga K "BadText") "__init__", "__init__", "BadText.__init__", s_BadText_init, ["__class__"], false⟩,
  ⟨fun K => ma K (ga K "TooLong") "__init__", "__init__", "TooLong.__init__", s_TooLong_init, ["__class__"], false⟩,
  ⟨fun K => ma K (ga K "TooDeep") "__init__", "__init__", "TooDeep.__init__", s_TooDeep_init, ["__class__"], false⟩,
  ⟨fun K => ma K (ga K "Nothing") "__init__", "__init__", "Nothing.__init__", s_Nothing_init, ["__class__"], false⟩,
  ⟨fun K => ma K (ga K "Stay") "__init__", "__init__", "Stay.__init__", s_Stay_init, ["__class__"], false⟩,
  ⟨fun K => ma K (ga K "Step") "__init__", "__init__", "Step.__init__", s_Step_init, ["__class__"], true⟩,
  ⟨fun K => ma K (ga K "Test") "__init__", "__init__", "Test.__init__", s_Test_init, ["__class__"], false⟩,
  ⟨fun K => ma K (ga K "Then") "__init__", "__init__", "Then.__init__", s_Then_init, ["__class__"], false⟩,
  ⟨fun K => ma K (ga K "Either") "__init__", "__init__", "Either.__init__", s_Either_init, ["__class__"], false⟩,
  ⟨fun K => ma K (ga K "Many") "__init__", "__init__", "Many.__init__", s_Many_init, ["__class__"], false⟩]
def ds : List Dd := dsP ++ dsM
def tn : Tg → Str
  | .Nothing => "Nothing"
  | .Stay => "Stay"
  | .Step => "Step"
  | .Test => "Test"
  | .Then => "Then"
  | .Either => "Either"
  | .Many => "Many"
def allTg : List Tg := [.Nothing, .Stay, .Step, .Test, .Then, .Either, .Many]
theorem mem_tg (g : Tg) : g ∈ allTg := by cases g <;> decide
def xn : Xg → Str
  | .BadText => "BadText"
  | .BadItem => "BadItem"
  | .TooLong => "TooLong"
  | .TooDeep => "TooDeep"
def allXg : List Xg := [.BadText, .BadItem, .TooLong, .TooDeep]
theorem mem_xg (g : Xg) : g ∈ allXg := by cases g <;> decide
theorem at_tn (K : PySem.W.Frag) (g : Tg) : (aC K).at g = ga K (tn g) := by cases g <;> rfl
theorem at_xn (K : PySem.W.Frag) (g : Xg) : (aC K).xat g = ga K (xn g) := by cases g <;> rfl
def fa1 : List Fa := [.free "len", .free "abs", .free "isinstance", .free "sum", .free "max", .free "all", .free "any", .free "int", .free "list", .free "tuple", .free "range", .free "str", .free "bool", .free "ValueError", .free "super", .str "LETTERS" (sOf lowers), .str "MARKS" (sOf uppers), .int "MOST_SIZE" 2000, .int "MOST_DEPTH" 40, .int "MOST_BRACKETS" 60, .glo "WaysError", .glo "BadText", .glo "BadItem", .glo "TooLong", .glo "TooDeep", .glo "Pattern", .glo "Nothing", .glo "Stay", .glo "Step", .glo "Test", .glo "Then", .glo "Either", .glo "Many"]
def fa2 : List Fa := [.glo "is_letter", .glo "is_mark", .glo "is_step", .glo "is_item", .glo "_in_brackets", .glo "then", .glo "either", .glo "again", .glo "read_pattern", .glo "_signs_of", .glo "_sign_at", .glo "_may_stand", .glo "_built", .glo "_alternative", .glo "_base", .glo "_law_take", .glo "_law_item", .glo "_law_raw", .glo "_law_then", .glo "_law_either", .glo "_law_again", .glo "_law_text", .glo "_law_depth", .glo "_law_signs", .glo "_law_spaced", .glo "_law_read", .glo "_law_told", .glo "_law_asked", .glo "_law_bent", .glo "_law_brackets", .glo "_law_items", .glo "_law_deep", .glo "law"]
def attrs : List Str := ["size", "depth", "_text", "_empty", "parts", "letter", "back", "mark", "body"]
def okTg (K : PySem.W.Frag) (g : Tg) : Bool := (Fa.cls (tn g)).ok K && ((attrs.all fun f => (Fa.noat (tn g) f).ok K) && ((Fa.mkr (tn g)).ok K && ((Fa.meth (tn g) "text").ok K && (decide (ma K (ga K (tn g)) "text" = ma K (ga K "Pattern") "text") &&
  (eqO (PySem.W.findIn K (.ref (ga K (tn g))) "__class__") (some (some (.builtin "object.__class__"))) && (decide (PySem.W.mroIn K (ga K (tn g)) (.type "object") = some true) &&
  ((allTg.all fun h => decide (PySem.W.kitOne K (.ref (ga K (tn g))) (.ref (ga K (tn h))) = some (decide (g = h)))) && decide (PySem.W.kitOne K (.ref (ga K (tn g))) (.ref (ga K "Pattern")) = some true))))))))
def okTy (K : PySem.W.Frag) : Bool := eqO (PySem.W.specialIn K (.builtin "object.__class__") "__get__") (some (some (.builtin "getset_descriptor.__get__"))) && decide (PySem.W.takesIn K (.builtin "object.__class__") = some true)
def okXg (K : PySem.W.Frag) (g : Xg) : Bool := decide (PySem.W.exmOne K (.ref (ga K (xn g))) (.ref (ga K "WaysError")) = some true) && (excB K (ga K (xn g)) && (decide (PySem.W.kitOne K (.ref (ga K (xn g))) (.type "ValueError") = some true) &&
  ((allXg.all fun h => decide (PySem.W.kitOne K (.ref (ga K (xn g))) (.ref (ga K (xn h))) = some (decide (g = h)))) && L2.xfB K (ga K (xn g)))))
def okEx (K : PySem.W.Frag) (x f : Str) : Bool := oexAll K (ga K x) && (eqO (PySem.W.findIn K (.ref (ga K x)) f) (some none) && (eqO (PySem.W.findIn K (.ref (ga K x)) "__init__") (some (some (.ref (ma K (ga K x) "__init__")))) &&
  (decide (PySem.W.typeIn K (.ref (ma K (ga K x) "__init__")) = some (.type "function")) && supXB prg K (ma K (ga K x) "__init__") (ga K x) (ga K x))))
def okSp (K : PySem.W.Frag) (g : Tg) : Bool := supB prg K (ma K (ga K (tn g)) "__init__") (ga K (tn g)) (ga K (tn g)) (ma K (ga K "Pattern") "__init__")
def okDf (K : PySem.W.Frag) : Bool := seqB K (dfOf K (ma K (ga K "Step") "__init__")) && Nat.blt 0 (dfOf K (ma K (ga K "Step") "__init__"))
def ck (K : PySem.W.Frag) : Bool := (fa1.all fun f => f.ok K) && ((fa2.all fun f => f.ok K) && ((allTg.all fun g => okTg K g) && (okTy K && ((allXg.all fun g => okXg K g) && (okEx K "BadText" "at" && (okEx K "TooLong" "many" && (okEx K "TooDeep" "depth" && ((allTg.all fun g => okSp K g) && okDf K))))))))
theorem noSuper : (prg.main.scope.names.lookup ("super" : Str)).isSome = false := by decide +kernel
structure Facts (K : PySem.W.Frag) (mg : Str → Option Value) (c : Ad) : Prop where
  T : Txt K mg c
  C : ClsF K c
  X : ExF K c
  f_is_letter : DefAt K mg "is_letter" s_is_letter
  f_is_mark : DefAt K mg "is_mark" s_is_mark
  f_is_step : DefAt K mg "is_step" s_is_step
  f_is_item : DefAt K mg "is_item" s_is_item
  f__in_brackets : DefAt K mg "_in_brackets" s__in_brackets
  f_then : DefAt K mg "then" s_then
  f_either : DefAt K mg "either" s_either
  f_again : DefAt K mg "again" s_again
  f_read_pattern : DefAt K mg "read_pattern" s_read_pattern
  f__signs_of : DefAt K mg "_signs_of" s__signs_of
  f__sign_at : DefAt K mg "_sign_at" s__sign_at
  f__may_stand : DefAt K mg "_may_stand" s__may_stand
  f__built : DefAt K mg "_built" s__built
  f__alternative : DefAt K mg "_alternative" s__alternative
  f__base : DefAt K mg "_base" s__base
  f__law_take : DefAt K mg "_law_take" s__law_take
  f__law_item : DefAt K mg "_law_item" s__law_item
  f__law_raw : DefAt K mg "_law_raw" s__law_raw
  f__law_then : DefAt K mg "_law_then" s__law_then
  f__law_either : DefAt K mg "_law_either" s__law_either
  f__law_again : DefAt K mg "_law_again" s__law_again
  f__law_text : DefAt K mg "_law_text" s__law_text
  f__law_depth : DefAt K mg "_law_depth" s__law_depth
  f__law_signs : DefAt K mg "_law_signs" s__law_signs
  f__law_spaced : DefAt K mg "_law_spaced" s__law_spaced
  f__law_read : DefAt K mg "_law_read" s__law_read
  f__law_told : DefAt K mg "_law_told" s__law_told
  f__law_asked : DefAt K mg "_law_asked" s__law_asked
  f__law_bent : DefAt K mg "_law_bent" s__law_bent
  f__law_brackets : DefAt K mg "_law_brackets" s__law_brackets
  f__law_items : DefAt K mg "_law_items" s__law_items
  f__law_deep : DefAt K mg "_law_deep" s__law_deep
  f_law : DefAt K mg "law" s_law
  x_BadText : (XfC K c.BadText ∧ PySem.W.findIn K (.ref c.BadText) "at" = some none) ∧ OexC K c.BadText ∧ ∃ f cc cda, PySem.W.findIn K (.ref c.BadText) "__init__" = some (some (.ref f)) ∧ PySem.W.typeIn K (.ref f) = some (.type "function") ∧ SupX prg K mg f cc cda c.BadText c.BadText "self" ∧ FunS K "__init__" "BadText.__init__" s_BadText_init f cc cda c.BadText .none
  x_TooLong : (XfC K c.TooLong ∧ PySem.W.findIn K (.ref c.TooLong) "many" = some none) ∧ OexC K c.TooLong ∧ ∃ f cc cda, PySem.W.findIn K (.ref c.TooLong) "__init__" = some (some (.ref f)) ∧ PySem.W.typeIn K (.ref f) = some (.type "function") ∧ SupX prg K mg f cc cda c.TooLong c.TooLong "self" ∧ FunS K "__init__" "TooLong.__init__" s_TooLong_init f cc cda c.TooLong .none
  x_TooDeep : (XfC K c.TooDeep ∧ PySem.W.findIn K (.ref c.TooDeep) "depth" = some none) ∧ OexC K c.TooDeep ∧ ∃ f cc cda, PySem.W.findIn K (.ref c.TooDeep) "__init__" = some (some (.ref f)) ∧ PySem.W.typeIn K (.ref f) = some (.type "function") ∧ SupX prg K mg f cc cda c.TooDeep c.TooDeep "self" ∧ FunS K "__init__" "TooDeep.__init__" s_TooDeep_init f cc cda c.TooDeep .none
  text : ∃ f fd, Fun K "text" "Pattern.text" s_Pattern_text f fd ∧ ∀ C ∈ patC c, Meth K C "text" f
  init : ∃ g fd, Fun K "__init__" "Pattern.__init__" s_Pattern_init g fd ∧ (∃ f cc cda, Mk K c.Nothing f ∧ Sup prg K mg f cc cda c.Nothing c.Nothing g "self" ∧ FunS K "__init__" "Nothing.__init__" s_Nothing_init f cc cda c.Nothing .none) ∧ (∃ f cc cda, Mk K c.Stay f ∧ Sup prg K mg f cc cda c.Stay c.Stay g "self" ∧ FunS K "__init__" "Stay.__init__" s_Stay_init f cc cda c.Stay .none) ∧ (∃ f cc cda, Mk K c.Step f ∧ Sup prg K mg f cc cda c.Step c.Step g "self" ∧ (∃ TT, (∃ o y n, K.lookup TT = some o ∧ o.data = .seq #[y] n) ∧ FunS K "__init__" "Step.__init__" s_Step_init f cc cda c.Step (.ref TT))) ∧ (∃ f cc cda, Mk K c.Test f ∧ Sup prg K mg f cc cda c.Test c.Test g "self" ∧ FunS K "__init__" "Test.__init__" s_Test_init f cc cda c.Test .none) ∧ (∃ f cc cda, Mk K c.Then f ∧ Sup prg K mg f cc cda c.Then c.Then g "self" ∧ FunS K "__init__" "Then.__init__" s_Then_init f cc cda c.Then .none) ∧ (∃ f cc cda, Mk K c.Either f ∧ Sup prg K mg f cc cda c.Either c.Either g "self" ∧ FunS K "__init__" "Either.__init__" s_Either_init f cc cda c.Either .none) ∧ (∃ f cc cda, Mk K c.Many f ∧ Sup prg K mg f cc cda c.Many c.Many g "self" ∧ FunS K "__init__" "Many.__init__" s_Many_init f cc cda c.Many .none)
section
variable {K : PySem.W.Frag} {h : Heap} {mg : Str → Option Value}
theorem fact1 (c : (fa1.all fun f => f.ok K) = true) (i : Nat) {f : Fa} (h : fa1[i]? = some f) : f.ok K = true := List.all_eq_true.mp c f (List.mem_of_getElem? h)
theorem fact2 (c : (fa2.all fun f => f.ok K) = true) (i : Nat) {f : Fa} (h : fa2[i]? = some f) : f.ok K = true := List.all_eq_true.mp c f (List.mem_of_getElem? h)
theorem defAt (X : K.In h) (G : h.Ns mainGlobals mg) (c : SaysC ck ds K) (i : Nat) {x : Str} {st : Stmt} (h : ds[i]? = some ⟨fun K => ga K x, x, x, st, [], false⟩) (g : (Fa.glo x).ok K = true) : DefAt K mg x st := by
  obtain ⟨e1, e2⟩ := c.def_ i h
  obtain ⟨fd, F⟩ := Dd.plain e1 e2 rfl rfl
  exact ⟨_, fd, glo_ok X G g, F⟩
theorem supPos {P : Program} {f D C g : Addr} (h : supB P K f D C g = true) : cdOf K f ≠ 0 ∧ cellB K (ccOf K f) D = true := by
  obtain ⟨h1, h⟩ := ba h
  obtain ⟨h2, h⟩ := ba h
  obtain ⟨h3, h⟩ := ba h
  obtain ⟨h4, h⟩ := ba h
  obtain ⟨h5, h⟩ := ba h
  obtain ⟨h6, h⟩ := ba h
  obtain ⟨h7, h⟩ := ba h
  obtain ⟨h8, h⟩ := ba h
  obtain ⟨h9, h10⟩ := ba h
  exact ⟨Nat.ne_of_gt (Nat.le_of_ble_eq_true h10), h1⟩
theorem supXPos {P : Program} {f D C : Addr} (h : supXB P K f D C = true) : cdOf K f ≠ 0 ∧ cellB K (ccOf K f) D = true := by
  obtain ⟨h1, h⟩ := ba h
  obtain ⟨h2, h⟩ := ba h
  obtain ⟨h3, h⟩ := ba h
  obtain ⟨h4, h⟩ := ba h
  obtain ⟨h5, h⟩ := ba h
  obtain ⟨h6, h⟩ := ba h
  obtain ⟨h7, h⟩ := ba h
  obtain ⟨h8, h9⟩ := ba h
  exact ⟨Nat.ne_of_gt (Nat.le_of_ble_eq_true h9), h1⟩
theorem exAt {x fld : Str} {st : Stmt} {qual : Str} {dfl : Bool} (hdf : dfl = false) (c : SaysC ck ds K) (i : Nat) (h : ds[i]? = some ⟨fun K => ma K (ga K x) "__init__", "__init__", qual, st, ["__class__"], dfl⟩) (hs : ((defArgs st).posonlyargs ++ (defArgs st).args).head?.map (·.arg) = some ("self" : Str))
    (ho : okEx K x fld = true) (hx : XfC K (ga K x)) (hm : mg "super" = none) : (XfC K (ga K x) ∧ PySem.W.findIn K (.ref (ga K x)) fld = some none) ∧ OexC K (ga K x) ∧ ∃ f cc cda, PySem.W.findIn K (.ref (ga K x)) "__init__" = some (some (.ref f)) ∧ PySem.W.typeIn K (.ref f) = some (.type "function") ∧ SupX prg K mg f cc cda (ga K x) (ga K x) "self" ∧ FunS K "__init__" qual st f cc cda (ga K x) .none := by
  obtain ⟨h1, ho⟩ := ba ho
  obtain ⟨h2, ho⟩ := ba ho
  obtain ⟨h3, ho⟩ := ba ho
  obtain ⟨h4, h5⟩ := ba ho
  obtain ⟨e1, e2⟩ := c.def_ i h
  obtain ⟨p1, p2⟩ := supXPos h5
  obtain ⟨dV, F, d1, _⟩ := Dd.meth (D := ga K x) e1 e2 rfl p1 p2
  obtain rfl := d1 hdf
  exact ⟨⟨hx, eqO_ok h2⟩, oex_ok h1, _, _, _, eqO_ok h3, of_decide_eq_true h4, supX_mk F h5 hs hm noSuper, F⟩
theorem spAt {g : Tg} {st : Stmt} {qual : Str} {dfl : Bool} (hdf : dfl = false) (c : SaysC ck ds K) (i : Nat) (h : ds[i]? = some ⟨fun K => ma K (ga K (tn g)) "__init__", "__init__", qual, st, ["__class__"], dfl⟩) (hs : ((defArgs st).posonlyargs ++ (defArgs st).args).head?.map (·.arg) = some ("self" : Str))
    (ho : okSp K g = true) (hk : (Fa.mkr (tn g)).ok K = true) (hm : mg "super" = none) : ∃ f cc cda, Mk K (ga K (tn g)) f ∧ Sup prg K mg f cc cda (ga K (tn g)) (ga K (tn g)) (ma K (ga K "Pattern") "__init__") "self" ∧ FunS K "__init__" qual st f cc cda (ga K (tn g)) .none := by
  obtain ⟨e1, e2⟩ := c.def_ i h
  obtain ⟨p1, p2⟩ := supPos ho
  obtain ⟨dV, F, d1, _⟩ := Dd.meth (D := ga K (tn g)) e1 e2 rfl p1 p2
  obtain rfl := d1 hdf
  exact ⟨_, _, _, mkr_ok hk, sup_mk F ho hs hm noSuper, F⟩
theorem spAtD {g : Tg} {st : Stmt} {qual : Str} {dfl : Bool} (c : SaysC ck ds K) (i : Nat) (h : ds[i]? = some ⟨fun K => ma K (ga K (tn g)) "__init__", "__init__", qual, st, ["__class__"], dfl⟩) (hs : ((defArgs st).posonlyargs ++ (defArgs st).args).head?.map (·.arg) = some ("self" : Str))
    (ho : okSp K g = true) (hk : (Fa.mkr (tn g)).ok K = true) (hm : mg "super" = none) (hT : (seqB K (dfOf K (ma K (ga K (tn g)) "__init__")) && Nat.blt 0 (dfOf K (ma K (ga K (tn g)) "__init__"))) = true) : ∃ f cc cda, Mk K (ga K (tn g)) f ∧ Sup prg K mg f cc cda (ga K (tn g)) (ga K (tn g)) (ma K (ga K "Pattern") "__init__") "self" ∧ ∃ TT, (∃ o y n, K.lookup TT = some o ∧ o.data = .seq #[y] n) ∧ FunS K "__init__" qual st f cc cda (ga K (tn g)) (.ref TT) := by
  obtain ⟨e1, e2⟩ := c.def_ i h
  obtain ⟨p1, p2⟩ := supPos ho
  obtain ⟨dV, F, _, d2⟩ := Dd.meth (D := ga K (tn g)) e1 e2 rfl p1 p2
  obtain rfl := d2 (Nat.ne_of_gt (Nat.le_of_ble_eq_true (ba hT).2))
  exact ⟨_, _, _, mkr_ok hk, sup_mk F ho hs hm noSuper, _, seqB_ok (ba hT).1, F⟩
theorem facts_of (X : K.In h) (G : h.Ns mainGlobals mg) (c : SaysC ck ds K) : Facts K mg (aC K) := by
  obtain ⟨c1, b⟩ := ba c.chk
  obtain ⟨c2, b⟩ := ba b
  obtain ⟨c3, b⟩ := ba b
  obtain ⟨c4, b⟩ := ba b
  obtain ⟨c5, b⟩ := ba b
  obtain ⟨c6, b⟩ := ba b
  obtain ⟨c7, b⟩ := ba b
  obtain ⟨c8, b⟩ := ba b
  obtain ⟨c9, c10⟩ := ba b
  have tg : ∀ g, okTg K g = true := fun g => List.all_eq_true.mp c3 g (mem_tg g)
  have sg : ∀ g, okSp K g = true := fun g => List.all_eq_true.mp c9 g (mem_tg g)
  have xg : ∀ g, okXg K g = true := fun g => List.all_eq_true.mp c5 g (mem_xg g)
  have clF : ClsF K (aC K) := by
    refine ⟨fun g => ?_, fun g => ?_, fun g => ?_, ?_, fun g h => ?_, fun g => ?_⟩
    · rw [at_tn]; exact cls_ok (ba (tg g)).1
    · rw [at_tn]
      have q := (ba (ba (tg g)).2).1
      have q2 : ∀ f ∈ attrs, NoAttr K (ga K (tn g)) f := fun f hf => noat_ok (List.all_eq_true.mp q f hf)
      exact ⟨q2 _ (by decide), q2 _ (by decide), q2 _ (by decide), q2 _ (by decide), q2 _ (by decide), q2 _ (by decide), q2 _ (by decide), q2 _ (by decide), q2 _ (by decide)⟩
    · rw [at_tn]
      have q := (ba (ba (ba (ba (ba (tg g)).2).2).2).2).2
      exact ⟨eqO_ok (ba q).1, of_decide_eq_true (ba (ba q).2).1⟩
    · exact ⟨eqO_ok (ba c4).1, of_decide_eq_true (ba c4).2⟩
    · rw [at_tn, at_tn]
      have q := (ba (ba (ba (ba (ba (ba (ba (tg g)).2).2).2).2).2).2).2
      exact of_decide_eq_true (List.all_eq_true.mp (ba q).1 h (mem_tg h))
    · rw [at_tn]
      have q := (ba (ba (ba (ba (ba (ba (ba (tg g)).2).2).2).2).2).2).2
      exact of_decide_eq_true (ba q).2
  have xF : ExF K (aC K) := by
    refine ⟨fun g => ?_, fun g => ?_, fun g => ?_, fun g h => ?_⟩
    · rw [at_xn]; exact of_decide_eq_true (ba (xg g)).1
    · rw [at_xn]; exact excB_ok (ba (ba (xg g)).2).1
    · rw [at_xn]; exact of_decide_eq_true (ba (ba (ba (xg g)).2).2).1
    · rw [at_xn, at_xn]
      exact of_decide_eq_true (List.all_eq_true.mp (ba (ba (ba (ba (xg g)).2).2).2).1 h (mem_xg h))
  have xf : ∀ g, XfC K (ga K (xn g)) := fun g => xfB_ok (ba (ba (ba (ba (xg g)).2).2).2).2
  have mk : ∀ g, (Fa.mkr (tn g)).ok K = true := fun g => (ba (ba (ba (tg g)).2).2).1
  have tx : ∀ g, Meth K (ga K (tn g)) "text" (ma K (ga K "Pattern") "text") := fun g => by
    have q := (ba (ba (ba (ba (tg g)).2).2).2)
    have e := of_decide_eq_true (ba q.2).1
    rw [← e]
    exact meth_ok q.1
  have hsu : mg "super" = none := free_ok X G (fact1 c1 14 rfl)
  have tF : Txt K mg (aC K) := ⟨free_ok X G (fact1 c1 0 rfl),
    free_ok X G (fact1 c1 1 rfl),
    free_ok X G (fact1 c1 2 rfl),
    free_ok X G (fact1 c1 3 rfl),
    free_ok X G (fact1 c1 4 rfl),
    free_ok X G (fact1 c1 5 rfl),
    free_ok X G (fact1 c1 6 rfl),
    free_ok X G (fact1 c1 7 rfl),
    free_ok X G (fact1 c1 8 rfl),
    free_ok X G (fact1 c1 9 rfl),
    free_ok X G (fact1 c1 10 rfl),
    free_ok X G (fact1 c1 11 rfl),
    free_ok X G (fact1 c1 12 rfl),
    free_ok X G (fact1 c1 13 rfl),
    (by obtain ⟨t, e⟩ := str_ok X G (fact1 c1 15 (f := .str "LETTERS" (sOf lowers)) rfl); exact ⟨_, e, t, rfl⟩),
    (by obtain ⟨t, e⟩ := str_ok X G (fact1 c1 16 (f := .str "MARKS" (sOf uppers)) rfl); exact ⟨_, e, t, rfl⟩),
    (by obtain ⟨t, e⟩ := int_ok X G (fact1 c1 17 (f := .int "MOST_SIZE" 2000) rfl); exact ⟨_, e, t, rfl⟩),
    (by obtain ⟨t, e⟩ := int_ok X G (fact1 c1 18 (f := .int "MOST_DEPTH" 40) rfl); exact ⟨_, e, t, rfl⟩),
    (by obtain ⟨t, e⟩ := int_ok X G (fact1 c1 19 (f := .int "MOST_BRACKETS" 60) rfl); exact ⟨_, e, t, rfl⟩),
    ⟨_, glo_ok X G (fact1 c1 20 (f := .glo "WaysError") rfl), rfl⟩,
    ⟨_, glo_ok X G (fact1 c1 21 (f := .glo "BadText") rfl), rfl⟩,
    ⟨_, glo_ok X G (fact1 c1 22 (f := .glo "BadItem") rfl), rfl⟩,
    ⟨_, glo_ok X G (fact1 c1 23 (f := .glo "TooLong") rfl), rfl⟩,
    ⟨_, glo_ok X G (fact1 c1 24 (f := .glo "TooDeep") rfl), rfl⟩,
    ⟨_, glo_ok X G (fact1 c1 25 (f := .glo "Pattern") rfl), rfl⟩,
    ⟨_, glo_ok X G (fact1 c1 26 (f := .glo "Nothing") rfl), rfl⟩,
    ⟨_, glo_ok X G (fact1 c1 27 (f := .glo "Stay") rfl), rfl⟩,
    ⟨_, glo_ok X G (fact1 c1 28 (f := .glo "Step") rfl), rfl⟩,
    ⟨_, glo_ok X G (fact1 c1 29 (f := .glo "Test") rfl), rfl⟩,
    ⟨_, glo_ok X G (fact1 c1 30 (f := .glo "Then") rfl), rfl⟩,
    ⟨_, glo_ok X G (fact1 c1 31 (f := .glo "Either") rfl), rfl⟩,
    ⟨_, glo_ok X G (fact1 c1 32 (f := .glo "Many") rfl), rfl⟩⟩
  exact ⟨tF, clF, xF,
    defAt X G c 0 rfl (fact2 c2 0 rfl),
    defAt X G c 1 rfl (fact2 c2 1 rfl),
    defAt X G c 2 rfl (fact2 c2 2 rfl),
    defAt X G c 3 rfl (fact2 c2 3 rfl),
    defAt X G c 4 rfl (fact2 c2 4 rfl),
    defAt X G c 5 rfl (fact2 c2 5 rfl),
    defAt X G c 6 rfl (fact2 c2 6 rfl),
    defAt X G c 7 rfl (fact2 c2 7 rfl),
    defAt X G c 8 rfl (fact2 c2 8 rfl),
    defAt X G c 9 rfl (fact2 c2 9 rfl),
    defAt X G c 10 rfl (fact2 c2 10 rfl),
    defAt X G c 11 rfl (fact2 c2 11 rfl),
    defAt X G c 12 rfl (fact2 c2 12 rfl),
    defAt X G c 13 rfl (fact2 c2 13 rfl),
    defAt X G c 14 rfl (fact2 c2 14 rfl),
    defAt X G c 15 rfl (fact2 c2 15 rfl),
    defAt X G c 16 rfl (fact2 c2 16 rfl),
    defAt X G c 17 rfl (fact2 c2 17 rfl),
    defAt X G c 18 rfl (fact2 c2 18 rfl),
    defAt X G c 19 rfl (fact2 c2 19 rfl),
    defAt X G c 20 rfl (fact2 c2 20 rfl),
    defAt X G c 21 rfl (fact2 c2 21 rfl),
    defAt X G c 22 rfl (fact2 c2 22 rfl),
    defAt X G c 23 rfl (fact2 c2 23 rfl),
    defAt X G c 24 rfl (fact2 c2 24 rfl),
    defAt X G c 25 rfl (fact2 c2 25 rfl),
    defAt X G c 26 rfl (fact2 c2 26 rfl),
    defAt X G c 27 rfl (fact2 c2 27 rfl),
    defAt X G c 28 rfl (fact2 c2 28 rfl),
    defAt X G c 29 rfl (fact2 c2 29 rfl),
    defAt X G c 30 rfl (fact2 c2 30 rfl),
    defAt X G c 31 rfl (fact2 c2 31 rfl),
    defAt X G c 32 rfl (fact2 c2 32 rfl),
    exAt (x := "BadText") rfl c 35 rfl rfl c6 (xf .BadText) hsu,
    exAt (x := "TooLong") rfl c 36 rfl rfl c7 (xf .TooLong) hsu,
    exAt (x := "TooDeep") rfl c 37 rfl rfl c8 (xf .TooDeep) hsu,
    (by obtain ⟨e1, e2⟩ := c.def_ 34 rfl; obtain ⟨fd, F⟩ := Dd.plain e1 e2 rfl rfl; exact ⟨_, fd, F, fun C hC => by
      simp only [patC, List.mem_cons, List.not_mem_nil, or_false] at hC
      rcases hC with rfl | rfl | rfl | rfl | rfl | rfl | rfl
      · exact tx .Nothing
      · exact tx .Stay
      · exact tx .Step
      · exact tx .Test
      · exact tx .Then
      · exact tx .Either
      · exact tx .Many
    ⟩),
    (by obtain ⟨e1, e2⟩ := c.def_ 33 rfl; obtain ⟨fd, F⟩ := Dd.plain e1 e2 rfl rfl; exact ⟨_, fd, F, spAt (g := .Nothing) rfl c 38 rfl rfl (sg .Nothing) (mk .Nothing) hsu, spAt (g := .Stay) rfl c 39 rfl rfl (sg .Stay) (mk .Stay) hsu, spAtD (g := .Step) c 40 rfl rfl (sg .Step) (mk .Step) hsu c10, spAt (g := .Test) rfl c 41 rfl rfl (sg .Test) (mk .Test) hsu, spAt (g := .Then) rfl c 42 rfl rfl (sg .Then) (mk .Then) hsu, spAt (g := .Either) rfl c 43 rfl rfl (sg .Either) (mk .Either) hsu, spAt (g := .Many) rfl c 44 rfl rfl (sg .Many) (mk .Many) hsu⟩)⟩
end
end L2.WB
namespace L2.WB
open PySem PySem.Spec PyProof.Rows
open K02 (T isL isK isI lthen leither lagain)
section
variable {w : World} {K : PySem.W.Frag} {mg : Str → Option Value} {base : Heap} {c : Ad}
theorem len1 {f : List Nat → Bool} : Len (spB f) 1 := fun _ _ _ _ ⟨_, e, _⟩ => by rw [e]; rfl
abbrev CXp (w : World) : CXT := L2.CX prg w
theorem g_is_letter (F : Facts K mg c) : Has prg w K mg base CX0 2 "is_letter" (spB isLs) :=
  has0 0 F.f_is_letter sc_is_letter (fun vs H Q E h => by obtain ⟨_, rfl, _⟩ := h; rfl) (fun _ _ _ _ _ _ us hl => match us, hl with | [_], _ => rfl) (fun f cdv A outer s0 H0 E hr => d_is_letter F.T hr ) fun vs H Q E h => q_is_letter h
theorem g_is_mark (F : Facts K mg c) : Has prg w K mg base CX0 2 "is_mark" (spB isKs) :=
  has0 0 F.f_is_mark sc_is_mark (fun vs H Q E h => by obtain ⟨_, rfl, _⟩ := h; rfl) (fun _ _ _ _ _ _ us hl => match us, hl with | [_], _ => rfl) (fun f cdv A outer s0 H0 E hr => d_is_mark F.T hr ) fun vs H Q E h => q_is_mark h
theorem g_is_step (F : Facts K mg c) : Has prg w K mg base CX0 4 "is_step" (spB stepB) :=
  has0 2 F.f_is_step sc_is_step (fun vs H Q E h => by obtain ⟨_, rfl, _⟩ := h; rfl) (fun _ _ _ _ _ _ us hl => match us, hl with | [_], _ => rfl) (fun f cdv A outer s0 H0 E hr => d_is_step F.T hr (g_is_letter F)) fun vs H Q E h => q_is_step h
theorem g_is_item (F : Facts K mg c) : Has prg w K mg base CX0 6 "is_item" (spB isI) :=
  has0 4 F.f_is_item sc_is_item (fun vs H Q E h => by obtain ⟨_, rfl, _⟩ := h; rfl) (fun _ _ _ _ _ _ us hl => match us, hl with | [_], _ => rfl) (fun f cdv A outer s0 H0 E hr => d_is_item F.T hr (g_is_step F) ((g_is_mark F).mono (by decide))) fun vs H Q E h => q_is_item h
theorem g__in_brackets (F : Facts K mg c) : Has prg w K mg base CX0 2 "_in_brackets" (spInBr c) :=
  has0 0 F.f__in_brackets sc__in_brackets (fun vs H Q E h => by obtain ⟨_, _, rfl, _⟩ := h; rfl) (fun _ _ _ _ _ _ us hl => match us, hl with | [_], _ => rfl) (fun f cdv A outer s0 H0 E hr => d__in_brackets F.T hr ) fun vs H Q E h => q__in_brackets F.C h
theorem g__may_stand (F : Facts K mg c) : Has prg w K mg base CX0 8 "_may_stand" spMay :=
  has0 6 F.f__may_stand sc__may_stand (fun vs H Q E h => by obtain ⟨_, _, _, rfl, _⟩ := h; rfl) (fun _ _ _ _ _ _ us hl => match us, hl with | [_, _, _], _ => rfl) (fun f cdv A outer s0 H0 E hr => d__may_stand F.T hr (g_is_item F)) fun vs H Q E h => q__may_stand h
theorem e_BadText (F : Facts K mg c) : ExK prg w K mg base 2 "BadText" c.BadText "at" := by
  obtain ⟨⟨x1, x2⟩, ox, fI, cc, cda, i1, i2, S, G⟩ := F.x_BadText
  obtain ⟨u, hu, ru⟩ := F.T.g_BadText
  cases ru
  obtain ⟨fd, b, k⟩ := fnS (P := prg) (w := w) (mg := mg) (base := base) (CX1 := CX0) (sp := spEx K c.BadText "at") (t := fun _ => t_BadText_init K c.BadText) 0 G sc_BadText_init (fun vs H Q E h => by obtain ⟨_, _, rfl, _⟩ := h; rfl) (bindsS fun _ _ _ _ _ _ us hl => match us, hl with | [_, _], _ => rfl) (fun A outer s0 H0 E hr => d_BadText_init S) fun vs H Q E h => q_exc h
  exact ⟨hu, ox, x2, fI, fd, _, i1, i2, b, k⟩
theorem e_TooLong (F : Facts K mg c) : ExK prg w K mg base 2 "TooLong" c.TooLong "many" := by
  obtain ⟨⟨x1, x2⟩, ox, fI, cc, cda, i1, i2, S, G⟩ := F.x_TooLong
  obtain ⟨u, hu, ru⟩ := F.T.g_TooLong
  cases ru
  obtain ⟨fd, b, k⟩ := fnS (P := prg) (w := w) (mg := mg) (base := base) (CX1 := CX0) (sp := spEx K c.TooLong "many") (t := fun _ => t_TooLong_init K c.TooLong) 0 G sc_TooLong_init (fun vs H Q E h => by obtain ⟨_, _, rfl, _⟩ := h; rfl) (bindsS fun _ _ _ _ _ _ us hl => match us, hl with | [_, _], _ => rfl) (fun A outer s0 H0 E hr => d_TooLong_init S) fun vs H Q E h => q_exc h
  exact ⟨hu, ox, x2, fI, fd, _, i1, i2, b, k⟩
theorem e_TooDeep (F : Facts K mg c) : ExK prg w K mg base 2 "TooDeep" c.TooDeep "depth" := by
  obtain ⟨⟨x1, x2⟩, ox, fI, cc, cda, i1, i2, S, G⟩ := F.x_TooDeep
  obtain ⟨u, hu, ru⟩ := F.T.g_TooDeep
  cases ru
  obtain ⟨fd, b, k⟩ := fnS (P := prg) (w := w) (mg := mg) (base := base) (CX1 := CX0) (sp := spEx K c.TooDeep "depth") (t := fun _ => t_TooDeep_init K c.TooDeep) 0 G sc_TooDeep_init (fun vs H Q E h => by obtain ⟨_, _, rfl, _⟩ := h; rfl) (bindsS fun _ _ _ _ _ _ us hl => match us, hl with | [_, _], _ => rfl) (fun A outer s0 H0 E hr => d_TooDeep_init S) fun vs H Q E h => q_exc h
  exact ⟨hu, ox, x2, fI, fd, _, i1, i2, b, k⟩
theorem g_init {g : Addr} {fd : FuncData} (F : Facts K mg c) (G : Fun K "__init__" "Pattern.__init__" s_Pattern_init g fd) : FnR prg w K mg base (CXp w) 4 g (spPat K c) := by
  have H : FnOk prg w K mg base (CXp w) 4 g fd ["self", "size", "depth", "text", "empty"] (spPat K c) := G.okX sc_Pattern_init (fun vs H Q E h => by obtain ⟨_, _, _, _, _, _, _, rfl, _⟩ := h; rfl) (k := 3) fun cdv A outer s H vs Q E hr h => ⟨t_Pattern_init K c E, d_Pattern_init F.T hr (e_TooDeep F), q_Pattern_init F.C h⟩
  exact (H.raw (G.binds fun _ _ _ _ _ _ us hl => match us, hl with | [_, _, _, _, _], _ => rfl) .nil).imp fun vs H Q E h => by rw [List.append_nil]; exact h
theorem g_text (F : Facts K mg c) : HasText prg w K mg base 2 c := by
  obtain ⟨f, fd, G, hm⟩ := F.text
  have H : FnOk prg w K mg base CX0 2 f fd ["self"] (spText K) := G.ok sc_Pattern_text (fun vs H Q E h => by obtain ⟨_, _, _, _, _, rfl, _⟩ := h; rfl) (k := 1) fun cdv A outer s H vs Q E hr h => ⟨t_Pattern_text K c, d_Pattern_text F.T hr, q_Pattern_text h⟩
  exact ⟨f, G.kp, (H.raw (G.binds fun _ _ _ _ _ _ us hl => match us, hl with | [_], _ => rfl) .nil).imp fun vs H Q E h => by rw [List.append_nil]; exact h, hm⟩
theorem m_Nothing (F : Facts K mg c) : HasMk prg w K mg base (CXp w) 6 "Nothing" c.Nothing (spNew c .Nothing rNothing) := by
  obtain ⟨g, fd0, G0, i0, i1, i2, i3, i4, i5, i6⟩ := F.init
  obtain ⟨f, cc, cda, mk, S, G⟩ := i0
  obtain ⟨u, hu, ru⟩ := F.T.g_Nothing
  cases ru
  obtain ⟨fd, b, k⟩ := fnS (P := prg) (w := w) (mg := mg) (base := base) (CX1 := CXp w) (sp := spNew c .Nothing rNothing) (t := fun E => t_Nothing_init K c c.Nothing g (spPat K c) E) 4 G sc_Nothing_init (fun vs H Q E h => by obtain ⟨_, _, _, _, rfl, _, ⟨rfl, _⟩, _⟩ := h; rfl) (bindsS fun _ _ _ _ _ _ us hl => match us, hl with | [_], _ => rfl) (fun A outer s0 H0 E hr => d_Nothing_init F.T S (g_init F G0) hr ) fun vs H Q E h => q_Nothing_init h
  exact ⟨f, hu, mk, (k.raw b .nil).imp fun vs H Q E h => by rw [List.append_nil]; exact h⟩
theorem m_Stay (F : Facts K mg c) : HasMk prg w K mg base (CXp w) 6 "Stay" c.Stay (spNew c .Stay rStay) := by
  obtain ⟨g, fd0, G0, i0, i1, i2, i3, i4, i5, i6⟩ := F.init
  obtain ⟨f, cc, cda, mk, S, G⟩ := i1
  obtain ⟨u, hu, ru⟩ := F.T.g_Stay
  cases ru
  obtain ⟨fd, b, k⟩ := fnS (P := prg) (w := w) (mg := mg) (base := base) (CX1 := CXp w) (sp := spNew c .Stay rStay) (t := fun E => t_Stay_init K c c.Stay g (spPat K c) E) 4 G sc_Stay_init (fun vs H Q E h => by obtain ⟨_, _, _, _, rfl, _, ⟨rfl, _⟩, _⟩ := h; rfl) (bindsS fun _ _ _ _ _ _ us hl => match us, hl with | [_], _ => rfl) (fun A outer s0 H0 E hr => d_Stay_init F.T S (g_init F G0) hr ) fun vs H Q E h => q_Stay_init h
  exact ⟨f, hu, mk, (k.raw b .nil).imp fun vs H Q E h => by rw [List.append_nil]; exact h⟩
theorem m_Step (F : Facts K mg c) : HasMk prg w K mg base (CXp w) 6 "Step" c.Step (spNew c .Step rStep) := by
  obtain ⟨g, fd0, G0, i0, i1, i2, i3, i4, i5, i6⟩ := F.init
  obtain ⟨f, cc, cda, mk, S, TT, hT, G⟩ := i2
  obtain ⟨u, hu, ru⟩ := F.T.g_Step
  cases ru
  obtain ⟨fd, b, k⟩ := fnS (P := prg) (w := w) (mg := mg) (base := base) (CX1 := CXp w) (sp := spNew c .Step rStep) (t := fun E => t_Step_init K c c.Step g (spPat K c) (spB isLs) E) 4 G sc_Step_init (fun vs H Q E h => by obtain ⟨_, _, _, _, rfl, _, ⟨_, _, rfl, _⟩, _⟩ := h; rfl) (bindsD hT fun _ _ _ _ _ _ us its hl => match us, hl with | [_, _, _], _ => ⟨_, rfl, rfl⟩) (fun A outer s0 H0 E hr => d_Step_init F.T S (g_init F G0) hr ((g_is_letter F).mono (by decide))) fun vs H Q E h => q_Step_init F.C h
  exact ⟨f, hu, mk, (k.raw b .nil).imp fun vs H Q E h => by rw [List.append_nil]; exact h⟩
theorem m_Test (F : Facts K mg c) : HasMk prg w K mg base (CXp w) 6 "Test" c.Test (spNew c .Test rTest) := by
  obtain ⟨g, fd0, G0, i0, i1, i2, i3, i4, i5, i6⟩ := F.init
  obtain ⟨f, cc, cda, mk, S, G⟩ := i3
  obtain ⟨u, hu, ru⟩ := F.T.g_Test
  cases ru
  obtain ⟨fd, b, k⟩ := fnS (P := prg) (w := w) (mg := mg) (base := base) (CX1 := CXp w) (sp := spNew c .Test rTest) (t := fun E => t_Test_init K c c.Test g (spPat K c) (spB isKs) E) 4 G sc_Test_init (fun vs H Q E h => by obtain ⟨_, _, _, _, rfl, _, ⟨_, rfl, _⟩, _⟩ := h; rfl) (bindsS fun _ _ _ _ _ _ us hl => match us, hl with | [_, _], _ => rfl) (fun A outer s0 H0 E hr => d_Test_init F.T S (g_init F G0) hr ((g_is_mark F).mono (by decide))) fun vs H Q E h => q_Test_init F.C h
  exact ⟨f, hu, mk, (k.raw b .nil).imp fun vs H Q E h => by rw [List.append_nil]; exact h⟩
theorem m_Then (F : Facts K mg c) : HasMk prg w K mg base (CXp w) 6 "Then" c.Then (spNew c .Then (rThen c)) := by
  obtain ⟨g, fd0, G0, i0, i1, i2, i3, i4, i5, i6⟩ := F.init
  obtain ⟨f, cc, cda, mk, S, G⟩ := i4
  obtain ⟨u, hu, ru⟩ := F.T.g_Then
  cases ru
  obtain ⟨fd, b, k⟩ := fnS (P := prg) (w := w) (mg := mg) (base := base) (CX1 := CXp w) (sp := spNew c .Then (rThen c)) (t := fun E => t_Then_init K c c.Then g (spPat K c) (spInBr c) E) 4 G sc_Then_init (fun vs H Q E h => by obtain ⟨_, _, _, _, rfl, _, ⟨_, _, _, rfl, _⟩, _⟩ := h; rfl) (bindsS fun _ _ _ _ _ _ us hl => match us, hl with | [_, _], _ => rfl) (fun A outer s0 H0 E hr => d_Then_init F.T S (g_init F G0) hr ((g__in_brackets F).mono (by decide))) fun vs H Q E h => q_Then_init F.C h
  exact ⟨f, hu, mk, (k.raw b .nil).imp fun vs H Q E h => by rw [List.append_nil]; exact h⟩
theorem m_Either (F : Facts K mg c) : HasMk prg w K mg base (CXp w) 6 "Either" c.Either (spNew c .Either (rEither c)) := by
  obtain ⟨g, fd0, G0, i0, i1, i2, i3, i4, i5, i6⟩ := F.init
  obtain ⟨f, cc, cda, mk, S, G⟩ := i5
  obtain ⟨u, hu, ru⟩ := F.T.g_Either
  cases ru
  obtain ⟨fd, b, k⟩ := fnS (P := prg) (w := w) (mg := mg) (base := base) (CX1 := CXp w) (sp := spNew c .Either (rEither c)) (t := fun E => t_Either_init K c c.Either g (spPat K c) E) 4 G sc_Either_init (fun vs H Q E h => by obtain ⟨_, _, _, _, rfl, _, ⟨_, _, _, rfl, _⟩, _⟩ := h; rfl) (bindsS fun _ _ _ _ _ _ us hl => match us, hl with | [_, _], _ => rfl) (fun A outer s0 H0 E hr => d_Either_init F.T S (g_init F G0) hr ) fun vs H Q E h => q_Either_init F.C h
  exact ⟨f, hu, mk, (k.raw b .nil).imp fun vs H Q E h => by rw [List.append_nil]; exact h⟩
theorem m_Many (F : Facts K mg c) : HasMk prg w K mg base (CXp w) 6 "Many" c.Many (spNew c .Many (rMany c)) := by
  obtain ⟨g, fd0, G0, i0, i1, i2, i3, i4, i5, i6⟩ := F.init
  obtain ⟨f, cc, cda, mk, S, G⟩ := i6
  obtain ⟨u, hu, ru⟩ := F.T.g_Many
  cases ru
  obtain ⟨fd, b, k⟩ := fnS (P := prg) (w := w) (mg := mg) (base := base) (CX1 := CXp w) (sp := spNew c .Many (rMany c)) (t := fun E => t_Many_init K c c.Many g (spPat K c) (spInBr c) E) 4 G sc_Many_init (fun vs H Q E h => by obtain ⟨_, _, _, _, rfl, _, ⟨_, _, rfl, _⟩, _⟩ := h; rfl) (bindsS fun _ _ _ _ _ _ us hl => match us, hl with | [_, _], _ => rfl) (fun A outer s0 H0 E hr => d_Many_init F.T S (g_init F G0) hr ((g__in_brackets F).mono (by decide))) fun vs H Q E h => q_Many_init F.C h
  exact ⟨f, hu, mk, (k.raw b .nil).imp fun vs H Q E h => by rw [List.append_nil]; exact h⟩
theorem g_then (F : Facts K mg c) : Has prg w K mg base (CXp w) 8 "then" (spSeq c lthen) :=
  hasStar 6 F.f_then sc_then (fun _ _ _ _ _ _ rest => by cases rest <;> rfl) (fun f cdv A outer s0 H0 E hr => d_then F.T hr (m_Nothing F) (m_Stay F) (m_Then F)) fun vs H Q E h => q_then F.C h
theorem g_either (F : Facts K mg c) : Has prg w K mg base (CXp w) 8 "either" (spSeq c leither) :=
  hasStar 6 F.f_either sc_either (fun _ _ _ _ _ _ rest => by cases rest <;> rfl) (fun f cdv A outer s0 H0 E hr => d_either F.T hr (m_Nothing F) (m_Either F)) fun vs H Q E h => q_either F.C h
theorem g_again (F : Facts K mg c) : Has prg w K mg base (CXp w) 8 "again" (spAgain c) :=
  hasR 6 F.f_again sc_again (fun vs H Q E h => by obtain ⟨_, _, rfl, _⟩ := h; rfl) (fun _ _ _ _ _ _ us hl => match us, hl with | [_], _ => rfl) (fun f cdv A outer s0 H0 E hr => d_again F.T hr (m_Stay F) (m_Many F)) fun vs H Q E h => q_again F.C h
theorem g__base (F : Facts K mg c) : Has prg w K mg base (CXp w) 8 "_base" (spBase c) :=
  hasR 6 F.f__base sc__base (fun vs H Q E h => by obtain ⟨_, rfl, _⟩ := h; rfl) (fun _ _ _ _ _ _ us hl => match us, hl with | [_], _ => rfl) (fun f cdv A outer s0 H0 E hr => d__base F.T hr (m_Nothing F) (m_Stay F) (m_Test F) (m_Step F)) fun vs H Q E h => q__base h
theorem g__alternative (F : Facts K mg c) : Has prg w K mg base (CXp w) 10 "_alternative" (spAlt c) :=
  hasR 8 F.f__alternative sc__alternative (fun vs H Q E h => by obtain ⟨_, _, _, rfl, _⟩ := h; rfl) (fun _ _ _ _ _ _ us hl => match us, hl with | [_], _ => rfl) (fun f cdv A outer s0 H0 E hr => d__alternative F.T hr (g_then F) (g_either F)) fun vs H Q E h => q__alternative h
theorem g__built (F : Facts K mg c) : Has prg w K mg base (CXp w) 12 "_built" (spBuilt c) :=
  hasR 10 F.f__built sc__built (fun vs H Q E h => by obtain ⟨_, _, _, _, rfl, _⟩ := h; rfl) (fun _ _ _ _ _ _ us hl => match us, hl with | [_], _ => rfl) (fun f cdv A outer s0 H0 E hr => d__built F.T hr ((g_again F).mono (by decide)) (g__alternative F) ((g__base F).mono (by decide))) fun vs H Q E h => q__built h
theorem g__sign_at (F : Facts K mg c) : Has prg w K mg base (CXp w) 4 "_sign_at" (spSignAt c) :=
  hasR 2 F.f__sign_at sc__sign_at (fun vs H Q E h => by obtain ⟨_, _, rfl, _⟩ := h; rfl) (fun _ _ _ _ _ _ us hl => match us, hl with | [_, _], _ => rfl) (fun f cdv A outer s0 H0 E hr => d__sign_at F.T hr (g_is_mark F) (g_is_letter F) (e_BadText F)) fun vs H Q E h => q__sign_at h
theorem g__signs_of (F : Facts K mg c) : Has prg w K mg base (CXp w) 10 "_signs_of" (spSigns c) :=
  hasR 8 F.f__signs_of sc__signs_of (fun vs H Q E h => by obtain ⟨_, rfl, _⟩ := h; rfl) (fun _ _ _ _ _ _ us hl => match us, hl with | [_], _ => rfl) (fun f cdv A outer s0 H0 E hr => d__signs_of F.T hr ((g__sign_at F).mono (by decide)) (g__may_stand F) ((e_BadText F).mono (by decide))) fun vs H Q E h => q__signs_of h
theorem g_read_pattern (F : Facts K mg c) : Has prg w K mg base (CXp w) 14 "read_pattern" (spRead c) :=
  hasR 12 F.f_read_pattern sc_read_pattern (fun vs H Q E h => by obtain ⟨_, rfl, _⟩ := h; rfl) (fun _ _ _ _ _ _ us hl => match us, hl with | [_], _ => rfl) (fun f cdv A outer s0 H0 E hr => d_read_pattern F.T hr ((g__signs_of F).mono (by decide)) ((g_is_item F).mono (by decide)) (g__built F) ((e_TooLong F).mono (by decide))) fun vs H Q E h => q_read_pattern h
theorem glv {x : Str} {a : Addr} (h : GlV mg x (.ref a)) : mg x = some (.ref a) := by
  obtain ⟨u, hu, ru⟩ := h
  cases ru
  exact hu
theorem g__law_told (F : Facts K mg c) : Has prg w K mg base CX0 16 "_law_told" spTold :=
  has0 14 F.f__law_told sc__law_told (fun vs H Q E h => by obtain ⟨_, rfl, _⟩ := h; rfl) (fun _ _ _ _ _ _ us hl => match us, hl with | [_], _ => rfl) (fun f cdv A outer s0 H0 E hr => d__law_told F.T hr (g_read_pattern F) (glv F.T.g_WaysError) F.x_BadText.1 F.x_TooLong.1 F.x_TooDeep.1 ((g_text F).mono (by decide))) fun vs H Q E h => q__law_told F.C F.X h
theorem g__law_take (F : Facts K mg c) : Has prg w K mg base CX0 2 "_law_take" spTake :=
  has0 0 F.f__law_take sc__law_take (fun vs H Q E h => by obtain ⟨_, _, _, rfl, _⟩ := h; rfl) (fun _ _ _ _ _ _ us hl => match us, hl with | [_, _], _ => rfl) (fun f cdv A outer s0 H0 E hr => d__law_take F.T hr ) fun vs H Q E h => q__law_take h
theorem g__law_item (F : Facts K mg c) : Has prg w K mg base CX0 4 "_law_item" spLItem :=
  has0 2 F.f__law_item sc__law_item (fun vs H Q E h => by obtain ⟨_, _, _, rfl, _⟩ := h; rfl) (fun _ _ _ _ _ _ us hl => match us, hl with | [_, _], _ => rfl) (fun f cdv A outer s0 H0 E hr => d__law_item F.T hr (g__law_take F)) fun vs H Q E h => q__law_item h
theorem g__law_raw (F : Facts K mg c) : Has prg w K mg base CX0 6 "_law_raw" spLRaw :=
  has0 4 F.f__law_raw sc__law_raw (fun vs H Q E h => by obtain ⟨_, _, _, _, rfl, _⟩ := h; rfl) (fun _ _ _ _ _ _ us hl => match us, hl with | [_, _, _], _ => rfl) (fun f cdv A outer s0 H0 E hr => d__law_raw F.T hr ((g__law_take F).mono (by decide)) (g__law_item F)) fun vs H Q E h => q__law_raw h
theorem g__law_then (F : Facts K mg c) : Has prg w K mg base CX0 2 "_law_then" (spLSeq lthen) :=
  has0 0 F.f__law_then sc__law_then (fun vs H Q E h => by obtain ⟨_, _, _, rfl, _⟩ := h; rfl) (fun _ _ _ _ _ _ us hl => match us, hl with | [_], _ => rfl) (fun f cdv A outer s0 H0 E hr => d__law_then F.T hr ) fun vs H Q E h => q__law_then h
theorem g__law_either (F : Facts K mg c) : Has prg w K mg base CX0 2 "_law_either" (spLSeq leither) :=
  has0 0 F.f__law_either sc__law_either (fun vs H Q E h => by obtain ⟨_, _, _, rfl, _⟩ := h; rfl) (fun _ _ _ _ _ _ us hl => match us, hl with | [_], _ => rfl) (fun f cdv A outer s0 H0 E hr => d__law_either F.T hr ) fun vs H Q E h => q__law_either h
theorem g__law_again (F : Facts K mg c) : Has prg w K mg base CX0 2 "_law_again" spLAgain :=
  has0 0 F.f__law_again sc__law_again (fun vs H Q E h => by obtain ⟨_, _, rfl, _⟩ := h; rfl) (fun _ _ _ _ _ _ us hl => match us, hl with | [_], _ => rfl) (fun f cdv A outer s0 H0 E hr => d__law_again F.T hr ) fun vs H Q E h => q__law_again h
theorem g__law_text_n (F : Facts K mg c) : ∀ n : Nat, Has prg w K mg base CX0 (2 * n + 2) "_law_text" (spLText n)
  | 0 => by
    obtain ⟨f, fd, h1, G⟩ := F.f__law_text
    exact ⟨f, h1, G.kp, fun A outer s H us vs Q E hr e0 r h => by obtain ⟨v, t, _, _, hd, _⟩ := h; have := K02.depth_pos t; omega⟩
  | n + 1 => has0 (2 * n + 2) F.f__law_text sc__law_text (fun vs H Q E h => by obtain ⟨_, _, rfl, _⟩ := h; rfl) (fun _ _ _ _ _ _ us hl => match us, hl with | [_], _ => rfl) (fun f cdv A outer s0 H0 E hr => d__law_text F.T hr (g__law_text_n F n)) fun vs H Q E h => q__law_text h
theorem g__law_text (F : Facts K mg c) : Has prg w K mg base CX0 92 "_law_text" (spLText 45) := g__law_text_n F 45
theorem g__law_depth_n (F : Facts K mg c) : ∀ n : Nat, Has prg w K mg base CX0 (2 * n + 2) "_law_depth" (spLDepth n)
  | 0 => by
    obtain ⟨f, fd, h1, G⟩ := F.f__law_depth
    exact ⟨f, h1, G.kp, fun A outer s H us vs Q E hr e0 r h => by obtain ⟨v, t, _, _, hd, _⟩ := h; have := K02.depth_pos t; omega⟩
  | n + 1 => has0 (2 * n + 2) F.f__law_depth sc__law_depth (fun vs H Q E h => by obtain ⟨_, _, rfl, _⟩ := h; rfl) (fun _ _ _ _ _ _ us hl => match us, hl with | [_], _ => rfl) (fun f cdv A outer s0 H0 E hr => d__law_depth F.T hr (g__law_depth_n F n)) fun vs H Q E h => q__law_depth h
theorem g__law_depth (F : Facts K mg c) : Has prg w K mg base CX0 92 "_law_depth" (spLDepth 45) := g__law_depth_n F 45
theorem g__law_signs_n (F : Facts K mg c) : ∀ n : Nat, Has prg w K mg base CX0 (2 * n + 2) "_law_signs" (spLSigns n)
  | 0 => by
    obtain ⟨f, fd, h1, G⟩ := F.f__law_signs
    exact ⟨f, h1, G.kp, fun A outer s H us vs Q E hr e0 r h => by obtain ⟨v, st, a, t, _, _, _, hd, _⟩ := h; have := K02.depth_pos t; omega⟩
  | n + 1 => has0 (2 * n + 2) F.f__law_signs sc__law_signs (fun vs H Q E h => by obtain ⟨_, _, _, _, rfl, _⟩ := h; rfl) (fun _ _ _ _ _ _ us hl => match us, hl with | [_, _], _ => rfl) (fun f cdv A outer s0 H0 E hr => d__law_signs F.T hr (g__law_signs_n F n) ((g__law_take F).mono (by omega))) fun vs H Q E h => q__law_signs h
theorem g__law_signs (F : Facts K mg c) : Has prg w K mg base CX0 50 "_law_signs" (spLSigns 24) := g__law_signs_n F 24
theorem g__law_spaced (F : Facts K mg c) : Has prg w K mg base CX0 4 "_law_spaced" spLSpaced :=
  has0 2 F.f__law_spaced sc__law_spaced (fun vs H Q E h => by obtain ⟨_, _, _, _, rfl, _⟩ := h; rfl) (fun _ _ _ _ _ _ us hl => match us, hl with | [_, _], _ => rfl) (fun f cdv A outer s0 H0 E hr => d__law_spaced F.T hr (g__law_take F)) fun vs H Q E h => q__law_spaced h
theorem g__law_read (F : Facts K mg c) : Has prg w K mg base CX0 4 "_law_read" spLRead :=
  has0 2 F.f__law_read sc__law_read (fun vs H Q E h => by obtain ⟨_, rfl, _⟩ := h; rfl) (fun _ _ _ _ _ _ us hl => match us, hl with | [_], _ => rfl) (fun f cdv A outer s0 H0 E hr => d__law_read F.T hr (g__law_again F) (g__law_then F) (g__law_either F)) fun vs H Q E h => q__law_read h
theorem g__law_asked (F : Facts K mg c) : Has prg w K mg base CX0 94 "_law_asked" spAsked :=
  has0 92 F.f__law_asked sc__law_asked (fun vs H Q E h => by obtain ⟨_, _, rfl, _⟩ := h; rfl) (fun _ _ _ _ _ _ us hl => match us, hl with | [_, _], _ => rfl) (fun f cdv A outer s0 H0 E hr => d__law_asked F.T hr ((g__law_read F).mono (by decide)) (g__law_text F) ((g__law_told F).mono (by decide))) fun vs H Q E h => q__law_asked h
theorem g__law_bent (F : Facts K mg c) : Has prg w K mg base CX0 4 "_law_bent" spLBent :=
  has0 2 F.f__law_bent sc__law_bent (fun vs H Q E h => by obtain ⟨_, _, _, _, rfl, _⟩ := h; rfl) (fun _ _ _ _ _ _ us hl => match us, hl with | [_, _, _], _ => rfl) (fun f cdv A outer s0 H0 E hr => d__law_bent F.T hr (g__law_take F)) fun vs H Q E h => q__law_bent h
theorem g__law_brackets (F : Facts K mg c) : Has prg w K mg base CX0 96 "_law_brackets" spLBr :=
  has0 94 F.f__law_brackets sc__law_brackets (fun vs H Q E h => by obtain ⟨_, _, _, rfl, _⟩ := h; rfl) (fun _ _ _ _ _ _ us hl => match us, hl with | [_, _], _ => rfl) (fun f cdv A outer s0 H0 E hr => d__law_brackets F.T hr ((g__law_take F).mono (by decide)) (g__law_asked F)) fun vs H Q E h => q__law_brackets h
theorem g__law_items (F : Facts K mg c) : Has prg w K mg base CX0 96 "_law_items" spLBr :=
  has0 94 F.f__law_items sc__law_items (fun vs H Q E h => by obtain ⟨_, _, _, rfl, _⟩ := h; rfl) (fun _ _ _ _ _ _ us hl => match us, hl with | [_, _], _ => rfl) (fun f cdv A outer s0 H0 E hr => d__law_items F.T hr ((g__law_take F).mono (by decide)) (g__law_asked F)) fun vs H Q E h => q__law_items h
theorem g__law_deep (F : Facts K mg c) : Has prg w K mg base CX0 96 "_law_deep" spLBr :=
  has0 94 F.f__law_deep sc__law_deep (fun vs H Q E h => by obtain ⟨_, _, _, rfl, _⟩ := h; rfl) (fun _ _ _ _ _ _ us hl => match us, hl with | [_, _], _ => rfl) (fun f cdv A outer s0 H0 E hr => d__law_deep F.T hr ((g__law_take F).mono (by decide)) ((g__law_again F).mono (by decide)) ((g__law_either F).mono (by decide)) ((g__law_then F).mono (by decide)) ((g__law_depth F).mono (by decide)) ((g__law_text F).mono (by decide)) (g__law_asked F)) fun vs H Q E h => q__law_deep h
theorem g_law {f : Addr} {fd : FuncData} (F : Facts K mg c) (G : Fun K "law" "law" s_law f fd) : FnOk prg w K mg base CX0 98 f fd ["script"] (spLaw (K := K)) :=
  G.ok sc_law (fun vs H Q E h => by obtain ⟨_, _, rfl, _⟩ := h; rfl) (k := 97) fun cdv A outer s H vs Q E hr h => ⟨_, d_law F.T hr ((g__law_take F).mono (by decide)) ((g__law_raw F).mono (by decide)) ((g__law_spaced F).mono (by decide)) ((g__law_signs F).mono (by decide)) ((g__law_bent F).mono (by decide)) ((g__law_asked F).mono (by decide)) (g__law_brackets F) (g__law_items F) (g__law_deep F) ((g__law_told F).mono (by decide)) ((g__law_text F).mono (by decide)) ((g__law_read F).mono (by decide)), q_law h⟩
end
end L2.WB
namespace L2.WB
open PySem PySem.Spec PyProof.Rows
abbrev Rw : PySem.W.OpenRow := PySem.W.OpenLaw.row PySem.Challenge.rw_waysbyviews_k02_pattern_refused
abbrev hk : PySem.W.Hook := hookC ck ds
def ob (s : PySem.W.SharedT) : AlC := obsCG ck ds (HandSHeadRun.getT s)
theorem ob_eq (s : PySem.W.SharedT) : ob s = hk.obs s.abs := obsCG_eq (HandSHeadRun.getT_eq s)
def loose1 : List Str := ["_wall", "__name__", "WaysError", "BadText", "BadItem", "TooLong", "TooDeep", "LETTERS", "MARKS", "is_letter", "is_mark", "is_step", "is_item", "MOST_SIZE", "MOST_DEPTH", "Pattern", "Nothing", "Stay", "Step", "Test", "Then", "Either", "Many", "_in_brackets", "then", "either", "again"]
def loose2 : List Str := ["MOST_BRACKETS", "read_pattern", "_signs_of", "_sign_at", "_may_stand", "_built", "_alternative", "_base", "_law_take", "_law_item", "_law_raw", "_law_then", "_law_either", "_law_again", "_law_text", "_law_depth", "_law_signs", "_law_spaced", "_law_read", "_law_told", "_law_asked", "_law_bent", "_law_brackets", "_law_items", "_law_deep"]
def loose : List Str := loose1 ++ loose2
theorem run (w : World) : HandSHeadRun.RunEq Rw (PySem.W.view Rw.prog [56]) hk ob 20000 loose w := by
  intro os
  kernel_rfl
end L2.WB
namespace L2.WB
open PySem PySem.Spec PyProof.Rows
theorem ints_mem {ns : List Int} : ∀ z ∈ ns.map V.int, ∃ n : Int, z = .int n := fun z hz => by
  obtain ⟨n, _, e⟩ := List.mem_map.mp hz
  exact ⟨n, e.symm⟩
theorem the_law {w : World} {K : PySem.W.Frag} {h : Heap} {mg : Str → Option Value} {fa : Addr} (X : K.In h) (G : h.Ns mainGlobals mg) (hfa : mg ("law" : Str) = some (.ref fa)) (c : SaysC ck ds K) :
    ∃ fd : FuncData, (∀ (s : Shared) (u : Value), BindsTo s fd ⟨[u], []⟩ [("script", u)]) ∧ ∀ base : Heap, K.In base → base.Ns mainGlobals mg → FnOk prg w K mg base CX0 98 fa fd ["script"] (spLaw (K := K)) := by
  have F := facts_of X G c
  obtain ⟨f, fd, h1, D⟩ := F.f_law
  obtain rfl : f = fa := Value.ref.inj (Option.some.inj (h1.symm.trans hfa))
  obtain ⟨oc, od, kV, doc, pm, an, cdv, ct, osl, e, lk, hcd⟩ := D.ex
  refine ⟨fd, fun s u => ?_, fun base _ _ => g_law F D⟩
  subst e
  exact .of_eq rfl
end L2.WB
open PySem PySem.W PySem.Calls PyProof.Rows
theorem PySem.Challenge.cw_waysbyviews_k02_pattern_refused_holds : PySem.Challenge.rw_waysbyviews_k02_pattern_refused.Holds := by
  w_on; o_law
  refine HandSHeadRun.head_any (r := L2.WB.Rw) (q := view L2.WB.Rw.prog [56]) (H := L2.WB.hk) (ob := L2.WB.ob) (M := 20000) (loose := L2.WB.loose) (d := HandSHeadRun.topDef L2.WB.Rw.prog 56) (kwd := []) L2.WB.ob_eq
    (by kernel_rfl) (fun s => by kernel_rfl) L2.WB.run (by kernel_rfl) (by kernel_rfl) (by kernel_rfl) (by rfl) (by first | assumption | decide +kernel) (by decide +kernel) ⟨rfl, rfl, rfl, rfl, rfl, by decide +kernel⟩ ?hw ?hc
  case hw => w_witness2
  case hc =>
    refine L2.walk_ofE (l := PySem.Challenge.rw_waysbyviews_k02_pattern_refused) (n := 63) (k := 98) (x := "script") (CX := L2.CX0) rfl (by decide) (by kernel_rfl) ⟨rfl, by decide, by decide⟩ ?F (fun _ _ _ _ z => z)
    intro w mg fa h Y G hmg0
    obtain ⟨K, KX, c⟩ := Y
    have hmg : mg ("law" : PySem.Str) = some (.ref fa) := by
      have e : (HandSHeadRun.topDef L2.WB.Rw.prog 56).name = ("law" : PySem.Str) := by kernel_rfl
      rw [← e]
      exact hmg0
    obtain ⟨fd, hb, hF⟩ := L2.WB.the_law (w := w) KX G hmg c
    exact ⟨K, fd, L2.WB.spLaw (K := K), KX, hb, fun H a ns hl _ hS => ⟨a, _, rfl, hS, L2.WB.ints_mem, fun _ => rfl⟩, hF⟩
