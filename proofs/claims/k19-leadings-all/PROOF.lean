import PyProof.Rows.All
import Wide.All
import OpenK.AllK
import Wide.FinOn
import KE.KSuper
import HandS.Base
import HandS.Call
import HandS.Ends
import HandS.More
import HandS.Words
import HandS.Exc
import KE.KExcSuper
import HandS.List
import HandS.ExcInit
import HandS.Comp
import KE.GoesRaise
import HandS.Dict
import HandS.Iter
import HandS.Text
import HandS.Codes
import HandS.Star
import HandS.TryOnly
import HandS.IsInst
import HandS.Deep
import HandS.Flow
import HandS.Evl
import HandS.ExcIs
import HandS.ExcField
import HandS.Defaults
import PyProof.StrOps2
import HandS.WordsExc
import HandS.TupSets
import HandS.SortOrd
import HandS.SortInts
import HandS.SortRule
import HandS.SetBool
import PyProof.FString3
import HandS.FStr
import KE.GoesMore
import KE.KRevSl
import HandS.Style
import PyProof.SliceStr2
import HandS.SetKeys
import PyProof.DictMoreH
import HandS.GenCall
import HandS.GenList
import HandS.DictComp
import HandS.TupAny
import HandS.WideBits
import HandS.Steps
import PyProof.Rows.BitMore
import HandS.HeadHook1
import HandS.HeadHook2
import HandS.MakeKwOnly
import HandS.Head0
import HandS.Head1
import HandS.Head2
import HandS.HeadEnd
import PySem.Challenge.RW_waysbyviews_k19_leadings_all
set_option Elab.async false
set_option linter.all false
set_option maxRecDepth 100000
set_option maxHeartbeats 0
namespace L2.WB
open PySem PySem.Spec PyProof.Rows

abbrev envS (qual : Str) (sc : Scope) (L f : Addr) (cd : Value) (cc : Addr) : Env := PySem.W.envX qual sc L f cd [("__class__", cc)]

def cxS (CX : CXT) (P : Program) (w : World) (K : PySem.W.Frag) (mg : Str → Option Value) (base : Heap) (N : List Str) (qual : Str) (sc : Scope) (f : Addr) (cd : Value) (cc : Addr) (A : Around) (outer : List Env) (s : Shared) (H : Hp) (E : XK) : Cx :=
  { prog := P, w := w, K := K, mg := mg, base := base, A := A.deeper (envS qual sc s.heap.objs.size f cd cc), N := N, s_0 := s, H_0 := H,
    env := envS qual sc s.heap.objs.size f cd cc, outer := outer, stack := envS qual sc s.heap.objs.size f cd cc :: outer, ex := [], calm := true,
    fn := fun x => !(x == ("__class__" : Str)), pn := [],
    xe := fun e s' => wpAny (model P w) (A.deeper (envS qual sc s.heap.objs.size f cd cc)) (leaving (envS qual sc s.heap.objs.size f cd cc) e) (fun _ s2 => CX outer H s E e s2) (fun e2 s2 => CX outer H s E e2 s2) s' }

structure ScopeS (N ps : List Str) (sc : Scope) : Prop where
  kind : sc.kind = .function
  co : sc.isCoroutine = false
  gen : sc.isGenerator = false
  nd : N.Nodup
  pre : N.take ps.length = ps
  par : ∀ x ∈ ps, sc.names.lookup x = some .local
  nocell : ∀ y ∈ sc.names, y.2 ≠ .cell
  free : ∀ y ∈ sc.names, y.2 = .free → y.1 = "__class__"

theorem lookup_mem_nd {β : Type} {x : Str} {u : β} : ∀ {l : List (Str × β)}, (l.map Prod.fst).Nodup → (x, u) ∈ l → l.lookup x = some u
  | [], _, h => by cases h
  | (y, v) :: r, nd, h => by
    rw [List.map_cons, List.nodup_cons] at nd
    rcases List.mem_cons.mp h with e | e
    · cases e
      simp [List.lookup]
    · have ne : (x == y) = false := by
        apply beq_eq_false_iff_ne.mpr
        intro z
        exact nd.1 (List.mem_map.mpr ⟨(x, u), e, z⟩)
      rw [List.lookup_cons, ne]
      exact lookup_mem_nd nd.2 e

theorem zip_fst {α β : Type} : ∀ (as : List α) (bs : List β), List.Sublist ((as.zip bs).map Prod.fst) as
  | [], _ => by simp
  | a :: as, [] => by simp
  | a :: as, b :: bs => by
    rw [List.zip_cons_cons, List.map_cons]
    exact (zip_fst as bs).cons₂ _
theorem lookup_bound {ps : List Str} {us : List Value} {i : Nat} {x : Str} {u : Value} (nd : ps.Nodup) (h1 : ps[i]? = some x) (h2 : us[i]? = some u) : (ps.zip us).reverse.lookup x = some u := by
  refine lookup_mem_nd ?_ ?_
  · rw [List.map_reverse]
    exact List.pairwise_reverse.mpr ((nd.sublist (zip_fst ps us)).imp fun z => Ne.symm z)
  · rw [List.mem_reverse]
    refine List.mem_of_getElem? (i := i) ?_
    rw [List.getElem?_zip_eq_some]
    exact ⟨h1, h2⟩

theorem inv_startS {CX : CXT} {P : Program} {w : World} {K : PySem.W.Frag} {mg : Str → Option Value} {base : Heap} {N ps : List Str} {qual : Str} {sc : Scope} {f cc : Addr} {cd cv : Value} {ccl : Value} {cdd : Option Addr} {ccs : Array (Option Value)} {A : Around} {outer : List Env} {s : Shared} {h1 : Heap} {tk : Nat} {H : Hp} {E : XK} {us : List Value} {vs : List V}
    (S : ScopeS N ps sc) (hcc : K.lookup cc = some ⟨ccl, cdd, .cell (some cv), ccs⟩) (hd : A.handled = none) (e0 : Env0 P w K mg base A outer s H) (hl : vs.length = ps.length) (r : Vals vs us)
    (hns : h1.Ns s.heap.objs.size (fun x => (ps.zip us).reverse.lookup x)) (hk : ∀ b o, s.heap.get? b = some o → h1.get? b = some o) :
    Inv (cxS CX P w K mg base N qual sc f cd cc A outer s H E) [] (start N vs) H { s with heap := h1, toks := tk } := by
  have hpl : ps.length ≤ N.length := by have := congrArg List.length S.pre; rw [List.length_take] at this; omega
  have hbase : base.get? cc = some ⟨ccl, cdd, .cell (some cv), ccs⟩ := e0.mod.kin _ _ hcc
  have hs := e0.bs _ _ hbase
  have cells1 : ∀ y c, (cxS CX P w K mg base N qual sc f cd cc A outer s H E).env.cells.lookup y = some c → y = "__class__" ∧ c = cc := by
    intro y c h
    have h : ([(("__class__" : Str), cc)] : List (Str × Addr)).lookup y = some c := h
    rw [List.lookup_cons] at h
    split at h
    · rename_i z
      exact ⟨eq_of_beq z, (Option.some.inj h).symm⟩
    · cases h
  have ccn : cc ≠ s.heap.objs.size := Nat.ne_of_lt (Heap.lt_size hs.1)
  have ok : (cxS CX P w K mg base N qual sc f cd cc A outer s H E).Ok := by
    refine ⟨e0.mod, S.kind, rfl, rfl, Nat.le_refl _, ?_, ?_, ?_, fun _ => hd, Around.frames_deeper e0.frames, .inr ⟨rfl, rfl⟩, fun b z => (by cases z), e0.bs, e0.bsz, fun b _ _ z => (by cases z), fun b z => (by cases z), e0.funs, e0.frf⟩
    · intro x y c a1 a2
      rw [(cells1 x c a1).1, (cells1 y c a2).1]
    · intro x hx
      have hx : sc.names.lookup x = some .cell ∨ sc.names.lookup x = some .free := hx
      rcases hx with hx | hx
      · exact absurd rfl (S.nocell _ (PySem.mem_of_lookup hx))
      · have z : x = "__class__" := S.free _ (PySem.mem_of_lookup hx) rfl
        refine ⟨cc, ?_⟩
        show ([(("__class__" : Str), cc)] : List (Str × Addr)).lookup x = some cc
        rw [z]
        simp [List.lookup]
    · intro x c hf hx
      have hf : (!(x == ("__class__" : Str))) = true := hf
      rw [(cells1 x c hx).1] at hf
      simp at hf
  refine ⟨ok, rfl, e0.bare, Un.kept hk, ⟨_, hns, ?_⟩, ?_, e0.hok.fresh (Nat.le_refl _), ?_, ?_, e0.hok.kept hk, ?_⟩
  · intro i y v a1 a2 a3
    have hi : i < vs.length := by
      unfold start at a2
      by_cases hi : i < vs.length
      · exact hi
      · rw [List.getElem?_append_right (by simpa using hi), List.getElem?_replicate] at a2
        split at a2 <;> cases a2
    have ha : vs[i]? = some v := by
      unfold start at a2
      rw [List.getElem?_append_left (by simpa using hi), List.getElem?_map] at a2
      cases e : vs[i]? with
      | none => rw [e] at a2; cases a2
      | some b => rw [e] at a2; cases a2; rfl
    obtain ⟨u, hu, rv⟩ := r.get ha
    have hp : ps[i]? = some y := by
      rw [← S.pre, List.getElem?_take_of_lt (by omega)]
      exact a1
    have ndP : ps.Nodup := by rw [← S.pre]; exact S.nd.sublist (List.take_sublist _ _)
    exact ⟨u, rv, .inl ⟨S.par y (List.mem_of_getElem? hp), lookup_bound ndP hp hu⟩⟩
  · intro x c hx
    rw [(cells1 x c hx).2]
    exact ⟨some cv, _, hk _ _ hs.1, rfl⟩
  · intro x c hx
    rw [(cells1 x c hx).2]
    exact hs.2
  · intro p hp
    exact absurd (show p ∈ ([] : List (Addr × Obj)) from hp) (by simp)
  · unfold start
    show _ = N.length
    rw [List.length_append, List.length_map, List.length_replicate]
    omega

structure PAt (X : Cx) (b : List Stmt) (st : List Stmt) (t : TS) : Prop where
  run : ∀ (pins : List (Addr × Obj)) (s : Shared) (σ : St) (H : Hp) (D : Ends), Inv X pins σ H s → t D σ H → _root_.PySem.wpAt (model X.prog X.w) X.A (.func b X.env) (execs st X.env) (SP X pins D) X.xe s
structure PAt1 (X : Cx) (b : List Stmt) (st : Stmt) (t : TS) : Prop where
  run : ∀ (pins : List (Addr × Obj)) (s : Shared) (σ : St) (H : Hp) (D : Ends), Inv X pins σ H s → t D σ H → _root_.PySem.wpAt (model X.prog X.w) X.A (.func b X.env) (exec st X.env) (SP X pins D) X.xe s
section
variable {X : Cx} {b : List Stmt}
theorem at_of {st : List Stmt} {t : TS} (h : PSs X st t) : PAt X b st t := ⟨fun pins s σ H D I q => wpAt_of_wpAny (h.run pins s σ H D I q)⟩
theorem at1_of {st : Stmt} {t : TS} (h : PS X st t) : PAt1 X b st t := ⟨fun pins s σ H D I q => wpAt_of_wpAny (h.run pins s σ H D I q)⟩
theorem at_cons {st : Stmt} {rest : List Stmt} {t u : TS} (h1 : PAt1 X b st t) (h2 : PAt X b rest u) : PAt X b (st :: rest) (tSeq t u) := by
  refine ⟨fun pins s σ H D I q => ?_⟩
  refine ks_wpAt_execs_cons (ks_wpAt_mono (h1.run pins s σ H { D with nx := u D } I q) (fun f s1 z => ?_) fun _ _ z => z)
  cases f with
  | next =>
    obtain ⟨σ1, H1, I1, z⟩ := z
    exact h2.run pins s1 σ1 H1 D I1 z
  | ret v => exact z
  | brk => exact z
  | cont => exact z
end

theorem fn_ofS {CX : CXT} {P : Program} {w : World} {K : PySem.W.Frag} {mg : Str → Option Value} {base : Heap} {k : Nat} {f cc : Addr} {name qual : Str} {params : Arguments} {body : List Stmt} {sc : Scope} {dV kV doc pm cdv ct oc cv ccl : Value} {an od cdd : Option Addr}
    {osl ccs : Array (Option Value)} {N ps : List Str} {sp : Sp}
    (lk : K.lookup f = some ⟨oc, od, .func (PySem.W.fnX name qual params body sc [("__class__", cc)] dV kV doc pm an cdv ct), osl⟩) (hcd : PySem.W.codeIn K cdv qual = true)
    (hcc : K.lookup cc = some ⟨ccl, cdd, .cell (some cv), ccs⟩) (S : ScopeS N ps sc) (len : ∀ vs H Q E, sp vs H Q E → vs.length = ps.length)
    (hbody : ∀ (A : Around) (outer : List Env) (s : Shared) (H : Hp) (vs : List V) (Q : VK) (E : XK), Room k (A.deeper (envS qual sc s.heap.objs.size f cdv cc)) → sp vs H Q E →
      ∃ t, PAt (cxS CX P w K mg base N qual sc f cdv cc A outer s H E) body body t ∧ t { nx := fun _ H1 => Q .non H1, rt := Q } (start N vs) H) :
    FnOk P w K mg base CX (k + 1) f (PySem.W.fnX name qual params body sc [("__class__", cc)] dV kV doc pm an cdv ct) ps sp := by
  refine ⟨len, fun A outer s H args us vs Q E hr e0 hb r hsp => ?_⟩
  have hl := len _ _ _ _ hsp
  have KX : K.In s.heap := e0.mod.kin.keeps fun b o e => (e0.bs b o e).1
  have lim : s.heap.NoLimit := e0.mod.nolimit.keeps fun b o e => (e0.bs b o e).1
  refine ks_codeAny_call_defAt (fd := PySem.W.fnX name qual params body sc [("__class__", cc)] dV kV doc pm an cdv ct) (body := body) hr.depth (KX _ _ lk) rfl lim (PySem.W.codeRec_of KX hcd) rfl hb S.nocell (fun y hy => ?_) (fun h1 hns hk => ?_) S.co S.gen S.kind
  · obtain ⟨n, v⟩ := y
    exact S.par n (List.of_mem_zip hy).1
  · obtain ⟨t, ht, hq⟩ := hbody A outer s H vs Q E (hr.deeper _) hsp
    have I := inv_startS (CX := CX) (qual := qual) (f := f) (cd := cdv) (E := E) (tk := s.toks + (ps.zip us).length) S hcc hr.hd e0 hl r hns hk
    refine ks_wpAt_mono (ht.run [] _ (start N vs) H _ I hq) (fun fl s2 hs => ?_) fun e s2 hs => hs
    have fin : ∀ {σ1 : St} {H1 : Hp} {v : V} {u : Value}, Inv (cxS CX P w K mg base N qual sc f cdv cc A outer s H E) [] σ1 H1 s2 → RelV v u → Q v H1 → CE outer P w H s Q u s2 :=
      fun {σ1 H1 v u} J rv q => ⟨v, H1, J.os, J.bare, J.base, J.hok, rv, q⟩
    cases fl with
    | ret u =>
      obtain ⟨v, σ1, H1, J, rv, q⟩ := hs
      exact fin J rv q
    | next =>
      obtain ⟨σ1, H1, J, q⟩ := hs
      exact fin (v := V.non) (u := Value.none) J rfl q
    | brk =>
      obtain ⟨_, _, _, q⟩ := hs
      exact False.elim q
    | cont =>
      obtain ⟨_, _, _, q⟩ := hs
      exact False.elim q

structure Sup (P : Program) (K : PySem.W.Frag) (mg : Str → Option Value) (f cc cda D C g : Addr) (slf : Str) : Prop where
  fn : ∃ oc od fd osl ar, K.lookup f = some ⟨oc, od, .func fd, osl⟩ ∧ (fd.params.posonlyargs ++ fd.params.args).head? = some ar ∧ ar.arg = slf
  cd : ∃ ccl cdd vs ccs tf, K.lookup cda = some ⟨ccl, cdd, .fields vs, ccs⟩ ∧ vs[2]? = some (Value.str P.main.file tf)
  cell : ∃ cl cld csl, K.lookup cc = some ⟨cl, cld, .cell (some (.ref D)), csl⟩
  clD : ∃ d, PySem.W.clsIn K D = some d
  clC : ∃ d, PySem.W.clsIn K C = some d
  sub : PySem.W.mroIn K C (.ref D) = some true
  fin : PySem.W.ks_superIn K C D "__init__" = some (some (.ref g))
  gty : PySem.W.typeIn K (.ref g) = some (.type "function")
  gfn : PySem.W.fnIn K g = true
  opq : PySem.W.nsIn K cStatics "thirdparty.any" = some none
  sup : mg "super" = none
  top : (P.main.scope.names.lookup ("super" : Str)).isSome = false

theorem cls_at {K : PySem.W.Frag} {D : Addr} {d : ClassData} {h : Heap} (X : K.In h) (e : PySem.W.clsIn K D = some d) : ∃ o, h.get? D = some o ∧ o.data = .cls d := by
  unfold PySem.W.clsIn at e
  split at e
  · rename_i c1 d1 cd1 sl1 ho
    cases e
    exact ⟨_, X _ _ ho, rfl⟩
  · cases e
theorem ty_at {K : PySem.W.Frag} {g : Addr} {T : Value} {h : Heap} (X : K.In h) (e : PySem.W.typeIn K (.ref g) = some T) : ∃ o, h.get? g = some o ∧ o.cls = T := by
  have e : (K.lookup g).map (·.cls) = some T := e
  cases z : K.lookup g with
  | none => rw [z] at e; cases e
  | some o => rw [z] at e; exact ⟨o, X _ _ z, Option.some.inj e⟩

def tSup (i : Nat) (C g : Addr) (sp : Sp) (E : XK) (ta : TA) : TS := fun D σ H => ∃ a dx fs, σ[i]? = some (some (.ref a)) ∧ H a = some (.ins C dx fs) ∧
  ∀ q, H q = none → ta σ (upd H q (.met g a)) fun vs H2 => H2 q = some (.met g a) ∧ sp (.ref a :: vs) H2 (fun _ H3 => D.nx σ H3) E

section
variable {X : Cx} {b : List Stmt} {CX : CXT} {k : Nat} {f cc cda D C g : Addr} {sp : Sp} {E : XK} {slf qual : Str} {sc : Scope} {L : Addr}
theorem at_sup {i : Nat} {e : Expr} {es : List Expr} {t : TA} {p0 p1 apos pos spos : Pos} {pl : Sem Bool} (S : Sup X.prog X.K X.mg f cc cda D C g slf) (henv : X.env = envS qual sc L f (.ref cda) cc) (hN : X.N[i]? = some slf)
    (F : FnR X.prog X.w X.K X.mg X.base CX k g sp) (hr : Room k X.A) (hx : Passes CX X E) (ha : PA X (e :: es) t)
    (hks : sc.names.lookup ("super" : Str) = some .globalImplicit) (hkc : sc.names.lookup ("__class__" : Str) = some .free) (hsl : sc.names.lookup slf = some .local) (hki : sc.kind = .function)
    (hst : starEach (e :: es) X.env = (false, eval e X.env) :: starEach es X.env) (hpl : (backTo pos (starEach es X.env)).any (·.1) = false)
    (hi : interactive X.env = false) (hs : swapsWith (.Call (.Attribute (.Call (.Name "super" p0) [] [] p1) "__init__" apos) (e :: es) [] pos) none spos.line X.env = pure false)
    (he : eval (.Call (.Attribute (.Call (.Name "super" p0) [] [] p1) "__init__" apos) (e :: es) [] pos) X.env = (do
      let ov ← attributeBase (.Call (.Name "super" p0) [] [] p1) "__init__" X.env (eval (.Call (.Name "super" p0) [] [] p1) X.env)
      standAt apos.atName
      let (fn, first) ← holding [ov] (getMethod ov "__init__" pl)
      callWith pos fn first (backTo pos (starEach (e :: es) X.env)) [])) :
    PAt1 X b (.Expr (.Call (.Attribute (.Call (.Name "super" p0) [] [] p1) "__init__" apos) (e :: es) [] pos) spos) (tSup i C g sp E t) := by
  refine ⟨fun pins s σ H D0 I h => ?_⟩
  obtain ⟨a, dx, fs, hσ, hH, hq⟩ := h
  obtain ⟨oc, od, fd, osl, ar, l1, l2, l3⟩ := S.fn
  obtain ⟨ccl, cdd, vs, ccs, tf, l4, l5⟩ := S.cd
  obtain ⟨cl, cld, csl, l6⟩ := S.cell
  obtain ⟨dD, l7⟩ := S.clD
  obtain ⟨dC, l8⟩ := S.clC
  have KX : X.K.In s.heap := I.kIn
  obtain ⟨mA, O, hr0, _, _, _⟩ := ins_get I.hok hH
  obtain ⟨od2, J, _⟩ := O.look
  obtain ⟨m, hn, hl⟩ := I.loc
  have hkself : X.env.kindOf slf = some .local := by rw [henv]; exact hsl
  have hself : m slf = some (.ref a) := by
    obtain ⟨u, ru, lu⟩ := hl i slf (.ref a) hN hσ (.inl (by rw [henv]; exact hsl))
    cases ru
    rcases lu with ⟨_, z⟩ | ⟨z, _⟩
    · exact z
    · rw [hkself] at z
      rcases z with z | z <;> cases z
  obtain ⟨mb, hb1, hb2⟩ := I.mod.blt
  obtain ⟨oD, hD1, hD2⟩ := cls_at KX l7
  obtain ⟨og, hg1, hg2⟩ := ty_at KX S.gty
  have hkf : X.env.scope.kind = .function := I.ok.kind
  have hks2 : X.env.kindOf "super" = some .globalImplicit := by rw [henv]; exact hks
  have hkc2 : X.env.kindOf "__class__" = some .free := by rw [henv]; exact hkc
  refine ks_wpAt_Expr_any ?_ hi hs
  refine ks_wpAt_MethodCall (pl := pl) ?_ he
  refine ks_wpAt_super_base (f := f) (cc := cda) hks2 hkc2 (by decide) (by rw [henv]) (KX _ _ l1) rfl l2 (by rw [henv]) (KX _ _ l4) rfl l5 (by simp) S.top ?_
  refine PySem.W.ks_loadName_global hkf hks2 (Calls.loadGlobal_builtin (by rw [I.ok.glob]; exact I.mod.glob.keeps I.bk) S.sup (by rw [I.ok.blt]; exact hb1.keeps I.bk) ((hb2 _ (by decide +kernel)).trans (by decide +kernel : bootBuiltins "super" = some (.type "super"))) ⟨rfl, ?_⟩)
  refine wpAny_loadName_free hkf hkc2 (by rw [henv]; rfl) ⟨_, KX _ _ l6, rfl⟩ ?_
  rw [l3]
  refine wpAny_loadName_local hkf hkself hn hself ?_
  refine ks_wpAny_isType_cls hD1 hD2 ⟨rfl, ?_⟩
  obtain ⟨hh, gg, dd, tt, os⟩ := s
  refine ks_wpAny_call_super hD1 hD2 J.at_ J.cls (fun c z => ?_) (PySem.W.looks_mroIn KX S.sub) (fun h2 hso hk => ?_)
  · have w1 := J.no
    unfold PySem.W.notCls at w1
    rw [z] at w1
    exact Bool.noConfusion w1
  have I2 : Inv X pins σ H ⟨h2, gg, dd, tt, os⟩ := I.kept (t' := tt) hk
  have KX2 : X.K.In h2 := I2.kIn
  have hfin := S.fin
  unfold PySem.W.ks_superIn at hfin
  rw [l8] at hfin
  refine ks_wpAny_getMethod_super hso (PySem.W.looks_opaque KX2 S.opq) (l₀ := dC.mro) (fun A Q E s k q => wpAny_bind ((PySem.W.looks_clsIn KX2 l8) A _ E s k (wpAny_pure q))) rfl KX2 hfin (hk _ _ hg1) hg2 (PySem.W.ks_ne KX J l8) (by decide) ?_
  have fresh : H h2.objs.size = none := I2.hok.fresh (Nat.le_refl _)
  have I3 : Inv X pins σ (upd H h2.objs.size (.met g a)) ⟨h2.push (PySem.W.methodObj (.ref g) (.ref a)), gg, dd, tt + 1, os⟩ :=
    I2.laid (a := h2.objs.size) (o := .met g a) (t' := tt + 1) (fun b u z => Heap.get?_push_of_some _ z) (Nat.le_refl _) (show (h2.push (PySem.W.methodObj (.ref g) (.ref a))).get? h2.objs.size = some (PySem.W.methodObj (.ref g) (.ref a)) from Heap.get?_push_size h2 rfl)
  have q3 := hq _ fresh
  show wpAny _ _ (callWith pos (.ref h2.objs.size) [] (backTo pos (starEach (e :: es) X.env)) []) _ _ _
  rw [hst]
  refine PySem.W.callWith_of (P := PySem.W.MethP X.K h2.objs.size g (.ref a)) (by show ((false || (backTo pos (starEach es X.env)).any (·.1)) || false) = false; rw [hpl]; rfl) (PySem.W.keeps_M S.gfn) (Calls.evalArgs_plain ?_)
  have run := ha.run pos pins _ σ _ _ I3 q3
  rw [hst] at run
  refine thn run fun us s4 ⟨vs4, H4, I4, r4, hm4, q4⟩ => ⟨met_P I4 hm4, ?_⟩
  refine wpAny_mono (wpAny_call (PySem.W.method_call (met_P I4 hm4).1 (run_fnR (us := Value.ref a :: us) (vs := V.ref a :: vs4) F hr hx I4 (.cons rfl r4) q4))) (fun v s5 z => ?_) fun _ _ z => z
  obtain ⟨v5, H5, I5, _, z⟩ := z
  exact ⟨σ, H5, I5, z⟩
end
end L2.WB
namespace L2.WB
open PySem PySem.Spec PyProof.Rows

structure SupX (P : Program) (K : PySem.W.Frag) (mg : Str → Option Value) (f cc cda D C : Addr) (slf : Str) : Prop where
  fn : ∃ oc od fd osl ar, K.lookup f = some ⟨oc, od, .func fd, osl⟩ ∧ (fd.params.posonlyargs ++ fd.params.args).head? = some ar ∧ ar.arg = slf
  cd : ∃ ccl cdd vs ccs tf, K.lookup cda = some ⟨ccl, cdd, .fields vs, ccs⟩ ∧ vs[2]? = some (Value.str P.main.file tf)
  cell : ∃ cl cld csl, K.lookup cc = some ⟨cl, cld, .cell (some (.ref D)), csl⟩
  clD : ∃ d, PySem.W.clsIn K D = some d
  clC : ∃ d, PySem.W.clsIn K C = some d
  sub : PySem.W.mroIn K C (.ref D) = some true
  fin : PySem.W.ks_superIn K C D "__init__" = some (some (.builtin "ValueError.__init__"))
  vE : PySem.W.subIn K (.ref C) (.type "ValueError") = some true
  opq : PySem.W.nsIn K cStatics "thirdparty.any" = some none
  sup : mg "super" = none
  top : (P.main.scope.names.lookup ("super" : Str)).isSome = false

/-- the bound built-in, tracked -/
def mwO (q x : Addr) : HO := .ext fun h => PySem.W.KxsAt "ValueError.__init__" q x h

def tSupX (K : PySem.W.Frag) (i : Nat) (C : Addr) (ta : TA) : TS := fun D σ H => ∃ a, σ[i]? = some (some (.ref a)) ∧ H a = some (exo a C none) ∧ OexC K C ∧
  ∀ q, H q = none → ta σ (upd H q (mwO q a)) fun vs H2 => H2 q = some (mwO q a) ∧ H2 a = some (exo a C none) ∧ vs.length ≤ 1000 ∧ D.nx σ H2

theorem mw_at {P : Program} {w : World} {H : Hp} {h : Heap} {q a : Addr} (hok : HOk P w H h) (e : H q = some (mwO q a)) : PySem.W.KxsAt "ValueError.__init__" q a h :=
  (show ObjOk P w H h q (mwO q a) from hok q _ e).1

section
variable {X : Cx} {b : List Stmt} {f cc cda D C : Addr} {slf qual : Str} {sc : Scope} {L : Addr}
theorem mw_call {pins : List (Addr × Obj)} {σ : St} {H : Hp} {s : Shared} {a u : Addr} {us : List Value} {Q : Value → Shared → Prop} (T : OexC X.K C) (I : Inv X pins σ H s) (e : H a = some (exo a C none)) (eu : H u = some (mwO u a)) (hl : us.length ≤ sizeLine)
    (h : ∀ s', Inv X pins σ H s' → Q .none s') : wpAny (model X.prog X.w) X.A (call (.ref u) us) Q X.xe s := by
  obtain ⟨nm, q, N, bs, bm, sn, sub, ab, col, dd, k0, k1, k2, k3, k5, hC, hbm⟩ := T.cls
  obtain ⟨t1, ho⟩ := exo_at I.hok e
  have hu := mw_at I.hok eu
  have hCs := I.kIn _ _ hC
  obtain ⟨hp, g, d, t, os⟩ := s
  refine wpAny_call (codeAny_of_tree ?_)
  show wpAny _ X.A.in1 (callAny (.ref u) ⟨us, []⟩) _ _ _
  simp only [callAny]
  refine wpAny_bind (wpAny_load hu ?_)
  simp only [PySem.W.kxs_mw]
  refine PySem.W.KFB.if_so (by decide) ?_
  refine wpAny_bind (PySem.W.check_bound_init F.excBase_ValueError.toExcCallFacts hCs ho rfl ?_)
  refine wpAny_bind (wpAny_pure (wpAny_pure ?_))
  refine ⟨plainId_quiet F.excBase_ValueError.init.plain _, codeAny_builtin F.excBase_ValueError.initEntry ?_⟩
  refine PySem.W.exc_init_tree (cls := .ref C) (t0 := t1) (dv := none) (c2 := .none) (c3 := .none) (b4 := .bool false) ho hl fun h2 k hx _ => ?_
  have J := I.write (t' := t) (x := a) (e := a) (o := exo a C none) (by rw [e]; exact True.intro) (.inl rfl) k ⟨_, hx⟩ (exo_ok hx)
  have eq : upd H a (exo a C none) = H := by
    funext z
    by_cases hz : z = a
    · rw [hz, upd_same, e]
    · rw [upd_ne hz]
  rw [eq] at J
  exact h _ J

theorem at_supx {i : Nat} {e : Expr} {es : List Expr} {t : TA} {p0 p1 apos pos spos : Pos} {pl : Sem Bool} (S : SupX X.prog X.K X.mg f cc cda D C slf) (henv : X.env = envS qual sc L f (.ref cda) cc) (hN : X.N[i]? = some slf)
    (ha : PA X (e :: es) t)
    (hks : sc.names.lookup ("super" : Str) = some .globalImplicit) (hkc : sc.names.lookup ("__class__" : Str) = some .free) (hsl : sc.names.lookup slf = some .local)
    (hst : starEach (e :: es) X.env = (false, eval e X.env) :: starEach es X.env) (hpl : (backTo pos (starEach es X.env)).any (·.1) = false)
    (hi : interactive X.env = false) (hs : swapsWith (.Call (.Attribute (.Call (.Name "super" p0) [] [] p1) "__init__" apos) (e :: es) [] pos) none spos.line X.env = pure false)
    (he : eval (.Call (.Attribute (.Call (.Name "super" p0) [] [] p1) "__init__" apos) (e :: es) [] pos) X.env = (do
      let ov ← attributeBase (.Call (.Name "super" p0) [] [] p1) "__init__" X.env (eval (.Call (.Name "super" p0) [] [] p1) X.env)
      standAt apos.atName
      let (fn, first) ← holding [ov] (getMethod ov "__init__" pl)
      callWith pos fn first (backTo pos (starEach (e :: es) X.env)) [])) :
    PAt1 X b (.Expr (.Call (.Attribute (.Call (.Name "super" p0) [] [] p1) "__init__" apos) (e :: es) [] pos) spos) (tSupX X.K i C t) := by
  refine ⟨fun pins s σ H D0 I h => ?_⟩
  obtain ⟨a, hσ, hH, T, hq⟩ := h
  obtain ⟨oc, od, fd, osl, ar, l1, l2, l3⟩ := S.fn
  obtain ⟨ccl, cdd, vs, ccs, tf, l4, l5⟩ := S.cd
  obtain ⟨cl, cld, csl, l6⟩ := S.cell
  obtain ⟨dD, l7⟩ := S.clD
  obtain ⟨dC, l8⟩ := S.clC
  have KX : X.K.In s.heap := I.kIn
  obtain ⟨t1, ho⟩ := exo_at I.hok hH
  have J : PySem.W.InstAt s.heap a { cls := .ref C, dict := none, data := .fields #[.ref t1, .none, .none, .none, .bool false, .none] } C none := ⟨ho, rfl, rfl, trivial⟩
  obtain ⟨m, hn, hl⟩ := I.loc
  have hkself : X.env.kindOf slf = some .local := by rw [henv]; exact hsl
  have hself : m slf = some (.ref a) := by
    obtain ⟨u, ru, lu⟩ := hl i slf (.ref a) hN hσ (.inl (by rw [henv]; exact hsl))
    cases ru
    rcases lu with ⟨_, z⟩ | ⟨z, _⟩
    · exact z
    · rw [hkself] at z
      rcases z with z | z <;> cases z
  obtain ⟨mb, hb1, hb2⟩ := I.mod.blt
  obtain ⟨oD, hD1, hD2⟩ := cls_at KX l7
  have hkf : X.env.scope.kind = .function := I.ok.kind
  have hks2 : X.env.kindOf "super" = some .globalImplicit := by rw [henv]; exact hks
  have hkc2 : X.env.kindOf "__class__" = some .free := by rw [henv]; exact hkc
  refine ks_wpAt_Expr_any ?_ hi hs
  refine ks_wpAt_MethodCall (pl := pl) ?_ he
  refine ks_wpAt_super_base (f := f) (cc := cda) hks2 hkc2 (by decide) (by rw [henv]) (KX _ _ l1) rfl l2 (by rw [henv]) (KX _ _ l4) rfl l5 (by simp) S.top ?_
  refine PySem.W.ks_loadName_global hkf hks2 (Calls.loadGlobal_builtin (by rw [I.ok.glob]; exact I.mod.glob.keeps I.bk) S.sup (by rw [I.ok.blt]; exact hb1.keeps I.bk) ((hb2 _ (by decide +kernel)).trans (by decide +kernel : bootBuiltins "super" = some (.type "super"))) ⟨rfl, ?_⟩)
  refine wpAny_loadName_free hkf hkc2 (by rw [henv]; rfl) ⟨_, KX _ _ l6, rfl⟩ ?_
  rw [l3]
  refine wpAny_loadName_local hkf hkself hn hself ?_
  refine ks_wpAny_isType_cls hD1 hD2 ⟨rfl, ?_⟩
  obtain ⟨hh, gg, dd, tt, os⟩ := s
  refine ks_wpAny_call_super hD1 hD2 J.at_ J.cls (fun c z => ?_) (PySem.W.looks_mroIn KX S.sub) (fun h2 hso hk => ?_)
  · cases z
  have I2 : Inv X pins σ H ⟨h2, gg, dd, tt, os⟩ := I.kept (t' := tt) hk
  have KX2 : X.K.In h2 := I2.kIn
  have hfin := S.fin
  unfold PySem.W.ks_superIn at hfin
  rw [l8] at hfin
  have J2 : PySem.W.InstAt h2 a { cls := .ref C, dict := none, data := .fields #[.ref t1, .none, .none, .none, .bool false, .none] } C none := ⟨hk _ _ ho, rfl, rfl, trivial⟩
  have hI : PySem.W.Looks (model X.prog X.w) h2 (isInstance (.ref a) (.type "ValueError")) true := J2.type.andThen (PySem.W.looks_subIn KX2 S.vE)
  refine PySem.W.kxs_getMethod PySem.W.kxs_ValueError hso (PySem.W.looks_opaque KX2 S.opq) (l₀ := dC.mro) (fun A Q E s k q => wpAny_bind ((PySem.W.looks_clsIn KX2 l8) A _ E s k (wpAny_pure q))) rfl KX2 hfin hI (PySem.W.ks_ne KX J l8) (by decide) ?_
  have fresh : H h2.objs.size = none := I2.hok.fresh (Nat.le_refl _)
  have hnew : PySem.W.KxsAt "ValueError.__init__" h2.objs.size a (h2.push (PySem.W.kxs_mw "ValueError.__init__" a)) := Heap.get?_push_size h2 rfl
  have I3 : Inv X pins σ (upd H h2.objs.size (mwO h2.objs.size a)) ⟨h2.push (PySem.W.kxs_mw "ValueError.__init__" a), gg, dd, tt + 1, os⟩ :=
    I2.laid (a := h2.objs.size) (o := mwO h2.objs.size a) (t' := tt + 1) (fun b u z => Heap.get?_push_of_some _ z) (Nat.le_refl _) ⟨hnew, ⟨_, hnew⟩, fun k1 k2 z st => st _ z⟩
  have q3 := hq _ fresh
  show wpAny _ _ (callWith pos (.ref h2.objs.size) [] (backTo pos (starEach (e :: es) X.env)) []) _ _ _
  rw [hst]
  refine PySem.W.kxs_callWith (i := "ValueError.__init__") (x := a) (by show (false || (backTo pos (starEach es X.env)).any (·.1)) = false; rw [hpl]; rfl) (Calls.evalArgs_plain ?_)
  have run := ha.run pos pins _ σ _ _ I3 q3
  rw [hst] at run
  refine thn run fun us s4 ⟨vs4, H4, I4, r4, hm4, ha4, hz, q4⟩ => ⟨mw_at I4.hok hm4, ?_⟩
  have hlen : us.length ≤ sizeLine := by
    rw [← Paired.length r4, sizeLine_eq]
    omega
  exact mw_call T I4 ha4 hm4 hlen fun s5 I5 => ⟨σ, H4, I5, q4⟩
end

/-- the promise of an own exception's __init__ that keeps one argument in the field f -/
def spEx (K : PySem.W.Frag) (C : Addr) (fld : Str) : Sp := fun vs H Q _ => ∃ a v, vs = [.ref a, v] ∧ H a = some (exo a C none) ∧ OexC K C ∧ PySem.W.findIn K (.ref C) fld = some none ∧
  ∀ dx (H' : Hp), Same (upd H a (exo a C (some dx))) H' → H dx = none → dx ≠ a → H' a = some (exo a C (some dx)) → H' dx = some (exd dx [(fld, v)]) → (∀ b o, b ≠ a → H b = some o → H' b = some o) → Q .non H'
end L2.WB
namespace L2.WB
open PySem PySem.Spec PyProof.Rows

section
variable {M : Model} {A : Around} {E : Value → Shared → Prop} {s1 : Shared} {B : Heap} {cenv : Env} {l : List Env} {a L : Addr} {Z : Obj → Prop} {m : Str → Option Value}
theorem traced_but {h h' : Heap} {fl : Value} (hn : h.Ns L m) (hs : Heap.SameBut L h h') (t : HandSPX.TracedZ h B a Z fl) : HandSPX.TracedZ h' B a Z fl := by
  obtain ⟨oe, vs, T, oT, ts, e1, e2, e3, e4, e5, e6, e7, e8, e9⟩ := t
  obtain ⟨oL, es, ep, f1, f2, _⟩ := hn
  have n1 : a ≠ L := by
    intro q
    rw [q, f1] at e1
    have q2 := Option.some.inj e1
    rw [← q2, f2] at e3
    cases e3
  have n2 : T ≠ L := by
    intro q
    rw [q, f1] at e7
    have q2 := Option.some.inj e7
    rw [← q2, f2] at e8
    cases e8
  exact ⟨oe, vs, T, oT, ts, (hs.2 a n1).trans e1, e2, e3, e4, e5, e6, (hs.2 T n2).trans e7, e8, e9⟩

theorem comp_fails (hf : cenv.frame = some L) (hb : B.get? cenv.locals = none) (hn : s1.heap.Ns cenv.locals m) (hh : HandSPX.HeldZ B l a Z L s1.heap)
    (hQ : ∀ h2, HandSPX.HeldZ B l a Z L h2 → (∀ b o, b ≠ cenv.locals → s1.heap.get? b = some o → (∀ vs, o.data ≠ .fields vs) → ∃ sl, h2.get? b = some { o with slots := sl }) → E (.ref a) { s1 with heap := h2 }) : CompFails M A E cenv (.ref a) s1 := by
  refine ⟨m, hn, fun g m2 hn2 hs2 => ?_⟩
  obtain ⟨c1, c2, c3, c4⟩ := hh
  have d1 : B.StaysIn g := fun b o e => (hs2.2 b fun q => by rw [q, hb] at e; cases e).trans (c1 b o e)
  have d3 := Heap.FunFrames.sameBut hs2 hn2 c3
  have d4 := traced_but hn hs2 c4
  have d4' := d4
  obtain ⟨oe, vs, T, oT, ts, e1, e2, e3, e4, _⟩ := d4
  unfold _root_.PySem.passOn
  refine wpAny_bind (wpAny_field e1 e3 e4 ?_)
  rw [if_neg (by simp), hf]
  refine wpAny_bind (HandSPX.setFlight_onZ (l := l) ⟨d1, c2, d3, d4'⟩ fun h3 hh3 up => wpAny_throw ?_)
  refine hQ h3 hh3 fun b o hbl e hnf => ?_
  exact up b o ((hs2.2 b hbl).trans e) hnf
end

/-- the block's frame taken away -/
def dropAt (h : Heap) (C : Addr) : Heap := PySem.W.hideAll h [C]
theorem drop_get {h : Heap} {C b : Addr} {o : Obj} (n : b ≠ C) (e : h.get? b = some o) : (dropAt h C).get? b = some o := PySem.W.hideAll_get [C] e (by simpa using n)
theorem drop_none (h : Heap) (C : Addr) : (dropAt h C).get? C = none := PySem.W.hideAll_none [C] (by simp)
theorem drop_of {h : Heap} {C b : Addr} {o : Obj} (e : (dropAt h C).get? b = some o) : b ≠ C ∧ h.get? b = some o :=
  by
  refine ⟨fun z => ?_, PySem.W.of_hideAll [C] e⟩
  rw [z, drop_none] at e
  cases e

section
variable {X : Cx}
theorem blk_noted {W : WX} {pins pinsB : List (Addr × Obj)} {σ σB : St} {H3 HB : Hp} {s3 sB s1 : Shared} {scope : Scope} {ce : Env} {fp : List Addr} {F : XK} {e : Value} {use : Option (Value → Sem Unit)} {Qf : Value → Shared → Prop} {acc : Value}
    (hst : X.stack = X.env :: X.outer) (hfr : X.env.frame = some X.env.locals) (tk : Takes X W) (I3 : Inv X pins σ H3 s3) (f3 : ∀ b ∈ fp, FpOk X pins H3 b) (hcf : ce.frame = X.env.frame) (hcl : ce.locals = s3.heap.objs.size)
    (IB : Inv (X.blk s3 H3 scope ce fp) pinsB σB HB sB) (c : CX X.prog X.w X.stack HB sB F e s1) (hW : ∀ cls d H', F cls d H' → W cls d σ H') :
    notedBy (model X.prog X.w) X.A ce (fun x s2 => compEnds (model X.prog X.w) X.A X.xe use Qf acc ce (.error x) s2) e s1 := by
  -- the exception above the block's own state
  obtain ⟨aF, BF, HF, clsF, dF, eF, flF, _⟩ := id c
  obtain ⟨a, B, sI, pI, σI, HI, cls, d, rfl, II, nb, up, sky, na, os1, ag1, w⟩ := XE.of_call (X := X.blk s3 H3 scope ce fp) (W := fun cls d _ H' => W cls d σ H') IB (fun cls d H' q => hW cls d H' q) c
  have nb : ∀ b o, sI.heap.get? b = some o → b ∉ frs X.stack → B.get? b = some o := nb
  have hfs : X.A.frames = some (X.env :: X.outer) := by rw [I3.ok.frames, hst]
  -- without the block's frame
  have nC : HI ce.locals = none := II.free
  have hnew : s3.heap.get? ce.locals = none := by
    rw [hcl]
    exact Heap.get?_none_of_le (Nat.le_refl _)
  have hkeepB := II.base
  have J : Inv X pins σ HI { sI with heap := dropAt sI.heap ce.locals } := by
    refine I3.call' (ch := fp) II.os ?_ ?_ II.bare fun b hb => ⟨(f3 b hb).2.2.2.1, (f3 b hb).2.1, (f3 b hb).2.2.2.2.1, (f3 b hb).2.2.2.2.2⟩
    · have nl : ∀ b o, s3.heap.get? b = some o → b ≠ ce.locals := fun b o q z => by rw [z, hnew] at q; cases q
      refine ⟨fun b o q n h1 h2 => drop_get (nl b o q) (hkeepB.keep b o q n h1 h2), fun b o q n h1 h2 => ?_, fun b o q n h2 => hkeepB.free b o q n h2, fun b o q h2 => ?_, hkeepB.tups, hkeepB.frzs, hkeepB.tbls⟩
      · obtain ⟨sl, z⟩ := hkeepB.slot b o q n h1 h2
        exact ⟨sl, drop_get (nl b o q) z⟩
      · obtain ⟨o2, z⟩ := hkeepB.there b o q h2
        exact ⟨o2, drop_get (nl b o q) z⟩
    · intro b o q
      have nb2 : b ≠ ce.locals := fun z => by rw [z, nC] at q; cases q
      refine (II.hok b o q).stay (fun b2 u z r => drop_get ?_ r) (fun _ r => r) fun _ _ r => r
      rcases z with z | z
      · rw [z]; exact nb2
      · intro z2
        rw [z2, nC] at z
        cases z
  have up2 : Heap.UpToSlots (dropAt sI.heap ce.locals) s1.heap := fun b o q hnf => up b o (drop_of q).2 hnf
  have nb2 : ∀ b o, (dropAt sI.heap ce.locals).get? b = some o → b ∉ frs X.stack → (dropAt B ce.locals).get? b = some o := fun b o q hb => drop_get (drop_of q).1 (nb b o (drop_of q).2 hb)
  have lift : ∀ {h : Heap}, B.StaysIn h → (dropAt B ce.locals).StaysIn h := fun st b o q => st b o (drop_of q).2
  have sB2 : ∀ {b : Addr}, B.get? b = none → (dropAt B ce.locals).get? b = none := fun {b} q => by
    cases z : (dropAt B ce.locals).get? b with
    | none => rfl
    | some o => rw [(drop_of z).2] at q; cases q
  obtain ⟨m, hn, _⟩ := II.loc
  have hn : sI.heap.Ns ce.locals m := hn
  have hn1 : s1.heap.Ns ce.locals m := up.ns hn
  -- noted
  have fin : ∀ h2, HandSPX.HeldZ B (X.env :: X.outer) a (Zc cls d) X.env.locals h2 → s1.heap.UpToSlots h2 → compEnds (model X.prog X.w) X.A X.xe use Qf acc ce (.error (.ref a)) { s1 with heap := h2 } := by
    intro h2 hh up3
    have hn2 : h2.Ns ce.locals m := up3.ns hn1
    have hh2 : HandSPX.HeldZ (dropAt B ce.locals) (X.env :: X.outer) a (Zc cls d) X.env.locals h2 := by
      obtain ⟨c1, c2, c3, oe, vs, T, oT, ts, e1, e2, e3, e4, e5, e6, e7, e8, e9⟩ := hh
      refine ⟨lift c1, sB2 c2, funFrames_none c3 fun L hL => ?_, oe, vs, T, oT, ts, e1, e2, e3, e4, sB2 e5, e6, e7, e8, e9⟩
      exact sB2 (c3.mem hL).1
    have ends : CompFails (model X.prog X.w) X.A X.xe ce (.ref a) { s1 with heap := h2 } := by
      refine comp_fails (L := X.env.locals) (l := X.env :: X.outer) (B := dropAt B ce.locals) (Z := Zc cls d) (by rw [hcf]; exact hfr) (drop_none _ _) hn2 hh2 fun h3 hh3 k3 => ?_
      refine tk _ _ ⟨a, dropAt B ce.locals, _, pins, σ, HI, cls, d, rfl, J, nb2, ?_, ?_, na, os1, ag1, w⟩
      · intro b o q hnf
        obtain ⟨sl1, q1⟩ := up2 b o q hnf
        obtain ⟨sl2, q2⟩ := up3 b _ q1 hnf
        obtain ⟨sl3, q3⟩ := k3 b _ (drop_of q).1 q2 hnf
        exact ⟨sl3, q3⟩
      · rw [hst]
        exact .inr (.inr hh3)
    cases use <;> exact ends
  have sky : Sky B (X.env :: X.outer) a (Zc cls d) ce.locals s1.heap := by rw [← hst]; exact sky
  show wpAny (model X.prog X.w) X.A (noteFrame (.ref a) ce) _ _ s1
  rw [noteFrame_env _ hcf]
  rcases sky with ⟨hB, hn0, hl0, oe, vs, he, hz, hd, h1⟩ | fl | hh
  · exact HandSPX.look_newZ Zc.steady hfs hl0 hfr he hB hn0 hd h1 hz fin
  · exact HandSPX.looks_onZ Zc.steady hfs hfr fl fin
  · exfalso
    cases eF
    obtain ⟨_, _, _, oe, vs, T, oT, ts, e1, _, e3, e4, _, _, e7, e8, e9⟩ := hh
    obtain ⟨_, _, _, oe', vs', T', oT', ts', e1', _, e3', e4', _, _, e7', e8', e9'⟩ := flF
    rw [e1] at e1'
    cases e1'
    rw [e3] at e3'
    cases e3'
    rw [e4] at e4'
    cases e4'
    rw [e7] at e7'
    cases e7'
    rw [e8] at e8'
    cases e8'
    rw [e9] at e9'
    cases e9'

/-- the turns of a list comprehension's loop, at the end of which R is owed -/
theorem lcx_core {W : WX} {E : XK} {pins : List (Addr × Obj)} {s : Shared} {σ : St} {H : Hp} {Q : VK} {elt tg iter : Expr} {ifs : List Expr} {scope : Scope} {own : List (Str × Nat)} {pos pos2 : Pos} {wi : TI} {g : TG} {tt : TT} {te : TE} {use : Option (Value → Sem Unit)} {Qf : Value → Shared → Prop}
    (hc : X.calm = true) (hN : X.N.Nodup) (hst : X.stack = X.env :: X.outer) (hfr : X.env.frame = some X.env.locals) (tk : Takes X W) (hW : ∀ cls d σ H', E cls d H' → W cls d σ H') (I : Inv X pins σ H s) (hi : PI X tg iter wi) (ok : BlkOk X.N X.env.scope scope own)
    (hg : ∀ (s : Shared) (H : Hp) (C : Addr) (cl : List (Str × Addr)) (fp : List Addr), PG (X.blk s H scope (compEnvC scope cl C X.env) fp) tg g)
    (ht : ∀ (s : Shared) (H : Hp) (C : Addr) (cl : List (Str × Addr)) (fp : List Addr), PTs (X.blk s H scope (compEnvC scope cl C X.env) fp) ifs tt)
    (he : ∀ (s : Shared) (H : Hp) (C : Addr) (cl : List (Str × Addr)) (fp : List Addr) (E1 : Value → Shared → Prop), Passes (CX X.prog X.w) ((X.blk s H scope (compEnvC scope cl C X.env) fp).wish E1) E → PE ((X.blk s H scope (compEnvC scope cl C X.env) fp).wish E1) elt te)
    (hs : ∀ x, foldedSetIterable iter X.env x = pure x) (h : tLc wi g tt te (own.map (·.2)) σ H Q)
    (hend : ∀ D (ce : Env) s2 m H2, Inv X pins σ H2 s2 → Q (.ref D) H2 → s2.heap.Ns ce.locals m → FpOk X pins H2 ce.locals → compEnds (model X.prog X.w) X.A X.xe use Qf (.ref D) ce (.ok .next) s2) :
    wpAny (model X.prog X.w) X.A (comprehension (.ListComp elt [⟨tg, iter, ifs, 0⟩] scope pos) scope X.env pos2 (newList []) false (eval iter X.env) use) Qf X.xe s := by
  have hfree : ∀ y ∈ scope.names, y.2 = .free → ∃ c, X.env.cells.lookup y.1 = some c := by
    intro y hy e
    exact (ok.free y hy e).elim (fun k => I.ok.has _ (.inl k)) (fun k => I.ok.has _ (.inr k))
  refine comprehension_at (use := use) rfl hs (closure_ok hfree) ok.kind (fun y hy e => (ok.uniq y hy).trans (by rw [e]))
    (thn (hi.run pins s σ H _ I h) fun xv sa hx => thn hx fun itv sb hb => ?_)
  obtain ⟨it, fp, tn, J, Hb, rfl, Ib, T, stb, fb, qb⟩ := hb
  refine wpAny_newObj_type (newEnv_comp ?_) (Nat.zero_le _)
  obtain ⟨D, hD⟩ : ∃ D, D = sb.heap.objs.size := ⟨_, rfl⟩
  have hDn : Hb D = none := Ib.hok.fresh (Nat.le_of_eq hD.symm)
  obtain ⟨Wd, ⟨m0, w0⟩, turn⟩ := qb D hDn
  obtain ⟨sc, hsc⟩ : ∃ sc : Shared, sc = { sb with heap := sb.heap.push { cls := .type "list", data := .seq ([] : List Value).toArray } } := ⟨_, rfl⟩
  have hc3 : sc.heap = sb.heap.push { cls := .type "list", data := .seq ([] : List Value).toArray } := by rw [hsc]
  obtain ⟨Hc, hHc⟩ : ∃ Hc, Hc = upd Hb D (.lst []) := ⟨_, rfl⟩
  have Ic : Inv X pins σ Hc sc := by
    rw [hsc, hHc]
    refine Ib.laid (t' := sb.toks) (fun b o e => Heap.get?_push_of_some _ e) (Nat.le_of_eq hD.symm) ⟨Nat.zero_le _, [], 0, .nil, ?_⟩
    rw [hD]
    exact Heap.get?_push_size _ rfl
  have fc : ∀ b ∈ fp, FpOk X pins Hc b ∧ b < sc.heap.objs.size := by
    intro b hb
    obtain ⟨o, e, _⟩ := T.obj _ _ stb b hb
    have lt := Heap.lt_size e
    refine ⟨⟨?_, (fb b hb).2⟩, by rw [hc3, Heap.size_push]; exact Nat.lt_succ_of_lt lt⟩
    rw [hHc, upd_ne (by rw [hD]; exact Nat.ne_of_lt lt)]
    exact (fb b hb).1
  have stc : tn 0 sc.heap := T.keep _ _ _ stb fun b _ o e => by rw [hc3]; exact Heap.get?_push_of_some _ e
  have Id := block_start Ic ok hN fc
  rw [← hD, ← hsc]
  rw [← hHc] at w0
  show codeAny _ _ (.compStart (.ListComp elt [⟨tg, iter, ifs, 0⟩] scope pos) 0 (.ref it) (.ref D) (compEnvC scope (cellsFrom (sc.heap.objs.size + 1) scope.names (cloFrom X.env.cells scope.names [])) sc.heap.objs.size X.env))
    (compEnds (model X.prog X.w) X.A X.xe use Qf (.ref D) (compEnvC scope (cellsFrom (sc.heap.objs.size + 1) scope.names (cloFrom X.env.cells scope.names [])) sc.heap.objs.size X.env)) { sc with heap := pushCells (sc.heap.push { cls := .type "dict", data := .dict #[] }) scope.names }
  have pg := hg sc Hc sc.heap.objs.size (cellsFrom (sc.heap.objs.size + 1) scope.names (cloFrom X.env.cells scope.names [])) fp
  have pt := ht sc Hc sc.heap.objs.size (cellsFrom (sc.heap.objs.size + 1) scope.names (cloFrom X.env.cells scope.names [])) fp
  have pe := he sc Hc sc.heap.objs.size (cellsFrom (sc.heap.objs.size + 1) scope.names (cloFrom X.env.cells scope.names [])) fp
  obtain ⟨ce, hce⟩ : ∃ ce, ce = compEnvC scope (cellsFrom (sc.heap.objs.size + 1) scope.names (cloFrom X.env.cells scope.names [])) sc.heap.objs.size X.env := ⟨_, rfl⟩
  have cl1 : ce.locals = sc.heap.objs.size := by rw [hce]; rfl
  have cf1 : ce.frame = X.env.frame := by rw [hce]; rfl
  rw [← hce] at Id pg pt pe ⊢
  have nfp : ∀ b ∈ fp, Hc b = none := fun b hb => (fc b hb).1.1
  obtain ⟨sd, hsd⟩ : ∃ sd : Shared, sd = { sc with heap := pushCells (sc.heap.push { cls := .type "dict", data := .dict #[] }) scope.names } := ⟨_, rfl⟩
  rw [← hsd] at Id ⊢
  have std : tn 0 sd.heap := T.keep _ _ _ stc fun b _ o e => by rw [hsd]; exact pushCells_keeps _ _ _ _ (Heap.get?_push_of_some _ e)
  have stat : ∀ {σ1 : St} {H1 : Hp} {s1 : Shared}, Inv (X.blk sc Hc scope ce fp) [] σ1 H1 s1 → (∀ b ∈ fp, H1 b = none) → ∀ b ∈ fp, FpOk (X.blk sc Hc scope ce fp) [] H1 b := by
    intro σ1 H1 s1 I1 hn b hb
    exact ⟨hn b hb, (I1.ok.exf b hb).1, I1.ok.exfs b hb, .inl hb, fun x c e => (I1.ok.exf b hb).2 x c e, fun p hp => absurd (show p ∈ ([] : List (Addr × Obj)) ++ [] from hp) (by simp)⟩
  have pel := pe (notedBy (model X.prog X.w) X.A ce fun x s2 => compEnds (model X.prog X.w) X.A X.xe use Qf (.ref D) ce (.error x) s2) (fun pinsB σB HB sB x s1 IB c =>
    blk_noted hst hfr tk Ic (fun b hb => (fc b hb).1) cf1 cl1 IB.unwish c (fun cls d H' q => hW cls d σ H' q))
  refine codeAny_compStart_list ?loop (T.self X.A 0 _ _ _ std ?loop)
  refine compLoop_any (fun n s1 => ∃ i H1, Inv (X.blk sc Hc scope ce fp) [] (wipe σ (own.map (·.2))) H1 s1 ∧ tn i s1.heap ∧ (∀ b ∈ fp, H1 b = none) ∧ Wd i n H1) ?_ m0 ⟨0, Hc, Id, std, nfp, w0⟩
  rintro n s5 ⟨i, H5, I5, st5, n5, w5⟩
  rcases turn i n H5 w5 with ⟨stop, qq⟩ | ⟨go, Nx, hNx, step⟩
  · have td := T.done (X.blk sc Hc scope ce fp) rfl rfl rfl hc i [] s5 _ H5 (fun _ _ => False) I5 (stat I5 n5) st5 stop
    refine thnF td fun r s6 ⟨hr, I6⟩ => ?_
    subst hr
    have I7 : Inv X pins σ H5 s6 := Ic.call' (ch := fp) I6.os I6.base I6.hok I6.bare fun b hb => ⟨(fc b hb).1.2.2.2.1, (fc b hb).1.2.1, (fc b hb).1.2.2.2.2.1, (fc b hb).1.2.2.2.2.2⟩
    have nC : H5 ce.locals = none := I6.free
    obtain ⟨m, hn, _⟩ := I6.loc
    exact hend D ce s6 m H5 I7 qq hn (Ic.fpOk (Nat.le_of_eq cl1.symm) nC)
  · have ti := T.item (X.blk sc Hc scope ce fp) rfl rfl rfl hc i [] s5 _ H5 (fun _ _ => False) I5 (stat I5 n5) st5 go
    refine thnF ti fun r s6 ⟨u, hr, h6⟩ => ?_
    subst hr
    refine thnF h6 fun _ s7 ⟨x, H7, I7, r7, y7, st7, n7⟩ => ?_
    have I8 := I7.pinned (stat I7 n7) (T.obj _ _ st7)
    refine thnF (pg.run _ s7 _ H7 x u _ I8 r7 (step x H7 y7)) fun _ s8 ⟨σ8, H8, I9, hw8, q8⟩ => ?_
    refine thnF (pt.run _ s8 σ8 H8 _ I9 q8) fun b s9 ⟨H9, I10, q9⟩ => ?_
    have fin : ∀ {s1 : Shared} {H1 : Hp}, Inv (X.blk sc Hc scope ce fp) ([] ++ pinsAt fp s7.heap) σ8 H1 s1 → Nx H1 → ∃ m, m < n ∧ ∃ i H1, Inv (X.blk sc Hc scope ce fp) [] (wipe σ (own.map (·.2))) H1 s1 ∧ tn i s1.heap ∧ (∀ b ∈ fp, H1 b = none) ∧ Wd i m H1 := by
      intro s1 H1 I1 nx
      obtain ⟨m2, hm, w2⟩ := hNx H1 nx
      have pin2 : ∀ b ∈ fp, ∀ o, s7.heap.get? b = some o → s1.heap.get? b = some o ∧ H1 b = none := fun b hb o e =>
        ⟨(I1.pin (b, o) (List.mem_append_right _ (List.mem_append_right _ (mem_pinsAt hb e)))).1, (I1.pin (b, o) (List.mem_append_right _ (List.mem_append_right _ (mem_pinsAt hb e)))).2.1⟩
      have hl : (wipe σ (own.map (·.2))).length = σ8.length := by rw [← hw8, wipe_length]
      refine ⟨m2, hm, i + 1, H1, (I1.unpinned (pins := [])).weak hl (fun j v e => ?_), T.keep _ _ _ st7 fun b hb o e => (pin2 b hb o e).1, fun b hb => ?_, w2⟩
      · rw [← hw8] at e
        exact (wipe_some e).1
      · obtain ⟨o, e, _⟩ := T.obj _ _ st7 b hb
        exact (pin2 b hb o e).2
    cases b with
    | false =>
      simp only [Bool.false_eq_true, if_false] at q9 ⊢
      exact fin I10 q9
    | true =>
      simp only [if_true] at q9 ⊢
      refine wpAny_mono (pel.run _ s9 σ8 H9 _ (I10.wish _) q9) (fun z sx hx => ?_) fun _ _ z => z
      obtain ⟨yv, H11, I11, r11, acc, hD11, hz11, nx⟩ := hx
      exact thnF (app_ok (X := X.blk sc Hc scope ce fp) I11.unwish hD11 hz11 r11 fun sy I12 => fin I12 nx) fun _ _ z => z

theorem ps_setLcX {W : WX} {E : XK} {i : Nat} {y : Str} {py : Pos} {elt tg iter : Expr} {ifs : List Expr} {scope : Scope} {own : List (Str × Nat)} {pos spos : Pos} {wi : TI} {g : TG} {tt : TT} {te : TE} (hc : X.calm = true) (hN : X.N.Nodup) (hst : X.stack = X.env :: X.outer) (hfr : X.env.frame = some X.env.locals)
    (tk : Takes X W) (hW : ∀ cls d σ H', E cls d H' → W cls d σ H') (hy : X.N[i]? = some y) (hyl : X.env.scope.names.lookup y = some .local)
    (hsw : swapsWith (.ListComp elt [⟨tg, iter, ifs, 0⟩] scope pos) (some (.Name y py)) spos.line X.env = pure true) (hi : PI X tg iter wi) (ok : BlkOk X.N X.env.scope scope own)
    (hg : ∀ (s : Shared) (H : Hp) (C : Addr) (cl : List (Str × Addr)) (fp : List Addr), PG (X.blk s H scope (compEnvC scope cl C X.env) fp) tg g)
    (ht : ∀ (s : Shared) (H : Hp) (C : Addr) (cl : List (Str × Addr)) (fp : List Addr), PTs (X.blk s H scope (compEnvC scope cl C X.env) fp) ifs tt)
    (he : ∀ (s : Shared) (H : Hp) (C : Addr) (cl : List (Str × Addr)) (fp : List Addr) (E1 : Value → Shared → Prop), Passes (CX X.prog X.w) ((X.blk s H scope (compEnvC scope cl C X.env) fp).wish E1) E → PE ((X.blk s H scope (compEnvC scope cl C X.env) fp).wish E1) elt te)
    (hs : ∀ x, foldedSetIterable iter X.env x = pure x := by intro _; rfl) :
    PS X (.Assign [.Name y py] (.ListComp elt [⟨tg, iter, ifs, 0⟩] scope pos) spos) (tAsg (tLc wi g tt te (own.map (·.2))) (gName i)) := by
  refine ⟨fun pins s σ H D I h => ?_⟩
  rw [exec_Assign_Name_used _ _ _ _ hsw]
  refine wpAny_bind (wpAny_standAt (wpAny_bind ?_))
  show wpAny _ X.A (do let _ ← comprehension (.ListComp elt [⟨tg, iter, ifs, 0⟩] scope pos) scope X.env (firstIterPos [⟨tg, iter, ifs, 0⟩] pos) (newList []) false (eval iter X.env) (some (assign (.Name y py) X.env))) _ _ s
  have h : tLc wi g tt te (own.map (·.2)) σ H (fun x H1 => gName i x σ H1 D.nx) := h
  refine wpAny_bind (thn (lcx_core (Qf := fun _ s1 => SP X pins D .next s1) hc hN hst hfr tk hW I hi ok hg ht he hs h fun L ce s1 m H1 I1 q hn f => ?_) fun _ s1 hq => wpAny_pure (wpAny_pure hq))
  show wpAny _ _ (assign (.Name y py) X.env (.ref L)) _ _ _
  refine wpAny_assign_Name (store_ok2 (v := V.ref L) I1 hN hy (.inl hyl) rfl (fun s2 I2 hx => ?_) (.inr hyl))
  obtain ⟨a, sb, ha⟩ := hx
  obtain ⟨f0, f1, f2, f3, f4, f5⟩ := f
  have haC : ce.locals ≠ a := by
    rcases ha with z | z
    · rw [z]
      exact f1
    · exact fun e => f4 y a z e.symm
  exact ⟨m, hn.sameBut sb haC, fun h3 sb3 => ⟨_, H1, I2.turned (t' := s2.toks) (fun b o hb e => (sb3.2 b hb).trans e) f0 f1 f3 f4 f5, q⟩⟩
end
end L2.WB
namespace L2.WB
open PySem PySem.Spec PyProof.Rows

section
variable {X : Cx} {f : Value → Value → Sem Value} {r r' : R2}
theorem OpR.of (h : OpR X f r) (k : ∀ x y H Q, r' x y H Q → r x y H Q) : OpR X f r' := fun pins s σ H x y v u Q I rx ry q => h pins s σ H x y v u Q I rx ry (k _ _ _ _ q)
theorem OpR.or (h : OpR X f r) (h' : OpR X f r') : OpR X f (fun x y H Q => r x y H Q ∨ r' x y H Q) := fun pins s σ H x y v u Q I rx ry q => q.elim (h pins s σ H x y v u Q I rx ry) (h' pins s σ H x y v u Q I rx ry)
theorem PE.of {e : Expr} {t t' : TE} (h : PE X e t) (k : ∀ σ H Q, t' σ H Q → t σ H Q) : PE X e t' := ⟨fun pins s σ H Q I q => h.run pins s σ H Q I (k _ _ _ q)⟩
theorem PT.of {e : Expr} {t t' : TT} (h : PT X e t) (k : ∀ σ H Q, t' σ H Q → t σ H Q) : PT X e t' := ⟨fun pins s σ H Q I q => h.run pins s σ H Q I (k _ _ _ q)⟩
theorem PS.of {e : Stmt} {t t' : TS} (h : PS X e t) (k : ∀ D σ H, t' D σ H → t D σ H) : PS X e t' := ⟨fun pins s σ H D I q => h.run pins s σ H D I (k _ _ _ q)⟩
theorem PA.of {es : List Expr} {t t' : TA} (h : PA X es t) (k : ∀ σ H Q, t' σ H Q → t σ H Q) : PA X es t' := ⟨fun pos pins s σ H Q I q => h.run pos pins s σ H Q I (k _ _ _ q)⟩
theorem CallR.of {g : Value} {q q' : List V → Hp → VK → Prop} (h : CallR X g q) (k : ∀ xs H Q, q' xs H Q → q xs H Q) : CallR X g q' := fun pins s σ H xs us Q I rx z => h pins s σ H xs us Q I rx (k _ _ _ z)
theorem CallR.or {g : Value} {q q' : List V → Hp → VK → Prop} (h : CallR X g q) (h' : CallR X g q') : CallR X g (fun xs H Q => q xs H Q ∨ q' xs H Q) := fun pins s σ H xs us Q I rx z => z.elim (h pins s σ H xs us Q I rx) (h' pins s σ H xs us Q I rx)
theorem MtR.of {id : String} {q q' : V → List V → Hp → VK → Prop} (h : MtR X id q) (k : ∀ x xs H Q, q' x xs H Q → q x xs H Q) : MtR X id q' := fun pins s σ H x xs v us Q I rx rxs z => h pins s σ H x xs v us Q I rx rxs (k _ _ _ _ z)
theorem MtR.or {id : String} {q q' : V → List V → Hp → VK → Prop} (h : MtR X id q) (h' : MtR X id q') : MtR X id (fun x xs H Q => q x xs H Q ∨ q' x xs H Q) := fun pins s σ H x xs v us Q I rx rxs z => z.elim (h pins s σ H x xs v us Q I rx rxs) (h' pins s σ H x xs v us Q I rx rxs)
theorem IxR.of {q q' : R2} (h : IxR X q) (k : ∀ x y H Q, q' x y H Q → q x y H Q) : IxR X q' := fun a b pins s σ H x y v u Q I rx ry z => h a b pins s σ H x y v u Q I rx ry (k _ _ _ _ z)
theorem SlR.of {q q' : V → Option Int → Option Int → Hp → VK → Prop} (h : SlR X q) (k : ∀ x lo hi H Q, q' x lo hi H Q → q x lo hi H Q) : SlR X q' := fun pins s σ H x v vl vu lo hi sl Q I rx a b c z => h pins s σ H x v vl vu lo hi sl Q I rx a b c (k _ _ _ _ _ z)
end

/-- the name in slot i -/
def uV (i : Nat) : TE := fun σ H Q => match σ[i]? with
  | some (some v) => Q v H
  | _ => False
section
variable {X : Cx}
theorem pe_uv (i : Nat) {x : Str} {pos : Pos} (hN : X.N[i]? = some x := by rfl) (hv : Vis X.env.scope x := by first | exact Or.inl rfl | exact Or.inr (Or.inl rfl) | exact Or.inr (Or.inr rfl)) (hd : (x == ("__debug__" : Str)) = false := by decide)
    (hcd : (x == ("__classdict__" : Str)) = false := by decide) : PE X (.Name x pos) (uV i) := PE.of (pe_var hN hv hd hcd) fun σ H Q q => by
  unfold uV at q
  split at q
  · rename_i v e
    exact ⟨v, e, q⟩
  · exact q.elim
end

def uAdd (K : PySem.W.Frag) : R2 := fun x y H Q => match x, y with
  | .int i, .int j => Q (.int (i + j)) H
  | .str a, .str b => a.length + b.length ≤ sizeLine ∧ Q (.str (a ++ b)) H
  | .ref p, .ref q => (∃ xs zs, H p = some (.lst xs) ∧ H q = some (.lst zs) ∧ xs.length + zs.length ≤ sizeLine ∧ ∀ l, H l = none → Q (.ref l) (upd H l (.lst (xs ++ zs)))) ∨
      ∃ xs zs, SqT K H p xs ∧ SqT K H q zs ∧ xs ≠ [] ∧ xs.length + zs.length ≤ sizeLine ∧ (zs = [] → Q (.ref p) H) ∧ (zs ≠ [] → ∀ l, H l = none → Q (.ref l) (upd H l (.tup (xs ++ zs))))
  | _, _ => False
def uSub : R2 := fun x y H Q => match x, y with
  | .int i, .int j => Q (.int (i - j)) H
  | _, _ => False
def uMod : R2 := fun x y H Q => match x, y with
  | .int i, .int j => 0 < j ∧ Q (.int (i % j)) H
  | _, _ => False
def uFdiv : R2 := fun x y H Q => match x, y with
  | .int i, .int j => (0 < j ∧ j < 1073741824) ∧ Q (.int (i / j)) H
  | _, _ => False
/-- a text n times -/
def repS (z : Str) (n : Int) : Str := ⟨(List.replicate n.toNat z.cps.toList).flatten.toArray⟩
def uMul : R2 := fun x y H Q => match x, y with
  | .int i, .int j => CMul i j ∧ Q (.int (i * j)) H
  | .str z, .int n => 0 ≤ n ∧ n ≤ 1000000 ∧ z.length ≤ 15 ∧ Q (.str (repS z n)) H
  | .ref l, .int k => ∃ xs, H l = some (.lst xs) ∧ 0 ≤ k ∧ k ≤ 1000000 ∧ xs.length * k.toNat ≤ sizeLine ∧ ∀ p, H p = none → Q (.ref p) (upd H p (.lst (List.replicate k.toNat xs).flatten))
  | _, _ => False

theorem foldl_arrs (a : Array Nat) : ∀ (n : Nat) (acc : Array Nat), (List.replicate n a).foldl (· ++ ·) acc = acc ++ (List.replicate n a.toList).flatten.toArray
  | 0, acc => by simp
  | n + 1, acc => by
    rw [List.replicate_succ, List.foldl_cons, foldl_arrs a n, List.replicate_succ, List.flatten_cons]
    apply Array.toList_inj.mp
    simp
theorem len_rep (l : List Nat) (n : Nat) : (List.replicate n l).flatten.length = n * l.length := by
  induction n with
  | zero => simp
  | succ n ih => rw [List.replicate_succ, List.flatten_cons, List.length_append, ih, Nat.succ_mul, Nat.add_comm]

section
variable {X : Cx}
theorem op_uAdd : OpR X (binaryOp .Add) (uAdd X.K) := by
  refine OpR.of (OpR.or op_add (OpR.or op_add_str (OpR.or op_cat op_catT))) fun x y H Q q => ?_
  unfold uAdd at q
  split at q
  · exact .inl ⟨_, _, rfl, rfl, q⟩
  · exact .inr (.inl ⟨_, _, rfl, rfl, q.1, q.2⟩)
  · rcases q with ⟨xs, zs, h1, h2, h3, h4⟩ | ⟨xs, zs, h1, h2, h3, h4, h5, h6⟩
    · exact .inr (.inr (.inl ⟨_, _, xs, zs, rfl, rfl, h1, h2, h3, h4⟩))
    · exact .inr (.inr (.inr ⟨_, _, xs, zs, rfl, rfl, h1, h2, h3, h4, h5, h6⟩))
  · exact q.elim
theorem op_uSub : OpR X (binaryOp .Sub) uSub := OpR.of op_sub fun x y H Q q => by
  unfold uSub at q
  split at q
  · exact ⟨_, _, rfl, rfl, q⟩
  · exact q.elim
theorem op_uMod : OpR X (binaryOp .Mod) uMod := OpR.of op_mod fun x y H Q q => by
  unfold uMod at q
  split at q
  · exact ⟨_, _, rfl, rfl, q.1, q.2⟩
  · exact q.elim
theorem op_uFdiv : OpR X (binaryOp .FloorDiv) uFdiv := OpR.of op_fdiv fun x y H Q q => by
  unfold uFdiv at q
  split at q
  · exact ⟨_, _, rfl, rfl, q.1, q.2⟩
  · exact q.elim
theorem op_mulS : OpR X (binaryOp .Mult) (fun x y H Q => ∃ z n, x = .str z ∧ y = .int n ∧ 0 ≤ n ∧ n ≤ 1000000 ∧ z.length ≤ 15 ∧ Q (.str (repS z n)) H) := by
  intro pins s σ H x y v u Q I rx ry h
  obtain ⟨z, n, rfl, rfl, h0, h1, hz, q⟩ := h
  obtain ⟨t, rfl⟩ := rx
  obtain ⟨t2, rfl⟩ := ry
  by_cases hn : n < 1
  · have n0 : n = 0 := by omega
    subst n0
    refine PySem.P.mul_str_none (by decide) (by decide) ⟨.str (repS z 0), H, I.tok _, ?_, q⟩
    exact ⟨_, rfl⟩
  · have hsz : (z.length : Int) ≤ 15 := by omega
    have hb : ¬ ((z.length : Int) > (2 ^ 63 - 1) / n) := by
      have h2 : (15 : Int) ≤ (2 ^ 63 - 1) / n := by
        rw [Int.le_ediv_iff_mul_le (by omega)]
        omega
      omega
    have hl : z.length * n.toNat ≤ 15 * 1000000 := Nat.mul_le_mul hz (by omega)
    refine PySem.P.mul_str ?_ (fun _ _ => hb) (fun _ _ => ?_) ?_
    · rw [decide_eq_false (by omega), decide_eq_false (by omega)]
      rfl
    · unfold Builtin.Str.tooLong
      apply decide_eq_false
      rw [sizeLine_eq]
      omega
    · rw [if_neg hn]
      split
      · rename_i hh
        rw [Bool.or_eq_true] at hh
        have e : repS z n = z := by
          unfold repS
          rcases hh with hh | hh
          · have : n = 1 := by simpa using hh
            subst this
            simp
          · have hz0 : z.cps.toList = [] := by
              have : z.length = 0 := by simpa using hh
              exact List.eq_nil_of_length_eq_zero (by simpa [Str.length] using this)
            rw [hz0]
            have : ((List.replicate n.toNat ([] : List Nat)).flatten.toArray) = z.cps := by
              apply Array.toList_inj.mp
              simp [hz0]
            rw [this]
        rw [e] at q
        exact ⟨.str z, H, I, ⟨_, rfl⟩, q⟩
      · have e : (⟨(List.replicate n.toNat z.cps).foldl (· ++ ·) #[]⟩ : Str) = repS z n := by
          unfold repS
          rw [foldl_arrs]
          simp
        rw [e]
        refine ⟨?_, .str (repS z n), H, I.tok _, ⟨_, rfl⟩, q⟩
        show (repS z n).cps.size ≤ sizeLine
        unfold repS
        rw [List.size_toArray, len_rep, sizeLine_eq, Nat.mul_comm]
        have : z.cps.toList.length = z.length := by simp [Str.length]
        rw [this]
        omega
theorem op_uMul : OpR X (binaryOp .Mult) uMul := by
  refine OpR.of (OpR.or op_mul (OpR.or op_mulS op_rep)) fun x y H Q q => ?_
  unfold uMul at q
  split at q
  · exact .inl ⟨_, _, rfl, rfl, q.1, q.2⟩
  · exact .inr (.inl ⟨_, _, rfl, rfl, q⟩)
  · obtain ⟨xs, h1, h2, h3, h4, h5⟩ := q
    exact .inr (.inr ⟨_, _, xs, rfl, rfl, h1, by omega, by omega, h4, h5⟩)
  · exact q.elim
end

def uCmp (p : Int → Int → Bool) : R2 := fun x y H Q => match x, y with
  | .int i, .int j => Q (.bl (p i j)) H
  | _, _ => False
abbrev uLt : R2 := uCmp fun i j => decide (i < j)
abbrev uLe : R2 := uCmp fun i j => decide (i ≤ j)
abbrev uGt : R2 := uCmp fun i j => decide (j < i)
abbrev uGe : R2 := uCmp fun i j => decide (j ≤ i)
/-- equal data of any depth (the lesser depth at most 200) -/
def rEqG (K : PySem.W.Frag) (neg : Bool) : R2 := fun x y H Q => ∃ d e, Dp K H x d ∧ Dp K H y e ∧ d.canLay0 = true ∧ e.canLay0 = true ∧ min d.depth e.depth ≤ 200 ∧ Q (.bl (if neg then !PyData.eqv d e else PyData.eqv d e)) H
def uEq (K : PySem.W.Frag) : R2 := fun x y H Q => match x, y with
  | .int i, .int j => Q (.bl (decide (i = j))) H
  | .str a, .str b => Q (.bl (decide (a = b))) H
  | .bl a, .bl b => Q (.bl (decide (a = b))) H
  | x, y => rEqG K false x y H Q
def uNe (K : PySem.W.Frag) : R2 := fun x y H Q => match x, y with
  | .int i, .int j => Q (.bl (!decide (i = j))) H
  | .str a, .str b => Q (.bl (!decide (a = b))) H
  | .bl a, .bl b => Q (.bl (!decide (a = b))) H
  | x, y => rEqG K true x y H Q
/-- x in a list or tuple of data -/
def rInG (K : PySem.W.Frag) (neg : Bool) : R2 := fun x y H Q => ∃ d ds, Dp K H x d ∧ Dp K H y (.list ds) ∧ d.canLay0 = true ∧ PyData.canLayAll0 ds = true ∧ min (PyData.depthAll ds) d.depth ≤ 200 ∧
  Q (.bl (if neg then !ds.any fun z => PyData.eqv z d else ds.any fun z => PyData.eqv z d)) H
/-- a text in a text (one sign: is it there) -/
def subS (i j : Str) : Bool := !(Builtin.Str.occurrences j i 0 j.length 1).isEmpty
def uIn (K : PySem.W.Frag) (neg : Bool) : R2 := fun x y H Q => match y with
  | .str j => (match x with
    | .str i => Q (.bl (if neg then !subS i j else subS i j)) H
    | _ => False)
  | .ref p => (∃ xs, (SqL K H p xs ∨ SqT K H p xs) ∧ flatV x = true ∧ xs.all flatV = true ∧ Q (.bl (if neg then !inV x xs else inV x xs)) H) ∨ rInG K neg x y H Q
  | _ => False

section
variable {X : Cx}
theorem op_uLt : OpR X (compareOp .Lt) uLt := OpR.of op_lt fun x y H Q q => by
  unfold uLt uCmp at q
  split at q
  · exact ⟨_, _, rfl, rfl, q⟩
  · exact q.elim
theorem op_uLe : OpR X (compareOp .LtE) uLe := OpR.of op_le fun x y H Q q => by
  unfold uLe uCmp at q
  split at q
  · exact ⟨_, _, rfl, rfl, q⟩
  · exact q.elim
theorem op_uGt : OpR X (compareOp .Gt) uGt := OpR.of op_gt fun x y H Q q => by
  unfold uGt uCmp at q
  split at q
  · exact ⟨_, _, rfl, rfl, q⟩
  · exact q.elim
theorem op_uGe : OpR X (compareOp .GtE) uGe := OpR.of op_ge fun x y H Q q => by
  unfold uGe uCmp at q
  split at q
  · exact ⟨_, _, rfl, rfl, q⟩
  · exact q.elim
theorem op_eqG (hu : X.A.units + 201 < cLine) : OpR X (compareOp .Eq) (rEqG X.K false) := by
  intro pins s σ H x y v u Q I rx ry h
  obtain ⟨d, e, hd, he, sd, se, hz, q⟩ := h
  obtain ⟨as, r1⟩ := Dp.reads I d x v hd rx
  obtain ⟨bs, r2⟩ := Dp.reads I e y u he ry
  exact SeqAt.compareEq_reads r1 r2 sd se (by omega) ⟨.bl _, H, I, rfl, q⟩
theorem op_neG (hu : X.A.units + 201 < cLine) : OpR X (compareOp .NotEq) (rEqG X.K true) := by
  intro pins s σ H x y v u Q I rx ry h
  obtain ⟨d, e, hd, he, sd, se, hz, q⟩ := h
  obtain ⟨as, r1⟩ := Dp.reads I d x v hd rx
  obtain ⟨bs, r2⟩ := Dp.reads I e y u he ry
  exact SeqAt.compareNe_reads r1 r2 sd se (by omega) ⟨.bl _, H, I, rfl, q⟩
theorem op_inG (hu : X.A.units + 202 < cLine) : OpR X (compareOp .In) (rInG X.K false) := by
  intro pins s σ H x y v u Q I rx ry h
  obtain ⟨d, ds, hd, he, sd, se, hz, q⟩ := h
  obtain ⟨as, r1⟩ := Dp.reads I d x v hd rx
  obtain ⟨bs, r2⟩ := Dp.reads I (.list ds) y u he ry
  exact SeqAt.in_list_reads r2 r1 se sd (by omega) ⟨.bl _, H, I, rfl, q⟩
theorem op_notInG (hu : X.A.units + 202 < cLine) : OpR X (compareOp .NotIn) (rInG X.K true) := by
  intro pins s σ H x y v u Q I rx ry h
  obtain ⟨d, ds, hd, he, sd, se, hz, q⟩ := h
  obtain ⟨as, r1⟩ := Dp.reads I d x v hd rx
  obtain ⟨bs, r2⟩ := Dp.reads I (.list ds) y u he ry
  exact SeqAt.notIn_list_reads r2 r1 se sd (by omega) ⟨.bl _, H, I, rfl, q⟩
theorem op_uEq (hu : X.A.units + 201 < cLine) : OpR X (compareOp .Eq) (uEq X.K) := by
  refine OpR.of (OpR.or op_eq (op_eqG hu)) fun x y H Q q => ?_
  unfold uEq at q
  split at q
  · refine .inl ⟨rfl, ?_⟩
    rename_i i j
    have e : decide (V.int i = V.int j) = decide (i = j) := by simp
    rw [e]; exact q
  · refine .inl ⟨rfl, ?_⟩
    rename_i i j
    have e : decide (V.str i = V.str j) = decide (i = j) := by simp
    rw [e]; exact q
  · refine .inl ⟨rfl, ?_⟩
    rename_i i j
    have e : decide (V.bl i = V.bl j) = decide (i = j) := by simp
    rw [e]; exact q
  · exact .inr q
theorem op_uNe (hu : X.A.units + 201 < cLine) : OpR X (compareOp .NotEq) (uNe X.K) := by
  refine OpR.of (OpR.or op_ne (op_neG hu)) fun x y H Q q => ?_
  unfold uNe at q
  split at q
  · refine .inl ⟨rfl, ?_⟩
    rename_i i j
    have e : decide (V.int i = V.int j) = decide (i = j) := by simp
    rw [e]; exact q
  · refine .inl ⟨rfl, ?_⟩
    rename_i i j
    have e : decide (V.str i = V.str j) = decide (i = j) := by simp
    rw [e]; exact q
  · refine .inl ⟨rfl, ?_⟩
    rename_i i j
    have e : decide (V.bl i = V.bl j) = decide (i = j) := by simp
    rw [e]; exact q
  · exact .inr q
theorem op_uIn (hu : X.A.units + 202 < cLine) : OpR X (compareOp .In) (uIn X.K false) := by
  refine OpR.of (OpR.or op_in_str (OpR.or op_in_seq (op_inG hu))) fun x y H Q q => ?_
  unfold uIn at q
  split at q
  · split at q
    · exact .inl ⟨_, _, rfl, rfl, q⟩
    · exact q.elim
  · rcases q with ⟨xs, h1, h2, h3, h4⟩ | q
    · exact .inr (.inl ⟨_, xs, rfl, h1, h2, h3, h4⟩)
    · exact .inr (.inr q)
  · exact q.elim
theorem op_uNotIn (hu : X.A.units + 202 < cLine) : OpR X (compareOp .NotIn) (uIn X.K true) := by
  refine OpR.of (OpR.or op_notin_str (OpR.or op_notIn_seq (op_notInG hu))) fun x y H Q q => ?_
  unfold uIn at q
  split at q
  · split at q
    · exact .inl ⟨_, _, rfl, rfl, q⟩
    · exact q.elim
  · rcases q with ⟨xs, h1, h2, h3, h4⟩ | q
    · exact .inr (.inl ⟨_, xs, rfl, h1, h2, h3, h4⟩)
    · exact .inr (.inr q)
  · exact q.elim
end

def uIx (K : PySem.W.Frag) : R2 := fun x y H Q => match x, y with
  | .str z, .int i => z.length ≤ sizeLine ∧ ∃ c, atI z.cps.toList i = some c ∧ Q (.str ⟨#[c]⟩) H
  | .ref p, .int i => ∃ xs v, (SqL K H p xs ∨ SqT K H p xs) ∧ atI xs i = some v ∧ Q v H
  | _, _ => False
def uSl (K : PySem.W.Frag) : V → Option Int → Option Int → Hp → VK → Prop := fun x lo hi H Q => match x with
  | .str z => z.length ≤ sizeLine ∧ Q (.str (cutS z lo hi)) H
  | .ref a => ∃ xs, SqL K H a xs ∧ ∀ p, H p = none → Q (.ref p) (upd H p (.lst (cutV xs lo hi)))
  | _ => False
section
variable {X : Cx}
theorem ix_u : IxR X (uIx X.K) := IxR.of ix_seq fun x y H Q q => by
  unfold uIx at q
  split at q
  · obtain ⟨h1, c, h2, h3⟩ := q
    exact .inr (.inr ⟨_, _, c, rfl, rfl, h1, h2, h3⟩)
  · obtain ⟨xs, v, h1 | h1, h2, h3⟩ := q
    · exact .inl ⟨_, xs, _, v, rfl, rfl, h1, h2, h3⟩
    · exact .inr (.inl ⟨_, xs, _, v, rfl, rfl, h1, h2, h3⟩)
  · exact q.elim
theorem sl_u : SlR X (uSl X.K) := SlR.of (SlR.or sl_str sl_list) fun x lo hi H Q q => by
  unfold uSl at q
  split at q
  · exact .inl ⟨_, rfl, q.1, q.2⟩
  · obtain ⟨xs, h1, h2⟩ := q
    exact .inr ⟨_, xs, rfl, h1, h2⟩
  · exact q.elim
end

def uLen (K : PySem.W.Frag) : List V → Hp → VK → Prop := fun vs H Q => match vs with
  | [.str z] => z.length ≤ sizeLine ∧ Q (.int (z.length : Int)) H
  | [.ref p] => ∃ xs, (SqL K H p xs ∨ SqT K H p xs) ∧ Q (.int (xs.length : Int)) H
  | _ => False
def uAbs : List V → Hp → VK → Prop := fun vs H Q => match vs with
  | [.int i] => Q (.int (if i < 0 then -i else i)) H
  | _ => False
def uInt : List V → Hp → VK → Prop := fun vs H Q => match vs with
  | [.int i] => Q (.int i) H
  | _ => False
def uList (K : PySem.W.Frag) : List V → Hp → VK → Prop := fun vs H Q => match vs with
  | [.ref p] => ∃ xs, (SqL K H p xs ∨ SqT K H p xs) ∧ ∀ l, H l = none → Q (.ref l) (upd H l (.lst xs))
  | _ => False
/-- tuple(a list) -/
def uTup (K : PySem.W.Frag) : List V → Hp → VK → Prop := fun vs H Q => match vs with
  | [.ref p] => ∃ xs, SqL K H p xs ∧ ∀ l, H l = none → Q (.ref l) (upd H l (.tup xs))
  | _ => False
def uIsi (K : PySem.W.Frag) : List V → Hp → VK → Prop := fun vs H Q => match vs with
  | [x, c] => (∃ (t u : Value) (b : Bool), ClsV c u ∧ TyX K H x t ∧ PySem.W.kitOne K t u = some b ∧ Q (.bl b) H) ∨
      ∃ (tp : Addr) (cs : List V) (t : Value) (us : List Value) (b : Bool), c = .ref tp ∧ H tp = some (.tup cs) ∧ Paired ClsV cs us ∧ TyX K H x t ∧ PySem.W.kitAny K t us = some b ∧ Q (.bl b) H
  | _ => False
section
variable {X : Cx}
theorem cr_uLen : CallR X (.builtin "len") (uLen X.K) := CallR.of call_len fun vs H Q q => by
  unfold uLen at q
  split at q
  · exact ⟨_, _, rfl, ⟨q.1, rfl⟩, q.2⟩
  · obtain ⟨xs, h1 | h1, h2⟩ := q
    · exact ⟨_, _, rfl, .inl ⟨xs, h1, rfl⟩, h2⟩
    · exact ⟨_, _, rfl, .inr ⟨xs, h1, rfl⟩, h2⟩
  · exact q.elim
theorem cr_uAbs : CallR X (.builtin "abs") uAbs := CallR.of call_abs fun vs H Q q => by
  unfold uAbs at q
  split at q
  · exact ⟨_, rfl, q⟩
  · exact q.elim
theorem cr_uInt : CallR X (.type "int") uInt := CallR.of call_int1 fun vs H Q q => by
  unfold uInt at q
  split at q
  · exact .inl ⟨_, rfl, q⟩
  · exact q.elim
theorem cr_uList : CallR X (.type "list") (uList X.K) := CallR.of call_list_of fun vs H Q q => by
  unfold uList at q
  split at q
  · obtain ⟨xs, h1, h2⟩ := q
    exact ⟨_, xs, rfl, h1, h2⟩
  · exact q.elim
theorem cr_uTup : CallR X (.type "tuple") (uTup X.K) := CallR.of call_tuple_of fun vs H Q q => by
  unfold uTup at q
  split at q
  · obtain ⟨xs, h1, h2⟩ := q
    exact ⟨_, xs, rfl, .inl ⟨h1, h2⟩⟩
  · exact q.elim
theorem cr_uIsi : CallR X (.builtin "isinstance") (uIsi X.K) := CallR.of (CallR.or call_isi call_isiT) fun vs H Q q => by
  unfold uIsi at q
  split at q
  · rcases q with ⟨t, u, b, h1, h2, h3, h4⟩ | ⟨tp, cs, t, us, b, h0, h1, h2, h3, h4, h5⟩
    · exact .inl ⟨_, _, t, u, b, rfl, h1, h2, h3, h4⟩
    · subst h0
      exact .inr ⟨_, tp, cs, t, us, b, rfl, h1, h2, h3, h4, h5⟩
  · exact q.elim

end
theorem meets_extendT (l : Addr) (items : Array Value) (n : Nat) (b : Addr) (ob : Obj) (items2 : Array Value) (n2 : Nat) (hs0 : ¬(!items.isEmpty && Builtin.List.listTooLong (items.size + items2.size)) = true) (hs1 : items.size ≤ sizeLine) (hs2 : items.size + items2.size ≤ sizeLine + 1) :
    Meets (Builtin.«list.extend» ⟨[.ref l, .ref b], []⟩) (fun _ R s => s.heap.get? l = some { cls := .type "list", dict := none, data := .seq items n, slots := #[] } ∧ s.heap.get? b = some ob ∧ ob.cls = .type "tuple" ∧ ob.data = .seq items2 n2 ∧
      R (.ok (.ret Value.none)) { s with heap := s.heap.update l (Obj.mapSeq fun x => x ++ items2), toks := s.toks }) :=
  .of_wp fun prog w A R s h => by
    obtain ⟨hl, hb, hc, hd, h⟩ := h
    have hz2 : (items ++ items2).size ≤ sizeLine + 1 := by rw [Array.size_append]; exact hs2
    refine wpAny_bind (wpAny_of_eq (a := (.ref l, .ref b)) (by first | rfl | kernel_rfl) ?_)
    show wpAny _ A.in1 (Builtin.List.listExtendWith (.ref l) (.ref b) .none) _ _ s
    unfold Builtin.List.listExtendWith
    refine wpAny_bind (wpAny_typeOf ⟨ob, hb, hc⟩ ?_)
    have h1 : (Builtin.List.listSameRef (.ref l) (.ref b) || Value.type "tuple" == Value.type "list" || Value.type "tuple" == Value.type "tuple") = true := by simp
    simp only [h1, if_true]
    refine wpAny_bind ?_
    unfold Builtin.List.listItems
    refine wpAny_bind (wpAny_seqItems hb hd (wpAny_pure ?_))
    refine wpAny_bind ?_
    refine wpAny_bind (wpAny_seqItems hl rfl (wpAny_pure ?_))
    simp only [hs0, if_false]
    show wpAny _ A.in1 (updateSeq l (· ++ items2) >>= fun _ => ret Value.none) _ _ s
    refine wpAny_bind (wpAny_updateSeq hl rfl ?_ hs1 hz2)
    exact wpAny_pure ⟨_, rfl, h⟩
section
variable {X : Cx}
/-- xs.extend(t), t a tuple -/
theorem mt_extendT : MtR X "list.extend" (fun x vs H Q => ∃ l b xs zs, x = .ref l ∧ vs = [.ref b] ∧ H l = some (.lst xs) ∧ SqT X.K H b zs ∧ xs.length + zs.length ≤ sizeLine ∧ Q .non (upd H l (.lst (xs ++ zs)))) := by
  intro pins s σ H x vs v us Q I rx rv h
  obtain ⟨l, b, xs, zs, rfl, rfl, hH, hB, hz, q⟩ := h
  cases rx
  obtain ⟨u, rfl, ru⟩ := rv.one
  cases ru
  obtain ⟨z, its, n, r, hl, e⟩ := I.lstM hH
  obtain ⟨its2, r2, tup2, hz2⟩ := I.tuple hB
  have hl2 := r2.length
  obtain ⟨ob, ho, hc, n2, hd⟩ := tup2
  have hsz : its.toArray.size + its2.toArray.size ≤ sizeLine := by rw [List.size_toArray, List.size_toArray]; omega
  have hlong : ¬ (!its.toArray.isEmpty && Builtin.List.listTooLong (its.toArray.size + its2.toArray.size)) = true := by
    rw [notLongL hsz, Bool.and_false]
    exact Bool.false_ne_true
  refine call_meets F.slot_list_extend ⟨_, e, rfl⟩ F.entry_list_extend (F.args_list_extend_2 _ _)
    (meets_extendT l its.toArray n b ob its2.toArray n2 hlong (by rw [List.size_toArray]; omega) (by omega)) ⟨e, ho, hc, hd, ?_⟩
  refine ⟨.non, _, I.lset (its' := its ++ its2) hH e (by simp) (r.append r2) ?_, rfl, q⟩
  rw [List.length_append]
  omega
def uApp : V → List V → Hp → VK → Prop := fun x vs H Q => match x, vs with
  | .ref l, [y] => ∃ xs, H l = some (.lst xs) ∧ xs.length < sizeLine ∧ Q .non (upd H l (.lst (xs ++ [y])))
  | _, _ => False
def uExt (K : PySem.W.Frag) : V → List V → Hp → VK → Prop := fun x vs H Q => match x, vs with
  | .ref l, [.ref b] => ∃ xs zs, H l = some (.lst xs) ∧ (H b = some (.lst zs) ∨ SqT K H b zs) ∧ xs.length + zs.length ≤ sizeLine ∧ Q .non (upd H l (.lst (xs ++ zs)))
  | _, _ => False
def uPop : V → List V → Hp → VK → Prop := fun x vs H Q => match x, vs with
  | .ref l, [] => ∃ xs y, H l = some (.lst (xs ++ [y])) ∧ Q y (upd H l (.lst xs))
  | _, _ => False
theorem mt_uApp : MtR X "list.append" uApp := MtR.of mt_append fun x vs H Q q => by
  unfold uApp at q
  split at q
  · obtain ⟨xs, h1, h2, h3⟩ := q
    exact ⟨_, xs, _, rfl, rfl, h1, h2, h3⟩
  · exact q.elim
theorem mt_uExt : MtR X "list.extend" (uExt X.K) := MtR.of (MtR.or mt_extend mt_extendT) fun x vs H Q q => by
  unfold uExt at q
  split at q
  · obtain ⟨xs, zs, h1, h2 | h2, h3, h4⟩ := q
    · exact .inl ⟨_, _, xs, zs, rfl, rfl, h1, h2, h3, h4⟩
    · exact .inr ⟨_, _, xs, zs, rfl, rfl, h1, h2, h3, h4⟩
  · exact q.elim
theorem mt_uPop : MtR X "list.pop" uPop := MtR.of mt_pop fun x vs H Q q => by
  unfold uPop at q
  split at q
  · obtain ⟨xs, y, h1, h2⟩ := q
    refine ⟨_, _, y, rfl, rfl, h1, by simp, ?_⟩
    rw [List.dropLast_concat]
    exact h2
  · exact q.elim
theorem tyl {K : PySem.W.Frag} {l : Addr} {xs : List V} {H : Hp} (h : H l = some (.lst xs)) : tyV K "list" (.ref l) H := .inl ⟨rfl, xs, .inl (.inl h)⟩
section
variable {o e : Expr} {es : List Expr} {to te : TE} {t : TA} {apos cpos : Pos}
theorem pe_app (ho : PE X o to) (ha : PA X (e :: es) t) (hbase : attributeBase o "append" X.env (eval o X.env) = eval o X.env := by rfl)
    (hfew : ((backTo cpos (starEach (e :: es) X.env)).all (fun x => !x.1) && (backToKw cpos (keywordEach [] X.env)).all (fun x => x.1.isSome)
      && decide ((e :: es).length + ([] : List Keyword).length + (if ([] : List Keyword).isEmpty then 0 else 1) < 30)) = true := by rfl)
    (hline : (apos.endLine == cpos.line) = true := by rfl) (hs : starEach (e :: es) X.env = (false, eval e X.env) :: starEach es X.env := by rfl) (hplain : (backTo cpos (starEach es X.env)).any (·.1) = false := by rfl) :
    PE X (.Call (.Attribute o "append" apos) (e :: es) [] cpos) (tBM X.K "list" uApp to t) := pe_bm F.plainAttrs_list F.slot_list_append F.type_list_append mt_uApp ho ha hbase hfew hline hs hplain
theorem pe_ext (ho : PE X o to) (ha : PA X (e :: es) t) (hbase : attributeBase o "extend" X.env (eval o X.env) = eval o X.env := by rfl)
    (hfew : ((backTo cpos (starEach (e :: es) X.env)).all (fun x => !x.1) && (backToKw cpos (keywordEach [] X.env)).all (fun x => x.1.isSome)
      && decide ((e :: es).length + ([] : List Keyword).length + (if ([] : List Keyword).isEmpty then 0 else 1) < 30)) = true := by rfl)
    (hline : (apos.endLine == cpos.line) = true := by rfl) (hs : starEach (e :: es) X.env = (false, eval e X.env) :: starEach es X.env := by rfl) (hplain : (backTo cpos (starEach es X.env)).any (·.1) = false := by rfl) :
    PE X (.Call (.Attribute o "extend" apos) (e :: es) [] cpos) (tBM X.K "list" (uExt X.K) to t) := pe_bm F.plainAttrs_list F.slot_list_extend F.type_list_extend mt_uExt ho ha hbase hfew hline hs hplain
theorem pe_pop (ho : PE X o to) (hbase : attributeBase o "pop" X.env (eval o X.env) = eval o X.env := by rfl) (hline : (apos.endLine == cpos.line) = true := by rfl) :
    PE X (.Call (.Attribute o "pop" apos) [] [] cpos) (tBM0 X.K "list" uPop to) := pe_bm0 F.plainAttrs_list F.slot_list_pop F.type_list_pop mt_uPop ho hbase hline
end
end

/-- in X the global x is a def that keeps sp (positional values); E: what is wished of its exceptions -/
def Can (X : Cx) (x : Str) (sp : Sp) (E : XK) : Prop := ∃ (CX : CXT) (k : Nat) (f : Addr), X.mg x = some (.ref f) ∧ PySem.W.keepIn X.K (.ref f) = true ∧ FnR X.prog X.w X.K X.mg X.base CX k f sp ∧ Room k X.A ∧ Passes CX X E
/-- .. is a class at C whose __init__ keeps sp -/
def CanMk (X : Cx) (x : Str) (C : Addr) (sp : Sp) (E : XK) : Prop := ∃ (CX : CXT) (k : Nat) (f : Addr), X.mg x = some (.ref C) ∧ Mk X.K C f ∧ FnR X.prog X.w X.K X.mg X.base CX k f sp ∧ Room (k + 1) X.A ∧ Passes CX X E
def tCan (sp : Sp) (E : XK) (t : TA) : TE := fun σ H Q => t σ H fun vs H1 => sp vs H1 Q E
section
variable {X : Cx} {x m : Str} {C : Addr} {sp : Sp} {E : XK} {p pos apos : Pos} {e o : Expr} {es : List Expr} {t : TA} {ta te : TE}
theorem pe_can (c : Can X x sp E) (ha : PA X (e :: es) t) (hg : Gl X x := by rfl) (hd : (x == ("__debug__" : Str)) = false := by decide) (he : starEach (e :: es) X.env = (false, eval e X.env) :: starEach es X.env := by rfl) (hpl : (backTo pos (starEach es X.env)).any (·.1) = false := by rfl) :
    PE X (.Call (.Name x p) (e :: es) [] pos) (tCan sp E t) := by
  obtain ⟨CX, k, f, hm, hk, F, hr, hx⟩ := c
  refine ⟨fun pins s σ H Q I h => ?_⟩
  refine wpAny_Call_Name_kw (ld_glob I hg hm ?_ hd)
  refine PySem.W.callWith_K (h₀ := X.base) I.ok.mod.kin hk (thn (ha.run pos pins s σ H _ I h) fun us s1 z => ?_) he hpl
  obtain ⟨vs, H1, I1, r, q⟩ := z
  exact ⟨I1.kIn, wpAny_call (run_fnR F hr hx I1 r q)⟩
theorem pe_can0 (c : Can X x sp E) (hg : Gl X x := by rfl) (hd : (x == ("__debug__" : Str)) = false := by decide) : PE X (.Call (.Name x p) [] [] pos) (tCan sp E tNil) := by
  obtain ⟨CX, k, f, hm, hk, F, hr, hx⟩ := c
  refine ⟨fun pins s σ H Q I h => ?_⟩
  refine wpAny_Call_Name_kw (ld_glob I hg hm ?_ hd)
  exact PySem.W.callWith_K0 I.kIn hk (wpAny_call (run_fnR (us := []) F hr hx I .nil h))
/-- f( *e) -/
def tCanS (K : PySem.W.Frag) (sp : Sp) (E : XK) (te : TE) : TE := fun σ H Q => te σ H fun y H1 => match y with
  | .ref a => ∃ xs, (SqT K H1 a xs ∨ SqL K H1 a xs) ∧ sp xs H1 Q E
  | _ => False
theorem pe_canS {q : Pos} (c : Can X x sp E) (he : PE X e te) (hg : Gl X x := by rfl) (hd : (x == ("__debug__" : Str)) = false := by decide) : PE X (.Call (.Name x p) [.Starred e q] [] pos) (tCanS X.K sp E te) := by
  obtain ⟨CX, k, f, hm, hk, F, hr, hx⟩ := c
  refine ⟨fun pins s σ H Q I h => ?_⟩
  refine wpAny_Call_Name_kw (ld_glob I hg hm ?_ hd)
  refine PySem.W.ks_call (P := X.K.In) rfl (PySem.W.keeps_K hk) (PySem.W.ks_lone ?_)
  refine thn (he.run pins s σ H _ I h) fun v s1 z => ?_
  obtain ⟨y, H1, I1, r1, q⟩ := z
  cases y with
  | ref a =>
    obtain ⟨xs, hs, q⟩ := q
    obtain rfl : v = Value.ref a := r1
    exact StX.star_any I1 hs fun us s2 I2 r2 => ⟨I2.kIn, wpAny_call (run_fnR (us := us) F hr hx I2 r2 q)⟩
  | _ => exact q.elim
/-- C(e, ..) -/
theorem pe_mk (c : CanMk X x C sp E) (ha : PA X (e :: es) t) (hg : Gl X x := by rfl) (hd : (x == ("__debug__" : Str)) = false := by decide) (he : starEach (e :: es) X.env = (false, eval e X.env) :: starEach es X.env := by rfl) (hpl : (backTo pos (starEach es X.env)).any (·.1) = false := by rfl) :
    PE X (.Call (.Name x p) (e :: es) [] pos) (StX.tMakeR C sp E t) := by
  obtain ⟨CX, k, f, hm, M, F, hr, hx⟩ := c
  exact StX.pe_makeR M F hr hg hm hx ha hd he hpl
theorem pe_mk0 (c : CanMk X x C sp E) (hg : Gl X x := by rfl) (hd : (x == ("__debug__" : Str)) = false := by decide) : PE X (.Call (.Name x p) [] [] pos) (StX.tMakeR C sp E tNil) := by
  obtain ⟨CX, k, f, hm, M, F, hr, hx⟩ := c
  refine ⟨fun pins s σ H Q I h => ?_⟩
  refine wpAny_Call_Name_kw (ld_glob I hg hm ?_ hd)
  exact PySem.W.callWith_K0 I.kIn M.kp (StX.run_makeR M F hr hx I .nil h)
/-- o.m() where the class of o is told by the heap -/
def CanMt (X : Cx) (m : Str) (f : Addr) (sp : Sp) (E : XK) : Prop := ∃ (CX : CXT) (k : Nat), PySem.W.keepIn X.K (.ref f) = true ∧ FnR X.prog X.w X.K X.mg X.base CX k f sp ∧ Room k X.A ∧ Passes CX X E
def tMt (K : PySem.W.Frag) (m : Str) (f : Addr) (sp : Sp) (E : XK) (ta : TE) (t : TA) : TE := fun σ H Q => ta σ H fun x H1 => match x with
  | .ref a => ∃ C dx fs, H1 a = some (.ins C dx fs) ∧ Cls K C ∧ Meth K C m f ∧ fs.lookup m = none ∧ t σ H1 fun vs H2 => sp (.ref a :: vs) H2 Q E
  | _ => False
theorem pe_mt0 {f : Addr} {pl : Sem Bool} (c : CanMt X m f sp E) (ho : PE X o ta)
    (ht : eval (.Call (.Attribute o m apos) [] [] pos) X.env = (do
      let ov ← eval o X.env
      standAt apos.atName
      let (g, first) ← holding [ov] (getMethod ov m pl)
      callWith pos g first (backTo pos (starEach [] X.env)) (backToKw pos (keywordEach [] X.env))) := by rfl) : PE X (.Call (.Attribute o m apos) [] [] pos) (tMt X.K m f sp E ta tNil) := by
  obtain ⟨CX, k, hk, F, hr, hx⟩ := c
  refine ⟨fun pins s σ H Q I h => ?_⟩
  refine PySem.W.methodCall_KW (pl := pl) (thn (ho.run pins s σ H _ I h) fun u s1 z => ?_) ht
  obtain ⟨x, H1, I1, rx, q⟩ := z
  cases x with
  | ref a =>
    obtain ⟨C, dx, fs, ea, cl, hm, l, q⟩ := q
    obtain rfl : u = Value.ref a := rx
    refine getmeth_ok I1 ea cl hm l ?_
    exact PySem.W.callWith_K0 (first := [.ref a]) I1.kIn hm.kp (wpAny_call (run_fnR (us := [.ref a]) (vs := [.ref a]) F hr hx I1 (.cons rfl .nil) q))
  | _ => exact q.elim
end
end L2.WB
namespace L2.WB
open PySem PySem.Spec PyProof.Rows

def uB (t : TE) : TT := fun σ H Q => t σ H fun x H1 => match x with
  | .bl c => Q c H1
  | _ => False
def uAndV (ta tb : TE) : TE := fun σ H Q => ta σ H fun x H1 => match x with
  | .bl c => if c = true then tb σ H1 Q else Q (.bl false) H1
  | _ => False
def uOrV (ta tb : TE) : TE := fun σ H Q => ta σ H fun x H1 => match x with
  | .bl c => if c = true then Q (.bl true) H1 else tb σ H1 Q
  | _ => False
def uNotV (ta : TE) : TE := fun σ H Q => ta σ H fun x H1 => match x with
  | .bl c => Q (.bl (!c)) H1
  | _ => False
def uNeg : V → Hp → VK → Prop := fun x H Q => match x with
  | .int i => Q (.int (-i)) H
  | _ => False
section
variable {X : Cx} {a b : Expr} {rest : List Expr} {ta tb : TE} {pos : Pos}
theorem pt_u {e : Expr} {t : TE} (h : PE X e t) (he : ∀ whole, isTrue e X.env whole = (do let v ← whole; standAt e.pos; holding [v] (truthy v)) := by intro _; rfl) : PT X e (uB t) := by
  refine ⟨fun pins s σ H Q I hw => ?_⟩
  refine isTrue_plain (thn (h.run pins s σ H _ I hw) fun v s1 ⟨x, H1, I1, r1, q1⟩ => ?_) (he _)
  cases x with
  | bl d =>
    cases r1
    exact wpAny_truthy_bool ⟨H1, I1, q1⟩
  | _ => exact q1.elim
theorem pt_uc {op : CmpOp} {r : R2} (ho : OpR X (compareOp op) r) (ha : PE X a ta) (hb : PE X b tb) (hm : behindInMarks op b = false) : PT X (.Compare a [op] [b] pos) (uB (tOp r ta tb)) := by
  refine ⟨fun pins s σ H Q I h => ?_⟩
  refine wpAny_isTrue_Compare1 (thn (ha.run pins s σ H _ I h) fun v s1 ⟨x, H1, I1, r1, q1⟩ => thn (hb.run pins s1 σ H1 _ I1 q1) fun u s2 ⟨y, H2, I2, r2, q2⟩ =>
    thn (ho pins s2 σ H2 x y v u _ I2 r1 r2 q2) fun c s3 ⟨z, H3, I3, r3, q3⟩ => ?_) hm
  cases z with
  | bl k =>
    cases r3
    exact wpAny_truthy_bool ⟨H3, I3, q3⟩
  | _ => exact q3.elim
theorem pe_andU (ha : PE X a ta) (hb : PE X (.BoolOp .And (b :: rest) pos) tb) : PE X (.BoolOp .And (a :: b :: rest) pos) (uAndV ta tb) := by
  refine ⟨fun pins s σ H Q I h => ?_⟩
  refine BoolOp_and (thn (ha.run pins s σ H _ I h) fun v s1 ⟨x, H1, I1, r1, q1⟩ => ?_)
  cases x with
  | bl c =>
    cases r1
    refine wpAny_truthy_bool ?_
    cases c with
    | true => exact hb.run pins s1 σ H1 Q I1 q1
    | false => exact ⟨.bl false, H1, I1, rfl, q1⟩
  | _ => exact q1.elim
theorem pe_orU (ha : PE X a ta) (hb : PE X (.BoolOp .Or (b :: rest) pos) tb) : PE X (.BoolOp .Or (a :: b :: rest) pos) (uOrV ta tb) := by
  refine ⟨fun pins s σ H Q I h => ?_⟩
  refine BoolOp_or (thn (ha.run pins s σ H _ I h) fun v s1 ⟨x, H1, I1, r1, q1⟩ => ?_)
  cases x with
  | bl c =>
    cases r1
    refine wpAny_truthy_bool ?_
    cases c with
    | false => exact hb.run pins s1 σ H1 Q I1 q1
    | true => exact ⟨.bl true, H1, I1, rfl, q1⟩
  | _ => exact q1.elim
theorem pe_notU (ha : PE X a ta) : PE X (.UnaryOp .Not a pos) (uNotV ta) := by
  refine ⟨fun pins s σ H Q I h => ?_⟩
  refine UnaryOp_ (thn (ha.run pins s σ H _ I h) fun v s1 ⟨x, H1, I1, r1, q1⟩ => ?_)
  cases x with
  | bl c =>
    cases r1
    exact not_of (wpAny_truthy_bool ⟨.bl (!c), H1, I1, rfl, q1⟩)
  | _ => exact q1.elim
theorem un_uNeg : UnR X (unaryOp .USub) uNeg := by
  intro pins s σ H x v Q I rx h
  cases x with
  | int i => exact un_neg pins s σ H (.int i) v Q I rx ⟨i, rfl, h⟩
  | _ => exact h.elim
/-- a global of the module, by its value -/
def GlV (mg : Str → Option Value) (x : Str) (v : V) : Prop := ∃ u, mg x = some u ∧ RelV v u
theorem pe_gs {x : Str} {v : V} (h : GlV X.mg x v) (hg : Gl X x := by rfl) (hd : (x == ("__debug__" : Str)) = false := by decide) : PE X (.Name x pos) (tC v) := by
  obtain ⟨u, hm, r⟩ := h
  exact pe_glob hg hm r hd
end

/-- what follows may be weakened -/
def upA (t : TA) : TA := fun σ H Q => ∃ P : List V → Hp → Prop, t σ H P ∧ ∀ vs H1, P vs H1 → Q vs H1
theorem PA.up {X : Cx} {es : List Expr} {t : TA} (h : PA X es t) : PA X es (upA t) := ⟨fun pos pins s σ H Q I ⟨P, q, k⟩ => thn (h.run pos pins s σ H P I q) fun us s1 ⟨vs, H1, I1, r, z⟩ => ⟨vs, H1, I1, r, k vs H1 z⟩⟩

/-- x is the own exception class at C, whose __init__ keeps its argument in the field fld -/
structure ExK (P : Program) (w : World) (K : PySem.W.Frag) (mg : Str → Option Value) (base : Heap) (k : Nat) (x : Str) (C : Addr) (fld : Str) : Prop where
  at_ : mg x = some (.ref C)
  oex : OexC K C
  nof : PySem.W.findIn K (.ref C) fld = some none
  init : ∃ (fI : Addr) (fd : FuncData) (ps : List Str), PySem.W.findIn K (.ref C) "__init__" = some (some (.ref fI)) ∧ PySem.W.typeIn K (.ref fI) = some (.type "function") ∧ Binds K fd ps [] ∧ FnOk P w K mg base CX0 k fI fd ps (spEx K C fld)
def CanEx (X : Cx) (x : Str) (C : Addr) (fld : Str) : Prop := ∃ k, ExK X.prog X.w X.K X.mg X.base k x C fld ∧ Room (k + 1) X.A
/-- E: what is wished of the exception -/
def tRz (C : Addr) (fld : Str) (E : XK) (ta : TA) : TS := fun _ σ H => ta σ H fun vs H1 => match vs with
  | [v] => ∀ (d : Addr) (H2 : Hp), H1 d = none → Same H1 H2 → H2 d = some (.xd [(fld, v)]) → E (.ref C) (some d) H2
  | _ => False
theorem ps_rz {X : Cx} {x : Str} {C : Addr} {fld : Str} {E : XK} {e : Expr} {ta : TA} {p pos pos2 : Pos} (c : CanEx X x C fld) (hc : X.calm = true) (tk : Takes X (fun cls d _ H => E cls d H)) (ha : PA X [e] ta) (hg : Gl X x := by rfl)
    (hdb : (x == ("__debug__" : Str)) = false := by decide) (he : starEach [e] X.env = (false, eval e X.env) :: starEach [] X.env := by rfl) (hpl : (backTo pos (starEach [] X.env)).any (·.1) = false := by rfl) :
    PS X (.Raise (some (.Call (.Name x p) [e] [] pos)) none pos2) (tRz C fld E ta) := by
  obtain ⟨k, ⟨hm, ox, nof, fI, fd, ps, iC, tI, hb, F⟩, hr⟩ := c
  refine PS.of (ps_raise hc tk (pmk_oex ox iC tI F hr hb .nil pass0 hg hm (PA.up ha) hdb he hpl)) fun D σ H h => ?_
  refine ⟨_, h, fun vs H1 q => ?_⟩
  match vs, q with
  | [v], q =>
    refine ⟨(by decide : 1 ≤ 1000), fun a na => ?_⟩
    refine ⟨a, v, rfl, upd_same, ox, nof, fun dx H3 sm nd ne ea ed fr => ⟨rfl, dx, [(fld, v)], ea, ed, ?_, q dx _ ?_ (fun b o hb => ?_) upd_same⟩⟩
    · rw [upd_ne ne] at nd
      exact nd
    · rw [upd_ne ne] at nd
      exact nd
    · have hba : b ≠ a := ne_of_none hb na
      rw [upd_ne ne] at nd
      rw [upd_ne (ne_of_none hb nd), del_ne hba]
      refine fr b o hba ?_
      rw [upd_ne hba]
      exact hb
end L2.WB
namespace L2.XS
open PySem PySem.Spec PyProof.Rows L2

def gs : Nat → Nat
  | 0 => 0
  | b + 1 => gs b * 5 + 1
theorem lcg_gs (m : Nat) : ∀ b, lcgN m b = gs b % (m + 1)
  | 0 => by show 0 = 0 % (m + 1); rw [Nat.zero_mod]
  | b + 1 => by
    show (lcgN m b * 5 + 1) % (m + 1) = (gs b * 5 + 1) % (m + 1)
    rw [lcg_gs m b, Nat.add_mod, Nat.mul_mod, Nat.mod_mod, ← Nat.mul_mod, ← Nat.add_mod]
theorem gs_add (a : Nat) : ∀ b, gs (a + b) = 5 ^ b * gs a + gs b
  | 0 => by simp [gs]
  | b + 1 => by
    show gs (a + b) * 5 + 1 = 5 ^ (b + 1) * gs a + (gs b * 5 + 1)
    rw [gs_add a b, Nat.pow_succ, Nat.add_mul, Nat.mul_right_comm]
    omega
theorem five4 : ∀ c, 5 ^ c % 4 = 1
  | 0 => rfl
  | c + 1 => by rw [Nat.pow_succ, Nat.mul_mod, five4 c]
theorem gs_par : ∀ b, gs b % 2 = b % 2
  | 0 => rfl
  | b + 1 => by
    have := gs_par b
    show (gs b * 5 + 1) % 2 = _
    omega
theorem odd_cop {q k : Nat} : Nat.Coprime (2 ^ k) (2 * q + 1) := by
  refine Nat.Coprime.pow_left k ?_
  show Nat.gcd 2 (2 * q + 1) = 1
  rw [Nat.gcd_rec]
  have : (2 * q + 1) % 2 = 1 := by omega
  rw [this]
  rfl
theorem gs_dvd : ∀ k b, 2 ^ k ∣ gs b → 2 ^ k ∣ b
  | 0, b, _ => by rw [Nat.pow_zero]; exact Nat.one_dvd b
  | k + 1, b, h => by
    have h2 : 2 ∣ gs b := Nat.dvd_trans ⟨2 ^ k, by rw [Nat.pow_succ, Nat.mul_comm]⟩ h
    have hp := gs_par b
    obtain ⟨c, rfl⟩ : ∃ c, b = c + c := ⟨b / 2, by omega⟩
    have e : gs (c + c) = gs c * (5 ^ c + 1) := by rw [gs_add, Nat.mul_add, Nat.mul_comm]; omega
    have h4 := five4 c
    obtain ⟨q, hq⟩ : ∃ q, 5 ^ c + 1 = 2 * (2 * q + 1) := ⟨5 ^ c / 4, by omega⟩
    rw [e, hq, Nat.pow_succ] at h
    have h3 : 2 ^ k ∣ gs c * (2 * q + 1) := by
      obtain ⟨z, hz⟩ := h
      refine ⟨z, ?_⟩
      have e1 : gs c * (2 * (2 * q + 1)) = 2 * (gs c * (2 * q + 1)) := by rw [Nat.mul_left_comm]
      have e2 : 2 ^ k * 2 * z = 2 * (2 ^ k * z) := by rw [Nat.mul_comm (2 ^ k) 2, Nat.mul_assoc]
      rw [e1, e2] at hz
      omega
    obtain ⟨z, hz⟩ := gs_dvd k c (odd_cop.dvd_of_dvd_mul_right h3)
    exact ⟨z, by rw [Nat.pow_succ, Nat.mul_comm (2 ^ k) 2, Nat.mul_assoc, ← hz]; omega⟩
theorem gs_inj {k a d : Nat} (h : gs (a + d) % 2 ^ k = gs a % 2 ^ k) (hd : d < 2 ^ k) : d = 0 := by
  have e : gs (a + d) = 5 ^ a * gs d + gs a := by rw [Nat.add_comm, gs_add]
  have h1 : 2 ^ k ∣ gs d * 5 ^ a := by
    have h2 := Nat.dvd_of_mod_eq_zero (Nat.sub_mod_eq_zero_of_mod_eq h)
    rw [e, Nat.add_sub_cancel, Nat.mul_comm] at h2
    exact h2
  have h5 : Nat.Coprime (2 ^ k) (5 ^ a) := by
    have h4 := five4 a
    obtain ⟨q, hq⟩ : ∃ q, 5 ^ a = 2 * q + 1 := ⟨5 ^ a / 2, by omega⟩
    rw [hq]
    exact odd_cop
  have h3 := gs_dvd k d (h5.dvd_of_dvd_mul_right h1)
  cases d with
  | zero => rfl
  | succ d => exact absurd (Nat.le_of_dvd (Nat.succ_pos d) h3) (by omega)
/-- masks -/
def Msk (m : Nat) : Prop := ∃ k, 3 ≤ k ∧ m + 1 = 2 ^ k
theorem Msk.odd {m : Nat} (h : Msk m) : m % 2 = 1 := by
  obtain ⟨k, hk, e⟩ := h
  obtain ⟨j, rfl⟩ : ∃ j, k = j + 1 := ⟨k - 1, by omega⟩
  rw [Nat.pow_succ] at e
  omega
/-- from anywhere every slot is met within a round -/
theorem lcg_meets {m : Nat} (hm : Msk m) {i j : Nat} (hi : i ≤ m) (hj : j ≤ m) : ∃ k, k ≤ m ∧ lcgI m i k = j := by
  obtain ⟨p, _, e⟩ := hm
  have hit : ∀ a j, j ≤ m → ∃ k, k ≤ m ∧ lcgN m (a + k) = j := fun a j hj => by
    refine Classical.byContradiction fun no => ?_
    have h := nat_nodup_len ((List.range (m + 1)).map fun k => lcgN m (a + k)) ((List.range (m + 1)).erase j) ?_ fun x hx => ?_
    · rw [List.length_map, List.length_range, List.length_erase_of_mem (List.mem_range.mpr (by omega)), List.length_range] at h
      omega
    · refine List.pairwise_map.mpr (List.Pairwise.imp_of_mem (fun {x y} hx hy hxy he => ?_) (List.pairwise_lt_range (n := m + 1)))
      rw [lcg_gs, lcg_gs, e] at he
      have hx := List.mem_range.mp hx
      have hy := List.mem_range.mp hy
      have e2 : a + y = a + x + (y - x) := by omega
      rw [e2] at he
      have := gs_inj he.symm (by omega)
      omega
    · obtain ⟨k, hk, rfl⟩ := List.mem_map.mp hx
      have hk := List.mem_range.mp hk
      refine (List.mem_erase_of_ne fun z => no ⟨k, by omega, z⟩).mpr (List.mem_range.mpr ?_)
      rw [lcg_gs]
      exact Nat.mod_lt _ (Nat.succ_pos m)
  obtain ⟨a, _, ea⟩ := hit 0 i hi
  rw [Nat.zero_add] at ea
  obtain ⟨k, hk, ek⟩ := hit a j hj
  exact ⟨k, hk, by rw [← ea, lcgN_add]; exact ek⟩
theorem starts_meet {m : Nat} (hm : Msk m) (h : Int) {j : Nat} (hj : j ≤ m) : ∃ n, n ≤ m + 12 ∧ runI m (SetTable.bits h) n = j := by
  obtain ⟨k, hk, e⟩ := lcg_meets hm (runI_le m (SetTable.bits h) 12) hj
  refine ⟨12 + k, by omega, ?_⟩
  rw [runI_tail (bits_lt h) k, e]
theorem way_meets {m : Nat} (hm : Msk m) (h : Int) {j : Nat} (hj : j ≤ m) : ∃ k, k < 10 * SetTable.turns m ∧ way m h k = j := by
  obtain ⟨n, hn, e⟩ := starts_meet hm h hj
  obtain ⟨k, hk, e2⟩ := run_nth m (SetTable.bits h) n
  have ht : SetTable.turns m = m + 13 ∨ m + 12 < SetTable.turns m := by unfold SetTable.turns; omega
  refine ⟨k, by omega, ?_⟩
  show (nth m (runAt m (SetTable.bits h % (m + 1)) (SetTable.bits h)) k).j = j
  rw [e2, e]
  rfl
theorem way_top {m : Nat} (h : Int) (k : Nat) : way m h k ≤ m := by
  have hi : SetTable.bits h % (m + 1) ≤ m := Nat.le_of_lt_succ (Nat.mod_lt _ (Nat.succ_pos m))
  have r := runEnd_bd hi
  have q := nth_in (m := m) k (runAt m (SetTable.bits h % (m + 1)) (SetTable.bits h)) (by show SetTable.bits h % (m + 1) + (SetTable.runEnd m (SetTable.bits h % (m + 1)) - SetTable.bits h % (m + 1)) ≤ m; omega)
  exact Nat.le_trans (Nat.le_add_right _ _) q
structure Tab (t : SetTable) (hs : List Int) : Prop where
  ris : Ris t.place.toList
  none : t.dummies = #[]
  size : t.place.size = hs.length
  mask : Msk t.mask
  top : ∀ x ∈ t.place.toList, x ≤ t.mask
  way : ∀ (i : Nat) (h : Int) (j : Nat), hs[i]? = some h → t.place.toList[i]? = some j → ∃ k, L2.way t.mask h k = j ∧ ∀ k', k' < k → L2.way t.mask h k' ∈ t.place.toList
theorem Tab.free {t : SetTable} {hs : List Int} (T : Tab t hs) (hl : hs.length ≤ t.mask) (h : Int) : ∃ K, K < 10 * SetTable.turns t.mask ∧ L2.way t.mask h K ∉ t.place.toList ∧ ∀ k, k < K → L2.way t.mask h k ∈ t.place.toList := by
  obtain ⟨j, hj, hn⟩ := st_missing t.place.toList (t.mask + 1) (by rw [Array.length_toList, T.size]; omega)
  obtain ⟨k, hk, rfl⟩ := way_meets T.mask h (Nat.le_of_lt_succ hj)
  obtain ⟨K, h1, h2, h3⟩ := st_least (p := fun k => L2.way t.mask h k ∉ t.place.toList) k hn
  exact ⟨K, Nat.lt_of_le_of_lt h1 hk, h2, fun c hc => Classical.byContradiction fun z => h3 c hc z⟩
theorem Tab.ahead {t : SetTable} {hs : List Int} (T : Tab t hs) {h : Int} {K i j : Nat} (hK : L2.way t.mask h K ∉ t.place.toList) (hi : hs[i]? = some h) (hj : t.place.toList[i]? = some j) : ∃ k, k < K ∧ L2.way t.mask h k = j := by
  obtain ⟨k, rfl, hb⟩ := T.way i h j hi hj
  refine ⟨k, Classical.byContradiction fun z => ?_, rfl⟩
  rcases Nat.lt_or_ge K k with c | c
  · exact hK (hb K c)
  · have : k = K := by omega
    subst this
    exact hK (List.mem_of_getElem? hj)
theorem Tab.add {t : SetTable} {hs : List Int} (T : Tab t hs) {h : Int} {K : Nat} (hK : L2.way t.mask h K ∉ t.place.toList) (hb : ∀ k, k < K → L2.way t.mask h k ∈ t.place.toList) :
    ∃ p, (t.put (L2.way t.mask h K)).2 = p ∧ p ≤ hs.length ∧ Tab (t.put (L2.way t.mask h K)).1 (hs.take p ++ h :: hs.drop p) ∧ (t.put (L2.way t.mask h K)).1.mask = t.mask ∧ (t.put (L2.way t.mask h K)).1.led = t.led ∧ (t.put (L2.way t.mask h K)).1.fill = hs.length + 1 := by
  have top : L2.way t.mask h K ≤ t.mask := way_top h K
  generalize hj : L2.way t.mask h K = j at *
  obtain ⟨c1, _, _⟩ := below_cut T.ris j
  have lp : t.place.toList.length = hs.length := by rw [Array.length_toList, T.size]
  have pl : SetTable.below t.place j ≤ hs.length := by rw [← T.size]; exact c1
  have pl2 : SetTable.below t.place j ≤ t.place.toList.length := by omega
  have out : t.place[SetTable.below t.place j]? ≠ some j := fun e => hK (List.mem_of_getElem? (by rw [Array.getElem?_toList]; exact e))
  have pp := put_place t j
  have sz : (t.put j).1.place.size = hs.length + 1 := by rw [← Array.length_toList, pp, len_ins _ pl2, lp]
  have up : ∀ {x : Nat}, x ∈ t.place.toList → x ∈ (t.put j).1.place.toList := fun hx => by rw [pp]; exact mem_ins.2 (.inr hx)
  refine ⟨SetTable.below t.place j, rfl, pl, ⟨ris_insert T.ris out, put_dm T.none j, by rw [len_ins _ pl]; exact sz, T.mask, fun x hx => ?_, fun i h' j' e1 e2 => ?_⟩, rfl, rfl, ?_⟩
  · rw [pp] at hx
    rcases mem_ins.1 hx with rfl | z
    · exact top
    · exact T.top x z
  · show ∃ k, L2.way t.mask h' k = j' ∧ ∀ k', k' < k → L2.way t.mask h' k' ∈ (t.put j).1.place.toList
    rw [tins_get hs pl] at e1
    rw [pp, tins_get _ pl2] at e2
    split at e1
    · rename_i c
      rw [if_pos c] at e2
      obtain ⟨k, e, z⟩ := T.way i h' j' e1 e2
      exact ⟨k, e, fun q hq => up (z q hq)⟩
    · rename_i c
      rw [if_neg c] at e2
      split at e1
      · rename_i d
        rw [if_pos d] at e2
        cases e1
        cases e2
        exact ⟨K, hj, fun q hq => up (hb q hq)⟩
      · rename_i d
        rw [if_neg d] at e2
        obtain ⟨k, e, z⟩ := T.way (i - 1) h' j' e1 e2
        exact ⟨k, e, fun q hq => up (z q hq)⟩
  · show (t.put j).1.place.size + (t.put j).1.dummies.size = _
    rw [sz, put_dm T.none j]
    rfl
theorem free_slot {m : Nat} (hm : Msk m) (owner : Array (Option Nat)) (h : Int) {j : Nat} (hj : j ≤ m) (hf : oAt owner j = none) :
    ∃ K, SetTable.layClean.free m owner (SetTable.turns m) (SetTable.bits h % (m + 1)) (SetTable.bits h) = some (way m h K) ∧ oAt owner (way m h K) = none ∧ ∀ k, k < K → oAt owner (way m h k) ≠ none := by
  obtain ⟨n, hn, e⟩ := starts_meet hm h hj
  have hw : way m h (off m (SetTable.bits h % (m + 1)) (SetTable.bits h) n) = j := by
    show (nth m (runAt m _ _) (off m _ _ n)).j = j
    rw [nth_off, itL_run, ← e]
    rfl
  obtain ⟨K, k1, k2, k3⟩ := st_least (p := fun k => oAt owner (way m h k) = none) _ (show oAt owner (way m h _) = none by rw [hw]; exact hf)
  refine ⟨K, free_spec m owner _ n _ _ K (by unfold SetTable.turns; omega) k1 (fun k hk => ?_) ?_, k2, k3⟩
  · have q := k3 k hk
    show (oAt owner (way m h k)).isNone = false
    cases z : oAt owner (way m h k) with
    | none => exact absurd z q
    | some _ => rfl
  · show (oAt owner (way m h K)).isNone = true
    rw [k2]
    rfl
theorem own_step {m : Nat} (hm : Msk m) {done : List Int} {owner : Array (Option Nat)} (W : Own m done owner) (hl : done.length ≤ m) (h : Int) :
    ∃ j, SetTable.layClean.free m owner (SetTable.turns m) (SetTable.bits h % (m + 1)) (SetTable.bits h) = some j ∧ Own m (done ++ [h]) (owner.setIfInBounds j (some done.length)) := by
  obtain ⟨ps, hps, hin⟩ := W.ps
  obtain ⟨j0, h0, hn0⟩ := st_missing ps (m + 1) (by omega)
  have hj0 : oAt owner j0 = none := Classical.byContradiction fun z => hn0 (hin j0 (by omega) z)
  obtain ⟨K, e1, e2, e3⟩ := free_slot hm owner h (by omega) hj0
  have le : way m h K < owner.size := by have := way_top (m := m) h K; rw [W.sz]; omega
  refine ⟨_, e1, ?_⟩
  have self := oAt_set_self (some done.length) le
  have mono : ∀ {i : Nat}, oAt owner i ≠ none → oAt (owner.setIfInBounds (way m h K) (some done.length)) i ≠ none := fun {i} hi => by
    by_cases c : i = way m h K
    · rw [c, self]; exact fun e => nomatch e
    · rwa [oAt_set_ne _ c]
  refine ⟨by rw [Array.size_setIfInBounds]; exact W.sz, fun j k hj e => ?_, fun k hk => ?_, way m h K :: ps, by simp [hps], fun j hj e => ?_⟩
  · by_cases c : j = way m h K
    · rw [c, self] at e
      cases e
      exact ⟨h, K, by simp, c.symm, fun q hq => mono (e3 q hq)⟩
    · rw [oAt_set_ne _ c] at e
      obtain ⟨h', K', a1, a2, a3⟩ := W.at_ j k hj e
      exact ⟨h', K', by rw [List.getElem?_append_left (List.getElem?_eq_some_iff.mp a1).1]; exact a1, a2, fun q hq => mono (a3 q hq)⟩
  · by_cases c : k < done.length
    · obtain ⟨j, hj, e⟩ := W.all k c
      exact ⟨j, hj, by rw [oAt_set_ne _ fun z => by rw [z, e2] at e; cases e]; exact e⟩
    · have ek : k = done.length := by rw [List.length_append] at hk; simp at hk; omega
      rw [ek]
      exact ⟨_, way_top h K, self⟩
  · by_cases c : j = way m h K
    · rw [c]; exact List.mem_cons_self
    · rw [oAt_set_ne _ c] at e
      exact List.mem_cons_of_mem _ (hin j hj e)
theorem lay_all {m : Nat} (hm : Msk m) : ∀ (rest done : List Int) (owner : Array (Option Nat)), Own m done owner → done.length + rest.length ≤ m →
    ∃ owner', rest.foldl (stepF m) (some (owner, done.length)) = some (owner', (done ++ rest).length) ∧ Own m (done ++ rest) owner'
  | [], done, owner, W, _ => ⟨owner, by simp, by simpa using W⟩
  | h :: rest, done, owner, W, hl => by
    rw [List.length_cons] at hl
    obtain ⟨j, e, W1⟩ := own_step hm W (by omega) h
    obtain ⟨o2, f, W2⟩ := lay_all hm rest (done ++ [h]) _ W1 (by simp; omega)
    rw [List.append_assoc] at f W2
    refine ⟨o2, ?_, W2⟩
    rw [List.foldl_cons, stepF_some e]
    have el : (done ++ [h]).length = done.length + 1 := by simp
    rw [el] at f
    exact f
theorem lay_ok {m : Nat} (hm : Msk m) {hs : Array Int} (hn : hs.size ≤ m) : ∃ owner, SetTable.layClean m hs = some owner ∧ Own m hs.toList owner := by
  obtain ⟨owner, f, W⟩ := lay_all hm hs.toList [] _ (Own.init m) (by rw [Array.length_toList]; show 0 + hs.size ≤ m; omega)
  refine ⟨owner, ?_, W⟩
  rw [layClean_eq]
  have f2 : hs.toList.foldl (stepF m) (some (Array.replicate (m + 1) none, 0)) = _ := f
  rw [f2]
  rfl
theorem relay_ok (t : SetTable) {hs : Array Int} {wanted M : Nat} (hw : SetTable.sizeAbove wanted - 1 = M) (hM : Msk M) (hn : hs.size ≤ M) :
    ∃ t' order, t.relaid hs wanted = some (t', order) ∧ order.toList.Perm (List.range hs.size) ∧ Tab t' (order.toList.map fun i => hs.getD i 0) ∧ t'.mask = M ∧ t'.led = t.led := by
  obtain ⟨owner, e, W⟩ := lay_ok hM hn
  have hr : t.relaid hs wanted = some (tabOf t M owner, ((liveOf M owner).map (·.2)).toArray) := by
    rw [relaid_eq, hw, e]
    rfl
  obtain ⟨r1, r2⟩ := ris_live (fun j => owner.getD j none) (List.range (M + 1)) (by unfold Ris; first | exact List.pairwise_lt_range | exact List.pairwise_lt_range _)
  have r1 : Ris ((liveOf M owner).map (·.1)) := r1
  have r2 : ∀ x ∈ (liveOf M owner).map (·.1), x ∈ List.range (M + 1) := r2
  have hlen : (liveOf M owner).length = hs.size := by
    obtain ⟨ps, p1, p2⟩ := W.ps
    have nd : ((liveOf M owner).map (·.1)).Nodup := List.Pairwise.imp (fun h => Nat.ne_of_lt h) r1
    have a := nat_nodup_len _ ps nd fun x hx => by
      obtain ⟨⟨y, k⟩, hq, rfl⟩ := List.mem_map.mp hx
      obtain ⟨b1, b2⟩ := (mem_live W.sz).1 hq
      exact p2 y b1 (by rw [b2]; exact fun z => nomatch z)
    have b := nat_nodup_len (List.range hs.size) ((liveOf M owner).map (·.2)) List.nodup_range fun k hk => by
      obtain ⟨j, b1, b2⟩ := W.all k (by rw [Array.length_toList]; exact List.mem_range.mp hk)
      exact List.mem_map.mpr ⟨_, (mem_live W.sz).2 ⟨b1, b2⟩, rfl⟩
    have hz : hs.toList.length = hs.size := rfl
    rw [List.length_map, p1] at a
    rw [List.length_map, List.length_range] at b
    omega
  refine ⟨_, _, hr, perm_range _ _ (by show ((liveOf M owner).map (·.2)).length = _; rw [List.length_map, hlen]) fun k hk => ?_, ⟨r1, rfl, by show ((liveOf M owner).map (·.1)).toArray.size = _; simp, hM, fun x hx => Nat.le_of_lt_succ (List.mem_range.mp (r2 x hx)), fun i h j e1 e2 => ?_⟩, rfl, rfl⟩
  · obtain ⟨j, b1, b2⟩ := W.all k (by rw [Array.length_toList]; exact hk)
    exact List.mem_map.mpr ⟨_, (mem_live W.sz).2 ⟨b1, b2⟩, rfl⟩
  · have e1 : (((liveOf M owner).map (·.2)).map fun i => hs.getD i 0)[i]? = some h := e1
    have e2 : ((liveOf M owner).map (·.1))[i]? = some j := e2
    simp only [List.getElem?_map] at e1 e2
    cases hq : (liveOf M owner)[i]? with
    | none => rw [hq] at e2; cases e2
    | some q =>
      obtain ⟨y, k⟩ := q
      rw [hq] at e1 e2
      cases e2
      obtain ⟨b1, b2⟩ := (mem_live W.sz).1 (List.mem_of_getElem? hq)
      obtain ⟨h0, K, a1, a2, a3⟩ := W.at_ _ k b1 b2
      have eh : h0 = h := by
        have := Option.some.inj e1
        rw [← this]
        show h0 = hs.getD k 0
        rw [Array.getD_eq_getD_getElem?, ← Array.getElem?_toList, a1]
        rfl
      subst eh
      refine ⟨K, a2, fun q hq => ?_⟩
      show way M h0 q ∈ (liveOf M owner).map (·.1)
      cases z : oAt owner (way M h0 q) with
      | none => exact absurd z (a3 q hq)
      | some k2 => exact List.mem_map.mpr ⟨(way M h0 q, k2), (mem_live W.sz).2 ⟨way_top h0 q, z⟩, rfl⟩
end L2.XS
namespace L2.XS
open PySem PySem.Spec PyProof.Rows L2 SrtO

structure Lin {α : Type} (lt : α → α → Bool) : Prop where
  irr : ∀ x, lt x x = false
  tr : ∀ x y z, lt x y = true → lt y z = true → lt x z = true
  tri : ∀ x y, lt x y = true ∨ x = y ∨ lt y x = true
section
variable {α : Type} {lt : α → α → Bool}
theorem Lin.asym (L : Lin lt) {x y : α} (h : lt x y = true) : lt y x = false := by
  cases e : lt y x with
  | false => rfl
  | true =>
    have := L.tr x y x h e
    rw [L.irr x] at this
    cases this
theorem Lin.le_tr (L : Lin lt) {x y z : α} (h1 : lt y x = false) (h2 : lt z y = false) : lt z x = false := by
  rcases L.tri x y with a | a | a
  · rcases L.tri y z with b | b | b
    · exact L.asym (L.tr x y z a b)
    · rw [← b]; exact L.asym a
    · rw [h2] at b; cases b
  · rw [a]; exact h2
  · rw [h1] at a; cases a
theorem Lin.swo (L : Lin lt) : Swo lt := ⟨fun x y h => L.asym h, fun x y z h1 h2 => L.le_tr h1 h2⟩
theorem Lin.comap {β : Type} (L : Lin lt) (f : β → α) : Swo fun x y => lt (f x) (f y) := ⟨fun x y h => L.asym h, fun x y z h1 h2 => L.le_tr h1 h2⟩
/-- lists, one item behind the other -/
def lex [DecidableEq α] (lt : α → α → Bool) : List α → List α → Bool
  | _, [] => false
  | [], _ :: _ => true
  | a :: x, b :: y => if a = b then lex lt x y else lt a b
theorem Lin.lex [DecidableEq α] (L : Lin lt) : Lin (lex lt) := by
  refine ⟨?_, ?_, ?_⟩
  · intro x
    induction x with
    | nil => rfl
    | cons a x ih => show (if a = a then _ else _) = false; rw [if_pos rfl]; exact ih
  · intro x
    induction x with
    | nil =>
      intro y z h1 h2
      cases z with
      | nil => cases y <;> cases h2
      | cons c z => rfl
    | cons a x ih =>
      intro y z h1 h2
      cases y with
      | nil => cases h1
      | cons b y =>
        cases z with
        | nil => cases h2
        | cons c z =>
          have h1 : (if a = b then XS.lex lt x y else lt a b) = true := h1
          have h2 : (if b = c then XS.lex lt y z else lt b c) = true := h2
          show (if a = c then XS.lex lt x z else lt a c) = true
          by_cases e1 : a = b
          · subst e1
            rw [if_pos rfl] at h1
            by_cases e2 : a = c
            · rw [if_pos e2] at h2 ⊢; exact ih y z h1 h2
            · rw [if_neg e2] at h2 ⊢; exact h2
          · rw [if_neg e1] at h1
            by_cases e2 : b = c
            · subst e2; rw [if_neg e1]; exact h1
            · rw [if_neg e2] at h2
              have h3 := L.tr a b c h1 h2
              rw [if_neg (fun e => by rw [e, L.irr] at h3; cases h3)]
              exact h3
  · intro x
    induction x with
    | nil =>
      intro y
      cases y with
      | nil => exact .inr (.inl rfl)
      | cons b y => exact .inl rfl
    | cons a x ih =>
      intro y
      cases y with
      | nil => exact .inr (.inr rfl)
      | cons b y =>
        show (if a = b then XS.lex lt x y else lt a b) = true ∨ a :: x = b :: y ∨ (if b = a then XS.lex lt y x else lt b a) = true
        by_cases e : a = b
        · subst e
          rw [if_pos rfl, if_pos rfl]
          rcases ih y with h | h | h
          · exact .inl h
          · exact .inr (.inl (by rw [h]))
          · exact .inr (.inr h)
        · rw [if_neg e, if_neg (Ne.symm e)]
          rcases L.tri a b with h | h | h
          · exact .inl h
          · exact absurd h e
          · exact .inr (.inr h)
/-- in order without equals: one list for one set -/
theorem sorted_uniq (L : Lin lt) : ∀ {l m : List α}, l.Pairwise (fun x y => lt x y = true) → m.Pairwise (fun x y => lt x y = true) → (∀ x, x ∈ l ↔ x ∈ m) → l = m
  | [], [], _, _, _ => rfl
  | [], b :: m, _, _, h => absurd ((h b).mpr List.mem_cons_self) (by simp)
  | a :: l, [], _, _, h => absurd ((h a).mp List.mem_cons_self) (by simp)
  | a :: l, b :: m, h1, h2, h => by
    obtain ⟨p1, q1⟩ := List.pairwise_cons.mp h1
    obtain ⟨p2, q2⟩ := List.pairwise_cons.mp h2
    have e : a = b := by
      rcases List.mem_cons.mp ((h a).mp List.mem_cons_self) with e | e
      · exact e
      · rcases List.mem_cons.mp ((h b).mpr List.mem_cons_self) with e2 | e2
        · exact e2.symm
        · have := L.asym (p1 b e2)
          rw [p2 a e] at this
          cases this
    subst e
    have na : ∀ {z : List α}, (∀ y ∈ z, lt a y = true) → a ∉ z := fun hz ha => by have := hz a ha; rw [L.irr] at this; cases this
    rw [sorted_uniq L q1 q2 fun x => ⟨fun hx => ?_, fun hx => ?_⟩]
    · rcases List.mem_cons.mp ((h x).mp (List.mem_cons_of_mem _ hx)) with e | e
      · subst e; exact absurd hx (na p1)
      · exact e
    · rcases List.mem_cons.mp ((h x).mpr (List.mem_cons_of_mem _ hx)) with e | e
      · subst e; exact absurd hx (na p2)
      · exact e
/-- sorted, and no two the same -/
theorem strict_of (L : Lin lt) {l : List α} (h : Srtd lt l) (nd : l.Nodup) : l.Pairwise fun x y => lt x y = true := by
  refine List.Pairwise.imp (fun {x y} z => ?_) (List.Pairwise.and h nd)
  rcases L.tri x y with a | a | a
  · exact a
  · exact absurd a z.2
  · rw [z.1] at a; cases a
end
def nlt (a b : Nat) : Bool := decide (a < b)
theorem lin_nat : Lin nlt := ⟨fun x => decide_eq_false (Nat.lt_irrefl x), fun x y z h1 h2 => decide_eq_true (Nat.lt_trans (of_decide_eq_true h1) (of_decide_eq_true h2)), fun x y => by
  rcases Nat.lt_trichotomy x y with h | h | h
  · exact .inl (decide_eq_true h)
  · exact .inr (.inl h)
  · exact .inr (.inr (decide_eq_true h))⟩
theorem lex_nat : ∀ x y : List Nat, decide (x < y) = lex nlt x y
  | [], [] => by simp [lex]
  | [], b :: y => by simp [lex]
  | a :: x, [] => by simp [lex]
  | a :: x, b :: y => by
    show _ = if a = b then lex nlt x y else nlt a b
    by_cases e : a = b
    · subst e
      rw [if_pos rfl, ← lex_nat x y, Bool.eq_iff_iff, decide_eq_true_eq, decide_eq_true_eq, List.cons_lt_cons_iff]
      simp
    · rw [if_neg e, Bool.eq_iff_iff, decide_eq_true_eq, List.cons_lt_cons_iff]
      unfold nlt
      simp [e]
/-- one item before another: ints before texts -/
def klt : Key → Key → Bool
  | .inl i, .inl j => decide (i < j)
  | .inl _, .inr _ => true
  | .inr _, .inl _ => false
  | .inr x, .inr y => lex nlt x.cps.toList y.cps.toList
theorem cps_inj {x y : Str} (h : x.cps.toList = y.cps.toList) : x = y := by
  obtain ⟨a⟩ := x
  obtain ⟨b⟩ := y
  exact congrArg _ (Array.toList_inj.mp h)
theorem lin_key : Lin klt := by
  have L := lin_nat.lex
  refine ⟨fun x => ?_, fun x y z h1 h2 => ?_, fun x y => ?_⟩
  · cases x with
    | inl i => exact decide_eq_false (Int.lt_irrefl i)
    | inr x => exact L.irr _
  · cases x <;> cases y <;> cases z <;> first | rfl | (cases h1; done) | (cases h2; done) | skip
    · exact decide_eq_true (Int.lt_trans (of_decide_eq_true h1) (of_decide_eq_true h2))
    · exact L.tr _ _ _ h1 h2
  · cases x with
    | inl i =>
      cases y with
      | inl j =>
        rcases Int.lt_trichotomy i j with h | h | h
        · exact .inl (decide_eq_true h)
        · exact .inr (.inl (by rw [h]))
        · exact .inr (.inr (decide_eq_true h))
      | inr y => exact .inl rfl
    | inr x =>
      cases y with
      | inl j => exact .inr (.inr rfl)
      | inr y =>
        rcases L.tri x.cps.toList y.cps.toList with h | h | h
        · exact .inl h
        · exact .inr (.inl (by rw [cps_inj h]))
        · exact .inr (.inr h)
/-- tuples -/
abbrev tlt : List Key → List Key → Bool := lex klt
theorem lin_tup : Lin tlt := lin_key.lex
abbrev IsM (P : Program) (w : World) (h : Heap) (k : List Key) (a : Addr) : Prop := IsTupleKey (mixKind P w) h k a
def kKind : Key → Bool
  | .inl _ => true
  | .inr _ => false
abbrev shp (k : List Key) : List Bool := k.map kKind
theorem items_val {P : Program} {w : World} {k : Key} {v : Value} (h : (mixKind P w).is k v = true) : (∃ i t, k = .inl i ∧ v = .int i t) ∨ ∃ x t, k = .inr x ∧ v = .str x t := by
  rcases keyIs_shape h with ⟨i, t, e1, e2⟩ | ⟨x, t, e1, e2⟩
  · first | exact .inl ⟨i, t, e2, e1⟩ | exact .inl ⟨i, t, e1, e2⟩
  · first | exact .inr ⟨x, t, e2, e1⟩ | exact .inr ⟨x, t, e1, e2⟩
section
variable {P : Program} {w : World} {A : Around} {E : Value → Shared → Prop} {s : Shared}
theorem key_eqAt {k k' : Key} {v v' : Value} (h : (mixKind P w).is k v = true) (h' : (mixKind P w).is k' v' = true) (hs : kKind k = kKind k') : SeqAt.EqAt A s v v' (decide (k = k')) := by
  rcases items_val h with ⟨i, t, rfl, rfl⟩ | ⟨x, t, rfl, rfl⟩
  · rcases items_val h' with ⟨j, u, rfl, rfl⟩ | ⟨y, u, rfl, rfl⟩
    · have e : decide ((.inl i : Key) = .inl j) = (i == j) := by rw [Bool.eq_iff_iff]; simp
      rw [e]
      exact SeqAt.EqAt.int_int i t j u
    · cases hs
  · rcases items_val h' with ⟨j, u, rfl, rfl⟩ | ⟨y, u, rfl, rfl⟩
    · cases hs
    · have e : decide ((.inr x : Key) = .inr y) = (x == y) := by rw [Bool.eq_iff_iff]; simp
      rw [e]
      exact SeqAt.EqAt.str_str x t y u
theorem key_ltAt {k k' : Key} {v v' : Value} {Q : Bool → Shared → Prop} (b : Bool) (h : (mixKind P w).is k v = true) (h' : (mixKind P w).is k' v' = true) (hs : kKind k = kKind k') (hb : b = true → kKind k = true) (q : Q (klt k k') s) :
    wpAny (model P w) A (oneLt' b v v') Q E s := by
  rcases items_val h with ⟨i, t, rfl, rfl⟩ | ⟨x, t, rfl, rfl⟩
  · rcases items_val h' with ⟨j, u, rfl, rfl⟩ | ⟨y, u, rfl, rfl⟩
    · cases b with
      | true => exact oneLt_int q
      | false => exact PySem.W.kat_one _ _ (PyProof.Rows.lt_int q)
    · cases hs
  · rcases items_val h' with ⟨j, u, rfl, rfl⟩ | ⟨y, u, rfl, rfl⟩
    · cases hs
    · cases b with
      | true => cases hb rfl
      | false =>
        refine PySem.W.kat_one _ _ (PyProof.Rows.lt_str ?_)
        have q : Q (lex nlt x.cps.toList y.cps.toList) s := q
        rw [← lex_nat] at q
        exact q
theorem tup_walk {Q : Bool → Shared → Prop} : ∀ {k k' : List Key} {xs ys : List Value} (i : Nat), ItemsAre (mixKind P w) k xs → ItemsAre (mixKind P w) k' ys → shp k = shp k' → (i = 0 → ∃ j r, k = .inl j :: r) → Q (tlt k k') s →
    PySem.W.KatLex P w A true false Q (xs.zip ys) i s := by
  intro k
  induction k with
  | nil =>
    intro k' xs ys i h h' hs _ q
    cases k' with
    | cons _ _ => cases hs
    | nil =>
      cases h
      cases h'
      exact PySem.W.kat_nil q
  | cons a k ih =>
    intro k' xs ys i h h' hs h0 q
    cases k' with
    | nil => cases hs
    | cons b k' =>
      cases h with
      | cons h1 h2 =>
        cases h' with
        | cons g1 g2 =>
          have hs1 : kKind a = kKind b := (List.cons.inj hs).1
          have q : Q (if a = b then tlt k k' else klt a b) s := q
          refine PySem.W.kat_cons (key_eqAt h1 g1 hs1 P w _ _ ?_)
          refine PySem.W.kat_go (fun e => ?_) (fun e => ?_)
          · rw [if_pos (of_decide_eq_true e)] at q
            exact PySem.W.kat_yes (ih (i + 1) h2 g2 (List.cons.inj hs).2 (fun z => by cases z) q)
          · rw [if_neg (of_decide_eq_false e)] at q
            refine PySem.W.kat_no (key_ltAt _ h1 g1 hs1 (fun z => ?_) q)
            have hi : i = 0 := by simpa using z
            obtain ⟨j, r, ej⟩ := h0 hi
            cases ej
            rfl
/-- a value is a tuple with these items, of this form, an int first -/
def TupV (P : Program) (w : World) (h : Heap) (sh : List Bool) (kf : Value → List Key) (v : Value) : Prop := ∃ a, v = .ref a ∧ IsM P w h (kf v) a ∧ shp (kf v) = true :: sh
theorem head_int {k : List Key} {sh : List Bool} (h : shp k = true :: sh) : ∃ j r, k = .inl j :: r := by
  cases k with
  | nil => cases h
  | cons a r =>
    cases a with
    | inl j => exact ⟨j, r, rfl⟩
    | inr x => cases h
theorem tup_cmp {vs : List Value} {sh : List Bool} {kf : Value → List Key} (hp : ∀ v ∈ vs, TupV P w s.heap sh kf v) : Cmp P w A s (tuples' true) (fun p => p.1 ∈ vs) (lt2 fun v u => tlt (kf v) (kf u)) := by
  intro p q hm hm'
  show wpAny (model P w) A (keyLt' (tuples' true) p.1 q.1) (fun r s' => s' = s ∧ r = tlt (kf p.1) (kf q.1)) (fun _ _ => False) s
  obtain ⟨a, e1, ⟨o, items, n, ho, _, hd, hi⟩, h1⟩ := hp _ hm
  obtain ⟨b, e2, ⟨o2, items2, n2, ho2, _, hd2, hi2⟩, h2⟩ := hp _ hm'
  generalize kf p.1 = k1 at *
  generalize kf q.1 = k2 at *
  rw [e1, e2]
  refine PySem.W.kat_lt ho hd ho2 hd2 ?_
  have l1 : items.size = k1.length := by rw [← Array.length_toList]; exact (ItemsAre.length hi).symm
  have l2 : items2.size = k2.length := by rw [← Array.length_toList]; exact (ItemsAre.length hi2).symm
  have l3 : k1.length = k2.length := by have := congrArg List.length (h1.trans h2.symm); simpa using this
  have e : decide (items.size < items2.size) = false := decide_eq_false (by omega)
  rw [e]
  exact tup_walk 0 hi hi2 (h1.trans h2.symm) (fun _ => head_int h1) ⟨rfl, rfl⟩
theorem tup_firsts {h : Heap} {sh : List Bool} {kf : Value → List Key} : ∀ vs : List Value, (∀ v ∈ vs, TupV P w h sh kf v) → ∃ fs, PySem.W.KatTups h vs fs ∧ fs.length = vs.length ∧ ∀ f ∈ fs, ∃ i t, f = Value.int i t
  | [], _ => ⟨[], PySem.W.KatTups.nil, rfl, fun f hf => by cases hf⟩
  | v :: vs, hv => by
    obtain ⟨fs, k1, k2, k3⟩ := tup_firsts vs fun u hu => hv u (List.mem_cons_of_mem _ hu)
    obtain ⟨a, e, ⟨o, items, n, ho, hc, hd, hi⟩, h1⟩ := hv v List.mem_cons_self
    obtain ⟨j, r, ek⟩ := head_int h1
    rw [ek] at hi
    subst e
    cases hz : items.toList with
    | nil => rw [hz] at hi; cases hi
    | cons f rest =>
      rw [hz] at hi
      cases hi with
      | cons g1 g2 =>
        rcases items_val g1 with ⟨i, t, _, rfl⟩ | ⟨x, t, ex, _⟩
        · refine ⟨.int i t :: fs, PySem.W.KatTups.cons ho hc hd (by rw [← Array.getElem?_toList, hz]; rfl) k1, congrArg (· + 1) k2, fun g hg => ?_⟩
          rcases List.mem_cons.mp hg with rfl | hg
          · exact ⟨i, t, rfl⟩
          · exact k3 g hg
        · cases ex
theorem TupV.keep {h h' : Heap} {sh : List Bool} {kf : Value → List Key} {v : Value} (x : TupV P w h sh kf v) (k : ∀ b o, h.get? b = some o → o.cls = .type "tuple" → h'.get? b = some o) : TupV P w h' sh kf v := by
  obtain ⟨a, e, ⟨o, items, n, ho, hc, r⟩, h1⟩ := x
  exact ⟨a, e, ⟨o, items, n, k a o ho hc, hc, r⟩, h1⟩
theorem tup_sortable {a : Addr} {vs : List Value} {sh : List Bool} {kf : Value → List Key} (h0 : 0 < vs.length) (hp : ∀ v ∈ vs, TupV P w s.heap sh kf v) (ha : ∀ o, s.heap.get? a = some o → o.cls ≠ .type "tuple") : SortableO P w A s a vs fun v u => tlt (kf v) (kf u) := by
  intro h' keep
  have hp' : ∀ v ∈ vs, TupV P w h' sh kf v := fun v hm => (hp v hm).keep fun b o e c => keep b o (fun z => ha o (by rw [← z]; exact e) c) e
  obtain ⟨fs, k1, k2, k3⟩ := tup_firsts vs hp'
  refine ⟨tuples' true, fun Q E hq => PySem.W.kat_kind (T := .type "int") k1 (by omega) (fun f hf => ?_) (by rfl) ?_, tup_cmp hp'⟩
  · obtain ⟨i, t, rfl⟩ := k3 f hf
    exact PySem.W.Looks.now
  · rw [show (Value.type "int" != Value.type "tuple") = true by first | decide +kernel | rfl | decide]
    exact hq
end
end L2.XS
namespace L2.XS
open PySem PySem.Spec PyProof.Rows L2 SrtO

abbrev mh (P : Program) (w : World) (k : List Key) : Int := tupleKeyHash (mixKind P w) k
abbrev LK := List (Addr × List Key)
section
variable {P : Program} {w : World} {A : Around} {E : Value → Shared → Prop} {s : Shared}
theorem vals_small {k : List Key} {vs : List Value} (h : ItemsAre (mixKind P w) k vs) : ∀ v ∈ vs, (∃ i t, v = Value.int i t) ∨ ∃ x t, v = Value.str x t := by
  induction h with
  | nil => intro v hv; cases hv
  | cons h1 _ ih =>
    intro v hv
    rcases List.mem_cons.mp hv with rfl | hv
    · rcases items_val h1 with ⟨i, t, _, e⟩ | ⟨x, t, _, e⟩
      · exact .inl ⟨i, t, e⟩
      · exact .inr ⟨x, t, e⟩
    · exact ih v hv
theorem noClass (n : Nat) {v : Value} (h : (∃ i t, v = Value.int i t) ∨ ∃ x t, v = Value.str x t) : ofAClassStatement n v = pure false := by
  rcases h with ⟨i, t, rfl⟩ | ⟨x, t, rfl⟩ <;> cases n <;> rfl
theorem noClass_tup {k : List Key} {b : Addr} {Q : Bool → Shared → Prop} (hk : IsM P w s.heap k b) (h : Q false s) : wpAny (model P w) A (ofAClassStatement 8 (.ref b)) Q E s := by
  have hT := hk.typeIs
  obtain ⟨o, items, n, ho, _, hd, hi⟩ := hk
  unfold ofAClassStatement
  refine wpAny_bind (wpAny_typeOf hT ?_)
  dsimp only
  simp only [show (("tuple" : String) == "tuple") = true by decide, if_true, Bool.not_true, Bool.false_eq_true, if_false]
  try refine wpAny_bind (wpAny_pure ?_)
  try simp only [Bool.not_true, Bool.false_eq_true, if_false]
  refine wpAny_bind (wpAny_seqItems ho hd ?_)
  dsimp only
  refine wpAny_bind ?_
  rw [← Array.forIn_toList]
  refine wpAny_forIn_list _ (fun l r z => r.1 = none ∧ z = s ∧ ∀ v ∈ l, (∃ i t, v = Value.int i t) ∨ ∃ x t, v = Value.str x t) _ (fun v l r z hz => ?_) (fun r z hz => ?_) _ _ ⟨rfl, rfl, vals_small hi⟩
  · obtain ⟨_, rfl, ha⟩ := hz
    rw [noClass _ (ha v List.mem_cons_self)]
    refine wpAny_bind (wpAny_pure ?_)
    simp only [Bool.false_eq_true, if_false]
    exact wpAny_pure ⟨rfl, rfl, fun u hu => ha u (List.mem_cons_of_mem _ hu)⟩
  · obtain ⟨r1, r2⟩ := r
    obtain ⟨e, rfl, _⟩ := hz
    simp only at e
    subst e
    exact wpAny_pure h
theorem byVal (n : Nat) {v : Value} (h : (∃ i t, v = Value.int i t) ∨ ∃ x t, v = Value.str x t) : ∃ b, hashByValue n v = pure b := by
  rcases h with ⟨i, t, rfl⟩ | ⟨x, t, rfl⟩
  · exact ⟨true, by cases n <;> rfl⟩
  · exact ⟨false, by cases n <;> rfl⟩
theorem byVal_tup {k : List Key} {b : Addr} {Q : Bool → Shared → Prop} (hk : IsM P w s.heap k b) (h : ∀ c, Q c s) : wpAny (model P w) A (hashByValue 8 (.ref b)) Q E s := by
  have hT := hk.typeIs
  obtain ⟨o, items, n, ho, _, hd, hi⟩ := hk
  unfold hashByValue
  refine wpAny_bind (wpAny_specialOf hT F.slot_tuple_hash.lookup ?_)
  refine wpAny_bind (wpAny_seqItems ho hd ?_)
  refine wpAny_bind ?_
  show wpAny _ _ (forIn items _ _) _ _ s
  rw [← Array.forIn_toList]
  refine wpAny_forIn_list _ (fun l r z => z = s ∧ ∀ v ∈ l, (∃ i t, v = Value.int i t) ∨ ∃ x t, v = Value.str x t) _ (fun v l r z hz => ?_) (fun r z hz => ?_) _ _ ⟨rfl, vals_small hi⟩
  · obtain ⟨rfl, ha⟩ := hz
    obtain ⟨c, e⟩ := byVal 7 (ha v List.mem_cons_self)
    rw [e]
    refine wpAny_bind (wpAny_pure ?_)
    cases c with
    | true =>
      simp only [Bool.not_true, Bool.false_eq_true, if_false]
      exact wpAny_pure ⟨rfl, fun u hu => ha u (List.mem_cons_of_mem _ hu)⟩
    | false =>
      simp only [Bool.not_false, if_true]
      exact wpAny_pure (wpAny_pure (h false))
  · obtain ⟨r1, r2⟩ := r
    obtain ⟨rfl, _⟩ := hz
    cases r1 with
    | none => exact wpAny_pure (h true)
    | some c => exact wpAny_pure (h c)
theorem unseen_tup {k : List Key} {b : Addr} {Q : Bool → Shared → Prop} (hk : IsM P w s.heap k b) {ys : List Value} (hy : ∀ y ∈ ys, ∃ k' c, y = Value.ref c ∧ IsM P w s.heap k' c) (h : Q false s) : wpAny (model P w) A (searchCouldBeSeen (.ref b) ys) Q E s := by
  unfold searchCouldBeSeen
  refine wpAny_bind ?_
  refine wpAny_forIn_list _ (fun l r z => r.1 = none ∧ z = s ∧ ∀ y ∈ l, ∃ k' c, y = Value.ref c ∧ IsM P w s.heap k' c) _ (fun v l r z hz => ?_) (fun r z hz => ?_) _ _ ⟨rfl, rfl, hy⟩
  · obtain ⟨_, rfl, ha⟩ := hz
    have more : ∀ y ∈ l, ∃ k' c, y = Value.ref c ∧ IsM P w z.heap k' c := fun u hu => ha u (List.mem_cons_of_mem _ hu)
    obtain ⟨k', c, rfl, hc⟩ := ha v List.mem_cons_self
    dsimp only
    by_cases hv : (b == c || (carriedByValue (.ref b) && carriedByValue (.ref c))) = true
    · exact wp_if_pos hv (wpAny_pure ⟨rfl, rfl, more⟩)
    · refine wp_if_neg hv (wpAny_bind (wpAny_eqIsQuiet_tuple hk ?_))
      simp only [Bool.not_true, Bool.false_eq_true, if_false]
      refine wpAny_bind (wpAny_eqIsQuiet_tuple hc ?_)
      simp only [Bool.not_true, Bool.false_eq_true, if_false]
      refine wpAny_bind (noClass_tup hk ?_)
      simp only [Bool.false_eq_true, if_false]
      refine wpAny_bind (noClass_tup hc ?_)
      simp only [Bool.false_eq_true, if_false]
      exact wpAny_pure ⟨rfl, rfl, more⟩
  · obtain ⟨r1, r2⟩ := r
    obtain ⟨e, rfl, _⟩ := hz
    simp only at e
    subst e
    exact wpAny_pure h
def rws (P : Program) (w : World) (L : LK) : List (Int × Value) := L.map fun p => (mh P w p.2, Value.ref p.1)
/-- masks as sets grow -/
def Grw (m n : Nat) : Prop := n < 4000 ∧ n * 5 < m * 3 ∧ (m = 7 ∨ m = 31 ∨ m = 127 ∨ m = 511 ∨ m = 2047 ∨ m = 8191)
theorem Grw.msk {m n : Nat} (h : Grw m n) : Msk m := by
  rcases h.2.2 with e | e | e | e | e | e <;> subst e
  · exact ⟨3, by decide, rfl⟩
  · exact ⟨5, by decide, rfl⟩
  · exact ⟨7, by decide, rfl⟩
  · exact ⟨9, by decide, rfl⟩
  · exact ⟨11, by decide, rfl⟩
  · exact ⟨13, by decide, rfl⟩
structure STab (P : Program) (w : World) (h : Heap) (a : Addr) (L : LK) (es : Array (Int × Value)) (ep : Nat) (t : SetTable) : Prop where
  ob : ∃ o, h.get? a = some o ∧ o.ExactSet ∧ o.data = .set es ep t
  rows : es.toList = rws P w L
  tab : Tab t (L.map fun p => mh P w p.2)
  nd : (L.map (·.2)).Nodup
  tup : ∀ p ∈ L, IsM P w h p.2 p.1
  led : w.params.followText "set-order" = true ∨ t.led = true
  grw : Grw t.mask L.length
variable {a : Addr} {L : LK} {es : Array (Int × Value)} {ep : Nat} {t : SetTable}
theorem rws_size (h : es.toList = rws P w L) : es.size = L.length := by
  have := congrArg List.length h
  unfold rws at this
  rwa [Array.length_toList, List.length_map] at this
theorem fits_of (sz : t.place.size = L.length) (dm : t.dummies = #[]) (he : es.size = L.length) (g : L.length ≤ t.mask) : t.fits es.size = true := by
  unfold SetTable.fits SetTable.fill
  rw [dm, Bool.and_eq_true, beq_iff_eq, decide_eq_true_eq]
  exact ⟨by rw [sz, he], by show t.place.size + 0 ≤ t.mask; omega⟩
theorem STab.fits (R : STab P w s.heap a L es ep t) : t.fits es.size = true := by
  have g := R.grw
  unfold Grw at g
  exact fits_of (by have := R.tab.size; rwa [List.length_map] at this) R.tab.none (rws_size R.rows) (by omega)
theorem STab.row (R : STab P w s.heap a L es ep t) {i : Nat} {p : Addr × List Key} (h : L[i]? = some p) : es[i]? = some (mh P w p.2, Value.ref p.1) := by
  rw [← Array.getElem?_toList, R.rows]
  unfold rws
  rw [List.getElem?_map, h]
  rfl
theorem STab.live (R : STab P w s.heap a L es ep t) : ¬ t.gaveWay = true := by
  unfold SetTable.gaveWay
  rw [R.tab.mask.odd]
  decide
theorem nth_nodummy (m : Nat) : ∀ (n : Nat) (p : SetTable.Probe), p.dummy = none → (nth m p n).dummy = none
  | 0, _, h => h
  | n + 1, p, h => nth_nodummy m n (adv m p) (by unfold adv; split <;> exact h)
/-- the search, from the c-th step of the way on -/
theorem seek_from (R : STab P w s.heap a L es ep t) {x : Addr} {k : List Key} (hx : IsM P w s.heap k x) (hu : A.units < cLine) {h : Int} (eh : h = mh P w k) {K : Nat} (hKf : K < 10 * SetTable.turns t.mask)
    (hK : way t.mask h K ∉ t.place.toList) (hKb : ∀ c, c < K → way t.mask h c ∈ t.place.toList) {Q : SetFound → Shared → Prop}
    (hin : k ∈ L.map (·.2) → Q (.there none) s) (hout : k ∉ L.map (·.2) → Q (.free (way t.mask h K) false) s) :
    ∀ (f c : Nat) (st : Option SetTable.Probe), st.getD (t.probeStart h) = nth t.mask (runAt t.mask (SetTable.bits h % (t.mask + 1)) (SetTable.bits h)) c → c ≤ K → K - c < f →
      (∀ (i : Nat) p, L[i]? = some p → p.2 = k → ∃ c', c ≤ c' ∧ c' < K ∧ t.place.toList[i]? = some (way t.mask h c')) → wpAny (model P w) A (setSearchFrom a (.ref x) h true f st) Q E s
  | 0, c, st, _, _, hf, _ => absurd hf (Nat.not_lt_zero _)
  | f + 1, c, st, hst, hc, hf, hre => by
    obtain ⟨o, ho, hex, hd⟩ := R.ob
    generalize hp0 : runAt t.mask (SetTable.bits h % (t.mask + 1)) (SetTable.bits h) = p0 at hst
    have wy : ∀ q, (nth t.mask p0 q).j = way t.mask h q := fun q => by rw [← hp0]
    rw [setSearchFrom_succ]
    refine wpAny_bind (wpAny_setState_of ho hd R.fits ?_)
    dsimp only
    refine wp_if_neg R.live ?_
    try refine wpAny_bind (wpAny_pure ?_)
    have e1 : ∀ q, (nth t.mask (nth t.mask p0 c) q).j = way t.mask h (c + q) := fun q => by rw [← nth_add, wy]
    have hcK : c + (K - c) = K := by omega
    have hashAt : ∀ (i : Nat) p, L[i]? = some p → (es[i]?.map (·.1)).getD 0 = mh P w p.2 := fun i p hp => by rw [R.row hp]; rfl
    rcases go_spec t R.tab.ris R.tab.none (fun i => (es[i]?.map (·.1)).getD 0) h (10 * SetTable.turns t.mask) (K - c) (nth t.mask p0 c) (nth_nodummy _ _ _ (by rw [← hp0]; rfl)) (by omega)
      (fun q hq => by rw [e1]; exact hKb _ (by omega)) (by rw [e1, hcK]; exact hK) with ⟨q, i, hq, hi, hh, hno, hpr⟩ | ⟨hno, hpr⟩
    · have hpr' : t.probe (fun i => (es[i]?.map (·.1)).getD 0) h (st.getD (t.probeStart h)) = some (.candidate (way t.mask h (c + q)) i (nth t.mask p0 (c + (q + 1)))) := by
        rw [hst, ← e1, nth_add]
        exact hpr
      rw [hpr']
      dsimp only
      rw [e1] at hi
      have hil : i < L.length := by
        have h1 := (List.getElem?_eq_some_iff.mp hi).1
        have h2 := R.tab.size
        rw [List.length_map] at h2
        rw [Array.length_toList] at h1
        omega
      obtain ⟨p, hp⟩ : ∃ p, L[i]? = some p := ⟨_, List.getElem?_eq_getElem hil⟩
      have hm : p ∈ L := List.mem_of_getElem? hp
      have rest : wpAny (model P w) A (searchRest a (.ref x) h true f es t (way t.mask h (c + q)) i (nth t.mask p0 (c + (q + 1)))) Q E s := by
        unfold searchRest
        rw [R.row hp]
        dsimp only
        refine wpAny_bind (wpAny_holding (wpAny_eqBool_tuple hu (R.tup p hm) hx (wpAny_bind (wpAny_setState_of ho hd R.fits ?_))))
        dsimp only
        by_cases hkk : p.2 = k
        · exact wp_if_pos (by simp [hkk]) (wpAny_pure (hin (List.mem_map.mpr ⟨p, hm, hkk⟩)))
        · refine wp_if_neg (by simp [hkk]) ?_
          try refine wpAny_bind (wpAny_pure ?_)
          rw [sameMem]
          dsimp only
          have hsl : t.slot (way t.mask h (c + q)) = .live i := slot_live R.tab.ris hi
          simp only [if_true, hsl, R.row hp]
          refine wpAny_bind (wpAny_isSame_ref_self (wpAny_bind (wpAny_pure ?_)))
          simp only [if_true]
          refine wp_if_neg (by simp [hkk]) ?_
          refine seek_from R hx hu eh hKf hK hKb hin hout f (c + (q + 1)) _ (by rw [hp0]; rfl) (by omega) (by omega) fun i0 p1 h0 hk0 => ?_
          obtain ⟨c', a1, a2, a3⟩ := hre i0 p1 h0 hk0
          refine ⟨c', ?_, a2, a3⟩
          have n1 : ¬ c' < c + q := fun z => by
            refine hno (c' - c) i0 (by omega) (by rw [e1, show c + (c' - c) = c' by omega]; exact a3) ?_
            show (es[i0]?.map (·.1)).getD 0 = h
            rw [hashAt i0 p1 h0, hk0, eh]
          have n2 : c' ≠ c + q := fun z => by
            rw [z] at a3
            have s0 := slot_live R.tab.ris a3
            rw [hsl] at s0
            injection s0 with s0
            rw [← s0, hp] at h0
            cases h0
            exact hkk hk0
          omega
      by_cases hl : t.led = true
      · refine wp_if_neg (by simp [hl]) ?_
        try refine wpAny_bind (wpAny_pure ?_)
        exact rest
      · refine wp_if_pos (by simp [hl]) (wpAny_bind (unseen_tup hx (fun y hy => ?_) ?_))
        · obtain ⟨e, he, rfl⟩ := List.mem_map.mp hy
          have he1 : e ∈ es ∧ e.1 = h := by simpa using he
          have he2 : e ∈ es.toList := by simpa using he1.1
          rw [R.rows] at he2
          obtain ⟨p2, hp2, rfl⟩ := List.mem_map.mp he2
          exact ⟨p2.2, p2.1, rfl, R.tup p2 hp2⟩
        · refine wp_if_neg (by decide) ?_
          try refine wpAny_bind (wpAny_pure ?_)
          exact rest
    · have hpr' : t.probe (fun i => (es[i]?.map (·.1)).getD 0) h (st.getD (t.probeStart h)) = some (.empty (way t.mask h K) none) := by
        have e2 := e1 (K - c)
        rw [hcK] at e2
        rw [hst, ← e2]
        exact hpr
      rw [hpr']
      dsimp only
      refine wpAny_pure (hout fun hm => ?_)
      obtain ⟨p1, h0, hk0⟩ := List.mem_map.mp hm
      obtain ⟨i0, hi0⟩ := List.getElem?_of_mem h0
      obtain ⟨c', a1, a2, a3⟩ := hre i0 p1 hi0 hk0
      refine hno (c' - c) i0 (by omega) (by rw [e1, show c + (c' - c) = c' by omega]; exact a3) ?_
      show (es[i0]?.map (·.1)).getD 0 = h
      rw [hashAt i0 p1 hi0, hk0, eh]
theorem seek (R : STab P w s.heap a L es ep t) {x : Addr} {k : List Key} (hx : IsM P w s.heap k x) (hu : A.units < cLine) {Q : SetFound → Shared → Prop} (hin : k ∈ L.map (·.2) → Q (.there none) s)
    (hout : ∀ K, k ∉ L.map (·.2) → way t.mask (mh P w k) K ∉ t.place.toList → (∀ c, c < K → way t.mask (mh P w k) c ∈ t.place.toList) → Q (.free (way t.mask (mh P w k) K) false) s) :
    wpAny (model P w) A (setSearch a (.ref x) (mh P w k) true) Q E s := by
  have g := R.grw
  unfold Grw at g
  obtain ⟨K, hKf, hK, hKb⟩ := R.tab.free (by rw [List.length_map]; omega) (mh P w k)
  have big : K < 100000 := by
    have : SetTable.turns t.mask ≤ 8300 := by
      unfold SetTable.turns
      omega
    omega
  unfold setSearch
  refine seek_from R hx hu rfl hKf hK hKb hin (fun z => hout K z hK hKb) 100000 0 none rfl (Nat.zero_le _) (by omega) fun i p hp hk => ?_
  have hi : (L.map fun p => mh P w p.2)[i]? = some (mh P w k) := by rw [List.getElem?_map, hp, ← hk]; rfl
  have hil : i < t.place.toList.length := by
    have h1 := (List.getElem?_eq_some_iff.mp hi).1
    have h2 := R.tab.size
    rw [Array.length_toList]
    omega
  obtain ⟨j, hj⟩ : ∃ j, t.place.toList[i]? = some j := ⟨_, List.getElem?_eq_getElem hil⟩
  obtain ⟨c, hc, rfl⟩ := R.tab.ahead hK hi hj
  exact ⟨c, Nat.zero_le _, hc, hj⟩
end
end L2.XS
namespace L2.XS
open PySem PySem.Spec PyProof.Rows L2 SrtO
section
variable {P : Program} {w : World} {A : Around} {E : Value → Shared → Prop} {s : Shared} {a : Addr} {L : LK} {es : Array (Int × Value)} {ep : Nat} {t : SetTable}
theorem isM_kept {h h' : Heap} {k : List Key} {b : Addr} (x : IsM P w h k b) (hk : ∀ c o, h.get? c = some o → h'.get? c = some o) : IsM P w h' k b := by
  obtain ⟨o, items, n, ho, r⟩ := x
  exact ⟨o, items, n, hk b o ho, r⟩
theorem isM_but {h h' : Heap} {k : List Key} {b : Addr} {o : Obj} (hb : IsM P w h k b) (ho : h.get? a = some o) (hd : o.data = .set es ep t) (hs : Heap.SameBut a h h') : IsM P w h' k b := by
  obtain ⟨o', items, n, ho', hc, hd', hi⟩ := hb
  refine ⟨o', items, n, (hs.2 b ?_).trans ho', hc, hd', hi⟩
  rintro rfl
  rw [ho] at ho'
  cases ho'
  rw [hd] at hd'
  cases hd'
/-- the rows by the new order -/
theorem reorder (order : Array Nat) (hr : es.toList = rws P w L) (hp : order.toList.Perm (List.range L.length)) :
    ∃ L2, (order.filterMap (es[·]?)).toList = rws P w L2 ∧ L2.Perm L ∧ (L2.map fun p => mh P w p.2) = order.toList.map fun i => (es.map (·.1)).getD i 0 := by
  have sz := rws_size hr
  have ent : ∀ i (h : i < L.length), es[i]? = some (mh P w (L[i]).2, Value.ref (L[i]).1) := fun i h => by
    rw [← Array.getElem?_toList, hr]
    unfold rws
    rw [List.getElem?_map, List.getElem?_eq_getElem h]
    rfl
  have key : ∀ l : List Nat, (∀ i ∈ l, i < L.length) → l.filterMap (fun i => es[i]?) = rws P w (l.filterMap fun i => L[i]?) ∧ ((l.filterMap fun i => L[i]?).map fun p => mh P w p.2) = l.map fun i => (es.map (·.1)).getD i 0 := by
    intro l
    induction l with
    | nil => intro _; exact ⟨rfl, rfl⟩
    | cons i l ih =>
      intro hl
      have hi := hl i List.mem_cons_self
      obtain ⟨e1, e2⟩ := ih fun j hj => hl j (List.mem_cons_of_mem _ hj)
      rw [List.filterMap_cons_some (ent i hi), List.filterMap_cons_some (List.getElem?_eq_getElem hi), List.map_cons, List.map_cons, e1, e2]
      refine ⟨rfl, ?_⟩
      have e5 : (es.map (·.1))[i]? = some (mh P w (L[i]).2) := by rw [Array.getElem?_map, ent i hi]; rfl
      rw [Array.getD_eq_getD_getElem?, e5]
      rfl
  have lt : ∀ i ∈ order.toList, i < L.length := fun i hi => List.mem_range.mp (hp.mem_iff.mp hi)
  obtain ⟨e1, e2⟩ := key _ lt
  refine ⟨_, by first | (rw [Array.toList_filterMap]; exact e1) | simpa using e1, ?_, e2⟩
  have all : ∀ n, n ≤ L.length → (List.range n).filterMap (fun i => L[i]?) = L.take n := by
    intro n
    induction n with
    | zero => intro _; rfl
    | succ n ih =>
      intro hn
      rw [List.range_succ, List.filterMap_append, ih (by omega), List.take_add_one, List.filterMap_cons_some (List.getElem?_eq_getElem hn), List.getElem?_eq_getElem hn]
      rfl
  have h1 := hp.filterMap fun i => L[i]?
  rw [all _ (Nat.le_refl _), List.take_length] at h1
  exact h1
theorem relay {o : Obj} (ho : s.heap.get? a = some o) (hex : o.ExactSet) (hd : o.data = .set es ep t) (hrows : es.toList = rws P w L) (hsz : t.place.size = L.length) (hdm : t.dummies = #[]) (hfl : L.length ≤ t.mask)
    (nd : (L.map (·.2)).Nodup) (tup : ∀ p ∈ L, IsM P w s.heap p.2 p.1) (ld : w.params.followText "set-order" = true ∨ t.led = true) {wanted M : Nat}
    (hw : SetTable.sizeAbove wanted - 1 = M) (g : Grw M L.length) {Q : Unit → Shared → Prop}
    (hQ : ∀ h' L' es' ep' t', Heap.SameBut a s.heap h' → STab P w h' a L' es' ep' t' → L'.Perm L → Q () { s with heap := h' }) : wpAny (model P w) A (setRelay a wanted) Q E s := by
  have sl := rws_size hrows
  have g2 := g
  unfold Grw at g2
  have fits := fits_of (es := es) hsz hdm sl hfl
  obtain ⟨t', order, e, hp, T, em, el⟩ := relay_ok t (hs := es.map (·.1)) (wanted := wanted) hw g.msk (by rw [Array.size_map, sl]; omega)
  rw [Array.size_map, sl] at hp
  obtain ⟨L2, r1, r2, r3⟩ := reorder order hrows hp
  rw [← r3] at T
  have s2 : (order.filterMap (es[·]?)).size = es.size := by rw [rws_size r1, r2.length_eq, sl]
  rw [setRelay_eq]
  refine wpAny_bind (wpAny_setState_of ho hd fits ?_)
  dsimp only
  refine wp_if_neg (by rw [sizeLine_eq]; omega) ?_
  try refine wpAny_bind (wpAny_pure ?_)
  rw [e]
  dsimp only
  refine wpAny_bind ?_
  refine wp_if_neg (by rw [s2]; simp) ?_
  try refine wpAny_bind (wpAny_pure ?_)
  refine wpAny_pure ?_
  dsimp only
  refine wpAny_storeSet_of ho hd ?_ (by rw [s2, sl, sizeLine_eq]; omega)
  have sb : Heap.SameBut a s.heap (s.heap.update a (Obj.putSet (order.filterMap (es[·]?)) t')) := Heap.SameBut.update ..
  exact hQ _ L2 _ (ep + 1) t' sb ⟨⟨_, store_at ho hd, ⟨hex.1, hex.2.1, hex.2.2⟩, rfl⟩, r1, T, (r2.map (·.2)).nodup_iff.mpr nd, fun p hpm => isM_but (tup p (r2.mem_iff.mp hpm)) ho hd sb, by rw [el]; exact ld, by rw [em, r2.length_eq]; exact g⟩ r2
theorem rws_put (L : LK) (p : Nat) (x : Addr) (k : List Key) : rws P w (L.take p ++ (x, k) :: L.drop p) = (rws P w L).take p ++ (mh P w k, Value.ref x) :: (rws P w L).drop p := by
  unfold rws
  rw [List.map_append, List.map_cons, List.map_take, List.map_drop]
theorem tab_plain {t : SetTable} {hs : List Int} (T : Tab t hs) (b : Bool) : Tab { t with plain := b } hs := ⟨T.ris, T.none, T.size, T.mask, T.top, T.way⟩
theorem grown_at {m n : Nat} (g : Grw m n) (n2 : n + 1 < 4000) (hf : (n + 1) * 5 ≥ m * 3) : Grw (SetTable.sizeAbove (SetTable.grown (n + 1)) - 1) (n + 1) ∧ n + 1 ≤ m := by
  obtain ⟨g1, g2, g3⟩ := g
  rcases g3 with e | e | e | e | e | e
  · obtain rfl : n = 4 := by omega
    have z : SetTable.sizeAbove (SetTable.grown 5) - 1 = 31 := by decide +kernel
    rw [show 4 + 1 = 5 from rfl, z]
    exact ⟨⟨by omega, by omega, .inr (.inl rfl)⟩, by omega⟩
  · obtain rfl : n = 18 := by omega
    have z : SetTable.sizeAbove (SetTable.grown 19) - 1 = 127 := by decide +kernel
    rw [show 18 + 1 = 19 from rfl, z]
    exact ⟨⟨by omega, by omega, .inr (.inr (.inl rfl))⟩, by omega⟩
  · obtain rfl : n = 76 := by omega
    have z : SetTable.sizeAbove (SetTable.grown 77) - 1 = 511 := by decide +kernel
    rw [show 76 + 1 = 77 from rfl, z]
    exact ⟨⟨by omega, by omega, .inr (.inr (.inr (.inl rfl)))⟩, by omega⟩
  · obtain rfl : n = 306 := by omega
    have z : SetTable.sizeAbove (SetTable.grown 307) - 1 = 2047 := by decide +kernel
    rw [show 306 + 1 = 307 from rfl, z]
    exact ⟨⟨by omega, by omega, .inr (.inr (.inr (.inr (.inl rfl))))⟩, by omega⟩
  · obtain rfl : n = 1228 := by omega
    have z : SetTable.sizeAbove (SetTable.grown 1229) - 1 = 8191 := by decide +kernel
    rw [show 1228 + 1 = 1229 from rfl, z]
    exact ⟨⟨by omega, by omega, .inr (.inr (.inr (.inr (.inr rfl))))⟩, by omega⟩
  · omega
/-- adding one -/
theorem add_one (R : STab P w s.heap a L es ep t) {x : Addr} {k : List Key} (hx : IsM P w s.heap k x) (hu : A.units < cLine) (few : L.length + 1 < 4000) {Q : Bool → Shared → Prop}
    (hQ : ∀ b h' L' es' ep' t', Heap.SameBut a s.heap h' → STab P w h' a L' es' ep' t' → (k ∈ L.map (·.2) → L' = L) → (k ∉ L.map (·.2) → L'.Perm ((x, k) :: L)) → Q b { s with heap := h' }) :
    wpAny (model P w) A (setAddHashed a (.ref x) (mh P w k)) Q E s := by
  obtain ⟨o, ho, hex, hd⟩ := R.ob
  have sl := rws_size R.rows
  have g := R.grw
  unfold setAddHashed
  refine wpAny_holding ?_
  rw [show (100000 : Nat) = 99999 + 1 from rfl, setAddHashedIn_succ]
  refine wpAny_bind (wpAny_setState_of ho hd R.fits ?_)
  dsimp only
  refine wp_if_neg (by simp [byScan, Value.scannable]) ?_
  try refine wpAny_bind (wpAny_pure ?_)
  refine wpAny_bind (seek R hx hu (fun hm => ?_) fun K hm hK hb => ?_)
  · dsimp only
    exact wpAny_pure (hQ false s.heap L es ep t (Heap.SameBut.refl a s.heap) R (fun _ => rfl) fun z => absurd hm z)
  · dsimp only
    refine wpAny_bind (wpAny_setState_of ho hd R.fits ?_)
    dsimp only
    obtain ⟨p, q1, q2, q3, q4, q5, q9⟩ := R.tab.add hK hb
    generalize t.put (way t.mask (mh P w k) K) = pt at q1 q3 q4 q5 q9 ⊢
    obtain ⟨t1, p'⟩ := pt
    dsimp only at q1 q3 q4 q5 q9 ⊢
    subst q1
    have hin : (SetTable.insertAt es p' (mh P w k, Value.ref x)).toList = rws P w (L.take p' ++ (x, k) :: L.drop p') := by rw [SetTable.toList_insertAt, rws_put, R.rows]
    have pm := put_perm L p' (x, k)
    have hhs : (L.take p' ++ (x, k) :: L.drop p').map (fun p => mh P w p.2) = (L.map fun p => mh P w p.2).take p' ++ mh P w k :: (L.map fun p => mh P w p.2).drop p' := by rw [List.map_append, List.map_cons, List.map_take, List.map_drop]
    rw [← hhs] at q3
    generalize L.take p' ++ (x, k) :: L.drop p' = L1 at pm q3 hin
    have hlen : L1.length = L.length + 1 := pm.length_eq
    have nd1 : (L1.map (·.2)).Nodup := (pm.map (·.2)).nodup_iff.mpr (List.nodup_cons.mpr ⟨hm, R.nd⟩)
    generalize SetTable.insertAt es p' (mh P w k, Value.ref x) = es1 at hin ⊢
    have hes : es1.size = L.length + 1 := by rw [rws_size hin, hlen]
    have go : ∀ t2 : SetTable, Tab t2 (L1.map fun p => mh P w p.2) → t2.mask = t.mask → t2.led = t.led → t2.fill = L.length + 1 →
        wpAny (model P w) A (do
          storeSet a es1 t2
          if !false && t2.tooFull then setRelay a (SetTable.grown (es.size + 1))
          return true) Q E s := fun t2 T2 m2 l2 f2 => by
      refine wpAny_bind (wpAny_storeSet_of ho hd ?_ (by rw [hes, sizeLine_eq]; omega))
      have sb : Heap.SameBut a s.heap (s.heap.update a (Obj.putSet es1 t2)) := Heap.SameBut.update ..
      have ho1 := store_at (es' := es1) (t' := t2) ho hd
      generalize s.heap.update a (Obj.putSet es1 t2) = h1 at sb ho1 ⊢
      have tup1 : ∀ p ∈ L1, IsM P w h1 p.2 p.1 := fun p hp => by
        rcases List.mem_cons.mp (pm.mem_iff.mp hp) with rfl | hp
        · exact isM_but hx ho hd sb
        · exact isM_but (R.tup p hp) ho hd sb
      have sz1 : t2.place.size = L1.length := by have := T2.size; rwa [List.length_map] at this
      by_cases hf : t2.tooFull = true
      · first
          | (refine wpAny_bind ?_; refine wp_if_pos (by simp [hf]) ?_)
          | (refine wp_if_pos (by simp [hf]) ?_; refine wpAny_bind ?_)
        have full : (L.length + 1) * 5 ≥ t.mask * 3 := by
          have h := hf
          unfold SetTable.tooFull at h
          rwa [decide_eq_true_eq, f2, m2] at h
        obtain ⟨g1, g2⟩ := grown_at g few full
        rw [sl]
        refine relay (s := { s with heap := h1 }) ho1 ⟨hex.1, hex.2.1, hex.2.2⟩ rfl hin sz1 T2.none (by rw [hlen, m2]; exact g2) nd1 tup1 (by rw [l2]; exact R.led) rfl (by rw [hlen]; exact g1) fun h2 L2 es2 ep2 t3 sb2 R2 pm2 => ?_
        exact wpAny_pure (hQ true h2 L2 es2 ep2 t3 (sb.trans sb2) R2 (fun z => absurd z hm) fun _ => pm2.trans pm)
      · have notfull : (L.length + 1) * 5 < t.mask * 3 := by
          have h := hf
          unfold SetTable.tooFull at h
          rw [decide_eq_true_eq, f2, m2] at h
          omega
        first
          | refine wp_if_neg (by simp [hf]) ?_
          | (refine wpAny_bind ?_; refine wp_if_neg (by simp [hf]) ?_; refine wpAny_pure ?_)
        refine wpAny_pure (hQ true h1 L1 es1 (ep + 1) t2 sb ⟨⟨_, ho1, ⟨hex.1, hex.2.1, hex.2.2⟩, rfl⟩, hin, T2, nd1, tup1, by rw [l2]; exact R.led, ?_⟩ (fun z => absurd z hm) fun _ => pm)
        rw [hlen, m2]
        exact ⟨few, notfull, g.2.2⟩
    have fin : ∀ b : Bool, wpAny (model P w) A (do
          storeSet a es1 (if b = true then t1 else { t1 with plain := false })
          if !false && (if b = true then t1 else { t1 with plain := false }).tooFull then setRelay a (SetTable.grown (es.size + 1))
          return true) Q E s := fun b => by
      cases b with
      | true => exact go t1 q3 q4 q5 (by rw [q9, List.length_map])
      | false => exact go { t1 with plain := false } (tab_plain q3 false) q4 q5 (by rw [← List.length_map (f := fun p : Addr × List Key => mh P w p.2), ← q9]; rfl)
    by_cases hp1 : t1.plain = true
    · first
        | (refine wpAny_bind ?_; refine wp_if_pos hp1 ?_; refine byVal_tup hx fun b => ?_)
        | refine wp_if_pos hp1 (wpAny_bind (byVal_tup hx fun b => ?_))
      exact fin b
    · first
        | (refine wpAny_bind ?_; refine wp_if_neg hp1 ?_; refine wpAny_pure ?_)
        | refine wp_if_neg hp1 (wpAny_bind (wpAny_pure ?_))
        | refine wp_if_neg hp1 ?_
      exact fin true
end
end L2.XS
namespace L2.XS
open PySem PySem.Spec PyProof.Rows L2 SrtO
/-- what stands in the set behind i items -/
structure Has (ks : LK) (i : Nat) (L : LK) : Prop where
  sub : ∀ p ∈ L, p ∈ ks.take i
  all : ∀ p ∈ ks.take i, p.2 ∈ L.map (·.2)
  len : L.length ≤ i
theorem take_up {α : Type} {l : List α} {i : Nat} {x : α} (h : l[i]? = some x) : l.take (i + 1) = l.take i ++ [x] := by rw [List.take_add_one, h]; rfl
theorem Has.stay {ks L : LK} {i : Nat} {x : Addr × List Key} (g : Has ks i L) (h : ks[i]? = some x) (hm : x.2 ∈ L.map (·.2)) : Has ks (i + 1) L := by
  refine ⟨fun p hp => by rw [take_up h]; exact List.mem_append_left _ (g.sub p hp), fun p hp => ?_, Nat.le_succ_of_le g.len⟩
  rw [take_up h] at hp
  rcases List.mem_append.mp hp with z | z
  · exact g.all p z
  · cases List.mem_singleton.mp z; exact hm
theorem Has.grow {ks L L' : LK} {i : Nat} {x : Addr × List Key} (g : Has ks i L) (h : ks[i]? = some x) (pm : L'.Perm (x :: L)) : Has ks (i + 1) L' := by
  refine ⟨fun p hp => ?_, fun p hp => ?_, by rw [pm.length_eq]; exact Nat.succ_le_succ g.len⟩
  · rw [take_up h]
    rcases List.mem_cons.mp (pm.mem_iff.mp hp) with rfl | z
    · exact List.mem_append_right _ (List.mem_singleton.mpr rfl)
    · exact List.mem_append_left _ (g.sub p z)
  · rw [(pm.map (·.2)).mem_iff]
    rw [take_up h] at hp
    rcases List.mem_append.mp hp with z | z
    · exact List.mem_cons_of_mem _ (g.all p z)
    · cases List.mem_singleton.mp z; exact List.mem_cons_self
abbrev newS (w : World) : Obj := { cls := .type "set", dict := none, data := .set #[] 0 (.fresh 0 0 (!w.params.followText "set-order")) }
section
variable {P : Program} {w : World} {A : Around} {E : Value → Shared → Prop} {s : Shared}
theorem STab.at_ {h h' : Heap} {a : Addr} {L : LK} {es : Array (Int × Value)} {ep : Nat} {t : SetTable} (R : STab P w h a L es ep t) (ha : ∀ o, h.get? a = some o → h'.get? a = some o) (ht : ∀ p ∈ L, IsM P w h' p.2 p.1) : STab P w h' a L es ep t := by
  obtain ⟨o, ho, r⟩ := R.ob
  exact ⟨⟨o, ha o ho, r⟩, R.rows, R.tab, R.nd, ht, R.led, R.grw⟩
theorem stab_new {h : Heap} {a : Addr} (ho : h.get? a = some (newS w)) : STab P w h a [] #[] 0 (.fresh 0 0 (!w.params.followText "set-order")) where
  ob := ⟨_, ho, ⟨rfl, rfl, rfl⟩, rfl⟩
  rows := rfl
  tab := ⟨List.Pairwise.nil, rfl, rfl, ⟨3, by decide, rfl⟩, fun x hx => (by cases hx), fun i h j hi => (by simp at hi)⟩
  nd := List.nodup_nil
  tup := fun p hp => by cases hp
  led := by
    show _ ∨ (!w.params.followText "set-order") = true
    cases w.params.followText "set-order"
    · exact .inr rfl
    · exact .inl rfl
  grw := ⟨by decide, by show 0 * 5 < 7 * 3; decide, .inl rfl⟩
/-- the loop behind set(..) -/
theorem fill {I : Addr} {fp wr : List Addr} {G : Array GenState → Array GenState → Prop} {n : Nat} {Pv : Nat → Value → Prop} {St : Nat → Shared → Prop} {R : Result → Shared → Prop}
    (W : WalksS P w A.in1 I fp wr G n Pv St) (S : Addr) (hSf : S ∉ fp) (ks : LK) (hn : n = ks.length) (few : ks.length < 4000) (hval : ∀ i v, Pv i v → ∃ p, ks[i]? = some p ∧ v = .ref p.1)
    (h0 : Heap) (hk : ∀ p ∈ ks, IsM P w h0 p.2 p.1) (hS0 : h0.get? S = none) (hw0 : ∀ b ∈ wr, h0.get? b = none) (hu : A.in1.units < cLine) :
    ∀ (k i : Nat) (s : Shared), n - i = k → i ≤ n → St i s → (∀ b o, h0.get? b = some o → s.heap.get? b = some o) → (∃ L es ep t, STab P w s.heap S L es ep t ∧ Has ks i L) →
      (∀ z L es ep t, Moved (S :: wr) G s z → STab P w z.heap S L es ep t → Has ks n L → (∀ b o, h0.get? b = some o → z.heap.get? b = some o) → R (.ok (.ret .none)) z) →
      codeAny (model P w) A (.builtin "set.update.loop" ⟨[.ref S, .ref I], []⟩) R s := by
  have out : S ∉ wr := fun h => hSf (W.sub _ h)
  have keepM : ∀ {s z : Shared}, Moved wr G s z → (∀ b o, h0.get? b = some o → s.heap.get? b = some o) → ∀ b o, h0.get? b = some o → z.heap.get? b = some o := fun hm hkp b o e =>
    hm.heap b o (fun hb => by rw [hw0 b hb] at e; cases e) (hkp b o e)
  intro k
  induction k with
  | zero =>
    intro i s hk' hi hst hkp ⟨L, es, ep, t, hS, g⟩ hR
    obtain rfl : i = n := by omega
    refine codeAny_builtin F.entry_set_update_loop ?_
    rw [Around.under_plainId F.plain_set_update_loop _]
    refine wpAny_bind (W.done s _ _ hst fun z hm => ?_)
    have kp := keepM hm hkp
    exact wpAny_pure (hR z L es ep t (hm.mono fun b hb => List.mem_cons_of_mem _ hb) (hS.at_ (fun o e => hm.heap S o out e) fun p hp => isM_kept (hk p (List.mem_of_mem_take (g.sub p hp))) kp) g kp)
  | succ k ih =>
    intro i s hk' hi hst hkp ⟨L, es, ep, t, hS, g⟩ hR
    have hlt : i < n := by omega
    refine codeAny_builtin F.entry_set_update_loop ?_
    rw [Around.under_plainId F.plain_set_update_loop _]
    refine wpAny_bind (W.item i s _ _ hlt hst fun v z hP hst' hm => ?_)
    obtain ⟨p, hp, rfl⟩ := hval i v hP
    have kp := keepM hm hkp
    have hS' : STab P w z.heap S L es ep t := hS.at_ (fun o e => hm.heap S o out e) fun q hq => isM_kept (hk q (List.mem_of_mem_take (g.sub q hq))) kp
    have hx : IsM P w z.heap p.2 p.1 := isM_kept (hk p (List.mem_of_getElem? hp)) kp
    refine wpAny_bind (wpAny_holding ?_)
    unfold setAdd
    refine wpAny_holding (wpAny_bind (wpAny_pyHash_tuple hu hx ?_))
    refine add_one (s := { z with toks := z.toks + (p.2.length + 1) }) hS' hx hu (by have := g.len; omega) fun b h' L' es' ep' t' sb hS2 c1 c2 => ?_
    have g' : Has ks (i + 1) L' := by
      rcases Classical.em (p.2 ∈ L.map (·.2)) with c | c
      · rw [c1 c]; exact g.stay hp c
      · exact g.grow hp (c2 c)
    have kp2 : ∀ b o, h0.get? b = some o → h'.get? b = some o := fun b o e => (sb.2 b (fun z => by rw [z, hS0] at e; cases e)).trans (kp b o e)
    refine wpAny_pure ⟨plainId_quiet F.plain_set_update_loop _, ih (i + 1) _ (by omega) hlt (W.frame _ z _ _ hst' (Nat.le_add_right _ _) fun b hb o e => ?_) kp2 ⟨L', es', ep', t', hS2, g'⟩ fun y L2 es2 ep2 t2 hm2 hS3 g2 kp3 => ?_⟩
    · rw [sb.2 b (fun h : b = S => hSf (by rw [← h]; exact hb))]; exact e
    · refine hR y L2 es2 ep2 t2 (Moved.trans W.gtrans ((hm.mono fun b hb => List.mem_cons_of_mem _ hb).then_heap (Nat.le_add_right _ _) fun b o hb e => ?_) hm2) hS3 g2 kp3
      rw [sb.2 b (fun h : b = S => hb (by rw [h]; exact List.mem_cons_self))]; exact e
theorem push_old {h : Heap} {o x : Obj} {b : Addr} (e : h.get? b = some x) : (h.push o).get? b = some x := Heap.get?_push_of_some _ e
theorem set_of_list {l : Addr} {items : Array Value} (ks : LK) {Q : Value → Shared → Prop} (hh : A.handled = none) (hl : s.heap.IsList l items) (hit : items.toList = ks.map fun p => Value.ref p.1)
    (hk : ∀ p ∈ ks, IsM P w s.heap p.2 p.1) (few : ks.length < 4000) (hu : A.units + 3 < cLine)
    (h : ∀ (h' : Heap) (tk : Nat) L es ep t, STab P w h' s.heap.objs.size L es ep t → Has ks ks.length L → (∀ b o, s.heap.get? b = some o → h'.get? b = some o) → Q (.ref s.heap.objs.size) { s with heap := h', toks := tk }) :
    wpAny (model P w) A (call (.type "set") [.ref l]) Q E s := by
  have isz : items.size = ks.length := by
    have q := congrArg List.length hit
    rwa [Array.length_toList, List.length_map] at q
  obtain ⟨c, tl, hmro⟩ := F.called_set.mro
  have m1 := F.called_set.made
  have m2 := F.called_set.sub
  refine wpAny_call (codeAny_of_tree ?_)
  refine wpAny_pure ⟨Code.quiet_builtin _ (by decide +kernel), codeAny_builtin F.entry_type_call ?_⟩
  rw [Around.under_plain (weight_type_call_type "set" [.ref l] []) rfl]
  have h1 := F.called_set.notType
  have h2 := F.called_set.canCreate
  have h3 := F.typeCall_set_1 (.ref l)
  repeat (any_goals (first | assumption | wp_step))
  refine codeAny_mono (code_set_led1 (.ref l) (E := E) (Q₁ := fun v z => v = .ref s.heap.objs.size ∧ z = { s with heap := s.heap.push (newS w) }) ⟨rfl, rfl⟩) fun r z hr => ?_
  cases r with
  | error e => exact hr
  | ok fl =>
    cases fl with
    | ret v =>
      obtain ⟨rfl, rfl⟩ := hr
      have hS : (s.heap.push (newS w)).get? s.heap.objs.size = some (newS w) := Heap.get?_push_size _ rfl
      have hT : Shared.TypeIs { s with heap := s.heap.push (newS w) } (.ref s.heap.objs.size) "set" := ⟨_, hS, rfl⟩
      have i1 := F.called_set.init.lookup
      have i2 := F.called_set.init.bind (.ref s.heap.objs.size)
      repeat (any_goals (first | assumption | wp_step))
      refine codeAny_mono (codeAny_call_builtin (R := wants (fun r y => r = .none ∧ ∃ h' tk L es ep t, y = { s with heap := h', toks := tk } ∧ STab P w h' s.heap.objs.size L es ep t ∧ Has ks ks.length L ∧
          (∀ b o, s.heap.get? b = some o → h'.get? b = some o)) E) F.called_set.init.plain F.entry_set_init (check_set_init_1 hT ?_)) fun r2 y hr2 => ?_
      · obtain ⟨ol, hol, hcl, nl, hdl⟩ := hl
        obtain ⟨oc, od, odt, osl⟩ := ol
        simp only at hcl hdl
        subst hcl hdl
        have hol' := push_old (o := newS w) hol
        have q1 := F.sub_list_set
        have q2 := F.sub_list_frozenset
        have q3 : (Value.type "list" == Value.type "dict") = false := by decide
        have hl1 : (s.heap.push (newS w)).IsList l items := ⟨_, hol', rfl, nl, rfl⟩
        unfold Builtin.«set.__init__» noKeywords Builtin.Frozenset.updateFrom
        generalize hPI : pyIter = PI
        wp_walk
        subst hPI
        refine wpAny_pyIter_list hl1 (wpAny_bind (wpAny_runValue ?_))
        have lS : l < s.heap.objs.size := Heap.lt_size hol
        have hh3 : A.in1.in1.in1.handled = none := by simp [hh]
        have sz : (s.heap.push (newS w)).objs.size = s.heap.objs.size + 1 := Heap.size_push ..
        have none_of : ∀ b, s.heap.objs.size ≤ b → s.heap.get? b = none := fun b hb => by
          cases q : s.heap.get? b with
          | none => rfl
          | some o => exact absurd (Nat.lt_of_lt_of_le (Heap.lt_size q) hb) (Nat.lt_irrefl _)
        refine fill ((Walks.list hh3 _ l (by rw [sz]; exact Nat.ne_of_lt (Nat.lt_succ_of_lt lS)) items).toS) s.heap.objs.size (fun hm => by
          rw [sz] at hm
          rcases List.mem_cons.mp hm with e | e
          · exact absurd e (Nat.ne_of_lt (Nat.lt_succ_self _))
          · exact absurd (List.mem_singleton.mp e) (Nat.ne_of_gt lS)) ks isz few (fun i v hv => ?_) s.heap hk (none_of _ (Nat.le_refl _))
          (fun b hb => none_of b (by rw [List.mem_singleton.mp hb, sz]; exact Nat.le_succ _)) hu (items.size - 0) 0 _ (by omega) (Nat.zero_le _)
          ⟨⟨_, Heap.get?_push_size _ rfl, rfl, rfl⟩, (hl1.push _)⟩ (fun b o e => push_old (push_old e)) ⟨[], #[], 0, _, stab_new (push_old hS), ⟨fun p h => (by cases h), fun p h => (by simp at h), Nat.le_refl _⟩⟩ fun y L es ep t hm hS' g' kp => ?_
        · have q : items.toList[i]? = some v := by rw [Array.getElem?_toList]; exact hv
          rw [hit, List.getElem?_map] at q
          obtain ⟨p, hp, rfl⟩ := Option.map_eq_some_iff.mp q
          exact ⟨p, hp, rfl⟩
        · obtain ⟨h', g2, d', tk', os'⟩ := y
          obtain rfl : g2 = s.gens := hm.gens
          obtain rfl : d' = s.drawn := hm.drawn
          obtain rfl : os' = s.os := hm.os
          show wpAny _ _ _ _ _ _
          refine wpAny_pure ?_
          show wpAny _ _ (ret Value.none) _ _ _
          rw [isz] at g'
          exact wpAny_pure ⟨rfl, h', tk', L, es, ep, t, rfl, hS', g', kp⟩
      · cases r2 with
        | error e => exact hr2
        | ok f2 =>
          cases f2 with
          | ret r =>
            obtain ⟨rfl, h', tk, L, es, ep, t, rfl, hS', g', hk'⟩ := hr2
            repeat (any_goals (first | assumption | wp_step))
            exact h _ _ _ _ _ _ hS' g' hk'
          | _ => exact hr2.elim
    | _ => exact hr.elim
theorem set_of_tuple {l : Addr} {items : Array Value} (ks : LK) {Q : Value → Shared → Prop} (hh : A.handled = none) (hl : s.heap.IsTuple l items) (hit : items.toList = ks.map fun p => Value.ref p.1)
    (hk : ∀ p ∈ ks, IsM P w s.heap p.2 p.1) (few : ks.length < 4000) (hu : A.units + 3 < cLine)
    (h : ∀ (h' : Heap) (tk : Nat) L es ep t, STab P w h' s.heap.objs.size L es ep t → Has ks ks.length L → (∀ b o, s.heap.get? b = some o → h'.get? b = some o) → Q (.ref s.heap.objs.size) { s with heap := h', toks := tk }) :
    wpAny (model P w) A (call (.type "set") [.ref l]) Q E s := by
  have isz : items.size = ks.length := by
    have q := congrArg List.length hit
    rwa [Array.length_toList, List.length_map] at q
  obtain ⟨c, tl, hmro⟩ := F.called_set.mro
  have m1 := F.called_set.made
  have m2 := F.called_set.sub
  refine wpAny_call (codeAny_of_tree ?_)
  refine wpAny_pure ⟨Code.quiet_builtin _ (by decide +kernel), codeAny_builtin F.entry_type_call ?_⟩
  rw [Around.under_plain (weight_type_call_type "set" [.ref l] []) rfl]
  have h1 := F.called_set.notType
  have h2 := F.called_set.canCreate
  have h3 := F.typeCall_set_1 (.ref l)
  repeat (any_goals (first | assumption | wp_step))
  refine codeAny_mono (code_set_led1 (.ref l) (E := E) (Q₁ := fun v z => v = .ref s.heap.objs.size ∧ z = { s with heap := s.heap.push (newS w) }) ⟨rfl, rfl⟩) fun r z hr => ?_
  cases r with
  | error e => exact hr
  | ok fl =>
    cases fl with
    | ret v =>
      obtain ⟨rfl, rfl⟩ := hr
      have hS : (s.heap.push (newS w)).get? s.heap.objs.size = some (newS w) := Heap.get?_push_size _ rfl
      have hT : Shared.TypeIs { s with heap := s.heap.push (newS w) } (.ref s.heap.objs.size) "set" := ⟨_, hS, rfl⟩
      have i1 := F.called_set.init.lookup
      have i2 := F.called_set.init.bind (.ref s.heap.objs.size)
      repeat (any_goals (first | assumption | wp_step))
      refine codeAny_mono (codeAny_call_builtin (R := wants (fun r y => r = .none ∧ ∃ h' tk L es ep t, y = { s with heap := h', toks := tk } ∧ STab P w h' s.heap.objs.size L es ep t ∧ Has ks ks.length L ∧
          (∀ b o, s.heap.get? b = some o → h'.get? b = some o)) E) F.called_set.init.plain F.entry_set_init (check_set_init_1 hT ?_)) fun r2 y hr2 => ?_
      · obtain ⟨ol, hol, hcl, nl, hdl⟩ := hl
        obtain ⟨oc, od, odt, osl⟩ := ol
        simp only at hcl hdl
        subst hcl hdl
        have hol' := push_old (o := newS w) hol
        have q1 := F.sub_tuple_set
        have q2 := F.sub_tuple_frozenset
        have q3 : (Value.type "tuple" == Value.type "dict") = false := by decide
        have hl1 : (s.heap.push (newS w)).IsTuple l items := ⟨_, hol', rfl, nl, rfl⟩
        unfold Builtin.«set.__init__» noKeywords Builtin.Frozenset.updateFrom
        generalize hPI : pyIter = PI
        wp_walk
        subst hPI
        refine wpAny_pyIter_tuple hl1 (wpAny_bind (wpAny_runValue ?_))
        have lS : l < s.heap.objs.size := Heap.lt_size hol
        have hh3 : A.in1.in1.in1.handled = none := by simp [hh]
        have sz : (s.heap.push (newS w)).objs.size = s.heap.objs.size + 1 := Heap.size_push ..
        have none_of : ∀ b, s.heap.objs.size ≤ b → s.heap.get? b = none := fun b hb => by
          cases q : s.heap.get? b with
          | none => rfl
          | some o => exact absurd (Nat.lt_of_lt_of_le (Heap.lt_size q) hb) (Nat.lt_irrefl _)
        refine fill ((Walks.tuple hh3 _ l (by rw [sz]; exact Nat.ne_of_lt (Nat.lt_succ_of_lt lS)) items).toS) s.heap.objs.size (fun hm => by
          rw [sz] at hm
          rcases List.mem_cons.mp hm with e | e
          · exact absurd e (Nat.ne_of_lt (Nat.lt_succ_self _))
          · exact absurd (List.mem_singleton.mp e) (Nat.ne_of_gt lS)) ks isz few (fun i v hv => ?_) s.heap hk (none_of _ (Nat.le_refl _))
          (fun b hb => none_of b (by rw [List.mem_singleton.mp hb, sz]; exact Nat.le_succ _)) hu (items.size - 0) 0 _ (by omega) (Nat.zero_le _)
          ⟨⟨_, Heap.get?_push_size _ rfl, rfl, rfl⟩, (hl1.push _)⟩ (fun b o e => push_old (push_old e)) ⟨[], #[], 0, _, stab_new (push_old hS), ⟨fun p h => (by cases h), fun p h => (by simp at h), Nat.le_refl _⟩⟩ fun y L es ep t hm hS' g' kp => ?_
        · have q : items.toList[i]? = some v := by rw [Array.getElem?_toList]; exact hv
          rw [hit, List.getElem?_map] at q
          obtain ⟨p, hp, rfl⟩ := Option.map_eq_some_iff.mp q
          exact ⟨p, hp, rfl⟩
        · obtain ⟨h', g2, d', tk', os'⟩ := y
          obtain rfl : g2 = s.gens := hm.gens
          obtain rfl : d' = s.drawn := hm.drawn
          obtain rfl : os' = s.os := hm.os
          show wpAny _ _ _ _ _ _
          refine wpAny_pure ?_
          show wpAny _ _ (ret Value.none) _ _ _
          rw [isz] at g'
          exact wpAny_pure ⟨rfl, h', tk', L, es, ep, t, rfl, hS', g', kp⟩
      · cases r2 with
        | error e => exact hr2
        | ok f2 =>
          cases f2 with
          | ret r =>
            obtain ⟨rfl, h', tk, L, es, ep, t, rfl, hS', g', hk'⟩ := hr2
            repeat (any_goals (first | assumption | wp_step))
            exact h _ _ _ _ _ _ hS' g' hk'
          | _ => exact hr2.elim
    | _ => exact hr.elim
open Classical in
/-- the key of a tuple -/
noncomputable def keyV (P : Program) (w : World) (h : Heap) (v : Value) : List Key := if e : ∃ a k, v = .ref a ∧ IsM P w h k a then Classical.choose (Classical.choose_spec e) else []
theorem keyV_eq {h : Heap} {a : Addr} {k : List Key} (x : IsM P w h k a) : keyV P w h (.ref a) = k := by
  have e : ∃ b k, Value.ref a = .ref b ∧ IsM P w h k b := ⟨a, k, rfl, x⟩
  unfold keyV
  rw [dif_pos e]
  obtain ⟨e1, e2⟩ := Classical.choose_spec (Classical.choose_spec e)
  have x2 := x
  rw [Value.ref.inj e1] at x2
  exact e2.inj x2
theorem sorted_of_set {a : Addr} {L : LK} {es : Array (Int × Value)} {ep : Nat} {t : SetTable} {Q : Value → Shared → Prop} (R : STab P w s.heap a L es ep t) (hh : A.handled = none) {sh : List Bool} (hB : ∀ p ∈ L, shp p.2 = true :: sh)
    (hQ : ∀ z p (out : Array Value) (c : Nat) (L' : LK), (∀ b o, s.heap.get? b = some o → z.heap.get? b = some o) → z.gens = s.gens → z.os = s.os → s.heap.objs.size ≤ p → z.heap.get? p = some (seqObj "list" out c) →
      out.toList = L'.map (fun q => Value.ref q.1) → L'.Perm L → (L'.map (·.2)).Pairwise (fun x y => tlt x y = true) → Q (.ref p) z) :
    wpAny (model P w) A (call (.builtin "sorted") [.ref a]) Q E s := by
  obtain ⟨o, ho, hex, hd⟩ := R.ob
  have sz := rws_size R.rows
  have g := R.grw.1
  refine Calls.call_function_entry kind_sorted plain_sorted entry_sorted (args_sorted1 _) ?_
  unfold Builtin.«sorted»
  refine wpAny_bind (m := checkCount "sorted" 1 1 _) (wpAny_pure ?_)
  refine wpAny_bind (collect_set (A := A.in1) hh ⟨o, ho, hex.1, hd⟩ R.fits (by unfold scanBound; omega) R.tab.ris R.led fun s1 vs k1 hz g1 o1 pm => ?_)
  have ev : es.toList.map (·.2) = L.map fun q => Value.ref q.1 := by
    rw [R.rows]
    unfold rws
    rw [List.map_map]
    rfl
  rw [ev] at pm
  have from_ : ∀ vs : List Value, (∀ v ∈ vs, ∃ q ∈ L, v = Value.ref q.1) → ∃ L1 : LK, vs = L1.map (fun q => Value.ref q.1) ∧ ∀ q ∈ L1, q ∈ L := by
    intro vs
    induction vs with
    | nil => intro _; exact ⟨[], rfl, fun q hq => (by cases hq)⟩
    | cons v vs ih =>
      intro hv
      obtain ⟨q, hq, rfl⟩ := hv v List.mem_cons_self
      obtain ⟨L1, rfl, hs⟩ := ih fun u hu => hv u (List.mem_cons_of_mem _ hu)
      exact ⟨q :: L1, rfl, fun r hr => (List.mem_cons.mp hr).elim (fun z => by rw [z]; exact hq) (hs r)⟩
  have one : ∀ q ∈ L, ∀ r ∈ L, q.1 = r.1 → q = r := fun q hq r hr e => by
    have a1 := R.tup q hq
    rw [e] at a1
    exact Prod.ext e (a1.inj (R.tup r hr))
  have nL : L.Nodup := nodup_of_map R.nd
  have nref : (L.map fun q => Value.ref q.1).Nodup := List.pairwise_map.mpr (List.Pairwise.imp_of_mem (fun {q r} hq hr hne e => hne (one q hq r hr (Value.ref.inj e))) nL)
  have perm_of : ∀ L1 : LK, (∀ q ∈ L1, q ∈ L) → (L1.map (fun q => Value.ref q.1)).Perm (L.map fun q => Value.ref q.1) → L1.Perm L := by
    intro L1 hs p1
    refine (List.perm_ext_iff_of_nodup (nodup_of_map (p1.nodup_iff.mpr nref)) nL).mpr fun q => ⟨hs q, fun hq => ?_⟩
    obtain ⟨r, hr, e⟩ := List.mem_map.mp (p1.mem_iff.mpr (List.mem_map.mpr ⟨q, hq, rfl⟩))
    rw [← one r (hs r hr) q hq (Value.ref.inj e)]
    exact hr
  have vl : vs.length = L.length := by rw [pm.length_eq, List.length_map]
  refine wpAny_bind (wpAny_newList ?_ (by rw [sizeLine_eq]; omega))
  have hoL : (s1.heap.push (seqObj "list" vs.toArray 0)).get? s1.heap.objs.size = some (seqObj "list" vs.toArray 0) := Heap.get?_push_size _ rfl
  have tk : ∀ q ∈ L, IsM P w (s1.heap.push (seqObj "list" vs.toArray 0)) q.2 q.1 := fun q hq => isM_kept (R.tup q hq) fun b u e => push_old (k1 b u e)
  generalize hkf : keyV P w (s1.heap.push (seqObj "list" vs.toArray 0)) = kf
  have kfe : ∀ q ∈ L, kf (.ref q.1) = q.2 := fun q hq => by rw [← hkf]; exact keyV_eq (tk q hq)
  have tv : ∀ v ∈ vs, TupV P w (s1.heap.push (seqObj "list" vs.toArray 0)) sh kf v := fun v hv => by
    obtain ⟨q, hq, rfl⟩ := List.mem_map.mp (pm.mem_iff.mp hv)
    exact ⟨q.1, rfl, by rw [kfe q hq]; exact tk q hq, by rw [kfe q hq]; exact hB q hq⟩
  refine wpAny_bind (wpAny_holding (wpAny_call_entry (s := { s1 with heap := s1.heap.push (seqObj "list" vs.toArray 0) }) slot_list_sort ⟨_, hoL, rfl⟩ entry_list_sort (list_sort_ord (lin_tup.comap kf) hoL (by rw [sizeLine_eq]; omega) (fun h2 => tup_sortable (s := { s1 with heap := s1.heap.push (seqObj "list" vs.toArray 0) }) (by omega) tv fun u e c => ?_) fun out a1 a2 => ⟨_, rfl, ?_⟩) (args_list_sort _)))
  · have e' : some u = some (seqObj "list" vs.toArray 0) := e.symm.trans hoL
    cases e'
    exact absurd (Value.type.inj c) (by decide)
  · obtain ⟨c, hc⟩ := sortedHeap_at (vs := vs) (out := out.toArray) hoL
    obtain ⟨L', e', hs'⟩ := from_ out fun v hv => by
      obtain ⟨q, hq, rfl⟩ := List.mem_map.mp (pm.mem_iff.mp (a2.perm.mem_iff.mp hv))
      exact ⟨q, hq, rfl⟩
    have pL : L'.Perm L := perm_of L' hs' (by rw [← e']; exact a2.perm.trans pm)
    have nd : (L'.map (·.2)).Nodup := (pL.map (·.2)).nodup_iff.mpr R.nd
    have pw : Srtd tlt (L'.map (·.2)) := by
      rw [e'] at a1
      refine List.pairwise_map.mpr (List.Pairwise.imp_of_mem (fun {q r} hq hr hle => ?_) (List.pairwise_map.mp a1))
      have hle : tlt (kf (.ref r.1)) (kf (.ref q.1)) = false := hle
      rw [kfe q (hs' q hq), kfe r (hs' r hr)] at hle
      exact hle
    refine wpAny_pure ⟨_, rfl, hQ _ s1.heap.objs.size out.toArray c L' (fun b u e => ?_) g1 o1 hz hc (by simpa using e') pL (strict_of lin_tup pw nd)⟩
    have q := k1 b u e
    have hlt := Heap.lt_size q
    show (sortedHeap (s1.heap.push (seqObj "list" vs.toArray 0)) s1.heap.objs.size vs out.toArray).get? b = some u
    rw [sortedHeap_old (Nat.ne_of_lt hlt) (by rw [size_push']; exact Nat.lt_succ_of_lt hlt)]
    exact push_old q
end
end L2.XS
namespace L2.XS
open PySem PySem.Spec PyProof.Rows L2 SrtO L2.WB
/-- the set at a, without its tuples -/
def SetM0 (P : Program) (w : World) (h : Heap) (a : Addr) (L : LK) : Prop := ∃ (es : Array (Int × Value)) (ep : Nat) (t : SetTable), (∃ o, h.get? a = some o ∧ o.ExactSet ∧ o.data = .set es ep t) ∧ es.toList = rws P w L ∧
  Tab t (L.map fun p => mh P w p.2) ∧ (L.map (·.2)).Nodup ∧ (w.params.followText "set-order" = true ∨ t.led = true) ∧ Grw t.mask L.length
def SetMO (P : Program) (w : World) (a : Addr) (L : LK) : HO := .ext fun h => SetM0 P w h a L
section
variable {P : Program} {w : World}
theorem STab.base {h : Heap} {a : Addr} {L : LK} {es : Array (Int × Value)} {ep : Nat} {t : SetTable} (R : STab P w h a L es ep t) : SetM0 P w h a L := ⟨es, ep, t, R.ob, R.rows, R.tab, R.nd, R.led, R.grw⟩
theorem SetM0.full {h : Heap} {a : Addr} {L : LK} (R : SetM0 P w h a L) (ht : ∀ p ∈ L, IsM P w h p.2 p.1) : ∃ es ep t, STab P w h a L es ep t := by
  obtain ⟨es, ep, t, r1, r2, r3, r4, r5, r6⟩ := R
  exact ⟨es, ep, t, r1, r2, r3, r4, ht, r5, r6⟩
theorem setMO_ok {H : Hp} {h : Heap} {a : Addr} {L : LK} (R : SetM0 P w h a L) : ObjOk P w H h a (SetMO P w a L) := by
  have R2 := R
  obtain ⟨es, ep, t, ⟨o, ho, _⟩, _⟩ := R2
  refine ⟨R, ⟨o, ho⟩, fun h1 h2 p k => ?_⟩
  have p : SetM0 P w h1 a L := p
  obtain ⟨es', ep', t', ⟨o', ho', r'⟩, q'⟩ := p
  exact ⟨es', ep', t', ⟨o', k o' ho', r'⟩, q'⟩
theorem keys_of_vals : ∀ {k : List Key} {us : List Value}, Vals (k.map kV) us → ItemsAre (mixKind P w) k us
  | [], _, .nil => .nil
  | .inl n :: k, _, .cons r t => by
    obtain ⟨tk, rfl⟩ := r
    exact .cons (keyIs_int n tk) (keys_of_vals t)
  | .inr x :: k, _, .cons r t => by
    obtain ⟨tk, rfl⟩ := r
    exact .cons (keyIs_str x tk) (keys_of_vals t)
theorem lk_refs : ∀ {ks : LK} {us : List Value}, Vals (ks.map fun p => V.ref p.1) us → us = ks.map fun p => Value.ref p.1
  | [], _, .nil => rfl
  | p :: ks, _, .cons r t => by
    cases r
    rw [lk_refs t] <;> rfl
theorem refs_lk : ∀ ks : LK, Vals (ks.map fun p => V.ref p.1) (ks.map fun p => Value.ref p.1)
  | [] => .nil
  | p :: ks => .cons rfl (refs_lk ks)
end
/-- a tuple of these items -/
abbrev TkO (K : PySem.W.Frag) (H : Hp) (p : Addr × List Key) : Prop := SqT K H p.1 (p.2.map kV)
section
variable {X : Cx}
theorem isM_of {pins : List (Addr × Obj)} {σ : St} {H : Hp} {s : Shared} {b : Addr} {k : List Key} (I : Inv X pins σ H s) (h : SqT X.K H b (k.map kV)) : IsM X.prog X.w s.heap k b := by
  obtain ⟨its, r, ⟨o, ho, hc, n, hd⟩, _⟩ := I.tuple h
  exact ⟨o, its.toArray, n, ho, hc, hd, by simpa using keys_of_vals r⟩
/-- set(xs), xs a list or a tuple of tuples of ints and texts -/
def rSetM (K : PySem.W.Frag) (P : Program) (w : World) : List V → Hp → VK → Prop := fun xs H Q => ∃ (l : Addr) (ks : LK), xs = [V.ref l] ∧ (SqL K H l (ks.map fun p => V.ref p.1) ∨ SqT K H l (ks.map fun p => V.ref p.1)) ∧ (∀ p ∈ ks, TkO K H p) ∧ ks.length < 4000 ∧
  ∀ a L, H a = none → (∀ p ∈ L, p ∈ ks) → (∀ p ∈ ks, p.2 ∈ L.map (·.2)) → Q (.ref a) (upd H a (SetMO P w a L))
theorem cr_setM (hc : X.calm = true) (hu : X.A.units + 64 < cLine) : CallR X (.type "set") (rSetM X.K X.prog X.w) := by
  intro pins s σ H xs us Q I r h
  obtain ⟨l, ks, rfl, hl, hk, hf, q⟩ := h
  have hn : H s.heap.objs.size = none := I.hok.fresh (Nat.le_refl _)
  have fin : ∀ (h' : Heap) (tk : Nat) L es ep t, STab X.prog X.w h' s.heap.objs.size L es ep t → Has ks ks.length L → (∀ b o, s.heap.get? b = some o → h'.get? b = some o) →
      EP X pins σ Q (.ref s.heap.objs.size) { s with heap := h', toks := tk } := fun h' tk L es ep t R g k =>
    ⟨.ref s.heap.objs.size, upd H s.heap.objs.size (SetMO X.prog X.w s.heap.objs.size L), I.laid (t' := tk) k (Nat.le_refl _) (setMO_ok R.base), rfl,
      q _ L hn (fun p hp => List.mem_of_mem_take (g.sub p hp)) fun p hp => g.all p (by rw [List.take_length]; exact hp)⟩
  rcases hl with hl | hl
  · obtain ⟨its, rv, pl, hz⟩ := I.list hl
    rw [Vals.ref1 r]
    exact set_of_list (P := X.prog) (w := X.w) ks (I.ok.hd hc) pl.isList (by simpa using lk_refs rv) (fun p hp => isM_of I (hk p hp)) hf (by omega) fin
  · obtain ⟨its, rv, ⟨o, ho, hcl, n, hd⟩, hz⟩ := I.tuple hl
    rw [Vals.ref1 r]
    exact set_of_tuple (P := X.prog) (w := X.w) ks (I.ok.hd hc) ⟨o, ho, hcl, n, hd⟩ (by simpa using lk_refs rv) (fun p hp => isM_of I (hk p hp)) hf (by omega) fin
/-- sorted(set of tuples) -/
def rSrtM (K : PySem.W.Frag) (P : Program) (w : World) : List V → Hp → VK → Prop := fun vs H Q => ∃ (a : Addr) (L : LK) (sh : List Bool), vs = [V.ref a] ∧ H a = some (SetMO P w a L) ∧ (∀ p ∈ L, TkO K H p) ∧ (∀ p ∈ L, shp p.2 = true :: sh) ∧
  ∀ (L' : LK) (p : Addr), L'.Perm L → (L'.map (·.2)).Pairwise (fun x y => tlt x y = true) → H p = none → Q (.ref p) (upd H p (.lst (L'.map fun q => V.ref q.1)))
theorem cr_srtM (hc : X.calm = true) : CallR X (.builtin "sorted") (rSrtM X.K X.prog X.w) := by
  intro pins s σ H vs us Q I r h
  obtain ⟨a, L, sh, rfl, ha, hk, hB, q⟩ := h
  have R0 : SetM0 X.prog X.w s.heap a L := (I.hok a _ ha).1
  obtain ⟨es, ep, t, R⟩ := R0.full fun p hp => isM_of I (hk p hp)
  rw [Vals.ref1 r]
  refine sorted_of_set R (I.ok.hd hc) hB fun s' p out c L' k g o hp hg hout pm pw => ?_
  have hlen : (L'.map fun q => V.ref q.1).length ≤ sizeLine := by
    have := R.grw.1
    rw [List.length_map, pm.length_eq, sizeLine_eq]; omega
  have hn : H p = none := I.hok.fresh hp
  have hv : Vals (L'.map fun q => V.ref q.1) out.toList := by rw [hout]; exact refs_lk L'
  have J : Inv X pins σ (upd H p (.lst (L'.map fun q => V.ref q.1))) { s with heap := s'.heap, gens := s'.gens, drawn := s'.drawn, toks := s'.toks } :=
    I.call (ch := []) (Un.laid k hp hn) (I.hok.laid k hp ⟨hlen, out.toList, c, hv, hg⟩) (by rw [g]; exact I.bare) (fun _ z => nomatch z)
  have e : s' = { s with heap := s'.heap, gens := s'.gens, drawn := s'.drawn, toks := s'.toks } := by
    cases s'
    cases s
    cases o
    rfl
  rw [e]
  exact ⟨.ref p, _, J, rfl, q L' p pm pw hn⟩
/-- the items of a tuple, by the layer -/
theorem tupV_of {pins : List (Addr × Obj)} {σ : St} {H : Hp} {s : Shared} (I : Inv X pins σ H s) {ks : LK} {sh : List Bool} {vs : List Value} (hk : ∀ p ∈ ks, TkO X.K H p) (hB : ∀ p ∈ ks, shp p.2 = true :: sh) (e : vs = ks.map fun p => Value.ref p.1) :
    ∀ v ∈ vs, TupV X.prog X.w s.heap sh (keyV X.prog X.w s.heap) v := fun v hv => by
  rw [e] at hv
  obtain ⟨p, hp, rfl⟩ := List.mem_map.mp hv
  have z := isM_of I (hk p hp)
  exact ⟨p.1, rfl, by rw [keyV_eq z]; exact z, by rw [keyV_eq z]; exact hB p hp⟩
def refOfV : Value → Addr
  | .ref a => a
  | _ => 0
/-- sorted(list of tuples) -/
def rSrtL (K : PySem.W.Frag) : List V → Hp → VK → Prop := fun vs H Q => ∃ (a : Addr) (ks : LK) (sh : List Bool), vs = [V.ref a] ∧ SqL K H a (ks.map fun p => V.ref p.1) ∧ (∀ p ∈ ks, TkO K H p) ∧ (∀ p ∈ ks, shp p.2 = true :: sh) ∧
  ∀ (L' : LK) (p : Addr), L'.Perm ks → (L'.map (·.2)).Pairwise (fun x y => tlt y x = false) → H p = none → Q (.ref p) (upd H p (.lst (L'.map fun q => V.ref q.1)))
theorem cr_srtL : CallR X (.builtin "sorted") (rSrtL X.K) := by
  intro pins s σ H vs us Q I r h
  obtain ⟨a, ks, sh, rfl, hs, hk, hB, q⟩ := h
  obtain ⟨its, rv, hl, hz⟩ := I.list hs
  rw [Vals.ref1 r]
  have ei := lk_refs rv
  have tv := tupV_of I hk hB ei
  have kf : ∀ p ∈ ks, keyV X.prog X.w s.heap (.ref p.1) = p.2 := fun p hp => keyV_eq (isM_of I (hk p hp))
  refine SrtO.sorted_ord (lin_tup.comap (keyV X.prog X.w s.heap)) hl.isList (by rw [← rv.length]; exact hz) (fun h2 h₁ b ho hk => ?_) fun out h1 h2 => ?_
  · refine tup_sortable (by omega) (fun v hv => (tv v hv).keep fun c o e _ => (hk c o e).2) fun u e c => ?_
    have e : h₁.get? b = some u := e
    rw [ho] at e
    cases e
    exact absurd (Value.type.inj c) (by decide)
  · have p1 := h2.perm
    rw [ei] at p1
    have gx : ∃ g : Value → Addr × List Key, ∀ p ∈ ks, g (.ref p.1) = p := ⟨fun v => (refOfV v, keyV X.prog X.w s.heap v), fun p hp => Prod.ext rfl (kf p hp)⟩
    obtain ⟨g, hg⟩ := gx
    have p2 : (out.map g).Perm ks := by
      have z := p1.map g
      rw [List.map_map] at z
      have e : ks.map (g ∘ fun p => Value.ref p.1) = ks := by
        conv => rhs; rw [← List.map_id ks]
        exact List.map_congr_left fun p hp => hg p hp
      rwa [e] at z
    have oe : out = (out.map g).map fun p => Value.ref p.1 := by
      rw [List.map_map]
      conv => lhs; rw [← List.map_id out]
      refine List.map_congr_left fun v hv => ?_
      obtain ⟨p, hp, rfl⟩ := List.mem_map.mp (p1.mem_iff.mp hv)
      show _ = Value.ref (g _).1
      rw [hg p hp]
      rfl
    have st : ((out.map g).map (·.2)).Pairwise (fun x y => tlt y x = false) := by
      rw [List.map_map]
      refine List.pairwise_map.mpr (List.Pairwise.imp_of_mem (fun {x y} hx hy z => ?_) h1)
      obtain ⟨p, hp, rfl⟩ := List.mem_map.mp (p1.mem_iff.mp hx)
      obtain ⟨q, hq, rfl⟩ := List.mem_map.mp (p1.mem_iff.mp hy)
      have z : tlt (keyV X.prog X.w s.heap (.ref q.1)) (keyV X.prog X.w s.heap (.ref p.1)) = false := z
      rw [kf p hp, kf q hq] at z
      show tlt (g _).2 (g _).2 = false
      rw [hg p hp, hg q hq]
      exact z
    obtain ⟨ep, he'⟩ := PyProof.Rows.sortedAll_at s.heap its out.toArray
    have hlen : ((out.map g).map fun p => V.ref p.1).length ≤ sizeLine := by
      rw [List.length_map, p2.length_eq]
      rw [List.length_map] at hz
      exact hz
    have hv : Vals ((out.map g).map fun p => V.ref p.1) out := by
      have z := refs_lk (out.map g)
      rwa [← oe] at z
    exact ⟨.ref _, upd H (s.heap.objs.size + 1) (.lst ((out.map g).map fun p => V.ref p.1)), I.laid (t' := s.toks) (fun _ _ => PyProof.Rows.sortedAll_old) (Nat.le_succ _) ⟨hlen, out, ep, hv, he'⟩, rfl, q _ _ p2 st (I.hok.fresh (Nat.le_succ _))⟩
end
end L2.XS
namespace L2.XS
open PySem PySem.Spec PyProof.Rows L2 SrtO L2.WB
def keyC (x : Int × Value) : Key := match x.2 with
  | .int i _ => .inl i
  | .str y _ => .inr y
  | _ => .inl 0
def GoodC (w : World) (x : Int × Value) : Prop := ∃ k, keyIs k x.2 = true ∧ x.1 = keyH w k
theorem goodC_key {w : World} {x : Int × Value} (g : GoodC w x) : keyIs (keyC x) x.2 = true ∧ x.1 = keyH w (keyC x) := by
  obtain ⟨k, h1, h2⟩ := g
  have e : keyC x = k := by
    unfold keyC
    rcases keyIs_shape h1 with ⟨i, t, rfl, e⟩ | ⟨y, t, rfl, e⟩ <;> rw [e]
  rw [e]
  exact ⟨h1, h2⟩
theorem key_one {k l : Key} {v : Value} (h : keyIs k v = true) (h' : keyIs l v = true) : k = l := by
  rcases keyIs_shape h with ⟨i, t, rfl, rfl⟩ | ⟨y, t, rfl, rfl⟩ <;> rcases keyIs_shape h' with ⟨j, u, rfl, e⟩ | ⟨z, u, rfl, e⟩ <;> cases e <;> rfl
theorem goodC_is {w : World} {x : Int × Value} (g : GoodC w x) (k : Key) : keyIs k x.2 = true ↔ keyC x = k :=
  ⟨fun h => key_one (goodC_key g).1 h, fun e => by rw [← e]; exact (goodC_key g).1⟩
/-- the set at a has the members L -/
def SetC (w : World) (h : Heap) (a : Addr) (L : List Key) : Prop := ∃ (o : Obj) (es : Array (Int × Value)) (ep : Nat) (t : SetTable), h.get? a = some o ∧ o.ExactSet ∧ o.data = .set es ep t ∧ (∀ x ∈ es.toList, GoodC w x) ∧ L.Nodup ∧ (es.toList.map keyC).Perm L ∧
  es.size < scanBound ∧ t.fits es.size = true ∧ Ris t.place.toList ∧ (w.params.followText "set-order" = true ∨ t.led = true)
theorem SetC.at_ {w : World} {h h' : Heap} {a : Addr} {L : List Key} (R : SetC w h a L) (k : ∀ o, h.get? a = some o → h'.get? a = some o) : SetC w h' a L := by
  obtain ⟨o, es, ep, t, ho, r⟩ := R
  exact ⟨o, es, ep, t, k o ho, r⟩
open Classical in
/-- L with k, if it is new -/
noncomputable def insK (L : List Key) (k : Key) : List Key := if k ∈ L then L else k :: L
section
variable {P : Program} {w : World} {A : Around} {E : Value → Shared → Prop} {s : Shared} {a : Addr} {L : List Key}
theorem goodC_elems {l : List (Int × Value)} (g : ∀ x ∈ l, GoodC w x) : ElemsOf (mixKind P w) l := fun x hx => by
  obtain ⟨k, h1, h2⟩ := g x hx
  refine ⟨⟨k, h1, h2⟩, ?_⟩
  rcases keyIs_shape h1 with ⟨i, t, _, e⟩ | ⟨y, t, _, e⟩ <;> rw [e] <;> rfl
theorem goodC_mem {l : List (Int × Value)} (g : ∀ x ∈ l, GoodC w x) (k : Key) : k ∈ l.map keyC ↔ ∃ x ∈ l, (mixKind P w).is k x.2 = true := by
  rw [List.mem_map]
  exact ⟨fun ⟨x, hx, q⟩ => ⟨x, hx, (goodC_is (g x hx) k).mpr q⟩, fun ⟨x, hx, q⟩ => ⟨x, hx, (goodC_is (g x hx) k).mp q⟩⟩
/-- behind a new member: the table may be laid anew -/
theorem setC_tail {gv : Bool → Sem Unit} (hg : ∀ (b : Bool) (z : Shared) (Q' : Unit → Shared → Prop), Q' () z → wpAny (model P w) A (gv b) Q' E z)
    {o : Obj} {es : Array (Int × Value)} {ep : Nat} {t : SetTable} (ho : s.heap.get? a = some o) (hex : o.ExactSet) (hd : o.data = .set es ep t)
    {e1 : Array (Int × Value)} {t2 : SetTable} {L' : List Key} (g1 : ∀ x ∈ e1.toList, GoodC w x) (nd1 : L'.Nodup) (m1 : (e1.toList.map keyC).Perm L')
    (hb1 : e1.size < scanBound) (hf2 : t2.fits e1.size = true) (hr : Ris t2.place.toList) (hl : w.params.followText "set-order" = true ∨ t2.led = true) {dm : Bool} {R : Option Bool → Shared → Prop}
    (hR : ∀ h', Heap.SameBut a s.heap h' → SetC w h' a L' → R (some true) { s with heap := h' }) :
    wpAny (model P w) A (do
        storeSet a e1 t2
        if (!dm && t2.tooFull) = true then do
            gv (relayAll t2 e1 (SetTable.grown e1.size)).2.2
            storeSet a (relayAll t2 e1 (SetTable.grown e1.size)).1 (relayAll t2 e1 (SetTable.grown e1.size)).2.1
            pure (some true)
          else pure (some true)) R E s := by
  refine wpAny_bind (wpAny_storeSet_of ho hd ?_ (fits_of_scanBound hb1))
  have o1 := store_at (es' := e1) (t' := t2) ho hd
  have b1 := Heap.SameBut.update s.heap a (Obj.putSet e1 t2)
  split
  · have pm := relayAll_perm t2 e1 (SetTable.grown e1.size)
    have f3 := relayAll_fits t2 e1 (SetTable.grown e1.size)
    have r3 := relayAll_ris t2 e1 (SetTable.grown e1.size)
    have l3 := relayAll_led t2 e1 (SetTable.grown e1.size)
    generalize relayAll t2 e1 (SetTable.grown e1.size) = Z at pm f3 r3 l3 ⊢
    obtain ⟨e2, t3, gave⟩ := Z
    dsimp only at pm f3 r3 l3 ⊢
    have z2 : e2.size = e1.size := by rw [← Array.length_toList, pm.length_eq, Array.length_toList]
    have b2 : e2.size < scanBound := by rw [z2]; exact hb1
    refine wpAny_bind (hg _ _ _ ?_)
    refine wpAny_bind (wpAny_storeSet_of o1 rfl ?_ (fits_of_scanBound b2))
    have o2 := store_at (es' := e2) (t' := t3) o1 rfl
    refine wpAny_pure (hR _ (b1.trans (Heap.SameBut.update _ a _)) ?_)
    exact ⟨_, e2, _, t3, o2, hex, rfl, fun x hx => g1 x (pm.mem_iff.mp hx), nd1, (pm.map keyC).trans m1, b2, f3, r3, hl.imp id fun z => by rw [l3]; exact z⟩
  · exact wpAny_pure (hR _ b1 ⟨_, e1, _, t2, o1, hex, rfl, g1, nd1, m1, hb1, hf2, hr, hl⟩)
theorem setC_hashed {k : Key} {v : Value} {Q : Bool → Shared → Prop} (hv : keyIs k v = true) (R : SetC w s.heap a L) (room : L.length + 1 < scanBound)
    (hQ : ∀ b h', Heap.SameBut a s.heap h' → SetC w h' a (insK L k) → Q b { s with heap := h' }) :
    wpAny (model P w) A (setAddHashed a v ((mixKind P w).hash k)) Q E s := by
  obtain ⟨o, es, ep, t, ho, hex, hd, g, nd, hm, hb, hf, hr, hl⟩ := R
  have hkey : (mixKind P w).is k v = true := hv
  have hsc : v.scannable = true := by rcases keyIs_shape hv with ⟨i, u, _, rfl⟩ | ⟨y, u, _, rfl⟩ <;> rfl
  have hel : ElemsOf (mixKind P w) es.toList := goodC_elems g
  unfold setAddHashed setAddHashedIn
  refine wpAny_holding (wpAny_bind (wpAny_setState_of ho hd hf ?_))
  dsimp only
  rw [byScan_of hsc hb hel]
  simp only [↓reduceIte]
  unfold setAddByScan
  refine wpAny_bind ?_
  refine wpAny_bind (wpAny_rule ?_)
  refine wpAny_bind (wpAny_setScan_of hkey ho hd hf hel ?_)
  cases hfi : List.findIdx? (fun x => (mixKind P w).is k x.2) es.toList with
  | some j =>
    dsimp only
    obtain ⟨hj, pj, _⟩ := List.findIdx?_eq_some_iff_getElem.mp hfi
    have hk : k ∈ L := hm.mem_iff.mp ((goodC_mem (P := P) g k).mpr ⟨es.toList[j], List.getElem_mem hj, pj⟩)
    refine wpAny_pure (wpAny_pure ?_)
    exact hQ _ s.heap (Heap.SameBut.refl a s.heap) (by unfold insK; rw [if_pos hk]; exact ⟨o, es, ep, t, ho, hex, hd, g, nd, hm, hb, hf, hr, hl⟩)
  | none =>
    dsimp only
    have hnk : k ∉ L := fun z => by
      obtain ⟨x, hx, q⟩ := (goodC_mem (P := P) g k).mp (hm.mem_iff.mpr z)
      have c := List.findIdx?_eq_none_iff.mp hfi x hx
      rw [q] at c
      cases c
    have eL : insK L k = k :: L := by unfold insK; rw [if_neg hnk]
    rw [eL] at hQ
    have gw : ∀ (b : Bool) {z : Shared} {Q' : Unit → Shared → Prop}, Q' () z → wpAny (model P w) A (match b with | true => rule "set.scan.the-table-gave-way" | false => pure ()) Q' E z :=
      fun b z Q' q => by cases b <;> first | exact wpAny_pure q | exact wpAny_rule q
    have pm := layNew_perm t es ((mixKind P w).hash k) v
    have f1 := layNew_fits t es ((mixKind P w).hash k) v
    have r1 := layNew_ris t es ((mixKind P w).hash k) v hr
    have l1 := layNew_led t es ((mixKind P w).hash k) v
    generalize layNew t es ((mixKind P w).hash k) v = Z at pm f1 r1 l1 ⊢
    obtain ⟨e1, t1, dm, gave⟩ := Z
    dsimp only at pm f1 r1 l1 ⊢
    rw [Array.toList_push] at pm
    have pc : e1.toList.Perm (((mixKind P w).hash k, v) :: es.toList) := pm.trans (List.perm_append_singleton _ _)
    have gk : GoodC w ((mixKind P w).hash k, v) := ⟨k, hv, rfl⟩
    have ek : keyC ((mixKind P w).hash k, v) = k := (goodC_is gk k).mp hv
    have m1 : (e1.toList.map keyC).Perm (k :: L) := (pc.map keyC).trans (by rw [List.map_cons, ek]; exact hm.cons k)
    have g1 : ∀ x ∈ e1.toList, GoodC w x := fun x hx => by
      rcases List.mem_cons.mp (pc.mem_iff.mp hx) with z | z
      · rw [z]; exact gk
      · exact g x z
    have nd1 : (k :: L).Nodup := List.nodup_cons.mpr ⟨hnk, nd⟩
    have hsz : e1.size = L.length + 1 := by
      have z := m1.length_eq
      rwa [List.length_map, Array.length_toList] at z
    have hb1 : e1.size < scanBound := by rw [hsz]; exact room
    have hled : w.params.followText "set-order" = true ∨ t1.led = true := hl.imp id fun z => by rw [l1]; exact z
    refine wpAny_bind (gw _ ?_)
    split
    · refine wpAny_bind ?_
      rw [hashByValue_scannable 8 hsc]
      refine wpAny_pure ?_
      refine setC_tail ?_ ho hex hd g1 nd1 m1 hb1 ?_ ?_ ?_ ?_
      · intro b z Q' q; cases b <;> first | exact wpAny_pure q | exact wpAny_rule q
      · first | (split <;> first | exact f1 | exact SetTable.fits_plain_off f1) | exact f1
      · first | (split <;> exact r1) | exact r1
      · first | (split <;> exact hled) | exact hled
      · intro h' sb r; dsimp only; exact wpAny_pure (hQ _ h' sb r)
    · refine wpAny_bind (wpAny_pure ?_)
      simp only [↓reduceIte]
      refine setC_tail ?_ ho hex hd g1 nd1 m1 hb1 f1 r1 hled ?_
      · intro b z Q' q; cases b <;> first | exact wpAny_pure q | exact wpAny_rule q
      · intro h' sb r; dsimp only; exact wpAny_pure (hQ _ h' sb r)
open Classical in
theorem setC_setOf (R : SetC w s.heap a L) : s.heap.SetOf (mixKind P w) a (fun k => decide (k ∈ L)) L.length := by
  obtain ⟨o, es, ep, t, ho, hx, hd, g, nd, hm, hb, hf, _⟩ := R
  refine ⟨o, es, ep, t, ho, hx, hd, goodC_elems g, fun k => ?_, hb, hf, ?_⟩
  · rw [decide_eq_true_eq, ← hm.mem_iff]
    exact goodC_mem g k
  · have z := hm.length_eq
    rwa [List.length_map, Array.length_toList] at z
/-- a.add(v) -/
theorem setC_add {k : Key} {v : Value} {Q : Value → Shared → Prop} (hv : keyIs k v = true) (R : SetC w s.heap a L) (room : L.length + 1 < scanBound)
    (hQ : ∀ h' (tk : Nat), Heap.SameBut a s.heap h' → SetC w h' a (insK L k) → Q .none { s with heap := h', toks := tk }) :
    wpAny (model P w) A (call (.builtin "set.add") [.ref a, v]) Q E s := by
  have hS := setC_setOf (P := P) R
  refine wpAny_call_entry F.slot_set_add hS.typeIs F.entry_set_add ?_ (F.args_set_add_2 _ _)
  unfold Builtin.«set.add» Builtin.Frozenset.oneOther
  simp only [List.isEmpty_nil, bind_assoc]
  unfold Builtin.Frozenset.addrOf setAdd
  refine wpAny_bind (wpAny_pure ?_)
  try dsimp only
  refine wpAny_bind (wpAny_pure ?_)
  try dsimp only
  refine wpAny_bind ?_
  refine wpAny_holding ?_
  refine wpAny_bind ((mixKind P w).pyHash hv ?_)
  refine setC_hashed (s := { s with toks := s.toks + 1 }) hv R room fun b h' sb r => ?_
  show wpAny _ _ (ret Value.none) _ _ _
  exact wpAny_pure ⟨_, rfl, hQ h' _ sb r⟩
end
theorem setC_new {h : Heap} {a : Addr} {w : World} (ho : h.get? a = some (newS w)) : SetC w h a [] :=
  ⟨_, #[], 0, _, ho, ⟨rfl, rfl, rfl⟩, rfl, (fun x hx => by simp at hx), List.nodup_nil, .nil, (by decide), (by rfl), List.Pairwise.nil, by
    show _ ∨ (!w.params.followText "set-order") = true
    cases w.params.followText "set-order"
    · exact .inr rfl
    · exact .inl rfl⟩
def SetCO (w : World) (a : Addr) (L : List Key) : HO := .ext fun h => SetC w h a L
theorem setCO_ok {w : World} {P : Program} {H : Hp} {h : Heap} {a : Addr} {L : List Key} (R : SetC w h a L) : ObjOk P w H h a (SetCO w a L) := by
  have R2 := R
  obtain ⟨o, _, _, _, ho, _⟩ := R2
  exact ⟨R, ⟨o, ho⟩, fun h1 h2 p k => SetC.at_ p k⟩
section
variable {X : Cx}
theorem addC_ok {pins : List (Addr × Obj)} {σ : L2.St} {H : Hp} {s : Shared} {E : Value → Shared → Prop} {D : Addr} {L : List Key} {y : Key} {v : Value} {Q : Value → Shared → Prop} (I : Inv X pins σ H s) (hv : RelV (kV y) v) (hD : H D = some (SetCO X.w D L)) (room : L.length + 1 < scanBound)
    (h : ∀ s', Inv X pins σ (upd H D (SetCO X.w D (insK L y))) s' → Q .none s') : wpAny (model X.prog X.w) X.A (call (.builtin "set.add") [.ref D, v]) Q E s := by
  have R : SetC X.w s.heap D L := (I.hok D _ hD).1
  have hk : keyIs y v = true := by
    cases y with
    | inl i => obtain ⟨t, rfl⟩ := hv; exact keyIs_int i t
    | inr x => obtain ⟨t, rfl⟩ := hv; exact keyIs_str x t
  refine setC_add hk R room fun h' tk sb new => ?_
  have new2 := new
  obtain ⟨o, _, _, _, ho, _⟩ := new2
  exact h _ (I.write (e := D) (t' := tk) (by rw [hD]; trivial) (.inl rfl) (fun b u hb hu => (sb.2 b hb).trans hu) ⟨o, ho⟩ (setCO_ok new))
end
end L2.XS
namespace L2.XS
open PySem PySem.Spec PyProof.Rows L2 SrtO L2.WB
section
variable {X : Cx}
/-- {e for x in it if ..}: D the new set, L its members -/
def tScK (w : World) (wi : TI) (g : TG) (tt : TT) (te : TE) (vs : List Nat) : TE := fun σ H Q => wi σ H fun J H1 => ∀ D, H1 D = none → ∃ W : Nat → Nat → Hp → Prop, (∃ m, W 0 m (upd H1 D (SetCO w D []))) ∧ ∀ i m H, W i m H →
  (J.stop i H ∧ Q (.ref D) H) ∨ (J.go i H ∧ ∃ Nx : Hp → Prop, (∀ H', Nx H' → ∃ m', m' < m ∧ W (i + 1) m' H') ∧ ∀ x H', J.yld i H x H' → g x (wipe σ vs) H' fun σ2 H2 => wipe σ2 vs = wipe σ vs ∧ tt σ2 H2 fun b H3 =>
    if b = true then te σ2 H3 fun y H4 => ∃ (c : Key) (L : List Key), y = kV c ∧ H4 D = some (SetCO w D L) ∧ L.length + 1 < scanBound ∧ Nx (upd H4 D (SetCO w D (insK L c))) else Nx H3)
theorem sck_core {pins : List (Addr × Obj)} {s : Shared} {σ : L2.St} {H : Hp} {Q : VK} {elt tg iter : Expr} {ifs : List Expr} {sc : Scope} {own : List (PySem.Str × Nat)} {pos pos' : Pos} {wi : TI} {g : TG} {tt : TT} {te : TE} {use : Option (Value → Sem Unit)} {Qf : Value → Shared → Prop}
    (hc : X.calm = true) (hN : X.N.Nodup) (I : Inv X pins σ H s) (hi : PI X tg iter wi) (bo : BlkOk X.N X.env.scope sc own)
    (hg : ∀ (z : Shared) (H' : Hp) (C : Addr) (cl : List (PySem.Str × Addr)) (fp : List Addr), PG (X.blk z H' sc (compEnvC sc cl C X.env) fp) tg g) (ht : ∀ (z : Shared) (H' : Hp) (C : Addr) (cl : List (PySem.Str × Addr)) (fp : List Addr), PTs (X.blk z H' sc (compEnvC sc cl C X.env) fp) ifs tt)
    (he : ∀ (z : Shared) (H' : Hp) (C : Addr) (cl : List (PySem.Str × Addr)) (fp : List Addr), PE (X.blk z H' sc (compEnvC sc cl C X.env) fp) elt te) (hs : ∀ x, foldedSetIterable iter X.env x = pure x)
    (h : tScK X.w wi g tt te (own.map (·.2)) σ H Q)
    (fin : ∀ D C z m H', Inv X pins σ H' z → Q (.ref D) H' → z.heap.Ns C m → FpOk X pins H' C → compPost (model X.prog X.w) X.A X.xe use Qf (.ref D) C (.ok .next) z) :
    wpAny (model X.prog X.w) X.A (comprehension (.SetComp elt [⟨tg, iter, ifs, 0⟩] sc pos) sc X.env pos' (newSet (.type "set")) false (eval iter X.env) use) Qf X.xe s := by
  have free : ∀ y ∈ sc.names, y.2 = .free → ∃ c, X.env.cells.lookup y.1 = some c := fun y hy e => (bo.free y hy e).elim (fun k => I.ok.has _ (.inl k)) fun k => I.ok.has _ (.inr k)
  refine wpAny_comprehension_free (use := use) rfl hs (closure_ok free) bo.kind (fun y hy e => by rw [bo.uniq y hy, e])
    (thn (hi.run pins s σ H _ I h) fun xv z1 hx => thn hx fun itv z2 h2 => ?_)
  obtain ⟨it, fp, tn, J, H2, e, I2, T, st2, f2, q⟩ := h2
  subst e
  refine PpSet.newSet_ok (newEnv_comp ?_)
  generalize hD : z2.heap.objs.size = D
  have nD : H2 D = none := I2.hok.fresh (Nat.le_of_eq hD)
  obtain ⟨W, ⟨m0, w0⟩, turn⟩ := q D nD
  generalize ez : ({ z2 with heap := z2.heap.push (newS X.w) } : Shared) = z3
  have hz3 : z3.heap = z2.heap.push (newS X.w) := by rw [← ez]
  have I3 : Inv X pins σ (upd H2 D (SetCO X.w D [])) z3 := by
    rw [← ez]
    refine I2.laid (t' := z2.toks) (fun b o e => push_old e) (Nat.le_of_eq hD) ?_
    rw [← hD]
    exact setCO_ok (setC_new (Heap.get?_push_size _ rfl))
  have low : ∀ b ∈ fp, b < z2.heap.objs.size := fun b hb => by
    obtain ⟨o, e, _⟩ := T.obj _ _ st2 b hb
    exact Heap.lt_size e
  have f3 : ∀ b ∈ fp, FpOk X pins (upd H2 D (SetCO X.w D [])) b ∧ b < z3.heap.objs.size := fun b hb => by
    have lt := low b hb
    refine ⟨⟨?_, (f2 b hb).2⟩, by rw [hz3, Heap.size_push]; exact Nat.lt_succ_of_lt lt⟩
    rw [upd_ne (by rw [← hD]; exact Nat.ne_of_lt lt)]
    exact (f2 b hb).1
  have st3 : tn 0 z3.heap := T.keep _ _ _ st2 fun b _ o e => by rw [hz3]; exact push_old e
  have I4 := block_start I3 bo hN f3
  have pg := hg z3 (upd H2 D (SetCO X.w D [])) z3.heap.objs.size (cellsFrom (z3.heap.objs.size + 1) sc.names (cloFrom X.env.cells sc.names [])) fp
  have pt := ht z3 (upd H2 D (SetCO X.w D [])) z3.heap.objs.size (cellsFrom (z3.heap.objs.size + 1) sc.names (cloFrom X.env.cells sc.names [])) fp
  have pe := he z3 (upd H2 D (SetCO X.w D [])) z3.heap.objs.size (cellsFrom (z3.heap.objs.size + 1) sc.names (cloFrom X.env.cells sc.names [])) fp
  show codeAny _ _ (.compStart (.SetComp elt [⟨tg, iter, ifs, 0⟩] sc pos) 0 (.ref it) (.ref D) (compEnvC sc (cellsFrom (z3.heap.objs.size + 1) sc.names (cloFrom X.env.cells sc.names [])) z3.heap.objs.size X.env)) (compPost (model X.prog X.w) X.A X.xe use Qf (.ref D) z3.heap.objs.size) { z3 with heap := pushCells (z3.heap.push { cls := .type "dict", data := .dict #[] }) sc.names }
  have nf : ∀ b ∈ fp, (upd H2 D (SetCO X.w D [])) b = none := fun b hb => (f3 b hb).1.1
  generalize hce : compEnvC sc (cellsFrom (z3.heap.objs.size + 1) sc.names (cloFrom X.env.cells sc.names [])) z3.heap.objs.size X.env = ce at I4 pg pt pe ⊢
  have cL : ce.locals = z3.heap.objs.size := by subst hce; rfl
  generalize hH3 : upd H2 D (SetCO X.w D []) = H3 at I3 I4 pg pt pe w0 nf f3
  generalize ez4 : ({ z3 with heap := pushCells (z3.heap.push { cls := .type "dict", data := .dict #[] }) sc.names } : Shared) = z4 at I4 ⊢
  have st4 : tn 0 z4.heap := T.keep _ _ _ st3 fun b _ o e => by rw [← ez4]; exact pushCells_keeps _ _ _ _ (push_old e)
  have stat : ∀ {σ' : L2.St} {H' : Hp} {z : Shared}, Inv (X.blk z3 H3 sc ce fp) [] σ' H' z → (∀ b ∈ fp, H' b = none) → ∀ b ∈ fp, FpOk (X.blk z3 H3 sc ce fp) [] H' b := fun {σ' H' z} I' hn b hb =>
    ⟨hn b hb, (I'.ok.exf b hb).1, I'.ok.exfs b hb, .inl hb, fun x c e => (I'.ok.exf b hb).2 x c e, fun p hp => absurd (show p ∈ ([] : List (Addr × Obj)) ++ [] from hp) (by simp)⟩
  have loop : codeAny (model X.prog X.w) X.A (.compLoop (.SetComp elt [⟨tg, iter, ifs, 0⟩] sc pos) 0 (.ref it) (.ref D) ce) (compPost (model X.prog X.w) X.A X.xe use Qf (.ref D) z3.heap.objs.size) z4 := by
    refine PpSet.compLoopS_any (fun n z => ∃ i H', Inv (X.blk z3 H3 sc ce fp) [] (wipe σ (own.map (·.2))) H' z ∧ tn i z.heap ∧ (∀ b ∈ fp, H' b = none) ∧ W i n H') ?_ m0 ⟨0, H3, I4, st4, nf, w0⟩
    rintro n z5 ⟨i, H5, I5, st5, n5, w5⟩
    rcases turn i n H5 w5 with ⟨stop, qq⟩ | ⟨go, Nx, hNx, step⟩
    · have td := T.done (X.blk z3 H3 sc ce fp) rfl rfl rfl hc i [] z5 _ H5 (fun _ _ => False) I5 (stat I5 n5) st5 stop
      refine thnF td fun r z6 ⟨hr, I6⟩ => ?_
      subst hr
      have I7 : Inv X pins σ H5 z6 := I3.call' (ch := fp) I6.os I6.base I6.hok I6.bare fun b hb => ⟨(f3 b hb).1.2.2.2.1, (f3 b hb).1.2.1, (f3 b hb).1.2.2.2.2.1, (f3 b hb).1.2.2.2.2.2⟩
      have nC : H5 z3.heap.objs.size = none := by
        have z : H5 ce.locals = none := I6.free
        rwa [cL] at z
      obtain ⟨m, hn, _⟩ := I6.loc
      have hn : z6.heap.Ns ce.locals m := hn
      rw [cL] at hn
      exact fin D z3.heap.objs.size z6 m H5 I7 qq hn (I3.fpOk (Nat.le_refl _) nC)
    · have ti := T.item (X.blk z3 H3 sc ce fp) rfl rfl rfl hc i [] z5 _ H5 (fun _ _ => False) I5 (stat I5 n5) st5 go
      refine thnF ti fun r z6 ⟨u, hr, h6⟩ => ?_
      subst hr
      refine thnF h6 fun _ z7 ⟨x, H7, I7, r7, y7, st7, n7⟩ => ?_
      have I7' := I7.pinned (stat I7 n7) (T.obj _ _ st7)
      refine thnF (pg.run _ z7 _ H7 x u _ I7' r7 (step x H7 y7)) fun _ z8 ⟨σ8, H8, I8, hw8, q8⟩ => ?_
      refine thnF (pt.run _ z8 σ8 H8 _ I8 q8) fun b z9 ⟨H9, I9, q9⟩ => ?_
      have back : ∀ {z : Shared} {H' : Hp}, Inv (X.blk z3 H3 sc ce fp) ([] ++ pinsAt fp z7.heap) σ8 H' z → Nx H' → ∃ m, m < n ∧ ∃ i H', Inv (X.blk z3 H3 sc ce fp) [] (wipe σ (own.map (·.2))) H' z ∧ tn i z.heap ∧ (∀ b ∈ fp, H' b = none) ∧ W i m H' := fun {z H'} I' nx => by
        obtain ⟨m', hm, w'⟩ := hNx H' nx
        have pin : ∀ b ∈ fp, ∀ o, z7.heap.get? b = some o → z.heap.get? b = some o ∧ H' b = none := fun b hb o e =>
          let y := I'.pin (b, o) (List.mem_append_right _ (List.mem_append_right _ (mem_pinsAt hb e)))
          ⟨y.1, y.2.1⟩
        have hl : (wipe σ (own.map (·.2))).length = σ8.length := by rw [← hw8, wipe_length]
        refine ⟨m', hm, i + 1, H', (I'.unpinned (pins := [])).weak hl (fun j v e => ?_), T.keep _ _ _ st7 fun b hb o e => (pin b hb o e).1, fun b hb => ?_, w'⟩
        · rw [← hw8] at e
          exact (wipe_some e).1
        · obtain ⟨o, e, _⟩ := T.obj _ _ st7 b hb
          exact (pin b hb o e).2
      cases b with
      | false =>
        simp only [Bool.false_eq_true, if_false] at q9 ⊢
        exact back I9 q9
      | true =>
        simp only [if_true] at q9 ⊢
        refine thnF (pe.run _ z9 σ8 H9 _ I9 q9) fun v z10 ⟨yv, H10, I10, r10, c, L0, ey, hD10, lim, nx⟩ => ?_
        subst ey
        exact addC_ok (X := X.blk z3 H3 sc ce fp) I10 r10 hD10 lim fun z11 I11 => back I11 nx
  exact PpSet.codeAny_compStart_set loop (T.self X.A 0 _ _ _ st4 loop)
theorem pe_scK {elt tg iter : Expr} {ifs : List Expr} {sc : Scope} {own : List (PySem.Str × Nat)} {pos : Pos} {wi : TI} {g : TG} {tt : TT} {te : TE} (hc : X.calm = true) (hN : X.N.Nodup) (hi : PI X tg iter wi) (bo : BlkOk X.N X.env.scope sc own)
    (hg : ∀ (z : Shared) (H' : Hp) (C : Addr) (cl : List (PySem.Str × Addr)) (fp : List Addr), PG (X.blk z H' sc (compEnvC sc cl C X.env) fp) tg g) (ht : ∀ (z : Shared) (H' : Hp) (C : Addr) (cl : List (PySem.Str × Addr)) (fp : List Addr), PTs (X.blk z H' sc (compEnvC sc cl C X.env) fp) ifs tt)
    (he : ∀ (z : Shared) (H' : Hp) (C : Addr) (cl : List (PySem.Str × Addr)) (fp : List Addr), PE (X.blk z H' sc (compEnvC sc cl C X.env) fp) elt te) (hs : ∀ x, foldedSetIterable iter X.env x = pure x := by intro _; rfl) :
    PE X (.SetComp elt [⟨tg, iter, ifs, 0⟩] sc pos) (tScK X.w wi g tt te (own.map (·.2))) := by
  refine ⟨fun pins s σ H Q I h => ?_⟩
  rw [PpSet.eval_SetComp]
  refine sck_core hc hN I hi bo hg ht he hs h fun D C z m H' I' q hn f => ⟨m, hn, fun h'' sb => ?_⟩
  obtain ⟨f0, f1, f2, f3, f4, f5⟩ := f
  exact ⟨.ref D, H', I'.turned (t' := z.toks) (fun b o hb e => (sb.2 b hb).trans e) f0 f1 f3 f4 f5, rfl, q⟩
def kOfV : Value → Key
  | .int i _ => .inl i
  | .str y _ => .inr y
  | _ => .inl 0
theorem keyC_eq (x : Int × Value) : keyC x = kOfV x.2 := by unfold keyC kOfV; cases x.2 <;> rfl
theorem kOfV_is {k : Key} {v : Value} (h : keyIs k v = true) : kOfV v = k := by
  rcases keyIs_shape h with ⟨i, t, rfl, rfl⟩ | ⟨y, t, rfl, rfl⟩ <;> rfl
end
section
variable {P : Program} {w : World} {A : Around} {E : Value → Shared → Prop} {s : Shared}
theorem key_ltOne {k l : Key} {v u : Value} {Q : Bool → Shared → Prop} (h : keyIs k v = true) (h' : keyIs l u = true) (hs : kKind k = kKind l) (q : Q (klt k l) s) : wpAny (model P w) A (oneLt' true v u) Q E s := by
  rcases keyIs_shape h with ⟨i, t, rfl, rfl⟩ | ⟨x, t, rfl, rfl⟩ <;> rcases keyIs_shape h' with ⟨j, t2, rfl, rfl⟩ | ⟨y, t2, rfl, rfl⟩
  · exact oneLt_int q
  · cases hs
  · cases hs
  · refine PyProof.Rows.oneLt_str ?_
    have q : Q (lex nlt x.cps.toList y.cps.toList) s := q
    rw [← lex_nat] at q
    exact q
abbrev vlt (v u : Value) : Bool := klt (kOfV v) (kOfV u)
/-- values of one kind -/
def OneK (b : Bool) (vs : List Value) : Prop := ∀ v ∈ vs, keyIs (kOfV v) v = true ∧ kKind (kOfV v) = b
theorem oneK_cmp {b : Bool} {vs : List Value} (h : OneK b vs) : Cmp P w A s oneType' (fun p => p.1 ∈ vs) (lt2 vlt) := by
  intro p q hm hm'
  show wpAny (model P w) A (keyLt' oneType' p.1 q.1) (fun r z => z = s ∧ r = vlt p.1 q.1) (fun _ _ => False) s
  rw [keyLt'_oneType]
  exact key_ltOne (h _ hm).1 (h _ hm').1 ((h _ hm).2.trans (h _ hm').2.symm) ⟨rfl, rfl⟩
theorem oneK_ints : ∀ {vs : List Value}, OneK true vs → ∃ ns, IntsAre vs ns
  | [], _ => ⟨[], .nil⟩
  | v :: vs, h => by
    obtain ⟨ns, r⟩ := oneK_ints fun u hu => h u (List.mem_cons_of_mem _ hu)
    obtain ⟨h1, h2⟩ := h v List.mem_cons_self
    rcases keyIs_shape h1 with ⟨i, t, _, rfl⟩ | ⟨x, t, _, rfl⟩
    · exact ⟨i :: ns, .cons i t r⟩
    · cases h2
theorem oneK_strs : ∀ {vs : List Value}, OneK false vs → ∃ ns, StrsAre vs ns
  | [], _ => ⟨[], .nil⟩
  | v :: vs, h => by
    obtain ⟨ns, r⟩ := oneK_strs fun u hu => h u (List.mem_cons_of_mem _ hu)
    obtain ⟨h1, h2⟩ := h v List.mem_cons_self
    rcases keyIs_shape h1 with ⟨i, t, _, rfl⟩ | ⟨x, t, _, rfl⟩
    · cases h2
    · exact ⟨x :: ns, .cons x t r⟩
theorem oneK_sortable {a : Addr} {b : Bool} {vs : List Value} (h : OneK b vs) (h2 : 2 ≤ vs.length) : SortableO P w A s a vs vlt := by
  intro h' _
  refine ⟨oneType', fun Q E hq => ?_, oneK_cmp h⟩
  match vs, h, h2 with
  | v1 :: v2 :: rest, h, _ =>
    cases b with
    | true =>
      obtain ⟨ns, r⟩ := oneK_ints h
      rw [keyKind_ints r]
      exact wpAny_pure hq
    | false =>
      obtain ⟨ns, r⟩ := oneK_strs h
      rw [keyKind_strs r]
      exact wpAny_pure hq
  | [], _, h => exact absurd h (by decide)
  | [v], _, h => exact absurd h (by simp)
theorem vals_keys : ∀ {vs : List Value}, (∀ v ∈ vs, keyIs (kOfV v) v = true) → Vals ((vs.map kOfV).map kV) vs
  | [], _ => .nil
  | v :: vs, h => by
    refine .cons ?_ (vals_keys fun u hu => h u (List.mem_cons_of_mem _ hu))
    rcases keyIs_shape (h v List.mem_cons_self) with ⟨i, t, e, rfl⟩ | ⟨x, t, e, rfl⟩
    · exact ⟨t, rfl⟩
    · exact ⟨t, rfl⟩
theorem keys_vals : ∀ {ks : List Key} {vs : List Value}, Vals (ks.map kV) vs → vs.map kOfV = ks ∧ ∀ v ∈ vs, keyIs (kOfV v) v = true
  | [], _, .nil => ⟨rfl, fun v hv => by cases hv⟩
  | k :: ks, _, .cons (b := v) r t => by
    obtain ⟨h1, h2⟩ := keys_vals t
    have h3 : keyIs k v = true := by
      cases k with
      | inl i => obtain ⟨t, rfl⟩ := r; exact keyIs_int i t
      | inr x => obtain ⟨t, rfl⟩ := r; exact keyIs_str x t
    refine ⟨by rw [List.map_cons, h1, kOfV_is h3], fun u hu => ?_⟩
    rcases List.mem_cons.mp hu with rfl | hu
    · rw [kOfV_is h3]; exact h3
    · exact h2 u hu
theorem sorted_setC {a : Addr} {L : List Key} {b : Bool} {Q : Value → Shared → Prop} (R : SetC w s.heap a L) (hh : A.handled = none) (hB : ∀ k ∈ L, kKind k = b)
    (hQ : ∀ z p (out : Array Value) (c : Nat), (∀ b o, s.heap.get? b = some o → z.heap.get? b = some o) → z.gens = s.gens → z.os = s.os → s.heap.objs.size ≤ p → z.heap.get? p = some (seqObj "list" out c) →
      (∀ v ∈ out.toList, keyIs (kOfV v) v = true) → (out.toList.map kOfV).Perm L → out.size < scanBound → (out.toList.map kOfV).Pairwise (fun x y => klt x y = true) → Q (.ref p) z) :
    wpAny (model P w) A (call (.builtin "sorted") [.ref a]) Q E s := by
  obtain ⟨o, es, ep, t, ho, hex, hd, g, nd, hm, hb, hf, hr, hl⟩ := R
  refine Calls.call_function_entry kind_sorted plain_sorted entry_sorted (args_sorted1 _) ?_
  unfold Builtin.«sorted»
  refine wpAny_bind (m := checkCount "sorted" 1 1 _) (wpAny_pure ?_)
  refine wpAny_bind (collect_set (A := A.in1) hh ⟨o, ho, hex.1, hd⟩ hf hb hr hl fun s1 vs k1 hz g1 o1 pm => ?_)
  have kp : (vs.map kOfV).Perm L := by
    refine ((pm.map kOfV).trans ?_).trans hm
    rw [List.map_map]
    exact .of_eq (List.map_congr_left fun x _ => (keyC_eq x).symm)
  have ki : ∀ v ∈ vs, keyIs (kOfV v) v = true := fun v hv => by
    obtain ⟨x, hx, rfl⟩ := List.mem_map.mp (pm.mem_iff.mp hv)
    rw [← keyC_eq]
    exact (goodC_key (g x hx)).1
  have vl : vs.length < scanBound := by rw [pm.length_eq, List.length_map, Array.length_toList]; exact hb
  have lim : vs.length ≤ sizeLine := by have : scanBound ≤ sizeLine := by decide
                                        omega
  have ok : OneK b vs := fun v hv => ⟨ki v hv, hB _ (kp.mem_iff.mp (List.mem_map.mpr ⟨v, hv, rfl⟩))⟩
  refine wpAny_bind (wpAny_newList ?_ lim)
  have hoL : (s1.heap.push (seqObj "list" vs.toArray 0)).get? s1.heap.objs.size = some (seqObj "list" vs.toArray 0) := Heap.get?_push_size _ rfl
  refine wpAny_bind (wpAny_holding (wpAny_call_entry (s := { s1 with heap := s1.heap.push (seqObj "list" vs.toArray 0) }) slot_list_sort ⟨_, hoL, rfl⟩ entry_list_sort (list_sort_ord (lin_key.comap kOfV) hoL lim (fun h2 => oneK_sortable ok h2) fun out a1 a2 => ⟨_, rfl, ?_⟩) (args_list_sort _)))
  obtain ⟨c, hc⟩ := sortedHeap_at (vs := vs) (out := out.toArray) hoL
  have p2 : (out.map kOfV).Perm L := (a2.perm.map kOfV).trans kp
  have pw : Srtd klt (out.map kOfV) := List.pairwise_map.mpr a1
  refine wpAny_pure ⟨_, rfl, hQ _ s1.heap.objs.size out.toArray c (fun b u e => ?_) g1 o1 hz hc (fun v hv => ki v (a2.perm.mem_iff.mp (by simpa using hv))) (by simpa using p2) (by rw [List.size_toArray, a2.perm.length_eq]; exact vl) ?_⟩
  · have q := k1 b u e
    have lt := Heap.lt_size q
    show (sortedHeap (s1.heap.push (seqObj "list" vs.toArray 0)) s1.heap.objs.size vs out.toArray).get? b = some u
    rw [sortedHeap_old (Nat.ne_of_lt lt) (by rw [size_push']; exact Nat.lt_succ_of_lt lt)]
    exact push_old q
  · simpa using strict_of lin_key pw (p2.nodup_iff.mpr nd)
end
section
variable {X : Cx}
/-- sorted(set of ints, of texts) -/
def rSrtC (w : World) : List V → Hp → VK → Prop := fun vs H Q => ∃ (a : Addr) (L : List Key) (b : Bool), vs = [V.ref a] ∧ H a = some (SetCO w a L) ∧ (∀ k ∈ L, kKind k = b) ∧
  ∀ (L' : List Key) (p : Addr), L'.Perm L → L'.Pairwise (fun x y => klt x y = true) → H p = none → Q (.ref p) (upd H p (.lst (L'.map kV)))
theorem cr_srtC (hc : X.calm = true) : CallR X (.builtin "sorted") (rSrtC X.w) := by
  intro pins s σ H vs us Q I r h
  obtain ⟨a, L, b, rfl, ha, hB, q⟩ := h
  have R : SetC X.w s.heap a L := (I.hok a _ ha).1
  rw [Vals.ref1 r]
  refine sorted_setC R (I.ok.hd hc) hB fun s' p out c k g o hp hg ki pm lt pw => ?_
  have hlen : ((out.toList.map kOfV).map kV).length ≤ sizeLine := by
    have : scanBound ≤ sizeLine := by decide
    rw [List.length_map, List.length_map, Array.length_toList]; omega
  have hn : H p = none := I.hok.fresh hp
  have J : Inv X pins σ (upd H p (.lst ((out.toList.map kOfV).map kV))) { s with heap := s'.heap, gens := s'.gens, drawn := s'.drawn, toks := s'.toks } :=
    I.call (ch := []) (Un.laid k hp hn) (I.hok.laid k hp ⟨hlen, out.toList, c, vals_keys ki, hg⟩) (by rw [g]; exact I.bare) (fun _ z => nomatch z)
  have e : s' = { s with heap := s'.heap, gens := s'.gens, drawn := s'.drawn, toks := s'.toks } := by
    cases s'
    cases s
    cases o
    rfl
  rw [e]
  exact ⟨.ref p, _, J, rfl, q _ p pm pw hn⟩
/-- sorted(list of ints, of texts) -/
def rSrtS (K : PySem.W.Frag) : List V → Hp → VK → Prop := fun vs H Q => ∃ (a : Addr) (L : List Key) (b : Bool), vs = [V.ref a] ∧ SqL K H a (L.map kV) ∧ (∀ k ∈ L, kKind k = b) ∧
  ∀ (L' : List Key) (p : Addr), L'.Perm L → L'.Pairwise (fun x y => klt y x = false) → H p = none → Q (.ref p) (upd H p (.lst (L'.map kV)))
theorem cr_srtS : CallR X (.builtin "sorted") (rSrtS X.K) := by
  intro pins s σ H vs us Q I r h
  obtain ⟨a, L, b, rfl, hs, hB, q⟩ := h
  obtain ⟨its, rv, hl, hz⟩ := I.list hs
  rw [Vals.ref1 r]
  obtain ⟨ek, ki⟩ := keys_vals rv
  have ok : OneK b its := fun v hv => ⟨ki v hv, hB _ (by rw [← ek]; exact List.mem_map.mpr ⟨v, hv, rfl⟩)⟩
  refine SrtO.sorted_ord (lin_key.comap kOfV) hl.isList (by rw [← rv.length]; exact hz) (fun h2 h₁ a' _ _ => oneK_sortable ok h2) fun out h1 h2 => ?_
  have p2 : (out.map kOfV).Perm L := by
    have z := h2.perm.map kOfV
    rwa [ek] at z
  obtain ⟨ep, he'⟩ := PyProof.Rows.sortedAll_at s.heap its out.toArray
  have hlen : ((out.map kOfV).map kV).length ≤ sizeLine := by
    rw [List.length_map, p2.length_eq]
    rw [List.length_map] at hz
    exact hz
  exact ⟨.ref _, upd H (s.heap.objs.size + 1) (.lst ((out.map kOfV).map kV)), I.laid (t' := s.toks) (fun _ _ => PyProof.Rows.sortedAll_old) (Nat.le_succ _) ⟨hlen, out, ep, vals_keys fun v hv => ki v (h2.perm.mem_iff.mp hv), he'⟩, rfl, q _ _ p2 (List.pairwise_map.mpr h1) (I.hok.fresh (Nat.le_succ _))⟩
/-- sorted(..) of any of these -/
def uSorted (K : PySem.W.Frag) (P : Program) (w : World) : List V → Hp → VK → Prop := fun vs H Q => rSrtM K P w vs H Q ∨ rSrtL K vs H Q ∨ rSrtC w vs H Q ∨ rSrtS K vs H Q
theorem cr_uSorted (hc : X.calm = true) : CallR X (.builtin "sorted") (uSorted X.K X.prog X.w) := CallR.or (cr_srtM hc) (CallR.or cr_srtL (CallR.or (cr_srtC hc) cr_srtS))
end
end L2.XS
namespace L2.XS
open PySem PySem.Spec PyProof.Rows L2 Builtin
/-- the digits of n, base 2 -/
def bin (n : Nat) : List Nat := (Nat.toDigits 2 n).map Char.toNat
def fldB (neg : Bool) (ds : List Nat) : Str :=
  ⟨(List.replicate ((-1 : Int) - (((if neg = true then [45] else []) : List Nat).length + ([] : List Nat).length + ([] : List Nat).length) - (if ds.isEmpty = true then [] else List.replicate ((0 : Int).toNat - ds.length) 48 ++ ds : List Nat).length).toNat 32 ++
    (if neg = true then [45] else []) ++ [] ++ List.replicate 0 32 ++ (if ds.isEmpty = true then [] else List.replicate ((0 : Int).toNat - ds.length) 48 ++ ds) ++ [] ++ List.replicate 0 32).toArray⟩
theorem fldB_nn (ds : List Nat) : fldB false ds = ⟨ds.toArray⟩ := by
  unfold fldB
  cases ds with
  | nil => simp
  | cons d ds =>
    have e : ((-1 : Int) - ((([] : List Nat).length : Int) + ([] : List Nat).length + ([] : List Nat).length) - ((d :: ds).length : Nat)).toNat = 0 := by simp; omega
    simp
    omega
theorem gives_bin (n : Nat) (t u : Tok) : Gives («int.__format__» ⟨[.int (n : Int) t, .str "b" u], []⟩) (.str ⟨(bin n).toArray⟩) := by
  have e : «int.__format__» ⟨[.int (n : Int) t, .str "b" u], []⟩ = (do
      let _ ← typeNameOf (.str "b" u)
      let _ ← typeNameOfCut 200 (.int (n : Int) t)
      retStr (fldB (decide ((n : Int) < 0)) ((Nat.toDigits 2 (n : Int).natAbs).map fun c => (if (98 == 88) = true then c.toUpper else c).toNat))) := by rfl
  rw [e]
  have e2 : fldB (decide ((n : Int) < 0)) ((Nat.toDigits 2 (n : Int).natAbs).map fun c => (if (98 == 88) = true then c.toUpper else c).toNat) = ⟨(bin n).toArray⟩ := by
    have h1 : decide ((n : Int) < 0) = false := decide_eq_false (by omega)
    rw [h1, fldB_nn, Int.natAbs_natCast]
    rfl
  rw [e2]
  refine Gives.of_wp fun M A E s Q hq => ?_
  refine wpAny_bind (wpAny_typeNameOf (T := "str") rfl (by decide) fun _ => ?_)
  refine wpAny_bind ?_
  unfold typeNameOfCut shownTypeOf
  refine wpAny_bind (wpAny_bind (wpAny_typeOf (T := "int") rfl ?_))
  rw [show (Value.type "int" == Value.type "builtin_function_or_method") = false by decide]
  simp only [Bool.false_eq_true, if_false]
  refine wpAny_pure ?_
  first
    | exact wpAny_pure (wpAny_bind (wpAny_mkStr (wpAny_pure ⟨_, rfl, hq.2⟩) hq.1))
    | (unfold typeNameCut; exact wpAny_pure (wpAny_bind (wpAny_mkStr (wpAny_pure ⟨_, rfl, hq.2⟩) hq.1)))
section
variable {X : Cx}
/-- {n:b} -/
def tFmtB (te : TE) : TE := fun σ H Q => te σ H fun x H1 => ∃ n : Nat, x = .int (n : Int) ∧ (bin n).length ≤ sizeLine ∧ Q (.str ⟨(bin n).toArray⟩) H1
theorem pe_fmtB {e : Expr} {te : TE} {pos p2 p3 : Pos} {j : Nat} (he : PE X e te) : PE X (.FormattedValue e (-1) (some (.JoinedStr [.Constant (.str "b") j p2] p3)) pos) (tFmtB te) := by
  refine ⟨fun pins s σ H Q I h => ?_⟩
  refine wpAny_FormattedValue_spec (thn (he.run pins s σ H _ I h) fun v s1 hv => ?_)
  obtain ⟨x, H1, I1, r1, n, rfl, hz, q⟩ := hv
  obtain ⟨t, rfl⟩ := r1
  refine thn ((pe_joined1 (pe_str (X := X))).run pins s1 σ H1 (fun y H2 => y = .str "b" ∧ H2 = H1) I1 ⟨rfl, rfl⟩) fun r s2 hr => ?_
  obtain ⟨y, H2, I2, r2, rfl, rfl⟩ := hr
  obtain ⟨t2, rfl⟩ := r2
  refine ⟨_, t2, rfl, wpAny_formatField_spec (by decide) (fun s' => typeIs_int s' _ t) F.slot_int_format F.entry_int_format F.args_int_format_2 (fun u => gives_bin n t u) ?_ (by decide) hz⟩
  exact ⟨.str _, H2, I2.tok _, ⟨_, rfl⟩, q⟩
end
end L2.XS
namespace L2.XS
open PySem PySem.Spec PyProof.Rows L2 Builtin.Str
def ItE (x : Str) : It := ⟨fun i _ => i < x.cps.size, fun i H v H' => ∃ T c, v = .ref T ∧ H T = none ∧ x.cps[i]? = some c ∧ H' = upd H T (.tup [.int (i : Nat), .str ⟨#[c]⟩]), fun i _ => x.cps.size ≤ i⟩
theorem turn_enumT {P : Program} {w : World} {K : PySem.W.Frag} {elts : List Expr} {kk : Nat} {tpos : Pos} (x : Str) (t : Tok) (e it : Addr) :
    Turn P w K (.Tuple elts kk tpos) (ItE x) [e, it] e (fun i h => i ≤ x.cps.size ∧ (∃ old, IsEnum h e it ((i : Nat) : Int) old) ∧ h.IsStrIter it (strIterType x) x t i ∧ e ≠ it) where
  mem := by simp
  obj := fun i h st b hb => by
    obtain ⟨_, ⟨old, he⟩, ⟨o, ho, hc, hd⟩, _⟩ := st
    rcases (show b = e ∨ b = it by simpa using hb) with z | z
    · rw [z]; exact ⟨_, he, fun v q => nomatch q⟩
    · rw [z]; exact ⟨o, ho, fun v q => by rw [hd] at q; cases q⟩
  keep := fun i h h' st k => by
    obtain ⟨hi, ⟨old, he⟩, ⟨o, ho, r⟩, hne⟩ := st
    exact ⟨hi, ⟨old, k e (by simp) _ he⟩, ⟨o, k it (by simp) o ho, r⟩, hne⟩
  item := by
    intro X hP hw hK hc i pins s σ H E I hf st hg
    subst hP hw hK
    obtain ⟨hi, ⟨old, he⟩, hit, hne⟩ := st
    have hg : i < x.cps.size := hg
    have el : e < s.heap.objs.size := Heap.lt_size he
    have il : it < s.heap.objs.size := by obtain ⟨_, q, _⟩ := hit; exact Heap.lt_size q
    refine wpAny_pyNext_enum_itemD (A := X.A) (St := fun i h => h.IsStrIter it (strIterType x) x t i) (Draws.text (A := X.A.in1) (show X.A.in1.handled = none from I.ok.hd hc) it x t) he hit hg hne (by simpa using hne) fun u h' tk hu ho hit' hT hsz hk => ?_
    obtain ⟨c, u0, hcx, rfl⟩ := hu
    refine ⟨_, rfl, wpAny_letOwnedTupleGo_enum (s := { s with heap := h', toks := tk + 1 }) ho fun h2 he2 sb => ?_⟩
    have hT2 := (sb.2 _ (Nat.ne_of_gt el)).trans hT
    have new : ObjOk X.prog X.w (upd H s.heap.objs.size (.tup [.int (i : Nat), .str ⟨#[c]⟩])) h2 s.heap.objs.size (.tup [.int (i : Nat), .str ⟨#[c]⟩]) :=
      ⟨by show 2 ≤ sizeLine; decide, [.int i tk, .str ⟨#[c]⟩ u0], .cons ⟨_, rfl⟩ (.cons ⟨_, rfl⟩ .nil), ⟨_, hT2, rfl, _, rfl⟩⟩
    have J : Inv X pins σ (upd H s.heap.objs.size (.tup [.int (i : Nat), .str ⟨#[c]⟩])) { s with heap := h2, toks := tk + 1 } :=
      I.turnedNew (ch := [e, it]) (fun b ob hb q => (sb.2 b (fun z => hb (by simp [z]))).trans (hk b ob (fun z => hb (by simp [z])) (fun z => hb (by simp [z])) q)) hf (Nat.le_refl _) new
    refine ⟨.ref s.heap.objs.size, _, J, rfl, ⟨_, c, rfl, I.hok.fresh (Nat.le_refl _), hcx, rfl⟩, ⟨hg, ⟨.str ⟨#[c]⟩ u0, ?_⟩, ?_, hne⟩, fun b hb => ?_⟩
    · have e1 : ((i + 1 : Nat) : Int) = (i : Int) + 1 := by omega
      rw [e1]; exact he2
    · obtain ⟨o, q, r⟩ := hit'
      exact ⟨o, (sb.2 it (Ne.symm hne)).trans q, r⟩
    · have lt : b < s.heap.objs.size := by
        rcases (show b = e ∨ b = it by simpa using hb) with z | z
        · rw [z]; exact el
        · rw [z]; exact il
      rw [upd_ne (Nat.ne_of_lt lt)]
      exact (hf b hb).1
  done := by
    intro X hP hw hK hc i pins s σ H E I hf st hg
    subst hP hw hK
    obtain ⟨hi, ⟨old, he⟩, hit, hne⟩ := st
    obtain rfl : i = x.cps.size := Nat.le_antisymm hi hg
    obtain ⟨f0, f1, f2, f3, f4, f5⟩ := hf it (by simp)
    exact wpAny_pyNext_enum_endD (A := X.A) (St := fun i h => h.IsStrIter it (strIterType x) x t i) (Draws.text (A := X.A.in1) (show X.A.in1.handled = none from I.ok.hd hc) it x t) he hit fun h' eb => ⟨rfl, I.turned (t' := s.toks) (fun b o hb q => eb b o hb q) f0 f1 f3 f4 f5⟩
  self := fun A i s Q E st h => let ⟨_, ⟨_, he⟩, _⟩ := st; wpAny_pyIter_enum he h
def iEnumT (ta : TA) : TI := fun σ H R => ta σ H fun vs H1 => ∃ x, vs = [.str x] ∧ R (ItE x) H1
theorem pi_enumT {X : Cx} {e : Expr} {ta : TA} {p pos tpos : Pos} {elts : List Expr} {kk : Nat} (hg : Gl X "enumerate") (hm : X.mg "enumerate" = none) (ha : PA X [e] ta) (hs : starEach [e] X.env = [(false, eval e X.env)] := by rfl) :
    PI X (.Tuple elts kk tpos) (.Call (.Name "enumerate" p) [e] [] pos) (iEnumT ta) := by
  refine ⟨fun pins s σ H R I h => ?_⟩
  refine Call_ (ld_blt I hg hm boot_enumerate (PyProof.Rows.callWith_type1 (thn (ha.run pos pins s σ H _ I h) fun us z ⟨vs, H1, I1, r1, q1⟩ => ?_) hs rfl))
  obtain ⟨x, ex, q⟩ := q1
  subst ex
  cases r1 with
  | cons r rr =>
    cases rr
    obtain ⟨t, rfl⟩ := r
    refine call_enumerate_str fun h' he hit hsz hk => wpAny_pyIter_enum he ?_
    have I2 : Inv X pins σ H1 { z with heap := h' } := I1.kept (t' := z.toks) hk
    refine ⟨z.heap.objs.size + 1, [z.heap.objs.size + 1, z.heap.objs.size], _, _, H1, rfl, I2, turn_enumT x t (z.heap.objs.size + 1) z.heap.objs.size, ⟨Nat.zero_le _, ⟨.none, he⟩, hit, Nat.succ_ne_self _⟩, fun b hb => ?_, q⟩
    have le : z.heap.objs.size ≤ b := by
      rcases (show b = z.heap.objs.size + 1 ∨ b = z.heap.objs.size by simpa using hb) with y | y
      · rw [y]; exact Nat.le_add_right _ _
      · rw [y]; exact Nat.le_refl _
    exact I1.fpOk le (I1.hok.fresh le)
def tRevS (te : TE) : TE := fun σ H Q => te σ H fun v H1 => ∃ x, v = .str x ∧ x.length ≤ sizeLine ∧ Q (.str ⟨x.cps.toList.reverse.toArray⟩) H1
theorem pick_rev (x : Str) : (strSliceIndices none none (-1) x.length).filterMap (x.cps[·]?) = x.cps.toList.reverse := by
  have e : strSliceIndices none none (-1) x.length = sliceRange ((x.length : Int) - 1) (-1) (-1) := rfl
  rw [e, PySem.W.krv_sliceRange, PySem.W.krv_range, List.filterMap_reverse]
  exact congrArg _ (PySem.W.krv_all x.cps)
theorem pe_revS {X : Cx} {e : Expr} {te : TE} {k : Nat} {p1 p2 p3 pos : Pos} (he : PE X e te) : PE X (.Subscript e (.Slice none none (some (.UnaryOp .USub (.Constant (.int 1) k p1) p2)) p3) pos) (tRevS te) := by
  refine ⟨fun pins s σ H Q I h => ?_⟩
  refine Subscript_ (thn (he.run pins s σ H _ I h) fun v z1 ⟨y, H1, I1, r1, q1⟩ => ?_)
  obtain ⟨x, rfl, hz, q⟩ := q1
  obtain ⟨t, rfl⟩ := r1
  have hst : PO X (some (.UnaryOp .USub (.Constant (.int 1) k p1) p2)) (tPart (tUn (rU fun i => .int (-i)) (tC (.int 1)))) := po_some (pe_un un_neg pe_int)
  refine wpAny_Slice (thn (po_none.run pins z1 σ H1 (fun o H2 => o = none ∧ H2 = H1) I1 ⟨rfl, rfl⟩) fun vl z2 ⟨l, H2, I2, pl, el, e2⟩ => ?_)
  subst el e2
  refine thn (po_none.run pins z2 σ H2 (fun o H3 => o = none ∧ H3 = H2) I2 ⟨rfl, rfl⟩) fun vu z3 ⟨u, H3, I3, pu, eu, e3⟩ => ?_
  subst eu e3
  refine thn (hst.run pins z3 σ H3 (fun o H4 => o = some (-1) ∧ H4 = H3) I3 ⟨1, rfl, -1, rfl, rfl, rfl⟩) fun vs z4 ⟨o, H4, I4, ps, eo, e4⟩ => ?_
  subst eo e4
  have I5 : Inv X pins σ H4 { z4 with heap := z4.heap.push { cls := .type "slice", data := .fields #[vl, vu, vs] } } := I4.kept (t' := z4.toks) fun b ob q => Heap.get?_push_of_some _ q
  obtain ⟨l, rfl, el⟩ := IsPart.raw pl
  obtain ⟨u, rfl, eu⟩ := IsPart.raw pu
  obtain ⟨st, rfl, es⟩ := IsPart.raw ps
  have el : l = none := by cases l with | none => rfl | some q => cases el
  have eu : u = none := by cases u with | none => rfl | some q => cases eu
  subst el eu
  cases st with
  | none => cases es
  | some qq =>
    obtain ⟨i, t2⟩ := qq
    obtain rfl : i = -1 := Option.some.inj es
    show wpAny (model X.prog X.w) X.A (subscriptTail e (.Slice none none (some (.UnaryOp .USub (.Constant (.int 1) k p1) p2)) p3) (.str x t) (.ref z4.heap.objs.size)) (EP X pins σ Q) X.xe { z4 with heap := z4.heap.push { cls := .type "slice", data := .fields #[partValue none, partValue none, partValue (some (-1, t2))] } }
    refine tail_any (ops := [.str x t, .ref z4.heap.objs.size]) (T := "str") rfl F.slot_str_getitem.lookup ?_ (by with_unfolding_all rfl)
    refine wpAny_getItem_str_slice (l := none) (u := none) (st := some (-1, t2)) ⟨_, Heap.get?_push_size _ rfl, rfl, rfl⟩ (by rfl) ?_
    have e2 : sliceMade x t none none (some (-1, t2)) = .str ⟨x.cps.toList.reverse.toArray⟩ := by
      unfold sliceMade slicePicked
      show (if ((-1 : Int) == 1 && _) = true then _ else _) = _
      rw [if_neg (by simp)]
      show Made.str ⟨((strSliceIndices none none (-1) x.length).filterMap (x.cps[·]?)).toArray⟩ = _
      rw [pick_rev]
    rw [e2]
    refine ⟨?_, .str _, H4, I5.tok _, ⟨_, rfl⟩, q⟩
    show (x.cps.toList.reverse.toArray).size ≤ sizeLine
    rw [List.size_toArray, List.length_reverse]
    exact hz
end L2.XS
namespace L2.XS
open PySem PySem.Spec PyProof.Rows L2
section
variable {X : Cx} {pins : List (Addr × Obj)} {σ : L2.St} {H : Hp} {s : Shared} {a b : Addr} {r : Value} {d : V} {k : List Key} {A : Around} {E : Value → Shared → Prop}
theorem setdT {kvs : List (List Key × V)} {Q : Value → Shared → Prop} (hu : A.units + 1 < cLine) (I : Inv X pins σ H s) (e : H a = some (.dT kvs)) (eb : H b = some (.tup (k.map kV))) (rd : RelV d r) (hl : kvs.length < sizeLine)
    (h1 : ∀ v, valV kvs k = some v → ∀ (w' : Value) (z : Shared), Inv X pins σ H z → RelV v w' → Q w' z) (h2 : valV kvs k = none → ∀ z : Shared, Inv X pins σ (upd H a (.dT (putK kvs k d))) z → Q r z) :
    wpAny (model X.prog X.w) A (call (.builtin "dict.setdefault") [.ref a, .ref b, r]) Q E s := by
  obtain ⟨z, hd, xs, rel, dd⟩ := dt_of I.hok e
  have hz : xs.length ≤ sizeLine := by rw [← rel.length]; exact z
  have q := rel.val k
  refine call_setdefault_heap (tupleKind_room_in1 hu) (key_of I.hok eb) hd dd (fun p hp => ?_) (fun hn h' dd' hs => ?_) hz
  · rw [hp] at q
    cases q0 : valV kvs k with
    | none => rw [q0] at q; exact (show False from q).elim
    | some v0 => rw [q0] at q; exact h1 v0 q0 _ _ (I.tok _) q
  · rw [hn] at q
    cases q0 : valV kvs k with
    | some v0 => rw [q0] at q; exact (show False from q).elim
    | none =>
      have l2 : (putK kvs k d).length ≤ sizeLine := by
        have := length_putK kvs k d
        omega
      obtain ⟨o, es, ep, ho, p2, p3, p4, _, p5⟩ := dd'
      refine h2 q0 _ (d_write (t' := _) I (by rw [e]; exact True.intro) hs ⟨o, ho⟩ ⟨l2, hd, _, (rel.put k eb rd).keeps fun c ys ec => ?_, o, es, ep, ho, p2, p3, p4, p5⟩)
      rw [upd_ne (ne_of ec e (fun z => nomatch z))]
      exact ec
end
/-- d.setdefault(y, z), y a tuple -/
def tDSetdT (td ty tx : TE) : TE := fun σ H Q => td σ H fun x H1 => ∃ a, x = .ref a ∧ IsD H1 a ∧ ty σ H1 fun y H2 => tx σ H2 fun z H3 => ∃ (kvs : List (List Key × V)) (k : List Key) (b : Addr), H3 a = some (.dT kvs) ∧ y = .ref b ∧ H3 b = some (.tup (k.map kV)) ∧ kvs.length < sizeLine ∧
  (∀ v, valV kvs k = some v → Q v H3) ∧ (valV kvs k = none → Q z (upd H3 a (.dT (putK kvs k z))))
section
variable {X : Cx} {o e f : Expr} {td ty tx : TE} {apos cpos : Pos}
theorem pe_dsetdT (hu : X.A.units + 1 < cLine) (ho : PE X o td) (he : PE X e ty) (hf : PE X f tx) (m : M2 X o "setdefault" apos e f cpos) : PE X (.Call (.Attribute o "setdefault" apos) [e, f] [] cpos) (tDSetdT td ty tx) := by
  refine ⟨fun pins s σ H Q I h => ?_⟩
  refine wpAny_Call_method m.base m.few m.line PySem.F.plainAttrs_dict PySem.F.slot_dict_setdefault PySem.F.type_dict_setdefault (thn (ho.run pins s σ H _ I h) fun u z1 ⟨x, H1, I1, rx, a, ex, d, q1⟩ => ?_)
  subst ex
  obtain rfl : u = Value.ref a := rx
  obtain ⟨t1, t2, _⟩ := isD_at I1 d
  refine ⟨t1, t2, ?_⟩
  rw [m.trees]
  refine Calls.callWith_builtin rfl (Calls.evalArgs_plain (Calls.spliced_cons (thn (he.run pins z1 σ H1 _ I1 q1) fun iv z2 ⟨y, H2, I2, ry, q2⟩ =>
    Calls.spliced_cons (thn (hf.run pins z2 σ H2 _ I2 q2) fun fv z3 ⟨z, H3, I3, rz, kvs, k, b, ea, ey, eb, hl, q3, q4⟩ => Calls.spliced_nil ?_))))
  subst ey
  obtain rfl : iv = Value.ref b := ry
  exact setdT hu I3 ea eb rz hl (fun v hv w' z4 I4 rw' => ⟨v, _, I4, rw', q3 v hv⟩) fun hn z4 I4 => ⟨z, _, I4, rz, q4 hn⟩
end
end L2.XS
namespace L2.XS
open PySem PySem.Spec PyProof.Rows L2 GenW
section
variable {X : Cx} {test : Expr} {a b : List Stmt} {pos : Pos}
def tGIf (c : TT) (t u : TGn) : TGn := fun D ys σ H => c σ H fun d H1 => if d = true then t D ys σ H1 else u D ys σ H1
theorem gs_if {tc : TT} {t u : TGn} (hc : PT X test tc) (ha : GSs X a t) (hb : GSs X b u) : GS X (.If test a b pos) (tGIf tc t u) := by
  refine ⟨fun A S ip R n ys s₀ c fs K J gd lv s σ H D g hn k hI ht => ?_⟩
  obtain ⟨acc, cc, r, I⟩ := hI
  rw [exec_If]
  refine seg_bind_wrap (wpAny_standAt ?_)
  refine seg_bind_wrap ?_
  rw [g.over]
  refine wpAny_mono (hc.run _ s σ H _ I ht) (fun d z hz => ?_) fun x z hx => k.exc n s₀ x z hx
  obtain ⟨H1, I1, q⟩ := hz
  cases d with
  | true =>
    simp only [if_true] at q ⊢
    exact ha.run A S ip R n ys s₀ c fs K J gd lv z σ H1 D g hn k ⟨acc, cc, r, I1⟩ q
  | false =>
    simp only [Bool.false_eq_true, if_false] at q ⊢
    exact hb.run A S ip R n ys s₀ c fs K J gd lv z σ H1 D g hn k ⟨acc, cc, r, I1⟩ q
variable {k n : Nat} {f : Addr} {fd : FuncData} {ps ks : List Str} {sp : SpG} {x : Str} {p pos' : Pos} {g : List Value → List Value → List Value} {gV : List V → List V → List V}
theorem run_gfnK {pins : List (Addr × Obj)} {σ : L2.St} {H : Hp} {s : Shared} {us ws : List Value} {vs zs : List V} {cont : List V → Hp → Prop} {E : XK} {E1 : Value → Shared → Prop} (F : GFn X.prog X.w X.K X.mg X.base k f fd ps sp) (hr : Room k X.A) (hb : KBn X.K fd ps n ks g gV)
    (I : Inv X pins σ H s) (r : Vals vs us) (rz : Vals zs ws) (l1 : vs.length = n) (l2 : zs.length = ks.length) (h : sp (gV vs zs) H cont E) :
    wpAny (model X.prog X.w) X.A (call (.ref f) us (ks.zip ws)) (fun u s' => ∃ H1 sc ex, Inv X pins σ H1 sc ∧ ExOk X pins ex ∧ GMade X.prog X.w k X.stack H1 sc ex cont E u s') E1 s := by
  have r2 := hb.rel r rz
  refine wpAny_call (codeAny_mono (F.run X.A X.stack s H ⟨us, ks.zip ws⟩ (g us ws) (gV vs zs) cont E hr I.env0 (hb.to s us ws I.kIn (r.length.symm.trans l1) (rz.length.symm.trans l2)) r2 h) fun r s' hq => ?_)
  cases r with
  | error e => exact False.elim hq
  | ok fl =>
    cases fl with
    | ret u => exact ⟨H, s, [], I, .nil, hq⟩
    | next => exact False.elim hq
    | brk => exact False.elim hq
    | cont => exact False.elim hq
def tCallGK (n m : Nat) (sp : SpG) (gV : List V → List V → List V) (E : XK) (t tk : TA) : TGen := fun σ H cont => t σ H fun vs H1 => tk σ H1 fun zs H2 => vs.length = n ∧ zs.length = m ∧ sp (gV vs zs) H2 cont E
theorem pgen_callK {E : XK} {e : Expr} {es : List Expr} {kws : List Keyword} {t tk : TA} (F : GFn X.prog X.w X.K X.mg X.base k f fd ps sp) (hr : Room k X.A) (hg : Gl X x) (hm : X.mg x = some (.ref f)) (hk : PySem.W.keepIn X.K (.ref f) = true) (hb : KBn X.K fd ps n ks g gV)
    (ha : PA X (e :: es) t) (hkw : PK X kws tk) (hall : (backToKw pos' (keywordEach kws X.env)).all (·.1.isSome) = true := by rfl) (hks : (backToKw pos' (keywordEach kws X.env)).filterMap (·.1) = ks := by rfl)
    (hdb : (x == ("__debug__" : Str)) = false := by decide) (he : starEach (e :: es) X.env = (false, eval e X.env) :: starEach es X.env := by rfl)
    (hpl : ((backTo pos' (starEach (e :: es) X.env)).any (·.1) || (backToKw pos' (keywordEach kws X.env)).any (·.1.isNone)) = false := by rfl) :
    PGen X k (.Call (.Name x p) (e :: es) kws pos') (tCallGK n ks.length sp gV E t tk) E := by
  refine ⟨fun pins s σ H cont I h => ?_⟩
  refine wpAny_Call_Name_kw (ld_glob I hg hm ?_ hdb)
  refine PySem.W.callWith_KW (h₀ := X.base) I.ok.mod.kin hk hall (thn (ha.run pos' pins s σ H _ I h) fun us s1 ⟨vs, H1, I1, r, q⟩ => ?_) hpl he
  refine thn (hkw.run pos' pins s1 σ H1 _ I1 q) fun ws s2 ⟨zs, H2, I2, rz, l1, l2, q2⟩ => ⟨I2.kIn, ?_⟩
  rw [hks]
  exact run_gfnK F hr hb I2 r rz l1 l2 q2
end
end L2.XS
namespace L2.XS
open PySem PySem.Spec PyProof.Rows L2
section
variable {X : Cx}
theorem sw_dict {kx vx : Expr} {gs : List Comprehension} {sc : Scope} {pos py : Pos} {y : Str} {l : Nat} {env : Env} (hk : env.scope.kind = .function) (hy : env.scope.names.lookup y = some .local) (hl : (py.line == pos.line) = true)
    (ha : (sc.names.any fun (n, k) => n == y && (k == .local || k == .cell)) = false) : swapsWith (.DictComp kx vx gs sc pos) (some (.Name y py)) l env = pure true := by
  have h1 : env.kindOf y = some .local := hy
  have h2 : env.blockKind = .function := by unfold Env.blockKind; rw [hk]; rfl
  unfold swapsWith
  simp only [h2, h1, ha, Expr.pos, hl]
  rfl
theorem ps_setDc {i : Nat} {y : Str} {py : Pos} {kx vx tg iter : Expr} {ifs : List Expr} {sc : Scope} {own : List (Str × Nat)} {pos spos : Pos} {wi : TI} {g : TG} {tt : TT} {tk tv : TE} (hc : X.calm = true) (hN : X.N.Nodup) (hy : X.N[i]? = some y) (hyl : X.env.scope.names.lookup y = some .local)
    (hsw : swapsWith (.DictComp kx vx [⟨tg, iter, ifs, 0⟩] sc pos) (some (.Name y py)) spos.line X.env = pure true) (hi : PI X tg iter wi) (bo : BlkOk X.N X.env.scope sc own)
    (hg : ∀ (z : Shared) (H' : Hp) (C : Addr) (cl : List (Str × Addr)) (fp : List Addr), PG (X.blk z H' sc (compEnvC sc cl C X.env) fp) tg g) (ht : ∀ (z : Shared) (H' : Hp) (C : Addr) (cl : List (Str × Addr)) (fp : List Addr), PTs (X.blk z H' sc (compEnvC sc cl C X.env) fp) ifs tt)
    (hk : ∀ (z : Shared) (H' : Hp) (C : Addr) (cl : List (Str × Addr)) (fp : List Addr), PE (X.blk z H' sc (compEnvC sc cl C X.env) fp) kx tk)
    (he : ∀ (z : Shared) (H' : Hp) (C : Addr) (cl : List (Str × Addr)) (fp : List Addr), PE (X.blk z H' sc (compEnvC sc cl C X.env) fp) vx tv) (hs : ∀ x, foldedSetIterable iter X.env x = pure x := by intro _; rfl) :
    PS X (.Assign [.Name y py] (.DictComp kx vx [⟨tg, iter, ifs, 0⟩] sc pos) spos) (tAsg (tDc wi g tt tk tv (own.map (·.2))) (gName i)) := by
  refine ⟨fun pins s σ H D I h => ?_⟩
  rw [exec_Assign_Name_used _ _ _ _ hsw]
  refine wpAny_bind (wpAny_standAt (wpAny_bind ?_))
  show wpAny _ X.A (do let _ ← comprehension (.DictComp kx vx [⟨tg, iter, ifs, 0⟩] sc pos) sc X.env (firstIterPos [⟨tg, iter, ifs, 0⟩] pos) newDict false (eval iter X.env) (some (assign (.Name y py) X.env))) _ _ s
  have h : tDc wi g tt tk tv (own.map (·.2)) σ H (fun x H1 => gName i x σ H1 D.nx) := h
  refine wpAny_bind (thn (dc_core (Qf := fun _ z => SP X pins D .next z) hc hN I hi bo hg ht hk he hs h fun L C z m H' I' q hn f => ?_) fun _ z hq => wpAny_pure (wpAny_pure hq))
  show wpAny _ _ (assign (.Name y py) X.env (.ref L)) _ _ _
  refine wpAny_assign_Name (store_ok2 (v := V.ref L) I' hN hy (.inl hyl) rfl (fun z2 I2 ⟨a, sb, ha⟩ => ?_) (.inr hyl))
  obtain ⟨f0, f1, f2, f3, f4, f5⟩ := f
  have ne : C ≠ a := by
    rcases ha with z | z
    · rw [z]; exact f1
    · exact fun e => f4 y a z e.symm
  refine ⟨m, hn.sameBut sb ne, fun h3 sb3 => ?_⟩
  exact ⟨_, H', I2.turned (t' := z2.toks) (fun b o hb e => (sb3.2 b hb).trans e) f0 f1 f3 f4 f5, q⟩
end
end L2.XS
namespace L2.XB
open L2.XS
/-- the bits of m, ascending -/
def bitsOf (m : Nat) : List Nat := (List.range m).filter m.testBit
theorem mem_bits {m i : Nat} : i ∈ bitsOf m ↔ m.testBit i = true := by
  unfold bitsOf
  rw [List.mem_filter, List.mem_range]
  refine ⟨fun h => h.2, fun h => ⟨?_, h⟩⟩
  have h1 : 2 ^ i ≤ m := Nat.ge_two_pow_of_testBit h
  exact Nat.lt_of_lt_of_le Nat.lt_two_pow_self h1
theorem range_asc (n : Nat) : (List.range n).Pairwise fun x y => nlt x y = true := by
  have h : (List.range n).Pairwise (· < ·) := List.pairwise_lt_range
  exact h.imp fun h => decide_eq_true h
theorem bits_asc (m : Nat) : (bitsOf m).Pairwise fun x y => nlt x y = true := (range_asc m).filter _
/-- any long enough range will do -/
theorem bits_eq {m N : Nat} {p : Nat → Bool} (h : ∀ i, m.testBit i = true ↔ i < N ∧ p i = true) : bitsOf m = (List.range N).filter p := by
  refine sorted_uniq lin_nat (bits_asc m) ((range_asc N).filter _) fun i => ?_
  rw [mem_bits, h, List.mem_filter, List.mem_range]
theorem bits_uniq {m : Nat} {l : List Nat} (ha : l.Pairwise fun x y => nlt x y = true) (h : ∀ i, m.testBit i = true ↔ i ∈ l) : bitsOf m = l :=
  sorted_uniq lin_nat (bits_asc m) ha fun i => by rw [mem_bits, h]
theorem mask_ext {m n : Nat} (h : ∀ i, m.testBit i = true ↔ n.testBit i = true) : m = n := Nat.eq_of_testBit_eq fun i => by
  rw [Bool.eq_iff_iff]; exact h i
/-- the mask of these numbers -/
def maskOf (l : List Nat) : Nat := l.foldl (fun a n => a ||| 2 ^ n) 0
theorem fold_bit (l : List Nat) (a i : Nat) : (l.foldl (fun a n => a ||| 2 ^ n) a).testBit i = (a.testBit i || decide (i ∈ l)) := by
  induction l generalizing a with
  | nil => simp
  | cons n l ih =>
    rw [List.foldl_cons, ih, Nat.testBit_or, Nat.testBit_two_pow, Bool.or_assoc]
    congr 1
    rw [Bool.eq_iff_iff]
    simp only [Bool.or_eq_true, decide_eq_true_eq, List.mem_cons]
    constructor
    · rintro (h | h)
      · exact .inl h.symm
      · exact .inr h
    · rintro (h | h)
      · exact .inl h.symm
      · exact .inr h
theorem mask_bit {l : List Nat} {i : Nat} : (maskOf l).testBit i = true ↔ i ∈ l := by
  unfold maskOf
  rw [fold_bit]
  simp
theorem mask_bits (m : Nat) : maskOf (bitsOf m) = m := mask_ext fun i => by rw [mask_bit, mem_bits]
theorem bits_mask {l : List Nat} (ha : l.Pairwise fun x y => nlt x y = true) : bitsOf (maskOf l) = l := bits_uniq ha fun i => mask_bit
theorem bits_pow (k : Nat) : bitsOf (2 ^ k) = [k] := bits_uniq (List.pairwise_singleton _ _) fun i => by
  rw [Nat.testBit_two_pow, decide_eq_true_eq, List.mem_singleton]
  exact eq_comm
theorem lt_pow {m N : Nat} (h : ∀ i, m.testBit i = true → i < N) : m < 2 ^ N := by
  refine Nat.lt_pow_two_of_testBit _ fun i hi => ?_
  cases q : m.testBit i with
  | false => rfl
  | true => exact absurd (h i q) (Nat.not_lt.mpr hi)
theorem bit_lt {m N i : Nat} (h : m < 2 ^ N) (hb : m.testBit i = true) : i < N := by
  have h1 : 2 ^ i ≤ m := Nat.ge_two_pow_of_testBit hb
  exact (Nat.pow_lt_pow_iff_right (by decide)).mp (Nat.lt_of_le_of_lt h1 h)
theorem mask_lt {l : List Nat} {N : Nat} (h : ∀ i ∈ l, i < N) : maskOf l < 2 ^ N := lt_pow fun i hi => h i (mask_bit.mp hi)
theorem or_lt {a b N : Nat} (h1 : a < 2 ^ N) (h2 : b < 2 ^ N) : a ||| b < 2 ^ N := Nat.or_lt_two_pow h1 h2
theorem and_lt {a b N : Nat} (h1 : a < 2 ^ N) : a &&& b < 2 ^ N := Nat.lt_of_le_of_lt Nat.and_le_left h1
theorem ne_zero_bit {m : Nat} (h : m ≠ 0) : ∃ i, m.testBit i = true := by
  obtain ⟨i, hi⟩ := Nat.exists_testBit_of_ne_zero h
  exact ⟨i, hi⟩
theorem zero_of {m : Nat} (h : ∀ i, m.testBit i = false) : m = 0 := Nat.eq_of_testBit_eq fun i => by rw [h, Nat.zero_testBit]
theorem bits_nil {m : Nat} : bitsOf m = [] ↔ m = 0 := by
  constructor
  · intro h
    refine zero_of fun i => ?_
    cases q : m.testBit i with
    | false => rfl
    | true =>
      have := mem_bits.mpr q
      rw [h] at this
      cases this
  · rintro rfl
    rfl
theorem low_cases (m : Nat) (h : m ≠ 0) : ∃ k, m - (m &&& (m - 1)) = 2 ^ k ∧ bitsOf m = k :: bitsOf (m - 2 ^ k) ∧ 2 ^ k ≤ m := by
  obtain ⟨i, hi⟩ := ne_zero_bit h
  cases hb : bitsOf m with
  | nil => exact absurd (bits_nil.mp hb) h
  | cons k l =>
    have asc := bits_asc m
    rw [hb] at asc
    obtain ⟨a1, a2⟩ := List.pairwise_cons.mp asc
    have mk : m = maskOf (k :: l) := by rw [← hb, mask_bits]
    have hl : maskOf l % 2 ^ (k + 1) = 0 := by
      refine zero_of fun j => ?_
      rw [Nat.testBit_mod_two_pow]
      cases q : (maskOf l).testBit j with
      | false => simp
      | true =>
        have := of_decide_eq_true (a1 j (mask_bit.mp q))
        simp; omega
    have nb : (maskOf l).testBit k = false := by
      cases q : (maskOf l).testBit k with
      | false => rfl
      | true =>
        have := of_decide_eq_true (a1 k (mask_bit.mp q))
        omega
    have sum : m = 2 ^ k + maskOf l := by
      have e1 : maskOf l = 2 ^ (k + 1) * (maskOf l / 2 ^ (k + 1)) := by
        have := Nat.div_add_mod (maskOf l) (2 ^ (k + 1))
        rw [hl] at this
        omega
      have e2 : m = maskOf l ||| 2 ^ k := by
        refine mask_ext fun j => ?_
        rw [Nat.testBit_or, Nat.testBit_two_pow, mk, mask_bit, Bool.or_eq_true, mask_bit, decide_eq_true_eq, List.mem_cons]
        constructor
        · rintro (h | h)
          · exact .inr h.symm
          · exact .inl h
        · rintro (h | h)
          · exact .inr h
          · exact .inl h.symm
      have e3 : 2 ^ (k + 1) * (maskOf l / 2 ^ (k + 1)) + 2 ^ k = 2 ^ (k + 1) * (maskOf l / 2 ^ (k + 1)) ||| 2 ^ k := Nat.two_pow_add_eq_or_of_lt (Nat.pow_lt_pow_right (by decide) (Nat.lt_succ_self k)) _
      rw [e2]
      rw [← e1] at e3
      omega
    have sub : m - 2 ^ k = maskOf l := by omega
    have p0 : 0 < 2 ^ k := Nat.two_pow_pos k
    have land : m &&& (m - 1) = maskOf l := by
      have e1 : maskOf l = 2 ^ (k + 1) * (maskOf l / 2 ^ (k + 1)) := by
        have := Nat.div_add_mod (maskOf l) (2 ^ (k + 1))
        rw [hl] at this
        omega
      have e4 : m - 1 = 2 ^ (k + 1) * (maskOf l / 2 ^ (k + 1)) + (2 ^ k - 1) := by omega
      have e5 : m - 1 = maskOf l ||| (2 ^ k - 1) := by
        rw [e4, Nat.two_pow_add_eq_or_of_lt (Nat.lt_of_lt_of_le (Nat.sub_lt p0 (by decide)) (Nat.pow_le_pow_right (by decide) (Nat.le_succ k))), ← e1]
      refine mask_ext fun j => ?_
      rw [e5, Nat.testBit_and, Nat.testBit_or, Nat.testBit_two_pow_sub_one, Bool.and_eq_true, Bool.or_eq_true, decide_eq_true_eq]
      constructor
      · rintro ⟨h1, h2 | h2⟩
        · exact h2
        · have : j ∈ bitsOf m := mem_bits.mpr h1
          rw [hb] at this
          rcases List.mem_cons.mp this with rfl | h3
          · omega
          · exact mask_bit.mpr h3
      · intro h1
        refine ⟨?_, .inl h1⟩
        rw [mk]
        exact mask_bit.mpr (List.mem_cons_of_mem _ (mask_bit.mp h1))
    refine ⟨k, by rw [land]; omega, ?_, by omega⟩
    rw [sub, bits_mask a2]
/-- what the numbers of a mask lead to -/
def imageN (R : List Nat) (m : Nat) : Nat := (bitsOf m).foldl (fun a p => a ||| R.getD p 0) 0
theorem fold_or (R l : List Nat) (a i : Nat) : (l.foldl (fun a p => a ||| R.getD p 0) a).testBit i = true ↔ a.testBit i = true ∨ ∃ p ∈ l, (R.getD p 0).testBit i = true := by
  induction l generalizing a with
  | nil => simp
  | cons n l ih =>
    rw [List.foldl_cons, ih, Nat.testBit_or, Bool.or_eq_true, or_assoc]
    simp
theorem image_bit {R : List Nat} {m i : Nat} : (imageN R m).testBit i = true ↔ ∃ p, m.testBit p = true ∧ (R.getD p 0).testBit i = true := by
  unfold imageN
  rw [fold_or]
  constructor
  · rintro (h | ⟨p, h1, h2⟩)
    · simp at h
    · exact ⟨p, mem_bits.mp h1, h2⟩
  · rintro ⟨p, h1, h2⟩
    exact .inr ⟨p, mem_bits.mpr h1, h2⟩
end L2.XB
namespace L2.XS
open PySem PySem.Spec PyProof.Rows L2 L2.WB L2.XB
def uBand : R2 := fun x y H Q => match x, y with
  | .int i, .int j => Q (.int (Builtin.bitAnd i j)) H
  | _, _ => False
def uBor : R2 := fun x y H Q => match x, y with
  | .int i, .int j => Q (.int (Builtin.bitOr i j)) H
  | _, _ => False
def uShl : R2 := fun x y H Q => match x, y with
  | .int i, .int j => CShl i j ∧ Q (.int (i * 2 ^ j.toNat)) H
  | _, _ => False
def uAddA (K : PySem.W.Frag) : R2 := fun x y H Q => match x, y with
  | .int i, .int j => Q (.int (i + j)) H
  | .str a, .str b => a.length + b.length ≤ sizeLine ∧ Q (.str (a ++ b)) H
  | .ref p, .ref q => (∃ xs zs, H p = some (.lst xs) ∧ H q = some (.lst zs) ∧ xs.length + zs.length ≤ sizeLine ∧ ∀ l, H l = none → Q (.ref l) (upd H l (.lst (xs ++ zs)))) ∨
      ∃ xs zs, SqT K H p xs ∧ SqT K H q zs ∧ xs.length + zs.length ≤ sizeLine ∧ (xs = [] → Q (.ref q) H) ∧ (xs ≠ [] → zs = [] → Q (.ref p) H) ∧ (xs ≠ [] → zs ≠ [] → ∀ l, H l = none → Q (.ref l) (upd H l (.tup (xs ++ zs))))
  | _, _ => False
section
variable {X : Cx}
theorem op_uBand : OpR X (binaryOp .BitAnd) uBand := OpR.of op_and fun x y H Q q => by
  unfold uBand at q
  split at q
  · exact ⟨_, _, rfl, rfl, q⟩
  · exact q.elim
theorem op_uBor : OpR X (binaryOp .BitOr) uBor := OpR.of op_or fun x y H Q q => by
  unfold uBor at q
  split at q
  · exact ⟨_, _, rfl, rfl, q⟩
  · exact q.elim
theorem op_uShl : OpR X (binaryOp .LShift) uShl := OpR.of op_shlW fun x y H Q q => by
  unfold uShl at q
  split at q
  · exact ⟨_, _, rfl, rfl, q.1, q.2⟩
  · exact q.elim
theorem op_uAddA : OpR X (binaryOp .Add) (uAddA X.K) := by
  refine OpR.of (OpR.or op_add (OpR.or op_add_str (OpR.or op_cat op_catA))) fun x y H Q q => ?_
  unfold uAddA at q
  split at q
  · exact .inl ⟨_, _, rfl, rfl, q⟩
  · exact .inr (.inl ⟨_, _, rfl, rfl, q.1, q.2⟩)
  · rcases q with ⟨xs, zs, h1, h2, h3, h4⟩ | ⟨xs, zs, h1, h2, h3, h4⟩
    · exact .inr (.inr (.inl ⟨_, _, xs, zs, rfl, rfl, h1, h2, h3, h4⟩))
    · exact .inr (.inr (.inr ⟨_, _, xs, zs, rfl, rfl, h1, h2, h3, h4⟩))
  · exact q.elim
end
theorem band_nat (m n : Nat) : Builtin.bitAnd (m : Int) (n : Int) = ((m &&& n : Nat) : Int) := by
  rw [bitAnd_pp (by omega) (by omega)]; rfl
theorem bor_nat (m n : Nat) : Builtin.bitOr (m : Int) (n : Int) = ((m ||| n : Nat) : Int) := by
  rw [bitOr_nn (by omega) (by omega)]; rfl
theorem band_low {m : Nat} (h : m ≠ 0) : Builtin.bitAnd (m : Int) (-(m : Int)) = ((m - (m &&& (m - 1)) : Nat) : Int) := by
  rw [bitAnd_pn (by omega) (by omega)]
  have e : (Builtin.bitNot (-(m : Int))).toNat = m - 1 := by
    show (-(-(m : Int)) - 1).toNat = m - 1
    omega
  rw [e, Int.toNat_natCast]
  have : m &&& (m - 1) ≤ m := Nat.and_le_left
  omega
theorem cast_pow (k : Nat) : ((2 ^ k : Nat) : Int) = 2 ^ k := by rw [PySem.W.kbt_cast]
theorem shl_one (k : Nat) : (1 : Int) * 2 ^ ((k : Int).toNat) = ((2 ^ k : Nat) : Int) := by
  rw [Int.toNat_natCast, Int.one_mul, cast_pow]
theorem cshl_one {k : Nat} (h : k ≤ 100000) : CShl 1 (k : Int) := by
  refine ⟨by omega, ?_⟩
  have : Builtin.Int.intBits 1 = 1 := by decide
  rw [this]
  omega
theorem bits_len (k : Nat) : Builtin.Int.intBits ((2 ^ k : Nat) : Int) = k + 1 := by
  unfold Builtin.Int.intBits
  have p : 0 < 2 ^ k := Nat.two_pow_pos k
  have ne : ¬ (((2 ^ k : Nat) : Int) == 0) = true := by
    rw [beq_iff_eq]
    intro e
    have : (2 ^ k : Nat) = 0 := by exact_mod_cast e
    omega
  rw [if_neg ne, Int.natAbs_natCast, Nat.log2_two_pow]
end L2.XS
namespace L2.WB
open PySem PySem.Spec PyProof.Rows L2.XS

def top (i : Nat) : Stmt := PySem.Challenge.pw_waysbyviews_k19_leadings_all.main.body.getD i (.Pass ⟨0, 0, 0, 0⟩)
def clsBody : Stmt → List Stmt
  | .ClassDef (body := b) .. => b
  | _ => []
def meth (i j : Nat) : Stmt := (clsBody (top i)).getD j (.Pass ⟨0, 0, 0, 0⟩)
/-- where the classes stand -/
structure Ad where
  Web : Addr
/-- the text of these code points -/
def sOf (l : List Nat) : Str := ⟨l.toArray⟩
def lowers : List Nat := [97, 98, 99, 100, 101, 102, 103, 104, 105, 106, 107, 108, 109, 110, 111, 112, 113, 114, 115, 116, 117, 118, 119, 120, 121, 122]
def uppers : List Nat := [65, 66, 67, 68, 69, 70, 71, 72, 73, 74, 75, 76, 77, 78, 79, 80, 81, 82, 83, 84, 85, 86, 87, 88, 89, 90]
abbrev cLETTERS : V := .str (sOf lowers)
abbrev cMARKS : V := .str (sOf uppers)
theorem pe_lit {X : Cx} {x : Str} {j : Nat} {pos : Pos} {l : List Nat} (h : x = sOf l) : PE X (.Constant (.str x) j pos) (tC (.str (sOf l))) := by
  rw [← h]
  exact pe_str
structure Txt (K : PySem.W.Frag) (mg : Str → Option Value) (c : Ad) : Prop where
  len : mg "len" = none
  abs : mg "abs" = none
  isinstance : mg "isinstance" = none
  enumerate : mg "enumerate" = none
  sorted : mg "sorted" = none
  reversed : mg "reversed" = none
  set : mg "set" = none
  int : mg "int" = none
  list : mg "list" = none
  tuple : mg "tuple" = none
  range : mg "range" = none
  str : mg "str" = none
  bool : mg "bool" = none
  g_LETTERS : GlV mg "LETTERS" cLETTERS
  g_MARKS : GlV mg "MARKS" cMARKS
  g_MOST_PLACES : GlV mg "MOST_PLACES" (.int 9999)
  g_Web : GlV mg "Web" (.ref c.Web)

abbrev X0 (P : Program) (w : World) (K : PySem.W.Frag) (mg : Str → Option Value) (base : Heap) (N : List Str) (qual : Str) (st : Stmt) (f : Addr) (cdv : Value) (A : Around) (outer : List Env) (s0 : Shared) (H0 : Hp) (E : XK) : Cx := (cxOf CX0 P w K mg base N qual (defScope st) f cdv A outer s0 H0 E).nox
/-- x is a def that keeps sp -/
def Has (P : Program) (w : World) (K : PySem.W.Frag) (mg : Str → Option Value) (base : Heap) (C : CXT) (k : Nat) (x : Str) (sp : Sp) : Prop := ∃ f : Addr, mg x = some (.ref f) ∧ PySem.W.keepIn K (.ref f) = true ∧ FnR P w K mg base C k f sp
/-- x is a class whose __init__ keeps sp -/
def HasMk (P : Program) (w : World) (K : PySem.W.Frag) (mg : Str → Option Value) (base : Heap) (CT : CXT) (k : Nat) (x : Str) (C : Addr) (sp : Sp) : Prop := ∃ f : Addr, mg x = some (.ref C) ∧ Mk K C f ∧ FnR P w K mg base CT k f sp
section
variable {X : Cx} {k : Nat} {x : Str} {sp : Sp} {C : Addr} {fld : Str} {E : XK} {W : WX}
theorem hu201 (hr : Room (k + 1) X.A) : X.A.units + 201 < cLine := by have := hr.un; omega
theorem hu202 (hr : Room (k + 1) X.A) : X.A.units + 202 < cLine := by have := hr.un; omega
theorem hu64_of (hr : Room (k + 1) X.A) : X.A.units + 64 < cLine := by have := hr.un; omega
theorem Has.can (h : Has X.prog X.w X.K X.mg X.base CX0 k x sp) (hr : Room (k + 1) X.A) : Can X x sp E0 := by
  obtain ⟨f, h1, h2, h3⟩ := h
  exact ⟨CX0, k, f, h1, h2, h3, hr.mono (Nat.le_succ _), pass0⟩
theorem HasMk.can0 (h : HasMk X.prog X.w X.K X.mg X.base CX0 k x C sp) (hr : Room (k + 1) X.A) : CanMk X x C sp E0 := by
  obtain ⟨f, h1, h2, h3⟩ := h
  exact ⟨CX0, k, f, h1, h2, h3, hr, pass0⟩
end
def iAny (K : PySem.W.Frag) (te : TE) : TI := fun σ H R => iList K te σ H R ∨ iTup K te σ H R
theorem pi_any {X : Cx} {tg e : Expr} {te : TE} (he : PE X e te) : PI X tg e (iAny X.K te) :=
  ⟨fun pins s σ H R I h => h.elim (fun h => (pi_list he).run pins s σ H R I h) fun h => (pi_tup he).run pins s σ H R I h⟩
theorem passX0 {X : Cx} : Passes (L2.CX X.prog X.w) X E0 := fun pins σ H s e s' I h => by
  obtain ⟨a, B, H', cls, d, z1, fl, z2, ub, z3, z4, z5, z6⟩ := h
  exact z6.elim
theorem nostop0 {K : PySem.W.Frag} : NoStop K E0 := fun _ _ _ h => h.elim
end L2.WB
namespace L2.WB
open PySem PySem.Spec PyProof.Rows L2.XS
abbrev s_members : Stmt := top 2
abbrev N_members : List Str := ["mask", "digits", "at", "digit"]
theorem sc_members : FnScope N_members ["mask"] (defScope s_members) := ⟨rfl, rfl, rfl, by decide +kernel, rfl, by decide +kernel, by decide +kernel⟩
def t_members (P : Program) (w : World) (K : PySem.W.Frag) (c : Ad) : TS :=
  (tSeq (tAsg (tFmtB (uV 0)) (gName 1)) (tRet (tLc (iEnumT (tCons (tRevS (uV 1)) tNil)) (gTup K 2 (gCons (gName 2) (gCons (gName 3) gNil))) (uB (tOp (uEq K) (uV 3) (tC (.str (sOf [49]))))) (uV 2) [2, 3])))
theorem d_members {P : Program} {w : World} {K : PySem.W.Frag} {mg : Str → Option Value} {base : Heap} {f : Addr} {cdv : Value} {A : Around} {outer : List Env} {s0 : Shared} {H0 : Hp} {E : XK} {c : Ad}  {k : Nat} (T : Txt K mg c) (hr : Room (k + 1) (X0 P w K mg base N_members "members" s_members f cdv A outer s0 H0 E).A) :
    PSs (X0 P w K mg base N_members "members" s_members f cdv A outer s0 H0 E) (defBody s_members) (t_members P w K c) := by
  have hu := hu201 hr
  exact (pss_cons (ps_set (i := 1) sc_members.nd rfl (Or.inl rfl) (pe_joined1 (pe_fmtB (pe_uv 0)))) (pss_one (ps_ret (pe_lc (own := [("at", 2), ("digit", 3)]) (g := (gTup K 2 (gCons (gName 2) (gCons (gName 3) gNil)))) (tt := (uB (tOp (uEq K) (uV 3) (tC (.str (sOf [49])))))) rfl sc_members.nd (pi_enumT (by rfl) T.enumerate (pa_cons (pe_revS (pe_uv 1)) pa_nil)) (blkOk_by (own := [("at", 2), ("digit", 3)]) (N := N_members) (sc := defScope s_members) (by decide +kernel)) (fun _ _ _ _ _ => (pg_tup rfl (pgs_cons (pg_name (i := 2) sc_members.nd rfl (Or.inl rfl)) (pgs_cons (pg_name (i := 3) sc_members.nd rfl (Or.inl rfl)) pgs_nil)))) (fun _ _ _ _ _ => (pts_one (pt_uc (op_uEq hu) (pe_uv 3) (pe_lit (l := [49]) (by decide +kernel)) (nomark _)))) (fun _ _ _ _ _ => (pe_uv 2))))))

abbrev s_mask_of : Stmt := top 3
abbrev N_mask_of : List Str := ["numbers", "mask", "number"]
theorem sc_mask_of : FnScope N_mask_of ["numbers"] (defScope s_mask_of) := ⟨rfl, rfl, rfl, by decide +kernel, rfl, by decide +kernel, by decide +kernel⟩
def t_mask_of (P : Program) (w : World) (K : PySem.W.Frag) (c : Ad) : TS :=
  (tSeq (tAsg (tC (.int 0)) (gName 1)) (tSeq (tFor (iList K (uV 0)) (gName 2) (tAsg (tOp (uBor) (uV 1) (tOp (uShl) (tC (.int 1)) (uV 2))) (gName 1))) (tRet (uV 1))))
theorem d_mask_of {P : Program} {w : World} {K : PySem.W.Frag} {mg : Str → Option Value} {base : Heap} {f : Addr} {cdv : Value} {A : Around} {outer : List Env} {s0 : Shared} {H0 : Hp} {E : XK} {c : Ad}  {k : Nat} (T : Txt K mg c) (hr : Room (k + 1) (X0 P w K mg base N_mask_of "mask_of" s_mask_of f cdv A outer s0 H0 E).A) :
    PSs (X0 P w K mg base N_mask_of "mask_of" s_mask_of f cdv A outer s0 H0 E) (defBody s_mask_of) (t_mask_of P w K c) := by
  have po : PassesOwn (model (X0 P w K mg base N_mask_of "mask_of" s_mask_of f cdv A outer s0 H0 E).prog (X0 P w K mg base N_mask_of "mask_of" s_mask_of f cdv A outer s0 H0 E).w) (X0 P w K mg base N_mask_of "mask_of" s_mask_of f cdv A outer s0 H0 E).A (X0 P w K mg base N_mask_of "mask_of" s_mask_of f cdv A outer s0 H0 E).env (X0 P w K mg base N_mask_of "mask_of" s_mask_of f cdv A outer s0 H0 E).xe := PassesOwn.never
  exact (pss_cons (ps_set (i := 1) sc_mask_of.nd rfl (Or.inl rfl) pe_int) (pss_cons (ps_for po rfl (pi_list (pe_uv 0)) (pg_name (i := 2) sc_mask_of.nd rfl (Or.inl rfl)) (pss_one (ps_set (i := 1) sc_mask_of.nd rfl (Or.inl rfl) (pe_op op_uBor (pe_uv 1) (pe_op op_uShl pe_int (pe_uv 2)))))) (pss_one (ps_ret (pe_uv 1)))))

abbrev s_image : Stmt := top 4
abbrev N_image : List Str := ["relation", "mask", "reached", "rest", "lowest"]
theorem sc_image : FnScope N_image ["relation", "mask"] (defScope s_image) := ⟨rfl, rfl, rfl, by decide +kernel, rfl, by decide +kernel, by decide +kernel⟩
def t_image (P : Program) (w : World) (K : PySem.W.Frag) (c : Ad) : TS :=
  (tSeq (tAsg (tC (.int 0)) (gName 2)) (tSeq (tAsg (uV 1) (gName 3)) (tSeq (tWhile (uB (tOp (uNe K) (uV 3) (tC (.int 0)))) (tSeq (tAsg (tOp (uBand) (uV 3) (tUn uNeg (uV 3))) (gName 4)) (tSeq (tAsg (tOp (uBor) (uV 2) (tOp (uIx K) (uV 0) (tOp (uSub) (tBits (uV 4)) (tC (.int 1))))) (gName 2)) (tAsg (tOp (uSub) (uV 3) (uV 4)) (gName 3))))) (tRet (uV 2)))))
theorem d_image {P : Program} {w : World} {K : PySem.W.Frag} {mg : Str → Option Value} {base : Heap} {f : Addr} {cdv : Value} {A : Around} {outer : List Env} {s0 : Shared} {H0 : Hp} {E : XK} {c : Ad}  {k : Nat} (T : Txt K mg c) (hr : Room (k + 1) (X0 P w K mg base N_image "image" s_image f cdv A outer s0 H0 E).A) :
    PSs (X0 P w K mg base N_image "image" s_image f cdv A outer s0 H0 E) (defBody s_image) (t_image P w K c) := by
  have hu := hu201 hr
  have po : PassesOwn (model (X0 P w K mg base N_image "image" s_image f cdv A outer s0 H0 E).prog (X0 P w K mg base N_image "image" s_image f cdv A outer s0 H0 E).w) (X0 P w K mg base N_image "image" s_image f cdv A outer s0 H0 E).A (X0 P w K mg base N_image "image" s_image f cdv A outer s0 H0 E).env (X0 P w K mg base N_image "image" s_image f cdv A outer s0 H0 E).xe := PassesOwn.never
  exact (pss_cons (ps_set (i := 2) sc_image.nd rfl (Or.inl rfl) pe_int) (pss_cons (ps_set (i := 3) sc_image.nd rfl (Or.inl rfl) (pe_uv 1)) (pss_cons (ps_while po (pt_uc (op_uNe hu) (pe_uv 3) pe_int (nomark _)) (pss_cons (ps_set (i := 4) sc_image.nd rfl (Or.inl rfl) (pe_op op_uBand (pe_uv 3) (pe_un un_uNeg (pe_uv 3)))) (pss_cons (ps_set (i := 2) sc_image.nd rfl (Or.inl rfl) (pe_op op_uBor (pe_uv 2) (pe_ix ix_u (pe_uv 0) (pe_op op_uSub (pe_bits (pe_uv 4)) pe_int) (fun _ _ => rfl)))) (pss_one (ps_set (i := 3) sc_image.nd rfl (Or.inl rfl) (pe_op op_uSub (pe_uv 3) (pe_uv 4))))))) (pss_one (ps_ret (pe_uv 2))))))

abbrev s_is_letter : Stmt := top 13
abbrev N_is_letter : List Str := ["thing"]
theorem sc_is_letter : FnScope N_is_letter ["thing"] (defScope s_is_letter) := ⟨rfl, rfl, rfl, by decide +kernel, rfl, by decide +kernel, by decide +kernel⟩
def t_is_letter (P : Program) (w : World) (K : PySem.W.Frag) (c : Ad) : TS :=
  (tRet (uAndV (tCB (uIsi K) (tCons (uV 0) (tCons (tC (.ty "str")) tNil))) (uAndV (tOp (uEq K) (tCB (uLen K) (tCons (uV 0) tNil)) (tC (.int 1))) (tOp (uIn K false) (uV 0) (tC cLETTERS)))))
theorem d_is_letter {P : Program} {w : World} {K : PySem.W.Frag} {mg : Str → Option Value} {base : Heap} {f : Addr} {cdv : Value} {A : Around} {outer : List Env} {s0 : Shared} {H0 : Hp} {E : XK} {c : Ad}  {k : Nat} (T : Txt K mg c) (hr : Room (k + 1) (X0 P w K mg base N_is_letter "is_letter" s_is_letter f cdv A outer s0 H0 E).A) :
    PSs (X0 P w K mg base N_is_letter "is_letter" s_is_letter f cdv A outer s0 H0 E) (defBody s_is_letter) (t_is_letter P w K c) := by
  have hu := hu201 hr
  have hu2 := hu202 hr
  exact (pss_one (ps_ret (pe_andU (pe_callB cr_uIsi (by rfl) T.isinstance (by decide +kernel) (pa_cons (pe_uv 0) (pa_cons (pe_bltn rfl T.str (by decide +kernel) rfl) pa_nil))) (pe_andU (pe_cmpR (op_uEq hu) (pe_callB cr_uLen (by rfl) T.len (by decide +kernel) (pa_cons (pe_uv 0) pa_nil)) pe_int (nomark _)) (pe_one (pe_cmpR (op_uIn hu2) (pe_uv 0) (pe_gs T.g_LETTERS) rfl))))))

abbrev s_is_mark : Stmt := top 14
abbrev N_is_mark : List Str := ["thing"]
theorem sc_is_mark : FnScope N_is_mark ["thing"] (defScope s_is_mark) := ⟨rfl, rfl, rfl, by decide +kernel, rfl, by decide +kernel, by decide +kernel⟩
def t_is_mark (P : Program) (w : World) (K : PySem.W.Frag) (c : Ad) : TS :=
  (tRet (uAndV (tCB (uIsi K) (tCons (uV 0) (tCons (tC (.ty "str")) tNil))) (uAndV (tOp (uEq K) (tCB (uLen K) (tCons (uV 0) tNil)) (tC (.int 1))) (tOp (uIn K false) (uV 0) (tC cMARKS)))))
theorem d_is_mark {P : Program} {w : World} {K : PySem.W.Frag} {mg : Str → Option Value} {base : Heap} {f : Addr} {cdv : Value} {A : Around} {outer : List Env} {s0 : Shared} {H0 : Hp} {E : XK} {c : Ad}  {k : Nat} (T : Txt K mg c) (hr : Room (k + 1) (X0 P w K mg base N_is_mark "is_mark" s_is_mark f cdv A outer s0 H0 E).A) :
    PSs (X0 P w K mg base N_is_mark "is_mark" s_is_mark f cdv A outer s0 H0 E) (defBody s_is_mark) (t_is_mark P w K c) := by
  have hu := hu201 hr
  have hu2 := hu202 hr
  exact (pss_one (ps_ret (pe_andU (pe_callB cr_uIsi (by rfl) T.isinstance (by decide +kernel) (pa_cons (pe_uv 0) (pa_cons (pe_bltn rfl T.str (by decide +kernel) rfl) pa_nil))) (pe_andU (pe_cmpR (op_uEq hu) (pe_callB cr_uLen (by rfl) T.len (by decide +kernel) (pa_cons (pe_uv 0) pa_nil)) pe_int (nomark _)) (pe_one (pe_cmpR (op_uIn hu2) (pe_uv 0) (pe_gs T.g_MARKS) rfl))))))

abbrev s__check_known : Stmt := top 17
abbrev N__check_known : List Str := ["places", "given"]
theorem sc__check_known : FnScope N__check_known ["places", "given"] (defScope s__check_known) := ⟨rfl, rfl, rfl, by decide +kernel, rfl, by decide +kernel, by decide +kernel⟩
def t__check_known (P : Program) (w : World) (K : PySem.W.Frag) (c : Ad) : TS :=
  (tIfS (tOr (uB (tOp (uLt) (uV 1) (tC (.int 0)))) (uB (tOp (uGe) (uV 1) (uV 0)))) tNever tNext)
theorem d__check_known {P : Program} {w : World} {K : PySem.W.Frag} {mg : Str → Option Value} {base : Heap} {f : Addr} {cdv : Value} {A : Around} {outer : List Env} {s0 : Shared} {H0 : Hp} {E : XK} {c : Ad}  {k : Nat} (T : Txt K mg c) (hr : Room (k + 1) (X0 P w K mg base N__check_known "_check_known" s__check_known f cdv A outer s0 H0 E).A) :
    PSs (X0 P w K mg base N__check_known "_check_known" s__check_known f cdv A outer s0 H0 E) (defBody s__check_known) (t__check_known P w K c) := by
  exact (pss_one (ps_if (PW.pt (pw_or (pt_uc op_uLt (pe_uv 1) pe_int (nomark _)) (pw_or1 (pt_uc op_uGe (pe_uv 1) (pe_uv 0) (nomark _))))) (pss_one ps_never) pss_nil))

abbrev s_check_arrow : Stmt := top 18
abbrev N_check_arrow : List Str := ["places", "arrow", "origin", "letter", "target"]
theorem sc_check_arrow : FnScope N_check_arrow ["places", "arrow"] (defScope s_check_arrow) := ⟨rfl, rfl, rfl, by decide +kernel, rfl, by decide +kernel, by decide +kernel⟩
def t_check_arrow (P : Program) (w : World) (K : PySem.W.Frag) (c : Ad) (p_check_known pis_letter : Sp) : TS :=
  (tSeq (tAsg (uV 1) (gTup K 3 (gCons (gName 2) (gCons (gName 3) (gCons (gName 4) gNil))))) (tSeq (tDrop (tCan p_check_known E0 (tCons (uV 0) (tCons (uV 2) tNil)))) (tSeq (tIfS (tNot (uB (tCan pis_letter E0 (tCons (uV 3) tNil)))) tNever tNext) (tDrop (tCan p_check_known E0 (tCons (uV 0) (tCons (uV 4) tNil)))))))
theorem d_check_arrow {P : Program} {w : World} {K : PySem.W.Frag} {mg : Str → Option Value} {base : Heap} {f : Addr} {cdv : Value} {A : Around} {outer : List Env} {s0 : Shared} {H0 : Hp} {E : XK} {c : Ad} {p_check_known pis_letter : Sp}  {k : Nat} (T : Txt K mg c) (hr : Room (k + 1) (X0 P w K mg base N_check_arrow "check_arrow" s_check_arrow f cdv A outer s0 H0 E).A) (h__check_known : Has P w K mg base CX0 k "_check_known" p_check_known) (h_is_letter : Has P w K mg base CX0 k "is_letter" pis_letter) :
    PSs (X0 P w K mg base N_check_arrow "check_arrow" s_check_arrow f cdv A outer s0 H0 E) (defBody s_check_arrow) (t_check_arrow P w K c p_check_known pis_letter) := by
  exact (pss_cons (ps_asg (pe_uv 1) (pg_tup rfl (pgs_cons (pg_name (i := 2) sc_check_arrow.nd rfl (Or.inl rfl)) (pgs_cons (pg_name (i := 3) sc_check_arrow.nd rfl (Or.inl rfl)) (pgs_cons (pg_name (i := 4) sc_check_arrow.nd rfl (Or.inl rfl)) pgs_nil))))) (pss_cons (ps_expr (pe_can (h__check_known.can hr) (pa_cons (pe_uv 0) (pa_cons (pe_uv 2) pa_nil)))) (pss_cons (ps_if (pt_not (pt_u (pe_can (h_is_letter.can hr) (pa_cons (pe_uv 3) pa_nil)))) (pss_one ps_never) pss_nil) (pss_one (ps_expr (pe_can (h__check_known.can hr) (pa_cons (pe_uv 0) (pa_cons (pe_uv 4) pa_nil))))))))

abbrev s_check_mark : Stmt := top 19
abbrev N_check_mark : List Str := ["places", "mark", "place", "sign"]
theorem sc_check_mark : FnScope N_check_mark ["places", "mark"] (defScope s_check_mark) := ⟨rfl, rfl, rfl, by decide +kernel, rfl, by decide +kernel, by decide +kernel⟩
def t_check_mark (P : Program) (w : World) (K : PySem.W.Frag) (c : Ad) (p_check_known pis_mark : Sp) : TS :=
  (tSeq (tAsg (uV 1) (gTup K 2 (gCons (gName 2) (gCons (gName 3) gNil)))) (tSeq (tDrop (tCan p_check_known E0 (tCons (uV 0) (tCons (uV 2) tNil)))) (tIfS (tNot (uB (tCan pis_mark E0 (tCons (uV 3) tNil)))) tNever tNext)))
theorem d_check_mark {P : Program} {w : World} {K : PySem.W.Frag} {mg : Str → Option Value} {base : Heap} {f : Addr} {cdv : Value} {A : Around} {outer : List Env} {s0 : Shared} {H0 : Hp} {E : XK} {c : Ad} {p_check_known pis_mark : Sp}  {k : Nat} (T : Txt K mg c) (hr : Room (k + 1) (X0 P w K mg base N_check_mark "check_mark" s_check_mark f cdv A outer s0 H0 E).A) (h__check_known : Has P w K mg base CX0 k "_check_known" p_check_known) (h_is_mark : Has P w K mg base CX0 k "is_mark" pis_mark) :
    PSs (X0 P w K mg base N_check_mark "check_mark" s_check_mark f cdv A outer s0 H0 E) (defBody s_check_mark) (t_check_mark P w K c p_check_known pis_mark) := by
  exact (pss_cons (ps_asg (pe_uv 1) (pg_tup rfl (pgs_cons (pg_name (i := 2) sc_check_mark.nd rfl (Or.inl rfl)) (pgs_cons (pg_name (i := 3) sc_check_mark.nd rfl (Or.inl rfl)) pgs_nil)))) (pss_cons (ps_expr (pe_can (h__check_known.can hr) (pa_cons (pe_uv 0) (pa_cons (pe_uv 2) pa_nil)))) (pss_one (ps_if (pt_not (pt_u (pe_can (h_is_mark.can hr) (pa_cons (pe_uv 3) pa_nil)))) (pss_one ps_never) pss_nil))))

abbrev s__led_places : Stmt := top 20
abbrev N__led_places : List Str := ["arrows", "marks", "led", "origin", "letter", "target", "place", "sign"]
theorem sc__led_places : FnScope N__led_places ["arrows", "marks"] (defScope s__led_places) := ⟨rfl, rfl, rfl, by decide +kernel, rfl, by decide +kernel, by decide +kernel⟩
def t__led_places (P : Program) (w : World) (K : PySem.W.Frag) (c : Ad) : TS :=
  (tSeq (tAsg tDNewT (gName 2)) (tSeq (tFor (iTup K (uV 0)) (gTup K 3 (gCons (gName 3) (gCons (gName 4) (gCons (gName 5) gNil)))) (tSeq (tDrop (tBM K "list" uApp (tDSetdT (uV 2) (tTup (tCons (uV 3) (tCons (uV 4) tNil))) (tLst tNil)) (tCons (uV 5) tNil))) (tDrop (tBM K "list" uApp (tDSetdT (uV 2) (tTup (tCons (uV 5) (tCons (tOp (uAddA K) (uV 4) (tC (.str (sOf [39])))) tNil))) (tLst tNil)) (tCons (uV 3) tNil))))) (tSeq (tFor (iTup K (uV 1)) (gTup K 2 (gCons (gName 6) (gCons (gName 7) gNil))) (sDPut (uV 2) (tTup (tCons (uV 6) (tCons (tOp (uAddA K) (tC (.str (sOf [63]))) (uV 7)) tNil))) (tLst (tCons (uV 6) tNil)))) (tRet (uV 2)))))
theorem d__led_places {P : Program} {w : World} {K : PySem.W.Frag} {mg : Str → Option Value} {base : Heap} {f : Addr} {cdv : Value} {A : Around} {outer : List Env} {s0 : Shared} {H0 : Hp} {E : XK} {c : Ad}  {k : Nat} (T : Txt K mg c) (hr : Room (k + 1) (X0 P w K mg base N__led_places "_led_places" s__led_places f cdv A outer s0 H0 E).A) :
    PSs (X0 P w K mg base N__led_places "_led_places" s__led_places f cdv A outer s0 H0 E) (defBody s__led_places) (t__led_places P w K c) := by
  have hu1 := hu_of hr
  have po : PassesOwn (model (X0 P w K mg base N__led_places "_led_places" s__led_places f cdv A outer s0 H0 E).prog (X0 P w K mg base N__led_places "_led_places" s__led_places f cdv A outer s0 H0 E).w) (X0 P w K mg base N__led_places "_led_places" s__led_places f cdv A outer s0 H0 E).A (X0 P w K mg base N__led_places "_led_places" s__led_places f cdv A outer s0 H0 E).env (X0 P w K mg base N__led_places "_led_places" s__led_places f cdv A outer s0 H0 E).xe := PassesOwn.never
  exact (pss_cons (ps_set (i := 2) sc__led_places.nd rfl (Or.inl rfl) pe_dnewT) (pss_cons (ps_for po rfl (pi_tup (pe_uv 0)) (pg_tup rfl (pgs_cons (pg_name (i := 3) sc__led_places.nd rfl (Or.inl rfl)) (pgs_cons (pg_name (i := 4) sc__led_places.nd rfl (Or.inl rfl)) (pgs_cons (pg_name (i := 5) sc__led_places.nd rfl (Or.inl rfl)) pgs_nil)))) (pss_cons (ps_expr (pe_app (pe_dsetdT hu1 (pe_uv 2) (pe_tup (pa_cons (pe_uv 3) (pa_cons (pe_uv 4) pa_nil))) (pe_lst pa_nil) ⟨by rfl, by rfl, by rfl, by rfl⟩) (pa_cons (pe_uv 5) pa_nil))) (pss_one (ps_expr (pe_app (pe_dsetdT hu1 (pe_uv 2) (pe_tup (pa_cons (pe_uv 5) (pa_cons (pe_op op_uAddA (pe_uv 4) (pe_lit (l := [39]) (by decide +kernel))) pa_nil))) (pe_lst pa_nil) ⟨by rfl, by rfl, by rfl, by rfl⟩) (pa_cons (pe_uv 3) pa_nil)))))) (pss_cons (ps_for po rfl (pi_tup (pe_uv 1)) (pg_tup rfl (pgs_cons (pg_name (i := 6) sc__led_places.nd rfl (Or.inl rfl)) (pgs_cons (pg_name (i := 7) sc__led_places.nd rfl (Or.inl rfl)) pgs_nil))) (pss_one (ps_dput hu1 (pe_uv 2) (pe_tup (pa_cons (pe_uv 6) (pa_cons (pe_op op_uAddA (pe_lit (l := [63]) (by decide +kernel)) (pe_uv 7)) pa_nil))) (pe_lst (pa_cons (pe_uv 6) pa_nil)) rfl))) (pss_one (ps_ret (pe_uv 2))))))

abbrev s_Web_init : Stmt := meth 21 0
abbrev N_Web_init : List Str := ["self", "places", "arrows", "marks", "arrow", "mark"]
theorem sc_Web_init : FnScope N_Web_init ["self", "places", "arrows", "marks"] (defScope s_Web_init) := ⟨rfl, rfl, rfl, by decide +kernel, rfl, by decide +kernel, by decide +kernel⟩
def t_Web_init (P : Program) (w : World) (K : PySem.W.Frag) (c : Ad) (pcheck_arrow pcheck_mark p_led_places : Sp) : TS :=
  (tSeq (tIfS (tOr (uB (tOp (uLt) (uV 1) (tC (.int 1)))) (uB (tOp (uGt) (uV 1) (tC (.int 9999))))) tNever tNext) (tSeq (tFor (iAny K (uV 2)) (gName 4) (tDrop (tCan pcheck_arrow E0 (tCons (uV 1) (tCons (uV 4) tNil))))) (tSeq (tFor (iAny K (uV 3)) (gName 5) (tDrop (tCan pcheck_mark E0 (tCons (uV 1) (tCons (uV 5) tNil))))) (tSeq (sFld K (uV 0) (uV 1) "places") (tSeq (sFld K (uV 0) (tCB (uTup K) (tCons (tCB (uSorted K P w) (tCons (tCB (rSetM K P w) (tCons (uV 2) tNil)) tNil)) tNil)) "arrows") (tSeq (sFld K (uV 0) (tCB (uTup K) (tCons (tCB (uSorted K P w) (tCons (tCB (rSetM K P w) (tCons (uV 3) tNil)) tNil)) tNil)) "marks") (sFld K (uV 0) (tCan p_led_places E0 (tCons (tFld K (uV 0) "arrows") (tCons (tFld K (uV 0) "marks") tNil))) "_led")))))))
theorem d_Web_init {P : Program} {w : World} {K : PySem.W.Frag} {mg : Str → Option Value} {base : Heap} {f : Addr} {cdv : Value} {A : Around} {outer : List Env} {s0 : Shared} {H0 : Hp} {E : XK} {c : Ad} {pcheck_arrow pcheck_mark p_led_places : Sp}  {k : Nat} (T : Txt K mg c) (hr : Room (k + 1) (X0 P w K mg base N_Web_init "Web.__init__" s_Web_init f cdv A outer s0 H0 E).A) (h_check_arrow : Has P w K mg base CX0 k "check_arrow" pcheck_arrow) (h_check_mark : Has P w K mg base CX0 k "check_mark" pcheck_mark) (h__led_places : Has P w K mg base CX0 k "_led_places" p_led_places) :
    PSs (X0 P w K mg base N_Web_init "Web.__init__" s_Web_init f cdv A outer s0 H0 E) (defBody s_Web_init) (t_Web_init P w K c pcheck_arrow pcheck_mark p_led_places) := by
  have hu64 := hu64_of hr
  have po : PassesOwn (model (X0 P w K mg base N_Web_init "Web.__init__" s_Web_init f cdv A outer s0 H0 E).prog (X0 P w K mg base N_Web_init "Web.__init__" s_Web_init f cdv A outer s0 H0 E).w) (X0 P w K mg base N_Web_init "Web.__init__" s_Web_init f cdv A outer s0 H0 E).A (X0 P w K mg base N_Web_init "Web.__init__" s_Web_init f cdv A outer s0 H0 E).env (X0 P w K mg base N_Web_init "Web.__init__" s_Web_init f cdv A outer s0 H0 E).xe := PassesOwn.never
  exact (pss_cons (ps_if (PW.pt (pw_or (pt_uc op_uLt (pe_uv 1) pe_int (nomark _)) (pw_or1 (pt_uc op_uGt (pe_uv 1) (pe_gs T.g_MOST_PLACES) (nomark _))))) (pss_one ps_never) pss_nil) (pss_cons (ps_for po rfl (pi_any (pe_uv 2)) (pg_name (i := 4) sc_Web_init.nd rfl (Or.inl rfl)) (pss_one (ps_expr (pe_can (h_check_arrow.can hr) (pa_cons (pe_uv 1) (pa_cons (pe_uv 4) pa_nil)))))) (pss_cons (ps_for po rfl (pi_any (pe_uv 3)) (pg_name (i := 5) sc_Web_init.nd rfl (Or.inl rfl)) (pss_one (ps_expr (pe_can (h_check_mark.can hr) (pa_cons (pe_uv 1) (pa_cons (pe_uv 5) pa_nil)))))) (pss_cons (ps_fld (pe_uv 0) (pe_uv 1) rfl) (pss_cons (ps_fld (pe_uv 0) (pe_callTy cr_uTup (by rfl) T.tuple (by decide +kernel) (pa_cons (pe_callB (cr_uSorted rfl) (by rfl) T.sorted (by decide +kernel) (pa_cons (pe_callTy (cr_setM rfl hu64) (by rfl) T.set (by decide +kernel) (pa_cons (pe_uv 2) pa_nil)) pa_nil)) pa_nil)) rfl) (pss_cons (ps_fld (pe_uv 0) (pe_callTy cr_uTup (by rfl) T.tuple (by decide +kernel) (pa_cons (pe_callB (cr_uSorted rfl) (by rfl) T.sorted (by decide +kernel) (pa_cons (pe_callTy (cr_setM rfl hu64) (by rfl) T.set (by decide +kernel) (pa_cons (pe_uv 3) pa_nil)) pa_nil)) pa_nil)) rfl) (pss_one (ps_fld (pe_uv 0) (pe_can (h__led_places.can hr) (pa_cons (pe_fld (pe_uv 0) rfl) (pa_cons (pe_fld (pe_uv 0) rfl) pa_nil))) rfl))))))))

abbrev s_place_relation : Stmt := top 23
abbrev N_place_relation : List Str := ["places", "pairs", "rows", "place", "other"]
theorem sc_place_relation : FnScope N_place_relation ["places", "pairs"] (defScope s_place_relation) := ⟨rfl, rfl, rfl, by decide +kernel, rfl, by decide +kernel, by decide +kernel⟩
def t_place_relation (P : Program) (w : World) (K : PySem.W.Frag) (c : Ad) : TS :=
  (tSeq (tAsg (tOp (uMul) (tLst (tCons (tC (.int 0)) tNil)) (uV 0)) (gName 2)) (tSeq (tFor (iList K (uV 1)) (gTup K 2 (gCons (gName 3) (gCons (gName 4) gNil))) (tAsg (tOp (uBor) (tOp (uIx K) (uV 2) (uV 3)) (tOp (uShl) (tC (.int 1)) (uV 4))) (gSub (uV 2) (uV 3) rSetL))) (tRet (tCB (uTup K) (tCons (uV 2) tNil)))))
theorem d_place_relation {P : Program} {w : World} {K : PySem.W.Frag} {mg : Str → Option Value} {base : Heap} {f : Addr} {cdv : Value} {A : Around} {outer : List Env} {s0 : Shared} {H0 : Hp} {E : XK} {c : Ad}  {k : Nat} (T : Txt K mg c) (hr : Room (k + 1) (X0 P w K mg base N_place_relation "place_relation" s_place_relation f cdv A outer s0 H0 E).A) :
    PSs (X0 P w K mg base N_place_relation "place_relation" s_place_relation f cdv A outer s0 H0 E) (defBody s_place_relation) (t_place_relation P w K c) := by
  have po : PassesOwn (model (X0 P w K mg base N_place_relation "place_relation" s_place_relation f cdv A outer s0 H0 E).prog (X0 P w K mg base N_place_relation "place_relation" s_place_relation f cdv A outer s0 H0 E).w) (X0 P w K mg base N_place_relation "place_relation" s_place_relation f cdv A outer s0 H0 E).A (X0 P w K mg base N_place_relation "place_relation" s_place_relation f cdv A outer s0 H0 E).env (X0 P w K mg base N_place_relation "place_relation" s_place_relation f cdv A outer s0 H0 E).xe := PassesOwn.never
  exact (pss_cons (ps_set (i := 2) sc_place_relation.nd rfl (Or.inl rfl) (pe_op op_uMul (pe_lst (pa_cons pe_int pa_nil)) (pe_uv 0))) (pss_cons (ps_for po rfl (pi_list (pe_uv 1)) (pg_tup rfl (pgs_cons (pg_name (i := 3) sc_place_relation.nd rfl (Or.inl rfl)) (pgs_cons (pg_name (i := 4) sc_place_relation.nd rfl (Or.inl rfl)) pgs_nil))) (pss_one (ps_asg (pe_op op_uBor (pe_ix ix_u (pe_uv 2) (pe_uv 3) (fun _ _ => rfl)) (pe_op op_uShl pe_int (pe_uv 4))) (pg_sub (pe_uv 2) (pe_uv 3) set_list)))) (pss_one (ps_ret (pe_callTy cr_uTup (by rfl) T.tuple (by decide +kernel) (pa_cons (pe_uv 2) pa_nil))))))

abbrev s__bound_domains : Stmt := top 24
abbrev N__bound_domains : List Str := ["domains", "bonds", "told", "narrowing", "before", "number", "relation", "other", "near", "place"]
theorem sc__bound_domains : FnScope N__bound_domains ["domains", "bonds"] (defScope s__bound_domains) := ⟨rfl, rfl, rfl, by decide +kernel, rfl, by decide +kernel, by decide +kernel⟩
def t__bound_domains (P : Program) (w : World) (K : PySem.W.Frag) (c : Ad) (pmembers pmask_of pimage : Sp) : TS :=
  (tSeq (tAsg (tCB (uList K) (tCons (uV 0) tNil)) (gName 2)) (tSeq (tAsg (tC (.bl true)) (gName 3)) (tSeq (tWhile (uB (uV 3)) (tSeq (tAsg (tCB (uList K) (tCons (uV 2) tNil)) (gName 4)) (tSeq (tFor (iList K (uV 1)) (gTup K 3 (gCons (gName 5) (gCons (gName 6) (gCons (gName 7) gNil)))) (tSeq (tAsg (tLc (iList K (tCan pmembers E0 (tCons (tOp (uIx K) (uV 2) (uV 5)) tNil))) (gName 9) (uB (tOp (uNe K) (tOp (uBand) (tOp (uIx K) (uV 6) (uV 9)) (tOp (uIx K) (uV 2) (uV 7))) (tC (.int 0)))) (uV 9) [9]) (gName 8)) (tSeq (tAsg (tCan pmask_of E0 (tCons (uV 8) tNil)) (gSub (uV 2) (uV 5) rSetL)) (tAsg (tOp (uBand) (tOp (uIx K) (uV 2) (uV 7)) (tCan pimage E0 (tCons (uV 6) (tCons (tOp (uIx K) (uV 2) (uV 5)) tNil)))) (gSub (uV 2) (uV 7) rSetL))))) (tAsg (tOp (uNe K) (uV 2) (uV 4)) (gName 3))))) (tSeq (tIfS (uB (tOp (uIn K false) (tC (.int 0)) (uV 2))) (tRet (tC .non)) tNext) (tRet (uV 2))))))
theorem d__bound_domains {P : Program} {w : World} {K : PySem.W.Frag} {mg : Str → Option Value} {base : Heap} {f : Addr} {cdv : Value} {A : Around} {outer : List Env} {s0 : Shared} {H0 : Hp} {E : XK} {c : Ad} {pmembers pmask_of pimage : Sp}  {k : Nat} (T : Txt K mg c) (hr : Room (k + 1) (X0 P w K mg base N__bound_domains "_bound_domains" s__bound_domains f cdv A outer s0 H0 E).A) (h_members : Has P w K mg base CX0 k "members" pmembers) (h_mask_of : Has P w K mg base CX0 k "mask_of" pmask_of) (h_image : Has P w K mg base CX0 k "image" pimage) :
    PSs (X0 P w K mg base N__bound_domains "_bound_domains" s__bound_domains f cdv A outer s0 H0 E) (defBody s__bound_domains) (t__bound_domains P w K c pmembers pmask_of pimage) := by
  have hu := hu201 hr
  have hu2 := hu202 hr
  have po : PassesOwn (model (X0 P w K mg base N__bound_domains "_bound_domains" s__bound_domains f cdv A outer s0 H0 E).prog (X0 P w K mg base N__bound_domains "_bound_domains" s__bound_domains f cdv A outer s0 H0 E).w) (X0 P w K mg base N__bound_domains "_bound_domains" s__bound_domains f cdv A outer s0 H0 E).A (X0 P w K mg base N__bound_domains "_bound_domains" s__bound_domains f cdv A outer s0 H0 E).env (X0 P w K mg base N__bound_domains "_bound_domains" s__bound_domains f cdv A outer s0 H0 E).xe := PassesOwn.never
  exact (pss_cons (ps_set (i := 2) sc__bound_domains.nd rfl (Or.inr rfl) (pe_callTy cr_uList (by rfl) T.list (by decide +kernel) (pa_cons (pe_uv 0) pa_nil))) (pss_cons (ps_set (i := 3) sc__bound_domains.nd rfl (Or.inl rfl) pe_bl) (pss_cons (ps_while po (pt_u (pe_uv 3)) (pss_cons (ps_set (i := 4) sc__bound_domains.nd rfl (Or.inl rfl) (pe_callTy cr_uList (by rfl) T.list (by decide +kernel) (pa_cons (pe_uv 2) pa_nil))) (pss_cons (ps_for po rfl (pi_list (pe_uv 1)) (pg_tup rfl (pgs_cons (pg_name (i := 5) sc__bound_domains.nd rfl (Or.inl rfl)) (pgs_cons (pg_name (i := 6) sc__bound_domains.nd rfl (Or.inr rfl)) (pgs_cons (pg_name (i := 7) sc__bound_domains.nd rfl (Or.inr rfl)) pgs_nil)))) (pss_cons (ps_setLc (i := 8) (own := [("place", 9)]) (g := (gName 9)) (tt := (uB (tOp (uNe K) (tOp (uBand) (tOp (uIx K) (uV 6) (uV 9)) (tOp (uIx K) (uV 2) (uV 7))) (tC (.int 0))))) rfl sc__bound_domains.nd rfl rfl (sw_true rfl rfl rfl (by decide +kernel)) (pi_list (pe_can (h_members.can hr) (pa_cons (pe_ix ix_u (pe_uv 2) (pe_uv 5) (fun _ _ => rfl)) pa_nil))) (blkOk_by (own := [("place", 9)]) (N := N__bound_domains) (sc := defScope s__bound_domains) (by decide +kernel)) (fun _ _ _ _ _ => (pg_name (i := 9) sc__bound_domains.nd rfl (Or.inl rfl))) (fun _ _ _ _ _ => (pts_one (pt_uc (op_uNe hu) (pe_op op_uBand (pe_ix ix_u (pe_uv 6) (pe_uv 9) (fun _ _ => rfl)) (pe_ix ix_u (pe_uv 2) (pe_uv 7) (fun _ _ => rfl))) pe_int (nomark _)))) (fun _ _ _ _ _ => (pe_uv 9))) (pss_cons (ps_asg (pe_can (h_mask_of.can hr) (pa_cons (pe_uv 8) pa_nil)) (pg_sub (pe_uv 2) (pe_uv 5) set_list)) (pss_one (ps_asg (pe_op op_uBand (pe_ix ix_u (pe_uv 2) (pe_uv 7) (fun _ _ => rfl)) (pe_can (h_image.can hr) (pa_cons (pe_uv 6) (pa_cons (pe_ix ix_u (pe_uv 2) (pe_uv 5) (fun _ _ => rfl)) pa_nil)))) (pg_sub (pe_uv 2) (pe_uv 7) set_list)))))) (pss_one (ps_set (i := 3) sc__bound_domains.nd rfl (Or.inl rfl) (pe_cmpR (op_uNe hu) (pe_uv 2) (pe_uv 4) (nomark _))))))) (pss_cons (ps_if (pt_uc (op_uIn hu2) pe_int (pe_uv 2) rfl) (pss_one (ps_ret pe_non)) pss_nil) (pss_one (ps_ret (pe_uv 2)))))))

abbrev s_begun_search : Stmt := top 25
abbrev N_begun_search : List Str := ["domains", "bonds", "left"]
theorem sc_begun_search : FnScope N_begun_search ["domains", "bonds"] (defScope s_begun_search) := ⟨rfl, rfl, rfl, by decide +kernel, rfl, by decide +kernel, by decide +kernel⟩
def t_begun_search (P : Program) (w : World) (K : PySem.W.Frag) (c : Ad) (p_bound_domains : Sp) : TS :=
  (tSeq (tAsg (tCan p_bound_domains E0 (tCons (uV 0) (tCons (uV 1) tNil))) (gName 2)) (tSeq (tIfS (tB (tIsN (uV 2))) (tRet (tLst tNil)) tNext) (tRet (tLst (tCons (tTup (tCons (tTup tNil) (tCons (uV 2) tNil))) tNil)))))
theorem d_begun_search {P : Program} {w : World} {K : PySem.W.Frag} {mg : Str → Option Value} {base : Heap} {f : Addr} {cdv : Value} {A : Around} {outer : List Env} {s0 : Shared} {H0 : Hp} {E : XK} {c : Ad} {p_bound_domains : Sp}  {k : Nat} (T : Txt K mg c) (hr : Room (k + 1) (X0 P w K mg base N_begun_search "begun_search" s_begun_search f cdv A outer s0 H0 E).A) (h__bound_domains : Has P w K mg base CX0 k "_bound_domains" p_bound_domains) :
    PSs (X0 P w K mg base N_begun_search "begun_search" s_begun_search f cdv A outer s0 H0 E) (defBody s_begun_search) (t_begun_search P w K c p_bound_domains) := by
  exact (pss_cons (ps_set (i := 2) sc_begun_search.nd rfl (Or.inl rfl) (pe_can (h__bound_domains.can hr) (pa_cons (pe_uv 0) (pa_cons (pe_uv 1) pa_nil)))) (pss_cons (ps_if (pt_cmp (pc_isN (pe_uv 2))) (pss_one (ps_ret (pe_lst pa_nil))) pss_nil) (pss_one (ps_ret (pe_lst (pa_cons (pe_tup (pa_cons (pe_tup pa_nil) (pa_cons (pe_uv 2) pa_nil))) pa_nil))))))

abbrev s_longer_choices : Stmt := top 26
abbrev N_longer_choices : List Str := ["chosen", "domains", "bonds", "told", "place", "held", "left"]
theorem sc_longer_choices : FnScope N_longer_choices ["chosen", "domains", "bonds"] (defScope s_longer_choices) := ⟨rfl, rfl, rfl, by decide +kernel, rfl, by decide +kernel, by decide +kernel⟩
def t_longer_choices (P : Program) (w : World) (K : PySem.W.Frag) (c : Ad) (pmembers p_bound_domains : Sp) : TS :=
  (tSeq (tAsg (tLst tNil) (gName 3)) (tSeq (tFor (iRev K (tCons (tCan pmembers E0 (tCons (tOp (uIx K) (uV 1) (tCB (uLen K) (tCons (uV 0) tNil))) tNil)) tNil)) (gName 4) (tSeq (tAsg (tCB (uList K) (tCons (uV 1) tNil)) (gName 5)) (tSeq (tAsg (tOp (uShl) (tC (.int 1)) (uV 4)) (gSub (uV 5) (tCB (uLen K) (tCons (uV 0) tNil)) rSetL)) (tSeq (tAsg (tCan p_bound_domains E0 (tCons (uV 5) (tCons (uV 2) tNil))) (gName 6)) (tIfS (tB (tNotN (uV 6))) (tDrop (tBM K "list" uApp (uV 3) (tCons (tTup (tCons (tOp (uAddA K) (uV 0) (tTup (tCons (uV 4) tNil))) (tCons (uV 6) tNil))) tNil))) tNext))))) (tRet (uV 3))))
theorem d_longer_choices {P : Program} {w : World} {K : PySem.W.Frag} {mg : Str → Option Value} {base : Heap} {f : Addr} {cdv : Value} {A : Around} {outer : List Env} {s0 : Shared} {H0 : Hp} {E : XK} {c : Ad} {pmembers p_bound_domains : Sp}  {k : Nat} (T : Txt K mg c) (hr : Room (k + 1) (X0 P w K mg base N_longer_choices "longer_choices" s_longer_choices f cdv A outer s0 H0 E).A) (h_members : Has P w K mg base CX0 k "members" pmembers) (h__bound_domains : Has P w K mg base CX0 k "_bound_domains" p_bound_domains) :
    PSs (X0 P w K mg base N_longer_choices "longer_choices" s_longer_choices f cdv A outer s0 H0 E) (defBody s_longer_choices) (t_longer_choices P w K c pmembers p_bound_domains) := by
  have po : PassesOwn (model (X0 P w K mg base N_longer_choices "longer_choices" s_longer_choices f cdv A outer s0 H0 E).prog (X0 P w K mg base N_longer_choices "longer_choices" s_longer_choices f cdv A outer s0 H0 E).w) (X0 P w K mg base N_longer_choices "longer_choices" s_longer_choices f cdv A outer s0 H0 E).A (X0 P w K mg base N_longer_choices "longer_choices" s_longer_choices f cdv A outer s0 H0 E).env (X0 P w K mg base N_longer_choices "longer_choices" s_longer_choices f cdv A outer s0 H0 E).xe := PassesOwn.never
  exact (pss_cons (ps_set (i := 3) sc_longer_choices.nd rfl (Or.inl rfl) (pe_lst pa_nil)) (pss_cons (ps_for po rfl (pi_reversed (by rfl) T.reversed (pa_cons (pe_can (h_members.can hr) (pa_cons (pe_ix ix_u (pe_uv 1) (pe_callB cr_uLen (by rfl) T.len (by decide +kernel) (pa_cons (pe_uv 0) pa_nil)) (fun _ _ => rfl)) pa_nil)) pa_nil)) (pg_name (i := 4) sc_longer_choices.nd rfl (Or.inl rfl)) (pss_cons (ps_set (i := 5) sc_longer_choices.nd rfl (Or.inl rfl) (pe_callTy cr_uList (by rfl) T.list (by decide +kernel) (pa_cons (pe_uv 1) pa_nil))) (pss_cons (ps_asg (pe_op op_uShl pe_int (pe_uv 4)) (pg_sub (pe_uv 5) (pe_callB cr_uLen (by rfl) T.len (by decide +kernel) (pa_cons (pe_uv 0) pa_nil)) set_list)) (pss_cons (ps_set (i := 6) sc_longer_choices.nd rfl (Or.inl rfl) (pe_can (h__bound_domains.can hr) (pa_cons (pe_uv 5) (pa_cons (pe_uv 2) pa_nil)))) (pss_one (ps_if (pt_cmp (pc_notN (pe_uv 6))) (pss_one (ps_expr (pe_app (pe_uv 3) (pa_cons (pe_tup (pa_cons (pe_op op_uAddA (pe_uv 0) (pe_tup (pa_cons (pe_uv 4) pa_nil))) (pa_cons (pe_uv 6) pa_nil))) pa_nil)))) pss_nil)))))) (pss_one (ps_ret (pe_uv 3)))))

abbrev s_first_choice : Stmt := top 27
abbrev N_first_choice : List Str := ["domains", "bonds", "waiting", "chosen", "left"]
theorem sc_first_choice : FnScope N_first_choice ["domains", "bonds"] (defScope s_first_choice) := ⟨rfl, rfl, rfl, by decide +kernel, rfl, by decide +kernel, by decide +kernel⟩
def t_first_choice (P : Program) (w : World) (K : PySem.W.Frag) (c : Ad) (pbegun_search plonger_choices : Sp) : TS :=
  (tSeq (tAsg (tCan pbegun_search E0 (tCons (uV 0) (tCons (uV 1) tNil))) (gName 2)) (tSeq (tWhile (tTru K (uV 2)) (tSeq (tAsg (tBM0 K "list" uPop (uV 2)) (gTup K 2 (gCons (gName 3) (gCons (gName 4) gNil)))) (tSeq (tIfS (uB (tOp (uEq K) (tCB (uLen K) (tCons (uV 3) tNil)) (tCB (uLen K) (tCons (uV 4) tNil)))) (tRet (uV 3)) tNext) (tDrop (tBM K "list" (uExt K) (uV 2) (tCons (tCan plonger_choices E0 (tCons (uV 3) (tCons (uV 4) (tCons (uV 1) tNil)))) tNil)))))) (tRet (tC .non))))
theorem d_first_choice {P : Program} {w : World} {K : PySem.W.Frag} {mg : Str → Option Value} {base : Heap} {f : Addr} {cdv : Value} {A : Around} {outer : List Env} {s0 : Shared} {H0 : Hp} {E : XK} {c : Ad} {pbegun_search plonger_choices : Sp}  {k : Nat} (T : Txt K mg c) (hr : Room (k + 1) (X0 P w K mg base N_first_choice "first_choice" s_first_choice f cdv A outer s0 H0 E).A) (h_begun_search : Has P w K mg base CX0 k "begun_search" pbegun_search) (h_longer_choices : Has P w K mg base CX0 k "longer_choices" plonger_choices) :
    PSs (X0 P w K mg base N_first_choice "first_choice" s_first_choice f cdv A outer s0 H0 E) (defBody s_first_choice) (t_first_choice P w K c pbegun_search plonger_choices) := by
  have hu := hu201 hr
  have po : PassesOwn (model (X0 P w K mg base N_first_choice "first_choice" s_first_choice f cdv A outer s0 H0 E).prog (X0 P w K mg base N_first_choice "first_choice" s_first_choice f cdv A outer s0 H0 E).w) (X0 P w K mg base N_first_choice "first_choice" s_first_choice f cdv A outer s0 H0 E).A (X0 P w K mg base N_first_choice "first_choice" s_first_choice f cdv A outer s0 H0 E).env (X0 P w K mg base N_first_choice "first_choice" s_first_choice f cdv A outer s0 H0 E).xe := PassesOwn.never
  exact (pss_cons (ps_set (i := 2) sc_first_choice.nd rfl (Or.inl rfl) (pe_can (h_begun_search.can hr) (pa_cons (pe_uv 0) (pa_cons (pe_uv 1) pa_nil)))) (pss_cons (ps_while po (pt_truth (pe_uv 2) (fun _ => rfl)) (pss_cons (ps_asg (pe_pop (pe_uv 2)) (pg_tup rfl (pgs_cons (pg_name (i := 3) sc_first_choice.nd rfl (Or.inl rfl)) (pgs_cons (pg_name (i := 4) sc_first_choice.nd rfl (Or.inl rfl)) pgs_nil)))) (pss_cons (ps_if (pt_uc (op_uEq hu) (pe_callB cr_uLen (by rfl) T.len (by decide +kernel) (pa_cons (pe_uv 3) pa_nil)) (pe_callB cr_uLen (by rfl) T.len (by decide +kernel) (pa_cons (pe_uv 4) pa_nil)) (nomark _)) (pss_one (ps_ret (pe_uv 3))) pss_nil) (pss_one (ps_expr (pe_ext (pe_uv 2) (pa_cons (pe_can (h_longer_choices.can hr) (pa_cons (pe_uv 3) (pa_cons (pe_uv 4) (pa_cons (pe_uv 1) pa_nil)))) pa_nil))))))) (pss_one (ps_ret pe_non))))

end L2.WB
namespace L2.WB
open PySem PySem.Spec PyProof.Rows L2.XS
abbrev s__allowed_masks : Stmt := top 29
abbrev N__allowed_masks : List Str := ["first", "second", "allowed", "every", "masks", "place"]
theorem sc__allowed_masks : FnScope N__allowed_masks ["first", "second", "allowed"] (defScope s__allowed_masks) := ⟨rfl, rfl, rfl, by decide +kernel, rfl, by decide +kernel, by decide +kernel⟩
def t__allowed_masks (P : Program) (w : World) (K : PySem.W.Frag) (c : Ad) (pmask_of : Sp) : TS :=
  (tSeq (tAsg (tOp (uSub) (tOp (uShl) (tC (.int 1)) (tFld K (uV 1) "places")) (tC (.int 1))) (gName 3)) (tSeq (tAsg (tLst tNil) (gName 4)) (tSeq (tFor (iRng1 (tCons (tFld K (uV 0) "places") tNil)) (gName 5) (tIfS (tOr (tB (tIsN (uV 2))) (tB (tIsN (tOp (uIx K) (uV 2) (uV 5))))) (tDrop (tBM K "list" uApp (uV 4) (tCons (uV 3) tNil))) (tDrop (tBM K "list" uApp (uV 4) (tCons (tCan pmask_of E0 (tCons (tOp (uIx K) (uV 2) (uV 5)) tNil)) tNil))))) (tRet (uV 4)))))
theorem d__allowed_masks {P : Program} {w : World} {K : PySem.W.Frag} {mg : Str → Option Value} {base : Heap} {f : Addr} {cdv : Value} {A : Around} {outer : List Env} {s0 : Shared} {H0 : Hp} {E : XK} {c : Ad} {pmask_of : Sp}  {k : Nat} (T : Txt K mg c) (hr : Room (k + 1) (X0 P w K mg base N__allowed_masks "_allowed_masks" s__allowed_masks f cdv A outer s0 H0 E).A) (h_mask_of : Has P w K mg base CX0 k "mask_of" pmask_of) :
    PSs (X0 P w K mg base N__allowed_masks "_allowed_masks" s__allowed_masks f cdv A outer s0 H0 E) (defBody s__allowed_masks) (t__allowed_masks P w K c pmask_of) := by
  have po : PassesOwn (model (X0 P w K mg base N__allowed_masks "_allowed_masks" s__allowed_masks f cdv A outer s0 H0 E).prog (X0 P w K mg base N__allowed_masks "_allowed_masks" s__allowed_masks f cdv A outer s0 H0 E).w) (X0 P w K mg base N__allowed_masks "_allowed_masks" s__allowed_masks f cdv A outer s0 H0 E).A (X0 P w K mg base N__allowed_masks "_allowed_masks" s__allowed_masks f cdv A outer s0 H0 E).env (X0 P w K mg base N__allowed_masks "_allowed_masks" s__allowed_masks f cdv A outer s0 H0 E).xe := PassesOwn.never
  exact (pss_cons (ps_set (i := 3) sc__allowed_masks.nd rfl (Or.inl rfl) (pe_op op_uSub (pe_op op_uShl pe_int (pe_fld (pe_uv 1) rfl)) pe_int)) (pss_cons (ps_set (i := 4) sc__allowed_masks.nd rfl (Or.inl rfl) (pe_lst pa_nil)) (pss_cons (ps_for po rfl (pi_range1 (by rfl) T.range (pa_cons (pe_fld (pe_uv 0) rfl) pa_nil)) (pg_name (i := 5) sc__allowed_masks.nd rfl (Or.inl rfl)) (pss_one (ps_if (PW.pt (pw_or (pt_cmp (pc_isN (pe_uv 2))) (pw_or1 (pt_cmp (pc_isN (pe_ix ix_u (pe_uv 2) (pe_uv 5) (fun _ _ => rfl))))))) (pss_one (ps_expr (pe_app (pe_uv 4) (pa_cons (pe_uv 3) pa_nil)))) (pss_one (ps_expr (pe_app (pe_uv 4) (pa_cons (pe_can (h_mask_of.can hr) (pa_cons (pe_ix ix_u (pe_uv 2) (pe_uv 5) (fun _ _ => rfl)) pa_nil)) pa_nil))))))) (pss_one (ps_ret (pe_uv 4))))))

abbrev s__marked_places : Stmt := top 30
abbrev N__marked_places : List Str := ["web", "sign", "place", "other"]
theorem sc__marked_places : FnScope N__marked_places ["web", "sign"] (defScope s__marked_places) := ⟨rfl, rfl, rfl, by decide +kernel, rfl, by decide +kernel, by decide +kernel⟩
def t__marked_places (P : Program) (w : World) (K : PySem.W.Frag) (c : Ad) (pmask_of : Sp) : TS :=
  (tRet (tCan pmask_of E0 (tCons (tLc (iTup K (tFld K (uV 0) "marks")) (gTup K 2 (gCons (gName 2) (gCons (gName 3) gNil))) (uB (tOp (uEq K) (uV 3) (uV 1))) (uV 2) [2, 3]) tNil)))
theorem d__marked_places {P : Program} {w : World} {K : PySem.W.Frag} {mg : Str → Option Value} {base : Heap} {f : Addr} {cdv : Value} {A : Around} {outer : List Env} {s0 : Shared} {H0 : Hp} {E : XK} {c : Ad} {pmask_of : Sp}  {k : Nat} (T : Txt K mg c) (hr : Room (k + 1) (X0 P w K mg base N__marked_places "_marked_places" s__marked_places f cdv A outer s0 H0 E).A) (h_mask_of : Has P w K mg base CX0 k "mask_of" pmask_of) :
    PSs (X0 P w K mg base N__marked_places "_marked_places" s__marked_places f cdv A outer s0 H0 E) (defBody s__marked_places) (t__marked_places P w K c pmask_of) := by
  have hu := hu201 hr
  exact (pss_one (ps_ret (pe_can (h_mask_of.can hr) (pa_cons (pe_lc (own := [("place", 2), ("other", 3)]) (g := (gTup K 2 (gCons (gName 2) (gCons (gName 3) gNil)))) (tt := (uB (tOp (uEq K) (uV 3) (uV 1)))) rfl sc__marked_places.nd (pi_tup (pe_fld (pe_uv 0) rfl)) (blkOk_by (own := [("place", 2), ("other", 3)]) (N := N__marked_places) (sc := defScope s__marked_places) (by decide +kernel)) (fun _ _ _ _ _ => (pg_tup rfl (pgs_cons (pg_name (i := 2) sc__marked_places.nd rfl (Or.inl rfl)) (pgs_cons (pg_name (i := 3) sc__marked_places.nd rfl (Or.inl rfl)) pgs_nil)))) (fun _ _ _ _ _ => (pts_one (pt_uc (op_uEq hu) (pe_uv 3) (pe_uv 1) (nomark _)))) (fun _ _ _ _ _ => (pe_uv 2))) pa_nil))))

abbrev s__letter_pairs : Stmt := top 31
abbrev N__letter_pairs : List Str := ["web", "letter", "origin", "other", "target"]
theorem sc__letter_pairs : FnScope N__letter_pairs ["web", "letter"] (defScope s__letter_pairs) := ⟨rfl, rfl, rfl, by decide +kernel, rfl, by decide +kernel, by decide +kernel⟩
def t__letter_pairs (P : Program) (w : World) (K : PySem.W.Frag) (c : Ad) : TS :=
  (tRet (tLc (iTup K (tFld K (uV 0) "arrows")) (gTup K 3 (gCons (gName 2) (gCons (gName 3) (gCons (gName 4) gNil)))) (uB (tOp (uEq K) (uV 3) (uV 1))) (tTup (tCons (uV 2) (tCons (uV 4) tNil))) [2, 3, 4]))
theorem d__letter_pairs {P : Program} {w : World} {K : PySem.W.Frag} {mg : Str → Option Value} {base : Heap} {f : Addr} {cdv : Value} {A : Around} {outer : List Env} {s0 : Shared} {H0 : Hp} {E : XK} {c : Ad}  {k : Nat} (T : Txt K mg c) (hr : Room (k + 1) (X0 P w K mg base N__letter_pairs "_letter_pairs" s__letter_pairs f cdv A outer s0 H0 E).A) :
    PSs (X0 P w K mg base N__letter_pairs "_letter_pairs" s__letter_pairs f cdv A outer s0 H0 E) (defBody s__letter_pairs) (t__letter_pairs P w K c) := by
  have hu := hu201 hr
  exact (pss_one (ps_ret (pe_lc (own := [("origin", 2), ("other", 3), ("target", 4)]) (g := (gTup K 3 (gCons (gName 2) (gCons (gName 3) (gCons (gName 4) gNil))))) (tt := (uB (tOp (uEq K) (uV 3) (uV 1)))) rfl sc__letter_pairs.nd (pi_tup (pe_fld (pe_uv 0) rfl)) (blkOk_by (own := [("origin", 2), ("other", 3), ("target", 4)]) (N := N__letter_pairs) (sc := defScope s__letter_pairs) (by decide +kernel)) (fun _ _ _ _ _ => (pg_tup rfl (pgs_cons (pg_name (i := 2) sc__letter_pairs.nd rfl (Or.inl rfl)) (pgs_cons (pg_name (i := 3) sc__letter_pairs.nd rfl (Or.inl rfl)) (pgs_cons (pg_name (i := 4) sc__letter_pairs.nd rfl (Or.inl rfl)) pgs_nil))))) (fun _ _ _ _ _ => (pts_one (pt_uc (op_uEq hu) (pe_uv 3) (pe_uv 1) (nomark _)))) (fun _ _ _ _ _ => (pe_tup (pa_cons (pe_uv 2) (pa_cons (pe_uv 4) pa_nil)))))))

abbrev s__leading_search : Stmt := top 32
abbrev N__leading_search : List Str := ["first", "second", "allowed", "domains", "marked", "relations", "letter", "bonds", "place", "sign", "arrow", "origin", "target", "mark"]
theorem sc__leading_search : FnScope N__leading_search ["first", "second", "allowed"] (defScope s__leading_search) := ⟨rfl, rfl, rfl, by decide +kernel, rfl, by decide +kernel, by decide +kernel⟩
def t__leading_search (P : Program) (w : World) (K : PySem.W.Frag) (c : Ad) (p_allowed_masks p_marked_places pplace_relation p_letter_pairs : Sp) : TS :=
  (tSeq (tAsg (tCan p_allowed_masks E0 (tCons (uV 0) (tCons (uV 1) (tCons (uV 2) tNil)))) (gName 3)) (tSeq (tAsg (tDc (iList K (tCB (uSorted K P w) (tCons (tScK w (iTup K (tFld K (uV 0) "marks")) (gName 13) tYes (tOp (uIx K) (uV 13) (tC (.int 1))) [13]) tNil))) (gName 9) tYes (uV 9) (tCan p_marked_places E0 (tCons (uV 1) (tCons (uV 9) tNil))) [9]) (gName 4)) (tSeq (tFor (iTup K (tFld K (uV 0) "marks")) (gTup K 2 (gCons (gName 8) (gCons (gName 9) gNil))) (tAsg (tOp (uBand) (tOp (uIx K) (uV 3) (uV 8)) (tDGet (uV 4) (uV 9))) (gSub (uV 3) (uV 8) rSetL))) (tSeq (tAsg tDNewK (gName 5)) (tSeq (tFor (iList K (tCB (uSorted K P w) (tCons (tScK w (iTup K (tFld K (uV 0) "arrows")) (gName 10) tYes (tOp (uIx K) (uV 10) (tC (.int 1))) [10]) tNil))) (gName 6) (sDPut (uV 5) (uV 6) (tCan pplace_relation E0 (tCons (tFld K (uV 1) "places") (tCons (tCan p_letter_pairs E0 (tCons (uV 1) (tCons (uV 6) tNil))) tNil))))) (tSeq (tAsg (tLc (iTup K (tFld K (uV 0) "arrows")) (gTup K 3 (gCons (gName 11) (gCons (gName 6) (gCons (gName 12) gNil)))) tYes (tTup (tCons (uV 11) (tCons (tDGet (uV 5) (uV 6)) (tCons (uV 12) tNil)))) [11, 6, 12]) (gName 7)) (tRet (tTup (tCons (uV 3) (tCons (uV 7) tNil))))))))))
theorem d__leading_search {P : Program} {w : World} {K : PySem.W.Frag} {mg : Str → Option Value} {base : Heap} {f : Addr} {cdv : Value} {A : Around} {outer : List Env} {s0 : Shared} {H0 : Hp} {E : XK} {c : Ad} {p_allowed_masks p_marked_places pplace_relation p_letter_pairs : Sp}  {k : Nat} (T : Txt K mg c) (hr : Room (k + 1) (X0 P w K mg base N__leading_search "_leading_search" s__leading_search f cdv A outer s0 H0 E).A) (h__allowed_masks : Has P w K mg base CX0 k "_allowed_masks" p_allowed_masks) (h__marked_places : Has P w K mg base CX0 k "_marked_places" p_marked_places) (h_place_relation : Has P w K mg base CX0 k "place_relation" pplace_relation) (h__letter_pairs : Has P w K mg base CX0 k "_letter_pairs" p_letter_pairs) :
    PSs (X0 P w K mg base N__leading_search "_leading_search" s__leading_search f cdv A outer s0 H0 E) (defBody s__leading_search) (t__leading_search P w K c p_allowed_masks p_marked_places pplace_relation p_letter_pairs) := by
  have hu1 := hu_of hr
  have po : PassesOwn (model (X0 P w K mg base N__leading_search "_leading_search" s__leading_search f cdv A outer s0 H0 E).prog (X0 P w K mg base N__leading_search "_leading_search" s__leading_search f cdv A outer s0 H0 E).w) (X0 P w K mg base N__leading_search "_leading_search" s__leading_search f cdv A outer s0 H0 E).A (X0 P w K mg base N__leading_search "_leading_search" s__leading_search f cdv A outer s0 H0 E).env (X0 P w K mg base N__leading_search "_leading_search" s__leading_search f cdv A outer s0 H0 E).xe := PassesOwn.never
  exact (pss_cons (ps_set (i := 3) sc__leading_search.nd rfl (Or.inl rfl) (pe_can (h__allowed_masks.can hr) (pa_cons (pe_uv 0) (pa_cons (pe_uv 1) (pa_cons (pe_uv 2) pa_nil))))) (pss_cons (ps_setDc (i := 4) (own := [("sign", 9)]) (g := (gName 9)) (tt := tYes) rfl sc__leading_search.nd rfl rfl (sw_dict rfl rfl rfl (by decide +kernel)) (pi_list (pe_callB (cr_uSorted rfl) (by rfl) T.sorted (by decide +kernel) (pa_cons (pe_scK (own := [("mark", 13)]) (g := (gName 13)) (tt := tYes) rfl sc__leading_search.nd (pi_tup (pe_fld (pe_uv 0) rfl)) (blkOk_by (own := [("mark", 13)]) (N := N__leading_search) (sc := defScope s__leading_search) (by decide +kernel)) (fun _ _ _ _ _ => (pg_name (i := 13) sc__leading_search.nd rfl (Or.inl rfl))) (fun _ _ _ _ _ => pts_nil) (fun _ _ _ _ _ => (pe_ix ix_u (pe_uv 13) pe_int (fun _ _ => rfl)))) pa_nil))) (blkOk_by (own := [("sign", 9)]) (N := N__leading_search) (sc := defScope s__leading_search) (by decide +kernel)) (fun _ _ _ _ _ => (pg_name (i := 9) sc__leading_search.nd rfl (Or.inl rfl))) (fun _ _ _ _ _ => pts_nil) (fun _ _ _ _ _ => (pe_uv 9)) (fun _ _ _ _ _ => (pe_can (h__marked_places.can hr) (pa_cons (pe_uv 1) (pa_cons (pe_uv 9) pa_nil))))) (pss_cons (ps_for po rfl (pi_tup (pe_fld (pe_uv 0) rfl)) (pg_tup rfl (pgs_cons (pg_name (i := 8) sc__leading_search.nd rfl (Or.inl rfl)) (pgs_cons (pg_name (i := 9) sc__leading_search.nd rfl (Or.inl rfl)) pgs_nil))) (pss_one (ps_asg (pe_op op_uBand (pe_ix ix_u (pe_uv 3) (pe_uv 8) (fun _ _ => rfl)) (pe_dget hu1 (pe_uv 4) (pe_uv 9) (fun _ _ => rfl))) (pg_sub (pe_uv 3) (pe_uv 8) set_list)))) (pss_cons (ps_set (i := 5) sc__leading_search.nd rfl (Or.inr rfl) pe_dnewK) (pss_cons (ps_for po rfl (pi_list (pe_callB (cr_uSorted rfl) (by rfl) T.sorted (by decide +kernel) (pa_cons (pe_scK (own := [("arrow", 10)]) (g := (gName 10)) (tt := tYes) rfl sc__leading_search.nd (pi_tup (pe_fld (pe_uv 0) rfl)) (blkOk_by (own := [("arrow", 10)]) (N := N__leading_search) (sc := defScope s__leading_search) (by decide +kernel)) (fun _ _ _ _ _ => (pg_name (i := 10) sc__leading_search.nd rfl (Or.inl rfl))) (fun _ _ _ _ _ => pts_nil) (fun _ _ _ _ _ => (pe_ix ix_u (pe_uv 10) pe_int (fun _ _ => rfl)))) pa_nil))) (pg_name (i := 6) sc__leading_search.nd rfl (Or.inl rfl)) (pss_one (ps_dput hu1 (pe_uv 5) (pe_uv 6) (pe_can (h_place_relation.can hr) (pa_cons (pe_fld (pe_uv 1) rfl) (pa_cons (pe_can (h__letter_pairs.can hr) (pa_cons (pe_uv 1) (pa_cons (pe_uv 6) pa_nil))) pa_nil))) rfl))) (pss_cons (ps_setLc (i := 7) (own := [("origin", 11), ("letter", 6), ("target", 12)]) (g := (gTup K 3 (gCons (gName 11) (gCons (gName 6) (gCons (gName 12) gNil))))) (tt := tYes) rfl sc__leading_search.nd rfl rfl (sw_true rfl rfl rfl (by decide +kernel)) (pi_tup (pe_fld (pe_uv 0) rfl)) (blkOk_by (own := [("origin", 11), ("letter", 6), ("target", 12)]) (N := N__leading_search) (sc := defScope s__leading_search) (by decide +kernel)) (fun _ _ _ _ _ => (pg_tup rfl (pgs_cons (pg_name (i := 11) sc__leading_search.nd rfl (Or.inl rfl)) (pgs_cons (pg_name (i := 6) sc__leading_search.nd rfl (Or.inl rfl)) (pgs_cons (pg_name (i := 12) sc__leading_search.nd rfl (Or.inl rfl)) pgs_nil))))) (fun _ _ _ _ _ => pts_nil) (fun _ _ _ _ _ => (pe_tup (pa_cons (pe_uv 11) (pa_cons (pe_dget hu1 (pe_uv 5) (pe_uv 6) (fun _ _ => rfl)) (pa_cons (pe_uv 12) pa_nil)))))) (pss_one (ps_ret (pe_tup (pa_cons (pe_uv 3) (pa_cons (pe_uv 7) pa_nil)))))))))))

abbrev s_leadings : Stmt := top 33
abbrev N_leadings : List Str := ["first", "second", "allowed", "waiting", "domains", "bonds", "chosen", "left"]
theorem sc_leadings : GScope N_leadings ["first", "second", "allowed"] (defScope s_leadings) := ⟨rfl, rfl, rfl, by decide +kernel, rfl, by decide +kernel, by decide +kernel⟩
def t_leadings (P : Program) (w : World) (K : PySem.W.Frag) (c : Ad) (plonger_choices pbegun_search p_leading_search : Sp) : TGn :=
  (tGThen (tPlain (tAsg (tCan p_leading_search E0 (tCons (uV 0) (tCons (uV 1) (tCons (uV 2) tNil)))) (gTup K 2 (gCons (gName 4) (gCons (gName 5) gNil))))) (tGThen (tPlain (tAsg (tCan pbegun_search E0 (tCons (uV 4) (tCons (uV 5) tNil))) (gName 3))) (tGThen (tGWhile (tTru K (uV 3)) (tGThen (tPlain (tAsg (tBM0 K "list" uPop (uV 3)) (gTup K 2 (gCons (gName 6) (gCons (gName 7) gNil))))) (tGThen (tGIf (uB (tOp (uEq K) (tCB (uLen K) (tCons (uV 6) tNil)) (tCB (uLen K) (tCons (uV 7) tNil)))) (tGThen (tGYield (uV 6)) tG0) (tGThen (tPlain (tDrop (tBM K "list" (uExt K) (uV 3) (tCons (tCan plonger_choices E0 (tCons (uV 6) (tCons (uV 7) (tCons (uV 5) tNil)))) tNil)))) tG0)) tG0))) tG0)))
theorem d_leadings {P : Program} {w : World} {K : PySem.W.Frag} {mg : Str → Option Value} {base : Heap} {f : Addr} {cdv : Value} {A : Around} {outer : List Env} {s0 : Shared} {H0 : Hp} {E : XK} {c : Ad} {plonger_choices pbegun_search p_leading_search : Sp} {pn : List (Addr × Obj)} {k : Nat} (T : Txt K mg c) (hr : Room (k + 1) (gcxOf P w K mg base N_leadings "leadings" (defScope s_leadings) f cdv A outer s0 H0 E pn).A) (h_longer_choices : Has P w K mg base CX0 k "longer_choices" plonger_choices) (h_begun_search : Has P w K mg base CX0 k "begun_search" pbegun_search) (h__leading_search : Has P w K mg base CX0 k "_leading_search" p_leading_search) :
    GSs (gcxOf P w K mg base N_leadings "leadings" (defScope s_leadings) f cdv A outer s0 H0 E pn) (defBody s_leadings) (t_leadings P w K c plonger_choices pbegun_search p_leading_search) := by
  have hu := hu201 hr
  have po : PassesOwn (model (gcxOf P w K mg base N_leadings "leadings" (defScope s_leadings) f cdv A outer s0 H0 E pn).prog (gcxOf P w K mg base N_leadings "leadings" (defScope s_leadings) f cdv A outer s0 H0 E pn).w) (gcxOf P w K mg base N_leadings "leadings" (defScope s_leadings) f cdv A outer s0 H0 E pn).A (gcxOf P w K mg base N_leadings "leadings" (defScope s_leadings) f cdv A outer s0 H0 E pn).env (gcxOf P w K mg base N_leadings "leadings" (defScope s_leadings) f cdv A outer s0 H0 E pn).xe := owns_gcx
  exact (gss_cons (gs_ps (ps_asg (pe_can (h__leading_search.can hr) (pa_cons (pe_uv 0) (pa_cons (pe_uv 1) (pa_cons (pe_uv 2) pa_nil)))) (pg_tup rfl (pgs_cons (pg_name (i := 4) sc_leadings.nd rfl (Or.inl rfl)) (pgs_cons (pg_name (i := 5) sc_leadings.nd rfl (Or.inl rfl)) pgs_nil))))) (gss_cons (gs_ps (ps_set (i := 3) sc_leadings.nd rfl (Or.inl rfl) (pe_can (h_begun_search.can hr) (pa_cons (pe_uv 4) (pa_cons (pe_uv 5) pa_nil))))) (gss_cons (gs_while po (pt_truth (pe_uv 3) (fun _ => rfl)) (gss_cons (gs_ps (ps_asg (pe_pop (pe_uv 3)) (pg_tup rfl (pgs_cons (pg_name (i := 6) sc_leadings.nd rfl (Or.inl rfl)) (pgs_cons (pg_name (i := 7) sc_leadings.nd rfl (Or.inl rfl)) pgs_nil))))) (gss_cons (gs_if (pt_uc (op_uEq hu) (pe_callB cr_uLen (by rfl) T.len (by decide +kernel) (pa_cons (pe_uv 6) pa_nil)) (pe_callB cr_uLen (by rfl) T.len (by decide +kernel) (pa_cons (pe_uv 7) pa_nil)) (nomark _)) (gss_cons (gs_yield (pe_uv 6)) gss_nil) (gss_cons (gs_ps (ps_expr (pe_ext (pe_uv 3) (pa_cons (pe_can (h_longer_choices.can hr) (pa_cons (pe_uv 6) (pa_cons (pe_uv 7) (pa_cons (pe_uv 5) pa_nil)))) pa_nil)))) gss_nil)) gss_nil))) gss_nil)))

abbrev s_first_leading : Stmt := top 34
abbrev N_first_leading : List Str := ["first", "second", "allowed", "domains", "bonds"]
theorem sc_first_leading : FnScope N_first_leading ["first", "second", "allowed"] (defScope s_first_leading) := ⟨rfl, rfl, rfl, by decide +kernel, rfl, by decide +kernel, by decide +kernel⟩
def t_first_leading (P : Program) (w : World) (K : PySem.W.Frag) (c : Ad) (p_leading_search pfirst_choice : Sp) : TS :=
  (tSeq (tAsg (tCan p_leading_search E0 (tCons (uV 0) (tCons (uV 1) (tCons (uV 2) tNil)))) (gTup K 2 (gCons (gName 3) (gCons (gName 4) gNil)))) (tRet (tCan pfirst_choice E0 (tCons (uV 3) (tCons (uV 4) tNil)))))
theorem d_first_leading {P : Program} {w : World} {K : PySem.W.Frag} {mg : Str → Option Value} {base : Heap} {f : Addr} {cdv : Value} {A : Around} {outer : List Env} {s0 : Shared} {H0 : Hp} {E : XK} {c : Ad} {p_leading_search pfirst_choice : Sp}  {k : Nat} (T : Txt K mg c) (hr : Room (k + 1) (X0 P w K mg base N_first_leading "first_leading" s_first_leading f cdv A outer s0 H0 E).A) (h__leading_search : Has P w K mg base CX0 k "_leading_search" p_leading_search) (h_first_choice : Has P w K mg base CX0 k "first_choice" pfirst_choice) :
    PSs (X0 P w K mg base N_first_leading "first_leading" s_first_leading f cdv A outer s0 H0 E) (defBody s_first_leading) (t_first_leading P w K c p_leading_search pfirst_choice) := by
  exact (pss_cons (ps_asg (pe_can (h__leading_search.can hr) (pa_cons (pe_uv 0) (pa_cons (pe_uv 1) (pa_cons (pe_uv 2) pa_nil)))) (pg_tup rfl (pgs_cons (pg_name (i := 3) sc_first_leading.nd rfl (Or.inl rfl)) (pgs_cons (pg_name (i := 4) sc_first_leading.nd rfl (Or.inl rfl)) pgs_nil)))) (pss_one (ps_ret (pe_can (h_first_choice.can hr) (pa_cons (pe_uv 3) (pa_cons (pe_uv 4) pa_nil))))))

abbrev s__law_take : Stmt := top 36
abbrev N__law_take : List Str := ["state", "many", "digit"]
theorem sc__law_take : FnScope N__law_take ["state", "many"] (defScope s__law_take) := ⟨rfl, rfl, rfl, by decide +kernel, rfl, by decide +kernel, by decide +kernel⟩
def t__law_take (P : Program) (w : World) (K : PySem.W.Frag) (c : Ad) : TS :=
  (tSeq (tIfS (tAnd (uB (tOp (uLt) (tOp (uIx K) (uV 0) (tC (.int 2))) (tC (.int 1)))) (uB (tOp (uLt) (tOp (uIx K) (uV 0) (tC (.int 1))) (tCB (uLen K) (tCons (tOp (uIx K) (uV 0) (tC (.int 0))) tNil))))) (tSeq (tAsg (tCB (uAbs) (tCons (tCB (uInt) (tCons (tOp (uIx K) (tOp (uIx K) (uV 0) (tC (.int 0))) (tOp (uIx K) (uV 0) (tC (.int 1)))) tNil)) tNil)) (gSub (uV 0) (tC (.int 2)) rSetL)) (tAsg (tOp (uAddA K) (tOp (uIx K) (uV 0) (tC (.int 1))) (tC (.int 1))) (gSub (uV 0) (tC (.int 1)) rSetL))) tNext) (tSeq (tAsg (tOp (uMod) (tCB (uInt) (tCons (tOp (uIx K) (uV 0) (tC (.int 2))) tNil)) (uV 1)) (gName 2)) (tSeq (tAsg (tOp (uFdiv) (tOp (uIx K) (uV 0) (tC (.int 2))) (uV 1)) (gSub (uV 0) (tC (.int 2)) rSetL)) (tRet (uV 2)))))
theorem d__law_take {P : Program} {w : World} {K : PySem.W.Frag} {mg : Str → Option Value} {base : Heap} {f : Addr} {cdv : Value} {A : Around} {outer : List Env} {s0 : Shared} {H0 : Hp} {E : XK} {c : Ad}  {k : Nat} (T : Txt K mg c) (hr : Room (k + 1) (X0 P w K mg base N__law_take "_law_take" s__law_take f cdv A outer s0 H0 E).A) :
    PSs (X0 P w K mg base N__law_take "_law_take" s__law_take f cdv A outer s0 H0 E) (defBody s__law_take) (t__law_take P w K c) := by
  exact (pss_cons (ps_if (PW.pt (pw_and (pt_uc op_uLt (pe_ix ix_u (pe_uv 0) pe_int (fun _ _ => rfl)) pe_int (nomark _)) (pw_and1 (pt_uc op_uLt (pe_ix ix_u (pe_uv 0) pe_int (fun _ _ => rfl)) (pe_callB cr_uLen (by rfl) T.len (by decide +kernel) (pa_cons (pe_ix ix_u (pe_uv 0) pe_int (fun _ _ => rfl)) pa_nil)) (nomark _))))) (pss_cons (ps_asg (pe_callB cr_uAbs (by rfl) T.abs (by decide +kernel) (pa_cons (pe_callTy cr_uInt (by rfl) T.int (by decide +kernel) (pa_cons (pe_ix ix_u (pe_ix ix_u (pe_uv 0) pe_int (fun _ _ => rfl)) (pe_ix ix_u (pe_uv 0) pe_int (fun _ _ => rfl)) (fun _ _ => rfl)) pa_nil)) pa_nil)) (pg_sub (pe_uv 0) pe_int set_list)) (pss_one (ps_asg (pe_op op_uAddA (pe_ix ix_u (pe_uv 0) pe_int (fun _ _ => rfl)) pe_int) (pg_sub (pe_uv 0) pe_int set_list)))) pss_nil) (pss_cons (ps_set (i := 2) sc__law_take.nd rfl (Or.inl rfl) (pe_op op_uMod (pe_callTy cr_uInt (by rfl) T.int (by decide +kernel) (pa_cons (pe_ix ix_u (pe_uv 0) pe_int (fun _ _ => rfl)) pa_nil)) (pe_uv 1))) (pss_cons (ps_asg (pe_op op_uFdiv (pe_ix ix_u (pe_uv 0) pe_int (fun _ _ => rfl)) (pe_uv 1)) (pg_sub (pe_uv 0) pe_int set_list)) (pss_one (ps_ret (pe_uv 2))))))

abbrev s__law_two : Stmt := top 37
abbrev N__law_two : List Str := ["state", "signs", "first", "other"]
theorem sc__law_two : FnScope N__law_two ["state", "signs"] (defScope s__law_two) := ⟨rfl, rfl, rfl, by decide +kernel, rfl, by decide +kernel, by decide +kernel⟩
def t__law_two (P : Program) (w : World) (K : PySem.W.Frag) (c : Ad) (p_law_take : Sp) : TS :=
  (tSeq (tAsg (tCan p_law_take E0 (tCons (uV 0) (tCons (tC (.int 26)) tNil))) (gName 2)) (tSeq (tAsg (tOp (uMod) (tCB (uInt) (tCons (tOp (uAddA K) (tOp (uAddA K) (uV 2) (tC (.int 1))) (tCan p_law_take E0 (tCons (uV 0) (tCons (tC (.int 25)) tNil)))) tNil)) (tC (.int 26))) (gName 3)) (tRet (tLst (tCons (tOp (uIx K) (uV 1) (uV 2)) (tCons (tOp (uIx K) (uV 1) (uV 3)) tNil))))))
theorem d__law_two {P : Program} {w : World} {K : PySem.W.Frag} {mg : Str → Option Value} {base : Heap} {f : Addr} {cdv : Value} {A : Around} {outer : List Env} {s0 : Shared} {H0 : Hp} {E : XK} {c : Ad} {p_law_take : Sp}  {k : Nat} (T : Txt K mg c) (hr : Room (k + 1) (X0 P w K mg base N__law_two "_law_two" s__law_two f cdv A outer s0 H0 E).A) (h__law_take : Has P w K mg base CX0 k "_law_take" p_law_take) :
    PSs (X0 P w K mg base N__law_two "_law_two" s__law_two f cdv A outer s0 H0 E) (defBody s__law_two) (t__law_two P w K c p_law_take) := by
  exact (pss_cons (ps_set (i := 2) sc__law_two.nd rfl (Or.inl rfl) (pe_can (h__law_take.can hr) (pa_cons (pe_uv 0) (pa_cons pe_int pa_nil)))) (pss_cons (ps_set (i := 3) sc__law_two.nd rfl (Or.inl rfl) (pe_op op_uMod (pe_callTy cr_uInt (by rfl) T.int (by decide +kernel) (pa_cons (pe_op op_uAddA (pe_op op_uAddA (pe_uv 2) pe_int) (pe_can (h__law_take.can hr) (pa_cons (pe_uv 0) (pa_cons pe_int pa_nil)))) pa_nil)) pe_int)) (pss_one (ps_ret (pe_lst (pa_cons (pe_ix ix_u (pe_uv 1) (pe_uv 2) (fun _ _ => rfl)) (pa_cons (pe_ix ix_u (pe_uv 1) (pe_uv 3) (fun _ _ => rfl)) pa_nil)))))))

abbrev s__law_same : Stmt := top 38
abbrev N__law_same : List Str := ["told", "due", "k"]
theorem sc__law_same : FnScope N__law_same ["told", "due"] (defScope s__law_same) := ⟨rfl, rfl, rfl, by decide +kernel, rfl, by decide +kernel, by decide +kernel⟩
def t__law_same (P : Program) (w : World) (K : PySem.W.Frag) (c : Ad) (p_law_same : Sp) : TS :=
  (tSeq (tIfS (uB (tCB (uIsi K) (tCons (uV 1) (tCons (tC (.ty "bool")) tNil)))) (tRet (uAndV (tCB (uIsi K) (tCons (uV 0) (tCons (tC (.ty "bool")) tNil))) (tOp (uEq K) (uV 0) (uV 1)))) tNext) (tSeq (tIfS (uB (tCB (uIsi K) (tCons (uV 1) (tCons (tC (.ty "int")) tNil)))) (tSeq (tIfS (tOr (uB (tCB (uIsi K) (tCons (uV 0) (tCons (tC (.ty "bool")) tNil)))) (tNot (uB (tCB (uIsi K) (tCons (uV 0) (tCons (tC (.ty "int")) tNil)))))) (tRet (tC (.bl false))) tNext) (tRet (tOp (uEq K) (uV 0) (uV 1)))) tNext) (tSeq (tIfS (uB (tCB (uIsi K) (tCons (uV 1) (tCons (tC (.ty "str")) tNil)))) (tRet (uAndV (tCB (uIsi K) (tCons (uV 0) (tCons (tC (.ty "str")) tNil))) (tOp (uEq K) (uV 0) (uV 1)))) tNext) (tSeq (tIfS (tB (tIsN (uV 1))) (tRet (tIsN (uV 0))) tNext) (tSeq (tIfS (tAnd (uB (tCB (uIsi K) (tCons (uV 1) (tCons (tC (.ty "list")) tNil)))) (tNot (uB (tCB (uIsi K) (tCons (uV 0) (tCons (tC (.ty "list")) tNil)))))) (tRet (tC (.bl false))) tNext) (tSeq (tIfS (tAnd (uB (tCB (uIsi K) (tCons (uV 1) (tCons (tC (.ty "tuple")) tNil)))) (tNot (uB (tCB (uIsi K) (tCons (uV 0) (tCons (tC (.ty "tuple")) tNil)))))) (tRet (tC (.bl false))) tNext) (tSeq (tIfS (uB (tOp (uNe K) (tCB (uLen K) (tCons (uV 0) tNil)) (tCB (uLen K) (tCons (uV 1) tNil)))) (tRet (tC (.bl false))) tNext) (tSeq (tFor (iRng1 (tCons (tCB (uLen K) (tCons (uV 1) tNil)) tNil)) (gName 2) (tIfS (tNot (uB (tCan p_law_same E0 (tCons (tOp (uIx K) (uV 0) (uV 2)) (tCons (tOp (uIx K) (uV 1) (uV 2)) tNil))))) (tRet (tC (.bl false))) tNext)) (tRet (tC (.bl true)))))))))))
theorem d__law_same {P : Program} {w : World} {K : PySem.W.Frag} {mg : Str → Option Value} {base : Heap} {f : Addr} {cdv : Value} {A : Around} {outer : List Env} {s0 : Shared} {H0 : Hp} {E : XK} {c : Ad} {p_law_same : Sp}  {k : Nat} (T : Txt K mg c) (hr : Room (k + 1) (X0 P w K mg base N__law_same "_law_same" s__law_same f cdv A outer s0 H0 E).A) (h__law_same : Has P w K mg base CX0 k "_law_same" p_law_same) :
    PSs (X0 P w K mg base N__law_same "_law_same" s__law_same f cdv A outer s0 H0 E) (defBody s__law_same) (t__law_same P w K c p_law_same) := by
  have hu := hu201 hr
  have po : PassesOwn (model (X0 P w K mg base N__law_same "_law_same" s__law_same f cdv A outer s0 H0 E).prog (X0 P w K mg base N__law_same "_law_same" s__law_same f cdv A outer s0 H0 E).w) (X0 P w K mg base N__law_same "_law_same" s__law_same f cdv A outer s0 H0 E).A (X0 P w K mg base N__law_same "_law_same" s__law_same f cdv A outer s0 H0 E).env (X0 P w K mg base N__law_same "_law_same" s__law_same f cdv A outer s0 H0 E).xe := PassesOwn.never
  exact (pss_cons (ps_if (pt_u (pe_callB cr_uIsi (by rfl) T.isinstance (by decide +kernel) (pa_cons (pe_uv 1) (pa_cons (pe_bltn rfl T.bool (by decide +kernel) rfl) pa_nil)))) (pss_one (ps_ret (pe_andU (pe_callB cr_uIsi (by rfl) T.isinstance (by decide +kernel) (pa_cons (pe_uv 0) (pa_cons (pe_bltn rfl T.bool (by decide +kernel) rfl) pa_nil))) (pe_one (pe_cmpR (op_uEq hu) (pe_uv 0) (pe_uv 1) (nomark _)))))) pss_nil) (pss_cons (ps_if (pt_u (pe_callB cr_uIsi (by rfl) T.isinstance (by decide +kernel) (pa_cons (pe_uv 1) (pa_cons (pe_bltn rfl T.int (by decide +kernel) rfl) pa_nil)))) (pss_cons (ps_if (PW.pt (pw_or (pt_u (pe_callB cr_uIsi (by rfl) T.isinstance (by decide +kernel) (pa_cons (pe_uv 0) (pa_cons (pe_bltn rfl T.bool (by decide +kernel) rfl) pa_nil)))) (pw_or1 (pt_not (pt_u (pe_callB cr_uIsi (by rfl) T.isinstance (by decide +kernel) (pa_cons (pe_uv 0) (pa_cons (pe_bltn rfl T.int (by decide +kernel) rfl) pa_nil)))))))) (pss_one (ps_ret pe_bl)) pss_nil) (pss_one (ps_ret (pe_cmpR (op_uEq hu) (pe_uv 0) (pe_uv 1) (nomark _))))) pss_nil) (pss_cons (ps_if (pt_u (pe_callB cr_uIsi (by rfl) T.isinstance (by decide +kernel) (pa_cons (pe_uv 1) (pa_cons (pe_bltn rfl T.str (by decide +kernel) rfl) pa_nil)))) (pss_one (ps_ret (pe_andU (pe_callB cr_uIsi (by rfl) T.isinstance (by decide +kernel) (pa_cons (pe_uv 0) (pa_cons (pe_bltn rfl T.str (by decide +kernel) rfl) pa_nil))) (pe_one (pe_cmpR (op_uEq hu) (pe_uv 0) (pe_uv 1) (nomark _)))))) pss_nil) (pss_cons (ps_if (pt_cmp (pc_isN (pe_uv 1))) (pss_one (ps_ret (pe_cmp (pc_isN (pe_uv 0))))) pss_nil) (pss_cons (ps_if (PW.pt (pw_and (pt_u (pe_callB cr_uIsi (by rfl) T.isinstance (by decide +kernel) (pa_cons (pe_uv 1) (pa_cons (pe_bltn rfl T.list (by decide +kernel) rfl) pa_nil)))) (pw_and1 (pt_not (pt_u (pe_callB cr_uIsi (by rfl) T.isinstance (by decide +kernel) (pa_cons (pe_uv 0) (pa_cons (pe_bltn rfl T.list (by decide +kernel) rfl) pa_nil)))))))) (pss_one (ps_ret pe_bl)) pss_nil) (pss_cons (ps_if (PW.pt (pw_and (pt_u (pe_callB cr_uIsi (by rfl) T.isinstance (by decide +kernel) (pa_cons (pe_uv 1) (pa_cons (pe_bltn rfl T.tuple (by decide +kernel) rfl) pa_nil)))) (pw_and1 (pt_not (pt_u (pe_callB cr_uIsi (by rfl) T.isinstance (by decide +kernel) (pa_cons (pe_uv 0) (pa_cons (pe_bltn rfl T.tuple (by decide +kernel) rfl) pa_nil)))))))) (pss_one (ps_ret pe_bl)) pss_nil) (pss_cons (ps_if (pt_uc (op_uNe hu) (pe_callB cr_uLen (by rfl) T.len (by decide +kernel) (pa_cons (pe_uv 0) pa_nil)) (pe_callB cr_uLen (by rfl) T.len (by decide +kernel) (pa_cons (pe_uv 1) pa_nil)) (nomark _)) (pss_one (ps_ret pe_bl)) pss_nil) (pss_cons (ps_for po rfl (pi_range1 (by rfl) T.range (pa_cons (pe_callB cr_uLen (by rfl) T.len (by decide +kernel) (pa_cons (pe_uv 1) pa_nil)) pa_nil)) (pg_name (i := 2) sc__law_same.nd rfl (Or.inl rfl)) (pss_one (ps_if (pt_not (pt_u (pe_can (h__law_same.can hr) (pa_cons (pe_ix ix_u (pe_uv 0) (pe_uv 2) (fun _ _ => rfl)) (pa_cons (pe_ix ix_u (pe_uv 1) (pe_uv 2) (fun _ _ => rfl)) pa_nil))))) (pss_one (ps_ret pe_bl)) pss_nil))) (pss_one (ps_ret pe_bl))))))))))

abbrev s__law_distinct : Stmt := top 39
abbrev N__law_distinct : List Str := ["things", "told", "thing"]
theorem sc__law_distinct : FnScope N__law_distinct ["things"] (defScope s__law_distinct) := ⟨rfl, rfl, rfl, by decide +kernel, rfl, by decide +kernel, by decide +kernel⟩
def t__law_distinct (P : Program) (w : World) (K : PySem.W.Frag) (c : Ad) : TS :=
  (tSeq (tAsg (tLst tNil) (gName 1)) (tSeq (tFor (iList K (tCB (uSorted K P w) (tCons (uV 0) tNil))) (gName 2) (tIfS (uB (tOp (uIn K true) (uV 2) (uV 1))) (tDrop (tBM K "list" uApp (uV 1) (tCons (uV 2) tNil))) tNext)) (tRet (uV 1))))
theorem d__law_distinct {P : Program} {w : World} {K : PySem.W.Frag} {mg : Str → Option Value} {base : Heap} {f : Addr} {cdv : Value} {A : Around} {outer : List Env} {s0 : Shared} {H0 : Hp} {E : XK} {c : Ad}  {k : Nat} (T : Txt K mg c) (hr : Room (k + 1) (X0 P w K mg base N__law_distinct "_law_distinct" s__law_distinct f cdv A outer s0 H0 E).A) :
    PSs (X0 P w K mg base N__law_distinct "_law_distinct" s__law_distinct f cdv A outer s0 H0 E) (defBody s__law_distinct) (t__law_distinct P w K c) := by
  have hu2 := hu202 hr
  have po : PassesOwn (model (X0 P w K mg base N__law_distinct "_law_distinct" s__law_distinct f cdv A outer s0 H0 E).prog (X0 P w K mg base N__law_distinct "_law_distinct" s__law_distinct f cdv A outer s0 H0 E).w) (X0 P w K mg base N__law_distinct "_law_distinct" s__law_distinct f cdv A outer s0 H0 E).A (X0 P w K mg base N__law_distinct "_law_distinct" s__law_distinct f cdv A outer s0 H0 E).env (X0 P w K mg base N__law_distinct "_law_distinct" s__law_distinct f cdv A outer s0 H0 E).xe := PassesOwn.never
  exact (pss_cons (ps_set (i := 1) sc__law_distinct.nd rfl (Or.inl rfl) (pe_lst pa_nil)) (pss_cons (ps_for po rfl (pi_list (pe_callB (cr_uSorted rfl) (by rfl) T.sorted (by decide +kernel) (pa_cons (pe_uv 0) pa_nil))) (pg_name (i := 2) sc__law_distinct.nd rfl (Or.inl rfl)) (pss_one (ps_if (pt_uc (op_uNotIn hu2) (pe_uv 2) (pe_uv 1) rfl) (pss_one (ps_expr (pe_app (pe_uv 1) (pa_cons (pe_uv 2) pa_nil)))) pss_nil))) (pss_one (ps_ret (pe_uv 1)))))

abbrev s__law_world : Stmt := top 40
abbrev N__law_world : List Str := ["state", "letters", "signs", "most", "many", "places", "arrows", "k", "marks", "start", "letter"]
theorem sc__law_world : FnScope N__law_world ["state", "letters", "signs", "most", "many"] (defScope s__law_world) := ⟨rfl, rfl, rfl, by decide +kernel, rfl, by decide +kernel, by decide +kernel⟩
def t__law_world (P : Program) (w : World) (K : PySem.W.Frag) (c : Ad) (p_law_take p_law_distinct : Sp) : TS :=
  (tSeq (tAsg (tOp (uAddA K) (tC (.int 1)) (tCan p_law_take E0 (tCons (uV 0) (tCons (uV 3) tNil)))) (gName 5)) (tSeq (tAsg (tLst tNil) (gName 6)) (tSeq (tFor (iRng1 (tCons (tOp (uAddA K) (tC (.int 1)) (tCan p_law_take E0 (tCons (uV 0) (tCons (uV 4) tNil)))) tNil)) (gName 7) (tSeq (tAsg (tCan p_law_take E0 (tCons (uV 0) (tCons (uV 5) tNil))) (gName 9)) (tSeq (tAsg (tOp (uIx K) (uV 1) (tCan p_law_take E0 (tCons (uV 0) (tCons (tC (.int 2)) tNil)))) (gName 10)) (tDrop (tBM K "list" uApp (uV 6) (tCons (tTup (tCons (uV 9) (tCons (uV 10) (tCons (tCan p_law_take E0 (tCons (uV 0) (tCons (uV 5) tNil))) tNil)))) tNil)))))) (tSeq (tAsg (tLst tNil) (gName 8)) (tSeq (tFor (iRng1 (tCons (tCan p_law_take E0 (tCons (uV 0) (tCons (tC (.int 4)) tNil))) tNil)) (gName 7) (tDrop (tBM K "list" uApp (uV 8) (tCons (tTup (tCons (tCan p_law_take E0 (tCons (uV 0) (tCons (uV 5) tNil))) (tCons (tOp (uIx K) (uV 2) (tCan p_law_take E0 (tCons (uV 0) (tCons (tC (.int 2)) tNil)))) tNil))) tNil)))) (tRet (tLst (tCons (uV 5) (tCons (tCan p_law_distinct E0 (tCons (uV 6) tNil)) (tCons (tCan p_law_distinct E0 (tCons (uV 8) tNil)) tNil))))))))))
theorem d__law_world {P : Program} {w : World} {K : PySem.W.Frag} {mg : Str → Option Value} {base : Heap} {f : Addr} {cdv : Value} {A : Around} {outer : List Env} {s0 : Shared} {H0 : Hp} {E : XK} {c : Ad} {p_law_take p_law_distinct : Sp}  {k : Nat} (T : Txt K mg c) (hr : Room (k + 1) (X0 P w K mg base N__law_world "_law_world" s__law_world f cdv A outer s0 H0 E).A) (h__law_take : Has P w K mg base CX0 k "_law_take" p_law_take) (h__law_distinct : Has P w K mg base CX0 k "_law_distinct" p_law_distinct) :
    PSs (X0 P w K mg base N__law_world "_law_world" s__law_world f cdv A outer s0 H0 E) (defBody s__law_world) (t__law_world P w K c p_law_take p_law_distinct) := by
  have po : PassesOwn (model (X0 P w K mg base N__law_world "_law_world" s__law_world f cdv A outer s0 H0 E).prog (X0 P w K mg base N__law_world "_law_world" s__law_world f cdv A outer s0 H0 E).w) (X0 P w K mg base N__law_world "_law_world" s__law_world f cdv A outer s0 H0 E).A (X0 P w K mg base N__law_world "_law_world" s__law_world f cdv A outer s0 H0 E).env (X0 P w K mg base N__law_world "_law_world" s__law_world f cdv A outer s0 H0 E).xe := PassesOwn.never
  exact (pss_cons (ps_set (i := 5) sc__law_world.nd rfl (Or.inl rfl) (pe_op op_uAddA pe_int (pe_can (h__law_take.can hr) (pa_cons (pe_uv 0) (pa_cons (pe_uv 3) pa_nil))))) (pss_cons (ps_set (i := 6) sc__law_world.nd rfl (Or.inl rfl) (pe_lst pa_nil)) (pss_cons (ps_for po rfl (pi_range1 (by rfl) T.range (pa_cons (pe_op op_uAddA pe_int (pe_can (h__law_take.can hr) (pa_cons (pe_uv 0) (pa_cons (pe_uv 4) pa_nil)))) pa_nil)) (pg_name (i := 7) sc__law_world.nd rfl (Or.inl rfl)) (pss_cons (ps_set (i := 9) sc__law_world.nd rfl (Or.inl rfl) (pe_can (h__law_take.can hr) (pa_cons (pe_uv 0) (pa_cons (pe_uv 5) pa_nil)))) (pss_cons (ps_set (i := 10) sc__law_world.nd rfl (Or.inl rfl) (pe_ix ix_u (pe_uv 1) (pe_can (h__law_take.can hr) (pa_cons (pe_uv 0) (pa_cons pe_int pa_nil))) (fun _ _ => rfl))) (pss_one (ps_expr (pe_app (pe_uv 6) (pa_cons (pe_tup (pa_cons (pe_uv 9) (pa_cons (pe_uv 10) (pa_cons (pe_can (h__law_take.can hr) (pa_cons (pe_uv 0) (pa_cons (pe_uv 5) pa_nil))) pa_nil)))) pa_nil))))))) (pss_cons (ps_set (i := 8) sc__law_world.nd rfl (Or.inl rfl) (pe_lst pa_nil)) (pss_cons (ps_for po rfl (pi_range1 (by rfl) T.range (pa_cons (pe_can (h__law_take.can hr) (pa_cons (pe_uv 0) (pa_cons pe_int pa_nil))) pa_nil)) (pg_name (i := 7) sc__law_world.nd rfl (Or.inl rfl)) (pss_one (ps_expr (pe_app (pe_uv 8) (pa_cons (pe_tup (pa_cons (pe_can (h__law_take.can hr) (pa_cons (pe_uv 0) (pa_cons (pe_uv 5) pa_nil))) (pa_cons (pe_ix ix_u (pe_uv 2) (pe_can (h__law_take.can hr) (pa_cons (pe_uv 0) (pa_cons pe_int pa_nil))) (fun _ _ => rfl)) pa_nil))) pa_nil))))) (pss_one (ps_ret (pe_lst (pa_cons (pe_uv 5) (pa_cons (pe_can (h__law_distinct.can hr) (pa_cons (pe_uv 6) pa_nil)) (pa_cons (pe_can (h__law_distinct.can hr) (pa_cons (pe_uv 8) pa_nil)) pa_nil)))))))))))

abbrev s__law_lets : Stmt := top 41
abbrev N__law_lets : List Str := ["lists", "place", "other"]
theorem sc__law_lets : FnScope N__law_lets ["lists", "place", "other"] (defScope s__law_lets) := ⟨rfl, rfl, rfl, by decide +kernel, rfl, by decide +kernel, by decide +kernel⟩
def t__law_lets (P : Program) (w : World) (K : PySem.W.Frag) (c : Ad) : TS :=
  (tSeq (tIfS (tOr (tB (tIsN (uV 0))) (tB (tIsN (tOp (uIx K) (uV 0) (uV 1))))) (tRet (tC (.bl true))) tNext) (tRet (tOp (uIn K false) (uV 2) (tOp (uIx K) (uV 0) (uV 1)))))
theorem d__law_lets {P : Program} {w : World} {K : PySem.W.Frag} {mg : Str → Option Value} {base : Heap} {f : Addr} {cdv : Value} {A : Around} {outer : List Env} {s0 : Shared} {H0 : Hp} {E : XK} {c : Ad}  {k : Nat} (T : Txt K mg c) (hr : Room (k + 1) (X0 P w K mg base N__law_lets "_law_lets" s__law_lets f cdv A outer s0 H0 E).A) :
    PSs (X0 P w K mg base N__law_lets "_law_lets" s__law_lets f cdv A outer s0 H0 E) (defBody s__law_lets) (t__law_lets P w K c) := by
  have hu2 := hu202 hr
  exact (pss_cons (ps_if (PW.pt (pw_or (pt_cmp (pc_isN (pe_uv 0))) (pw_or1 (pt_cmp (pc_isN (pe_ix ix_u (pe_uv 0) (pe_uv 1) (fun _ _ => rfl))))))) (pss_one (ps_ret pe_bl)) pss_nil) (pss_one (ps_ret (pe_cmpR (op_uIn hu2) (pe_uv 2) (pe_ix ix_u (pe_uv 0) (pe_uv 1) (fun _ _ => rfl)) rfl))))

abbrev s__law_due : Stmt := top 42
abbrev N__law_due : List Str := ["first", "second", "lists", "told", "place", "kept", "one", "longer", "good", "arrow", "mark", "other"]
theorem sc__law_due : FnScope N__law_due ["first", "second", "lists"] (defScope s__law_due) := ⟨rfl, rfl, rfl, by decide +kernel, rfl, by decide +kernel, by decide +kernel⟩
def t__law_due (P : Program) (w : World) (K : PySem.W.Frag) (c : Ad) (p_law_lets : Sp) : TS :=
  (tSeq (tAsg (tLst (tCons (tTup tNil) tNil)) (gName 3)) (tSeq (tFor (iRng1 (tCons (tOp (uIx K) (uV 0) (tC (.int 0))) tNil)) (gName 4) (tSeq (tAsg (tLst tNil) (gName 7)) (tSeq (tFor (iList K (uV 3)) (gName 6) (tFor (iRng1 (tCons (tOp (uIx K) (uV 1) (tC (.int 0))) tNil)) (gName 11) (tIfS (uB (tCan p_law_lets E0 (tCons (uV 2) (tCons (uV 4) (tCons (uV 11) tNil))))) (tDrop (tBM K "list" uApp (uV 7) (tCons (tOp (uAddA K) (uV 6) (tTup (tCons (uV 11) tNil))) tNil))) tNext))) (tAsg (tCB (uList K) (tCons (uV 7) tNil)) (gName 3))))) (tSeq (tAsg (tLst tNil) (gName 5)) (tSeq (tFor (iList K (uV 3)) (gName 6) (tSeq (tAsg (tC (.bl true)) (gName 8)) (tSeq (tFor (iList K (tOp (uIx K) (uV 0) (tC (.int 1)))) (gName 9) (tIfS (uB (tOp (uIn K true) (tTup (tCons (tOp (uIx K) (uV 6) (tOp (uIx K) (uV 9) (tC (.int 0)))) (tCons (tOp (uIx K) (uV 9) (tC (.int 1))) (tCons (tOp (uIx K) (uV 6) (tOp (uIx K) (uV 9) (tC (.int 2)))) tNil)))) (tOp (uIx K) (uV 1) (tC (.int 1))))) (tAsg (tC (.bl false)) (gName 8)) tNext)) (tSeq (tFor (iList K (tOp (uIx K) (uV 0) (tC (.int 2)))) (gName 10) (tIfS (uB (tOp (uIn K true) (tTup (tCons (tOp (uIx K) (uV 6) (tOp (uIx K) (uV 10) (tC (.int 0)))) (tCons (tOp (uIx K) (uV 10) (tC (.int 1))) tNil))) (tOp (uIx K) (uV 1) (tC (.int 2))))) (tAsg (tC (.bl false)) (gName 8)) tNext)) (tIfS (uB (uV 8)) (tDrop (tBM K "list" uApp (uV 5) (tCons (uV 6) tNil))) tNext))))) (tRet (uV 5))))))
theorem d__law_due {P : Program} {w : World} {K : PySem.W.Frag} {mg : Str → Option Value} {base : Heap} {f : Addr} {cdv : Value} {A : Around} {outer : List Env} {s0 : Shared} {H0 : Hp} {E : XK} {c : Ad} {p_law_lets : Sp}  {k : Nat} (T : Txt K mg c) (hr : Room (k + 1) (X0 P w K mg base N__law_due "_law_due" s__law_due f cdv A outer s0 H0 E).A) (h__law_lets : Has P w K mg base CX0 k "_law_lets" p_law_lets) :
    PSs (X0 P w K mg base N__law_due "_law_due" s__law_due f cdv A outer s0 H0 E) (defBody s__law_due) (t__law_due P w K c p_law_lets) := by
  have hu2 := hu202 hr
  have po : PassesOwn (model (X0 P w K mg base N__law_due "_law_due" s__law_due f cdv A outer s0 H0 E).prog (X0 P w K mg base N__law_due "_law_due" s__law_due f cdv A outer s0 H0 E).w) (X0 P w K mg base N__law_due "_law_due" s__law_due f cdv A outer s0 H0 E).A (X0 P w K mg base N__law_due "_law_due" s__law_due f cdv A outer s0 H0 E).env (X0 P w K mg base N__law_due "_law_due" s__law_due f cdv A outer s0 H0 E).xe := PassesOwn.never
  exact (pss_cons (ps_set (i := 3) sc__law_due.nd rfl (Or.inl rfl) (pe_lst (pa_cons (pe_tup pa_nil) pa_nil))) (pss_cons (ps_for po rfl (pi_range1 (by rfl) T.range (pa_cons (pe_ix ix_u (pe_uv 0) pe_int (fun _ _ => rfl)) pa_nil)) (pg_name (i := 4) sc__law_due.nd rfl (Or.inl rfl)) (pss_cons (ps_set (i := 7) sc__law_due.nd rfl (Or.inl rfl) (pe_lst pa_nil)) (pss_cons (ps_for po rfl (pi_list (pe_uv 3)) (pg_name (i := 6) sc__law_due.nd rfl (Or.inl rfl)) (pss_one (ps_for po rfl (pi_range1 (by rfl) T.range (pa_cons (pe_ix ix_u (pe_uv 1) pe_int (fun _ _ => rfl)) pa_nil)) (pg_name (i := 11) sc__law_due.nd rfl (Or.inl rfl)) (pss_one (ps_if (pt_u (pe_can (h__law_lets.can hr) (pa_cons (pe_uv 2) (pa_cons (pe_uv 4) (pa_cons (pe_uv 11) pa_nil))))) (pss_one (ps_expr (pe_app (pe_uv 7) (pa_cons (pe_op op_uAddA (pe_uv 6) (pe_tup (pa_cons (pe_uv 11) pa_nil))) pa_nil)))) pss_nil))))) (pss_one (ps_set (i := 3) sc__law_due.nd rfl (Or.inl rfl) (pe_callTy cr_uList (by rfl) T.list (by decide +kernel) (pa_cons (pe_uv 7) pa_nil))))))) (pss_cons (ps_set (i := 5) sc__law_due.nd rfl (Or.inl rfl) (pe_lst pa_nil)) (pss_cons (ps_for po rfl (pi_list (pe_uv 3)) (pg_name (i := 6) sc__law_due.nd rfl (Or.inl rfl)) (pss_cons (ps_set (i := 8) sc__law_due.nd rfl (Or.inl rfl) pe_bl) (pss_cons (ps_for po rfl (pi_list (pe_ix ix_u (pe_uv 0) pe_int (fun _ _ => rfl))) (pg_name (i := 9) sc__law_due.nd rfl (Or.inl rfl)) (pss_one (ps_if (pt_uc (op_uNotIn hu2) (pe_tup (pa_cons (pe_ix ix_u (pe_uv 6) (pe_ix ix_u (pe_uv 9) pe_int (fun _ _ => rfl)) (fun _ _ => rfl)) (pa_cons (pe_ix ix_u (pe_uv 9) pe_int (fun _ _ => rfl)) (pa_cons (pe_ix ix_u (pe_uv 6) (pe_ix ix_u (pe_uv 9) pe_int (fun _ _ => rfl)) (fun _ _ => rfl)) pa_nil)))) (pe_ix ix_u (pe_uv 1) pe_int (fun _ _ => rfl)) rfl) (pss_one (ps_set (i := 8) sc__law_due.nd rfl (Or.inl rfl) pe_bl)) pss_nil))) (pss_cons (ps_for po rfl (pi_list (pe_ix ix_u (pe_uv 0) pe_int (fun _ _ => rfl))) (pg_name (i := 10) sc__law_due.nd rfl (Or.inl rfl)) (pss_one (ps_if (pt_uc (op_uNotIn hu2) (pe_tup (pa_cons (pe_ix ix_u (pe_uv 6) (pe_ix ix_u (pe_uv 10) pe_int (fun _ _ => rfl)) (fun _ _ => rfl)) (pa_cons (pe_ix ix_u (pe_uv 10) pe_int (fun _ _ => rfl)) pa_nil))) (pe_ix ix_u (pe_uv 1) pe_int (fun _ _ => rfl)) rfl) (pss_one (ps_set (i := 8) sc__law_due.nd rfl (Or.inl rfl) pe_bl)) pss_nil))) (pss_one (ps_if (pt_u (pe_uv 8)) (pss_one (ps_expr (pe_app (pe_uv 5) (pa_cons (pe_uv 6) pa_nil)))) pss_nil)))))) (pss_one (ps_ret (pe_uv 5)))))))

abbrev s__law_lists : Stmt := top 43
abbrev N__law_lists : List Str := ["state", "first", "second", "lists", "place", "some", "other"]
theorem sc__law_lists : FnScope N__law_lists ["state", "first", "second"] (defScope s__law_lists) := ⟨rfl, rfl, rfl, by decide +kernel, rfl, by decide +kernel, by decide +kernel⟩
def t__law_lists (P : Program) (w : World) (K : PySem.W.Frag) (c : Ad) (p_law_take : Sp) : TS :=
  (tSeq (tAsg (tLst tNil) (gName 3)) (tSeq (tFor (iRng1 (tCons (tOp (uIx K) (uV 1) (tC (.int 0))) tNil)) (gName 4) (tSeq (tAsg (tLc (iRng1 (tCons (tOp (uIx K) (uV 2) (tC (.int 0))) tNil)) (gName 6) (uB (tOp (uNe K) (tCan p_law_take E0 (tCons (uV 0) (tCons (tC (.int 4)) tNil))) (tC (.int 3)))) (uV 6) [6]) (gName 5)) (tSeq (tIfS (uB (tOp (uEq K) (tCan p_law_take E0 (tCons (uV 0) (tCons (tC (.int 2)) tNil))) (tC (.int 1)))) (tAsg (tRevL K (uV 5)) (gName 5)) tNext) (tSeq (tIfS (uB (tOp (uEq K) (tCan p_law_take E0 (tCons (uV 0) (tCons (tC (.int 3)) tNil))) (tC (.int 2)))) (tAsg (tC .non) (gName 5)) tNext) (tDrop (tBM K "list" uApp (uV 3) (tCons (uV 5) tNil))))))) (tRet (uV 3))))
theorem d__law_lists {P : Program} {w : World} {K : PySem.W.Frag} {mg : Str → Option Value} {base : Heap} {f : Addr} {cdv : Value} {A : Around} {outer : List Env} {s0 : Shared} {H0 : Hp} {E : XK} {c : Ad} {p_law_take : Sp}  {k : Nat} (T : Txt K mg c) (hr : Room (k + 1) (X0 P w K mg base N__law_lists "_law_lists" s__law_lists f cdv A outer s0 H0 E).A) (h__law_take : Has P w K mg base CX0 k "_law_take" p_law_take) :
    PSs (X0 P w K mg base N__law_lists "_law_lists" s__law_lists f cdv A outer s0 H0 E) (defBody s__law_lists) (t__law_lists P w K c p_law_take) := by
  have hu := hu201 hr
  have po : PassesOwn (model (X0 P w K mg base N__law_lists "_law_lists" s__law_lists f cdv A outer s0 H0 E).prog (X0 P w K mg base N__law_lists "_law_lists" s__law_lists f cdv A outer s0 H0 E).w) (X0 P w K mg base N__law_lists "_law_lists" s__law_lists f cdv A outer s0 H0 E).A (X0 P w K mg base N__law_lists "_law_lists" s__law_lists f cdv A outer s0 H0 E).env (X0 P w K mg base N__law_lists "_law_lists" s__law_lists f cdv A outer s0 H0 E).xe := PassesOwn.never
  exact (pss_cons (ps_set (i := 3) sc__law_lists.nd rfl (Or.inl rfl) (pe_lst pa_nil)) (pss_cons (ps_for po rfl (pi_range1 (by rfl) T.range (pa_cons (pe_ix ix_u (pe_uv 1) pe_int (fun _ _ => rfl)) pa_nil)) (pg_name (i := 4) sc__law_lists.nd rfl (Or.inl rfl)) (pss_cons (ps_setLc (i := 5) (own := [("other", 6)]) (g := (gName 6)) (tt := (uB (tOp (uNe K) (tCan p_law_take E0 (tCons (uV 0) (tCons (tC (.int 4)) tNil))) (tC (.int 3))))) rfl sc__law_lists.nd rfl rfl (sw_true rfl rfl rfl (by decide +kernel)) (pi_range1 (by rfl) T.range (pa_cons (pe_ix ix_u (pe_uv 2) pe_int (fun _ _ => rfl)) pa_nil)) (blkOk_by (own := [("other", 6)]) (N := N__law_lists) (sc := defScope s__law_lists) (by decide +kernel)) (fun _ _ _ _ _ => (pg_name (i := 6) sc__law_lists.nd rfl (Or.inl rfl))) (fun _ _ _ _ _ => (pts_one (pt_uc (op_uNe hu) (pe_can (h__law_take.can hr) (pa_cons (pe_uv 0) (pa_cons pe_int pa_nil))) pe_int (nomark _)))) (fun _ _ _ _ _ => (pe_uv 6))) (pss_cons (ps_if (pt_uc (op_uEq hu) (pe_can (h__law_take.can hr) (pa_cons (pe_uv 0) (pa_cons pe_int pa_nil))) pe_int (nomark _)) (pss_one (ps_set (i := 5) sc__law_lists.nd rfl (Or.inl rfl) (pe_revL (pe_uv 5)))) pss_nil) (pss_cons (ps_if (pt_uc (op_uEq hu) (pe_can (h__law_take.can hr) (pa_cons (pe_uv 0) (pa_cons pe_int pa_nil))) pe_int (nomark _)) (pss_one (ps_set (i := 5) sc__law_lists.nd rfl (Or.inl rfl) pe_non)) pss_nil) (pss_one (ps_expr (pe_app (pe_uv 3) (pa_cons (pe_uv 5) pa_nil)))))))) (pss_one (ps_ret (pe_uv 3)))))

end L2.WB
namespace L2.WB
open PySem PySem.Spec PyProof.Rows L2.XS
abbrev s__law_asked : Stmt := top 44
abbrev N__law_asked : List Str := ["first", "second", "one", "other", "lists", "due", "least", "told", "some", "handed", "kept", "k", "entry"]
theorem sc__law_asked : FnScope N__law_asked ["first", "second", "one", "other", "lists"] (defScope s__law_asked) := ⟨rfl, rfl, rfl, by decide +kernel, rfl, by decide +kernel, by decide +kernel⟩
def t__law_asked (P : Program) (w : World) (K : PySem.W.Frag) (c : Ad) (p_law_due p_law_same pfirst_leading kpfirst_leading : Sp) (gpleadings : SpG) : TS :=
  (tSeq (tAsg (tCan p_law_due E0 (tCons (uV 2) (tCons (uV 3) (tCons (tC .non) tNil)))) (gName 5)) (tSeq (tAsg (tOp (uIx K) (tOp (uAddA K) (uV 5) (tLst (tCons (tC .non) tNil))) (tC (.int 0))) (gName 6)) (tSeq (tIfS (tNot (uB (tCan p_law_same E0 (tCons (tLst (tCons (tListG (tCallG gpleadings [.non] E0 (tCons (uV 0) (tCons (uV 1) tNil)))) (tCons (tCan pfirst_leading E0 (tCons (uV 0) (tCons (uV 1) tNil))) tNil))) (tCons (tLst (tCons (uV 5) (tCons (uV 6) tNil))) tNil))))) (tRet (tC (.bl false))) tNext) (tSeq (tAsg (tLst (tCons (tListG (tCallGK 2 1 gpleadings (fun vs zs => vs ++ zs) E0 (tCons (uV 0) (tCons (uV 1) tNil)) (tCons (tC .non) tNil))) (tCons (tCallN 2 1 kpfirst_leading (fun vs zs => vs ++ zs) E0 (tCons (uV 0) (tCons (uV 1) tNil)) (tCons (tC .non) tNil)) tNil))) (gName 7)) (tSeq (tIfS (tNot (uB (tCan p_law_same E0 (tCons (uV 7) (tCons (tLst (tCons (uV 5) (tCons (uV 6) tNil))) tNil))))) (tRet (tC (.bl false))) tNext) (tSeq (tAsg (tCan p_law_due E0 (tCons (uV 2) (tCons (uV 3) (tCons (uV 4) tNil)))) (gName 8)) (tSeq (tAsg (tLc (iRng1 (tCons (tOp (uIx K) (uV 2) (tC (.int 0))) tNil)) (gName 11) tYes (tOp (uIx K) (uV 4) (uV 11)) [11]) (gName 9)) (tSeq (tAsg (tLc (iList K (uV 4)) (gName 12) (tB (tNotN (uV 12))) (tCB (uList K) (tCons (uV 12) tNil)) [12]) (gName 10)) (tSeq (tAsg (tLst (tCons (tListG (tCallGK 2 1 gpleadings (fun vs zs => vs ++ zs) E0 (tCons (uV 0) (tCons (uV 1) tNil)) (tCons (uV 9) tNil))) (tCons (tCallN 2 1 kpfirst_leading (fun vs zs => vs ++ zs) E0 (tCons (uV 0) (tCons (uV 1) tNil)) (tCons (uV 9) tNil)) tNil))) (gName 7)) (tSeq (tIfS (tNot (uB (tCan p_law_same E0 (tCons (uV 7) (tCons (tLst (tCons (uV 8) (tCons (tOp (uIx K) (tOp (uAddA K) (uV 8) (tLst (tCons (tC .non) tNil))) (tC (.int 0))) tNil))) tNil))))) (tRet (tC (.bl false))) tNext) (tSeq (tIfS (tOr (uB (tOp (uNe K) (tCB (uLen K) (tCons (uV 9) tNil)) (tOp (uIx K) (uV 2) (tC (.int 0))))) (uB (tOp (uNe K) (tLc (iList K (uV 9)) (gName 12) (tB (tNotN (uV 12))) (uV 12) [12]) (uV 10)))) (tRet (tC (.bl false))) tNext) (tSeq (tIfS (tNot (uB (tCan p_law_same E0 (tCons (tLst (tCons (tListG (tCallG gpleadings [.non] E0 (tCons (uV 0) (tCons (uV 1) tNil)))) (tCons (tCan pfirst_leading E0 (tCons (uV 0) (tCons (uV 1) tNil))) tNil))) (tCons (tLst (tCons (uV 5) (tCons (uV 6) tNil))) tNil))))) (tRet (tC (.bl false))) tNext) (tRet (tCan p_law_same E0 (tCons (tLst (tCons (tFld K (uV 0) "arrows") (tCons (tFld K (uV 1) "arrows") tNil))) (tCons (tLst (tCons (tCB (uTup K) (tCons (tOp (uIx K) (uV 2) (tC (.int 1))) tNil)) (tCons (tCB (uTup K) (tCons (tOp (uIx K) (uV 3) (tC (.int 1))) tNil)) tNil))) tNil))))))))))))))))
theorem d__law_asked {P : Program} {w : World} {K : PySem.W.Frag} {mg : Str → Option Value} {base : Heap} {f : Addr} {cdv : Value} {A : Around} {outer : List Env} {s0 : Shared} {H0 : Hp} {E : XK} {c : Ad} {p_law_due p_law_same pfirst_leading kpfirst_leading : Sp} {gpleadings : SpG} {kf_first_leading : Addr} {kd_first_leading : FuncData} {gf_leadings : Addr} {gd_leadings : FuncData} {gl_leadings : Nat} {ds_leadings : List Value} {k : Nat} (T : Txt K mg c) (hr : Room (k + 1) (X0 P w K mg base N__law_asked "_law_asked" s__law_asked f cdv A outer s0 H0 E).A) (h__law_due : Has P w K mg base CX0 k "_law_due" p_law_due) (h__law_same : Has P w K mg base CX0 k "_law_same" p_law_same) (h_first_leading : Has P w K mg base CX0 k "first_leading" pfirst_leading) (kn_first_leading : mg "first_leading" = some (.ref kf_first_leading) ∧ PySem.W.keepIn K (.ref kf_first_leading) = true ∧ FnOk P w K mg base CX0 k kf_first_leading kd_first_leading ["first", "second", "allowed"] kpfirst_leading) (kk_first_leading : KBn K kd_first_leading ["first", "second", "allowed"] 2 ["allowed"] (fun us ws => us ++ ws) (fun vs zs => vs ++ zs)) (gn_leadings : mg "leadings" = some (.ref gf_leadings) ∧ PySem.W.keepIn K (.ref gf_leadings) = true ∧ GFn P w K mg base gl_leadings gf_leadings gd_leadings ["first", "second", "allowed"] gpleadings) (gr_leadings_ : gl_leadings + 3 ≤ k + 1) (gk_leadings : KBn K gd_leadings ["first", "second", "allowed"] 2 ["allowed"] (fun us ws => us ++ ws) (fun vs zs => vs ++ zs)) (gb_leadings : Binds K gd_leadings ["first", "second", "allowed"] ds_leadings ∧ Vals [V.non] ds_leadings) :
    PSs (X0 P w K mg base N__law_asked "_law_asked" s__law_asked f cdv A outer s0 H0 E) (defBody s__law_asked) (t__law_asked P w K c p_law_due p_law_same pfirst_leading kpfirst_leading gpleadings) := by
  have hu := hu201 hr
  have gr_leadings : Room (gl_leadings + 3) (X0 P w K mg base N__law_asked "_law_asked" s__law_asked f cdv A outer s0 H0 E).A := hr.mono gr_leadings_
  have kr_first_leading : Room (k + 1) (X0 P w K mg base N__law_asked "_law_asked" s__law_asked f cdv A outer s0 H0 E).A := hr
  exact (pss_cons (ps_set (i := 5) sc__law_asked.nd rfl (Or.inl rfl) (pe_can (h__law_due.can hr) (pa_cons (pe_uv 2) (pa_cons (pe_uv 3) (pa_cons pe_non pa_nil))))) (pss_cons (ps_set (i := 6) sc__law_asked.nd rfl (Or.inl rfl) (pe_ix ix_u (pe_op op_uAddA (pe_uv 5) (pe_lst (pa_cons pe_non pa_nil))) pe_int (fun _ _ => rfl))) (pss_cons (ps_if (pt_not (pt_u (pe_can (h__law_same.can hr) (pa_cons (pe_lst (pa_cons (pe_listG (pgen_call gn_leadings.2.2 (gr_leadings.mono (by omega)) (by rfl) gn_leadings.1 gn_leadings.2.1 gb_leadings.1 gb_leadings.2 (pa_cons (pe_uv 0) (pa_cons (pe_uv 1) pa_nil))) passX0 nostop0 (gr_leadings) (by rfl) T.list (by decide +kernel)) (pa_cons (pe_can (h_first_leading.can hr) (pa_cons (pe_uv 0) (pa_cons (pe_uv 1) pa_nil))) pa_nil))) (pa_cons (pe_lst (pa_cons (pe_uv 5) (pa_cons (pe_uv 6) pa_nil))) pa_nil))))) (pss_one (ps_ret pe_bl)) pss_nil) (pss_cons (ps_set (i := 7) sc__law_asked.nd rfl (Or.inl rfl) (pe_lst (pa_cons (pe_listG (pgen_callK gn_leadings.2.2 (gr_leadings.mono (by omega)) (by rfl) gn_leadings.1 gn_leadings.2.1 gk_leadings (pa_cons (pe_uv 0) (pa_cons (pe_uv 1) pa_nil)) (pk_cons pe_non pk_nil)) passX0 nostop0 (gr_leadings) (by rfl) T.list (by decide +kernel)) (pa_cons (pe_callN kn_first_leading.2.2 (kr_first_leading.mono (by omega)) (by rfl) kn_first_leading.1 kn_first_leading.2.1 kk_first_leading pass0 (pa_cons (pe_uv 0) (pa_cons (pe_uv 1) pa_nil)) (pk_cons pe_non pk_nil)) pa_nil)))) (pss_cons (ps_if (pt_not (pt_u (pe_can (h__law_same.can hr) (pa_cons (pe_uv 7) (pa_cons (pe_lst (pa_cons (pe_uv 5) (pa_cons (pe_uv 6) pa_nil))) pa_nil))))) (pss_one (ps_ret pe_bl)) pss_nil) (pss_cons (ps_set (i := 8) sc__law_asked.nd rfl (Or.inl rfl) (pe_can (h__law_due.can hr) (pa_cons (pe_uv 2) (pa_cons (pe_uv 3) (pa_cons (pe_uv 4) pa_nil))))) (pss_cons (ps_setLc (i := 9) (own := [("k", 11)]) (g := (gName 11)) (tt := tYes) rfl sc__law_asked.nd rfl rfl (sw_true rfl rfl rfl (by decide +kernel)) (pi_range1 (by rfl) T.range (pa_cons (pe_ix ix_u (pe_uv 2) pe_int (fun _ _ => rfl)) pa_nil)) (blkOk_by (own := [("k", 11)]) (N := N__law_asked) (sc := defScope s__law_asked) (by decide +kernel)) (fun _ _ _ _ _ => (pg_name (i := 11) sc__law_asked.nd rfl (Or.inl rfl))) (fun _ _ _ _ _ => pts_nil) (fun _ _ _ _ _ => (pe_ix ix_u (pe_uv 4) (pe_uv 11) (fun _ _ => rfl)))) (pss_cons (ps_setLc (i := 10) (own := [("entry", 12)]) (g := (gName 12)) (tt := (tB (tNotN (uV 12)))) rfl sc__law_asked.nd rfl rfl (sw_true rfl rfl rfl (by decide +kernel)) (pi_list (pe_uv 4)) (blkOk_by (own := [("entry", 12)]) (N := N__law_asked) (sc := defScope s__law_asked) (by decide +kernel)) (fun _ _ _ _ _ => (pg_name (i := 12) sc__law_asked.nd rfl (Or.inl rfl))) (fun _ _ _ _ _ => (pts_one (pt_cmp (pc_notN (pe_uv 12))))) (fun _ _ _ _ _ => (pe_callTy cr_uList (by rfl) T.list (by decide +kernel) (pa_cons (pe_uv 12) pa_nil)))) (pss_cons (ps_set (i := 7) sc__law_asked.nd rfl (Or.inl rfl) (pe_lst (pa_cons (pe_listG (pgen_callK gn_leadings.2.2 (gr_leadings.mono (by omega)) (by rfl) gn_leadings.1 gn_leadings.2.1 gk_leadings (pa_cons (pe_uv 0) (pa_cons (pe_uv 1) pa_nil)) (pk_cons (pe_uv 9) pk_nil)) passX0 nostop0 (gr_leadings) (by rfl) T.list (by decide +kernel)) (pa_cons (pe_callN kn_first_leading.2.2 (kr_first_leading.mono (by omega)) (by rfl) kn_first_leading.1 kn_first_leading.2.1 kk_first_leading pass0 (pa_cons (pe_uv 0) (pa_cons (pe_uv 1) pa_nil)) (pk_cons (pe_uv 9) pk_nil)) pa_nil)))) (pss_cons (ps_if (pt_not (pt_u (pe_can (h__law_same.can hr) (pa_cons (pe_uv 7) (pa_cons (pe_lst (pa_cons (pe_uv 8) (pa_cons (pe_ix ix_u (pe_op op_uAddA (pe_uv 8) (pe_lst (pa_cons pe_non pa_nil))) pe_int (fun _ _ => rfl)) pa_nil))) pa_nil))))) (pss_one (ps_ret pe_bl)) pss_nil) (pss_cons (ps_if (PW.pt (pw_or (pt_uc (op_uNe hu) (pe_callB cr_uLen (by rfl) T.len (by decide +kernel) (pa_cons (pe_uv 9) pa_nil)) (pe_ix ix_u (pe_uv 2) pe_int (fun _ _ => rfl)) (nomark _)) (pw_or1 (pt_uc (op_uNe hu) (pe_lc (own := [("entry", 12)]) (g := (gName 12)) (tt := (tB (tNotN (uV 12)))) rfl sc__law_asked.nd (pi_list (pe_uv 9)) (blkOk_by (own := [("entry", 12)]) (N := N__law_asked) (sc := defScope s__law_asked) (by decide +kernel)) (fun _ _ _ _ _ => (pg_name (i := 12) sc__law_asked.nd rfl (Or.inl rfl))) (fun _ _ _ _ _ => (pts_one (pt_cmp (pc_notN (pe_uv 12))))) (fun _ _ _ _ _ => (pe_uv 12))) (pe_uv 10) (nomark _))))) (pss_one (ps_ret pe_bl)) pss_nil) (pss_cons (ps_if (pt_not (pt_u (pe_can (h__law_same.can hr) (pa_cons (pe_lst (pa_cons (pe_listG (pgen_call gn_leadings.2.2 (gr_leadings.mono (by omega)) (by rfl) gn_leadings.1 gn_leadings.2.1 gb_leadings.1 gb_leadings.2 (pa_cons (pe_uv 0) (pa_cons (pe_uv 1) pa_nil))) passX0 nostop0 (gr_leadings) (by rfl) T.list (by decide +kernel)) (pa_cons (pe_can (h_first_leading.can hr) (pa_cons (pe_uv 0) (pa_cons (pe_uv 1) pa_nil))) pa_nil))) (pa_cons (pe_lst (pa_cons (pe_uv 5) (pa_cons (pe_uv 6) pa_nil))) pa_nil))))) (pss_one (ps_ret pe_bl)) pss_nil) (pss_one (ps_ret (pe_can (h__law_same.can hr) (pa_cons (pe_lst (pa_cons (pe_fld (pe_uv 0) rfl) (pa_cons (pe_fld (pe_uv 1) rfl) pa_nil))) (pa_cons (pe_lst (pa_cons (pe_callTy cr_uTup (by rfl) T.tuple (by decide +kernel) (pa_cons (pe_ix ix_u (pe_uv 2) pe_int (fun _ _ => rfl)) pa_nil)) (pa_cons (pe_callTy cr_uTup (by rfl) T.tuple (by decide +kernel) (pa_cons (pe_ix ix_u (pe_uv 3) pe_int (fun _ _ => rfl)) pa_nil)) pa_nil))) pa_nil)))))))))))))))))

abbrev s__law_chain : Stmt := top 45
abbrev N__law_chain : List Str := ["many", "size", "last", "letters", "signs", "chain", "circle", "marks", "ring", "due", "lists", "one", "told", "bare", "left", "k", "start", "row"]
theorem sc__law_chain : FnScope N__law_chain ["many", "size", "last", "letters", "signs"] (defScope s__law_chain) := ⟨rfl, rfl, rfl, by decide +kernel, rfl, by decide +kernel, by decide +kernel⟩
def t__law_chain (P : Program) (w : World) (K : PySem.W.Frag) (c : Ad) (p_law_same pfirst_leading kpfirst_leading mWeb : Sp) (gpleadings : SpG) : TS :=
  (tSeq (tAsg (StX.tMakeR c.Web mWeb E0 (tCons (uV 0) (tCons (tLc (iRng1 (tCons (tOp (uSub) (uV 0) (tC (.int 1))) tNil)) (gName 15) tYes (tTup (tCons (uV 15) (tCons (tOp (uIx K) (uV 3) (tC (.int 0))) (tCons (tOp (uAddA K) (uV 15) (tC (.int 1))) tNil)))) [15]) (tCons (tLst (tCons (tTup (tCons (tOp (uSub) (uV 0) (tC (.int 1))) (tCons (tOp (uIx K) (uV 4) (tC (.int 0))) tNil))) tNil)) tNil)))) (gName 5)) (tSeq (tAsg (tLc (iRng1 (tCons (uV 1) tNil)) (gName 15) tYes (tTup (tCons (uV 15) (tCons (tOp (uIx K) (uV 3) (tC (.int 0))) (tCons (tOp (uMod) (tCB (uInt) (tCons (tOp (uAddA K) (uV 15) (tC (.int 1))) tNil)) (uV 1)) tNil)))) [15]) (gName 6)) (tSeq (tAsg (tLc (iRng1 (tCons (uV 1) tNil)) (gName 15) tYes (tTup (tCons (uV 15) (tCons (tOp (uIx K) (uV 4) (tC (.int 0))) tNil))) [15]) (gName 7)) (tSeq (tAsg (StX.tMakeR c.Web mWeb E0 (tCons (uV 1) (tCons (tCB (uList K) (tCons (uV 6) tNil)) (tCons (tCB (uList K) (tCons (uV 7) tNil)) tNil)))) (gName 8)) (tSeq (tAsg (tLc (iRng1 (tCons (uV 1) tNil)) (gName 16) tYes (tCB (uTup K) (tCons (tLc (iRng1 (tCons (uV 0) tNil)) (gName 15) tYes (tOp (uMod) (tCB (uInt) (tCons (tOp (uAddA K) (uV 16) (uV 15)) tNil)) (uV 1)) [15]) tNil)) [16]) (gName 9)) (tSeq (tIfS (tNot (uB (tCan p_law_same E0 (tCons (tLst (tCons (tListG (tCallG gpleadings [.non] E0 (tCons (uV 5) (tCons (uV 8) tNil)))) (tCons (tCan pfirst_leading E0 (tCons (uV 5) (tCons (uV 8) tNil))) tNil))) (tCons (tLst (tCons (uV 9) (tCons (tOp (uIx K) (uV 9) (tC (.int 0))) tNil))) tNil))))) (tRet (tC (.bl false))) tNext) (tSeq (tAsg (tOp (uAddA K) (tLc (iRng1 (tCons (tOp (uSub) (uV 0) (tC (.int 1))) tNil)) (gName 15) tYes (tC .non) [15]) (tLst (tCons (tLst (tCons (uV 2) tNil)) tNil))) (gName 10)) (tSeq (tAsg (tLc (iList K (uV 9)) (gName 17) (uB (tOp (uEq K) (tOp (uIx K) (uV 17) (tOp (uSub) (uV 0) (tC (.int 1)))) (uV 2))) (uV 17) [17]) (gName 11)) (tSeq (tAsg (tLst (tCons (tListG (tCallGK 2 1 gpleadings (fun vs zs => vs ++ zs) E0 (tCons (uV 5) (tCons (uV 8) tNil)) (tCons (uV 10) tNil))) (tCons (tCallN 2 1 kpfirst_leading (fun vs zs => vs ++ zs) E0 (tCons (uV 5) (tCons (uV 8) tNil)) (tCons (uV 10) tNil)) tNil))) (gName 12)) (tSeq (tIfS (tNot (uB (tCan p_law_same E0 (tCons (uV 12) (tCons (tLst (tCons (uV 11) (tCons (tOp (uIx K) (uV 11) (tC (.int 0))) tNil))) tNil))))) (tRet (tC (.bl false))) tNext) (tSeq (tAsg (StX.tMakeR c.Web mWeb E0 (tCons (uV 1) (tCons (tCB (uList K) (tCons (uV 6) tNil)) (tCons (tOp (uAddA K) (tSl (uSl K) (uV 7) tNoPart (tPart (uV 2))) (tSl (uSl K) (uV 7) (tPart (tOp (uAddA K) (uV 2) (tC (.int 1)))) tNoPart)) tNil)))) (gName 13)) (tSeq (tAsg (tLc (iList K (uV 9)) (gName 17) (uB (tOp (uNe K) (tOp (uIx K) (uV 17) (tOp (uSub) (uV 0) (tC (.int 1)))) (uV 2))) (uV 17) [17]) (gName 14)) (tSeq (tIfS (tNot (uB (tCan p_law_same E0 (tCons (tLst (tCons (tListG (tCallG gpleadings [.non] E0 (tCons (uV 5) (tCons (uV 13) tNil)))) (tCons (tCan pfirst_leading E0 (tCons (uV 5) (tCons (uV 13) tNil))) tNil))) (tCons (tLst (tCons (uV 14) (tCons (tOp (uIx K) (tOp (uAddA K) (uV 14) (tLst (tCons (tC .non) tNil))) (tC (.int 0))) tNil))) tNil))))) (tRet (tC (.bl false))) tNext) (tSeq (tAsg (tLst tNil) (gSub (uV 10) (tOp (uSub) (uV 0) (tC (.int 1))) rSetL)) (tSeq (tAsg (tLst (tCons (tListG (tCallGK 2 1 gpleadings (fun vs zs => vs ++ zs) E0 (tCons (uV 5) (tCons (uV 8) tNil)) (tCons (uV 10) tNil))) (tCons (tCallN 2 1 kpfirst_leading (fun vs zs => vs ++ zs) E0 (tCons (uV 5) (tCons (uV 8) tNil)) (tCons (uV 10) tNil)) tNil))) (gName 12)) (tRet (tCan p_law_same E0 (tCons (uV 12) (tCons (tLst (tCons (tLst tNil) (tCons (tC .non) tNil))) tNil)))))))))))))))))))
theorem d__law_chain {P : Program} {w : World} {K : PySem.W.Frag} {mg : Str → Option Value} {base : Heap} {f : Addr} {cdv : Value} {A : Around} {outer : List Env} {s0 : Shared} {H0 : Hp} {E : XK} {c : Ad} {p_law_same pfirst_leading kpfirst_leading mWeb : Sp} {gpleadings : SpG} {kf_first_leading : Addr} {kd_first_leading : FuncData} {gf_leadings : Addr} {gd_leadings : FuncData} {gl_leadings : Nat} {ds_leadings : List Value} {k : Nat} (T : Txt K mg c) (hr : Room (k + 1) (X0 P w K mg base N__law_chain "_law_chain" s__law_chain f cdv A outer s0 H0 E).A) (h__law_same : Has P w K mg base CX0 k "_law_same" p_law_same) (h_first_leading : Has P w K mg base CX0 k "first_leading" pfirst_leading) (kn_first_leading : mg "first_leading" = some (.ref kf_first_leading) ∧ PySem.W.keepIn K (.ref kf_first_leading) = true ∧ FnOk P w K mg base CX0 k kf_first_leading kd_first_leading ["first", "second", "allowed"] kpfirst_leading) (kk_first_leading : KBn K kd_first_leading ["first", "second", "allowed"] 2 ["allowed"] (fun us ws => us ++ ws) (fun vs zs => vs ++ zs)) (m_Web : HasMk P w K mg base CX0 k "Web" c.Web mWeb) (gn_leadings : mg "leadings" = some (.ref gf_leadings) ∧ PySem.W.keepIn K (.ref gf_leadings) = true ∧ GFn P w K mg base gl_leadings gf_leadings gd_leadings ["first", "second", "allowed"] gpleadings) (gr_leadings_ : gl_leadings + 3 ≤ k + 1) (gk_leadings : KBn K gd_leadings ["first", "second", "allowed"] 2 ["allowed"] (fun us ws => us ++ ws) (fun vs zs => vs ++ zs)) (gb_leadings : Binds K gd_leadings ["first", "second", "allowed"] ds_leadings ∧ Vals [V.non] ds_leadings) :
    PSs (X0 P w K mg base N__law_chain "_law_chain" s__law_chain f cdv A outer s0 H0 E) (defBody s__law_chain) (t__law_chain P w K c p_law_same pfirst_leading kpfirst_leading mWeb gpleadings) := by
  have hu := hu201 hr
  have gr_leadings : Room (gl_leadings + 3) (X0 P w K mg base N__law_chain "_law_chain" s__law_chain f cdv A outer s0 H0 E).A := hr.mono gr_leadings_
  have kr_first_leading : Room (k + 1) (X0 P w K mg base N__law_chain "_law_chain" s__law_chain f cdv A outer s0 H0 E).A := hr
  exact (pss_cons (ps_set (i := 5) sc__law_chain.nd rfl (Or.inl rfl) (pe_mk (m_Web.can0 hr) (pa_cons (pe_uv 0) (pa_cons (pe_lc (own := [("k", 15)]) (g := (gName 15)) (tt := tYes) rfl sc__law_chain.nd (pi_range1 (by rfl) T.range (pa_cons (pe_op op_uSub (pe_uv 0) pe_int) pa_nil)) (blkOk_by (own := [("k", 15)]) (N := N__law_chain) (sc := defScope s__law_chain) (by decide +kernel)) (fun _ _ _ _ _ => (pg_name (i := 15) sc__law_chain.nd rfl (Or.inl rfl))) (fun _ _ _ _ _ => pts_nil) (fun _ _ _ _ _ => (pe_tup (pa_cons (pe_uv 15) (pa_cons (pe_ix ix_u (pe_uv 3) pe_int (fun _ _ => rfl)) (pa_cons (pe_op op_uAddA (pe_uv 15) pe_int) pa_nil)))))) (pa_cons (pe_lst (pa_cons (pe_tup (pa_cons (pe_op op_uSub (pe_uv 0) pe_int) (pa_cons (pe_ix ix_u (pe_uv 4) pe_int (fun _ _ => rfl)) pa_nil))) pa_nil)) pa_nil))))) (pss_cons (ps_setLc (i := 6) (own := [("k", 15)]) (g := (gName 15)) (tt := tYes) rfl sc__law_chain.nd rfl rfl (sw_true rfl rfl rfl (by decide +kernel)) (pi_range1 (by rfl) T.range (pa_cons (pe_uv 1) pa_nil)) (blkOk_by (own := [("k", 15)]) (N := N__law_chain) (sc := defScope s__law_chain) (by decide +kernel)) (fun _ _ _ _ _ => (pg_name (i := 15) sc__law_chain.nd rfl (Or.inl rfl))) (fun _ _ _ _ _ => pts_nil) (fun _ _ _ _ _ => (pe_tup (pa_cons (pe_uv 15) (pa_cons (pe_ix ix_u (pe_uv 3) pe_int (fun _ _ => rfl)) (pa_cons (pe_op op_uMod (pe_callTy cr_uInt (by rfl) T.int (by decide +kernel) (pa_cons (pe_op op_uAddA (pe_uv 15) pe_int) pa_nil)) (pe_uv 1)) pa_nil)))))) (pss_cons (ps_setLc (i := 7) (own := [("k", 15)]) (g := (gName 15)) (tt := tYes) rfl sc__law_chain.nd rfl rfl (sw_true rfl rfl rfl (by decide +kernel)) (pi_range1 (by rfl) T.range (pa_cons (pe_uv 1) pa_nil)) (blkOk_by (own := [("k", 15)]) (N := N__law_chain) (sc := defScope s__law_chain) (by decide +kernel)) (fun _ _ _ _ _ => (pg_name (i := 15) sc__law_chain.nd rfl (Or.inl rfl))) (fun _ _ _ _ _ => pts_nil) (fun _ _ _ _ _ => (pe_tup (pa_cons (pe_uv 15) (pa_cons (pe_ix ix_u (pe_uv 4) pe_int (fun _ _ => rfl)) pa_nil))))) (pss_cons (ps_set (i := 8) sc__law_chain.nd rfl (Or.inl rfl) (pe_mk (m_Web.can0 hr) (pa_cons (pe_uv 1) (pa_cons (pe_callTy cr_uList (by rfl) T.list (by decide +kernel) (pa_cons (pe_uv 6) pa_nil)) (pa_cons (pe_callTy cr_uList (by rfl) T.list (by decide +kernel) (pa_cons (pe_uv 7) pa_nil)) pa_nil))))) (pss_cons (ps_setLc (i := 9) (own := [("start", 16)]) (g := (gName 16)) (tt := tYes) rfl sc__law_chain.nd rfl rfl (sw_true rfl rfl rfl (by decide +kernel)) (pi_range1 (by rfl) T.range (pa_cons (pe_uv 1) pa_nil)) (blkOk_by (own := [("start", 16)]) (N := N__law_chain) (sc := defScope s__law_chain) (by decide +kernel)) (fun _ _ _ _ _ => (pg_name (i := 16) sc__law_chain.nd rfl (Or.inr rfl))) (fun _ _ _ _ _ => pts_nil) (fun _ _ _ _ _ => (pe_callTy cr_uTup (by rfl) T.tuple (by decide +kernel) (pa_cons (pe_lc (own := [("k", 15)]) (g := (gName 15)) (tt := tYes) rfl sc__law_chain.nd (pi_range1 (by rfl) T.range (pa_cons (pe_uv 0) pa_nil)) (blkOk_by (own := [("k", 15)]) (N := N__law_chain) (by rfl)) (fun _ _ _ _ _ => (pg_name (i := 15) sc__law_chain.nd rfl (Or.inl rfl))) (fun _ _ _ _ _ => pts_nil) (fun _ _ _ _ _ => (pe_op op_uMod (pe_callTy cr_uInt (by rfl) T.int (by decide +kernel) (pa_cons (pe_op op_uAddA (pe_uv 16) (pe_uv 15)) pa_nil)) (pe_uv 1)))) pa_nil)))) (pss_cons (ps_if (pt_not (pt_u (pe_can (h__law_same.can hr) (pa_cons (pe_lst (pa_cons (pe_listG (pgen_call gn_leadings.2.2 (gr_leadings.mono (by omega)) (by rfl) gn_leadings.1 gn_leadings.2.1 gb_leadings.1 gb_leadings.2 (pa_cons (pe_uv 5) (pa_cons (pe_uv 8) pa_nil))) passX0 nostop0 (gr_leadings) (by rfl) T.list (by decide +kernel)) (pa_cons (pe_can (h_first_leading.can hr) (pa_cons (pe_uv 5) (pa_cons (pe_uv 8) pa_nil))) pa_nil))) (pa_cons (pe_lst (pa_cons (pe_uv 9) (pa_cons (pe_ix ix_u (pe_uv 9) pe_int (fun _ _ => rfl)) pa_nil))) pa_nil))))) (pss_one (ps_ret pe_bl)) pss_nil) (pss_cons (ps_set (i := 10) sc__law_chain.nd rfl (Or.inl rfl) (pe_op op_uAddA (pe_lc (own := [("k", 15)]) (g := (gName 15)) (tt := tYes) rfl sc__law_chain.nd (pi_range1 (by rfl) T.range (pa_cons (pe_op op_uSub (pe_uv 0) pe_int) pa_nil)) (blkOk_by (own := [("k", 15)]) (N := N__law_chain) (sc := defScope s__law_chain) (by decide +kernel)) (fun _ _ _ _ _ => (pg_name (i := 15) sc__law_chain.nd rfl (Or.inl rfl))) (fun _ _ _ _ _ => pts_nil) (fun _ _ _ _ _ => pe_non)) (pe_lst (pa_cons (pe_lst (pa_cons (pe_uv 2) pa_nil)) pa_nil)))) (pss_cons (ps_setLc (i := 11) (own := [("row", 17)]) (g := (gName 17)) (tt := (uB (tOp (uEq K) (tOp (uIx K) (uV 17) (tOp (uSub) (uV 0) (tC (.int 1)))) (uV 2)))) rfl sc__law_chain.nd rfl rfl (sw_true rfl rfl rfl (by decide +kernel)) (pi_list (pe_uv 9)) (blkOk_by (own := [("row", 17)]) (N := N__law_chain) (sc := defScope s__law_chain) (by decide +kernel)) (fun _ _ _ _ _ => (pg_name (i := 17) sc__law_chain.nd rfl (Or.inl rfl))) (fun _ _ _ _ _ => (pts_one (pt_uc (op_uEq hu) (pe_ix ix_u (pe_uv 17) (pe_op op_uSub (pe_uv 0) pe_int) (fun _ _ => rfl)) (pe_uv 2) (nomark _)))) (fun _ _ _ _ _ => (pe_uv 17))) (pss_cons (ps_set (i := 12) sc__law_chain.nd rfl (Or.inl rfl) (pe_lst (pa_cons (pe_listG (pgen_callK gn_leadings.2.2 (gr_leadings.mono (by omega)) (by rfl) gn_leadings.1 gn_leadings.2.1 gk_leadings (pa_cons (pe_uv 5) (pa_cons (pe_uv 8) pa_nil)) (pk_cons (pe_uv 10) pk_nil)) passX0 nostop0 (gr_leadings) (by rfl) T.list (by decide +kernel)) (pa_cons (pe_callN kn_first_leading.2.2 (kr_first_leading.mono (by omega)) (by rfl) kn_first_leading.1 kn_first_leading.2.1 kk_first_leading pass0 (pa_cons (pe_uv 5) (pa_cons (pe_uv 8) pa_nil)) (pk_cons (pe_uv 10) pk_nil)) pa_nil)))) (pss_cons (ps_if (pt_not (pt_u (pe_can (h__law_same.can hr) (pa_cons (pe_uv 12) (pa_cons (pe_lst (pa_cons (pe_uv 11) (pa_cons (pe_ix ix_u (pe_uv 11) pe_int (fun _ _ => rfl)) pa_nil))) pa_nil))))) (pss_one (ps_ret pe_bl)) pss_nil) (pss_cons (ps_set (i := 13) sc__law_chain.nd rfl (Or.inl rfl) (pe_mk (m_Web.can0 hr) (pa_cons (pe_uv 1) (pa_cons (pe_callTy cr_uList (by rfl) T.list (by decide +kernel) (pa_cons (pe_uv 6) pa_nil)) (pa_cons (pe_op op_uAddA (pe_slice sl_u (pe_uv 7) po_none (po_some (pe_uv 2))) (pe_slice sl_u (pe_uv 7) (po_some (pe_op op_uAddA (pe_uv 2) pe_int)) po_none)) pa_nil))))) (pss_cons (ps_setLc (i := 14) (own := [("row", 17)]) (g := (gName 17)) (tt := (uB (tOp (uNe K) (tOp (uIx K) (uV 17) (tOp (uSub) (uV 0) (tC (.int 1)))) (uV 2)))) rfl sc__law_chain.nd rfl rfl (sw_true rfl rfl rfl (by decide +kernel)) (pi_list (pe_uv 9)) (blkOk_by (own := [("row", 17)]) (N := N__law_chain) (sc := defScope s__law_chain) (by decide +kernel)) (fun _ _ _ _ _ => (pg_name (i := 17) sc__law_chain.nd rfl (Or.inl rfl))) (fun _ _ _ _ _ => (pts_one (pt_uc (op_uNe hu) (pe_ix ix_u (pe_uv 17) (pe_op op_uSub (pe_uv 0) pe_int) (fun _ _ => rfl)) (pe_uv 2) (nomark _)))) (fun _ _ _ _ _ => (pe_uv 17))) (pss_cons (ps_if (pt_not (pt_u (pe_can (h__law_same.can hr) (pa_cons (pe_lst (pa_cons (pe_listG (pgen_call gn_leadings.2.2 (gr_leadings.mono (by omega)) (by rfl) gn_leadings.1 gn_leadings.2.1 gb_leadings.1 gb_leadings.2 (pa_cons (pe_uv 5) (pa_cons (pe_uv 13) pa_nil))) passX0 nostop0 (gr_leadings) (by rfl) T.list (by decide +kernel)) (pa_cons (pe_can (h_first_leading.can hr) (pa_cons (pe_uv 5) (pa_cons (pe_uv 13) pa_nil))) pa_nil))) (pa_cons (pe_lst (pa_cons (pe_uv 14) (pa_cons (pe_ix ix_u (pe_op op_uAddA (pe_uv 14) (pe_lst (pa_cons pe_non pa_nil))) pe_int (fun _ _ => rfl)) pa_nil))) pa_nil))))) (pss_one (ps_ret pe_bl)) pss_nil) (pss_cons (ps_asg (pe_lst pa_nil) (pg_sub (pe_uv 10) (pe_op op_uSub (pe_uv 0) pe_int) set_list)) (pss_cons (ps_set (i := 12) sc__law_chain.nd rfl (Or.inl rfl) (pe_lst (pa_cons (pe_listG (pgen_callK gn_leadings.2.2 (gr_leadings.mono (by omega)) (by rfl) gn_leadings.1 gn_leadings.2.1 gk_leadings (pa_cons (pe_uv 5) (pa_cons (pe_uv 8) pa_nil)) (pk_cons (pe_uv 10) pk_nil)) passX0 nostop0 (gr_leadings) (by rfl) T.list (by decide +kernel)) (pa_cons (pe_callN kn_first_leading.2.2 (kr_first_leading.mono (by omega)) (by rfl) kn_first_leading.1 kn_first_leading.2.1 kk_first_leading pass0 (pa_cons (pe_uv 5) (pa_cons (pe_uv 8) pa_nil)) (pk_cons (pe_uv 10) pk_nil)) pa_nil)))) (pss_one (ps_ret (pe_can (h__law_same.can hr) (pa_cons (pe_uv 12) (pa_cons (pe_lst (pa_cons (pe_lst pa_nil) (pa_cons pe_non pa_nil))) pa_nil))))))))))))))))))))

abbrev s__law_fixed : Stmt := top 46
abbrev N__law_fixed : List Str := ["letters", "point", "loop", "pair", "told"]
theorem sc__law_fixed : FnScope N__law_fixed ["letters"] (defScope s__law_fixed) := ⟨rfl, rfl, rfl, by decide +kernel, rfl, by decide +kernel, by decide +kernel⟩
def t__law_fixed (P : Program) (w : World) (K : PySem.W.Frag) (c : Ad) (pfirst_leading p_law_same mWeb : Sp) (gpleadings : SpG) : TS :=
  (tSeq (tAsg (StX.tMakeR c.Web mWeb E0 (tCons (tC (.int 1)) tNil)) (gName 1)) (tSeq (tAsg (StX.tMakeR c.Web mWeb E0 (tCons (tC (.int 1)) (tCons (tLst (tCons (tTup (tCons (tC (.int 0)) (tCons (tOp (uIx K) (uV 0) (tC (.int 0))) (tCons (tC (.int 0)) tNil)))) tNil)) tNil))) (gName 2)) (tSeq (tAsg (StX.tMakeR c.Web mWeb E0 (tCons (tC (.int 2)) (tCons (tLst (tCons (tTup (tCons (tC (.int 0)) (tCons (tOp (uIx K) (uV 0) (tC (.int 0))) (tCons (tC (.int 1)) tNil)))) tNil)) tNil))) (gName 3)) (tSeq (tAsg (tLst (tCons (tListG (tCallG gpleadings [.non] E0 (tCons (uV 1) (tCons (uV 3) tNil)))) (tCons (tListG (tCallG gpleadings [.non] E0 (tCons (uV 3) (tCons (uV 2) tNil)))) (tCons (tListG (tCallG gpleadings [.non] E0 (tCons (uV 2) (tCons (uV 3) tNil)))) tNil)))) (gName 4)) (tSeq (tAsg (tOp (uAddA K) (uV 4) (tLst (tCons (tCan pfirst_leading E0 (tCons (uV 3) (tCons (uV 2) tNil))) (tCons (tCan pfirst_leading E0 (tCons (uV 2) (tCons (uV 3) tNil))) (tCons (tCan pfirst_leading E0 (tCons (uV 2) (tCons (StX.tMakeR c.Web mWeb E0 (tCons (tC (.int 1)) (tCons (tLst (tCons (tTup (tCons (tC (.int 0)) (tCons (tOp (uIx K) (uV 0) (tC (.int 1))) (tCons (tC (.int 0)) tNil)))) tNil)) tNil))) tNil))) tNil))))) (gName 4)) (tRet (tCan p_law_same E0 (tCons (uV 4) (tCons (tLst (tCons (tLst (tCons (tTup (tCons (tC (.int 0)) tNil)) (tCons (tTup (tCons (tC (.int 1)) tNil)) tNil))) (tCons (tLst (tCons (tTup (tCons (tC (.int 0)) (tCons (tC (.int 0)) tNil))) tNil)) (tCons (tLst tNil) (tCons (tTup (tCons (tC (.int 0)) (tCons (tC (.int 0)) tNil))) (tCons (tC .non) (tCons (tC .non) tNil))))))) tNil)))))))))
theorem d__law_fixed {P : Program} {w : World} {K : PySem.W.Frag} {mg : Str → Option Value} {base : Heap} {f : Addr} {cdv : Value} {A : Around} {outer : List Env} {s0 : Shared} {H0 : Hp} {E : XK} {c : Ad} {pfirst_leading p_law_same mWeb : Sp} {gpleadings : SpG} {gf_leadings : Addr} {gd_leadings : FuncData} {gl_leadings : Nat} {ds_leadings : List Value} {k : Nat} (T : Txt K mg c) (hr : Room (k + 1) (X0 P w K mg base N__law_fixed "_law_fixed" s__law_fixed f cdv A outer s0 H0 E).A) (h_first_leading : Has P w K mg base CX0 k "first_leading" pfirst_leading) (h__law_same : Has P w K mg base CX0 k "_law_same" p_law_same) (m_Web : HasMk P w K mg base CX0 k "Web" c.Web mWeb) (gn_leadings : mg "leadings" = some (.ref gf_leadings) ∧ PySem.W.keepIn K (.ref gf_leadings) = true ∧ GFn P w K mg base gl_leadings gf_leadings gd_leadings ["first", "second", "allowed"] gpleadings) (gr_leadings_ : gl_leadings + 3 ≤ k + 1) (gb_leadings : Binds K gd_leadings ["first", "second", "allowed"] ds_leadings ∧ Vals [V.non] ds_leadings) :
    PSs (X0 P w K mg base N__law_fixed "_law_fixed" s__law_fixed f cdv A outer s0 H0 E) (defBody s__law_fixed) (t__law_fixed P w K c pfirst_leading p_law_same mWeb gpleadings) := by
  have gr_leadings : Room (gl_leadings + 3) (X0 P w K mg base N__law_fixed "_law_fixed" s__law_fixed f cdv A outer s0 H0 E).A := hr.mono gr_leadings_
  exact (pss_cons (ps_set (i := 1) sc__law_fixed.nd rfl (Or.inl rfl) (pe_mk (m_Web.can0 hr) (pa_cons pe_int pa_nil))) (pss_cons (ps_set (i := 2) sc__law_fixed.nd rfl (Or.inl rfl) (pe_mk (m_Web.can0 hr) (pa_cons pe_int (pa_cons (pe_lst (pa_cons (pe_tup (pa_cons pe_int (pa_cons (pe_ix ix_u (pe_uv 0) pe_int (fun _ _ => rfl)) (pa_cons pe_int pa_nil)))) pa_nil)) pa_nil)))) (pss_cons (ps_set (i := 3) sc__law_fixed.nd rfl (Or.inl rfl) (pe_mk (m_Web.can0 hr) (pa_cons pe_int (pa_cons (pe_lst (pa_cons (pe_tup (pa_cons pe_int (pa_cons (pe_ix ix_u (pe_uv 0) pe_int (fun _ _ => rfl)) (pa_cons pe_int pa_nil)))) pa_nil)) pa_nil)))) (pss_cons (ps_set (i := 4) sc__law_fixed.nd rfl (Or.inl rfl) (pe_lst (pa_cons (pe_listG (pgen_call gn_leadings.2.2 (gr_leadings.mono (by omega)) (by rfl) gn_leadings.1 gn_leadings.2.1 gb_leadings.1 gb_leadings.2 (pa_cons (pe_uv 1) (pa_cons (pe_uv 3) pa_nil))) passX0 nostop0 (gr_leadings) (by rfl) T.list (by decide +kernel)) (pa_cons (pe_listG (pgen_call gn_leadings.2.2 (gr_leadings.mono (by omega)) (by rfl) gn_leadings.1 gn_leadings.2.1 gb_leadings.1 gb_leadings.2 (pa_cons (pe_uv 3) (pa_cons (pe_uv 2) pa_nil))) passX0 nostop0 (gr_leadings) (by rfl) T.list (by decide +kernel)) (pa_cons (pe_listG (pgen_call gn_leadings.2.2 (gr_leadings.mono (by omega)) (by rfl) gn_leadings.1 gn_leadings.2.1 gb_leadings.1 gb_leadings.2 (pa_cons (pe_uv 2) (pa_cons (pe_uv 3) pa_nil))) passX0 nostop0 (gr_leadings) (by rfl) T.list (by decide +kernel)) pa_nil))))) (pss_cons (ps_set (i := 4) sc__law_fixed.nd rfl (Or.inl rfl) (pe_op op_uAddA (pe_uv 4) (pe_lst (pa_cons (pe_can (h_first_leading.can hr) (pa_cons (pe_uv 3) (pa_cons (pe_uv 2) pa_nil))) (pa_cons (pe_can (h_first_leading.can hr) (pa_cons (pe_uv 2) (pa_cons (pe_uv 3) pa_nil))) (pa_cons (pe_can (h_first_leading.can hr) (pa_cons (pe_uv 2) (pa_cons (pe_mk (m_Web.can0 hr) (pa_cons pe_int (pa_cons (pe_lst (pa_cons (pe_tup (pa_cons pe_int (pa_cons (pe_ix ix_u (pe_uv 0) pe_int (fun _ _ => rfl)) (pa_cons pe_int pa_nil)))) pa_nil)) pa_nil))) pa_nil))) pa_nil)))))) (pss_one (ps_ret (pe_can (h__law_same.can hr) (pa_cons (pe_uv 4) (pa_cons (pe_lst (pa_cons (pe_lst (pa_cons (pe_tup (pa_cons pe_int pa_nil)) (pa_cons (pe_tup (pa_cons pe_int pa_nil)) pa_nil))) (pa_cons (pe_lst (pa_cons (pe_tup (pa_cons pe_int (pa_cons pe_int pa_nil))) pa_nil)) (pa_cons (pe_lst pa_nil) (pa_cons (pe_tup (pa_cons pe_int (pa_cons pe_int pa_nil))) (pa_cons pe_non (pa_cons pe_non pa_nil))))))) pa_nil))))))))))

abbrev s_law : Stmt := top 47
abbrev N_law : List Str := ["script", "state", "letters", "signs", "one", "other", "lists", "first", "second", "less", "smaller", "size", "last", "many", "table", "arrows", "marks", "place", "arrow", "mark"]
theorem sc_law : FnScope N_law ["script"] (defScope s_law) := ⟨rfl, rfl, rfl, by decide +kernel, rfl, by decide +kernel, by decide +kernel⟩
def t_law (P : Program) (w : World) (K : PySem.W.Frag) (c : Ad) (p_law_two p_law_world p_law_take p_law_distinct p_law_lists p_law_asked p_law_same p_law_due p_law_fixed p_law_chain mWeb : Sp) (gpleadings : SpG) : TS :=
  (tSeq (tAsg (tLst (tCons (tCB (uList K) (tCons (tSl (uSl K) (uV 0) tNoPart (tPart (tC (.int 63)))) tNil)) (tCons (tC (.int 0)) (tCons (tC (.int 0)) tNil)))) (gName 1)) (tSeq (tAsg (tCan p_law_two E0 (tCons (uV 1) (tCons (tC (.str (sOf lowers))) tNil))) (gName 2)) (tSeq (tAsg (tCan p_law_two E0 (tCons (uV 1) (tCons (tC (.str (sOf uppers))) tNil))) (gName 3)) (tSeq (tAsg (tCan p_law_world E0 (tCons (uV 1) (tCons (uV 2) (tCons (uV 3) (tCons (tC (.int 3)) (tCons (tC (.int 3)) tNil)))))) (gName 4)) (tSeq (tAsg (tCan p_law_world E0 (tCons (uV 1) (tCons (uV 2) (tCons (uV 3) (tCons (tC (.int 3)) (tCons (tC (.int 6)) tNil)))))) (gName 5)) (tSeq (tIfS (uB (tOp (uEq K) (tCan p_law_take E0 (tCons (uV 1) (tCons (tC (.int 2)) tNil))) (tC (.int 0)))) (tSeq (tAsg (tLc (iRng1 (tCons (tOp (uIx K) (uV 4) (tC (.int 0))) tNil)) (gName 17) tYes (tCan p_law_take E0 (tCons (uV 1) (tCons (tOp (uIx K) (uV 5) (tC (.int 0))) tNil))) [17]) (gName 14)) (tSeq (tAsg (tLc (iList K (tOp (uIx K) (uV 4) (tC (.int 1)))) (gName 18) tYes (tTup (tCons (tOp (uIx K) (uV 14) (tOp (uIx K) (uV 18) (tC (.int 0)))) (tCons (tOp (uIx K) (uV 18) (tC (.int 1))) (tCons (tOp (uIx K) (uV 14) (tOp (uIx K) (uV 18) (tC (.int 2)))) tNil)))) [18]) (gName 15)) (tSeq (tAsg (tLc (iList K (tOp (uIx K) (uV 4) (tC (.int 2)))) (gName 19) tYes (tTup (tCons (tOp (uIx K) (uV 14) (tOp (uIx K) (uV 19) (tC (.int 0)))) (tCons (tOp (uIx K) (uV 19) (tC (.int 1))) tNil))) [19]) (gName 16)) (tAsg (tLst (tCons (tOp (uIx K) (uV 5) (tC (.int 0))) (tCons (tCan p_law_distinct E0 (tCons (tOp (uAddA K) (tOp (uIx K) (uV 5) (tC (.int 1))) (uV 15)) tNil)) (tCons (tCan p_law_distinct E0 (tCons (tOp (uAddA K) (tOp (uIx K) (uV 5) (tC (.int 2))) (uV 16)) tNil)) tNil)))) (gName 5))))) tNext) (tSeq (tAsg (tCan p_law_lists E0 (tCons (uV 1) (tCons (uV 4) (tCons (uV 5) tNil)))) (gName 6)) (tSeq (tAsg (StX.tMakeR c.Web mWeb E0 (tCons (tOp (uIx K) (uV 4) (tC (.int 0))) (tCons (tCB (uList K) (tCons (tOp (uIx K) (uV 4) (tC (.int 1))) tNil)) (tCons (tCB (uList K) (tCons (tOp (uIx K) (uV 4) (tC (.int 2))) tNil)) tNil)))) (gName 7)) (tSeq (tAsg (StX.tMakeR c.Web mWeb E0 (tCons (tOp (uIx K) (uV 5) (tC (.int 0))) (tCons (tCB (uList K) (tCons (tOp (uIx K) (uV 5) (tC (.int 1))) tNil)) (tCons (tCB (uList K) (tCons (tOp (uIx K) (uV 5) (tC (.int 2))) tNil)) tNil)))) (gName 8)) (tSeq (tAsg (tLst (tCons (tOp (uIx K) (uV 5) (tC (.int 0))) (tCons (tSl (uSl K) (tOp (uIx K) (uV 5) (tC (.int 1))) (tPart (tC (.int 1))) tNoPart) (tCons (tOp (uIx K) (uV 5) (tC (.int 2))) tNil)))) (gName 9)) (tSeq (tAsg (StX.tMakeR c.Web mWeb E0 (tCons (tOp (uIx K) (uV 9) (tC (.int 0))) (tCons (tCB (uList K) (tCons (tOp (uIx K) (uV 9) (tC (.int 1))) tNil)) (tCons (tCB (uList K) (tCons (tOp (uIx K) (uV 9) (tC (.int 2))) tNil)) tNil)))) (gName 10)) (tSeq (tIfS (tNot (uB (tCan p_law_asked E0 (tCons (uV 7) (tCons (uV 8) (tCons (uV 4) (tCons (uV 5) (tCons (uV 6) tNil)))))))) (tRet (tC (.bl false))) tNext) (tSeq (tIfS (tNot (uB (tCan p_law_asked E0 (tCons (uV 7) (tCons (uV 10) (tCons (uV 4) (tCons (uV 9) (tCons (uV 6) tNil)))))))) (tRet (tC (.bl false))) tNext) (tSeq (tIfS (tNot (uB (tCan p_law_same E0 (tCons (tListG (tCallG gpleadings [.non] E0 (tCons (uV 7) (tCons (uV 8) tNil)))) (tCons (tCan p_law_due E0 (tCons (uV 4) (tCons (uV 5) (tCons (tC .non) tNil)))) tNil))))) (tRet (tC (.bl false))) tNext) (tSeq (tIfS (tNot (uB (tCan p_law_asked E0 (tCons (uV 8) (tCons (uV 7) (tCons (uV 5) (tCons (uV 4) (tCons (tLc (iRng1 (tCons (tOp (uIx K) (uV 5) (tC (.int 0))) tNil)) (gName 17) tYes (tC .non) [17]) tNil)))))))) (tRet (tC (.bl false))) tNext) (tSeq (tAsg (tOp (uAddA K) (tC (.int 1)) (tCan p_law_take E0 (tCons (uV 1) (tCons (tC (.int 5)) tNil)))) (gName 11)) (tSeq (tAsg (tCan p_law_take E0 (tCons (uV 1) (tCons (uV 11) tNil))) (gName 12)) (tSeq (tAsg (tOp (uAddA K) (tC (.int 2)) (tCan p_law_take E0 (tCons (uV 1) (tCons (tC (.int 11)) tNil)))) (gName 13)) (tSeq (tIfS (uB (tOp (uEq K) (tCan p_law_take E0 (tCons (uV 1) (tCons (tC (.int 8)) tNil))) (tC (.int 7)))) (tSeq (tAsg (tC (.int 100)) (gName 11)) (tAsg (tC (.int 2)) (gName 13))) tNext) (tRet (uAndV (tCan p_law_fixed E0 (tCons (uV 2) tNil)) (tCan p_law_chain E0 (tCons (uV 13) (tCons (uV 11) (tCons (uV 12) (tCons (uV 2) (tCons (uV 3) tNil)))))))))))))))))))))))))))
theorem d_law {P : Program} {w : World} {K : PySem.W.Frag} {mg : Str → Option Value} {base : Heap} {f : Addr} {cdv : Value} {A : Around} {outer : List Env} {s0 : Shared} {H0 : Hp} {E : XK} {c : Ad} {p_law_two p_law_world p_law_take p_law_distinct p_law_lists p_law_asked p_law_same p_law_due p_law_fixed p_law_chain mWeb : Sp} {gpleadings : SpG} {gf_leadings : Addr} {gd_leadings : FuncData} {gl_leadings : Nat} {ds_leadings : List Value} {k : Nat} (T : Txt K mg c) (hr : Room (k + 1) (X0 P w K mg base N_law "law" s_law f cdv A outer s0 H0 E).A) (h__law_two : Has P w K mg base CX0 k "_law_two" p_law_two) (h__law_world : Has P w K mg base CX0 k "_law_world" p_law_world) (h__law_take : Has P w K mg base CX0 k "_law_take" p_law_take) (h__law_distinct : Has P w K mg base CX0 k "_law_distinct" p_law_distinct) (h__law_lists : Has P w K mg base CX0 k "_law_lists" p_law_lists) (h__law_asked : Has P w K mg base CX0 k "_law_asked" p_law_asked) (h__law_same : Has P w K mg base CX0 k "_law_same" p_law_same) (h__law_due : Has P w K mg base CX0 k "_law_due" p_law_due) (h__law_fixed : Has P w K mg base CX0 k "_law_fixed" p_law_fixed) (h__law_chain : Has P w K mg base CX0 k "_law_chain" p_law_chain) (m_Web : HasMk P w K mg base CX0 k "Web" c.Web mWeb) (gn_leadings : mg "leadings" = some (.ref gf_leadings) ∧ PySem.W.keepIn K (.ref gf_leadings) = true ∧ GFn P w K mg base gl_leadings gf_leadings gd_leadings ["first", "second", "allowed"] gpleadings) (gr_leadings_ : gl_leadings + 3 ≤ k + 1) (gb_leadings : Binds K gd_leadings ["first", "second", "allowed"] ds_leadings ∧ Vals [V.non] ds_leadings) :
    PSs (X0 P w K mg base N_law "law" s_law f cdv A outer s0 H0 E) (defBody s_law) (t_law P w K c p_law_two p_law_world p_law_take p_law_distinct p_law_lists p_law_asked p_law_same p_law_due p_law_fixed p_law_chain mWeb gpleadings) := by
  have hu := hu201 hr
  have gr_leadings : Room (gl_leadings + 3) (X0 P w K mg base N_law "law" s_law f cdv A outer s0 H0 E).A := hr.mono gr_leadings_
  exact (pss_cons (ps_set (i := 1) sc_law.nd rfl (Or.inr rfl) (pe_lst (pa_cons (pe_callTy cr_uList (by rfl) T.list (by decide +kernel) (pa_cons (pe_slice sl_u (pe_uv 0) po_none (po_some pe_int)) pa_nil)) (pa_cons pe_int (pa_cons pe_int pa_nil))))) (pss_cons (ps_set (i := 2) sc_law.nd rfl (Or.inl rfl) (pe_can (h__law_two.can hr) (pa_cons (pe_uv 1) (pa_cons (pe_lit (l := lowers) (by decide +kernel)) pa_nil)))) (pss_cons (ps_set (i := 3) sc_law.nd rfl (Or.inl rfl) (pe_can (h__law_two.can hr) (pa_cons (pe_uv 1) (pa_cons (pe_lit (l := uppers) (by decide +kernel)) pa_nil)))) (pss_cons (ps_set (i := 4) sc_law.nd rfl (Or.inl rfl) (pe_can (h__law_world.can hr) (pa_cons (pe_uv 1) (pa_cons (pe_uv 2) (pa_cons (pe_uv 3) (pa_cons pe_int (pa_cons pe_int pa_nil))))))) (pss_cons (ps_set (i := 5) sc_law.nd rfl (Or.inr rfl) (pe_can (h__law_world.can hr) (pa_cons (pe_uv 1) (pa_cons (pe_uv 2) (pa_cons (pe_uv 3) (pa_cons pe_int (pa_cons pe_int pa_nil))))))) (pss_cons (ps_if (pt_uc (op_uEq hu) (pe_can (h__law_take.can hr) (pa_cons (pe_uv 1) (pa_cons pe_int pa_nil))) pe_int (nomark _)) (pss_cons (ps_set (i := 14) sc_law.nd rfl (Or.inr rfl) (pe_lc (own := [("place", 17)]) (g := (gName 17)) (tt := tYes) rfl sc_law.nd (pi_range1 (by rfl) T.range (pa_cons (pe_ix ix_u (pe_uv 4) pe_int (fun _ _ => rfl)) pa_nil)) (blkOk_by (own := [("place", 17)]) (N := N_law) (sc := defScope s_law) (by decide +kernel)) (fun _ _ _ _ _ => (pg_name (i := 17) sc_law.nd rfl (Or.inl rfl))) (fun _ _ _ _ _ => pts_nil) (fun _ _ _ _ _ => (pe_can (h__law_take.can hr) (pa_cons (pe_uv 1) (pa_cons (pe_ix ix_u (pe_uv 5) pe_int (fun _ _ => rfl)) pa_nil)))))) (pss_cons (ps_setLc (i := 15) (own := [("arrow", 18)]) (g := (gName 18)) (tt := tYes) rfl sc_law.nd rfl rfl (sw_true rfl rfl rfl (by decide +kernel)) (pi_list (pe_ix ix_u (pe_uv 4) pe_int (fun _ _ => rfl))) (blkOk_by (own := [("arrow", 18)]) (N := N_law) (sc := defScope s_law) (by decide +kernel)) (fun _ _ _ _ _ => (pg_name (i := 18) sc_law.nd rfl (Or.inl rfl))) (fun _ _ _ _ _ => pts_nil) (fun _ _ _ _ _ => (pe_tup (pa_cons (pe_ix ix_u (pe_uv 14) (pe_ix ix_u (pe_uv 18) pe_int (fun _ _ => rfl)) (fun _ _ => rfl)) (pa_cons (pe_ix ix_u (pe_uv 18) pe_int (fun _ _ => rfl)) (pa_cons (pe_ix ix_u (pe_uv 14) (pe_ix ix_u (pe_uv 18) pe_int (fun _ _ => rfl)) (fun _ _ => rfl)) pa_nil)))))) (pss_cons (ps_setLc (i := 16) (own := [("mark", 19)]) (g := (gName 19)) (tt := tYes) rfl sc_law.nd rfl rfl (sw_true rfl rfl rfl (by decide +kernel)) (pi_list (pe_ix ix_u (pe_uv 4) pe_int (fun _ _ => rfl))) (blkOk_by (own := [("mark", 19)]) (N := N_law) (sc := defScope s_law) (by decide +kernel)) (fun _ _ _ _ _ => (pg_name (i := 19) sc_law.nd rfl (Or.inl rfl))) (fun _ _ _ _ _ => pts_nil) (fun _ _ _ _ _ => (pe_tup (pa_cons (pe_ix ix_u (pe_uv 14) (pe_ix ix_u (pe_uv 19) pe_int (fun _ _ => rfl)) (fun _ _ => rfl)) (pa_cons (pe_ix ix_u (pe_uv 19) pe_int (fun _ _ => rfl)) pa_nil))))) (pss_one (ps_set (i := 5) sc_law.nd rfl (Or.inr rfl) (pe_lst (pa_cons (pe_ix ix_u (pe_uv 5) pe_int (fun _ _ => rfl)) (pa_cons (pe_can (h__law_distinct.can hr) (pa_cons (pe_op op_uAddA (pe_ix ix_u (pe_uv 5) pe_int (fun _ _ => rfl)) (pe_uv 15)) pa_nil)) (pa_cons (pe_can (h__law_distinct.can hr) (pa_cons (pe_op op_uAddA (pe_ix ix_u (pe_uv 5) pe_int (fun _ _ => rfl)) (pe_uv 16)) pa_nil)) pa_nil))))))))) pss_nil) (pss_cons (ps_set (i := 6) sc_law.nd rfl (Or.inl rfl) (pe_can (h__law_lists.can hr) (pa_cons (pe_uv 1) (pa_cons (pe_uv 4) (pa_cons (pe_uv 5) pa_nil))))) (pss_cons (ps_set (i := 7) sc_law.nd rfl (Or.inl rfl) (pe_mk (m_Web.can0 hr) (pa_cons (pe_ix ix_u (pe_uv 4) pe_int (fun _ _ => rfl)) (pa_cons (pe_callTy cr_uList (by rfl) T.list (by decide +kernel) (pa_cons (pe_ix ix_u (pe_uv 4) pe_int (fun _ _ => rfl)) pa_nil)) (pa_cons (pe_callTy cr_uList (by rfl) T.list (by decide +kernel) (pa_cons (pe_ix ix_u (pe_uv 4) pe_int (fun _ _ => rfl)) pa_nil)) pa_nil))))) (pss_cons (ps_set (i := 8) sc_law.nd rfl (Or.inl rfl) (pe_mk (m_Web.can0 hr) (pa_cons (pe_ix ix_u (pe_uv 5) pe_int (fun _ _ => rfl)) (pa_cons (pe_callTy cr_uList (by rfl) T.list (by decide +kernel) (pa_cons (pe_ix ix_u (pe_uv 5) pe_int (fun _ _ => rfl)) pa_nil)) (pa_cons (pe_callTy cr_uList (by rfl) T.list (by decide +kernel) (pa_cons (pe_ix ix_u (pe_uv 5) pe_int (fun _ _ => rfl)) pa_nil)) pa_nil))))) (pss_cons (ps_set (i := 9) sc_law.nd rfl (Or.inl rfl) (pe_lst (pa_cons (pe_ix ix_u (pe_uv 5) pe_int (fun _ _ => rfl)) (pa_cons (pe_slice sl_u (pe_ix ix_u (pe_uv 5) pe_int (fun _ _ => rfl)) (po_some pe_int) po_none) (pa_cons (pe_ix ix_u (pe_uv 5) pe_int (fun _ _ => rfl)) pa_nil))))) (pss_cons (ps_set (i := 10) sc_law.nd rfl (Or.inl rfl) (pe_mk (m_Web.can0 hr) (pa_cons (pe_ix ix_u (pe_uv 9) pe_int (fun _ _ => rfl)) (pa_cons (pe_callTy cr_uList (by rfl) T.list (by decide +kernel) (pa_cons (pe_ix ix_u (pe_uv 9) pe_int (fun _ _ => rfl)) pa_nil)) (pa_cons (pe_callTy cr_uList (by rfl) T.list (by decide +kernel) (pa_cons (pe_ix ix_u (pe_uv 9) pe_int (fun _ _ => rfl)) pa_nil)) pa_nil))))) (pss_cons (ps_if (pt_not (pt_u (pe_can (h__law_asked.can hr) (pa_cons (pe_uv 7) (pa_cons (pe_uv 8) (pa_cons (pe_uv 4) (pa_cons (pe_uv 5) (pa_cons (pe_uv 6) pa_nil)))))))) (pss_one (ps_ret pe_bl)) pss_nil) (pss_cons (ps_if (pt_not (pt_u (pe_can (h__law_asked.can hr) (pa_cons (pe_uv 7) (pa_cons (pe_uv 10) (pa_cons (pe_uv 4) (pa_cons (pe_uv 9) (pa_cons (pe_uv 6) pa_nil)))))))) (pss_one (ps_ret pe_bl)) pss_nil) (pss_cons (ps_if (pt_not (pt_u (pe_can (h__law_same.can hr) (pa_cons (pe_listG (pgen_call gn_leadings.2.2 (gr_leadings.mono (by omega)) (by rfl) gn_leadings.1 gn_leadings.2.1 gb_leadings.1 gb_leadings.2 (pa_cons (pe_uv 7) (pa_cons (pe_uv 8) pa_nil))) passX0 nostop0 (gr_leadings) (by rfl) T.list (by decide +kernel)) (pa_cons (pe_can (h__law_due.can hr) (pa_cons (pe_uv 4) (pa_cons (pe_uv 5) (pa_cons pe_non pa_nil)))) pa_nil))))) (pss_one (ps_ret pe_bl)) pss_nil) (pss_cons (ps_if (pt_not (pt_u (pe_can (h__law_asked.can hr) (pa_cons (pe_uv 8) (pa_cons (pe_uv 7) (pa_cons (pe_uv 5) (pa_cons (pe_uv 4) (pa_cons (pe_lc (own := [("place", 17)]) (g := (gName 17)) (tt := tYes) rfl sc_law.nd (pi_range1 (by rfl) T.range (pa_cons (pe_ix ix_u (pe_uv 5) pe_int (fun _ _ => rfl)) pa_nil)) (blkOk_by (own := [("place", 17)]) (N := N_law) (sc := defScope s_law) (by decide +kernel)) (fun _ _ _ _ _ => (pg_name (i := 17) sc_law.nd rfl (Or.inl rfl))) (fun _ _ _ _ _ => pts_nil) (fun _ _ _ _ _ => pe_non)) pa_nil)))))))) (pss_one (ps_ret pe_bl)) pss_nil) (pss_cons (ps_set (i := 11) sc_law.nd rfl (Or.inl rfl) (pe_op op_uAddA pe_int (pe_can (h__law_take.can hr) (pa_cons (pe_uv 1) (pa_cons pe_int pa_nil))))) (pss_cons (ps_set (i := 12) sc_law.nd rfl (Or.inl rfl) (pe_can (h__law_take.can hr) (pa_cons (pe_uv 1) (pa_cons (pe_uv 11) pa_nil)))) (pss_cons (ps_set (i := 13) sc_law.nd rfl (Or.inl rfl) (pe_op op_uAddA pe_int (pe_can (h__law_take.can hr) (pa_cons (pe_uv 1) (pa_cons pe_int pa_nil))))) (pss_cons (ps_if (pt_uc (op_uEq hu) (pe_can (h__law_take.can hr) (pa_cons (pe_uv 1) (pa_cons pe_int pa_nil))) pe_int (nomark _)) (pss_cons (ps_set (i := 11) sc_law.nd rfl (Or.inl rfl) pe_int) (pss_one (ps_set (i := 13) sc_law.nd rfl (Or.inl rfl) pe_int))) pss_nil) (pss_one (ps_ret (pe_andU (pe_can (h__law_fixed.can hr) (pa_cons (pe_uv 2) pa_nil)) (pe_one (pe_can (h__law_chain.can hr) (pa_cons (pe_uv 13) (pa_cons (pe_uv 11) (pa_cons (pe_uv 12) (pa_cons (pe_uv 2) (pa_cons (pe_uv 3) pa_nil)))))))))))))))))))))))))))))

end L2.WB
namespace K19
open L2.XS L2.XB
abbrev Bond := Nat × List Nat × Nat
abbrev msk (t : List Nat) (i : Nat) : Nat := t.getD i 0
/-- f lies in the masks t -/
def InM (t f : List Nat) : Prop := f.length = t.length ∧ ∀ i, i < t.length → (msk t i).testBit (f.getD i 0) = true
def Okb (bs : List Bond) (f : List Nat) : Prop := ∀ b ∈ bs, (b.2.1.getD (f.getD b.1 0) 0).testBit (f.getD b.2.2 0) = true
def Sol (bs : List Bond) (t f : List Nat) : Prop := InM t f ∧ Okb bs f
/-- pointwise within -/
def Le (t' t : List Nat) : Prop := t'.length = t.length ∧ ∀ i p, (msk t' i).testBit p = true → (msk t i).testBit p = true
theorem Le.refl (t : List Nat) : Le t t := ⟨rfl, fun _ _ h => h⟩
theorem Le.trans {a b c : List Nat} (h : Le a b) (k : Le b c) : Le a c := ⟨h.1.trans k.1, fun i p z => k.2 i p (h.2 i p z)⟩
theorem Le.inM {a b f : List Nat} (h : Le a b) (k : InM a f) : InM b f := ⟨k.1.trans h.1, fun i hi => h.2 i _ (k.2 i (by rw [h.1]; exact hi))⟩
theorem getD_set (t : List Nat) (n v i : Nat) : msk (t.set n v) i = if n = i ∧ i < t.length then v else msk t i := by
  unfold msk
  rw [List.getD_eq_getElem?_getD, List.getD_eq_getElem?_getD, List.getElem?_set]
  by_cases e : n = i
  · subst e
    by_cases hl : n < t.length
    · rw [if_pos rfl, if_pos hl, if_pos ⟨rfl, hl⟩]; rfl
    · rw [if_pos rfl, if_neg hl, if_neg (fun z => hl z.2), List.getElem?_eq_none (Nat.le_of_not_lt hl)]
  · rw [if_neg e, if_neg (fun z => e z.1)]
theorem msk_out {t : List Nat} {i : Nat} (h : t.length ≤ i) : msk t i = 0 := by
  unfold msk
  rw [List.getD_eq_getElem?_getD, List.getElem?_eq_none h]; rfl
theorem le_set {t : List Nat} {n v : Nat} (h : ∀ p, v.testBit p = true → (msk t n).testBit p = true) : Le (t.set n v) t := by
  refine ⟨List.length_set, fun i p z => ?_⟩
  rw [getD_set] at z
  split at z
  · rename_i e
    rw [← e.1]; exact h p z
  · exact z
/-- what is near, by one bond -/
def nearOf (t : List Nat) (b : Bond) : List Nat := (bitsOf (msk t b.1)).filter fun p => b.2.1.getD p 0 &&& msk t b.2.2 != 0
def half1 (t : List Nat) (b : Bond) : List Nat := t.set b.1 (maskOf (nearOf t b))
def bond1 (t : List Nat) (b : Bond) : List Nat := (half1 t b).set b.2.2 (msk (half1 t b) b.2.2 &&& imageN b.2.1 (msk (half1 t b) b.1))
def pass (bs : List Bond) (t : List Nat) : List Nat := bs.foldl bond1 t
theorem half_le (t : List Nat) (b : Bond) : Le (half1 t b) t := le_set fun p h => by
  have := mask_bit.mp h
  exact mem_bits.mp (List.mem_filter.mp this).1
theorem bond_le (t : List Nat) (b : Bond) : Le (bond1 t b) t := (le_set fun p h => by
  rw [Nat.testBit_and, Bool.and_eq_true] at h
  exact h.1).trans (half_le t b)
theorem pass_le (bs : List Bond) : ∀ t, Le (pass bs t) t := by
  induction bs with
  | nil => exact fun t => Le.refl t
  | cons b bs ih => exact fun t => (ih (bond1 t b)).trans (bond_le t b)
theorem and_ne_zero {a b p : Nat} (h : a.testBit p = true) (k : b.testBit p = true) : a &&& b ≠ 0 := fun e => by
  have : (a &&& b).testBit p = true := by rw [Nat.testBit_and, h, k]; rfl
  rw [e, Nat.zero_testBit] at this
  cases this
theorem inM_set {t f : List Nat} {n v : Nat} (h : InM t f) (hv : n < t.length → v.testBit (f.getD n 0) = true) : InM (t.set n v) f := by
  refine ⟨h.1.trans List.length_set.symm, fun i hi => ?_⟩
  rw [List.length_set] at hi
  rw [getD_set]
  split
  · rename_i e
    rw [← e.1]; exact hv (by rw [e.1]; exact hi)
  · exact h.2 i hi
theorem bond_sol {t f : List Nat} {b : Bond} (h1 : b.1 < t.length) (h2 : b.2.2 < t.length) (h : InM t f) (k : (b.2.1.getD (f.getD b.1 0) 0).testBit (f.getD b.2.2 0) = true) : InM (bond1 t b) f := by
  have a1 := h.2 _ h1
  have a2 := h.2 _ h2
  have i1 : InM (half1 t b) f := inM_set h fun _ => by
    refine mask_bit.mpr (List.mem_filter.mpr ⟨mem_bits.mpr a1, ?_⟩)
    simpa using and_ne_zero k a2
  have l1 : (half1 t b).length = t.length := List.length_set
  refine inM_set i1 fun _ => ?_
  rw [Nat.testBit_and, Bool.and_eq_true]
  refine ⟨i1.2 _ (by rw [l1]; exact h2), image_bit.mpr ⟨_, i1.2 _ (by rw [l1]; exact h1), k⟩⟩
theorem pass_sol : ∀ (bs : List Bond) (t f : List Nat), (∀ b ∈ bs, b.1 < t.length ∧ b.2.2 < t.length) → InM t f → Okb bs f → InM (pass bs t) f
  | [], t, f, _, h, _ => h
  | b :: bs, t, f, hb, h, k => pass_sol bs (bond1 t b) f (fun c hc => by rw [(bond_le t b).1]; exact hb c (List.mem_cons_of_mem _ hc)) (bond_sol (hb b List.mem_cons_self).1 (hb b List.mem_cons_self).2 h (k b List.mem_cons_self)) fun c hc => k c (List.mem_cons_of_mem _ hc)
theorem sub_le {a b : Nat} (h : ∀ p, a.testBit p = true → b.testBit p = true) : a ≤ b := Nat.le_of_testBit h
theorem Le.sum : ∀ {a b : List Nat}, Le a b → a.sum ≤ b.sum ∧ (a.sum = b.sum → a = b)
  | [], [], _ => ⟨Nat.le_refl _, fun _ => rfl⟩
  | [], _ :: _, h => absurd h.1 (by simp)
  | _ :: _, [], h => absurd h.1 (by simp)
  | x :: a, y :: b, h => by
    have t : Le a b := ⟨Nat.succ.inj h.1, fun i p z => h.2 (i + 1) p z⟩
    obtain ⟨s1, s2⟩ := t.sum
    have s3 : x ≤ y := sub_le fun p z => h.2 0 p z
    rw [List.sum_cons, List.sum_cons]
    exact ⟨by omega, fun e => by rw [s2 (by omega), show x = y by omega]⟩
theorem pass_steps : ∀ (bs : List Bond) (t : List Nat), pass bs t = t → ∀ b ∈ bs, bond1 t b = t
  | [], _, _, b, hb => by cases hb
  | c :: bs, t, e, b, hb => by
    have e : pass bs (bond1 t c) = t := e
    have l1 := (pass_le bs (bond1 t c)).sum.1
    have l2 := (bond_le t c).sum
    have e2 : bond1 t c = t := l2.2 (by rw [e] at l1; omega)
    rcases List.mem_cons.mp hb with rfl | hb
    · exact e2
    · rw [e2] at e
      exact pass_steps bs t e b hb
def Stable (bs : List Bond) (t : List Nat) : Prop := ∀ b ∈ bs, ∀ p, (msk t b.1).testBit p = true → b.2.1.getD p 0 &&& msk t b.2.2 ≠ 0
theorem stable_of {bs : List Bond} {t : List Nat} (hb : ∀ b ∈ bs, b.1 < t.length) (e : pass bs t = t) : Stable bs t := fun b hm p hp => by
  have e1 := pass_steps bs t e b hm
  have e2 : half1 t b = t := by
    have l1 := (bond_le t b).sum.1
    have l2 := (half_le t b).sum
    have l3 : Le (bond1 t b) (half1 t b) := le_set fun p h => by
      rw [Nat.testBit_and, Bool.and_eq_true] at h
      exact h.1
    have l4 := l3.sum.1
    rw [e1] at l4
    exact l2.2 (by omega)
  have e3 : msk (half1 t b) b.1 = maskOf (nearOf t b) := by
    unfold half1
    rw [getD_set, if_pos ⟨rfl, hb b hm⟩]
  rw [e2] at e3
  rw [e3] at hp
  have := (List.mem_filter.mp (mask_bit.mp hp)).2
  simpa using this
/-- what _bound_domains may tell -/
def Bd (bs : List Bond) (t : List Nat) : Option (List Nat) → Prop
  | none => ∀ f, ¬ Sol bs t f
  | some r => Le r t ∧ (∀ i, i < r.length → msk r i ≠ 0) ∧ Stable bs r ∧ ∀ f, Sol bs t f → InM r f
def prodL : List (List Nat) → List (List Nat)
  | [] => [[]]
  | d :: ds => d.flatMap fun p => (prodL ds).map (p :: ·)
def sols (bs : List Bond) (t : List Nat) (ok : List Nat → Bool) : List (List Nat) := (prodL (t.map bitsOf)).filter ok
def inB : List Nat → List Nat → Bool
  | [], [] => true
  | m :: t, p :: f => m.testBit p && inB t f
  | _, _ => false
theorem inB_iff : ∀ {t f : List Nat}, inB t f = true ↔ InM t f
  | [], [] => by simp [inB, InM]
  | [], p :: f => by simp [inB, InM]
  | m :: t, [] => by simp [inB, InM]
  | m :: t, p :: f => by
    rw [inB, Bool.and_eq_true, inB_iff]
    constructor
    · rintro ⟨h1, h2, h3⟩
      refine ⟨congrArg (· + 1) h2, fun i hi => ?_⟩
      cases i with
      | zero => exact h1
      | succ i => exact h3 i (Nat.lt_of_succ_lt_succ hi)
    · rintro ⟨h1, h2⟩
      exact ⟨h2 0 (Nat.succ_pos _), Nat.succ.inj h1, fun i hi => h2 (i + 1) (Nat.succ_lt_succ hi)⟩
theorem filter_flatMap {α β : Type} (p : β → Bool) (l : List α) (g : α → List β) : (l.flatMap g).filter p = l.flatMap fun x => (g x).filter p := by
  induction l with
  | nil => rfl
  | cons x l ih => rw [List.flatMap_cons, List.filter_append, ih, List.flatMap_cons]
theorem flatMap_if {α β : Type} (p : α → Bool) (l : List α) (g : α → List β) : (l.flatMap fun x => if p x = true then g x else []) = (l.filter p).flatMap g := by
  induction l with
  | nil => rfl
  | cons x l ih =>
    rw [List.flatMap_cons, ih, List.filter_cons]
    by_cases h : p x = true
    · rw [if_pos h, if_pos h, List.flatMap_cons]
    · rw [if_neg h, if_neg h]; rfl
/-- lists whose items pass -/
def allB : List (Nat → Bool) → List Nat → Bool
  | [], [] => true
  | q :: qs, p :: f => q p && allB qs f
  | _, _ => false
theorem prod_filter : ∀ (ds : List (List Nat)) (qs : List (Nat → Bool)), qs.length = ds.length → prodL (List.zipWith (fun d q => d.filter q) ds qs) = (prodL ds).filter (allB qs)
  | [], [], _ => rfl
  | [], _ :: _, h => absurd h (by simp)
  | _ :: _, [], h => absurd h (by simp)
  | d :: ds, q :: qs, h => by
    have ih := prod_filter ds qs (Nat.succ.inj h)
    rw [List.zipWith_cons_cons]
    show (d.filter q).flatMap (fun p => (prodL (List.zipWith (fun d q => d.filter q) ds qs)).map (p :: ·)) = (d.flatMap fun p => (prodL ds).map (p :: ·)).filter (allB (q :: qs))
    rw [filter_flatMap, ih, ← flatMap_if]
    congr 1
    funext p
    rw [List.filter_map]
    by_cases hq : q p = true
    · rw [if_pos hq]
      congr 1
      refine List.filter_congr fun f _ => ?_
      show _ = (q p && allB qs f)
      rw [hq, Bool.true_and]
    · rw [if_neg hq]
      have : (prodL ds).filter (allB (q :: qs) ∘ fun x => p :: x) = [] := List.filter_eq_nil_iff.mpr fun f _ => by
        show ¬ (q p && allB qs f) = true
        rw [Bool.and_eq_true]
        exact fun z => hq z.1
      rw [this]; rfl
theorem allB_bits : ∀ (t f : List Nat), allB (t.map fun m p => m.testBit p) f = inB t f
  | [], [] => rfl
  | [], _ :: _ => rfl
  | _ :: _, [] => rfl
  | m :: t, p :: f => by
    show (m.testBit p && _) = (m.testBit p && _)
    rw [allB_bits t f]
theorem bits_sub : ∀ {a b : List Nat}, Le a b → a.map bitsOf = List.zipWith (fun d q => d.filter q) (b.map bitsOf) (a.map fun m p => m.testBit p)
  | [], [], _ => rfl
  | [], _ :: _, h => absurd h.1 (by simp)
  | _ :: _, [], h => absurd h.1 (by simp)
  | x :: a, y :: b, h => by
    have t : Le a b := ⟨Nat.succ.inj h.1, fun i p z => h.2 (i + 1) p z⟩
    rw [List.map_cons, List.map_cons, List.map_cons, List.zipWith_cons_cons, ← bits_sub t]
    congr 1
    refine bits_uniq ((bits_asc y).filter _) fun i => ?_
    rw [List.mem_filter, mem_bits]
    exact ⟨fun z => ⟨h.2 0 i z, z⟩, fun z => z.2⟩
theorem mem_prod : ∀ {t f : List Nat}, f ∈ prodL (t.map bitsOf) ↔ inB t f = true
  | [], [] => by simp [prodL, inB]
  | [], _ :: _ => by simp [prodL, inB]
  | m :: t, [] => by simp [prodL, inB]
  | m :: t, p :: f => by
    show p :: f ∈ (bitsOf m).flatMap (fun p => (prodL (t.map bitsOf)).map (p :: ·)) ↔ _
    rw [List.mem_flatMap, inB, Bool.and_eq_true, ← mem_prod, ← mem_bits]
    constructor
    · rintro ⟨q, h1, h2⟩
      obtain ⟨g, h3, e⟩ := List.mem_map.mp h2
      cases e
      exact ⟨h1, h3⟩
    · rintro ⟨h1, h2⟩
      exact ⟨p, h1, List.mem_map.mpr ⟨f, h2, rfl⟩⟩
/-- masks within that keep the maps: the same maps in the same order -/
theorem sols_le {bs : List Bond} {a b : List Nat} {ok : List Nat → Bool} (h : Le a b) (k : ∀ f, InM b f → ok f = true → InM a f) : sols bs a ok = sols bs b ok := by
  unfold sols
  rw [bits_sub h, prod_filter _ _ (by rw [List.length_map, List.length_map, h.1]), List.filter_filter]
  refine List.filter_congr fun f hf => ?_
  have hf := inB_iff.mp (mem_prod.mp hf)
  rw [allB_bits]
  cases e : ok f with
  | false => rfl
  | true => rw [inB_iff.mpr (k f hf e)]; rfl
theorem sols_none {bs : List Bond} {b : List Nat} {ok : List Nat → Bool} (k : ∀ f, InM b f → ok f = true → False) : sols bs b ok = [] :=
  List.filter_eq_nil_iff.mpr fun f hf e => k f (inB_iff.mp (mem_prod.mp hf)) e
/-- the first masks are single -/
theorem sols_split {bs : List Bond} {ok : List Nat → Bool} : ∀ (c : List Nat) (m : Nat) (B : List Nat), prodL ((c.map (2 ^ ·) ++ m :: B).map bitsOf) = (bitsOf m).flatMap fun p => prodL ((c.map (2 ^ ·) ++ 2 ^ p :: B).map bitsOf)
  | [], m, B => by
    show (bitsOf m).flatMap (fun p => (prodL (B.map bitsOf)).map (p :: ·)) = (bitsOf m).flatMap fun p => (bitsOf (2 ^ p)).flatMap fun q => (prodL (B.map bitsOf)).map (q :: ·)
    congr 1
    funext p
    rw [bits_pow, List.flatMap_cons, List.flatMap_nil, List.append_nil]
  | a :: c, m, B => by
    have ih := sols_split (bs := bs) (ok := ok) c m B
    have one : ∀ ds : List (List Nat), prodL (bitsOf (2 ^ a) :: ds) = (prodL ds).map (a :: ·) := fun ds => by
      show (bitsOf (2 ^ a)).flatMap _ = _
      rw [bits_pow, List.flatMap_cons, List.flatMap_nil, List.append_nil]
    show prodL (bitsOf (2 ^ a) :: (c.map (2 ^ ·) ++ m :: B).map bitsOf) = (bitsOf m).flatMap fun p => prodL (bitsOf (2 ^ a) :: (c.map (2 ^ ·) ++ 2 ^ p :: B).map bitsOf)
    rw [one, ih, List.map_flatMap]
    congr 1
    funext p
    rw [one]
theorem sols_all {bs : List Bond} {ok : List Nat → Bool} : ∀ c : List Nat, prodL ((c.map (2 ^ ·)).map bitsOf) = [c]
  | [] => rfl
  | a :: c => by
    show (bitsOf (2 ^ a)).flatMap (fun p => (prodL ((c.map (2 ^ ·)).map bitsOf)).map (p :: ·)) = _
    rw [bits_pow, sols_all (bs := bs) (ok := ok) c]
    rfl
end K19
namespace K19
open L2.XS L2.XB
def okB (bs : List Bond) (f : List Nat) : Bool := bs.all fun b => (b.2.1.getD (f.getD b.1 0) 0).testBit (f.getD b.2.2 0)
theorem okB_iff {bs : List Bond} {f : List Nat} : okB bs f = true ↔ Okb bs f := by
  unfold okB Okb
  rw [List.all_eq_true]
abbrev sol (bs : List Bond) (t : List Nat) : List (List Nat) := sols bs t (okB bs)
structure Node (bs : List Bond) (n : Nat) (c t : List Nat) : Prop where
  few : c.length ≤ n
  len : t.length = n
  one : ∀ i, i < c.length → msk t i = 2 ^ (c.getD i 0)
  st : Stable bs t
  nz : ∀ i, i < n → msk t i ≠ 0
theorem msk_eq {t : List Nat} {i : Nat} (h : i < t.length) : msk t i = t[i] := by
  unfold msk
  rw [List.getD_eq_getElem?_getD, List.getElem?_eq_getElem h]; rfl
theorem Node.take {bs : List Bond} {n : Nat} {c t : List Nat} (h : Node bs n c t) : t.take c.length = c.map (2 ^ ·) := by
  refine List.ext_getElem (by rw [List.length_take, List.length_map, h.len]; exact Nat.min_eq_left h.few) fun i h1 h2 => ?_
  rw [List.length_map] at h2
  have h3 : i < t.length := by rw [h.len]; exact Nat.lt_of_lt_of_le h2 h.few
  rw [List.getElem_take, List.getElem_map, ← msk_eq h3, h.one i h2, List.getD_eq_getElem?_getD, List.getElem?_eq_getElem h2]
  rfl
theorem Node.split {bs : List Bond} {n : Nat} {c t : List Nat} (h : Node bs n c t) (lt : c.length < n) : t = c.map (2 ^ ·) ++ msk t c.length :: t.drop (c.length + 1) := by
  have l : c.length < t.length := by rw [h.len]; exact lt
  conv => lhs; rw [← List.take_append_drop c.length t]
  rw [h.take, List.drop_eq_getElem_cons l, msk_eq l]
theorem set_split {A B : List Nat} {m v : Nat} : (A ++ m :: B).set A.length v = A ++ v :: B := by
  rw [List.set_append_right _ _ (Nat.le_refl _), Nat.sub_self]
  rfl
theorem Node.down {bs : List Bond} {n : Nat} {c t : List Nat} (h : Node bs n c t) (lt : c.length < n) : sol bs t = (bitsOf (msk t c.length)).flatMap fun p => sol bs (t.set c.length (2 ^ p)) := by
  have e := h.split lt
  generalize msk t c.length = m at *
  generalize t.drop (c.length + 1) = B at *
  have hs : ∀ p, t.set c.length (2 ^ p) = c.map (2 ^ ·) ++ 2 ^ p :: B := fun p => by
    rw [e]
    have := set_split (A := c.map (2 ^ ·)) (B := B) (m := m) (v := 2 ^ p)
    rwa [List.length_map] at this
  show (prodL (t.map bitsOf)).filter (okB bs) = _
  conv => lhs; rw [e, sols_split (bs := bs) (ok := okB bs), filter_flatMap]
  congr 1
  funext p
  rw [hs]
  rfl
theorem Node.leaf {bs : List Bond} {n : Nat} {c t : List Nat} (h : Node bs n c t) (hb : ∀ b ∈ bs, b.1 < n ∧ b.2.2 < n) (e : c.length = n) : sol bs t = [c] ∧ Okb bs c := by
  have e1 : t = c.map (2 ^ ·) := by
    have := h.take
    rwa [e, ← h.len, List.take_length] at this
  have ok : Okb bs c := fun b hm => by
    obtain ⟨l1, l2⟩ := hb b hm
    have a1 := h.one b.1 (by rw [e]; exact l1)
    have a2 := h.one b.2.2 (by rw [e]; exact l2)
    have nz := h.st b hm (c.getD b.1 0) (by rw [a1, Nat.testBit_two_pow]; simp)
    rw [a2] at nz
    obtain ⟨i, hi⟩ := ne_zero_bit nz
    rw [Nat.testBit_and, Nat.testBit_two_pow, Bool.and_eq_true, decide_eq_true_eq] at hi
    rw [hi.2]
    exact hi.1
  refine ⟨?_, ok⟩
  show (prodL (t.map bitsOf)).filter (okB bs) = _
  rw [e1, sols_all (bs := bs) (ok := okB bs) c, List.filter_cons, if_pos (okB_iff.mpr ok)]
  rfl
theorem sub_pow {a k : Nat} (h : ∀ p, a.testBit p = true → (2 ^ k).testBit p = true) (nz : a ≠ 0) : a = 2 ^ k := by
  obtain ⟨i, hi⟩ := ne_zero_bit nz
  have ei := h i hi
  rw [Nat.testBit_two_pow, decide_eq_true_eq] at ei
  subst ei
  refine mask_ext fun p => ⟨h p, fun q => ?_⟩
  rw [Nat.testBit_two_pow, decide_eq_true_eq] at q
  rw [← q]; exact hi
def solO (bs : List Bond) : Option (List Nat) → List (List Nat)
  | none => []
  | some r => sol bs r
theorem bd_sol {bs : List Bond} {t : List Nat} {r : Option (List Nat)} (h : Bd bs t r) : sol bs t = solO bs r := by
  cases r with
  | none => exact sols_none fun f h1 h2 => h f ⟨h1, okB_iff.mp h2⟩
  | some r => exact (sols_le h.1 fun f h1 h2 => h.2.2.2 f ⟨h1, okB_iff.mp h2⟩).symm
theorem bd_node {bs : List Bond} {n : Nat} {c t r : List Nat} {p : Nat} (h : Node bs n c t) (lt : c.length < n) (hb : Bd bs (t.set c.length (2 ^ p)) (some r)) : Node bs n (c ++ [p]) r := by
  obtain ⟨h1, h2, h3, h4⟩ := hb
  have l : r.length = n := by rw [h1.1, List.length_set, h.len]
  refine ⟨by rw [List.length_append]; exact lt, l, fun i hi => ?_, h3, fun i hi => h2 i (by rw [l]; exact hi)⟩
  rw [List.length_append] at hi
  have hi : i < c.length + 1 := hi
  refine sub_pow (fun q hq => ?_) (h2 i (by rw [l]; omega))
  have z := h1.2 i q hq
  rw [getD_set] at z
  by_cases e : c.length = i
  · subst e
    rw [if_pos ⟨rfl, by rw [h.len]; exact lt⟩] at z
    rw [List.getD_eq_getElem?_getD, List.getElem?_append_right (Nat.le_refl _), Nat.sub_self]
    exact z
  · rw [if_neg (fun y => e y.1)] at z
    have hi2 : i < c.length := by omega
    rw [h.one i hi2] at z
    have e2 : (c ++ [p]).getD i 0 = c.getD i 0 := by
      rw [List.getD_eq_getElem?_getD, List.getD_eq_getElem?_getD, List.getElem?_append_left hi2]
    rw [e2]
    exact z
theorem bd_root {bs : List Bond} {t r : List Nat} (hb : Bd bs t (some r)) : Node bs t.length [] r :=
  ⟨Nat.zero_le _, hb.1.1, fun i hi => absurd hi (Nat.not_lt_zero _), hb.2.2.1, fun i hi => hb.2.1 i (by rw [hb.1.1]; exact hi)⟩
abbrev Ent := List Nat × List Nat
def total (bs : List Bond) (W : List Ent) : List (List Nat) := W.reverse.flatMap fun x => sol bs x.2
theorem total_snoc (bs : List Bond) (W : List Ent) (x : Ent) : total bs (W ++ [x]) = sol bs x.2 ++ total bs W := by
  unfold total
  rw [List.reverse_append, List.reverse_cons, List.reverse_nil, List.nil_append, List.flatMap_append, List.flatMap_cons, List.flatMap_nil, List.append_nil]
def kids (c : List Nat) (r : Nat → Option (List Nat)) (l : List Nat) : List Ent := l.filterMap fun p => (r p).map fun t => (c ++ [p], t)
theorem total_kids {bs : List Bond} {n : Nat} {c t : List Nat} {W : List Ent} {r : Nat → Option (List Nat)} (h : Node bs n c t) (lt : c.length < n) (hr : ∀ p ∈ bitsOf (msk t c.length), Bd bs (t.set c.length (2 ^ p)) (r p)) :
    total bs (W ++ kids c r (bitsOf (msk t c.length)).reverse) = sol bs t ++ total bs W := by
  unfold total
  rw [List.reverse_append, List.flatMap_append, h.down lt]
  congr 1
  unfold kids
  rw [← List.filterMap_reverse, List.reverse_reverse]
  generalize bitsOf (msk t c.length) = l at hr ⊢
  induction l with
  | nil => rfl
  | cons p l ih =>
    have ih := ih fun q hq => hr q (List.mem_cons_of_mem _ hq)
    have b := bd_sol (hr p List.mem_cons_self)
    rw [List.flatMap_cons, b, ← ih]
    cases hrp : r p with
    | none => rw [List.filterMap_cons_none (by rw [hrp]; rfl)]; rfl
    | some t' => rw [List.filterMap_cons_some (by rw [hrp]; rfl), List.flatMap_cons]; rfl
theorem kids_node {bs : List Bond} {n : Nat} {c t : List Nat} {r : Nat → Option (List Nat)} {l : List Nat} (h : Node bs n c t) (lt : c.length < n) (hr : ∀ p ∈ l, Bd bs (t.set c.length (2 ^ p)) (r p)) : ∀ x ∈ kids c r l, Node bs n x.1 x.2 := fun x hx => by
  obtain ⟨p, hp, e⟩ := List.mem_filterMap.mp hx
  obtain ⟨t', e2, e3⟩ := Option.map_eq_some_iff.mp e
  subst e3
  have b := hr p hp
  rw [e2] at b
  exact bd_node h lt b
/-- the stack goes down -/
def wgt (n N : Nat) (W : List Ent) : Nat := (W.map fun x => (N + 1) ^ (n - x.1.length)).sum
theorem wgt_app (n N : Nat) (W V : List Ent) : wgt n N (W ++ V) = wgt n N W + wgt n N V := by
  unfold wgt
  rw [List.map_append, List.sum_append]
theorem wgt_kids (n N : Nat) (c : List Nat) (r : Nat → Option (List Nat)) : ∀ l : List Nat, wgt n N (kids c r l) ≤ l.length * (N + 1) ^ (n - (c.length + 1))
  | [] => Nat.zero_le _
  | p :: l => by
    have ih := wgt_kids n N c r l
    unfold kids at ih ⊢
    rw [List.length_cons, Nat.succ_mul]
    cases e : r p with
    | none =>
      rw [List.filterMap_cons_none (by rw [e]; rfl)]
      omega
    | some t =>
      rw [List.filterMap_cons_some (by rw [e]; rfl)]
      show wgt n N ((c ++ [p], t) :: _) ≤ _
      have : wgt n N ((c ++ [p], t) :: l.filterMap fun p => (r p).map fun t => (c ++ [p], t)) = (N + 1) ^ (n - (c.length + 1)) + wgt n N (l.filterMap fun p => (r p).map fun t => (c ++ [p], t)) := by
        unfold wgt
        rw [List.map_cons, List.sum_cons, List.length_append]
        rfl
      omega
theorem wgt_down {n N : Nat} {c : List Nat} {r : Nat → Option (List Nat)} {l : List Nat} (lt : c.length < n) (hl : l.length ≤ N) : wgt n N (kids c r l) < (N + 1) ^ (n - c.length) := by
  have h := wgt_kids n N c r l
  have e : n - c.length = (n - (c.length + 1)) + 1 := by omega
  rw [e, Nat.pow_succ, Nat.mul_comm]
  have p : 0 < (N + 1) ^ (n - (c.length + 1)) := Nat.pow_pos (Nat.succ_pos _)
  have h2 : l.length * (N + 1) ^ (n - (c.length + 1)) ≤ N * (N + 1) ^ (n - (c.length + 1)) := Nat.mul_le_mul_right _ hl
  have h3 : (N + 1) * (N + 1) ^ (n - (c.length + 1)) = N * (N + 1) ^ (n - (c.length + 1)) + (N + 1) ^ (n - (c.length + 1)) := Nat.succ_mul _ _
  omega
theorem bits_few {m N : Nat} (h : m < 2 ^ N) : (bitsOf m).length ≤ N := by
  have e : bitsOf m = (List.range N).filter m.testBit := bits_eq fun i => ⟨fun z => ⟨bit_lt h z, z⟩, fun z => z.2⟩
  rw [e]
  have := List.length_filter_le m.testBit (List.range N)
  rwa [List.length_range] at this
theorem prod_snoc (d : List Nat) : ∀ ds : List (List Nat), prodL (ds ++ [d]) = (prodL ds).flatMap fun one => d.map fun p => one ++ [p]
  | [] => by
    show d.flatMap (fun p => ([[]] : List (List Nat)).map (p :: ·)) = [[]].flatMap _
    rw [List.flatMap_cons, List.flatMap_nil, List.append_nil]
    induction d with
    | nil => rfl
    | cons x d ih => rw [List.flatMap_cons, ih]; rfl
  | e :: ds => by
    show e.flatMap (fun p => (prodL (ds ++ [d])).map (p :: ·)) = (e.flatMap fun p => (prodL ds).map (p :: ·)).flatMap _
    rw [List.flatMap_assoc, prod_snoc d ds]
    congr 1
    funext p
    rw [List.map_flatMap, List.flatMap_map]
    congr 1
    funext one
    rw [List.map_map]
    rfl
end K19
namespace K19
def isL (c : Nat) : Bool := decide (97 ≤ c) && decide (c ≤ 122)
def isK (c : Nat) : Bool := decide (65 ≤ c) && decide (c ≤ 90)
end K19
namespace L2.WB
open PySem PySem.Spec PyProof.Rows L2.XS L2.XB
open K19 (isL isK)
theorem sOf_len (l : List Nat) : (sOf l).length = l.length := rfl
theorem sOf_add (a b : List Nat) : sOf a ++ sOf b = sOf (a ++ b) := by
  show (⟨a.toArray ++ b.toArray⟩ : Str) = ⟨(a ++ b).toArray⟩
  rw [List.append_toArray]
theorem sOf_eq {a b : List Nat} : sOf a = sOf b ↔ a = b := ⟨fun h => congrArg (fun z : Str => z.cps.toList) h, fun h => by rw [h]⟩
theorem dec_sOf (a b : List Nat) : decide (sOf a = sOf b) = decide (a = b) := by
  by_cases h : a = b
  · rw [decide_eq_true h, decide_eq_true (sOf_eq.mpr h)]
  · rw [decide_eq_false h, decide_eq_false fun e => h (sOf_eq.mp e)]
theorem subS_one (c : Nat) (l : List Nat) : subS (sOf [c]) (sOf l) = decide (c ∈ l) := PySem.StrLaws.found_one (sOf l) c
theorem mem_lowers (c : Nat) : decide (c ∈ lowers) = isL c := by
  unfold lowers K19.isL
  rw [Bool.eq_iff_iff]
  simp
  omega
theorem mem_uppers (c : Nat) : decide (c ∈ uppers) = isK c := by
  unfold uppers K19.isK
  rw [Bool.eq_iff_iff]
  simp
  omega
def SameBut (st : Addr) (H H2 : Hp) : Prop := ∀ b o, b ≠ st → H b = some o → H2 b = some o
theorem SameBut.refl (st : Addr) (H : Hp) : SameBut st H H := fun _ _ _ h => h
theorem SameBut.trans {st : Addr} {H H1 H2 : Hp} (a : SameBut st H H1) (b : SameBut st H1 H2) : SameBut st H H2 := fun c o n h => b c o n (a c o n h)
theorem Same.but {st : Addr} {H H2 : Hp} (h : Same H H2) : SameBut st H H2 := fun b o _ e => h b o e
theorem same_new {H : Hp} {p : Addr} {o : HO} (h : H p = none) : Same H (upd H p o) := fun b x e => by
  rw [upd_ne (ne_of_none e h)]
  exact e
/-- a fresh thing is written again -/
theorem same_upd {H H1 : Hp} {p : Addr} {o : HO} (s : Same H H1) (h : H p = none) : Same H (upd H1 p o) := fun b x e => by
  rw [upd_ne (ne_of_none e h)]
  exact s b x e
theorem but_upd {H : Hp} {st : Addr} {o : HO} : SameBut st H (upd H st o) := fun b x n e => by
  rw [upd_ne n]
  exact e
theorem get_new {H : Hp} {a p : Addr} {o x : HO} (h : H a = some o) (n : H p = none) : upd H p x a = some o := by
  rw [upd_ne (ne_of_none h n)]
  exact h
theorem none_old {H H1 : Hp} {p : Addr} (s : Same H H1) (h : H1 p = none) : H p = none := by
  cases e : H p with
  | none => rfl
  | some o => rw [s p o e] at h; cases h
theorem sqT {K : PySem.W.Frag} {H : Hp} {a : Addr} {xs : List V} (h : H a = some (.tup xs)) : SqT K H a xs := .inl (.inl h)
theorem sqL {K : PySem.W.Frag} {H : Hp} {a : Addr} {xs : List V} (h : H a = some (.lst xs)) : SqL K H a xs := .inl (.inl h)
def fin0 (Q : VK) : Ends := { nx := fun _ H2 => Q .non H2, rt := Q }
theorem sl_ok {n : Nat} (h : n ≤ 1000000) : n ≤ sizeLine := by rw [sizeLine_eq]; omega
theorem ifT {b : Bool} {A B : Prop} (hb : b = true) (h : A) : if b = true then A else B := by
  rw [if_pos hb]
  exact h
theorem ifF {b : Bool} {A B : Prop} (hb : b = false) (h : B) : if b = true then A else B := by
  rw [hb, if_neg Bool.false_ne_true]
  exact h
theorem ifB {b : Bool} {A B : Prop} (h1 : b = true → A) (h2 : b = false → B) : if b = true then A else B := by
  cases b with
  | true => exact ifT rfl (h1 rfl)
  | false => exact ifF rfl (h2 rfl)
theorem ifD {p : Prop} [Decidable p] {A B : Prop} (h1 : p → A) (h2 : ¬ p → B) : if decide p = true then A else B := by
  by_cases h : p
  · exact ifT (decide_eq_true h) (h1 h)
  · exact ifF (decide_eq_false h) (h2 h)
section
variable {K : PySem.W.Frag} {H : Hp} {Q : VK} {v : V}
theorem isi_str {z : Str} (q : Q (.bl true) H) : uIsi K [.str z, .ty "str"] H Q := .inl ⟨.type "str", .type "str", true, .ty _, .base (.str _), kit_ty (by decide +kernel), q⟩
theorem ix_txt {l : List Nat} {i : Int} {a d : Nat} (hl : l.length ≤ 1000000) (ei : i = (a : Int)) (e : l[a]? = some d) (q : Q (.str (sOf [d])) H) : uIx K (.str (sOf l)) (.int i) H Q := by
  rw [ei]
  exact ⟨sl_ok hl, d, atI_nat (xs := (sOf l).cps.toList) e, q⟩
theorem ix_lst {p : Addr} {xs : List V} {i : Int} (h : H p = some (.lst xs)) (e : atI xs i = some v) (q : Q v H) : uIx K (.ref p) (.int i) H Q := ⟨xs, v, .inl (sqL h), e, q⟩
theorem ix_tup2 {p : Addr} {xs : List V} {i : Int} (h : H p = some (.tup xs)) (e : atI xs i = some v) (q : Q v H) : uIx K (.ref p) (.int i) H Q := ⟨xs, v, .inr (sqT h), e, q⟩
theorem app_ok2 {o : Addr} {xs : List V} (h : H o = some (.lst xs)) (hz : xs.length ≤ 1000000) (q : Q .non (upd H o (.lst (xs ++ [v])))) : tyV K "list" (.ref o) H ∧ uApp (.ref o) [v] H Q :=
  ⟨tyl h, xs, h, by rw [sizeLine_eq]; omega, q⟩
theorem len_tup {a : Addr} {xs : List V} (h : H a = some (.tup xs)) (q : Q (.int xs.length) H) : ∃ ys, (SqL K H a ys ∨ SqT K H a ys) ∧ Q (.int ys.length) H := ⟨xs, .inr (sqT h), q⟩
theorem len_lst {a : Addr} {xs : List V} (h : H a = some (.lst xs)) (q : Q (.int xs.length) H) : ∃ ys, (SqL K H a ys ∨ SqT K H a ys) ∧ Q (.int ys.length) H := ⟨xs, .inl (sqL h), q⟩
end
/-- numbers as values -/
abbrev nV (n : Nat) : V := .int (n : Int)
theorem nV_at {l : List Nat} {i n : Nat} (h : l[i]? = some n) : atI (l.map nV) (i : Int) = some (nV n) := atI_nat (by rw [List.getElem?_map, h]; rfl)
theorem take_one {α : Type} {l : List α} {i : Nat} {x : α} (h : l[i]? = some x) : l.take (i + 1) = l.take i ++ [x] := by rw [List.take_add_one, h]; rfl
/-- lists of tuples with these items -/
def TkL (H : Hp) (vs : List V) (ks : List (List Key)) : Prop := ∃ L : LK, vs = L.map (fun p => V.ref p.1) ∧ L.map (·.2) = ks ∧ ∀ p ∈ L, H p.1 = some (.tup (p.2.map kV))
theorem TkL.keep {H H2 : Hp} {vs : List V} {ks : List (List Key)} (s : Same H H2) (h : TkL H vs ks) : TkL H2 vs ks := by
  obtain ⟨L, h1, h2, h3⟩ := h
  exact ⟨L, h1, h2, fun p hp => s _ _ (h3 p hp)⟩
theorem TkL.but {H H2 : Hp} {st : Addr} {xs : List V} {vs : List V} {ks : List (List Key)} (s : SameBut st H H2) (e : H st = some (.lst xs)) (h : TkL H vs ks) : TkL H2 vs ks := by
  obtain ⟨L, h1, h2, h3⟩ := h
  exact ⟨L, h1, h2, fun p hp => s _ _ (fun z => by have := h3 p hp; rw [z, e] at this; cases this) (h3 p hp)⟩
theorem TkL.len {H : Hp} {vs : List V} {ks : List (List Key)} (h : TkL H vs ks) : vs.length = ks.length := by
  obtain ⟨L, rfl, rfl, h3⟩ := h
  rw [List.length_map, List.length_map]
theorem TkL.at_ {H : Hp} {vs : List V} {ks : List (List Key)} (h : TkL H vs ks) {i : Nat} {v : V} (e : vs[i]? = some v) : ∃ a k, v = .ref a ∧ ks[i]? = some k ∧ H a = some (.tup (k.map kV)) := by
  obtain ⟨L, rfl, rfl, h3⟩ := h
  rw [List.getElem?_map] at e
  obtain ⟨p, hp, rfl⟩ := Option.map_eq_some_iff.mp e
  exact ⟨p.1, p.2, rfl, by rw [List.getElem?_map, hp]; rfl, h3 p (List.mem_of_getElem? hp)⟩
theorem TkL.nil {H : Hp} : TkL H [] [] := ⟨[], rfl, rfl, fun p hp => by cases hp⟩
theorem TkL.snoc {H : Hp} {vs : List V} {ks : List (List Key)} (h : TkL H vs ks) {a : Addr} {k : List Key} (e : H a = some (.tup (k.map kV))) : TkL H (vs ++ [.ref a]) (ks ++ [k]) := by
  obtain ⟨L, rfl, rfl, h3⟩ := h
  refine ⟨L ++ [(a, k)], by rw [List.map_append]; rfl, by rw [List.map_append]; rfl, fun p hp => ?_⟩
  rcases List.mem_append.mp hp with hp | hp
  · exact h3 p hp
  · cases List.mem_singleton.mp hp; exact e
theorem TkL.app {H : Hp} {vs us : List V} {ks ls : List (List Key)} (h : TkL H vs ks) (h' : TkL H us ls) : TkL H (vs ++ us) (ks ++ ls) := by
  obtain ⟨L, rfl, rfl, h3⟩ := h
  obtain ⟨L', rfl, rfl, h3'⟩ := h'
  refine ⟨L ++ L', by rw [List.map_append], by rw [List.map_append], fun p hp => ?_⟩
  rcases List.mem_append.mp hp with hp | hp
  · exact h3 p hp
  · exact h3' p hp
theorem TkL.sub {H : Hp} {vs : List V} {ks : List (List Key)} (h : TkL H vs ks) (f : {α : Type} → List α → List α) (hm : ∀ {α β : Type} (g : α → β) (l : List α), (f l).map g = f (l.map g)) (hs : ∀ {α : Type} (l : List α), ∀ x ∈ f l, x ∈ l) : TkL H (f vs) (f ks) := by
  obtain ⟨L, rfl, rfl, h3⟩ := h
  exact ⟨f L, (hm _ L).symm, hm _ L, fun p hp => h3 p (hs L p hp)⟩
/-- arrows, marks, pairs as tuples -/
abbrev Arr := Nat × Nat × Nat
abbrev Mrk := Nat × Nat
abbrev kN (n : Nat) : Key := .inl (n : Int)
abbrev kA (x : Arr) : List Key := [kN x.1, .inr (sOf [x.2.1]), kN x.2.2]
abbrev kM (x : Mrk) : List Key := [kN x.1, .inr (sOf [x.2])]
abbrev kP (x : Nat × Nat) : List Key := [kN x.1, kN x.2]
abbrev kF (f : List Nat) : List Key := f.map kN
theorem map_at {α β : Type} {f : α → β} {l : List α} {i : Nat} {y : β} (h : (l.map f)[i]? = some y) : ∃ x, l[i]? = some x ∧ y = f x := by
  rw [List.getElem?_map] at h
  obtain ⟨x, h1, h2⟩ := Option.map_eq_some_iff.mp h
  exact ⟨x, h1, h2.symm⟩
theorem kF_map (f : List Nat) : (kF f).map kV = f.map nV := by
  unfold kF
  rw [List.map_map]
  rfl
/-- what is said of the class Web -/
structure WebF (K : PySem.W.Frag) (c : Ad) : Prop where
  cls : Cls K c.Web
  noat : ∀ f ∈ (["places", "arrows", "marks", "_led"] : List Str), NoAttr K c.Web f
/-- a web -/
structure Wd where
  n : Nat
  ar : List Arr
  ms : List Mrk
structure Wd.Ok (x : Wd) : Prop where
  pos : 1 ≤ x.n
  few : x.n ≤ 200
  ar : ∀ a ∈ x.ar, a.1 < x.n ∧ K19.isL a.2.1 = true ∧ a.2.2 < x.n
  ms : ∀ a ∈ x.ms, a.1 < x.n ∧ K19.isK a.2 = true
  lar : x.ar.length ≤ 1000
  lms : x.ms.length ≤ 1000
/-- a Web object -/
def WbAt (c : Ad) (H : Hp) (v : V) (x : Wd) : Prop := ∃ a dx fs p q us ws, v = .ref a ∧ H a = some (.ins c.Web dx fs) ∧ fs.lookup ("places" : Str) = some (nV x.n) ∧ fs.lookup ("arrows" : Str) = some (.ref p) ∧ fs.lookup ("marks" : Str) = some (.ref q) ∧
  H p = some (.tup us) ∧ TkL H us (x.ar.map kA) ∧ H q = some (.tup ws) ∧ TkL H ws (x.ms.map kM)
theorem WbAt.keep {c : Ad} {H H2 : Hp} {v : V} {x : Wd} (s : Same H H2) (h : WbAt c H v x) : WbAt c H2 v x := by
  obtain ⟨a, dx, fs, p, q, us, ws, h1, h2, h3, h4, h5, h6, h7, h8, h9⟩ := h
  exact ⟨a, dx, fs, p, q, us, ws, h1, s _ _ h2, h3, h4, h5, s _ _ h6, h7.keep s, s _ _ h8, h9.keep s⟩
theorem WebF.places {K : PySem.W.Frag} {c : Ad} {H : Hp} {v : V} {x : Wd} {Q : VK} {σ : St} {t : TE} (F : WebF K c) (h : WbAt c H v x) (ht : ∀ R : VK, R v H → t σ H R) (q : Q (nV x.n) H) : tFld K t "places" σ H Q := by
  obtain ⟨a, dx, fs, p, q1, us, ws, rfl, h2, h3, h4, h5, h6, h7, h8, h9⟩ := h
  exact ht _ ⟨a, _, dx, fs, _, rfl, h2, F.cls, F.noat _ (by simp), h3, q⟩
theorem WebF.arrows {K : PySem.W.Frag} {c : Ad} {H : Hp} {v : V} {x : Wd} {Q : VK} {σ : St} {t : TE} (F : WebF K c) (h : WbAt c H v x) (ht : ∀ R : VK, R v H → t σ H R) (q : ∀ p us, H p = some (.tup us) → TkL H us (x.ar.map kA) → Q (.ref p) H) : tFld K t "arrows" σ H Q := by
  obtain ⟨a, dx, fs, p, q1, us, ws, rfl, h2, h3, h4, h5, h6, h7, h8, h9⟩ := h
  exact ht _ ⟨a, _, dx, fs, _, rfl, h2, F.cls, F.noat _ (by simp), h4, q p us h6 h7⟩
theorem WebF.marks {K : PySem.W.Frag} {c : Ad} {H : Hp} {v : V} {x : Wd} {Q : VK} {σ : St} {t : TE} (F : WebF K c) (h : WbAt c H v x) (ht : ∀ R : VK, R v H → t σ H R) (q : ∀ p us, H p = some (.tup us) → TkL H us (x.ms.map kM) → Q (.ref p) H) : tFld K t "marks" σ H Q := by
  obtain ⟨a, dx, fs, p, q1, us, ws, rfl, h2, h3, h4, h5, h6, h7, h8, h9⟩ := h
  exact ht _ ⟨a, _, dx, fs, _, rfl, h2, F.cls, F.noat _ (by simp), h5, q q1 ws h8 h9⟩
end L2.WB
namespace L2.XS
open PySem PySem.Spec PyProof.Rows L2 L2.WB
theorem for_it {J : It} {n : Nat} {g : TG} {tb : TS} {D : Ends} {σ : St} {H : Hp} (Pv : Nat → St → Hp → Prop) (h0 : Pv 0 σ H) (hg : ∀ i σ H, i < n → Pv i σ H → J.go i H) (he : ∀ σ H, Pv n σ H → J.stop n H)
    (hs : ∀ i x σ H H', i < n → Pv i σ H → J.yld i H x H' → g x σ H' fun σ2 H2 => tb { D with nx := Pv (i + 1), ct := Pv (i + 1), bk := D.nx } σ2 H2) (hd : ∀ σ H, Pv n σ H → D.nx σ H) :
    ∃ W : Nat → Nat → St → Hp → Prop, (∃ m, W 0 m σ H) ∧ ∀ i m σ H, W i m σ H →
      (J.stop i H ∧ D.nx σ H) ∨ (J.go i H ∧ ∃ N : St → Hp → Prop, (∀ σ' H', N σ' H' → ∃ m', m' < m ∧ W (i + 1) m' σ' H') ∧ ∀ x H', J.yld i H x H' → g x σ H' fun σ2 H2 => tb { D with nx := N, ct := N, bk := D.nx } σ2 H2) := by
  refine ⟨fun i m σ H => m = n - i ∧ i ≤ n ∧ Pv i σ H, ⟨n, by simp, Nat.zero_le _, h0⟩, ?_⟩
  rintro i m σ H ⟨rfl, hi, p⟩
  by_cases lt : i < n
  · exact .inr ⟨hg i σ H lt p, Pv (i + 1), fun σ' H' p' => ⟨n - (i + 1), by omega, rfl, lt, p'⟩, fun x H' y => hs i x σ H H' lt p y⟩
  · have e : i = n := by omega
    subst e
    exact .inl ⟨he σ H p, hd σ H p⟩
theorem lc_it {J : It} {n : Nat} {g : TG} {tt : TT} {te : TE} {vs : List Nat} {σ : St} {H1 : Hp} {D : Addr} {Qd : Hp → Prop} (Pv : Nat → Hp → Prop) (h0 : Pv 0 (upd H1 D (.lst []))) (hg : ∀ i H, i < n → Pv i H → J.go i H) (he : ∀ H, Pv n H → J.stop n H)
    (hs : ∀ i x H H', i < n → Pv i H → J.yld i H x H' → g x (wipe σ vs) H' fun σ2 H2 => wipe σ2 vs = wipe σ vs ∧ tt σ2 H2 fun b H3 =>
      if b = true then te σ2 H3 fun y H4 => ∃ acc, H4 D = some (.lst acc) ∧ acc.length < sizeLine ∧ Pv (i + 1) (upd H4 D (.lst (acc ++ [y]))) else Pv (i + 1) H3) (hd : ∀ H, Pv n H → Qd H) :
    ∃ W : Nat → Nat → Hp → Prop, (∃ m, W 0 m (upd H1 D (.lst []))) ∧ ∀ i m H, W i m H →
      (J.stop i H ∧ Qd H) ∨ (J.go i H ∧ ∃ Nx : Hp → Prop, (∀ H', Nx H' → ∃ m', m' < m ∧ W (i + 1) m' H') ∧ ∀ x H', J.yld i H x H' → g x (wipe σ vs) H' fun σ2 H2 => wipe σ2 vs = wipe σ vs ∧ tt σ2 H2 fun b H3 =>
        if b = true then te σ2 H3 fun y H4 => ∃ acc, H4 D = some (.lst acc) ∧ acc.length < sizeLine ∧ Nx (upd H4 D (.lst (acc ++ [y]))) else Nx H3) := by
  refine ⟨fun i m H => m = n - i ∧ i ≤ n ∧ Pv i H, ⟨n, by simp, Nat.zero_le _, h0⟩, ?_⟩
  rintro i m H ⟨rfl, hi, p⟩
  by_cases lt : i < n
  · exact .inr ⟨hg i H lt p, Pv (i + 1), fun H' p' => ⟨n - (i + 1), by omega, rfl, lt, p'⟩, fun x H' y => hs i x H H' lt p y⟩
  · have e : i = n := by omega
    subst e
    exact .inl ⟨he H p, hd H p⟩
theorem dc_it {J : It} {n : Nat} {g : TG} {tt : TT} {tk tv : TE} {vs : List Nat} {σ : St} {H1 : Hp} {D : Addr} {Qd : Hp → Prop} (Pv : Nat → Hp → Prop) (h0 : Pv 0 (upd H1 D (.dK []))) (hg : ∀ i H, i < n → Pv i H → J.go i H) (he : ∀ H, Pv n H → J.stop n H)
    (hs : ∀ i x H H', i < n → Pv i H → J.yld i H x H' → g x (wipe σ vs) H' fun σ2 H2 => wipe σ2 vs = wipe σ vs ∧ tt σ2 H2 fun b H3 =>
      if b = true then tk σ2 H3 fun y H4 => tv σ2 H4 fun z H5 => ∃ kvs k, y = kV k ∧ H5 D = some (.dK kvs) ∧ kvs.length < sizeLine ∧ Pv (i + 1) (upd H5 D (.dK (putK kvs k z))) else Pv (i + 1) H3) (hd : ∀ H, Pv n H → Qd H) :
    ∃ W : Nat → Nat → Hp → Prop, (∃ m, W 0 m (upd H1 D (.dK []))) ∧ ∀ i m H, W i m H →
      (J.stop i H ∧ Qd H) ∨ (J.go i H ∧ ∃ Nx : Hp → Prop, (∀ H', Nx H' → ∃ m', m' < m ∧ W (i + 1) m' H') ∧ ∀ x H', J.yld i H x H' → g x (wipe σ vs) H' fun σ2 H2 => wipe σ2 vs = wipe σ vs ∧ tt σ2 H2 fun b H3 =>
        if b = true then tk σ2 H3 fun y H4 => tv σ2 H4 fun z H5 => ∃ kvs k, y = kV k ∧ H5 D = some (.dK kvs) ∧ kvs.length < sizeLine ∧ Nx (upd H5 D (.dK (putK kvs k z))) else Nx H3) := by
  refine ⟨fun i m H => m = n - i ∧ i ≤ n ∧ Pv i H, ⟨n, by simp, Nat.zero_le _, h0⟩, ?_⟩
  rintro i m H ⟨rfl, hi, p⟩
  by_cases lt : i < n
  · exact .inr ⟨hg i H lt p, Pv (i + 1), fun H' p' => ⟨n - (i + 1), by omega, rfl, lt, p'⟩, fun x H' y => hs i x H H' lt p y⟩
  · have e : i = n := by omega
    subst e
    exact .inl ⟨he H p, hd H p⟩
theorem sc_it {w : World} {J : It} {n : Nat} {g : TG} {tt : TT} {te : TE} {vs : List Nat} {σ : St} {H1 : Hp} {D : Addr} {Qd : Hp → Prop} (Pv : Nat → Hp → Prop) (h0 : Pv 0 (upd H1 D (SetCO w D []))) (hg : ∀ i H, i < n → Pv i H → J.go i H) (he : ∀ H, Pv n H → J.stop n H)
    (hs : ∀ i x H H', i < n → Pv i H → J.yld i H x H' → g x (wipe σ vs) H' fun σ2 H2 => wipe σ2 vs = wipe σ vs ∧ tt σ2 H2 fun b H3 =>
      if b = true then te σ2 H3 fun y H4 => ∃ (c : Key) (L : List Key), y = kV c ∧ H4 D = some (SetCO w D L) ∧ L.length + 1 < scanBound ∧ Pv (i + 1) (upd H4 D (SetCO w D (insK L c))) else Pv (i + 1) H3) (hd : ∀ H, Pv n H → Qd H) :
    ∃ W : Nat → Nat → Hp → Prop, (∃ m, W 0 m (upd H1 D (SetCO w D []))) ∧ ∀ i m H, W i m H →
      (J.stop i H ∧ Qd H) ∨ (J.go i H ∧ ∃ Nx : Hp → Prop, (∀ H', Nx H' → ∃ m', m' < m ∧ W (i + 1) m' H') ∧ ∀ x H', J.yld i H x H' → g x (wipe σ vs) H' fun σ2 H2 => wipe σ2 vs = wipe σ vs ∧ tt σ2 H2 fun b H3 =>
        if b = true then te σ2 H3 fun y H4 => ∃ (c : Key) (L : List Key), y = kV c ∧ H4 D = some (SetCO w D L) ∧ L.length + 1 < scanBound ∧ Nx (upd H4 D (SetCO w D (insK L c))) else Nx H3) := by
  refine ⟨fun i m H => m = n - i ∧ i ≤ n ∧ Pv i H, ⟨n, by simp, Nat.zero_le _, h0⟩, ?_⟩
  rintro i m H ⟨rfl, hi, p⟩
  by_cases lt : i < n
  · exact .inr ⟨hg i H lt p, Pv (i + 1), fun H' p' => ⟨n - (i + 1), by omega, rfl, lt, p'⟩, fun x H' y => hs i x H H' lt p y⟩
  · have e : i = n := by omega
    subst e
    exact .inl ⟨he H p, hd H p⟩
def ForOk (J : It) (g : TG) (tb : TS) (D : Ends) (σ : St) (H : Hp) : Prop := ∃ W : Nat → Nat → St → Hp → Prop, (∃ m, W 0 m σ H) ∧ ∀ i m σ H, W i m σ H →
      (J.stop i H ∧ D.nx σ H) ∨ (J.go i H ∧ ∃ N : St → Hp → Prop, (∀ σ' H', N σ' H' → ∃ m', m' < m ∧ W (i + 1) m' σ' H') ∧ ∀ x H', J.yld i H x H' → g x σ H' fun σ2 H2 => tb { D with nx := N, ct := N, bk := D.nx } σ2 H2)
def LcOk (J : It) (g : TG) (tt : TT) (te : TE) (vs : List Nat) (σ : St) (H1 : Hp) (Q : VK) : Prop := ∀ D, H1 D = none → ∃ W : Nat → Nat → Hp → Prop, (∃ m, W 0 m (upd H1 D (.lst []))) ∧ ∀ i m H, W i m H →
      (J.stop i H ∧ Q (.ref D) H) ∨ (J.go i H ∧ ∃ Nx : Hp → Prop, (∀ H', Nx H' → ∃ m', m' < m ∧ W (i + 1) m' H') ∧ ∀ x H', J.yld i H x H' → g x (wipe σ vs) H' fun σ2 H2 => wipe σ2 vs = wipe σ vs ∧ tt σ2 H2 fun b H3 =>
        if b = true then te σ2 H3 fun y H4 => ∃ acc, H4 D = some (.lst acc) ∧ acc.length < sizeLine ∧ Nx (upd H4 D (.lst (acc ++ [y]))) else Nx H3)
def DcOk (J : It) (g : TG) (tt : TT) (tk tv : TE) (vs : List Nat) (σ : St) (H1 : Hp) (Q : VK) : Prop := ∀ D, H1 D = none → ∃ W : Nat → Nat → Hp → Prop, (∃ m, W 0 m (upd H1 D (.dK []))) ∧ ∀ i m H, W i m H →
      (J.stop i H ∧ Q (.ref D) H) ∨ (J.go i H ∧ ∃ Nx : Hp → Prop, (∀ H', Nx H' → ∃ m', m' < m ∧ W (i + 1) m' H') ∧ ∀ x H', J.yld i H x H' → g x (wipe σ vs) H' fun σ2 H2 => wipe σ2 vs = wipe σ vs ∧ tt σ2 H2 fun b H3 =>
        if b = true then tk σ2 H3 fun y H4 => tv σ2 H4 fun z H5 => ∃ kvs k, y = kV k ∧ H5 D = some (.dK kvs) ∧ kvs.length < sizeLine ∧ Nx (upd H5 D (.dK (putK kvs k z))) else Nx H3)
def ScOk (w : World) (J : It) (g : TG) (tt : TT) (te : TE) (vs : List Nat) (σ : St) (H1 : Hp) (Q : VK) : Prop := ∀ D, H1 D = none → ∃ W : Nat → Nat → Hp → Prop, (∃ m, W 0 m (upd H1 D (SetCO w D []))) ∧ ∀ i m H, W i m H →
      (J.stop i H ∧ Q (.ref D) H) ∨ (J.go i H ∧ ∃ Nx : Hp → Prop, (∀ H', Nx H' → ∃ m', m' < m ∧ W (i + 1) m' H') ∧ ∀ x H', J.yld i H x H' → g x (wipe σ vs) H' fun σ2 H2 => wipe σ2 vs = wipe σ vs ∧ tt σ2 H2 fun b H3 =>
        if b = true then te σ2 H3 fun y H4 => ∃ (c : Key) (L : List Key), y = kV c ∧ H4 D = some (SetCO w D L) ∧ L.length + 1 < scanBound ∧ Nx (upd H4 D (SetCO w D (insK L c))) else Nx H3)
theorem for_of {wi : TI} {g : TG} {tb : TS} {D : Ends} {σ : St} {H : Hp} (h : wi σ H fun J H1 => ForOk J g tb D σ H1) : tFor wi g tb D σ H := h
theorem lc_of {wi : TI} {g : TG} {tt : TT} {te : TE} {vs : List Nat} {σ : St} {H : Hp} {Q : VK} (h : wi σ H fun J H1 => LcOk J g tt te vs σ H1 Q) : tLc wi g tt te vs σ H Q := h
theorem dc_of {wi : TI} {g : TG} {tt : TT} {tk tv : TE} {vs : List Nat} {σ : St} {H : Hp} {Q : VK} (h : wi σ H fun J H1 => DcOk J g tt tk tv vs σ H1 Q) : tDc wi g tt tk tv vs σ H Q := h
theorem sc_of {w : World} {wi : TI} {g : TG} {tt : TT} {te : TE} {vs : List Nat} {σ : St} {H : Hp} {Q : VK} (h : wi σ H fun J H1 => ScOk w J g tt te vs σ H1 Q) : tScK w wi g tt te vs σ H Q := h
theorem for_ok {J : It} {n : Nat} {g : TG} {tb : TS} {D : Ends} {σ : St} {H : Hp} (Pv : Nat → St → Hp → Prop) (h0 : Pv 0 σ H) (hg : ∀ i σ H, i < n → Pv i σ H → J.go i H) (he : ∀ σ H, Pv n σ H → J.stop n H)
    (hs : ∀ i x σ H H', i < n → Pv i σ H → J.yld i H x H' → g x σ H' fun σ2 H2 => tb { D with nx := Pv (i + 1), ct := Pv (i + 1), bk := D.nx } σ2 H2) (hd : ∀ σ H, Pv n σ H → D.nx σ H) : ForOk J g tb D σ H := for_it Pv h0 hg he hs hd
theorem lc_ok {J : It} {n : Nat} {g : TG} {tt : TT} {te : TE} {vs : List Nat} {σ : St} {H1 : Hp} {Q : VK} (Pv : Addr → Nat → Hp → Prop) (h0 : ∀ D, H1 D = none → Pv D 0 (upd H1 D (.lst []))) (hg : ∀ D i H, i < n → Pv D i H → J.go i H) (he : ∀ D H, Pv D n H → J.stop n H)
    (hs : ∀ D i x H H', H1 D = none → i < n → Pv D i H → J.yld i H x H' → g x (wipe σ vs) H' fun σ2 H2 => wipe σ2 vs = wipe σ vs ∧ tt σ2 H2 fun b H3 =>
      if b = true then te σ2 H3 fun y H4 => ∃ acc, H4 D = some (.lst acc) ∧ acc.length < sizeLine ∧ Pv D (i + 1) (upd H4 D (.lst (acc ++ [y]))) else Pv D (i + 1) H3) (hd : ∀ D H, H1 D = none → Pv D n H → Q (.ref D) H) : LcOk J g tt te vs σ H1 Q := fun D nD => lc_it (Pv D) (h0 D nD) (hg D) (he D) (fun i x H H' => hs D i x H H' nD) fun H => hd D H nD
theorem dc_ok {J : It} {n : Nat} {g : TG} {tt : TT} {tk tv : TE} {vs : List Nat} {σ : St} {H1 : Hp} {Q : VK} (Pv : Addr → Nat → Hp → Prop) (h0 : ∀ D, H1 D = none → Pv D 0 (upd H1 D (.dK []))) (hg : ∀ D i H, i < n → Pv D i H → J.go i H) (he : ∀ D H, Pv D n H → J.stop n H)
    (hs : ∀ D i x H H', H1 D = none → i < n → Pv D i H → J.yld i H x H' → g x (wipe σ vs) H' fun σ2 H2 => wipe σ2 vs = wipe σ vs ∧ tt σ2 H2 fun b H3 =>
      if b = true then tk σ2 H3 fun y H4 => tv σ2 H4 fun z H5 => ∃ kvs k, y = kV k ∧ H5 D = some (.dK kvs) ∧ kvs.length < sizeLine ∧ Pv D (i + 1) (upd H5 D (.dK (putK kvs k z))) else Pv D (i + 1) H3) (hd : ∀ D H, H1 D = none → Pv D n H → Q (.ref D) H) : DcOk J g tt tk tv vs σ H1 Q := fun D nD => dc_it (Pv D) (h0 D nD) (hg D) (he D) (fun i x H H' => hs D i x H H' nD) fun H => hd D H nD
theorem sc_ok {w : World} {J : It} {n : Nat} {g : TG} {tt : TT} {te : TE} {vs : List Nat} {σ : St} {H1 : Hp} {Q : VK} (Pv : Addr → Nat → Hp → Prop) (h0 : ∀ D, H1 D = none → Pv D 0 (upd H1 D (SetCO w D []))) (hg : ∀ D i H, i < n → Pv D i H → J.go i H) (he : ∀ D H, Pv D n H → J.stop n H)
    (hs : ∀ D i x H H', H1 D = none → i < n → Pv D i H → J.yld i H x H' → g x (wipe σ vs) H' fun σ2 H2 => wipe σ2 vs = wipe σ vs ∧ tt σ2 H2 fun b H3 =>
      if b = true then te σ2 H3 fun y H4 => ∃ (c : Key) (L : List Key), y = kV c ∧ H4 D = some (SetCO w D L) ∧ L.length + 1 < scanBound ∧ Pv D (i + 1) (upd H4 D (SetCO w D (insK L c))) else Pv D (i + 1) H3) (hd : ∀ D H, H1 D = none → Pv D n H → Q (.ref D) H) : ScOk w J g tt te vs σ H1 Q := fun D nD => sc_it (Pv D) (h0 D nD) (hg D) (he D) (fun i x H H' => hs D i x H H' nD) fun H => hd D H nD
theorem go_l {K : PySem.W.Frag} {a : Addr} {xs : List V} {i : Nat} {H : Hp} (h : H a = some (.lst xs)) (lt : i < xs.length) : (Itl K a).go i H := ⟨xs, xs[i], .inl (.inl h), by simp [lt]⟩
theorem go_t {K : PySem.W.Frag} {a : Addr} {xs : List V} {i : Nat} {H : Hp} (h : H a = some (.tup xs)) (lt : i < xs.length) : (Itt K a).go i H := ⟨xs, xs[i], .inl (.inl h), by simp [lt]⟩
theorem stop_l {K : PySem.W.Frag} {a : Addr} {xs : List V} {H : Hp} (h : H a = some (.lst xs)) : (Itl K a).stop xs.length H := ⟨xs, .inl (.inl h), Nat.le_refl _⟩
theorem stop_t {K : PySem.W.Frag} {a : Addr} {xs : List V} {H : Hp} (h : H a = some (.tup xs)) : (Itt K a).stop xs.length H := ⟨xs, .inl (.inl h), Nat.le_refl _⟩
theorem yl {K : PySem.W.Frag} {a : Addr} {xs : List V} {i : Nat} {H H' : Hp} {x : V} (h : H a = some (.lst xs)) (y : (Itl K a).yld i H x H') : H' = H ∧ xs[i]? = some x := ⟨y.1, y.2 xs (.inl (.inl h))⟩
theorem yt {K : PySem.W.Frag} {a : Addr} {xs : List V} {i : Nat} {H H' : Hp} {x : V} (h : H a = some (.tup xs)) (y : (Itt K a).yld i H x H') : H' = H ∧ xs[i]? = some x := ⟨y.1, y.2 xs (.inl (.inl h))⟩
/-- over a list that stays -/
theorem for_l {K : PySem.W.Frag} {a : Addr} {xs : List V} {g : TG} {tb : TS} {D : Ends} {σ : St} {H : Hp} (Pv : Nat → St → Hp → Prop) (h0 : Pv 0 σ H) (hl : ∀ i σ H, Pv i σ H → H a = some (.lst xs))
    (hs : ∀ i x σ H, xs[i]? = some x → Pv i σ H → g x σ H fun σ2 H2 => tb { D with nx := Pv (i + 1), ct := Pv (i + 1), bk := D.nx } σ2 H2) (hd : ∀ σ H, Pv xs.length σ H → D.nx σ H) : ForOk (Itl K a) g tb D σ H :=
  for_ok (n := xs.length) Pv h0 (fun i σ H lt p => go_l (hl i σ H p) lt) (fun σ H p => stop_l (hl _ σ H p)) (fun i x σ H H' lt p y => by have z := yl (hl i σ H p) y; have e := z.1; subst e; exact hs i x σ _ z.2 p) hd
theorem for_t {K : PySem.W.Frag} {a : Addr} {xs : List V} {g : TG} {tb : TS} {D : Ends} {σ : St} {H : Hp} (Pv : Nat → St → Hp → Prop) (h0 : Pv 0 σ H) (hl : ∀ i σ H, Pv i σ H → H a = some (.tup xs))
    (hs : ∀ i x σ H, xs[i]? = some x → Pv i σ H → g x σ H fun σ2 H2 => tb { D with nx := Pv (i + 1), ct := Pv (i + 1), bk := D.nx } σ2 H2) (hd : ∀ σ H, Pv xs.length σ H → D.nx σ H) : ForOk (Itt K a) g tb D σ H :=
  for_ok (n := xs.length) Pv h0 (fun i σ H lt p => go_t (hl i σ H p) lt) (fun σ H p => stop_t (hl _ σ H p)) (fun i x σ H H' lt p y => by have z := yt (hl i σ H p) y; have e := z.1; subst e; exact hs i x σ _ z.2 p) hd
theorem for_r {n : Nat} {g : TG} {tb : TS} {D : Ends} {σ : St} {H : Hp} (Pv : Nat → St → Hp → Prop) (h0 : Pv 0 σ H)
    (hs : ∀ i σ H, i < n → Pv i σ H → g (.int (i : Nat)) σ H fun σ2 H2 => tb { D with nx := Pv (i + 1), ct := Pv (i + 1), bk := D.nx } σ2 H2) (hd : ∀ σ H, Pv n σ H → D.nx σ H) : ForOk (Itr 0 n) g tb D σ H :=
  for_ok (n := n) Pv h0 (fun i σ H lt p => lt) (fun σ H p => Nat.le_refl _) (fun i x σ H H' lt p y => by
    obtain ⟨e, y⟩ := y
    subst e y
    rw [show (0 : Int) + ((i : Nat) : Int) = ((i : Nat) : Int) by omega]
    exact hs i σ _ lt p) hd
theorem lc_l {K : PySem.W.Frag} {a : Addr} {xs : List V} {g : TG} {tt : TT} {te : TE} {vs : List Nat} {σ : St} {H1 : Hp} {Q : VK} (Pv : Addr → Nat → Hp → Prop) (h0 : ∀ D, H1 D = none → Pv D 0 (upd H1 D (.lst []))) (hl : ∀ D i H, Pv D i H → H a = some (.lst xs))
    (hs : ∀ D i x H, H1 D = none → xs[i]? = some x → Pv D i H → g x (wipe σ vs) H fun σ2 H2 => wipe σ2 vs = wipe σ vs ∧ tt σ2 H2 fun b H3 =>
      if b = true then te σ2 H3 fun y H4 => ∃ acc, H4 D = some (.lst acc) ∧ acc.length < sizeLine ∧ Pv D (i + 1) (upd H4 D (.lst (acc ++ [y]))) else Pv D (i + 1) H3) (hd : ∀ D H, H1 D = none → Pv D xs.length H → Q (.ref D) H) : LcOk (Itl K a) g tt te vs σ H1 Q :=
  lc_ok (n := xs.length) Pv h0 (fun D i H lt p => go_l (hl D i H p) lt) (fun D H p => stop_l (hl D _ H p)) (fun D i x H H' nD lt p y => by have z := yl (hl D i H p) y; have e := z.1; subst e; exact hs D i x _ nD z.2 p) hd
theorem lc_t {K : PySem.W.Frag} {a : Addr} {xs : List V} {g : TG} {tt : TT} {te : TE} {vs : List Nat} {σ : St} {H1 : Hp} {Q : VK} (Pv : Addr → Nat → Hp → Prop) (h0 : ∀ D, H1 D = none → Pv D 0 (upd H1 D (.lst []))) (hl : ∀ D i H, Pv D i H → H a = some (.tup xs))
    (hs : ∀ D i x H, H1 D = none → xs[i]? = some x → Pv D i H → g x (wipe σ vs) H fun σ2 H2 => wipe σ2 vs = wipe σ vs ∧ tt σ2 H2 fun b H3 =>
      if b = true then te σ2 H3 fun y H4 => ∃ acc, H4 D = some (.lst acc) ∧ acc.length < sizeLine ∧ Pv D (i + 1) (upd H4 D (.lst (acc ++ [y]))) else Pv D (i + 1) H3) (hd : ∀ D H, H1 D = none → Pv D xs.length H → Q (.ref D) H) : LcOk (Itt K a) g tt te vs σ H1 Q :=
  lc_ok (n := xs.length) Pv h0 (fun D i H lt p => go_t (hl D i H p) lt) (fun D H p => stop_t (hl D _ H p)) (fun D i x H H' nD lt p y => by have z := yt (hl D i H p) y; have e := z.1; subst e; exact hs D i x _ nD z.2 p) hd
theorem lc_r {n : Nat} {g : TG} {tt : TT} {te : TE} {vs : List Nat} {σ : St} {H1 : Hp} {Q : VK} (Pv : Addr → Nat → Hp → Prop) (h0 : ∀ D, H1 D = none → Pv D 0 (upd H1 D (.lst [])))
    (hs : ∀ D i H, H1 D = none → i < n → Pv D i H → g (.int (i : Nat)) (wipe σ vs) H fun σ2 H2 => wipe σ2 vs = wipe σ vs ∧ tt σ2 H2 fun b H3 =>
      if b = true then te σ2 H3 fun y H4 => ∃ acc, H4 D = some (.lst acc) ∧ acc.length < sizeLine ∧ Pv D (i + 1) (upd H4 D (.lst (acc ++ [y]))) else Pv D (i + 1) H3) (hd : ∀ D H, H1 D = none → Pv D n H → Q (.ref D) H) : LcOk (Itr 0 n) g tt te vs σ H1 Q :=
  lc_ok (n := n) Pv h0 (fun D i H lt p => lt) (fun D H p => Nat.le_refl _) (fun D i x H H' nD lt p y => by
    obtain ⟨e, y⟩ := y
    subst e y
    rw [show (0 : Int) + ((i : Nat) : Int) = ((i : Nat) : Int) by omega]
    exact hs D i _ nD lt p) hd
end L2.XS
namespace L2.XS
open L2.XB
/-- the digits from the lowest on -/
def rb (n : Nat) : List Nat := (bin n).reverse
theorem rb_small {n : Nat} (h : n < 2) : rb n = [48 + n] := by
  unfold rb bin
  rw [Nat.toDigits_of_lt_base h]
  have : n = 0 ∨ n = 1 := by omega
  rcases this with rfl | rfl <;> rfl
theorem rb_big {n : Nat} (h : ¬ n < 2) : rb n = (48 + n % 2) :: rb (n / 2) := by
  unfold rb bin
  rw [Nat.toDigits_eq_if (by decide), if_neg h, List.map_append, List.reverse_append]
  have : n % 2 = 0 ∨ n % 2 = 1 := by omega
  rcases this with e | e <;> rw [e] <;> rfl
theorem rb_at (n : Nat) : ∀ i d, (rb n)[i]? = some d → d = if n.testBit i = true then 49 else 48 := by
  induction n using Nat.strongRecOn with
  | ind n ih =>
    intro i d h
    by_cases hn : n < 2
    · rw [rb_small hn] at h
      cases i with
      | zero =>
        have h : some (48 + n) = some d := h
        cases h
        have : n = 0 ∨ n = 1 := by omega
        rcases this with rfl | rfl <;> rfl
      | succ i => simp at h
    · rw [rb_big hn] at h
      cases i with
      | zero =>
        have h : some (48 + n % 2) = some d := h
        cases h
        rw [Nat.testBit_zero]
        have : n % 2 = 0 ∨ n % 2 = 1 := by omega
        rcases this with e | e <;> rw [e] <;> rfl
      | succ i =>
        rw [Nat.testBit_succ]
        exact ih (n / 2) (by omega) i d h
theorem rb_long (n : Nat) : ∀ i, n.testBit i = true → i < (rb n).length := by
  induction n using Nat.strongRecOn with
  | ind n ih =>
    intro i h
    by_cases hn : n < 2
    · rw [rb_small hn]
      cases i with
      | zero => exact Nat.succ_pos _
      | succ i =>
        rw [Nat.testBit_succ] at h
        have : n / 2 = 0 := by omega
        rw [this, Nat.zero_testBit] at h
        cases h
    · rw [rb_big hn]
      cases i with
      | zero => exact Nat.succ_pos _
      | succ i =>
        rw [Nat.testBit_succ] at h
        exact Nat.succ_lt_succ (ih (n / 2) (by omega) i h)
theorem rb_len {n N : Nat} (h : n < 2 ^ N) (h1 : 1 ≤ N) : (rb n).length ≤ N := by
  unfold rb bin
  rw [List.length_reverse, List.length_map]
  exact (Nat.length_toDigits_le_iff (by decide) h1).mpr h
/-- the places of the ones -/
theorem rb_bits (n : Nat) : (List.range (rb n).length).filter (fun i => decide ((rb n)[i]? = some 49)) = bitsOf n := by
  symm
  refine bits_eq fun i => ⟨fun h => ?_, fun h => ?_⟩
  · have l := rb_long n i h
    have e := rb_at n i _ (List.getElem?_eq_getElem l)
    rw [if_pos h] at e
    exact ⟨l, decide_eq_true (by rw [List.getElem?_eq_getElem l, e])⟩
  · have e := rb_at n i _ (of_decide_eq_true h.2)
    cases q : n.testBit i with
    | true => rfl
    | false => rw [q] at e; cases e
end L2.XS
namespace L2.WB
open PySem PySem.Spec PyProof.Rows L2.XS L2.XB
open K19 (isL isK)
/-- a new list of numbers -/
def NewL (H : Hp) (Q : VK) (l : List Nat) : Prop := ∀ p H2, Same H H2 → H p = none → H2 p = some (.lst (l.map nV)) → Q (.ref p) H2
def spMem : Sp := fun vs H Q _ => ∃ m N, vs = [nV m] ∧ m < 2 ^ N ∧ 1 ≤ N ∧ N ≤ 100000 ∧ NewL H Q (bitsOf m)
def spMask : Sp := fun vs H Q _ => ∃ a l, vs = [.ref a] ∧ H a = some (.lst (l.map nV)) ∧ (∀ i ∈ l, i ≤ 100000) ∧ Q (nV (maskOf l)) H
def spImage : Sp := fun vs H Q _ => ∃ r R m, vs = [.ref r, nV m] ∧ H r = some (.tup (R.map nV)) ∧ m < 2 ^ R.length ∧ R.length ≤ 100000 ∧ Q (nV (imageN R m)) H
section
variable {P : Program} {w : World} {K : PySem.W.Frag} {c : Ad} {H : Hp} {Q : VK} {E : XK} {vs : List V}
theorem one_sOf (c : Nat) : (⟨#[c]⟩ : Str) = sOf [c] := rfl
theorem range_succ_filter (n : Nat) (p : Nat → Bool) : (List.range (n + 1)).filter p = (List.range n).filter p ++ if p n = true then [n] else [] := by
  rw [List.range_succ, List.filter_append]
  congr 1
  rw [List.filter_cons]
  rfl
theorem q_members (h : spMem vs H Q E) : t_members P w K c (fin0 Q) (start N_members vs) H := by
  obtain ⟨m, N, rfl, hm, h1, hN, q⟩ := h
  have hl := rb_len hm h1
  have hb : (XS.bin m).length = (rb m).length := (List.length_reverse).symm
  show t_members P w K c (fin0 Q) [some (nV m), none, none, none] H
  dsimp only [t_members, tSeq, tAsg, tIfS, tRet, tRetN, tDrop, tNext, tOp, tUn, tCons, tNil, tTup, tLst, tC, tCB, tCan, tAnd, tOr, tNot, tB, tIf, uB, uAndV, uOrV, uNotV, uNeg, uV, gName, gSub, tAug, ipI, tPart, tNoPart, tSl, tBM, tBM0, uLen, uAbs, uInt, uAdd, uSub, uMod, uFdiv, uMul, uBand, uBor, uCmp, uLt, uLe, uGt, uGe, StX.tMakeR, sFld, wipe, tYes, tGThen, tPlain, GEnds.at, tG0, tGIf, tGYield, tIsN, tNotN, tTru, tBits, tFmtB, tRevS, tRevL, start, fin0, List.getElem?_cons_zero, List.getElem?_cons_succ, List.map_cons, List.map_nil, List.length_cons, List.length_nil, List.replicate, List.cons_append, List.nil_append, Nat.reduceSub, Nat.reduceAdd, List.set_cons_zero, List.set_cons_succ]
  refine ⟨m, rfl, sl_ok (by omega), ?_⟩
  refine ⟨_, rfl, sl_ok (show (XS.bin m).length ≤ 1000000 by omega), sOf (rb m), rfl, fun D nD => ?_⟩
  refine lc_it (J := ItE (sOf (rb m))) (n := (rb m).length) (fun i H2 => Same H H2 ∧ H2 D = some (.lst (((List.range i).filter fun j => decide ((rb m)[j]? = some 49)).map nV))) ⟨same_new nD, upd_same⟩ (fun i H2 lt _ => lt) (fun H2 _ => Nat.le_refl _) ?_ ?_
  · rintro i x H2 H' lt ⟨s2, e2⟩ ⟨T, d, rfl, nT, hd, rfl⟩
    have hd : (rb m)[i]? = some d := by rw [← hd]; exact (Array.getElem?_toList (xs := (sOf (rb m)).cps)).symm ▸ rfl
    have nDT : D ≠ T := ne_of_none e2 nT
    refine ⟨T, _, rfl, sqT upd_same, rfl, _, _, rfl, _, _, rfl, rfl, rfl, ?_⟩
    dsimp only [uEq, tSeq, tAsg, tIfS, tRet, tRetN, tDrop, tNext, tOp, tUn, tCons, tNil, tTup, tLst, tC, tCB, tCan, tAnd, tOr, tNot, tB, tIf, uB, uAndV, uOrV, uNotV, uNeg, uV, gName, gSub, tAug, ipI, tPart, tNoPart, tSl, tBM, tBM0, uLen, uAbs, uInt, uAdd, uSub, uMod, uFdiv, uMul, uBand, uBor, uCmp, uLt, uLe, uGt, uGe, StX.tMakeR, sFld, wipe, tYes, tGThen, tPlain, GEnds.at, tG0, tGIf, tGYield, tIsN, tNotN, tTru, tBits, tFmtB, tRevS, tRevL, start, fin0, List.getElem?_cons_zero, List.getElem?_cons_succ, List.map_cons, List.map_nil, List.length_cons, List.length_nil, List.replicate, List.cons_append, List.nil_append, Nat.reduceSub, Nat.reduceAdd, List.set_cons_zero, List.set_cons_succ]
    rw [one_sOf]
    rw [dec_sOf, range_succ_filter, hd]
    refine ifD (fun e => ?_) fun e => ?_
    · obtain rfl : d = 49 := by simpa using e
      refine ⟨_, by rw [upd_ne nDT]; exact e2, ?_, same_upd (s2.trans (same_new nT)) nD, ?_⟩
      · rw [List.length_map]
        have := List.length_filter_le (fun j => decide ((rb m)[j]? = some 49)) (List.range i)
        rw [List.length_range] at this
        rw [sizeLine_eq]; omega
      · rw [upd_same, if_pos (decide_eq_true rfl), List.map_append]
        rfl
    · refine ⟨s2.trans (same_new nT), ?_⟩
      rw [if_neg (by rw [decide_eq_true_eq]; intro z; cases z; exact e rfl), List.append_nil, upd_ne nDT]
      exact e2
  · rintro H2 ⟨s2, e2⟩
    rw [rb_bits] at e2
    exact q D H2 s2 nD e2
theorem q_mask_of (h : spMask vs H Q E) : t_mask_of P w K c (fin0 Q) (start N_mask_of vs) H := by
  obtain ⟨a, l, rfl, ha, hl, q⟩ := h
  show t_mask_of P w K c (fin0 Q) [some (.ref a), none, none] H
  dsimp only [t_mask_of, tSeq, tAsg, tIfS, tRet, tRetN, tDrop, tNext, tOp, tUn, tCons, tNil, tTup, tLst, tC, tCB, tCan, tAnd, tOr, tNot, tB, tIf, uB, uAndV, uOrV, uNotV, uNeg, uV, gName, gSub, tAug, ipI, tPart, tNoPart, tSl, tBM, tBM0, uLen, uAbs, uInt, uAdd, uSub, uMod, uFdiv, uMul, uBand, uBor, uCmp, uLt, uLe, uGt, uGe, StX.tMakeR, sFld, wipe, tYes, tGThen, tPlain, GEnds.at, tG0, tGIf, tGYield, tIsN, tNotN, tTru, tBits, tFmtB, tRevS, tRevL, start, fin0, List.getElem?_cons_zero, List.getElem?_cons_succ, List.map_cons, List.map_nil, List.length_cons, List.length_nil, List.replicate, List.cons_append, List.nil_append, Nat.reduceSub, Nat.reduceAdd, List.set_cons_zero, List.set_cons_succ]
  refine ⟨a, rfl, ⟨_, sqL ha⟩, for_list (K := K) (a := a) (xs := l.map nV) (fun i σ H2 => ∃ y, σ = [some (.ref a), some (nV (maskOf (l.take i))), y] ∧ H2 = H) ⟨none, rfl, rfl⟩ (fun i σ H2 _ ⟨_, _, e⟩ => by rw [e]; exact sqL ha) ?_ ?_⟩
  · rintro i x σ H2 hx ⟨y, rfl, rfl⟩
    rw [List.getElem?_map] at hx
    obtain ⟨n, hn, rfl⟩ := Option.map_eq_some_iff.mp hx
    dsimp only [uShl, tSeq, tAsg, tIfS, tRet, tRetN, tDrop, tNext, tOp, tUn, tCons, tNil, tTup, tLst, tC, tCB, tCan, tAnd, tOr, tNot, tB, tIf, uB, uAndV, uOrV, uNotV, uNeg, uV, gName, gSub, tAug, ipI, tPart, tNoPart, tSl, tBM, tBM0, uLen, uAbs, uInt, uAdd, uSub, uMod, uFdiv, uMul, uBand, uBor, uCmp, uLt, uLe, uGt, uGe, StX.tMakeR, sFld, wipe, tYes, tGThen, tPlain, GEnds.at, tG0, tGIf, tGYield, tIsN, tNotN, tTru, tBits, tFmtB, tRevS, tRevL, start, fin0, List.getElem?_cons_zero, List.getElem?_cons_succ, List.map_cons, List.map_nil, List.length_cons, List.length_nil, List.replicate, List.cons_append, List.nil_append, Nat.reduceSub, Nat.reduceAdd, List.set_cons_zero, List.set_cons_succ]
    refine ⟨cshl_one (hl n (List.mem_of_getElem? hn)), ?_⟩
    rw [shl_one, bor_nat]
    refine ⟨some (nV n), ?_, rfl⟩
    rw [take_one hn]
    unfold maskOf
    rw [List.foldl_append]
    rfl
  · rintro σ H2 ⟨y, rfl, rfl⟩
    rw [List.length_map, List.take_length]
    exact q
theorem ne_dec (m : Nat) : (!decide ((m : Int) = 0)) = decide (m ≠ 0) := by
  by_cases h : m = 0
  · subst h; rfl
  · rw [decide_eq_false (by omega), decide_eq_true h]; rfl
theorem q_image (h : spImage vs H Q E) : t_image P w K c (fin0 Q) (start N_image vs) H := by
  obtain ⟨r, R, m, rfl, hr, hm, hR, q⟩ := h
  show t_image P w K c (fin0 Q) [some (.ref r), some (nV m), none, none, none] H
  dsimp only [t_image, tSeq, tAsg, tIfS, tRet, tRetN, tDrop, tNext, tOp, tUn, tCons, tNil, tTup, tLst, tC, tCB, tCan, tAnd, tOr, tNot, tB, tIf, uB, uAndV, uOrV, uNotV, uNeg, uV, gName, gSub, tAug, ipI, tPart, tNoPart, tSl, tBM, tBM0, uLen, uAbs, uInt, uAdd, uSub, uMod, uFdiv, uMul, uBand, uBor, uCmp, uLt, uLe, uGt, uGe, StX.tMakeR, sFld, wipe, tYes, tGThen, tPlain, GEnds.at, tG0, tGIf, tGYield, tIsN, tNotN, tTru, tBits, tFmtB, tRevS, tRevL, start, fin0, List.getElem?_cons_zero, List.getElem?_cons_succ, List.map_cons, List.map_nil, List.length_cons, List.length_nil, List.replicate, List.cons_append, List.nil_append, Nat.reduceSub, Nat.reduceAdd, List.set_cons_zero, List.set_cons_succ]
  dsimp only [tWhile]
  refine ⟨fun n σ H2 => ∃ a z y, σ = [some (.ref r), some (nV m), some (nV a), some (nV z), y] ∧ z < 2 ^ R.length ∧ (bitsOf z).foldl (fun a p => a ||| R.getD p 0) a = imageN R m ∧ H2 = H ∧ n = z, ⟨m, 0, m, none, rfl, hm, rfl, rfl, rfl⟩, ?_⟩
  rintro n σ H2 ⟨a, z, y, rfl, hz, e, rfl, en⟩
  · dsimp only [uNe, tSeq, tAsg, tIfS, tRet, tRetN, tDrop, tNext, tOp, tUn, tCons, tNil, tTup, tLst, tC, tCB, tCan, tAnd, tOr, tNot, tB, tIf, uB, uAndV, uOrV, uNotV, uNeg, uV, gName, gSub, tAug, ipI, tPart, tNoPart, tSl, tBM, tBM0, uLen, uAbs, uInt, uAdd, uSub, uMod, uFdiv, uMul, uBand, uBor, uCmp, uLt, uLe, uGt, uGe, StX.tMakeR, sFld, wipe, tYes, tGThen, tPlain, GEnds.at, tG0, tGIf, tGYield, tIsN, tNotN, tTru, tBits, tFmtB, tRevS, tRevL, start, fin0, List.getElem?_cons_zero, List.getElem?_cons_succ, List.map_cons, List.map_nil, List.length_cons, List.length_nil, List.replicate, List.cons_append, List.nil_append, Nat.reduceSub, Nat.reduceAdd, List.set_cons_zero, List.set_cons_succ]
    rw [ne_dec]
    refine ifD (fun nz => ?_) fun nz => ?_
    · refine ⟨_, fun σ' H' h => h, ?_⟩
      obtain ⟨k, e1, e2, e3⟩ := low_cases z nz
      have hk : k < R.length := bit_lt hz (by
        have : k ∈ bitsOf z := by rw [e2]; exact List.mem_cons_self
        exact mem_bits.mp this)
      rw [band_low nz, e1]
      refine ⟨_, rfl, ?_⟩
      rw [bits_len]
      have ek : ((k + 1 : Nat) : Int) - 1 = ((k : Nat) : Int) := by omega
      rw [ek]
      refine ix_tup2 hr (nV_at (n := R.getD k 0) (by rw [List.getD_eq_getElem?_getD, List.getElem?_eq_getElem hk]; rfl)) ?_
      dsimp only [tSeq, tAsg, tIfS, tRet, tRetN, tDrop, tNext, tOp, tUn, tCons, tNil, tTup, tLst, tC, tCB, tCan, tAnd, tOr, tNot, tB, tIf, uB, uAndV, uOrV, uNotV, uNeg, uV, gName, gSub, tAug, ipI, tPart, tNoPart, tSl, tBM, tBM0, uLen, uAbs, uInt, uAdd, uSub, uMod, uFdiv, uMul, uBand, uBor, uCmp, uLt, uLe, uGt, uGe, StX.tMakeR, sFld, wipe, tYes, tGThen, tPlain, GEnds.at, tG0, tGIf, tGYield, tIsN, tNotN, tTru, tBits, tFmtB, tRevS, tRevL, start, fin0, List.getElem?_cons_zero, List.getElem?_cons_succ, List.map_cons, List.map_nil, List.length_cons, List.length_nil, List.replicate, List.cons_append, List.nil_append, Nat.reduceSub, Nat.reduceAdd, List.set_cons_zero, List.set_cons_succ]
      rw [bor_nat]
      have es : (z : Int) - ((2 ^ k : Nat) : Int) = ((z - 2 ^ k : Nat) : Int) := by omega
      rw [es]
      have p : 0 < 2 ^ k := Nat.two_pow_pos k
      refine ⟨z - 2 ^ k, by omega, _, _, _, rfl, by omega, ?_, rfl, rfl⟩
      rw [e2] at e
      exact e
    · have : z = 0 := by omega
      subst this
      have : imageN R m = a := e.symm
      show Q (nV a) _
      rw [← this]
      exact q
end
end L2.WB
namespace L2.WB
open PySem PySem.Spec PyProof.Rows L2.XS L2.XB
open K19 (isL isK)
theorem in_lowers (K : PySem.W.Frag) {H : Hp} {Q : VK} {d : Nat} (q : Q (.bl (isL d)) H) : uIn K false (.str (sOf [d])) (.str (sOf lowers)) H Q := by
  show Q (.bl (subS (sOf [d]) (sOf lowers))) H
  rw [subS_one, mem_lowers]
  exact q
theorem in_uppers (K : PySem.W.Frag) {H : Hp} {Q : VK} {d : Nat} (q : Q (.bl (isK d)) H) : uIn K false (.str (sOf [d])) (.str (sOf uppers)) H Q := by
  show Q (.bl (subS (sOf [d]) (sOf uppers))) H
  rw [subS_one, mem_uppers]
  exact q
def spOne (f : Nat → Bool) : Sp := fun vs H Q _ => ∃ d, vs = [.str (sOf [d])] ∧ f d = true ∧ Q (.bl true) H
def spKnown : Sp := fun vs H Q _ => ∃ n p : Nat, vs = [nV n, nV p] ∧ p < n ∧ Q .non H
def spCkA : Sp := fun vs H Q _ => ∃ (n : Nat) (a : Addr) (x : Arr), vs = [nV n, .ref a] ∧ H a = some (.tup ((kA x).map kV)) ∧ x.1 < n ∧ isL x.2.1 = true ∧ x.2.2 < n ∧ Q .non H
def spCkM : Sp := fun vs H Q _ => ∃ (n : Nat) (a : Addr) (x : Mrk), vs = [nV n, .ref a] ∧ H a = some (.tup ((kM x).map kV)) ∧ x.1 < n ∧ isK x.2 = true ∧ Q .non H
/-- the rows of these pairs -/
structure RelOk (n : Nat) (ps : List (Nat × Nat)) (R : List Nat) : Prop where
  len : R.length = n
  bit : ∀ i j, (R.getD i 0).testBit j = true ↔ (i, j) ∈ ps
def spRel : Sp := fun vs H Q _ => ∃ (n : Nat) (a : Addr) (us : List V) (ps : List (Nat × Nat)), vs = [nV n, .ref a] ∧ n ≤ 10000 ∧ H a = some (.lst us) ∧ TkL H us (ps.map kP) ∧ (∀ x ∈ ps, x.1 < n ∧ x.2 < n) ∧
  ∀ p R H2, Same H H2 → H2 p = some (.tup (R.map nV)) → RelOk n ps R → Q (.ref p) H2
section
variable {P : Program} {w : World} {K : PySem.W.Frag} {c : Ad} {H : Hp} {Q : VK} {E : XK} {vs : List V}
theorem q_is_letter (h : spOne isL vs H Q E) : t_is_letter P w K c (fin0 Q) (start N_is_letter vs) H := by
  obtain ⟨d, rfl, hd, q⟩ := h
  show t_is_letter P w K c (fin0 Q) [some (.str (sOf [d]))] H
  dsimp only [t_is_letter, tSeq, tAsg, tIfS, tRet, tRetN, tDrop, tNext, tOp, tUn, tCons, tNil, tTup, tLst, tC, tCB, tCan, tAnd, tOr, tNot, tB, tIf, uB, uAndV, uOrV, uNotV, uNeg, uV, gName, gSub, tAug, ipI, tPart, tNoPart, tSl, tBM, tBM0, uLen, uAbs, uInt, uAdd, uSub, uMod, uFdiv, uMul, uBand, uBor, uCmp, uLt, uLe, uGt, uGe, StX.tMakeR, sFld, wipe, tYes, tGThen, tPlain, GEnds.at, tG0, tGIf, tGYield, tIsN, tNotN, tTru, tBits, tFmtB, tRevS, tRevL, start, fin0, List.getElem?_cons_zero, List.getElem?_cons_succ, List.map_cons, List.map_nil, List.length_cons, List.length_nil, List.replicate, List.cons_append, List.nil_append, Nat.reduceSub, Nat.reduceAdd, List.set_cons_zero, List.set_cons_succ]
  refine isi_str ?_
  dsimp only [uEq]
  refine iteT ⟨sl_ok (by rw [sOf_len]; simp), ifT (decide_eq_true rfl) (in_lowers K (by rw [hd]; exact q))⟩
theorem q_is_mark (h : spOne isK vs H Q E) : t_is_mark P w K c (fin0 Q) (start N_is_mark vs) H := by
  obtain ⟨d, rfl, hd, q⟩ := h
  show t_is_mark P w K c (fin0 Q) [some (.str (sOf [d]))] H
  dsimp only [t_is_mark, tSeq, tAsg, tIfS, tRet, tRetN, tDrop, tNext, tOp, tUn, tCons, tNil, tTup, tLst, tC, tCB, tCan, tAnd, tOr, tNot, tB, tIf, uB, uAndV, uOrV, uNotV, uNeg, uV, gName, gSub, tAug, ipI, tPart, tNoPart, tSl, tBM, tBM0, uLen, uAbs, uInt, uAdd, uSub, uMod, uFdiv, uMul, uBand, uBor, uCmp, uLt, uLe, uGt, uGe, StX.tMakeR, sFld, wipe, tYes, tGThen, tPlain, GEnds.at, tG0, tGIf, tGYield, tIsN, tNotN, tTru, tBits, tFmtB, tRevS, tRevL, start, fin0, List.getElem?_cons_zero, List.getElem?_cons_succ, List.map_cons, List.map_nil, List.length_cons, List.length_nil, List.replicate, List.cons_append, List.nil_append, Nat.reduceSub, Nat.reduceAdd, List.set_cons_zero, List.set_cons_succ]
  refine isi_str ?_
  dsimp only [uEq]
  refine iteT ⟨sl_ok (by rw [sOf_len]; simp), ifT (decide_eq_true rfl) (in_uppers K (by rw [hd]; exact q))⟩
theorem q__check_known (h : spKnown vs H Q E) : t__check_known P w K c (fin0 Q) (start N__check_known vs) H := by
  obtain ⟨n, p, rfl, hp, q⟩ := h
  show t__check_known P w K c (fin0 Q) [some (nV n), some (nV p)] H
  dsimp only [t__check_known, tSeq, tAsg, tIfS, tRet, tRetN, tDrop, tNext, tOp, tUn, tCons, tNil, tTup, tLst, tC, tCB, tCan, tAnd, tOr, tNot, tB, tIf, uB, uAndV, uOrV, uNotV, uNeg, uV, gName, gSub, tAug, ipI, tPart, tNoPart, tSl, tBM, tBM0, uLen, uAbs, uInt, uAdd, uSub, uMod, uFdiv, uMul, uBand, uBor, uCmp, uLt, uLe, uGt, uGe, StX.tMakeR, sFld, wipe, tYes, tGThen, tPlain, GEnds.at, tG0, tGIf, tGYield, tIsN, tNotN, tTru, tBits, tFmtB, tRevS, tRevL, start, fin0, List.getElem?_cons_zero, List.getElem?_cons_succ, List.map_cons, List.map_nil, List.length_cons, List.length_nil, List.replicate, List.cons_append, List.nil_append, Nat.reduceSub, Nat.reduceAdd, List.set_cons_zero, List.set_cons_succ]
  refine ifF (decide_eq_false (by omega)) (ifF (decide_eq_false (by omega)) q)
theorem q_check_arrow (h : spCkA vs H Q E) : t_check_arrow P w K c spKnown (spOne isL) (fin0 Q) (start N_check_arrow vs) H := by
  obtain ⟨n, a, x, rfl, ha, h1, h2, h3, q⟩ := h
  show t_check_arrow P w K c spKnown (spOne isL) (fin0 Q) [some (nV n), some (.ref a), none, none, none] H
  dsimp only [t_check_arrow, tSeq, tAsg, tIfS, tRet, tRetN, tDrop, tNext, tOp, tUn, tCons, tNil, tTup, tLst, tC, tCB, tCan, tAnd, tOr, tNot, tB, tIf, uB, uAndV, uOrV, uNotV, uNeg, uV, gName, gSub, tAug, ipI, tPart, tNoPart, tSl, tBM, tBM0, uLen, uAbs, uInt, uAdd, uSub, uMod, uFdiv, uMul, uBand, uBor, uCmp, uLt, uLe, uGt, uGe, StX.tMakeR, sFld, wipe, tYes, tGThen, tPlain, GEnds.at, tG0, tGIf, tGYield, tIsN, tNotN, tTru, tBits, tFmtB, tRevS, tRevL, start, fin0, List.getElem?_cons_zero, List.getElem?_cons_succ, List.map_cons, List.map_nil, List.length_cons, List.length_nil, List.replicate, List.cons_append, List.nil_append, Nat.reduceSub, Nat.reduceAdd, List.set_cons_zero, List.set_cons_succ]
  refine ⟨a, _, rfl, sqT ha, rfl, _, _, rfl, _, _, rfl, _, _, rfl, rfl, n, x.1, rfl, h1, x.2.1, rfl, h2, ?_⟩
  exact ifF rfl ⟨n, x.2.2, rfl, h3, q⟩
theorem q_check_mark (h : spCkM vs H Q E) : t_check_mark P w K c spKnown (spOne isK) (fin0 Q) (start N_check_mark vs) H := by
  obtain ⟨n, a, x, rfl, ha, h1, h2, q⟩ := h
  show t_check_mark P w K c spKnown (spOne isK) (fin0 Q) [some (nV n), some (.ref a), none, none] H
  dsimp only [t_check_mark, tSeq, tAsg, tIfS, tRet, tRetN, tDrop, tNext, tOp, tUn, tCons, tNil, tTup, tLst, tC, tCB, tCan, tAnd, tOr, tNot, tB, tIf, uB, uAndV, uOrV, uNotV, uNeg, uV, gName, gSub, tAug, ipI, tPart, tNoPart, tSl, tBM, tBM0, uLen, uAbs, uInt, uAdd, uSub, uMod, uFdiv, uMul, uBand, uBor, uCmp, uLt, uLe, uGt, uGe, StX.tMakeR, sFld, wipe, tYes, tGThen, tPlain, GEnds.at, tG0, tGIf, tGYield, tIsN, tNotN, tTru, tBits, tFmtB, tRevS, tRevL, start, fin0, List.getElem?_cons_zero, List.getElem?_cons_succ, List.map_cons, List.map_nil, List.length_cons, List.length_nil, List.replicate, List.cons_append, List.nil_append, Nat.reduceSub, Nat.reduceAdd, List.set_cons_zero, List.set_cons_succ]
  refine ⟨a, _, rfl, sqT ha, rfl, _, _, rfl, _, _, rfl, rfl, n, x.1, rfl, h1, x.2, rfl, h2, ?_⟩
  exact ifF rfl q
theorem ixN_nat {n i : Nat} (h : i < n) : ixN n (i : Int) = some i := by
  unfold ixN
  rw [if_pos (by omega), if_pos (by omega)]
  simp
theorem q_place_relation (h : spRel vs H Q E) : t_place_relation P w K c (fin0 Q) (start N_place_relation vs) H := by
  obtain ⟨n, a, us, ps, rfl, hn, ha, hu, hps, q⟩ := h
  show t_place_relation P w K c (fin0 Q) [some (nV n), some (.ref a), none, none, none] H
  dsimp only [t_place_relation, tSeq, tAsg, tIfS, tRet, tRetN, tDrop, tNext, tOp, tUn, tCons, tNil, tTup, tLst, tC, tCB, tCan, tAnd, tOr, tNot, tB, tIf, uB, uAndV, uOrV, uNotV, uNeg, uV, gName, gSub, tAug, ipI, tPart, tNoPart, tSl, tBM, tBM0, uLen, uAbs, uInt, uAdd, uSub, uMod, uFdiv, uMul, uBand, uBor, uCmp, uLt, uLe, uGt, uGe, StX.tMakeR, sFld, wipe, tYes, tGThen, tPlain, GEnds.at, tG0, tGIf, tGYield, tIsN, tNotN, tTru, tBits, tFmtB, tRevS, tRevL, start, fin0, List.getElem?_cons_zero, List.getElem?_cons_succ, List.map_cons, List.map_nil, List.length_cons, List.length_nil, List.replicate, List.cons_append, List.nil_append, Nat.reduceSub, Nat.reduceAdd, List.set_cons_zero, List.set_cons_succ]
  refine ⟨by decide +kernel, fun o no => ?_⟩
  refine ⟨_, upd_same, by omega, by omega, sl_ok (by simp; omega), fun r nr => ?_⟩
  have s0 : Same H (upd (upd H o (.lst [.int 0])) r (.lst (List.replicate ((n : Int).toNat) [V.int 0]).flatten)) := (same_new no).trans (same_new nr)
  have nrH : H r = none := none_old (same_new no) nr
  have e0 : (List.replicate ((n : Int).toNat) [V.int 0]).flatten = (List.replicate n 0).map nV := by
    rw [Int.toNat_natCast, List.map_replicate]
    have : ∀ k : Nat, (List.replicate k [V.int 0]).flatten = List.replicate k (nV 0) := fun k => by
      induction k with
      | zero => rfl
      | succ k ih => rw [List.replicate_succ, List.flatten_cons, ih]; rfl
    exact this n
  refine ⟨a, rfl, ⟨us, sqL (s0 _ _ ha)⟩, for_list (K := K) (a := a) (xs := us) (fun i σ H2 => ∃ R y z, σ = [some (nV n), some (.ref a), some (.ref r), y, z] ∧ Same H H2 ∧ H2 r = some (.lst (R.map nV)) ∧ RelOk n (ps.take i) R) ⟨List.replicate n 0, none, none, rfl, s0, by rw [upd_same, e0], ⟨List.length_replicate, fun i j => ?_⟩⟩ (fun i σ H2 _ ⟨_, _, _, _, s, _⟩ => sqL (s _ _ ha)) ?_ ?_⟩
  · rw [List.take_zero]
    have : (List.replicate n 0).getD i 0 = 0 := by
      rw [List.getD_eq_getElem?_getD, List.getElem?_replicate]
      split <;> rfl
    rw [this, Nat.zero_testBit]
    simp
  · rintro i x σ H2 hx ⟨R, y, z, rfl, s2, er, ok⟩
    obtain ⟨b, k, rfl, hk, hb⟩ := hu.at_ hx
    obtain ⟨pr, hpr, rfl⟩ := map_at hk
    obtain ⟨p1, p2⟩ := hps pr (List.mem_of_getElem? hpr)
    have hb2 := s2 _ _ hb
    have l1 : pr.1 < R.length := by rw [ok.len]; exact p1
    refine ⟨b, _, rfl, sqT hb2, rfl, _, _, rfl, _, _, rfl, rfl, ?_⟩
    dsimp only [uShl, tSeq, tAsg, tIfS, tRet, tRetN, tDrop, tNext, tOp, tUn, tCons, tNil, tTup, tLst, tC, tCB, tCan, tAnd, tOr, tNot, tB, tIf, uB, uAndV, uOrV, uNotV, uNeg, uV, gName, gSub, tAug, ipI, tPart, tNoPart, tSl, tBM, tBM0, uLen, uAbs, uInt, uAdd, uSub, uMod, uFdiv, uMul, uBand, uBor, uCmp, uLt, uLe, uGt, uGe, StX.tMakeR, sFld, wipe, tYes, tGThen, tPlain, GEnds.at, tG0, tGIf, tGYield, tIsN, tNotN, tTru, tBits, tFmtB, tRevS, tRevL, start, fin0, List.getElem?_cons_zero, List.getElem?_cons_succ, List.map_cons, List.map_nil, List.length_cons, List.length_nil, List.replicate, List.cons_append, List.nil_append, Nat.reduceSub, Nat.reduceAdd, List.set_cons_zero, List.set_cons_succ]
    refine ix_lst er (nV_at (n := R.getD pr.1 0) (by rw [List.getD_eq_getElem?_getD, List.getElem?_eq_getElem l1]; rfl)) ⟨cshl_one (by omega), ?_⟩
    rw [shl_one]
    dsimp only [nV]
    rw [bor_nat]
    refine ⟨r, _, _, pr.1, rfl, rfl, er, ?_, ⟨R.set pr.1 (R.getD pr.1 0 ||| 2 ^ pr.2), _, _, rfl, same_upd s2 nrH, ?_, ?_⟩⟩
    · rw [List.length_map]
      exact ixN_nat l1
    · rw [upd_same, List.map_set]
    · refine ⟨by rw [List.length_set]; exact ok.len, fun u v => ?_⟩
      rw [take_one hpr, List.mem_append, List.mem_singleton]
      show (K19.msk (R.set pr.1 (R.getD pr.1 0 ||| 2 ^ pr.2)) u).testBit v = true ↔ _
      rw [K19.getD_set R pr.1 _ u]
      by_cases e : pr.1 = u
      · subst e
        rw [if_pos ⟨rfl, l1⟩, Nat.testBit_or, Nat.testBit_two_pow, Bool.or_eq_true, ok.bit, decide_eq_true_eq]
        refine or_congr Iff.rfl ⟨fun z => by rw [← z], fun z => ?_⟩
        rw [← z]
      · rw [if_neg (fun z => e z.1)]
        show (R.getD u 0).testBit v = true ↔ _
        rw [ok.bit]
        exact ⟨.inl, fun z => z.resolve_right fun y => e (by rw [← y])⟩
  · rintro σ H2 ⟨R, y, z, rfl, s2, er, ok⟩
    rw [hu.len, List.length_map, List.take_length] at ok
    dsimp only [tSeq, tAsg, tIfS, tRet, tRetN, tDrop, tNext, tOp, tUn, tCons, tNil, tTup, tLst, tC, tCB, tCan, tAnd, tOr, tNot, tB, tIf, uB, uAndV, uOrV, uNotV, uNeg, uV, gName, gSub, tAug, ipI, tPart, tNoPart, tSl, tBM, tBM0, uLen, uAbs, uInt, uAdd, uSub, uMod, uFdiv, uMul, uBand, uBor, uCmp, uLt, uLe, uGt, uGe, StX.tMakeR, sFld, wipe, tYes, tGThen, tPlain, GEnds.at, tG0, tGIf, tGYield, tIsN, tNotN, tTru, tBits, tFmtB, tRevS, tRevL, start, fin0, List.getElem?_cons_zero, List.getElem?_cons_succ, List.map_cons, List.map_nil, List.length_cons, List.length_nil, List.replicate, List.cons_append, List.nil_append, Nat.reduceSub, Nat.reduceAdd, List.set_cons_zero, List.set_cons_succ]
    refine ⟨_, sqL er, fun p np => q p R _ (s2.trans (same_new np)) upd_same ok⟩
end
end L2.WB
namespace L2.WB
open PySem PySem.Spec PyProof.Rows L2.XS L2.XB
open K19 (isL isK Bond msk Le Bd Sol InM Okb bond1 pass nearOf half1)
def nD (n : Nat) : PyData := .int (n : Int)
theorem dp_nums {K : PySem.W.Frag} {H : Hp} : ∀ l : List Nat, DpAll K H (l.map nV) (l.map nD)
  | [] => .nil
  | n :: l => .cons (.int _) (dp_nums l)
theorem eqv_nums : ∀ l m : List Nat, PyData.eqvAll (l.map nD) (m.map nD) = decide (l = m)
  | [], [] => rfl
  | [], _ :: _ => rfl
  | _ :: _, [] => rfl
  | a :: l, b :: m => by
    show (PyData.eqv (.int (a : Int)) (.int (b : Int)) && PyData.eqvAll (l.map nD) (m.map nD)) = _
    rw [eqv_nums l m, PyData.eqv, Bool.eq_iff_iff, Bool.and_eq_true, beq_iff_eq, decide_eq_true_eq, decide_eq_true_eq, List.cons.injEq]
    exact and_congr (by omega) Iff.rfl
theorem lay_nums : ∀ l : List Nat, PyData.canLayAll0 (l.map nD) = true
  | [] => rfl
  | a :: l => by
    show (true && PyData.canLayAll0 (l.map nD)) = true
    rw [lay_nums l]; rfl
theorem depth_nums : ∀ l : List Nat, PyData.depthAll (l.map nD) = 0
  | [] => rfl
  | a :: l => by
    show max 0 (PyData.depthAll (l.map nD)) = 0
    rw [depth_nums l]; rfl
theorem ne_nums {K : PySem.W.Frag} {H : Hp} {Q : VK} {a b : Addr} {l m : List Nat} (h1 : H a = some (.lst (l.map nV))) (h2 : H b = some (.lst (m.map nV))) (q : Q (.bl (decide (l ≠ m))) H) : uNe K (.ref a) (.ref b) H Q := by
  refine ⟨_, _, .lst (sqL h1) (dp_nums l), .lst (sqL h2) (dp_nums m), lay_nums l, lay_nums m, ?_, ?_⟩
  · show min (PyData.depthAll (l.map nD) + 1) (PyData.depthAll (m.map nD) + 1) ≤ 200
    rw [depth_nums, depth_nums]; decide
  · have e : PyData.eqv (.list (l.map nD)) (.list (m.map nD)) = decide (l = m) := by rw [PyData.eqv, eqv_nums]
    show Q (.bl (if true = true then !PyData.eqv (.list (l.map nD)) (.list (m.map nD)) else _)) H
    rw [if_pos rfl, e]
    have e2 : decide (l ≠ m) = !decide (l = m) := by by_cases h : l = m <;> simp [h]
    rw [← e2]; exact q
theorem zero_in {K : PySem.W.Frag} {H : Hp} {Q : VK} {a : Addr} {l : List Nat} (h1 : H a = some (.lst (l.map nV))) (q : Q (.bl (decide (0 ∈ l))) H) : uIn K false (.int 0) (.ref a) H Q := by
  refine .inl ⟨_, .inl (sqL h1), rfl, ?_, ?_⟩
  · rw [List.all_map]
    exact List.all_eq_true.mpr fun _ _ => rfl
  · have e : inV (.int 0) (l.map nV) = decide (0 ∈ l) := by
      unfold inV
      rw [List.any_map, Bool.eq_iff_iff, List.any_eq_true, decide_eq_true_eq]
      constructor
      · rintro ⟨n, hn, e⟩
        have e : ((n : Int) == 0) = true := e
        rw [beq_iff_eq] at e
        have : n = 0 := by omega
        rwa [← this]
      · exact fun h => ⟨0, h, rfl⟩
    show Q (.bl (inV (.int 0) (l.map nV))) H
    rw [e]; exact q
/-- what is there at first stays -/
theorem same_but {H H1 H2 : Hp} {o : Addr} (s : Same H H1) (b : SameBut o H1 H2) (n : H o = none) : Same H H2 := fun a x e => b a x (ne_of_none e n) (s a x e)
def BsAt (H : Hp) (us : List V) (bs : List Bond) : Prop := ∃ L : List (Addr × Addr × Bond), us = L.map (fun x => V.ref x.1) ∧ bs = L.map (·.2.2) ∧ ∀ x ∈ L, H x.1 = some (.tup [nV x.2.2.1, .ref x.2.1, nV x.2.2.2.2]) ∧ H x.2.1 = some (.tup (x.2.2.2.1.map nV))
theorem BsAt.keep {H H2 : Hp} {us : List V} {bs : List Bond} (s : Same H H2) (h : BsAt H us bs) : BsAt H2 us bs := by
  obtain ⟨L, h1, h2, h3⟩ := h
  exact ⟨L, h1, h2, fun x hx => ⟨s _ _ (h3 x hx).1, s _ _ (h3 x hx).2⟩⟩
theorem BsAt.at_ {H : Hp} {us : List V} {bs : List Bond} (h : BsAt H us bs) {i : Nat} {v : V} (e : us[i]? = some v) : ∃ a r b, v = .ref a ∧ bs[i]? = some b ∧ H a = some (.tup [nV b.1, .ref r, nV b.2.2]) ∧ H r = some (.tup (b.2.1.map nV)) := by
  obtain ⟨L, rfl, rfl, h3⟩ := h
  rw [List.getElem?_map] at e
  obtain ⟨p, hp, rfl⟩ := Option.map_eq_some_iff.mp e
  have q := h3 p (List.mem_of_getElem? hp)
  exact ⟨p.1, p.2.1, p.2.2, rfl, by rw [List.getElem?_map, hp]; rfl, q.1, q.2⟩
theorem BsAt.len {H : Hp} {us : List V} {bs : List Bond} (h : BsAt H us bs) : us.length = bs.length := by
  obtain ⟨L, rfl, rfl, h3⟩ := h
  rw [List.length_map, List.length_map]
/-- masks below 2 ^ N, bonds of rows of N masks -/
structure Dom (N : Nat) (bs : List Bond) (t : List Nat) : Prop where
  n1 : 1 ≤ N
  few : N ≤ 10000
  lt : ∀ i, msk t i < 2 ^ N
  len : t.length ≤ 10000
  b : ∀ b ∈ bs, b.1 < t.length ∧ b.2.2 < t.length ∧ b.2.1.length = N
theorem Dom.le {N : Nat} {bs : List Bond} {t r : List Nat} (h : Dom N bs t) (l : Le r t) : Dom N bs r :=
  ⟨h.n1, h.few, fun i => lt_pow fun p hp => bit_lt (h.lt i) (l.2 i p hp), by rw [l.1]; exact h.len, fun b hb => by rw [l.1]; exact h.b b hb⟩
/-- what comes of narrowing -/
def BdOut (H : Hp) (Q : VK) (bs : List Bond) (t : List Nat) : Prop := ∀ r, Bd bs t r → match r with
  | none => ∀ H2, Same H H2 → Q .non H2
  | some r => ∀ p H2, Same H H2 → H p = none → H2 p = some (.lst (r.map nV)) → Q (.ref p) H2
def spBound : Sp := fun vs H Q _ => ∃ (d b : Addr) (t : List Nat) (us : List V) (bs : List Bond) (N : Nat), vs = [.ref d, .ref b] ∧ H d = some (.lst (t.map nV)) ∧ H b = some (.lst us) ∧ BsAt H us bs ∧ Dom N bs t ∧ BdOut H Q bs t
theorem msk_at {t : List Nat} {i : Nat} (h : i < t.length) : t[i]? = some (msk t i) := by
  rw [List.getElem?_eq_getElem h, K19.msk_eq h]
theorem nm_at {t : List Nat} {i : Nat} (h : i < t.length) : atI (t.map nV) (i : Int) = some (nV (msk t i)) := nV_at (msk_at h)
theorem near_len {t : List Nat} {b : Bond} {N : Nat} (h : msk t b.1 < 2 ^ N) : (nearOf t b).length ≤ N := Nat.le_trans (List.length_filter_le _ _) (K19.bits_few h)
section
variable {P : Program} {w : World} {K : PySem.W.Frag} {c : Ad} {H : Hp} {Q : VK} {E : XK} {vs : List V}
/-- one bond -/
theorem bond_turn {N : Nat} {bs : List Bond} {t : List Nat} {bd : Bond} {H1 : Hp} {o r : Addr} {v0 v1 v3 v4 y8 y9 : Option V} {e : Ends} (ho : H1 o = some (.lst (t.map nV))) (D : Dom N bs t) (hb : bd ∈ bs) (hr : H1 r = some (.tup (bd.2.1.map nV)))
    (hE : ∀ H3 z8 z9, SameBut o H1 H3 → H3 o = some (.lst ((bond1 t bd).map nV)) → e.nx [v0, v1, some (.ref o), v3, v4, some (nV bd.1), some (.ref r), some (nV bd.2.2), z8, z9] H3) :
    (tSeq (tAsg (tLc (iList K (tCan spMem E0 (tCons (tOp (uIx K) (uV 2) (uV 5)) tNil))) (gName 9) (uB (tOp (uNe K) (tOp (uBand) (tOp (uIx K) (uV 6) (uV 9)) (tOp (uIx K) (uV 2) (uV 7))) (tC (.int 0)))) (uV 9) [9]) (gName 8)) (tSeq (tAsg (tCan spMask E0 (tCons (uV 8) tNil)) (gSub (uV 2) (uV 5) rSetL)) (tAsg (tOp (uBand) (tOp (uIx K) (uV 2) (uV 7)) (tCan spImage E0 (tCons (uV 6) (tCons (tOp (uIx K) (uV 2) (uV 5)) tNil)))) (gSub (uV 2) (uV 7) rSetL)))) e [v0, v1, some (.ref o), v3, v4, some (nV bd.1), some (.ref r), some (nV bd.2.2), y8, y9] H1 := by
  obtain ⟨b1, b2, b3⟩ := D.b bd hb
  dsimp only [tSeq, tAsg, tIfS, tRet, tRetN, tDrop, tNext, tOp, tUn, tCons, tNil, tTup, tLst, tC, tCB, tCan, tAnd, tOr, tNot, tB, tIf, uB, uAndV, uOrV, uNotV, uNeg, uV, gName, gSub, tAug, ipI, tPart, tNoPart, tSl, tBM, tBM0, uLen, uAbs, uInt, uAdd, uSub, uMod, uFdiv, uMul, uBand, uBor, uCmp, uLt, uLe, uGt, uGe, StX.tMakeR, sFld, wipe, tYes, tGThen, tPlain, GEnds.at, tG0, tGIf, tGYield, tIsN, tNotN, tTru, tBits, tFmtB, tRevS, tRevL, start, fin0, List.getElem?_cons_zero, List.getElem?_cons_succ, List.map_cons, List.map_nil, List.length_cons, List.length_nil, List.replicate, List.cons_append, List.nil_append, Nat.reduceSub, Nat.reduceAdd, List.set_cons_zero, List.set_cons_succ]
  refine ix_lst ho (nm_at b1) ⟨msk t bd.1, N, rfl, D.lt _, D.n1, by have := D.few; omega, fun p H2 s2 np hp => ?_⟩
  refine ⟨p, rfl, ⟨_, sqL hp⟩, fun L nL => ?_⟩
  have sL := same_new (o := HO.lst []) nL
  refine lc_list (K := K) (a := p) (xs := (bitsOf (msk t bd.1)).map nV) (fun i H3 => Same H2 H3 ∧ H3 L = some (.lst ((((bitsOf (msk t bd.1)).take i).filter fun q => bd.2.1.getD q 0 &&& msk t bd.2.2 != 0).map nV))) ⟨sL, upd_same⟩ (fun i H3 _ h => sqL (h.1 _ _ hp)) ?_ ?_
  · rintro i x H3 hx ⟨s3, e3⟩
    obtain ⟨q, hq, rfl⟩ := map_at hx
    have lq : q < bd.2.1.length := by
      rw [b3]
      exact bit_lt (D.lt bd.1) (mem_bits.mp (List.mem_of_getElem? hq))
    dsimp only [tSeq, tAsg, tIfS, tRet, tRetN, tDrop, tNext, tOp, tUn, tCons, tNil, tTup, tLst, tC, tCB, tCan, tAnd, tOr, tNot, tB, tIf, uB, uAndV, uOrV, uNotV, uNeg, uV, gName, gSub, tAug, ipI, tPart, tNoPart, tSl, tBM, tBM0, uLen, uAbs, uInt, uAdd, uSub, uMod, uFdiv, uMul, uBand, uBor, uCmp, uLt, uLe, uGt, uGe, StX.tMakeR, sFld, wipe, tYes, tGThen, tPlain, GEnds.at, tG0, tGIf, tGYield, tIsN, tNotN, tTru, tBits, tFmtB, tRevS, tRevL, start, fin0, List.getElem?_cons_zero, List.getElem?_cons_succ, List.map_cons, List.map_nil, List.length_cons, List.length_nil, List.replicate, List.cons_append, List.nil_append, Nat.reduceSub, Nat.reduceAdd, List.set_cons_zero, List.set_cons_succ]
    refine ⟨rfl, ix_tup2 (s3 _ _ (s2 _ _ hr)) (nm_at lq) (ix_lst (s3 _ _ (s2 _ _ ho)) (nm_at b2) ?_)⟩
    dsimp only [uNe, nV]
    rw [band_nat, ne_dec, take_one hq, List.filter_append]
    have en : decide (msk bd.2.1 q &&& msk t bd.2.2 ≠ 0) = (bd.2.1.getD q 0 &&& msk t bd.2.2 != 0) := by
      show decide (bd.2.1.getD q 0 &&& msk t bd.2.2 ≠ 0) = _
      rw [Bool.eq_iff_iff]; simp
    rw [en]
    refine ifB (fun e => ?_) fun e => ?_
    · refine ⟨_, e3, ?_, same_upd s3 nL, ?_⟩
      · rw [List.length_map, sizeLine_eq]
        have h1 := List.length_filter_le (fun q => bd.2.1.getD q 0 &&& msk t bd.2.2 != 0) ((bitsOf (msk t bd.1)).take i)
        have h2 := List.length_take_le' i (bitsOf (msk t bd.1))
        have h3 := K19.bits_few (D.lt bd.1)
        have h4 := D.few
        omega
      · rw [upd_same, List.filter_cons, if_pos e, List.map_append]
        rfl
    · refine ⟨s3, ?_⟩
      rw [List.filter_cons, if_neg (by rw [e]; exact Bool.false_ne_true), List.filter_nil, List.append_nil]
      exact e3
  · rintro H3 ⟨s3, e3⟩
    rw [List.length_map, List.take_length] at e3
    have e3 : H3 L = some (.lst ((nearOf t bd).map nV)) := e3
    have nor : r ≠ o := fun z => by rw [z, ho] at hr; cases hr
    have ho3 := s3 _ _ (s2 _ _ ho)
    have lt1 : (half1 t bd).length = t.length := List.length_set
    refine ⟨L, _, rfl, e3, fun i hi => ?_, ?_⟩
    · have := bit_lt (D.lt bd.1) (mem_bits.mp (List.mem_filter.mp hi).1)
      have := D.few
      omega
    · dsimp only [tSeq, tAsg, tIfS, tRet, tRetN, tDrop, tNext, tOp, tUn, tCons, tNil, tTup, tLst, tC, tCB, tCan, tAnd, tOr, tNot, tB, tIf, uB, uAndV, uOrV, uNotV, uNeg, uV, gName, gSub, tAug, ipI, tPart, tNoPart, tSl, tBM, tBM0, uLen, uAbs, uInt, uAdd, uSub, uMod, uFdiv, uMul, uBand, uBor, uCmp, uLt, uLe, uGt, uGe, StX.tMakeR, sFld, wipe, tYes, tGThen, tPlain, GEnds.at, tG0, tGIf, tGYield, tIsN, tNotN, tTru, tBits, tFmtB, tRevS, tRevL, start, fin0, List.getElem?_cons_zero, List.getElem?_cons_succ, List.map_cons, List.map_nil, List.length_cons, List.length_nil, List.replicate, List.cons_append, List.nil_append, Nat.reduceSub, Nat.reduceAdd, List.set_cons_zero, List.set_cons_succ]
      refine ⟨o, _, _, bd.1, rfl, rfl, ho3, by rw [List.length_map]; exact ixN_nat b1, ?_⟩
      have e4 : (t.map nV).set bd.1 (nV (maskOf (nearOf t bd))) = (half1 t bd).map nV := by unfold K19.half1; rw [List.map_set]
      rw [e4]
      have s4 : SameBut o H1 (upd H3 o (.lst ((half1 t bd).map nV))) := (Same.but (s2.trans s3)).trans but_upd
      refine ix_lst upd_same (nm_at (by rw [lt1]; exact b2)) (ix_lst upd_same (nm_at (by rw [lt1]; exact b1)) ⟨r, bd.2.1, _, rfl, s4 _ _ nor hr, ?_, by rw [b3]; exact Nat.le_trans D.few (by decide), ?_⟩)
      · rw [b3]
        exact (D.le (K19.half_le t bd)).lt bd.1
      · dsimp only [nV]
        rw [band_nat]
        refine ⟨o, _, _, bd.2.2, rfl, rfl, upd_same, by rw [List.length_map, lt1]; exact ixN_nat b2, hE _ _ _ (s4.trans but_upd) ?_⟩
        rw [upd_same]
        unfold K19.bond1
        rw [List.map_set]
theorem dom_pass {N : Nat} {bs : List Bond} {t : List Nat} (D : Dom N bs t) : ∀ i, Le (pass (bs.take i) t) t := fun i => K19.pass_le _ _
theorem pass_snoc {bs : List Bond} {t : List Nat} {i : Nat} {b : Bond} (h : bs[i]? = some b) : pass (bs.take (i + 1)) t = bond1 (pass (bs.take i) t) b := by
  unfold K19.pass
  rw [take_one h, List.foldl_append]
  rfl
theorem q__bound_domains (h : spBound vs H Q E) : t__bound_domains P w K c spMem spMask spImage (fin0 Q) (start N__bound_domains vs) H := by
  obtain ⟨d, b, t, us, bs, N, rfl, hd, hb, hbs, D, q⟩ := h
  show t__bound_domains P w K c spMem spMask spImage (fin0 Q) [some (.ref d), some (.ref b), none, none, none, none, none, none, none, none] H
  dsimp only [t__bound_domains, tSeq, tAsg, tIfS, tRet, tRetN, tDrop, tNext, tOp, tUn, tCons, tNil, tTup, tLst, tC, tCB, tCan, tAnd, tOr, tNot, tB, tIf, uB, uAndV, uOrV, uNotV, uNeg, uV, gName, gSub, tAug, ipI, tPart, tNoPart, tSl, tBM, tBM0, uLen, uAbs, uInt, uAdd, uSub, uMod, uFdiv, uMul, uBand, uBor, uCmp, uLt, uLe, uGt, uGe, StX.tMakeR, sFld, wipe, tYes, tGThen, tPlain, GEnds.at, tG0, tGIf, tGYield, tIsN, tNotN, tTru, tBits, tFmtB, tRevS, tRevL, start, fin0, List.getElem?_cons_zero, List.getElem?_cons_succ, List.map_cons, List.map_nil, List.length_cons, List.length_nil, List.replicate, List.cons_append, List.nil_append, Nat.reduceSub, Nat.reduceAdd, List.set_cons_zero, List.set_cons_succ]
  refine ⟨_, .inl (sqL hd), fun o no => ?_⟩
  have s0 := same_new (o := HO.lst (t.map nV)) no
  dsimp only [tWhile]
  refine ⟨fun m σ H2 => ∃ t1 nar y4 y5 y6 y7 y8 y9, σ = [some (.ref d), some (.ref b), some (.ref o), some (.bl nar), y4, y5, y6, y7, y8, y9] ∧ Same H H2 ∧ H2 o = some (.lst (t1.map nV)) ∧ Le t1 t ∧ (∀ f, Sol bs t f → InM t1 f) ∧ (nar = false → pass bs t1 = t1) ∧ m = 2 * t1.sum + (if nar = true then 1 else 0),
    ⟨_, t, true, none, none, none, none, none, none, rfl, s0, upd_same, Le.refl t, fun f h => h.1, (fun z => nomatch z), rfl⟩, ?_⟩
  rintro m σ H2 ⟨t1, nar, y4, y5, y6, y7, y8, y9, rfl, s2, ho, le, hs, hn, rfl⟩
  dsimp only [tSeq, tAsg, tIfS, tRet, tRetN, tDrop, tNext, tOp, tUn, tCons, tNil, tTup, tLst, tC, tCB, tCan, tAnd, tOr, tNot, tB, tIf, uB, uAndV, uOrV, uNotV, uNeg, uV, gName, gSub, tAug, ipI, tPart, tNoPart, tSl, tBM, tBM0, uLen, uAbs, uInt, uAdd, uSub, uMod, uFdiv, uMul, uBand, uBor, uCmp, uLt, uLe, uGt, uGe, StX.tMakeR, sFld, wipe, tYes, tGThen, tPlain, GEnds.at, tG0, tGIf, tGYield, tIsN, tNotN, tTru, tBits, tFmtB, tRevS, tRevL, start, fin0, List.getElem?_cons_zero, List.getElem?_cons_succ, List.map_cons, List.map_nil, List.length_cons, List.length_nil, List.replicate, List.cons_append, List.nil_append, Nat.reduceSub, Nat.reduceAdd, List.set_cons_zero, List.set_cons_succ]
  have D1 := D.le le
  refine ifB (fun e => ?_) fun e => ?_
  · subst e
    refine ⟨_, fun σ' H' h => h, _, .inl (sqL ho), fun z nz => ?_⟩
    have nzH : H z = none := none_old s2 nz
    have noz : o ≠ z := ne_of_none ho nz
    have s3 := same_upd (o := HO.lst (t1.map nV)) s2 nzH
    refine ⟨b, rfl, ⟨us, sqL (s3 _ _ hb)⟩, for_list (K := K) (a := b) (xs := us) (fun i σ H3 => ∃ z5 z6 z7 z8 z9, σ = [some (.ref d), some (.ref b), some (.ref o), some (.bl true), some (.ref z), z5, z6, z7, z8, z9] ∧ Same H H3 ∧ H3 z = some (.lst (t1.map nV)) ∧ H3 o = some (.lst ((pass (bs.take i) t1).map nV))) ⟨y5, y6, y7, y8, y9, rfl, s3, upd_same, by rw [upd_ne noz]; exact ho⟩ (fun i σ H3 _ ⟨_, _, _, _, _, _, s, _⟩ => sqL (s _ _ hb)) ?_ ?_⟩
    · rintro i x σ H3 hx ⟨z5, z6, z7, z8, z9, rfl, s4, ez, eo⟩
      obtain ⟨a, r, bd, rfl, hbd, ha, hr⟩ := hbs.at_ hx
      refine ⟨a, _, rfl, sqT (s4 _ _ ha), rfl, _, _, rfl, _, _, rfl, _, _, rfl, rfl, ?_⟩
      refine bond_turn (t := pass (bs.take i) t1) (bd := bd) eo (D1.le (dom_pass D1 i)) (List.mem_of_getElem? hbd) (s4 _ _ hr) fun H4 w8 w9 s5 e5 => ?_
      refine ⟨_, _, _, _, _, rfl, same_but s4 s5 no, s5 _ _ (Ne.symm noz) ez, ?_⟩
      rw [pass_snoc hbd]
      exact e5
    · rintro σ H3 ⟨z5, z6, z7, z8, z9, rfl, s4, ez, eo⟩
      rw [hbs.len, List.take_length] at eo
      dsimp only [tSeq, tAsg, tIfS, tRet, tRetN, tDrop, tNext, tOp, tUn, tCons, tNil, tTup, tLst, tC, tCB, tCan, tAnd, tOr, tNot, tB, tIf, uB, uAndV, uOrV, uNotV, uNeg, uV, gName, gSub, tAug, ipI, tPart, tNoPart, tSl, tBM, tBM0, uLen, uAbs, uInt, uAdd, uSub, uMod, uFdiv, uMul, uBand, uBor, uCmp, uLt, uLe, uGt, uGe, StX.tMakeR, sFld, wipe, tYes, tGThen, tPlain, GEnds.at, tG0, tGIf, tGYield, tIsN, tNotN, tTru, tBits, tFmtB, tRevS, tRevL, start, fin0, List.getElem?_cons_zero, List.getElem?_cons_succ, List.map_cons, List.map_nil, List.length_cons, List.length_nil, List.replicate, List.cons_append, List.nil_append, Nat.reduceSub, Nat.reduceAdd, List.set_cons_zero, List.set_cons_succ]
      refine ne_nums eo ez ?_
      have l2 := K19.pass_le bs t1
      refine ⟨_, ?_, pass bs t1, _, _, z5, z6, z7, z8, z9, rfl, s4, eo, l2.trans le, fun f hf => K19.pass_sol bs t1 f (fun b hb => ⟨(D1.b b hb).1, (D1.b b hb).2.1⟩) (hs f hf) hf.2, fun z => ?_, rfl⟩
      · by_cases e : pass bs t1 = t1
        · rw [decide_eq_false (fun z => z e), e, if_pos rfl, if_neg Bool.false_ne_true]; omega
        · have h1 := l2.sum.1
          have h2 : (pass bs t1).sum ≠ t1.sum := fun z => e (l2.sum.2 z)
          rw [decide_eq_true e, if_pos rfl]; omega
      · have e : pass bs t1 = t1 := by simpa using z
        rw [e]; exact e
  · subst e
    have ep := hn rfl
    refine zero_in ho ?_
    dsimp only
    refine ifD (fun z => ?_) fun z => ?_
    · have q := q none (fun f hf => ?_)
      · exact q H2 s2
      · obtain ⟨i, hi, e⟩ := List.getElem_of_mem z
        have := (hs f hf).2 i hi
        rw [K19.msk_eq hi, e, Nat.zero_testBit] at this
        cases this
    · have q := q (some t1) ⟨le, fun i hi e => z (by rw [K19.msk_eq hi] at e; rw [← e]; exact List.getElem_mem hi), K19.stable_of (fun b hb => (D1.b b hb).1) ep, hs⟩
      exact q o H2 s2 no ho
end
end L2.WB
namespace L2.WB
open PySem PySem.Spec PyProof.Rows L2.XS L2.XB
open K19 (isL isK Bond msk Le Bd Sol InM Okb Ent kids Node sol total)
/-- an entry of the stack -/
def EnAt (H : Hp) (v : V) (x : Ent) : Prop := ∃ e p q, v = .ref e ∧ H e = some (.tup [.ref p, .ref q]) ∧ H p = some (.tup (x.1.map nV)) ∧ H q = some (.lst (x.2.map nV))
theorem EnAt.keep {H H2 : Hp} {v : V} {x : Ent} (s : Same H H2) (h : EnAt H v x) : EnAt H2 v x := by
  obtain ⟨e, p, q, h1, h2, h3, h4⟩ := h
  exact ⟨e, p, q, h1, s _ _ h2, s _ _ h3, s _ _ h4⟩
def EnsAt (H : Hp) (us : List V) (W : List Ent) : Prop := us.length = W.length ∧ ∀ (i : Nat) (v : V), us[i]? = some v → ∃ x : Ent, W[i]? = some x ∧ EnAt H v x
theorem EnsAt.keep {H H2 : Hp} {us : List V} {W : List Ent} (s : Same H H2) (h : EnsAt H us W) : EnsAt H2 us W := ⟨h.1, fun i v e => let ⟨x, h1, h2⟩ := h.2 i v e; ⟨x, h1, h2.keep s⟩⟩
theorem EnsAt.but {H H2 : Hp} {o : Addr} {us : List V} {W : List Ent} (s : SameBut o H H2) (ho : H o = some (.lst us)) (h : EnsAt H us W) : EnsAt H2 us W := ⟨h.1, fun i v e => by
  obtain ⟨x, h1, a, p, q, rfl, h2, h3, h4⟩ := h.2 i v e
  refine ⟨x, h1, a, p, q, rfl, s _ _ (fun z => by rw [z, ho] at h2; cases h2) h2, s _ _ (fun z => by rw [z, ho] at h3; cases h3) h3, s _ _ (fun z => ?_) h4⟩
  rw [z, ho] at h4
  have e2 : us = x.2.map nV := by injection h4 with h4; injection h4
  rw [e2] at e
  obtain ⟨n, _, e3⟩ := map_at e
  cases e3⟩
theorem EnsAt.nil {H : Hp} : EnsAt H [] [] := ⟨rfl, fun i v e => by simp at e⟩
theorem EnsAt.app {H : Hp} {us ws : List V} {W Y : List Ent} (h : EnsAt H us W) (h' : EnsAt H ws Y) : EnsAt H (us ++ ws) (W ++ Y) := by
  refine ⟨by rw [List.length_append, List.length_append, h.1, h'.1], fun i v e => ?_⟩
  by_cases lt : i < us.length
  · rw [List.getElem?_append_left lt] at e
    rw [List.getElem?_append_left (by rw [← h.1]; exact lt)]
    exact h.2 i v e
  · rw [List.getElem?_append_right (by omega)] at e
    rw [List.getElem?_append_right (by rw [← h.1]; omega), ← h.1]
    exact h'.2 _ v e
theorem EnsAt.one {H : Hp} {v : V} {x : Ent} (h : EnAt H v x) : EnsAt H [v] [x] := ⟨rfl, fun i u e => by
  cases i with
  | zero => cases e; exact ⟨x, rfl, h⟩
  | succ i => simp at e⟩
theorem EnsAt.pop {H : Hp} {us : List V} {W : List Ent} (h : EnsAt H us W) (ne : us ≠ []) : ∃ us' v W' x, us = us' ++ [v] ∧ W = W' ++ [x] ∧ EnAt H v x ∧ EnsAt H us' W' := by
  have neW : W ≠ [] := fun z => ne (List.eq_nil_of_length_eq_zero (by have := h.1; rw [z] at this; exact this))
  refine ⟨us.dropLast, us.getLast ne, W.dropLast, W.getLast neW, (List.dropLast_concat_getLast ne).symm, (List.dropLast_concat_getLast neW).symm, ?_, by rw [List.length_dropLast, List.length_dropLast, h.1], fun i v e => ?_⟩
  · obtain ⟨x, h1, h2⟩ := h.2 (us.length - 1) _ (by rw [← List.getLast?_eq_getElem?, List.getLast?_eq_some_getLast ne])
    rw [h.1, ← List.getLast?_eq_getElem?, List.getLast?_eq_some_getLast neW] at h1
    cases h1
    exact h2
  · rw [List.getElem?_dropLast] at e ⊢
    split at e
    · rename_i lt
      rw [if_pos (by rw [← h.1]; exact lt)]
      exact h.2 i v e
    · cases e
def begW : Option (List Nat) → List Ent
  | none => []
  | some r => [([], r)]
def spBegun : Sp := fun vs H Q _ => ∃ (d b : Addr) (t : List Nat) (us : List V) (bs : List Bond) (N : Nat), vs = [.ref d, .ref b] ∧ H d = some (.lst (t.map nV)) ∧ H b = some (.lst us) ∧ BsAt H us bs ∧ Dom N bs t ∧
  ∀ r p ws H2, Bd bs t r → Same H H2 → H p = none → H2 p = some (.lst ws) → EnsAt H2 ws (begW r) → Q (.ref p) H2
def spLonger : Sp := fun vs H Q _ => ∃ (a d b : Addr) (ch t : List Nat) (us : List V) (bs : List Bond) (N : Nat), vs = [.ref a, .ref d, .ref b] ∧ H a = some (.tup (ch.map nV)) ∧ H d = some (.lst (t.map nV)) ∧ H b = some (.lst us) ∧ BsAt H us bs ∧ Dom N bs t ∧ ch.length < t.length ∧
  ∀ (rf : Nat → Option (List Nat)) p ws H2, (∀ q ∈ bitsOf (msk t ch.length), Bd bs (t.set ch.length (2 ^ q)) (rf q)) → Same H H2 → H p = none → H2 p = some (.lst ws) → EnsAt H2 ws (kids ch rf (bitsOf (msk t ch.length)).reverse) → Q (.ref p) H2
section
variable {P : Program} {w : World} {K : PySem.W.Frag} {c : Ad} {H : Hp} {Q : VK} {E : XK} {vs : List V}
theorem q_begun_search (h : spBegun vs H Q E) : t_begun_search P w K c spBound (fin0 Q) (start N_begun_search vs) H := by
  obtain ⟨d, b, t, us, bs, N, rfl, hd, hb, hbs, D, q⟩ := h
  show t_begun_search P w K c spBound (fin0 Q) [some (.ref d), some (.ref b), none] H
  dsimp only [t_begun_search, tSeq, tAsg, tIfS, tRet, tRetN, tDrop, tNext, tOp, tUn, tCons, tNil, tTup, tLst, tC, tCB, tCan, tAnd, tOr, tNot, tB, tIf, uB, uAndV, uOrV, uNotV, uNeg, uV, gName, gSub, tAug, ipI, tPart, tNoPart, tSl, tBM, tBM0, uLen, uAbs, uInt, uAdd, uSub, uMod, uFdiv, uMul, uBand, uBor, uCmp, uLt, uLe, uGt, uGe, StX.tMakeR, sFld, wipe, tYes, tGThen, tPlain, GEnds.at, tG0, tGIf, tGYield, tIsN, tNotN, tTru, tBits, tFmtB, tRevS, tRevL, start, fin0, List.getElem?_cons_zero, List.getElem?_cons_succ, List.map_cons, List.map_nil, List.length_cons, List.length_nil, List.replicate, List.cons_append, List.nil_append, Nat.reduceSub, Nat.reduceAdd, List.set_cons_zero, List.set_cons_succ]
  refine ⟨d, b, t, us, bs, N, rfl, hd, hb, hbs, D, fun r br => ?_⟩
  cases r with
  | none =>
    intro H2 s2
    refine ⟨true, rfl, iteT ⟨by decide +kernel, fun p np => q none p [] _ br (s2.trans (same_new np)) (none_old s2 np) upd_same .nil⟩⟩
  | some r =>
    intro p H2 s2 _ hp
    refine ⟨false, rfl, iteF ⟨by decide +kernel, fun e ne => ⟨by decide +kernel, fun f nf => ⟨by decide +kernel, fun g ng => ?_⟩⟩⟩⟩
    have s3 := (same_new (o := HO.tup []) ne).trans (same_new (o := HO.tup [.ref e, .ref p]) nf)
    have s4 := s3.trans (same_new (o := HO.lst [.ref f]) ng)
    refine q (some r) g _ _ br (s2.trans s4) (none_old (s2.trans s3) ng) upd_same (.one ⟨f, e, p, rfl, get_new upd_same ng, get_new (get_new upd_same nf) ng, s4 _ _ hp⟩)
theorem tup_app {a b : Addr} {xs ys : List V} {H : Hp} {Q : VK} (ha : H a = some (.tup xs)) (hb : H b = some (.tup ys)) (hz : xs.length + ys.length ≤ 1000000) (q : ∀ p H2, Same H H2 → H2 p = some (.tup (xs ++ ys)) → Q (.ref p) H2) : uAddA K (.ref a) (.ref b) H Q := by
  refine .inr ⟨xs, ys, sqT ha, sqT hb, sl_ok hz, fun e => ?_, fun _ e => ?_, fun _ _ l nl => ?_⟩
  · subst e; exact q b H (Same.refl H) hb
  · subst e; exact q a H (Same.refl H) (by rw [List.append_nil]; exact ha)
  · exact q l _ (same_new nl) upd_same
theorem kids_snoc (ch : List Nat) (rf : Nat → Option (List Nat)) (l : List Nat) (q : Nat) : kids ch rf (l ++ [q]) = kids ch rf l ++ (match rf q with | none => [] | some t => [(ch ++ [q], t)]) := by
  unfold K19.kids
  rw [List.filterMap_append]
  congr 1
  cases e : rf q with
  | none => rw [List.filterMap_cons_none (by rw [e]; rfl)]; rfl
  | some t => rw [List.filterMap_cons_some (by rw [e]; rfl)]; rfl
def setR (rf : Nat → Option (List Nat)) (q : Nat) (r : Option (List Nat)) : Nat → Option (List Nat) := fun x => if x = q then r else rf x
theorem setR_new (rf : Nat → Option (List Nat)) (q : Nat) (r : Option (List Nat)) : setR rf q r q = r := if_pos rfl
theorem setR_old (rf : Nat → Option (List Nat)) (q : Nat) (r : Option (List Nat)) {x : Nat} (h : x ≠ q) : setR rf q r x = rf x := if_neg h
theorem kids_congr {ch : List Nat} {rf rg : Nat → Option (List Nat)} {l : List Nat} (h : ∀ q ∈ l, rf q = rg q) : kids ch rf l = kids ch rg l := by
  unfold K19.kids
  induction l with
  | nil => rfl
  | cons q l ih =>
    have ih := ih fun x hx => h x (List.mem_cons_of_mem _ hx)
    rw [List.filterMap_cons, List.filterMap_cons, h q List.mem_cons_self, ih]
theorem kids_len (ch : List Nat) (rf : Nat → Option (List Nat)) (l : List Nat) : (kids ch rf l).length ≤ l.length := List.length_filterMap_le _ _
theorem bits_nodup (m : Nat) : (bitsOf m).Nodup := (bits_asc m).imp fun {x y} h e => by
  have := of_decide_eq_true h
  omega
theorem q_longer_choices (h : spLonger vs H Q E) : t_longer_choices P w K c spMem spBound (fin0 Q) (start N_longer_choices vs) H := by
  obtain ⟨a, d, b, ch, t, us, bs, N, rfl, ha, hd, hb, hbs, D, lt, q⟩ := h
  show t_longer_choices P w K c spMem spBound (fin0 Q) [some (.ref a), some (.ref d), some (.ref b), none, none, none, none] H
  dsimp only [t_longer_choices, tSeq, tAsg, tIfS, tRet, tRetN, tDrop, tNext, tOp, tUn, tCons, tNil, tTup, tLst, tC, tCB, tCan, tAnd, tOr, tNot, tB, tIf, uB, uAndV, uOrV, uNotV, uNeg, uV, gName, gSub, tAug, ipI, tPart, tNoPart, tSl, tBM, tBM0, uLen, uAbs, uInt, uAdd, uSub, uMod, uFdiv, uMul, uBand, uBor, uCmp, uLt, uLe, uGt, uGe, StX.tMakeR, sFld, wipe, tYes, tGThen, tPlain, GEnds.at, tG0, tGIf, tGYield, tIsN, tNotN, tTru, tBits, tFmtB, tRevS, tRevL, start, fin0, List.getElem?_cons_zero, List.getElem?_cons_succ, List.map_cons, List.map_nil, List.length_cons, List.length_nil, List.replicate, List.cons_append, List.nil_append, Nat.reduceSub, Nat.reduceAdd, List.set_cons_zero, List.set_cons_succ]
  refine ⟨by decide +kernel, fun o no => ?_⟩
  have s0 := same_new (o := HO.lst []) no
  generalize hk : ch.length = k at *
  have hmb := D.lt k
  have hN := D.few
  refine for_of ?_
  dsimp only [iRev, tSeq, tAsg, tIfS, tRet, tRetN, tDrop, tNext, tOp, tUn, tCons, tNil, tTup, tLst, tC, tCB, tCan, tAnd, tOr, tNot, tB, tIf, uB, uAndV, uOrV, uNotV, uNeg, uV, gName, gSub, tAug, ipI, tPart, tNoPart, tSl, tBM, tBM0, uLen, uAbs, uInt, uAdd, uSub, uMod, uFdiv, uMul, uBand, uBor, uCmp, uLt, uLe, uGt, uGe, StX.tMakeR, sFld, wipe, tYes, tGThen, tPlain, GEnds.at, tG0, tGIf, tGYield, tIsN, tNotN, tTru, tBits, tFmtB, tRevS, tRevL, start, fin0, List.getElem?_cons_zero, List.getElem?_cons_succ, List.map_cons, List.map_nil, List.length_cons, List.length_nil, List.replicate, List.cons_append, List.nil_append, Nat.reduceSub, Nat.reduceAdd, List.set_cons_zero, List.set_cons_succ]
  refine ⟨_, .inr (sqT (s0 _ _ ha)), ?_⟩
  rw [List.length_map, hk]
  refine ix_lst (s0 _ _ hd) (nm_at lt) ⟨msk t k, N, rfl, hmb, D.n1, by omega, fun p H2 s2 np hp => ?_⟩
  generalize hB : bitsOf (msk t k) = B at *
  have nB : B.reverse.Nodup := by rw [← hB]; exact List.pairwise_reverse.mpr ((bits_nodup _).imp fun h => Ne.symm h)
  have lB : B.length ≤ N := by rw [← hB]; exact K19.bits_few hmb
  refine ⟨p, _, rfl, sqL hp, ?_⟩
  rw [List.length_map]
  refine for_ok (J := Itv K p B.length) (n := B.length) (fun i σ H3 => ∃ z4 z5 z6 ws rf, σ = [some (.ref a), some (.ref d), some (.ref b), some (.ref o), z4, z5, z6] ∧ Same H H3 ∧ H3 p = some (.lst (B.map nV)) ∧ H3 o = some (.lst ws) ∧ EnsAt H3 ws (kids ch rf (B.reverse.take i)) ∧ ∀ q ∈ B.reverse.take i, Bd bs (t.set k (2 ^ q)) (rf q))
    ⟨none, none, none, [], fun _ => none, rfl, s0.trans s2, hp, s2 _ _ upd_same, .nil, fun q hq => by cases hq⟩ ?_ (fun σ H3 _ => Nat.le_refl _) ?_ ?_
  · rintro i σ H3 li ⟨z4, z5, z6, ws, rf, rfl, s3, e3, _⟩
    refine ⟨li, _, _, sqL e3, List.getElem?_eq_getElem (by rw [List.length_map]; omega)⟩
  · rintro i x σ H9 H3 li ⟨z4, z5, z6, ws, rf, rfl, s3, e3, eo, en, br⟩ ⟨rfl, hx⟩
    have hx := hx _ (sqL e3)
    obtain ⟨q, hq, rfl⟩ := map_at hx
    have hr : B.reverse[i]? = some q := by
      rw [List.getElem?_reverse li]; exact hq
    have qB : q ∈ bitsOf (msk t k) := by rw [hB]; exact List.mem_of_getElem? hq
    have qN : q < N := bit_lt hmb (mem_bits.mp qB)
    have qnew : q ∉ B.reverse.take i := fun z => by
      obtain ⟨j, hj, e⟩ := List.getElem_of_mem z
      rw [List.length_take] at hj
      have hj2 : j < B.reverse.length := by omega
      rw [List.getElem_take] at e
      have e2 : B.reverse[i]'(by rw [List.length_reverse]; exact li) = q := by
        rw [List.getElem?_eq_getElem (by rw [List.length_reverse]; exact li)] at hr
        exact Option.some.inj hr
      exact List.pairwise_iff_getElem.mp nB j i hj2 (by rw [List.length_reverse]; exact li) (by omega) (e.trans e2.symm)
    dsimp only [tSeq, tAsg, tIfS, tRet, tRetN, tDrop, tNext, tOp, tUn, tCons, tNil, tTup, tLst, tC, tCB, tCan, tAnd, tOr, tNot, tB, tIf, uB, uAndV, uOrV, uNotV, uNeg, uV, gName, gSub, tAug, ipI, tPart, tNoPart, tSl, tBM, tBM0, uLen, uAbs, uInt, uAdd, uSub, uMod, uFdiv, uMul, uBand, uBor, uCmp, uLt, uLe, uGt, uGe, StX.tMakeR, sFld, wipe, tYes, tGThen, tPlain, GEnds.at, tG0, tGIf, tGYield, tIsN, tNotN, tTru, tBits, tFmtB, tRevS, tRevL, start, fin0, List.getElem?_cons_zero, List.getElem?_cons_succ, List.map_cons, List.map_nil, List.length_cons, List.length_nil, List.replicate, List.cons_append, List.nil_append, Nat.reduceSub, Nat.reduceAdd, List.set_cons_zero, List.set_cons_succ]
    refine ⟨_, .inl (sqL (s3 _ _ hd)), fun l nl => ?_⟩
    have nlH : H l = none := none_old s3 nl
    have s4 := s3.trans (same_new (o := HO.lst (t.map nV)) nl)
    dsimp only [uShl, nV]
    refine ⟨cshl_one (by omega), _, .inr (sqT (s4 _ _ ha)), ?_⟩
    rw [List.length_map, shl_one, hk]
    refine ⟨l, _, _, k, rfl, rfl, upd_same, by rw [List.length_map]; exact ixN_nat lt, ?_⟩
    have e5 : (t.map nV).set k (nV (2 ^ q)) = (t.set k (2 ^ q)).map nV := by rw [List.map_set]
    rw [e5, upd_upd]
    have s5 : Same H (upd H3 l (.lst ((t.set k (2 ^ q)).map nV))) := same_upd s3 nlH
    have s35 : Same H3 (upd H3 l (.lst ((t.set k (2 ^ q)).map nV))) := same_new nl
    have Dl : Dom N bs (t.set k (2 ^ q)) := D.le (K19.le_set fun p hp => by
      rw [Nat.testBit_two_pow, decide_eq_true_eq] at hp
      rw [← hp]; exact mem_bits.mp qB)
    refine ⟨l, b, _, us, bs, N, rfl, upd_same, s5 _ _ hb, hbs.keep s5, Dl, fun r brr => ?_⟩
    have old : ∀ x ∈ B.reverse.take i, setR rf q r x = rf x := fun x hx => setR_old rf q r fun z => qnew (by rw [← z]; exact hx)
    have br2 : ∀ x ∈ B.reverse.take (i + 1), Bd bs (t.set k (2 ^ x)) (setR rf q r x) := fun x hx => by
      rw [take_one hr] at hx
      rcases List.mem_append.mp hx with hx | hx
      · rw [old x hx]; exact br x hx
      · cases List.mem_singleton.mp hx
        rw [setR_new]; exact brr
    cases r with
    | none =>
      intro H6 s6
      refine ⟨false, rfl, iteF ⟨_, _, _, ws, setR rf q none, rfl, s5.trans s6, s6 _ _ (s35 _ _ e3), s6 _ _ (s35 _ _ eo), ?_, br2⟩⟩
      rw [take_one hr, kids_snoc, setR_new, List.append_nil, kids_congr old]
      exact (en.keep s35).keep s6
    | some r =>
      intro p6 H6 s6 n6 h6
      refine ⟨true, rfl, iteT ⟨tyl (s6 _ _ (s35 _ _ eo)), by decide +kernel, fun u nu => tup_app (get_new (s6 _ _ (s5 _ _ ha)) nu) upd_same (by
        rw [List.length_map]
        have := D.len
        show ch.length + 1 ≤ _
        omega) fun v H7 s7 h7 => ⟨by decide +kernel, fun e ne => ?_⟩⟩⟩
      have s67 : Same H6 (upd H7 e (.tup [.ref v, .ref p6])) := ((same_new nu).trans s7).trans (same_new ne)
      have sall : Same H3 (upd H7 e (.tup [.ref v, .ref p6])) := (s35.trans s6).trans s67
      have oe := sall _ _ eo
      refine ⟨ws, oe, ?_, _, _, _, ws ++ [.ref e], setR rf q (some r), rfl, ?_, ?_, upd_same, ?_, br2⟩
      · rw [en.1, sizeLine_eq]
        have h1 := kids_len ch rf (B.reverse.take i)
        have h2 := List.length_take_le' i B.reverse
        rw [List.length_reverse] at h2
        omega
      · exact same_upd ((s5.trans s6).trans s67) no
      · rw [upd_ne (fun z => by rw [z, eo] at e3; have := Option.some.inj e3; rw [z] at np; rw [upd_same] at np; cases np)]
        exact sall _ _ e3
      · rw [take_one hr, kids_snoc, setR_new, kids_congr old]
        have so : SameBut o H3 (upd (upd H7 e (.tup [.ref v, .ref p6])) o (.lst (ws ++ [.ref e]))) := (Same.but sall).trans but_upd
        have eno : e ≠ o := fun z => by
          have z2 := ((s35.trans s6).trans ((same_new nu).trans s7)) _ _ eo
          rw [← z, ne] at z2
          cases z2
        have vno : v ≠ o := fun z => by
          have z2 := ((s35.trans s6).trans ((same_new nu).trans s7)) _ _ eo
          rw [← z, h7] at z2
          cases z2
        have pno : p6 ≠ o := fun z => by
          have z2 := s35 _ _ eo
          rw [← z, n6] at z2
          cases z2
        refine (en.but so eo).app (.one ⟨e, v, p6, rfl, by rw [upd_ne eno, upd_same], ?_, ?_⟩)
        · rw [upd_ne vno, upd_ne (ne_of_none h7 ne), h7, List.map_append]
          rfl
        · rw [upd_ne pno]
          exact s67 _ _ h6
  · rintro σ H3 ⟨z4, z5, z6, ws, rf, rfl, s3, e3, eo, en, br⟩
    have e : B.reverse.take B.length = B.reverse := by rw [← List.length_reverse, List.take_length]
    rw [e] at en br
    dsimp only [tSeq, tAsg, tIfS, tRet, tRetN, tDrop, tNext, tOp, tUn, tCons, tNil, tTup, tLst, tC, tCB, tCan, tAnd, tOr, tNot, tB, tIf, uB, uAndV, uOrV, uNotV, uNeg, uV, gName, gSub, tAug, ipI, tPart, tNoPart, tSl, tBM, tBM0, uLen, uAbs, uInt, uAdd, uSub, uMod, uFdiv, uMul, uBand, uBor, uCmp, uLt, uLe, uGt, uGe, StX.tMakeR, sFld, wipe, tYes, tGThen, tPlain, GEnds.at, tG0, tGIf, tGYield, tIsN, tNotN, tTru, tBits, tFmtB, tRevS, tRevL, start, fin0, List.getElem?_cons_zero, List.getElem?_cons_succ, List.map_cons, List.map_nil, List.length_cons, List.length_nil, List.replicate, List.cons_append, List.nil_append, Nat.reduceSub, Nat.reduceAdd, List.set_cons_zero, List.set_cons_succ]
    exact q rf o ws H3 (fun x hx => br x (List.mem_reverse.mpr hx)) s3 no eo en
end
end L2.WB
namespace L2.WB
open PySem PySem.Spec PyProof.Rows L2.XS L2.XB
open K19 (isL isK Bond msk Le Bd Sol InM Okb Ent kids Node sol total wgt)
/-- what is asked -/
structure Ask (H : Hp) (b : Addr) (us : List V) (bs : List Bond) (N n : Nat) : Prop where
  hb : H b = some (.lst us)
  at_ : BsAt H us bs
  n1 : 1 ≤ N
  few : N ≤ 10000
  nn : N * n ≤ 1000000
  lt : n ≤ 10000
  bd : ∀ x ∈ bs, x.1 < n ∧ x.2.2 < n ∧ x.2.1.length = N
structure Stk (H H2 : Hp) (s : Addr) (bs : List Bond) (N n : Nat) (W : List Ent) : Prop where
  same : Same H H2
  new : H s = none
  ws : ∃ ws, H2 s = some (.lst ws) ∧ EnsAt H2 ws W
  node : ∀ x ∈ W, Node bs n x.1 x.2
  lt : ∀ x ∈ W, ∀ i, msk x.2 i < 2 ^ N
  ix : ∀ (i : Nat) (x : Ent), W[i]? = some x → i ≤ N * x.1.length
section
variable {P : Program} {w : World} {K : PySem.W.Frag} {c : Ad} {H H2 : Hp} {Q : VK} {E : XK} {vs : List V} {s b : Addr} {us : List V} {bs : List Bond} {N n : Nat} {W : List Ent}
theorem Stk.short (S : Stk H H2 s bs N n W) (A : Ask H b us bs N n) : W.length ≤ 1000001 := by
  cases hW : W.length with
  | zero => omega
  | succ m =>
    have h : m < W.length := by omega
    have e := List.getElem?_eq_getElem h
    have h1 := S.ix m _ e
    have h2 := (S.node _ (List.getElem_mem h)).few
    have h3 : N * (W[m]).1.length ≤ N * n := Nat.mul_le_mul_left _ h2
    have := A.nn
    omega
/-- the first stack -/
theorem begun_stk {t : List Nat} {r : Option (List Nat)} {ws : List V} {p : Addr} (D : Dom N bs t) (br : Bd bs t r) (s2 : Same H H2) (np : H p = none) (hp : H2 p = some (.lst ws)) (en : EnsAt H2 ws (begW r)) :
    ∃ W, Stk H H2 p bs N t.length W ∧ total bs W = sol bs t := by
  refine ⟨_, ⟨s2, np, ⟨ws, hp, en⟩, fun x hx => ?_, fun x hx i => ?_, fun i x hx => ?_⟩, ?_⟩
  · cases r with
    | none => cases hx
    | some r => cases List.mem_singleton.mp hx; exact K19.bd_root br
  · cases r with
    | none => cases hx
    | some r => cases List.mem_singleton.mp hx; exact (D.le br.1).lt i
  · cases r with
    | none => cases (show none = some x from hx)
    | some r =>
      cases i with
      | zero => exact Nat.zero_le _
      | succ i => cases (show none = some x from hx)
  · rw [K19.bd_sol br]
    cases r with
    | none => rfl
    | some r =>
      show sol bs r ++ [] = sol bs r
      exact List.append_nil _
/-- .pop() -/
theorem stk_pop {R : VK} (S : Stk H H2 s bs N n W) (ne : W ≠ []) (q : ∀ W' x e p l H3, SameBut s H2 H3 → W = W' ++ [x] → Stk H H3 s bs N n W' → Node bs n x.1 x.2 → (∀ i, msk x.2 i < 2 ^ N) → W'.length ≤ N * x.1.length → H3 e = some (.tup [.ref p, .ref l]) → H3 p = some (.tup (x.1.map nV)) → H3 l = some (.lst (x.2.map nV)) → R (.ref e) H3) :
    tyV K "list" (.ref s) H2 ∧ uPop (.ref s) [] H2 R := by
  obtain ⟨ws, hs, en⟩ := S.ws
  refine ⟨tyl hs, ?_⟩
  have neu : ws ≠ [] := fun z => ne (List.eq_nil_of_length_eq_zero (by have := en.1; rw [z] at this; exact this.symm))
  obtain ⟨ws', v, W', x, rfl, rfl, ev, ew⟩ := en.pop neu
  refine ⟨ws', v, hs, ?_⟩
  have sb : SameBut s H2 (upd H2 s (.lst ws')) := but_upd
  have en2 := en.but sb hs
  obtain ⟨_, _, _, _, e1, e2, ev2, ew2⟩ := en2.pop neu
  have e3 := List.append_inj' e1 rfl
  have e4 := List.append_inj' e2 rfl
  obtain rfl := e3.1
  obtain rfl := e4.1
  cases e3.2
  cases e4.2
  obtain ⟨e, p, l, rfl, h1, h2, h3⟩ := ev2
  have nx := S.node x (List.mem_append_right _ (List.mem_singleton.mpr rfl))
  refine q W' x e p l _ sb rfl ⟨same_upd S.same S.new, S.new, ⟨ws', upd_same, ew2⟩, fun y hy => S.node y (List.mem_append_left _ hy), fun y hy => S.lt y (List.mem_append_left _ hy), fun i y hy => ?_⟩ nx (S.lt x (List.mem_append_right _ (List.mem_singleton.mpr rfl))) ?_ h1 h2 h3
  · refine S.ix i y ?_
    rw [List.getElem?_append_left]
    · exact hy
    · exact (List.getElem?_eq_some_iff.mp hy).1
  · exact S.ix W'.length x (by rw [List.getElem?_append_right (Nat.le_refl _), Nat.sub_self]; rfl)
theorem not_nums {ws : List V} {l : List Nat} (h : EnsAt H ws W) (e : ws = l.map nV) : l = [] := by
  cases l with
  | nil => rfl
  | cons n l =>
    obtain ⟨x, _, a, _, _, e2, _⟩ := h.2 0 (nV n) (by rw [e]; rfl)
    cases e2
theorem mem_kids {ch : List Nat} {rf : Nat → Option (List Nat)} {l : List Nat} {y : Ent} (h : y ∈ kids ch rf l) : ∃ q ∈ l, rf q = some y.2 ∧ y.1 = ch ++ [q] := by
  obtain ⟨q, hq, e⟩ := List.mem_filterMap.mp h
  obtain ⟨t, e2, e3⟩ := Option.map_eq_some_iff.mp e
  subst e3
  exact ⟨q, hq, e2, rfl⟩
/-- .extend(longer_choices(..)) -/
theorem stk_ext {R : VK} {W' : List Ent} {x : Ent} {p l : Addr} (A : Ask H b us bs N n) (S : Stk H H2 s bs N n W') (hx : Node bs n x.1 x.2) (hl : ∀ i, msk x.2 i < 2 ^ N) (hw : W'.length ≤ N * x.1.length) (lt : x.1.length < n) (h2 : H2 p = some (.tup (x.1.map nV))) (h3 : H2 l = some (.lst (x.2.map nV)))
    (q : ∀ W2 H4, SameBut s H2 H4 → Stk H H4 s bs N n W2 → total bs W2 = total bs (W' ++ [x]) → wgt n N W2 < wgt n N (W' ++ [x]) → R .non H4) :
    tyV K "list" (.ref s) H2 ∧ spLonger [.ref p, .ref l, .ref b] H2 (fun v H3 => uExt K (.ref s) [v] H3 R) E0 := by
  obtain ⟨ws, hs, en⟩ := S.ws
  refine ⟨tyl hs, p, l, b, x.1, x.2, us, bs, N, rfl, h2, h3, S.same _ _ A.hb, A.at_.keep S.same, ⟨A.n1, A.few, hl, by rw [hx.len]; exact A.lt, by rw [hx.len]; exact A.bd⟩, by rw [hx.len]; exact lt, fun rf k ks H3 br s3 nk hk ek => ?_⟩
  have lk := K19.bits_few (hl x.1.length)
  have l1 : (kids x.1 rf (bitsOf (msk x.2 x.1.length)).reverse).length ≤ N := Nat.le_trans (kids_len _ _ _) (by rw [List.length_reverse]; exact lk)
  have kn := K19.kids_node (l := (bitsOf (msk x.2 x.1.length)).reverse) hx lt fun q hq => br q (List.mem_reverse.mp hq)
  have sk : k ≠ s := fun z => by rw [z, hs] at nk; cases nk
  have short := S.short A
  refine ⟨ws, ks, s3 _ _ hs, .inl hk, ?_, ?_⟩
  · rw [en.1, ek.1, sizeLine_eq]
    have := A.few
    omega
  · have sb : SameBut s H3 (upd H3 s (.lst (ws ++ ks))) := but_upd
    refine q (W' ++ kids x.1 rf (bitsOf (msk x.2 x.1.length)).reverse) _ ((Same.but s3).trans sb) ⟨same_upd (S.same.trans s3) S.new, S.new, ⟨_, upd_same, ((en.keep s3).but sb (s3 _ _ hs)).app ?_⟩, fun y hy => ?_, fun y hy => ?_, fun i y hy => ?_⟩ ?_ ?_
    · -- the new ones lie elsewhere
      refine ⟨ek.1, fun i v e => ?_⟩
      obtain ⟨y, h1, a, p2, q2, rfl, g2, g3, g4⟩ := ek.2 i v e
      refine ⟨y, h1, a, p2, q2, rfl, sb _ _ (fun z => by rw [z, s3 _ _ hs] at g2; cases g2) g2, sb _ _ (fun z => by rw [z, s3 _ _ hs] at g3; cases g3) g3, sb _ _ (fun z => ?_) g4⟩
      rw [z, s3 _ _ hs] at g4
      have e2 : ws = y.2.map nV := by injection g4 with g4; injection g4
      have e3 := not_nums en e2
      have e4 := (kn y (List.mem_of_getElem? h1)).len
      rw [e3] at e4
      have e4 : 0 = n := e4
      omega
    · rcases List.mem_append.mp hy with hy | hy
      · exact S.node y hy
      · exact kn y hy
    · rcases List.mem_append.mp hy with hy | hy
      · exact S.lt y hy
      · obtain ⟨q, hq, e1, e2⟩ := mem_kids hy
        have hq := List.mem_reverse.mp hq
        have b1 := br q hq
        rw [e1] at b1
        have D0 : Dom N bs x.2 := ⟨A.n1, A.few, hl, by rw [hx.len]; exact A.lt, by rw [hx.len]; exact A.bd⟩
        refine ((D0.le (K19.le_set fun p hp => ?_)).le b1.1).lt
        rw [Nat.testBit_two_pow, decide_eq_true_eq] at hp
        rw [← hp]; exact mem_bits.mp hq
    · by_cases li : i < W'.length
      · rw [List.getElem?_append_left li] at hy
        exact S.ix i y hy
      · rw [List.getElem?_append_right (by omega)] at hy
        obtain ⟨q, _, _, e2⟩ := mem_kids (List.mem_of_getElem? hy)
        have h5 := (List.getElem?_eq_some_iff.mp hy).1
        rw [e2, List.length_append]
        show i ≤ N * (x.1.length + 1)
        rw [Nat.mul_succ]
        omega
    · rw [K19.total_kids hx lt br, K19.total_snoc]
    · rw [K19.wgt_app, K19.wgt_app]
      have h6 := K19.wgt_down (n := n) (N := N) (c := x.1) (r := rf) (l := (bitsOf (msk x.2 x.1.length)).reverse) lt (by rw [List.length_reverse]; exact lk)
      have h7 : wgt n N [x] = (N + 1) ^ (n - x.1.length) := by
        unfold K19.wgt
        simp
      omega
end
end L2.WB
namespace L2.WB
open PySem PySem.Spec PyProof.Rows L2.XS L2.XB
open K19 (isL isK Bond msk Le Bd Sol InM Okb Ent kids Node sol total wgt)
/-- which places are let: none: all -/
abbrev Al := Option (List (Option (List Nat)))
def AlAt (H : Hp) (v : V) : Al → Prop
  | none => v = .non
  | some l => ∃ a us, v = .ref a ∧ H a = some (.lst us) ∧ us.length = l.length ∧ ∀ (i : Nat) (u : V), us[i]? = some u → (l[i]? = some none ∧ u = .non) ∨ ∃ s e, l[i]? = some (some s) ∧ u = .ref e ∧ H e = some (.lst (s.map nV))
theorem AlAt.keep {H H2 : Hp} {v : V} {al : Al} (s : Same H H2) (h : AlAt H v al) : AlAt H2 v al := by
  cases al with
  | none => exact h
  | some l =>
    obtain ⟨a, us, h1, h2, h3, h4⟩ := h
    refine ⟨a, us, h1, s _ _ h2, h3, fun i u e => (h4 i u e).imp id ?_⟩
    rintro ⟨z, f, g1, g2, g3⟩
    exact ⟨z, f, g1, g2, s _ _ g3⟩
def alOf : Al → Nat → Option (List Nat)
  | none, _ => none
  | some l, i => (l[i]?).join
def alB (al : Al) (i p : Nat) : Bool := match alOf al i with
  | none => true
  | some s => decide (p ∈ s)
structure AlOk (al : Al) (n m : Nat) : Prop where
  len : ∀ l, al = some l → l.length = n
  lt : ∀ l, al = some l → ∀ s, some s ∈ l → ∀ p ∈ s, p < m
/-- the pairs of a letter -/
def prs (y : Wd) (g : Nat) : List (Nat × Nat) := (y.ar.filter fun a => decide (a.2.1 = g)).map fun a => (a.1, a.2.2)
structure SearchOk (x y : Wd) (al : Al) (t : List Nat) (bs : List Bond) : Prop where
  len : t.length = x.n
  bit : ∀ i p, i < x.n → ((msk t i).testBit p = true ↔ p < y.n ∧ alB al i p = true ∧ ∀ m ∈ x.ms, m.1 = i → (p, m.2) ∈ y.ms)
  blen : bs.length = x.ar.length
  bond : ∀ (i : Nat) (a : Arr), x.ar[i]? = some a → ∃ R, bs[i]? = some (a.1, R, a.2.2) ∧ RelOk y.n (prs y a.2.1) R
def spSearch (c : Ad) : Sp := fun vs H Q _ => ∃ v1 v2 v3 x y al, vs = [v1, v2, v3] ∧ WbAt c H v1 x ∧ WbAt c H v2 y ∧ AlAt H v3 al ∧ AlOk al x.n y.n ∧ x.Ok ∧ y.Ok ∧
  ∀ p d b t us bs H2, Same H H2 → H2 p = some (.tup [.ref d, .ref b]) → H2 d = some (.lst (t.map nV)) → Ask H2 b us bs y.n x.n → (∀ i, msk t i < 2 ^ y.n) → SearchOk x y al t bs → Q (.ref p) H2
def spFirstC : Sp := fun vs H Q _ => ∃ (d b : Addr) (t : List Nat) (us : List V) (bs : List Bond) (N : Nat), vs = [.ref d, .ref b] ∧ H d = some (.lst (t.map nV)) ∧ Ask H b us bs N t.length ∧ (∀ i, msk t i < 2 ^ N) ∧
  match sol bs t with
  | [] => ∀ H2, Same H H2 → Q .non H2
  | f :: _ => ∀ p H2, Same H H2 → H2 p = some (.tup (f.map nV)) → Q (.ref p) H2
/-- all maps, one after another -/
def Leads (x y : Wd) (al : Al) (L : List (List Nat)) : Prop := ∃ t bs, SearchOk x y al t bs ∧ L = sol bs t
def spLead (c : Ad) : SpG := fun vs H cont _ => ∃ v1 v2 v3 x y al, vs = [v1, v2, v3] ∧ WbAt c H v1 x ∧ WbAt c H v2 y ∧ AlAt H v3 al ∧ AlOk al x.n y.n ∧ x.Ok ∧ y.Ok ∧ (∀ L, Leads x y al L → L.length ≤ 10000) ∧
  ∀ L us H2, Leads x y al L → Same H H2 → TkL H2 us (L.map kF) → cont us H2
def spFirst (c : Ad) : Sp := fun vs H Q _ => ∃ v1 v2 v3 x y al, vs = [v1, v2, v3] ∧ WbAt c H v1 x ∧ WbAt c H v2 y ∧ AlAt H v3 al ∧ AlOk al x.n y.n ∧ x.Ok ∧ y.Ok ∧
  ∀ L, Leads x y al L → match L with
  | [] => ∀ H2, Same H H2 → Q .non H2
  | f :: _ => ∀ p H2, Same H H2 → H2 p = some (.tup (f.map nV)) → Q (.ref p) H2
section
variable {P : Program} {w : World} {K : PySem.W.Frag} {c : Ad} {H : Hp} {Q : VK} {E : XK} {vs : List V}
theorem tru_lst {a : Addr} {xs : List V} (h : H a = some (.lst xs)) {k : Bool} (e : k = !xs.isEmpty) : TruV K (.ref a) H k := .inl ⟨xs, sqL h, e⟩
theorem q_first_choice (h : spFirstC vs H Q E) : t_first_choice P w K c spBegun spLonger (fin0 Q) (start N_first_choice vs) H := by
  obtain ⟨d, b, t, us, bs, N, rfl, hd, A, hm, q⟩ := h
  show t_first_choice P w K c spBegun spLonger (fin0 Q) [some (.ref d), some (.ref b), none, none, none] H
  dsimp only [t_first_choice, tSeq, tAsg, tIfS, tRet, tRetN, tDrop, tNext, tOp, tUn, tCons, tNil, tTup, tLst, tC, tCB, tCan, tAnd, tOr, tNot, tB, tIf, uB, uAndV, uOrV, uNotV, uNeg, uV, gName, gSub, tAug, ipI, tPart, tNoPart, tSl, tBM, tBM0, uLen, uAbs, uInt, uAdd, uSub, uMod, uFdiv, uMul, uBand, uBor, uCmp, uLt, uLe, uGt, uGe, StX.tMakeR, sFld, wipe, tYes, tGThen, tPlain, GEnds.at, tG0, tGIf, tGYield, tIsN, tNotN, tTru, tBits, tFmtB, tRevS, tRevL, start, fin0, List.getElem?_cons_zero, List.getElem?_cons_succ, List.map_cons, List.map_nil, List.length_cons, List.length_nil, List.replicate, List.cons_append, List.nil_append, Nat.reduceSub, Nat.reduceAdd, List.set_cons_zero, List.set_cons_succ]
  have D : Dom N bs t := ⟨A.n1, A.few, hm, A.lt, A.bd⟩
  refine ⟨d, b, t, us, bs, N, rfl, hd, A.hb, A.at_, D, fun r s ws H2 br s2 ns hs en => ?_⟩
  obtain ⟨W, S, tot⟩ := begun_stk D br s2 ns hs en
  dsimp only [tWhile]
  refine ⟨fun m σ H3 => ∃ W y3 y4, σ = [some (.ref d), some (.ref b), some (.ref s), y3, y4] ∧ Stk H H3 s bs N t.length W ∧ total bs W = sol bs t ∧ m = wgt t.length N W, ⟨_, W, none, none, rfl, S, tot, rfl⟩, ?_⟩
  rintro m σ H3 ⟨W, y3, y4, rfl, S, tot, rfl⟩
  obtain ⟨ws, hs, en⟩ := S.ws
  dsimp only [tSeq, tAsg, tIfS, tRet, tRetN, tDrop, tNext, tOp, tUn, tCons, tNil, tTup, tLst, tC, tCB, tCan, tAnd, tOr, tNot, tB, tIf, uB, uAndV, uOrV, uNotV, uNeg, uV, gName, gSub, tAug, ipI, tPart, tNoPart, tSl, tBM, tBM0, uLen, uAbs, uInt, uAdd, uSub, uMod, uFdiv, uMul, uBand, uBor, uCmp, uLt, uLe, uGt, uGe, StX.tMakeR, sFld, wipe, tYes, tGThen, tPlain, GEnds.at, tG0, tGIf, tGYield, tIsN, tNotN, tTru, tBits, tFmtB, tRevS, tRevL, start, fin0, List.getElem?_cons_zero, List.getElem?_cons_succ, List.map_cons, List.map_nil, List.length_cons, List.length_nil, List.replicate, List.cons_append, List.nil_append, Nat.reduceSub, Nat.reduceAdd, List.set_cons_zero, List.set_cons_succ]
  refine ⟨_, tru_lst hs rfl, ?_⟩
  cases hW : W with
  | nil =>
    subst hW
    have e : ws = [] := List.eq_nil_of_length_eq_zero en.1
    subst e
    rw [← tot] at q
    exact iteF (q H3 S.same)
  | cons x0 W0 =>
    have ne : W ≠ [] := by rw [hW]; exact fun z => nomatch z
    have neu : (!ws.isEmpty) = true := by
      cases ws with
      | nil => have := en.1; rw [hW] at this; cases this
      | cons _ _ => rfl
    rw [← hW]
    refine ifT neu ⟨_, fun σ' H' h => h, ?_⟩
    refine stk_pop S ne fun W' x e p l H4 _ eW S4 nx hl hw h1 h2 h3 => ?_
    refine ⟨e, _, rfl, sqT h1, rfl, _, _, rfl, _, _, rfl, rfl, ?_⟩
    dsimp only [tSeq, tAsg, tIfS, tRet, tRetN, tDrop, tNext, tOp, tUn, tCons, tNil, tTup, tLst, tC, tCB, tCan, tAnd, tOr, tNot, tB, tIf, uB, uAndV, uOrV, uNotV, uNeg, uV, gName, gSub, tAug, ipI, tPart, tNoPart, tSl, tBM, tBM0, uLen, uAbs, uInt, uAdd, uSub, uMod, uFdiv, uMul, uBand, uBor, uCmp, uLt, uLe, uGt, uGe, StX.tMakeR, sFld, wipe, tYes, tGThen, tPlain, GEnds.at, tG0, tGIf, tGYield, tIsN, tNotN, tTru, tBits, tFmtB, tRevS, tRevL, start, fin0, List.getElem?_cons_zero, List.getElem?_cons_succ, List.map_cons, List.map_nil, List.length_cons, List.length_nil, List.replicate, List.cons_append, List.nil_append, Nat.reduceSub, Nat.reduceAdd, List.set_cons_zero, List.set_cons_succ]
    refine ⟨_, .inr (sqT h2), _, .inl (sqL h3), ?_⟩
    dsimp only [uEq]
    rw [List.length_map, List.length_map, nx.len]
    refine ifD (fun ee => ?_) fun ee => ?_
    · have ee : x.1.length = t.length := by omega
      have lf := (nx.leaf (fun b hb => ⟨(A.bd b hb).1, (A.bd b hb).2.1⟩) ee).1
      rw [eW, K19.total_snoc, lf] at tot
      rw [← tot] at q
      exact q p H4 S4.same h2
    · have lt : x.1.length < t.length := by
        have := nx.few
        omega
      obtain ⟨z1, z2⟩ := stk_ext (R := fun _ H5 => ∃ m', m' < wgt t.length N W ∧ ∃ W y3 y4, [some (.ref d), some (.ref b), some (.ref s), some (.ref p), some (.ref l)] = [some (V.ref d), some (.ref b), some (.ref s), y3, y4] ∧ Stk H H5 s bs N t.length W ∧ total bs W = sol bs t ∧ m' = wgt t.length N W) A S4 nx hl hw lt h2 h3 fun W2 H5 _ S5 t5 w5 => ⟨_, by rw [eW]; exact w5, W2, _, _, rfl, S5, by rw [t5, ← eW]; exact tot, rfl⟩
      exact ⟨z1, z2⟩
theorem q_leadings {cont : List V → Hp → Prop} (h : spLead c vs H cont E) : t_leadings P w K c spLonger spBegun (spSearch c) { nx := fun ys _ H' => cont ys H', rt := fun ys v H' => v = .non ∧ cont ys H' } [] (start N_leadings vs) H := by
  obtain ⟨v1, v2, v3, x, y, al, rfl, w1, w2, a3, ao, ox, oy, few, q⟩ := h
  show t_leadings P w K c spLonger spBegun (spSearch c) { nx := fun ys _ H' => cont ys H', rt := fun ys v H' => v = .non ∧ cont ys H' } [] [some v1, some v2, some v3, none, none, none, none, none] H
  dsimp only [t_leadings, tSeq, tAsg, tIfS, tRet, tRetN, tDrop, tNext, tOp, tUn, tCons, tNil, tTup, tLst, tC, tCB, tCan, tAnd, tOr, tNot, tB, tIf, uB, uAndV, uOrV, uNotV, uNeg, uV, gName, gSub, tAug, ipI, tPart, tNoPart, tSl, tBM, tBM0, uLen, uAbs, uInt, uAdd, uSub, uMod, uFdiv, uMul, uBand, uBor, uCmp, uLt, uLe, uGt, uGe, StX.tMakeR, sFld, wipe, tYes, tGThen, tPlain, GEnds.at, tG0, tGIf, tGYield, tIsN, tNotN, tTru, tBits, tFmtB, tRevS, tRevL, start, fin0, List.getElem?_cons_zero, List.getElem?_cons_succ, List.map_cons, List.map_nil, List.length_cons, List.length_nil, List.replicate, List.cons_append, List.nil_append, Nat.reduceSub, Nat.reduceAdd, List.set_cons_zero, List.set_cons_succ]
  refine ⟨v1, v2, v3, x, y, al, rfl, w1, w2, a3, ao, ox, oy, fun p d b t us bs H0 s0 h1 h2 A hm so => ?_⟩
  rw [← so.len] at A
  have D : Dom y.n bs t := ⟨A.n1, A.few, hm, A.lt, A.bd⟩
  have ld : Leads x y al (sol bs t) := ⟨t, bs, so, rfl⟩
  have few := few _ ld
  refine ⟨p, _, rfl, sqT h1, rfl, _, _, rfl, _, _, rfl, rfl, d, b, t, us, bs, y.n, rfl, h2, A.hb, A.at_, D, fun r s ws H2 br s2 ns hs en => ?_⟩
  obtain ⟨W, S, tot⟩ := begun_stk D br s2 ns hs en
  dsimp only [tGWhile]
  refine ⟨fun m ys σ H3 => ∃ W F y6 y7, σ = [some v1, some v2, some v3, some (.ref s), some (.ref d), some (.ref b), y6, y7] ∧ Stk H0 H3 s bs y.n t.length W ∧ F ++ total bs W = sol bs t ∧ TkL H3 ys (F.map kF) ∧ m = wgt t.length y.n W, ⟨_, W, [], none, none, rfl, S, tot, .nil, rfl⟩, ?_⟩
  rintro m ys σ H3 ⟨W, F, y6, y7, rfl, S, tot, out, rfl⟩
  obtain ⟨ws, hs, en⟩ := S.ws
  dsimp only [tSeq, tAsg, tIfS, tRet, tRetN, tDrop, tNext, tOp, tUn, tCons, tNil, tTup, tLst, tC, tCB, tCan, tAnd, tOr, tNot, tB, tIf, uB, uAndV, uOrV, uNotV, uNeg, uV, gName, gSub, tAug, ipI, tPart, tNoPart, tSl, tBM, tBM0, uLen, uAbs, uInt, uAdd, uSub, uMod, uFdiv, uMul, uBand, uBor, uCmp, uLt, uLe, uGt, uGe, StX.tMakeR, sFld, wipe, tYes, tGThen, tPlain, GEnds.at, tG0, tGIf, tGYield, tIsN, tNotN, tTru, tBits, tFmtB, tRevS, tRevL, start, fin0, List.getElem?_cons_zero, List.getElem?_cons_succ, List.map_cons, List.map_nil, List.length_cons, List.length_nil, List.replicate, List.cons_append, List.nil_append, Nat.reduceSub, Nat.reduceAdd, List.set_cons_zero, List.set_cons_succ]
  refine ⟨_, tru_lst hs rfl, ?_⟩
  cases hW : W with
  | nil =>
    subst hW
    have e : ws = [] := List.eq_nil_of_length_eq_zero en.1
    subst e
    have tot : F ++ [] = sol bs t := tot
    rw [List.append_nil] at tot
    rw [← tot] at ld
    exact iteF (q _ _ H3 ld (s0.trans S.same) out)
  | cons x0 W0 =>
    have ne : W ≠ [] := by rw [hW]; exact fun z => nomatch z
    have neu : (!ws.isEmpty) = true := by
      cases ws with
      | nil => have := en.1; rw [hW] at this; cases this
      | cons _ _ => rfl
    rw [← hW]
    refine ifT neu ⟨_, fun ys' σ' H' h => h, ?_⟩
    refine stk_pop S ne fun W' x e p l H4 sb eW S4 nx hl hw h1 h2 h3 => ?_
    have out4 := out.but sb hs
    refine ⟨e, _, rfl, sqT h1, rfl, _, _, rfl, _, _, rfl, rfl, ?_⟩
    dsimp only [tSeq, tAsg, tIfS, tRet, tRetN, tDrop, tNext, tOp, tUn, tCons, tNil, tTup, tLst, tC, tCB, tCan, tAnd, tOr, tNot, tB, tIf, uB, uAndV, uOrV, uNotV, uNeg, uV, gName, gSub, tAug, ipI, tPart, tNoPart, tSl, tBM, tBM0, uLen, uAbs, uInt, uAdd, uSub, uMod, uFdiv, uMul, uBand, uBor, uCmp, uLt, uLe, uGt, uGe, StX.tMakeR, sFld, wipe, tYes, tGThen, tPlain, GEnds.at, tG0, tGIf, tGYield, tIsN, tNotN, tTru, tBits, tFmtB, tRevS, tRevL, start, fin0, List.getElem?_cons_zero, List.getElem?_cons_succ, List.map_cons, List.map_nil, List.length_cons, List.length_nil, List.replicate, List.cons_append, List.nil_append, Nat.reduceSub, Nat.reduceAdd, List.set_cons_zero, List.set_cons_succ]
    refine ⟨_, .inr (sqT h2), _, .inl (sqL h3), ?_⟩
    dsimp only [uEq]
    rw [List.length_map, List.length_map, nx.len]
    have lenF : F.length ≤ 10000 := by
      have := congrArg List.length tot
      rw [List.length_append] at this
      omega
    refine ifD (fun ee => ?_) fun ee => ?_
    · have ee : x.1.length = t.length := by omega
      have lf := (nx.leaf (fun b hb => ⟨(A.bd b hb).1, (A.bd b hb).2.1⟩) ee).1
      rw [eW, K19.total_snoc, lf, ← List.append_assoc] at tot
      refine ⟨by rw [out.len, List.length_map, sizeLine_eq]; omega, wgt t.length y.n W', ?_, W', F ++ [x.1], _, _, rfl, S4, tot, ?_, rfl⟩
      · rw [eW, K19.wgt_app]
        have h7 : wgt t.length y.n [x] = (y.n + 1) ^ (t.length - x.1.length) := by
          unfold K19.wgt
          simp
        have h8 : 0 < (y.n + 1) ^ (t.length - x.1.length) := Nat.pow_pos (Nat.succ_pos _)
        omega
      · rw [List.map_append]
        exact out4.snoc (by rw [kF_map]; exact h2)
    · have lt : x.1.length < t.length := by
        have := nx.few
        omega
      obtain ⟨ws4, hs4, _⟩ := S4.ws
      obtain ⟨z1, z2⟩ := stk_ext (K := K) (R := fun _ H5 => ∃ m', m' < wgt t.length y.n W ∧ ∃ W F y6 y7, [some v1, some v2, some v3, some (.ref s), some (.ref d), some (.ref b), some (.ref p), some (.ref l)] = [some v1, some v2, some v3, some (V.ref s), some (.ref d), some (.ref b), y6, y7] ∧ Stk H0 H5 s bs y.n t.length W ∧ F ++ total bs W = sol bs t ∧ TkL H5 ys (F.map kF) ∧ m' = wgt t.length y.n W) A S4 nx hl hw lt h2 h3 fun W2 H5 sb5 S5 t5 w5 => ⟨_, by rw [eW]; exact w5, W2, F, _, _, rfl, S5, by rw [t5, ← eW]; exact tot, out4.but sb5 hs4, rfl⟩
      exact ⟨z1, z2⟩
theorem q_first_leading (h : spFirst c vs H Q E) : t_first_leading P w K c (spSearch c) spFirstC (fin0 Q) (start N_first_leading vs) H := by
  obtain ⟨v1, v2, v3, x, y, al, rfl, w1, w2, a3, ao, ox, oy, q⟩ := h
  show t_first_leading P w K c (spSearch c) spFirstC (fin0 Q) [some v1, some v2, some v3, none, none] H
  dsimp only [t_first_leading, tSeq, tAsg, tIfS, tRet, tRetN, tDrop, tNext, tOp, tUn, tCons, tNil, tTup, tLst, tC, tCB, tCan, tAnd, tOr, tNot, tB, tIf, uB, uAndV, uOrV, uNotV, uNeg, uV, gName, gSub, tAug, ipI, tPart, tNoPart, tSl, tBM, tBM0, uLen, uAbs, uInt, uAdd, uSub, uMod, uFdiv, uMul, uBand, uBor, uCmp, uLt, uLe, uGt, uGe, StX.tMakeR, sFld, wipe, tYes, tGThen, tPlain, GEnds.at, tG0, tGIf, tGYield, tIsN, tNotN, tTru, tBits, tFmtB, tRevS, tRevL, start, fin0, List.getElem?_cons_zero, List.getElem?_cons_succ, List.map_cons, List.map_nil, List.length_cons, List.length_nil, List.replicate, List.cons_append, List.nil_append, Nat.reduceSub, Nat.reduceAdd, List.set_cons_zero, List.set_cons_succ]
  refine ⟨v1, v2, v3, x, y, al, rfl, w1, w2, a3, ao, ox, oy, fun p d b t us bs H2 s2 h1 h2 A hm so => ?_⟩
  refine ⟨p, _, rfl, sqT h1, rfl, _, _, rfl, _, _, rfl, rfl, d, b, t, us, bs, y.n, rfl, h2, by rw [so.len]; exact A, hm, ?_⟩
  have q := q _ ⟨t, bs, so, rfl⟩
  revert q
  cases sol bs t with
  | nil => exact fun q H3 s3 => q H3 (s2.trans s3)
  | cons f r => exact fun q p H3 s3 h => q p H3 (s2.trans s3) h
end
end L2.WB
namespace L2.WB
open PySem PySem.Spec PyProof.Rows L2.XS L2.XB
open K19 (isL isK Bond msk Le Bd Sol InM Okb Ent kids Node sol total wgt)
structure MaskOk (x y : Wd) (al : Al) (t : List Nat) : Prop where
  len : t.length = x.n
  bit : ∀ i p, i < x.n → ((msk t i).testBit p = true ↔ p < y.n ∧ alB al i p = true)
def spAllowed (c : Ad) : Sp := fun vs H Q _ => ∃ v1 v2 v3 x y al, vs = [v1, v2, v3] ∧ WbAt c H v1 x ∧ WbAt c H v2 y ∧ AlAt H v3 al ∧ AlOk al x.n y.n ∧ x.Ok ∧ y.Ok ∧
  ∀ p t H2, Same H H2 → H p = none → H2 p = some (.lst (t.map nV)) → MaskOk x y al t → Q (.ref p) H2
def spMarked (c : Ad) : Sp := fun vs H Q _ => ∃ v g y, vs = [v, .str (sOf [g])] ∧ WbAt c H v y ∧ y.Ok ∧ ∀ m H2, Same H H2 → (∀ p, m.testBit p = true ↔ (p, g) ∈ y.ms) → Q (nV m) H2
def spPairs (c : Ad) : Sp := fun vs H Q _ => ∃ v g y, vs = [v, .str (sOf [g])] ∧ WbAt c H v y ∧ y.Ok ∧ ∀ p us H2, Same H H2 → H p = none → H2 p = some (.lst us) → TkL H2 us ((prs y g).map kP) → Q (.ref p) H2
theorem alB_free {l : List (Option (List Nat))} {i : Nat} (h : l[i]? = some none) (p : Nat) : alB (some l) i p = true := by
  have e : alOf (some l) i = none := by
    show (l[i]?).join = none
    rw [h]; rfl
  unfold alB
  rw [e]
theorem alB_in {l : List (Option (List Nat))} {i : Nat} {s : List Nat} (h : l[i]? = some (some s)) (p : Nat) : alB (some l) i p = decide (p ∈ s) := by
  have e : alOf (some l) i = some s := by
    show (l[i]?).join = some s
    rw [h]; rfl
  unfold alB
  rw [e]
theorem full_bit (n p : Nat) : (2 ^ n - 1).testBit p = decide (p < n) := Nat.testBit_two_pow_sub_one n p
section
variable {P : Program} {w : World} {K : PySem.W.Frag} {c : Ad} {H : Hp} {Q : VK} {E : XK} {vs : List V}
theorem al_at {l : List (Option (List Nat))} {us : List V} {i : Nat} (h1 : us.length = l.length) (h2 : ∀ (i : Nat) (u : V), us[i]? = some u → (l[i]? = some none ∧ u = .non) ∨ ∃ s e, l[i]? = some (some s) ∧ u = .ref e ∧ H e = some (.lst (s.map nV))) (hi : i < l.length) :
    ∃ u, us[i]? = some u ∧ ((l[i]? = some none ∧ u = .non) ∨ ∃ s e, l[i]? = some (some s) ∧ u = .ref e ∧ H e = some (.lst (s.map nV))) :=
  ⟨us[i], List.getElem?_eq_getElem (by omega), h2 i _ (List.getElem?_eq_getElem (by omega))⟩
theorem q__allowed_masks (F : WebF K c) (h : spAllowed c vs H Q E) : t__allowed_masks P w K c spMask (fin0 Q) (start N__allowed_masks vs) H := by
  obtain ⟨v1, v2, v3, x, y, al, rfl, w1, w2, a3, ao, ox, oy, q⟩ := h
  show t__allowed_masks P w K c spMask (fin0 Q) [some v1, some v2, some v3, none, none, none] H
  dsimp only [t__allowed_masks, tSeq, tAsg, tIfS, tRet, tRetN, tDrop, tNext, tOp, tUn, tCons, tNil, tTup, tLst, tC, tCB, tCan, tAnd, tOr, tNot, tB, tIf, uB, uAndV, uOrV, uNotV, uNeg, uV, gName, gSub, tAug, ipI, tPart, tNoPart, tSl, tBM, tBM0, uLen, uAbs, uInt, uAdd, uSub, uMod, uFdiv, uMul, uBand, uBor, uCmp, uLt, uLe, uGt, uGe, StX.tMakeR, sFld, wipe, tYes, tGThen, tPlain, GEnds.at, tG0, tGIf, tGYield, tIsN, tNotN, tTru, tBits, tFmtB, tRevS, tRevL, start, fin0, List.getElem?_cons_zero, List.getElem?_cons_succ, List.map_cons, List.map_nil, List.length_cons, List.length_nil, List.replicate, List.cons_append, List.nil_append, Nat.reduceSub, Nat.reduceAdd, List.set_cons_zero, List.set_cons_succ]
  refine F.places w2 (fun _ h => h) ?_
  dsimp only [uShl, nV]
  refine ⟨cshl_one (by have := oy.few; omega), ?_⟩
  rw [shl_one]
  have p0 : 0 < 2 ^ y.n := Nat.two_pow_pos _
  have ef : ((2 ^ y.n : Nat) : Int) - 1 = ((2 ^ y.n - 1 : Nat) : Int) := by omega
  rw [ef]
  refine ⟨by decide +kernel, fun o no => ?_⟩
  have s0 := same_new (o := HO.lst []) no
  refine for_of ?_
  dsimp only [iRng1, tSeq, tAsg, tIfS, tRet, tRetN, tDrop, tNext, tOp, tUn, tCons, tNil, tTup, tLst, tC, tCB, tCan, tAnd, tOr, tNot, tB, tIf, uB, uAndV, uOrV, uNotV, uNeg, uV, gName, gSub, tAug, ipI, tPart, tNoPart, tSl, tBM, tBM0, uLen, uAbs, uInt, uAdd, uSub, uMod, uFdiv, uMul, uBand, uBor, uCmp, uLt, uLe, uGt, uGe, StX.tMakeR, sFld, wipe, tYes, tGThen, tPlain, GEnds.at, tG0, tGIf, tGYield, tIsN, tNotN, tTru, tBits, tFmtB, tRevS, tRevL, start, fin0, List.getElem?_cons_zero, List.getElem?_cons_succ, List.map_cons, List.map_nil, List.length_cons, List.length_nil, List.replicate, List.cons_append, List.nil_append, Nat.reduceSub, Nat.reduceAdd, List.set_cons_zero, List.set_cons_succ]
  refine F.places (w1.keep s0) (fun _ h => h) ?_
  refine ⟨_, rfl, by omega, by have := ox.few; omega, ?_⟩
  rw [Int.toNat_natCast]
  refine for_r (fun i σ H3 => ∃ y5 t, σ = [some v1, some v2, some v3, some (nV (2 ^ y.n - 1)), some (.ref o), y5] ∧ Same H H3 ∧ H3 o = some (.lst (t.map nV)) ∧ t.length = i ∧ ∀ j p, j < i → ((msk t j).testBit p = true ↔ p < y.n ∧ alB al j p = true)) ⟨none, [], rfl, s0, upd_same, rfl, fun j p h => absurd h (Nat.not_lt_zero _)⟩ ?_ ?_
  · rintro i σ H3 li ⟨y5, t, rfl, s3, eo, ht, hb⟩
    have n200 := ox.few
    have snoc : ∀ (m : Nat), (∀ p, m.testBit p = true ↔ p < y.n ∧ alB al i p = true) → (t ++ [m]).length = i + 1 ∧ ∀ j p, j < i + 1 → ((msk (t ++ [m]) j).testBit p = true ↔ p < y.n ∧ alB al j p = true) := fun m hm => by
      refine ⟨by rw [List.length_append, ht]; rfl, fun j p hj => ?_⟩
      unfold K19.msk
      by_cases e : j < i
      · rw [List.getD_eq_getElem?_getD, List.getElem?_append_left (by omega), ← List.getD_eq_getElem?_getD]
        exact hb j p e
      · obtain rfl : j = i := by omega
        rw [List.getD_eq_getElem?_getD, List.getElem?_append_right (by omega), ht, Nat.sub_self]
        exact hm p
    have app : ∀ {m : Nat} {y5 : Option V}, (∀ p, m.testBit p = true ↔ p < y.n ∧ alB al i p = true) → ∃ y5' t', [some v1, some v2, some v3, some (nV (2 ^ y.n - 1)), some (.ref o), y5] = [some v1, some v2, some v3, some (nV (2 ^ y.n - 1)), some (V.ref o), y5'] ∧ Same H (upd H3 o (.lst (t.map nV ++ [nV m]))) ∧ upd H3 o (.lst (t.map nV ++ [nV m])) o = some (.lst (t'.map nV)) ∧ t'.length = i + 1 ∧ ∀ j p, j < i + 1 → ((msk t' j).testBit p = true ↔ p < y.n ∧ alB al j p = true) := fun {m y5} hm =>
      ⟨y5, t ++ [m], rfl, same_upd s3 no, by rw [upd_same, List.map_append]; rfl, snoc m hm⟩
    dsimp only [tSeq, tAsg, tIfS, tRet, tRetN, tDrop, tNext, tOp, tUn, tCons, tNil, tTup, tLst, tC, tCB, tCan, tAnd, tOr, tNot, tB, tIf, uB, uAndV, uOrV, uNotV, uNeg, uV, gName, gSub, tAug, ipI, tPart, tNoPart, tSl, tBM, tBM0, uLen, uAbs, uInt, uAdd, uSub, uMod, uFdiv, uMul, uBand, uBor, uCmp, uLt, uLe, uGt, uGe, StX.tMakeR, sFld, wipe, tYes, tGThen, tPlain, GEnds.at, tG0, tGIf, tGYield, tIsN, tNotN, tTru, tBits, tFmtB, tRevS, tRevL, start, fin0, List.getElem?_cons_zero, List.getElem?_cons_succ, List.map_cons, List.map_nil, List.length_cons, List.length_nil, List.replicate, List.cons_append, List.nil_append, Nat.reduceSub, Nat.reduceAdd, List.set_cons_zero, List.set_cons_succ]
    cases al with
    | none =>
      obtain rfl : v3 = .non := a3
      refine ⟨true, rfl, iteT (iteT (app_ok2 eo (by rw [List.length_map]; omega) (app fun p => ?_)))⟩
      rw [full_bit, decide_eq_true_eq]
      exact ⟨fun h => ⟨h, rfl⟩, fun h => h.1⟩
    | some l =>
      obtain ⟨a, us, rfl, h2, h3, h4⟩ := a3
      have hl := ao.len l rfl
      have lt := ao.lt l rfl
      obtain ⟨u, hu, hc⟩ := al_at (i := i) h3 h4 (by omega)
      refine ⟨false, rfl, iteF (ix_lst (s3 _ _ h2) (atI_nat hu) ?_)⟩
      rcases hc with ⟨e1, rfl⟩ | ⟨s, e, e1, rfl, e3⟩
      · refine ⟨true, rfl, iteT (app_ok2 eo (by rw [List.length_map]; omega) (app fun p => ?_))⟩
        rw [full_bit, decide_eq_true_eq, alB_free e1]
        exact ⟨fun h => ⟨h, rfl⟩, fun h => h.1⟩
      · refine ⟨false, rfl, iteF ⟨tyl eo, ix_lst (s3 _ _ h2) (atI_nat hu) ⟨e, s, rfl, s3 _ _ e3, fun p hp => ?_, ?_⟩⟩⟩
        · have := lt s (List.mem_of_getElem? e1) p hp
          have := oy.few
          omega
        · refine ⟨_, eo, by rw [List.length_map, sizeLine_eq]; omega, app fun p => ?_⟩
          rw [mask_bit, alB_in e1, decide_eq_true_eq]
          exact ⟨fun h => ⟨lt s (List.mem_of_getElem? e1) p h, h⟩, fun h => h.2⟩
  · rintro σ H3 ⟨y5, t, rfl, s3, eo, ht, hb⟩
    exact q o t H3 s3 no eo ⟨ht, hb⟩
theorem q__marked_places (F : WebF K c) (h : spMarked c vs H Q E) : t__marked_places P w K c spMask (fin0 Q) (start N__marked_places vs) H := by
  obtain ⟨v, g, y, rfl, w1, oy, q⟩ := h
  show t__marked_places P w K c spMask (fin0 Q) [some v, some (.str (sOf [g])), none, none] H
  dsimp only [t__marked_places, tSeq, tAsg, tIfS, tRet, tRetN, tDrop, tNext, tOp, tUn, tCons, tNil, tTup, tLst, tC, tCB, tCan, tAnd, tOr, tNot, tB, tIf, uB, uAndV, uOrV, uNotV, uNeg, uV, gName, gSub, tAug, ipI, tPart, tNoPart, tSl, tBM, tBM0, uLen, uAbs, uInt, uAdd, uSub, uMod, uFdiv, uMul, uBand, uBor, uCmp, uLt, uLe, uGt, uGe, StX.tMakeR, sFld, wipe, tYes, tGThen, tPlain, GEnds.at, tG0, tGIf, tGYield, tIsN, tNotN, tTru, tBits, tFmtB, tRevS, tRevL, start, fin0, List.getElem?_cons_zero, List.getElem?_cons_succ, List.map_cons, List.map_nil, List.length_cons, List.length_nil, List.replicate, List.cons_append, List.nil_append, Nat.reduceSub, Nat.reduceAdd, List.set_cons_zero, List.set_cons_succ]
  refine lc_of ?_
  dsimp only [iTup, tSeq, tAsg, tIfS, tRet, tRetN, tDrop, tNext, tOp, tUn, tCons, tNil, tTup, tLst, tC, tCB, tCan, tAnd, tOr, tNot, tB, tIf, uB, uAndV, uOrV, uNotV, uNeg, uV, gName, gSub, tAug, ipI, tPart, tNoPart, tSl, tBM, tBM0, uLen, uAbs, uInt, uAdd, uSub, uMod, uFdiv, uMul, uBand, uBor, uCmp, uLt, uLe, uGt, uGe, StX.tMakeR, sFld, wipe, tYes, tGThen, tPlain, GEnds.at, tG0, tGIf, tGYield, tIsN, tNotN, tTru, tBits, tFmtB, tRevS, tRevL, start, fin0, List.getElem?_cons_zero, List.getElem?_cons_succ, List.map_cons, List.map_nil, List.length_cons, List.length_nil, List.replicate, List.cons_append, List.nil_append, Nat.reduceSub, Nat.reduceAdd, List.set_cons_zero, List.set_cons_succ]
  refine F.marks w1 (fun _ h => h) fun p us hp hu => ⟨p, rfl, ⟨_, sqT hp⟩, ?_⟩
  refine lc_t (xs := us) (fun D i H3 => Same H H3 ∧ H3 D = some (.lst ((((y.ms.take i).filter fun m => decide (m.2 = g)).map (·.1)).map nV))) (fun D nD => ⟨same_new nD, upd_same⟩) (fun D i H3 h => h.1 _ _ hp) ?_ ?_
  · rintro D i x H3 nD hx ⟨s3, e3⟩
    obtain ⟨a, k, rfl, hk, ha⟩ := hu.at_ hx
    obtain ⟨m, hm, rfl⟩ := map_at hk
    refine ⟨a, _, rfl, sqT (s3 _ _ ha), rfl, _, _, rfl, _, _, rfl, rfl, rfl, ?_⟩
    dsimp only [uEq, kV, tSeq, tAsg, tIfS, tRet, tRetN, tDrop, tNext, tOp, tUn, tCons, tNil, tTup, tLst, tC, tCB, tCan, tAnd, tOr, tNot, tB, tIf, uB, uAndV, uOrV, uNotV, uNeg, uV, gName, gSub, tAug, ipI, tPart, tNoPart, tSl, tBM, tBM0, uLen, uAbs, uInt, uAdd, uSub, uMod, uFdiv, uMul, uBand, uBor, uCmp, uLt, uLe, uGt, uGe, StX.tMakeR, sFld, wipe, tYes, tGThen, tPlain, GEnds.at, tG0, tGIf, tGYield, tIsN, tNotN, tTru, tBits, tFmtB, tRevS, tRevL, start, fin0, List.getElem?_cons_zero, List.getElem?_cons_succ, List.map_cons, List.map_nil, List.length_cons, List.length_nil, List.replicate, List.cons_append, List.nil_append, Nat.reduceSub, Nat.reduceAdd, List.set_cons_zero, List.set_cons_succ]
    rw [dec_sOf, take_one hm, List.filter_append]
    have eg : decide ([m.2] = [g]) = decide (m.2 = g) := by simp
    rw [eg]
    refine ifD (fun e => ?_) fun e => ?_
    · refine ⟨_, e3, ?_, same_upd s3 nD, ?_⟩
      · rw [List.length_map, List.length_map, sizeLine_eq]
        have h1 := List.length_filter_le (fun m : Mrk => decide (m.2 = g)) (y.ms.take i)
        have h2 := List.length_take_le' i y.ms
        have := oy.lms
        omega
      · rw [upd_same, List.filter_cons, if_pos (decide_eq_true e), List.map_append, List.map_append]
        rfl
    · refine ⟨s3, ?_⟩
      rw [List.filter_cons, if_neg (by rw [decide_eq_false e]; exact Bool.false_ne_true), List.filter_nil, List.append_nil]
      exact e3
  · rintro D H3 nD ⟨s3, e3⟩
    rw [hu.len, List.length_map, List.take_length] at e3
    refine ⟨D, _, rfl, e3, fun i hi => ?_, q _ H3 s3 fun p => ?_⟩
    · obtain ⟨m, hm, rfl⟩ := List.mem_map.mp hi
      have := (oy.ms m (List.mem_filter.mp hm).1).1
      have := oy.few
      omega
    · rw [mask_bit, List.mem_map]
      constructor
      · rintro ⟨m, hm, rfl⟩
        obtain ⟨h1, h2⟩ := List.mem_filter.mp hm
        obtain rfl : m.2 = g := of_decide_eq_true h2
        exact h1
      · exact fun h => ⟨(p, g), List.mem_filter.mpr ⟨h, decide_eq_true rfl⟩, rfl⟩
theorem q__letter_pairs (F : WebF K c) (h : spPairs c vs H Q E) : t__letter_pairs P w K c (fin0 Q) (start N__letter_pairs vs) H := by
  obtain ⟨v, g, y, rfl, w1, oy, q⟩ := h
  show t__letter_pairs P w K c (fin0 Q) [some v, some (.str (sOf [g])), none, none, none] H
  dsimp only [t__letter_pairs, tSeq, tAsg, tIfS, tRet, tRetN, tDrop, tNext, tOp, tUn, tCons, tNil, tTup, tLst, tC, tCB, tCan, tAnd, tOr, tNot, tB, tIf, uB, uAndV, uOrV, uNotV, uNeg, uV, gName, gSub, tAug, ipI, tPart, tNoPart, tSl, tBM, tBM0, uLen, uAbs, uInt, uAdd, uSub, uMod, uFdiv, uMul, uBand, uBor, uCmp, uLt, uLe, uGt, uGe, StX.tMakeR, sFld, wipe, tYes, tGThen, tPlain, GEnds.at, tG0, tGIf, tGYield, tIsN, tNotN, tTru, tBits, tFmtB, tRevS, tRevL, start, fin0, List.getElem?_cons_zero, List.getElem?_cons_succ, List.map_cons, List.map_nil, List.length_cons, List.length_nil, List.replicate, List.cons_append, List.nil_append, Nat.reduceSub, Nat.reduceAdd, List.set_cons_zero, List.set_cons_succ]
  refine lc_of ?_
  dsimp only [iTup, tSeq, tAsg, tIfS, tRet, tRetN, tDrop, tNext, tOp, tUn, tCons, tNil, tTup, tLst, tC, tCB, tCan, tAnd, tOr, tNot, tB, tIf, uB, uAndV, uOrV, uNotV, uNeg, uV, gName, gSub, tAug, ipI, tPart, tNoPart, tSl, tBM, tBM0, uLen, uAbs, uInt, uAdd, uSub, uMod, uFdiv, uMul, uBand, uBor, uCmp, uLt, uLe, uGt, uGe, StX.tMakeR, sFld, wipe, tYes, tGThen, tPlain, GEnds.at, tG0, tGIf, tGYield, tIsN, tNotN, tTru, tBits, tFmtB, tRevS, tRevL, start, fin0, List.getElem?_cons_zero, List.getElem?_cons_succ, List.map_cons, List.map_nil, List.length_cons, List.length_nil, List.replicate, List.cons_append, List.nil_append, Nat.reduceSub, Nat.reduceAdd, List.set_cons_zero, List.set_cons_succ]
  refine F.arrows w1 (fun _ h => h) fun p us hp hu => ⟨p, rfl, ⟨_, sqT hp⟩, ?_⟩
  refine lc_t (xs := us) (fun D i H3 => Same H H3 ∧ ∃ ws, H3 D = some (.lst ws) ∧ TkL H3 ws ((((y.ar.take i).filter fun a => decide (a.2.1 = g)).map fun a => (a.1, a.2.2)).map kP)) (fun D nD => ⟨same_new nD, [], upd_same, .nil⟩) (fun D i H3 h => h.1 _ _ hp) ?_ ?_
  · rintro D i x H3 nD hx ⟨s3, ws, e3, tk⟩
    obtain ⟨a, k, rfl, hk, ha⟩ := hu.at_ hx
    obtain ⟨m, hm, rfl⟩ := map_at hk
    refine ⟨a, _, rfl, sqT (s3 _ _ ha), rfl, _, _, rfl, _, _, rfl, _, _, rfl, rfl, rfl, ?_⟩
    dsimp only [uEq, kV, tSeq, tAsg, tIfS, tRet, tRetN, tDrop, tNext, tOp, tUn, tCons, tNil, tTup, tLst, tC, tCB, tCan, tAnd, tOr, tNot, tB, tIf, uB, uAndV, uOrV, uNotV, uNeg, uV, gName, gSub, tAug, ipI, tPart, tNoPart, tSl, tBM, tBM0, uLen, uAbs, uInt, uAdd, uSub, uMod, uFdiv, uMul, uBand, uBor, uCmp, uLt, uLe, uGt, uGe, StX.tMakeR, sFld, wipe, tYes, tGThen, tPlain, GEnds.at, tG0, tGIf, tGYield, tIsN, tNotN, tTru, tBits, tFmtB, tRevS, tRevL, start, fin0, List.getElem?_cons_zero, List.getElem?_cons_succ, List.map_cons, List.map_nil, List.length_cons, List.length_nil, List.replicate, List.cons_append, List.nil_append, Nat.reduceSub, Nat.reduceAdd, List.set_cons_zero, List.set_cons_succ]
    rw [dec_sOf, take_one hm, List.filter_append]
    have eg : decide ([m.2.1] = [g]) = decide (m.2.1 = g) := by simp
    rw [eg]
    refine ifD (fun e => ?_) fun e => ?_
    · refine ⟨by decide +kernel, fun T nT => ⟨ws, get_new e3 nT, ?_, same_upd (s3.trans (same_new nT)) nD, ws ++ [.ref T], upd_same, ?_⟩⟩
      · rw [tk.len, List.length_map, List.length_map, sizeLine_eq]
        have h1 := List.length_filter_le (fun m : Arr => decide (m.2.1 = g)) (y.ar.take i)
        have h2 := List.length_take_le' i y.ar
        have := oy.lar
        omega
      · rw [List.filter_cons, if_pos (decide_eq_true e), List.map_append, List.map_append]
        refine ((tk.keep (same_new nT)).but but_upd (get_new e3 nT)).snoc ?_
        rw [upd_ne (fun z => by rw [z, e3] at nT; cases nT), upd_same]
        rfl
    · refine ⟨s3, ws, e3, ?_⟩
      rw [List.filter_cons, if_neg (by rw [decide_eq_false e]; exact Bool.false_ne_true), List.filter_nil, List.append_nil]
      exact tk
  · rintro D H3 nD ⟨s3, ws, e3, tk⟩
    rw [hu.len, List.length_map, List.take_length] at tk
    exact q D ws H3 s3 nD e3 tk
end
end L2.WB
namespace L2.WB
open PySem PySem.Spec PyProof.Rows L2.XS L2.XB
open K19 (isL isK Bond msk Le Bd Sol InM Okb Ent kids Node sol total wgt)
/-- signs as texts -/
abbrev sV (g : Nat) : V := .str (sOf [g])
abbrev kS (g : Nat) : Key := .inr (sOf [g])
theorem kS_inj {a b : Nat} (h : kS a = kS b) : a = b := by
  have h := Sum.inr.inj h
  have := sOf_eq.mp h
  simpa using this
section
variable {P : Program} {w : World} {K : PySem.W.Frag} {c : Ad} {H : Hp} {Q : VK} {E : XK} {vs : List V}
theorem mem_insK {L : List Key} {k x : Key} : x ∈ insK L k ↔ x = k ∨ x ∈ L := by
  unfold insK
  split
  · rename_i h
    exact ⟨.inr, fun z => z.elim (fun e => by rw [e]; exact h) id⟩
  · exact List.mem_cons
theorem len_insK (L : List Key) (k : Key) : (insK L k).length ≤ L.length + 1 := by
  unfold insK
  split
  · omega
  · exact Nat.le_refl _
/-- {t[1] for t in ..} -/
theorem sc_signs {p : Addr} {us : List V} {ks : List (List Key)} {j : Nat} {σ : St} (hp : H p = some (.tup us)) (hu : TkL H us ks) (hg : ∀ k ∈ ks, ∃ g, k[1]? = some (kS g)) (few : ks.length ≤ 1000) (hj : j < σ.length)
    (q : ∀ D L H2, Same H H2 → H2 D = some (SetCO w D L) → L.length ≤ ks.length → (∀ x, x ∈ L ↔ ∃ k ∈ ks, k[1]? = some x) → Q (.ref D) H2) : ScOk w (Itt K p) (gName j) tYes (tOp (uIx K) (uV j) (tC (.int 1))) [j] σ H Q := by
  refine sc_ok (n := us.length) (fun D i H3 => Same H H3 ∧ ∃ L, H3 D = some (SetCO w D L) ∧ L.length ≤ i ∧ ∀ x, x ∈ L ↔ ∃ k ∈ ks.take i, k[1]? = some x) (fun D nD => ⟨same_new nD, [], upd_same, Nat.le_refl _, fun x => by simp⟩) (fun D i H3 lt h => go_t (h.1 _ _ hp) lt) (fun D H3 h => stop_t (h.1 _ _ hp)) ?_ ?_
  · rintro D i x H9 H3 nD lt ⟨s3, L, e3, lL, hL⟩ y
    obtain ⟨rfl, hx⟩ := yt (s3 _ _ hp) y
    obtain ⟨a, k, rfl, hk, ha⟩ := hu.at_ hx
    obtain ⟨g, hg⟩ := hg k (List.mem_of_getElem? hk)
    have l1 := (List.getElem?_eq_some_iff.mp hk).1
    dsimp only [gName, tYes, wipe]
    refine ⟨by rw [List.set_set, List.set_set], ?_⟩
    rw [if_pos rfl]
    have e1 : ((σ.set j none).set j (some (V.ref a)))[j]? = some (some (.ref a)) := by
      rw [List.getElem?_set_self (by rw [List.length_set]; exact hj)]
    dsimp only [tOp, uV, tC]
    rw [e1]
    dsimp only
    have e2 : (k.map kV)[1]? = some (sV g) := by rw [List.getElem?_map, hg]; rfl
    refine ix_tup2 (s3 _ _ ha) (atI_nat (j := 1) e2) ?_
    have lb : L.length + 1 < scanBound := by
      have : (1002 : Nat) < scanBound := by decide
      omega
    refine ⟨kS g, L, rfl, e3, lb, same_upd s3 nD, _, upd_same, ?_, fun z => ?_⟩
    · have := len_insK L (kS g)
      omega
    · rw [mem_insK, hL, take_one hk]
      constructor
      · rintro (rfl | ⟨k2, h1, h2⟩)
        · exact ⟨k, List.mem_append_right _ (List.mem_singleton.mpr rfl), hg⟩
        · exact ⟨k2, List.mem_append_left _ h1, h2⟩
      · rintro ⟨k2, h1, h2⟩
        rcases List.mem_append.mp h1 with h1 | h1
        · exact .inr ⟨k2, h1, h2⟩
        · cases List.mem_singleton.mp h1
          rw [hg] at h2
          exact .inl (Option.some.inj h2).symm
  · rintro D H3 nD ⟨s3, L, e3, lL, hL⟩
    refine q D L H3 s3 e3 (by rw [← hu.len]; exact lL) fun x => ?_
    rw [hL, hu.len, List.take_length]
/-- sorted(..) of such a set -/
theorem srt_signs {D : Addr} {L : List Key} {ks : List (List Key)} (hD : H D = some (SetCO w D L)) (hL : ∀ x, x ∈ L ↔ ∃ k ∈ ks, k[1]? = some x) (hg : ∀ k ∈ ks, ∃ g, k[1]? = some (kS g))
    (q : ∀ p (l : List Nat) H2, Same H H2 → H p = none → H2 p = some (.lst (l.map sV)) → l.length = L.length → (∀ g, g ∈ l ↔ ∃ k ∈ ks, k[1]? = some (kS g)) → Q (.ref p) H2) : uSorted K P w [.ref D] H Q := by
  have inr : ∀ k ∈ L, ∃ g, k = kS g := fun x hx => by
    obtain ⟨k, h1, h2⟩ := (hL x).mp hx
    obtain ⟨g, h3⟩ := hg k h1
    rw [h2] at h3
    exact ⟨g, Option.some.inj h3⟩
  refine .inr (.inr (.inl ⟨D, L, false, rfl, hD, fun k hk => ?_, fun L' p pm _ np => ?_⟩))
  · obtain ⟨g, rfl⟩ := inr k hk
    rfl
  · have ex : ∀ M : List Key, (∀ k ∈ M, ∃ g, k = kS g) → ∃ l : List Nat, M = l.map kS := by
      intro M
      induction M with
      | nil => exact fun _ => ⟨[], rfl⟩
      | cons a M ih =>
        intro h
        obtain ⟨g, rfl⟩ := h a List.mem_cons_self
        obtain ⟨l, rfl⟩ := ih fun k hk => h k (List.mem_cons_of_mem _ hk)
        exact ⟨g :: l, rfl⟩
    obtain ⟨l, rfl⟩ := ex L' fun k hk => inr k (pm.mem_iff.mp hk)
    refine q p l _ (same_new np) np (by rw [upd_same, List.map_map]; rfl) (by have := pm.length_eq; rwa [List.length_map] at this) fun g => ?_
    rw [← hL, ← pm.mem_iff, List.mem_map]
    exact ⟨fun h => ⟨g, h, rfl⟩, fun ⟨g2, h1, h2⟩ => by rw [← kS_inj h2]; exact h1⟩
theorem kM_sign {ms : List Mrk} : ∀ k ∈ ms.map kM, ∃ g, k[1]? = some (kS g) := fun k hk => by
  obtain ⟨m, _, rfl⟩ := List.mem_map.mp hk
  exact ⟨m.2, rfl⟩
theorem kA_sign {ar : List Arr} : ∀ k ∈ ar.map kA, ∃ g, k[1]? = some (kS g) := fun k hk => by
  obtain ⟨m, _, rfl⟩ := List.mem_map.mp hk
  exact ⟨m.2.1, rfl⟩
theorem kM_of {ms : List Mrk} {g : Nat} : (∃ k ∈ ms.map kM, k[1]? = some (kS g)) ↔ ∃ m ∈ ms, m.2 = g := by
  constructor
  · rintro ⟨k, hk, e⟩
    obtain ⟨m, hm, rfl⟩ := List.mem_map.mp hk
    exact ⟨m, hm, kS_inj (Option.some.inj e)⟩
  · rintro ⟨m, hm, rfl⟩
    exact ⟨kM m, List.mem_map.mpr ⟨m, hm, rfl⟩, rfl⟩
theorem kA_of {ar : List Arr} {g : Nat} : (∃ k ∈ ar.map kA, k[1]? = some (kS g)) ↔ ∃ m ∈ ar, m.2.1 = g := by
  constructor
  · rintro ⟨k, hk, e⟩
    obtain ⟨m, hm, rfl⟩ := List.mem_map.mp hk
    exact ⟨m, hm, kS_inj (Option.some.inj e)⟩
  · rintro ⟨m, hm, rfl⟩
    exact ⟨kA m, List.mem_map.mpr ⟨m, hm, rfl⟩, rfl⟩
theorem len_putK {κ : Type} [DecidableEq κ] (kvs : List (κ × V)) (k : κ) (v : V) : (putK kvs k v).length ≤ kvs.length + 1 := length_putK kvs k v
/-- the marks of each sign -/
def MkdOk (y : Wd) (kvs : List (Key × V)) (gs : List Nat) : Prop := kvs.length ≤ gs.length ∧ ∀ g ∈ gs, ∃ m : Nat, valV kvs (kS g) = some (nV m) ∧ ∀ p, m.testBit p = true ↔ (p, g) ∈ y.ms
/-- the relation of each letter -/
def RelsOk (y : Wd) (H : Hp) (kvs : List (Key × V)) (gs : List Nat) : Prop := kvs.length ≤ gs.length ∧ ∀ g ∈ gs, ∃ r R, valV kvs (kS g) = some (.ref r) ∧ H r = some (.tup (R.map nV)) ∧ RelOk y.n (prs y g) R
theorem RelsOk.keep {y : Wd} {H2 : Hp} {kvs : List (Key × V)} {gs : List Nat} (h : RelsOk y H kvs gs) (k : ∀ a xs, H a = some (.tup xs) → H2 a = some (.tup xs)) : RelsOk y H2 kvs gs := by
  refine ⟨h.1, fun g hg => ?_⟩
  obtain ⟨r, R, h1, h2, h3⟩ := h.2 g hg
  exact ⟨r, R, h1, k _ _ h2, h3⟩
end
end L2.WB
namespace L2.WB
open PySem PySem.Spec PyProof.Rows L2.XS L2.XB
open K19 (isL isK Bond msk Le Bd Sol InM Okb Ent kids Node sol total wgt)
section
variable {P : Program} {w : World} {K : PySem.W.Frag} {c : Ad} {H : Hp} {Q : VK} {E : XK} {vs : List V}
theorem mkd_put {y : Wd} {kvs : List (Key × V)} {gs : List Nat} {g m : Nat} (h : MkdOk y kvs gs) (hm : ∀ p, m.testBit p = true ↔ (p, g) ∈ y.ms) : MkdOk y (putK kvs (kS g) (nV m)) (gs ++ [g]) := by
  refine ⟨by rw [List.length_append]; exact Nat.le_trans (len_putK _ _ _) (Nat.succ_le_succ h.1), fun g2 h2 => ?_⟩
  rw [valV_put]
  by_cases e : kS g2 = kS g
  · rw [if_pos e]
    obtain rfl := kS_inj e
    exact ⟨m, rfl, hm⟩
  · rw [if_neg e]
    rcases List.mem_append.mp h2 with h2 | h2
    · exact h.2 g2 h2
    · exact absurd (by rw [List.mem_singleton.mp h2]) e
theorem rels_put {y : Wd} {kvs : List (Key × V)} {gs : List Nat} {g : Nat} {r : Addr} {R : List Nat} (h : RelsOk y H kvs gs) (hr : H r = some (.tup (R.map nV))) (ok : RelOk y.n (prs y g) R) : RelsOk y H (putK kvs (kS g) (.ref r)) (gs ++ [g]) := by
  refine ⟨by rw [List.length_append]; exact Nat.le_trans (len_putK _ _ _) (Nat.succ_le_succ h.1), fun g2 h2 => ?_⟩
  rw [valV_put]
  by_cases e : kS g2 = kS g
  · rw [if_pos e]
    obtain rfl := kS_inj e
    exact ⟨r, R, rfl, hr, ok⟩
  · rw [if_neg e]
    rcases List.mem_append.mp h2 with h2 | h2
    · exact h.2 g2 h2
    · exact absurd (by rw [List.mem_singleton.mp h2]) e
theorem prs_lt {y : Wd} (oy : y.Ok) {g : Nat} : ∀ x ∈ prs y g, x.1 < y.n ∧ x.2 < y.n := fun x hx => by
  obtain ⟨a, ha, rfl⟩ := List.mem_map.mp hx
  have := oy.ar a (List.mem_filter.mp ha).1
  exact ⟨this.1, this.2.2⟩
/-- the masks behind i marks -/
structure MidOk (x y : Wd) (al : Al) (i : Nat) (t : List Nat) : Prop where
  len : t.length = x.n
  bit : ∀ j p, j < x.n → ((msk t j).testBit p = true ↔ p < y.n ∧ alB al j p = true ∧ ∀ m ∈ x.ms.take i, m.1 = j → (p, m.2) ∈ y.ms)
theorem MidOk.step {x y : Wd} {al : Al} {i : Nat} {t : List Nat} {m : Mrk} {k : Nat} (h : MidOk x y al i t) (hm : x.ms[i]? = some m) (hk : ∀ p, k.testBit p = true ↔ (p, m.2) ∈ y.ms) (lt : m.1 < x.n) : MidOk x y al (i + 1) (t.set m.1 (msk t m.1 &&& k)) := by
  refine ⟨by rw [List.length_set]; exact h.len, fun j p hj => ?_⟩
  rw [K19.getD_set, take_one hm]
  by_cases e : m.1 = j
  · subst e
    rw [if_pos ⟨rfl, by rw [h.len]; exact lt⟩, Nat.testBit_and, Bool.and_eq_true, h.bit _ _ hj, hk]
    constructor
    · rintro ⟨⟨h1, h2, h3⟩, h4⟩
      refine ⟨h1, h2, fun m2 hm2 e2 => ?_⟩
      rcases List.mem_append.mp hm2 with z | z
      · exact h3 m2 z e2
      · rw [List.mem_singleton.mp z]; exact h4
    · rintro ⟨h1, h2, h3⟩
      exact ⟨⟨h1, h2, fun m2 z => h3 m2 (List.mem_append_left _ z)⟩, h3 m (List.mem_append_right _ (List.mem_singleton.mpr rfl)) rfl⟩
  · rw [if_neg (fun z => e z.1), h.bit _ _ hj]
    refine and_congr Iff.rfl (and_congr Iff.rfl ⟨fun h3 m2 hm2 e2 => ?_, fun h3 m2 z => h3 m2 (List.mem_append_left _ z)⟩)
    rcases List.mem_append.mp hm2 with z | z
    · exact h3 m2 z e2
    · rw [List.mem_singleton.mp z] at e2
      exact absurd e2 e
/-- bonds as made -/
def BnOk (y : Wd) (H : Hp) (us : List V) (ar : List Arr) (bs : List Bond) : Prop := BsAt H us bs ∧ bs.length = ar.length ∧ ∀ (i : Nat) (a : Arr), ar[i]? = some a → ∃ R, bs[i]? = some (a.1, R, a.2.2) ∧ RelOk y.n (prs y a.2.1) R
theorem BsAt.snoc {us : List V} {bs : List Bond} {a r : Addr} {b : Bond} (h : BsAt H us bs) (h1 : H a = some (.tup [nV b.1, .ref r, nV b.2.2])) (h2 : H r = some (.tup (b.2.1.map nV))) : BsAt H (us ++ [.ref a]) (bs ++ [b]) := by
  obtain ⟨L, rfl, rfl, h3⟩ := h
  refine ⟨L ++ [(a, r, b)], by rw [List.map_append]; rfl, by rw [List.map_append]; rfl, fun x hx => ?_⟩
  rcases List.mem_append.mp hx with hx | hx
  · exact h3 x hx
  · cases List.mem_singleton.mp hx; exact ⟨h1, h2⟩
theorem BsAt.but {H2 : Hp} {o : Addr} {xs : List V} {us : List V} {bs : List Bond} (s : SameBut o H H2) (e : H o = some (.lst xs)) (h : BsAt H us bs) : BsAt H2 us bs := by
  obtain ⟨L, h1, h2, h3⟩ := h
  exact ⟨L, h1, h2, fun x hx => ⟨s _ _ (fun z => by have := (h3 x hx).1; rw [z, e] at this; cases this) (h3 x hx).1, s _ _ (fun z => by have := (h3 x hx).2; rw [z, e] at this; cases this) (h3 x hx).2⟩⟩
theorem q__leading_search (F : WebF K c) (h : spSearch c vs H Q E) : t__leading_search P w K c (spAllowed c) (spMarked c) spRel (spPairs c) (fin0 Q) (start N__leading_search vs) H := by
  obtain ⟨v1, v2, v3, x, y, al, rfl, w1, w2, a3, ao, ox, oy, q⟩ := h
  show t__leading_search P w K c (spAllowed c) (spMarked c) spRel (spPairs c) (fin0 Q) [some v1, some v2, some v3, none, none, none, none, none, none, none, none, none, none, none] H
  dsimp only [t__leading_search, tSeq, tAsg, tIfS, tRet, tRetN, tDrop, tNext, tOp, tUn, tCons, tNil, tTup, tLst, tC, tCB, tCan, tAnd, tOr, tNot, tB, tIf, uB, uAndV, uOrV, uNotV, uNeg, uV, gName, gSub, tAug, ipI, tPart, tNoPart, tSl, tBM, tBM0, uLen, uAbs, uInt, uAdd, uSub, uMod, uFdiv, uMul, uBand, uBor, uCmp, uLt, uLe, uGt, uGe, StX.tMakeR, sFld, wipe, tYes, tGThen, tPlain, GEnds.at, tG0, tGIf, tGYield, tIsN, tNotN, tTru, tBits, tFmtB, tRevS, tRevL, start, fin0, List.getElem?_cons_zero, List.getElem?_cons_succ, List.map_cons, List.map_nil, List.length_cons, List.length_nil, List.replicate, List.cons_append, List.nil_append, Nat.reduceSub, Nat.reduceAdd, List.set_cons_zero, List.set_cons_succ]
  refine ⟨v1, v2, v3, x, y, al, rfl, w1, w2, a3, ao, ox, oy, fun p0 t0 H1 s1 n0 h0 m0 => ?_⟩
  refine dc_of ?_
  dsimp only [iList, tSeq, tAsg, tIfS, tRet, tRetN, tDrop, tNext, tOp, tUn, tCons, tNil, tTup, tLst, tC, tCB, tCan, tAnd, tOr, tNot, tB, tIf, uB, uAndV, uOrV, uNotV, uNeg, uV, gName, gSub, tAug, ipI, tPart, tNoPart, tSl, tBM, tBM0, uLen, uAbs, uInt, uAdd, uSub, uMod, uFdiv, uMul, uBand, uBor, uCmp, uLt, uLe, uGt, uGe, StX.tMakeR, sFld, wipe, tYes, tGThen, tPlain, GEnds.at, tG0, tGIf, tGYield, tIsN, tNotN, tTru, tBits, tFmtB, tRevS, tRevL, start, fin0, List.getElem?_cons_zero, List.getElem?_cons_succ, List.map_cons, List.map_nil, List.length_cons, List.length_nil, List.replicate, List.cons_append, List.nil_append, Nat.reduceSub, Nat.reduceAdd, List.set_cons_zero, List.set_cons_succ]
  refine sc_of ?_
  dsimp only [iTup, tSeq, tAsg, tIfS, tRet, tRetN, tDrop, tNext, tOp, tUn, tCons, tNil, tTup, tLst, tC, tCB, tCan, tAnd, tOr, tNot, tB, tIf, uB, uAndV, uOrV, uNotV, uNeg, uV, gName, gSub, tAug, ipI, tPart, tNoPart, tSl, tBM, tBM0, uLen, uAbs, uInt, uAdd, uSub, uMod, uFdiv, uMul, uBand, uBor, uCmp, uLt, uLe, uGt, uGe, StX.tMakeR, sFld, wipe, tYes, tGThen, tPlain, GEnds.at, tG0, tGIf, tGYield, tIsN, tNotN, tTru, tBits, tFmtB, tRevS, tRevL, start, fin0, List.getElem?_cons_zero, List.getElem?_cons_succ, List.map_cons, List.map_nil, List.length_cons, List.length_nil, List.replicate, List.cons_append, List.nil_append, Nat.reduceSub, Nat.reduceAdd, List.set_cons_zero, List.set_cons_succ]
  refine F.marks (w1.keep s1) (fun _ h => h) fun pm um hpm hum => ⟨pm, rfl, ⟨_, sqT hpm⟩, ?_⟩
  refine sc_signs hpm hum kM_sign (by rw [List.length_map]; exact ox.lms) (by simp) fun D L H2 s2 hD lL hL => ?_
  refine srt_signs hD hL kM_sign fun pl l H3 s3 npl hpl ll hl => ?_
  have l1000 : l.length ≤ 1000 := by
    rw [List.length_map] at lL
    have := ox.lms
    omega
  refine ⟨pl, rfl, ⟨_, sqL hpl⟩, ?_⟩
  have s13 : Same H1 H3 := s2.trans s3
  refine dc_ok (n := (l.map sV).length) (fun D i H4 => Same H3 H4 ∧ ∃ kvs, H4 D = some (.dK kvs) ∧ MkdOk y kvs (l.take i)) (fun D nD => ⟨same_new nD, [], upd_same, Nat.zero_le _, fun g hg => by cases hg⟩) (fun D i H4 lt h => go_l (h.1 _ _ hpl) lt) (fun D H4 h => stop_l (h.1 _ _ hpl)) ?_ ?_
  · rintro D i u H9 H4 nD lt ⟨s4, kvs, e4, mk⟩ yy
    obtain ⟨rfl, hx⟩ := yl (s4 _ _ hpl) yy
    obtain ⟨g, hg, rfl⟩ := map_at hx
    dsimp only [tSeq, tAsg, tIfS, tRet, tRetN, tDrop, tNext, tOp, tUn, tCons, tNil, tTup, tLst, tC, tCB, tCan, tAnd, tOr, tNot, tB, tIf, uB, uAndV, uOrV, uNotV, uNeg, uV, gName, gSub, tAug, ipI, tPart, tNoPart, tSl, tBM, tBM0, uLen, uAbs, uInt, uAdd, uSub, uMod, uFdiv, uMul, uBand, uBor, uCmp, uLt, uLe, uGt, uGe, StX.tMakeR, sFld, wipe, tYes, tGThen, tPlain, GEnds.at, tG0, tGIf, tGYield, tIsN, tNotN, tTru, tBits, tFmtB, tRevS, tRevL, start, fin0, List.getElem?_cons_zero, List.getElem?_cons_succ, List.map_cons, List.map_nil, List.length_cons, List.length_nil, List.replicate, List.cons_append, List.nil_append, Nat.reduceSub, Nat.reduceAdd, List.set_cons_zero, List.set_cons_succ]
    refine ⟨rfl, iteT ⟨v2, g, y, rfl, w2.keep ((s1.trans s13).trans s4), oy, fun m H5 s5 hm => ⟨kvs, kS g, rfl, s5 _ _ e4, ?_, same_upd (s4.trans s5) nD, _, upd_same, ?_⟩⟩⟩
    · have := mk.1
      have h1 := List.length_take_le' i l
      rw [sizeLine_eq]; omega
    · rw [take_one hg]
      exact mkd_put mk hm
  · rintro D H4 nD ⟨s4, kvs, e4, mk⟩
    rw [List.length_map, List.take_length] at mk
    have s04 : Same H H4 := (s1.trans s13).trans s4
    have s14 : Same H1 H4 := s13.trans s4
    have nDp : D ≠ p0 := fun z => by rw [z, s13 _ _ h0] at nD; cases nD
    refine for_of ?_
    dsimp only [iTup, tSeq, tAsg, tIfS, tRet, tRetN, tDrop, tNext, tOp, tUn, tCons, tNil, tTup, tLst, tC, tCB, tCan, tAnd, tOr, tNot, tB, tIf, uB, uAndV, uOrV, uNotV, uNeg, uV, gName, gSub, tAug, ipI, tPart, tNoPart, tSl, tBM, tBM0, uLen, uAbs, uInt, uAdd, uSub, uMod, uFdiv, uMul, uBand, uBor, uCmp, uLt, uLe, uGt, uGe, StX.tMakeR, sFld, wipe, tYes, tGThen, tPlain, GEnds.at, tG0, tGIf, tGYield, tIsN, tNotN, tTru, tBits, tFmtB, tRevS, tRevL, start, fin0, List.getElem?_cons_zero, List.getElem?_cons_succ, List.map_cons, List.map_nil, List.length_cons, List.length_nil, List.replicate, List.cons_append, List.nil_append, Nat.reduceSub, Nat.reduceAdd, List.set_cons_zero, List.set_cons_succ]
    refine F.marks (w1.keep s04) (fun _ h => h) fun pm um hpm hum => ⟨pm, rfl, ⟨_, sqT hpm⟩, ?_⟩
    refine for_t (xs := um) (fun i σ H5 => ∃ t y8 y9, σ = [some v1, some v2, some v3, some (.ref p0), some (.ref D), none, none, none, y8, y9, none, none, none, none] ∧ SameBut p0 H4 H5 ∧ H5 p0 = some (.lst (t.map nV)) ∧ MidOk x y al i t)
      ⟨t0, none, none, rfl, SameBut.refl _ _, s14 _ _ h0, m0.len, fun j p hj => by rw [m0.bit j p hj, List.take_zero]; simp⟩ (fun i σ H5 ⟨_, _, _, _, s, _⟩ => s _ _ (fun z => by rw [z, s14 _ _ h0] at hpm; cases hpm) hpm) ?_ ?_
    · rintro i u σ H5 hx ⟨t, y8, y9, rfl, s5, e5, mt⟩
      obtain ⟨a, k, rfl, hk, ha⟩ := hum.at_ hx
      obtain ⟨m, hm, rfl⟩ := map_at hk
      have mm := List.mem_of_getElem? hm
      obtain ⟨lt, _⟩ := ox.ms m mm
      have ha5 := s5 _ _ (fun z => by rw [z, s14 _ _ h0] at ha; cases ha) ha
      have ek5 := s5 _ _ nDp e4
      obtain ⟨mk1, vk, bk⟩ := mk.2 m.2 ((hl m.2).mpr (kM_of.mpr ⟨m, mm, rfl⟩))
      have lt2 : m.1 < t.length := by rw [mt.len]; exact lt
      refine ⟨a, _, rfl, sqT ha5, rfl, _, _, rfl, _, _, rfl, rfl, ?_⟩
      dsimp only [tDGet, kV, tSeq, tAsg, tIfS, tRet, tRetN, tDrop, tNext, tOp, tUn, tCons, tNil, tTup, tLst, tC, tCB, tCan, tAnd, tOr, tNot, tB, tIf, uB, uAndV, uOrV, uNotV, uNeg, uV, gName, gSub, tAug, ipI, tPart, tNoPart, tSl, tBM, tBM0, uLen, uAbs, uInt, uAdd, uSub, uMod, uFdiv, uMul, uBand, uBor, uCmp, uLt, uLe, uGt, uGe, StX.tMakeR, sFld, wipe, tYes, tGThen, tPlain, GEnds.at, tG0, tGIf, tGYield, tIsN, tNotN, tTru, tBits, tFmtB, tRevS, tRevL, start, fin0, List.getElem?_cons_zero, List.getElem?_cons_succ, List.map_cons, List.map_nil, List.length_cons, List.length_nil, List.replicate, List.cons_append, List.nil_append, Nat.reduceSub, Nat.reduceAdd, List.set_cons_zero, List.set_cons_succ]
      refine ix_lst e5 (nm_at lt2) ⟨D, nV mk1, rfl, .inl ⟨kvs, kS m.2, .inl ek5, rfl, vk.symm⟩, ?_⟩
      dsimp only [nV]
      rw [band_nat]
      refine ⟨p0, _, _, m.1, rfl, rfl, e5, by rw [List.length_map]; exact ixN_nat lt2, _, _, _, rfl, s5.trans but_upd, ?_, mt.step hm bk lt⟩
      rw [upd_same, List.map_set]
    · rintro σ H5 ⟨t, y8, y9, rfl, s5, e5, mt⟩
      rw [hum.len, List.length_map] at mt
      have s05 : Same H H5 := same_but s04 s5 n0
      dsimp only [tSeq, tAsg, tIfS, tRet, tRetN, tDrop, tNext, tOp, tUn, tCons, tNil, tTup, tLst, tC, tCB, tCan, tAnd, tOr, tNot, tB, tIf, uB, uAndV, uOrV, uNotV, uNeg, uV, gName, gSub, tAug, ipI, tPart, tNoPart, tSl, tBM, tBM0, uLen, uAbs, uInt, uAdd, uSub, uMod, uFdiv, uMul, uBand, uBor, uCmp, uLt, uLe, uGt, uGe, StX.tMakeR, sFld, wipe, tYes, tGThen, tPlain, GEnds.at, tG0, tGIf, tGYield, tIsN, tNotN, tTru, tBits, tFmtB, tRevS, tRevL, start, fin0, List.getElem?_cons_zero, List.getElem?_cons_succ, List.map_cons, List.map_nil, List.length_cons, List.length_nil, List.replicate, List.cons_append, List.nil_append, Nat.reduceSub, Nat.reduceAdd, List.set_cons_zero, List.set_cons_succ]
      intro R nR
      have s06 : Same H (upd H5 R (.dK [])) := s05.trans (same_new nR)
      refine for_of ?_
      dsimp only [iList, tSeq, tAsg, tIfS, tRet, tRetN, tDrop, tNext, tOp, tUn, tCons, tNil, tTup, tLst, tC, tCB, tCan, tAnd, tOr, tNot, tB, tIf, uB, uAndV, uOrV, uNotV, uNeg, uV, gName, gSub, tAug, ipI, tPart, tNoPart, tSl, tBM, tBM0, uLen, uAbs, uInt, uAdd, uSub, uMod, uFdiv, uMul, uBand, uBor, uCmp, uLt, uLe, uGt, uGe, StX.tMakeR, sFld, wipe, tYes, tGThen, tPlain, GEnds.at, tG0, tGIf, tGYield, tIsN, tNotN, tTru, tBits, tFmtB, tRevS, tRevL, start, fin0, List.getElem?_cons_zero, List.getElem?_cons_succ, List.map_cons, List.map_nil, List.length_cons, List.length_nil, List.replicate, List.cons_append, List.nil_append, Nat.reduceSub, Nat.reduceAdd, List.set_cons_zero, List.set_cons_succ]
      refine sc_of ?_
      dsimp only [iTup, tSeq, tAsg, tIfS, tRet, tRetN, tDrop, tNext, tOp, tUn, tCons, tNil, tTup, tLst, tC, tCB, tCan, tAnd, tOr, tNot, tB, tIf, uB, uAndV, uOrV, uNotV, uNeg, uV, gName, gSub, tAug, ipI, tPart, tNoPart, tSl, tBM, tBM0, uLen, uAbs, uInt, uAdd, uSub, uMod, uFdiv, uMul, uBand, uBor, uCmp, uLt, uLe, uGt, uGe, StX.tMakeR, sFld, wipe, tYes, tGThen, tPlain, GEnds.at, tG0, tGIf, tGYield, tIsN, tNotN, tTru, tBits, tFmtB, tRevS, tRevL, start, fin0, List.getElem?_cons_zero, List.getElem?_cons_succ, List.map_cons, List.map_nil, List.length_cons, List.length_nil, List.replicate, List.cons_append, List.nil_append, Nat.reduceSub, Nat.reduceAdd, List.set_cons_zero, List.set_cons_succ]
      refine F.arrows (w1.keep s06) (fun _ h => h) fun pa ua hpa hua => ⟨pa, rfl, ⟨_, sqT hpa⟩, ?_⟩
      refine sc_signs hpa hua kA_sign (by rw [List.length_map]; exact ox.lar) (by simp) fun D2 L2 H7 s7 hD2 lL2 hL2 => ?_
      refine srt_signs hD2 hL2 kA_sign fun pl2 l2 H8 s8 npl2 hpl2 ll2 hl2 => ?_
      have l2000 : l2.length ≤ 1000 := by
        rw [List.length_map] at lL2
        have := ox.lar
        omega
      refine ⟨pl2, rfl, ⟨_, sqL hpl2⟩, ?_⟩
      have s68 := s7.trans s8
      have eR8 := s68 _ _ (upd_same (H := H5) (a := R) (o := .dK []))
      have e58 := s68 _ _ (get_new (x := HO.dK []) e5 nR)
      have s08 : Same H H8 := s06.trans s68
      have nRH : H R = none := none_old s05 nR
      have nRp : R ≠ p0 := fun z => by rw [z, e5] at nR; cases nR
      refine for_l (xs := l2.map sV) (fun i σ H9 => ∃ y6 kv2, σ = [some v1, some v2, some v3, some (.ref p0), some (.ref D), some (.ref R), y6, none, y8, y9, none, none, none, none] ∧ SameBut R H8 H9 ∧ H9 R = some (.dK kv2) ∧ RelsOk y H9 kv2 (l2.take i))
        ⟨none, [], rfl, SameBut.refl _ _, eR8, Nat.zero_le _, fun g hg => by cases hg⟩ (fun i σ H9 ⟨_, _, _, s, _⟩ => s _ _ (fun z => by rw [z, eR8] at hpl2; cases hpl2) hpl2) ?_ ?_
      · rintro i u σ H9 hx ⟨y6, kv2, rfl, s9, e9, rk⟩
        obtain ⟨g, hg, rfl⟩ := map_at hx
        have s09 : Same H H9 := same_but s08 s9 nRH
        dsimp only [sDPut, tSeq, tAsg, tIfS, tRet, tRetN, tDrop, tNext, tOp, tUn, tCons, tNil, tTup, tLst, tC, tCB, tCan, tAnd, tOr, tNot, tB, tIf, uB, uAndV, uOrV, uNotV, uNeg, uV, gName, gSub, tAug, ipI, tPart, tNoPart, tSl, tBM, tBM0, uLen, uAbs, uInt, uAdd, uSub, uMod, uFdiv, uMul, uBand, uBor, uCmp, uLt, uLe, uGt, uGe, StX.tMakeR, sFld, wipe, tYes, tGThen, tPlain, GEnds.at, tG0, tGIf, tGYield, tIsN, tNotN, tTru, tBits, tFmtB, tRevS, tRevL, start, fin0, List.getElem?_cons_zero, List.getElem?_cons_succ, List.map_cons, List.map_nil, List.length_cons, List.length_nil, List.replicate, List.cons_append, List.nil_append, Nat.reduceSub, Nat.reduceAdd, List.set_cons_zero, List.set_cons_succ]
        refine F.places (w2.keep s09) (fun _ h => h) ⟨v2, g, y, rfl, w2.keep s09, oy, fun pq uq H10 s10 nq hq tq => ⟨y.n, pq, uq, prs y g, rfl, by have := oy.few; omega, hq, tq, prs_lt oy, fun pr Rr H11 s11 hr rok => ?_⟩⟩
        have s911 := s10.trans s11
        have eR := s911 _ _ e9
        refine ⟨R, _, rfl, .inl ⟨kv2, kS g, eR, rfl, ?_, rfl⟩, _, _, rfl, (s9.trans (Same.but s911)).trans but_upd, upd_same, ?_⟩
        · have := rk.1
          have h1 := List.length_take_le' i l2
          rw [sizeLine_eq]; omega
        · rw [take_one hg]
          have rk2 := rels_put (rk.keep fun a xs e => s911 _ _ e) hr rok
          exact rk2.keep fun a xs e => by rw [upd_ne (fun z => by rw [z, eR] at e; cases e)]; exact e
      · rintro σ H9 ⟨y6, kv2, rfl, s9, e9, rk⟩
        rw [List.length_map, List.take_length] at rk
        have s09 : Same H H9 := same_but s08 s9 nRH
        have e59 := s9 _ _ (Ne.symm nRp) e58
        dsimp only [tSeq, tAsg, tIfS, tRet, tRetN, tDrop, tNext, tOp, tUn, tCons, tNil, tTup, tLst, tC, tCB, tCan, tAnd, tOr, tNot, tB, tIf, uB, uAndV, uOrV, uNotV, uNeg, uV, gName, gSub, tAug, ipI, tPart, tNoPart, tSl, tBM, tBM0, uLen, uAbs, uInt, uAdd, uSub, uMod, uFdiv, uMul, uBand, uBor, uCmp, uLt, uLe, uGt, uGe, StX.tMakeR, sFld, wipe, tYes, tGThen, tPlain, GEnds.at, tG0, tGIf, tGYield, tIsN, tNotN, tTru, tBits, tFmtB, tRevS, tRevL, start, fin0, List.getElem?_cons_zero, List.getElem?_cons_succ, List.map_cons, List.map_nil, List.length_cons, List.length_nil, List.replicate, List.cons_append, List.nil_append, Nat.reduceSub, Nat.reduceAdd, List.set_cons_zero, List.set_cons_succ]
        refine lc_of ?_
        dsimp only [iTup, tSeq, tAsg, tIfS, tRet, tRetN, tDrop, tNext, tOp, tUn, tCons, tNil, tTup, tLst, tC, tCB, tCan, tAnd, tOr, tNot, tB, tIf, uB, uAndV, uOrV, uNotV, uNeg, uV, gName, gSub, tAug, ipI, tPart, tNoPart, tSl, tBM, tBM0, uLen, uAbs, uInt, uAdd, uSub, uMod, uFdiv, uMul, uBand, uBor, uCmp, uLt, uLe, uGt, uGe, StX.tMakeR, sFld, wipe, tYes, tGThen, tPlain, GEnds.at, tG0, tGIf, tGYield, tIsN, tNotN, tTru, tBits, tFmtB, tRevS, tRevL, start, fin0, List.getElem?_cons_zero, List.getElem?_cons_succ, List.map_cons, List.map_nil, List.length_cons, List.length_nil, List.replicate, List.cons_append, List.nil_append, Nat.reduceSub, Nat.reduceAdd, List.set_cons_zero, List.set_cons_succ]
        refine F.arrows (w1.keep s09) (fun _ h => h) fun pa ua hpa hua => ⟨pa, rfl, ⟨_, sqT hpa⟩, ?_⟩
        refine lc_t (xs := ua) (fun B i H10 => Same H9 H10 ∧ ∃ us bs, H10 B = some (.lst us) ∧ BnOk y H10 us (x.ar.take i) bs) (fun B nB => ⟨same_new nB, [], [], upd_same, ⟨[], rfl, rfl, fun x hx => by cases hx⟩, rfl, fun i a h => by simp at h⟩) (fun B i H10 h => h.1 _ _ hpa) ?_ ?_
        · rintro B i u H10 nB hx ⟨s10, us, bs, eB, bn⟩
          obtain ⟨a, k, rfl, hk, ha⟩ := hua.at_ hx
          obtain ⟨m, hm, rfl⟩ := map_at hk
          have mm := List.mem_of_getElem? hm
          obtain ⟨r, Rr, vr, hr, rok⟩ := rk.2 m.2.1 ((hl2 m.2.1).mpr (kA_of.mpr ⟨m, mm, rfl⟩))
          refine ⟨a, _, rfl, sqT (s10 _ _ ha), rfl, _, _, rfl, _, _, rfl, _, _, rfl, rfl, rfl, ?_⟩
          dsimp only [tDGet, kV, tSeq, tAsg, tIfS, tRet, tRetN, tDrop, tNext, tOp, tUn, tCons, tNil, tTup, tLst, tC, tCB, tCan, tAnd, tOr, tNot, tB, tIf, uB, uAndV, uOrV, uNotV, uNeg, uV, gName, gSub, tAug, ipI, tPart, tNoPart, tSl, tBM, tBM0, uLen, uAbs, uInt, uAdd, uSub, uMod, uFdiv, uMul, uBand, uBor, uCmp, uLt, uLe, uGt, uGe, StX.tMakeR, sFld, wipe, tYes, tGThen, tPlain, GEnds.at, tG0, tGIf, tGYield, tIsN, tNotN, tTru, tBits, tFmtB, tRevS, tRevL, start, fin0, List.getElem?_cons_zero, List.getElem?_cons_succ, List.map_cons, List.map_nil, List.length_cons, List.length_nil, List.replicate, List.cons_append, List.nil_append, Nat.reduceSub, Nat.reduceAdd, List.set_cons_zero, List.set_cons_succ]
          refine iteT ⟨R, .ref r, rfl, .inl ⟨kv2, kS m.2.1, .inl (s10 _ _ e9), rfl, vr.symm⟩, by decide +kernel, fun T nT => ⟨us, get_new eB nT, ?_, same_upd (s10.trans (same_new nT)) nB, us ++ [.ref T], bs ++ [(m.1, Rr, m.2.2)], upd_same, ?_⟩⟩
          · rw [bn.1.len, bn.2.1, sizeLine_eq]
            have h1 := List.length_take_le' i x.ar
            have := ox.lar
            omega
          · have nTB : T ≠ B := fun z => by rw [z, eB] at nT; cases nT
            have hr10 := s10 _ _ hr
            refine ⟨BsAt.snoc (r := r) ((bn.1.keep (same_new nT)).but but_upd (get_new eB nT)) (by rw [upd_ne nTB, upd_same]) (by rw [upd_ne (fun z => by rw [z, eB] at hr10; cases hr10)]; exact get_new hr10 nT), ?_, fun j a2 h2 => ?_⟩
            · rw [List.length_append, take_one hm, List.length_append, bn.2.1]; rfl
            · rw [take_one hm] at h2
              by_cases e : j < (x.ar.take i).length
              · rw [List.getElem?_append_left e] at h2
                rw [List.getElem?_append_left (by rw [bn.2.1]; exact e)]
                exact bn.2.2 j a2 h2
              · rw [List.getElem?_append_right (by omega)] at h2
                rw [List.getElem?_append_right (by rw [bn.2.1]; omega), bn.2.1]
                cases hj : j - (x.ar.take i).length with
                | zero =>
                  rw [hj] at h2
                  cases h2
                  exact ⟨Rr, rfl, rok⟩
                | succ z =>
                  rw [hj] at h2
                  cases (show none = some a2 from h2)
        · rintro B H10 nB ⟨s10, us, bs, eB, bn⟩
          rw [hua.len, List.length_map, List.take_length] at bn
          refine ⟨by decide +kernel, fun T nT => ?_⟩
          have sT := same_new (o := HO.tup [.ref p0, .ref B]) nT
          refine q T p0 B t us bs _ ((s09.trans s10).trans sT) upd_same (sT _ _ (s10 _ _ e59)) ⟨sT _ _ eB, bn.1.keep sT, oy.pos, by have := oy.few; omega, ?_, by have := ox.few; omega, fun b hb => ?_⟩ (fun i => ?_) ⟨mt.len, fun i p hi => ?_, bn.2.1, bn.2.2⟩
          · have h1 := oy.few
            have h2 := ox.few
            have := Nat.mul_le_mul h1 h2
            omega
          · obtain ⟨i, hi, rfl⟩ := List.getElem_of_mem hb
            have hi2 : i < x.ar.length := by rw [← bn.2.1]; exact hi
            obtain ⟨Rr, h1, h2⟩ := bn.2.2 i _ (List.getElem?_eq_getElem hi2)
            rw [List.getElem?_eq_getElem hi] at h1
            rw [Option.some.inj h1]
            have := ox.ar _ (List.getElem_mem hi2)
            exact ⟨this.1, this.2.2, h2.len⟩
          · by_cases hi : i < x.n
            · exact lt_pow fun p hp => ((mt.bit i p hi).mp hp).1
            · rw [K19.msk_out (by rw [mt.len]; omega)]
              exact Nat.two_pow_pos _
          · rw [mt.bit i p hi, List.take_length]
end
end L2.WB
namespace L2.WB
open PySem PySem.Spec PyProof.Rows L2.XS L2.XB
open K19 (isL isK)
theorem SqT.keep {K : PySem.W.Frag} {H H2 : Hp} {a : Addr} {xs : List V} (s : Same H H2) (h : SqT K H a xs) : SqT K H2 a xs := by
  rcases h with h | h
  · refine .inl ?_
    rcases h with h | ⟨o, h⟩
    · exact .inl (s _ _ h)
    · exact .inr ⟨o, s _ _ h⟩
  · exact .inr h
/-- a list, a tuple -/
def SeqV (K : PySem.W.Frag) (H : Hp) (v : V) (us : List V) : Prop := ∃ a, v = .ref a ∧ (H a = some (.lst us) ∨ SqT K H a us)
theorem SeqV.keep {K : PySem.W.Frag} {H H2 : Hp} {v : V} {us : List V} (s : Same H H2) (h : SeqV K H v us) : SeqV K H2 v us := by
  obtain ⟨a, e, h⟩ := h
  exact ⟨a, e, h.imp (s _ _) (SqT.keep s)⟩
structure LedI (H0 H2 : Hp) (led n : Nat) (kvs : List (List Key × V)) : Prop where
  same : Same H0 H2
  new : H0 led = none
  at_ : H2 led = some (.dT kvs)
  len : kvs.length ≤ n
  vals : ∀ p ∈ kvs, ∃ l xs, p.2 = .ref l ∧ H2 l = some (.lst xs) ∧ xs.length ≤ n ∧ H0 l = none
section
variable {P : Program} {w : World} {K : PySem.W.Frag} {c : Ad} {H H0 H2 H3 : Hp} {Q : VK} {E : XK} {vs : List V} {led n : Nat} {kvs : List (List Key × V)} {k : List Key}
theorem putK_new {kvs : List (List Key × V)} {v : V} (h : valV kvs k = none) : putK kvs k v = kvs ++ [(k, v)] := by
  unfold putK
  rw [valV_any, h]
  rfl
theorem mem_valV {kvs : List (List Key × V)} {v : V} (h : valV kvs k = some v) : ∃ p ∈ kvs, p.2 = v := by
  unfold valV at h
  obtain ⟨p, h1, h2⟩ := Option.map_eq_some_iff.mp h
  exact ⟨p, List.mem_of_find?_eq_some h1, h2⟩
/-- .setdefault(..).append(y) -/
theorem led_add {R : VK} {l0 : Addr} {y : V} (I : LedI H0 H2 led n kvs) (hn : n ≤ 100000) (s3 : Same H2 H3) (n0 : H2 l0 = none) (e0 : H3 l0 = some (.lst [])) (q : ∀ kvs' H5, LedI H0 H5 led (n + 1) kvs' → R .non H5) :
    (∀ v, valV kvs k = some v → tyV K "list" v H3 ∧ uApp v [y] H3 R) ∧ (valV kvs k = none → tyV K "list" (.ref l0) (upd H3 led (.dT (putK kvs k (.ref l0)))) ∧ uApp (.ref l0) [y] (upd H3 led (.dT (putK kvs k (.ref l0)))) R) := by
  have e3 := s3 _ _ I.at_
  refine ⟨fun v hv => ?_, fun hv => ?_⟩
  · obtain ⟨p, hp, rfl⟩ := mem_valV hv
    obtain ⟨l, xs, e, h1, h2, h3⟩ := I.vals p hp
    rw [e]
    have h1' := s3 _ _ h1
    refine ⟨tyl h1', xs, h1', by rw [sizeLine_eq]; omega, q kvs _ ⟨same_upd (I.same.trans s3) h3, I.new, ?_, Nat.le_succ_of_le I.len, fun p2 hp2 => ?_⟩⟩
    · rw [upd_ne (fun z => by rw [z, h1'] at e3; cases e3)]; exact e3
    · obtain ⟨l2, xs2, g, g1, g2, g3⟩ := I.vals p2 hp2
      by_cases z : l2 = l
      · subst z
        exact ⟨l2, _, g, upd_same, by rw [List.length_append]; exact Nat.succ_le_succ h2, g3⟩
      · exact ⟨l2, xs2, g, by rw [upd_ne z]; exact s3 _ _ g1, Nat.le_succ_of_le g2, g3⟩
  · have ne : l0 ≠ led := fun z => by rw [z, e3] at e0; cases e0
    have e1 : upd H3 led (.dT (putK kvs k (.ref l0))) l0 = some (.lst []) := by rw [upd_ne ne]; exact e0
    have n00 : H0 l0 = none := none_old I.same n0
    refine ⟨tyl e1, [], e1, by decide +kernel, q (putK kvs k (.ref l0)) _ ⟨same_upd (same_upd (I.same.trans s3) I.new) n00, I.new, ?_, Nat.le_trans (len_putK _ _ _) (Nat.succ_le_succ I.len), fun p2 hp2 => ?_⟩⟩
    · rw [upd_ne (Ne.symm ne), upd_same]
    · rw [putK_new hv] at hp2
      rcases List.mem_append.mp hp2 with hp2 | hp2
      · obtain ⟨l2, xs2, g, g1, g2, g3⟩ := I.vals p2 hp2
        have z : l2 ≠ l0 := fun z => by rw [z, n0] at g1; cases g1
        have z2 : l2 ≠ led := fun z => by rw [z, I.at_] at g1; cases g1
        exact ⟨l2, xs2, g, by rw [upd_ne z, upd_ne z2]; exact s3 _ _ g1, Nat.le_succ_of_le g2, g3⟩
      · cases List.mem_singleton.mp hp2
        exact ⟨l0, _, rfl, upd_same, by show 1 ≤ n + 1; omega, n00⟩
def spLed : Sp := fun vs H Q _ => ∃ (p q : Addr) (us ws : List V) (ar : List Arr) (ms : List Mrk), vs = [.ref p, .ref q] ∧ H p = some (.tup us) ∧ TkL H us (ar.map kA) ∧ H q = some (.tup ws) ∧ TkL H ws (ms.map kM) ∧ ar.length ≤ 1000 ∧ ms.length ≤ 1000 ∧ ∀ d kvs H2, Same H H2 → H2 d = some (.dT kvs) → Q (.ref d) H2
theorem q__led_places (h : spLed vs H Q E) : t__led_places P w K c (fin0 Q) (start N__led_places vs) H := by
  obtain ⟨p, pq, us, ws, ar, ms, rfl, hp, hu, hq, hw, l1, l2, q⟩ := h
  show t__led_places P w K c (fin0 Q) [some (.ref p), some (.ref pq), none, none, none, none, none, none] H
  dsimp only [t__led_places, tSeq, tAsg, tIfS, tRet, tRetN, tDrop, tNext, tOp, tUn, tCons, tNil, tTup, tLst, tC, tCB, tCan, tAnd, tOr, tNot, tB, tIf, uB, uAndV, uOrV, uNotV, uNeg, uV, gName, gSub, tAug, ipI, tPart, tNoPart, tSl, tBM, tBM0, uLen, uAbs, uInt, uAdd, uSub, uMod, uFdiv, uMul, uBand, uBor, uCmp, uLt, uLe, uGt, uGe, StX.tMakeR, sFld, wipe, tYes, tGThen, tPlain, GEnds.at, tG0, tGIf, tGYield, tIsN, tNotN, tTru, tBits, tFmtB, tRevS, tRevL, start, fin0, List.getElem?_cons_zero, List.getElem?_cons_succ, List.map_cons, List.map_nil, List.length_cons, List.length_nil, List.replicate, List.cons_append, List.nil_append, Nat.reduceSub, Nat.reduceAdd, List.set_cons_zero, List.set_cons_succ]
  intro led nl
  have s0 := same_new (o := HO.dT []) nl
  refine for_of ?_
  dsimp only [iTup, tSeq, tAsg, tIfS, tRet, tRetN, tDrop, tNext, tOp, tUn, tCons, tNil, tTup, tLst, tC, tCB, tCan, tAnd, tOr, tNot, tB, tIf, uB, uAndV, uOrV, uNotV, uNeg, uV, gName, gSub, tAug, ipI, tPart, tNoPart, tSl, tBM, tBM0, uLen, uAbs, uInt, uAdd, uSub, uMod, uFdiv, uMul, uBand, uBor, uCmp, uLt, uLe, uGt, uGe, StX.tMakeR, sFld, wipe, tYes, tGThen, tPlain, GEnds.at, tG0, tGIf, tGYield, tIsN, tNotN, tTru, tBits, tFmtB, tRevS, tRevL, start, fin0, List.getElem?_cons_zero, List.getElem?_cons_succ, List.map_cons, List.map_nil, List.length_cons, List.length_nil, List.replicate, List.cons_append, List.nil_append, Nat.reduceSub, Nat.reduceAdd, List.set_cons_zero, List.set_cons_succ]
  refine ⟨p, rfl, ⟨_, sqT (s0 _ _ hp)⟩, ?_⟩
  refine for_t (xs := us) (fun i σ H3 => ∃ y3 y4 y5 kvs, σ = [some (.ref p), some (.ref pq), some (.ref led), y3, y4, y5, none, none] ∧ LedI H H3 led (2 * i) kvs) ⟨none, none, none, [], rfl, ⟨s0, nl, upd_same, Nat.zero_le _, fun p hp => by cases hp⟩⟩ (fun i σ H3 ⟨_, _, _, _, _, I⟩ => I.same _ _ hp) ?_ ?_
  · rintro i u σ H3 hx ⟨y3, y4, y5, kvs, rfl, I⟩
    obtain ⟨a, k, rfl, hk, ha⟩ := hu.at_ hx
    obtain ⟨m, hm, rfl⟩ := map_at hk
    have li : i < ar.length := (List.getElem?_eq_some_iff.mp hm).1
    refine ⟨a, _, rfl, sqT (I.same _ _ ha), rfl, _, _, rfl, _, _, rfl, _, _, rfl, rfl, ?_⟩
    dsimp only [tDSetdT, kV, tSeq, tAsg, tIfS, tRet, tRetN, tDrop, tNext, tOp, tUn, tCons, tNil, tTup, tLst, tC, tCB, tCan, tAnd, tOr, tNot, tB, tIf, uB, uAndV, uOrV, uNotV, uNeg, uV, gName, gSub, tAug, ipI, tPart, tNoPart, tSl, tBM, tBM0, uLen, uAbs, uInt, uAdd, uSub, uMod, uFdiv, uMul, uBand, uBor, uCmp, uLt, uLe, uGt, uGe, StX.tMakeR, sFld, wipe, tYes, tGThen, tPlain, GEnds.at, tG0, tGIf, tGYield, tIsN, tNotN, tTru, tBits, tFmtB, tRevS, tRevL, start, fin0, List.getElem?_cons_zero, List.getElem?_cons_succ, List.map_cons, List.map_nil, List.length_cons, List.length_nil, List.replicate, List.cons_append, List.nil_append, Nat.reduceSub, Nat.reduceAdd, List.set_cons_zero, List.set_cons_succ]
    refine ⟨led, rfl, .inr ⟨_, .inl I.at_⟩, by decide +kernel, fun T nT => ⟨by decide +kernel, fun l0 n0 => ?_⟩⟩
    have sT := (same_new (o := HO.tup [nV m.1, sV m.2.1]) nT).trans (same_new (o := HO.lst []) n0)
    refine ⟨kvs, [kN m.1, kS m.2.1], T, sT _ _ I.at_, rfl, get_new upd_same n0, by have := I.len; rw [sizeLine_eq]; omega, ?_⟩
    refine led_add I (by omega) sT (none_old (same_new nT) n0) upd_same fun kvs1 H5 I1 => ?_
    dsimp only [tDSetdT, uAddA, kV, tSeq, tAsg, tIfS, tRet, tRetN, tDrop, tNext, tOp, tUn, tCons, tNil, tTup, tLst, tC, tCB, tCan, tAnd, tOr, tNot, tB, tIf, uB, uAndV, uOrV, uNotV, uNeg, uV, gName, gSub, tAug, ipI, tPart, tNoPart, tSl, tBM, tBM0, uLen, uAbs, uInt, uAdd, uSub, uMod, uFdiv, uMul, uBand, uBor, uCmp, uLt, uLe, uGt, uGe, StX.tMakeR, sFld, wipe, tYes, tGThen, tPlain, GEnds.at, tG0, tGIf, tGYield, tIsN, tNotN, tTru, tBits, tFmtB, tRevS, tRevL, start, fin0, List.getElem?_cons_zero, List.getElem?_cons_succ, List.map_cons, List.map_nil, List.length_cons, List.length_nil, List.replicate, List.cons_append, List.nil_append, Nat.reduceSub, Nat.reduceAdd, List.set_cons_zero, List.set_cons_succ]
    rw [sOf_add]
    refine ⟨led, rfl, .inr ⟨_, .inl I1.at_⟩, sl_ok (by rw [sOf_len, sOf_len]; simp), by decide +kernel, fun T2 nT2 => ⟨by decide +kernel, fun l2 n2 => ?_⟩⟩
    have sT2 := (same_new (o := HO.tup [nV m.2.2, .str (sOf ([m.2.1] ++ [39]))]) nT2).trans (same_new (o := HO.lst []) n2)
    refine ⟨kvs1, [kN m.2.2, .inr (sOf ([m.2.1] ++ [39]))], T2, sT2 _ _ I1.at_, rfl, get_new upd_same n2, by have := I1.len; rw [sizeLine_eq]; omega, ?_⟩
    refine led_add I1 (by omega) sT2 (none_old (same_new nT2) n2) upd_same fun kvs2 H6 I2 => ?_
    exact ⟨_, _, _, kvs2, rfl, I2⟩
  · rintro σ H3 ⟨y3, y4, y5, kvs, rfl, I⟩
    rw [hu.len, List.length_map] at I
    dsimp only [tSeq, tAsg, tIfS, tRet, tRetN, tDrop, tNext, tOp, tUn, tCons, tNil, tTup, tLst, tC, tCB, tCan, tAnd, tOr, tNot, tB, tIf, uB, uAndV, uOrV, uNotV, uNeg, uV, gName, gSub, tAug, ipI, tPart, tNoPart, tSl, tBM, tBM0, uLen, uAbs, uInt, uAdd, uSub, uMod, uFdiv, uMul, uBand, uBor, uCmp, uLt, uLe, uGt, uGe, StX.tMakeR, sFld, wipe, tYes, tGThen, tPlain, GEnds.at, tG0, tGIf, tGYield, tIsN, tNotN, tTru, tBits, tFmtB, tRevS, tRevL, start, fin0, List.getElem?_cons_zero, List.getElem?_cons_succ, List.map_cons, List.map_nil, List.length_cons, List.length_nil, List.replicate, List.cons_append, List.nil_append, Nat.reduceSub, Nat.reduceAdd, List.set_cons_zero, List.set_cons_succ]
    refine for_of ?_
    dsimp only [iTup, tSeq, tAsg, tIfS, tRet, tRetN, tDrop, tNext, tOp, tUn, tCons, tNil, tTup, tLst, tC, tCB, tCan, tAnd, tOr, tNot, tB, tIf, uB, uAndV, uOrV, uNotV, uNeg, uV, gName, gSub, tAug, ipI, tPart, tNoPart, tSl, tBM, tBM0, uLen, uAbs, uInt, uAdd, uSub, uMod, uFdiv, uMul, uBand, uBor, uCmp, uLt, uLe, uGt, uGe, StX.tMakeR, sFld, wipe, tYes, tGThen, tPlain, GEnds.at, tG0, tGIf, tGYield, tIsN, tNotN, tTru, tBits, tFmtB, tRevS, tRevL, start, fin0, List.getElem?_cons_zero, List.getElem?_cons_succ, List.map_cons, List.map_nil, List.length_cons, List.length_nil, List.replicate, List.cons_append, List.nil_append, Nat.reduceSub, Nat.reduceAdd, List.set_cons_zero, List.set_cons_succ]
    refine ⟨pq, rfl, ⟨_, sqT (I.same _ _ hq)⟩, ?_⟩
    refine for_t (xs := ws) (fun i σ H4 => ∃ y6 y7 kv2, σ = [some (.ref p), some (.ref pq), some (.ref led), y3, y4, y5, y6, y7] ∧ Same H H4 ∧ H4 led = some (.dT kv2) ∧ kv2.length ≤ 2 * ar.length + i) ⟨none, none, kvs, rfl, I.same, I.at_, I.len⟩ (fun i σ H4 ⟨_, _, _, _, s, _⟩ => s _ _ hq) ?_ ?_
    · rintro i u σ H4 hx ⟨y6, y7, kv2, rfl, s4, e4, l4⟩
      obtain ⟨a, k, rfl, hk, ha⟩ := hw.at_ hx
      obtain ⟨m, hm, rfl⟩ := map_at hk
      have li : i < ms.length := (List.getElem?_eq_some_iff.mp hm).1
      refine ⟨a, _, rfl, sqT (s4 _ _ ha), rfl, _, _, rfl, _, _, rfl, rfl, ?_⟩
      dsimp only [sDPut, uAddA, kV, tSeq, tAsg, tIfS, tRet, tRetN, tDrop, tNext, tOp, tUn, tCons, tNil, tTup, tLst, tC, tCB, tCan, tAnd, tOr, tNot, tB, tIf, uB, uAndV, uOrV, uNotV, uNeg, uV, gName, gSub, tAug, ipI, tPart, tNoPart, tSl, tBM, tBM0, uLen, uAbs, uInt, uAdd, uSub, uMod, uFdiv, uMul, uBand, uBor, uCmp, uLt, uLe, uGt, uGe, StX.tMakeR, sFld, wipe, tYes, tGThen, tPlain, GEnds.at, tG0, tGIf, tGYield, tIsN, tNotN, tTru, tBits, tFmtB, tRevS, tRevL, start, fin0, List.getElem?_cons_zero, List.getElem?_cons_succ, List.map_cons, List.map_nil, List.length_cons, List.length_nil, List.replicate, List.cons_append, List.nil_append, Nat.reduceSub, Nat.reduceAdd, List.set_cons_zero, List.set_cons_succ]
      refine ⟨by decide +kernel, fun l0 n0 => ?_⟩
      rw [sOf_add]
      refine ⟨sl_ok (by rw [sOf_len, sOf_len]; simp), by decide +kernel, fun T nT => ?_⟩
      have sT := (same_new (o := HO.lst [nV m.1]) n0).trans (same_new (o := HO.tup [nV m.1, .str (sOf ([63] ++ [m.2]))]) nT)
      have eL := sT _ _ e4
      refine ⟨led, _, rfl, .inr ⟨kv2, [kN m.1, .inr (sOf ([63] ++ [m.2]))], T, eL, rfl, upd_same, by rw [sizeLine_eq]; omega, rfl⟩, _, _, _, rfl, same_upd (s4.trans sT) nl, upd_same, ?_⟩
      have := len_putK kv2 [kN m.1, .inr (sOf ([63] ++ [m.2]))] (.ref l0)
      omega
    · rintro σ H4 ⟨y6, y7, kv2, rfl, s4, e4, l4⟩
      exact q led kv2 H4 s4 e4
theorem srt_set {v : V} {us : List V} {ks ms : List (List Key)} {sh : List Bool} (hv : SeqV K H v us) (hu : TkL H us ks) (hs : ∀ k ∈ ks, shp k = true :: sh) (few : ks.length < 4000) (srt : ms.Pairwise fun x y => tlt x y = true) (mem : ∀ k, k ∈ ms ↔ k ∈ ks)
    (q : ∀ p ws H2, Same H H2 → H2 p = some (.tup ws) → TkL H2 ws ms → Q (.ref p) H2) : rSetM K P w [v] H (fun a H1 => uSorted K P w [a] H1 fun b H2 => uTup K [b] H2 Q) := by
  obtain ⟨a, rfl, hv⟩ := hv
  obtain ⟨L0, rfl, rfl, h3⟩ := hu
  refine ⟨a, L0, rfl, hv.imp sqL id, fun p hp => sqT (h3 p hp), by rw [List.length_map] at few; exact few, fun d L nd sub cov => ?_⟩
  have s1 := same_new (o := SetMO P w d L) nd
  refine .inl ⟨d, L, sh, rfl, upd_same, fun p hp => sqT (s1 _ _ (h3 p (sub p hp))), fun p hp => hs _ (List.mem_map.mpr ⟨p, sub p hp, rfl⟩), fun L' e pm pw ne => ?_⟩
  have s2 := same_new (o := HO.lst (L'.map fun q => V.ref q.1)) ne
  refine ⟨_, sqL upd_same, fun f nf => ?_⟩
  have s3 := same_new (o := HO.tup (L'.map fun q => V.ref q.1)) nf
  have em : L'.map (·.2) = ms := by
    refine sorted_uniq lin_tup pw srt fun k => ?_
    rw [mem, List.mem_map, List.mem_map]
    constructor
    · rintro ⟨p, hp, rfl⟩
      exact ⟨p, sub p (pm.mem_iff.mp hp), rfl⟩
    · rintro ⟨p, hp, rfl⟩
      obtain ⟨p2, h1, h2⟩ := List.mem_map.mp (cov p hp)
      exact ⟨p2, pm.mem_iff.mpr h1, h2⟩
  exact q f _ _ ((s1.trans s2).trans s3) upd_same ⟨L', rfl, em, fun p hp => (s2.trans s3) _ _ (s1 _ _ (h3 p (sub p (pm.mem_iff.mp hp))))⟩
end
end L2.WB
namespace L2.WB
open PySem PySem.Spec PyProof.Rows L2.XS L2.XB
open K19 (isL isK)
/-- the arrows (marks) as given and the web that comes of them -/
structure GivA (K : PySem.W.Frag) (H : Hp) (v : V) (ar : List Arr) (src : List Arr) : Prop where
  seq : ∃ us, SeqV K H v us ∧ TkL H us (src.map kA)
  few : src.length ≤ 1000
  srt : (ar.map kA).Pairwise fun x y => tlt x y = true
  mem : ∀ a, a ∈ ar ↔ a ∈ src
structure GivM (K : PySem.W.Frag) (H : Hp) (v : V) (ms : List Mrk) (src : List Mrk) : Prop where
  seq : ∃ us, SeqV K H v us ∧ TkL H us (src.map kM)
  few : src.length ≤ 1000
  srt : (ms.map kM).Pairwise fun x y => tlt x y = true
  mem : ∀ a, a ∈ ms ↔ a ∈ src
def spWeb (K : PySem.W.Frag) (c : Ad) : Sp := fun vs H Q _ => ∃ (x dx : Addr) (wd : Wd) (va vm : V) (sa : List Arr) (sm : List Mrk), vs = [.ref x, nV wd.n, va, vm] ∧ H x = some (.ins c.Web dx []) ∧ wd.Ok ∧ GivA K H va wd.ar sa ∧ GivM K H vm wd.ms sm ∧
  ∀ H2, SameBut x H H2 → WbAt c H2 (.ref x) wd → Q .non H2
section
variable {P : Program} {w : World} {K : PySem.W.Frag} {c : Ad} {H : Hp} {Q : VK} {E : XK} {vs : List V}
theorem for_any {v : V} {us : List V} {g : TG} {tb : TS} {D : Ends} {σ : St} (hv : SeqV K H v us) (Pv : Nat → St → Prop) (h0 : Pv 0 σ)
    (hs : ∀ i x σ, us[i]? = some x → Pv i σ → g x σ H fun σ2 H2 => tb { D with nx := fun σ' H' => Pv (i + 1) σ' ∧ H' = H, ct := fun σ' H' => Pv (i + 1) σ' ∧ H' = H, bk := D.nx } σ2 H2) (hd : ∀ σ, Pv us.length σ → D.nx σ H) :
    (∃ a, v = .ref a ∧ (∃ xs, SqL K H a xs) ∧ ForOk (Itl K a) g tb D σ H) ∨ ∃ a, v = .ref a ∧ (∃ xs, SqT K H a xs) ∧ ForOk (Itt K a) g tb D σ H := by
  obtain ⟨a, rfl, h | h⟩ := hv
  · exact .inl ⟨a, rfl, ⟨us, sqL h⟩, for_l (xs := us) (fun i σ H' => Pv i σ ∧ H' = H) ⟨h0, rfl⟩ (fun i σ H' p => by rw [p.2]; exact h) (fun i x σ H' hx p => by
      obtain ⟨p, rfl⟩ := p
      exact hs i x σ hx p) fun σ H' p => by
      obtain ⟨p, rfl⟩ := p
      exact hd σ p⟩
  · exact .inr ⟨a, rfl, ⟨us, h⟩, for_ok (n := us.length) (fun i σ H' => Pv i σ ∧ H' = H) ⟨h0, rfl⟩ (fun i σ H' lt p => by rw [p.2]; exact ⟨us, us[i], h, List.getElem?_eq_getElem lt⟩) (fun σ H' p => by rw [p.2]; exact ⟨us, h, Nat.le_refl _⟩) (fun i x σ H' H9 lt p y => by
      obtain ⟨p, rfl⟩ := p
      obtain ⟨rfl, y⟩ := y
      exact hs i x σ (y us h) p) fun σ H' p => by
      obtain ⟨p, rfl⟩ := p
      exact hd σ p⟩
theorem lp {f : Str} {v : V} {fs : List (Str × V)} {n : Nat} (h : fs.length ≤ n) : (putF f v fs).length ≤ n + 1 := Nat.le_trans (length_putF _ _ _) (Nat.succ_le_succ h)
theorem lp0 : ([] : List (Str × V)).length ≤ 0 := Nat.le_refl _
theorem shp_kA {ar : List Arr} : ∀ k ∈ ar.map kA, shp k = true :: [false, true] := fun k hk => by
  obtain ⟨m, _, rfl⟩ := List.mem_map.mp hk
  rfl
theorem shp_kM {ms : List Mrk} : ∀ k ∈ ms.map kM, shp k = true :: [false] := fun k hk => by
  obtain ⟨m, _, rfl⟩ := List.mem_map.mp hk
  rfl
theorem kA_inj {a b : Arr} (h : kA a = kA b) : a = b := by
  obtain ⟨a1, a2, a3⟩ := a
  obtain ⟨b1, b2, b3⟩ := b
  have h1 := (List.cons.inj h).1
  have h2 := (List.cons.inj (List.cons.inj h).2).1
  have h3 := (List.cons.inj (List.cons.inj (List.cons.inj h).2).2).1
  have e1 : a1 = b1 := by have : (a1 : Int) = (b1 : Int) := Sum.inl.inj h1; omega
  have e2 : a2 = b2 := kS_inj h2
  have e3 : a3 = b3 := by have : (a3 : Int) = (b3 : Int) := Sum.inl.inj h3; omega
  rw [e1, e2, e3]
theorem kM_inj {a b : Mrk} (h : kM a = kM b) : a = b := by
  obtain ⟨a1, a2⟩ := a
  obtain ⟨b1, b2⟩ := b
  have h1 := (List.cons.inj h).1
  have h2 := (List.cons.inj (List.cons.inj h).2).1
  have e1 : a1 = b1 := by have : (a1 : Int) = (b1 : Int) := Sum.inl.inj h1; omega
  have e2 : a2 = b2 := kS_inj h2
  rw [e1, e2]
theorem mem_kA {l m : List Arr} (h : ∀ a, a ∈ l ↔ a ∈ m) : ∀ k, k ∈ l.map kA ↔ k ∈ m.map kA := fun k => by
  rw [List.mem_map, List.mem_map]
  exact ⟨fun ⟨a, h1, h2⟩ => ⟨a, (h a).mp h1, h2⟩, fun ⟨a, h1, h2⟩ => ⟨a, (h a).mpr h1, h2⟩⟩
theorem mem_kM {l m : List Mrk} (h : ∀ a, a ∈ l ↔ a ∈ m) : ∀ k, k ∈ l.map kM ↔ k ∈ m.map kM := fun k => by
  rw [List.mem_map, List.mem_map]
  exact ⟨fun ⟨a, h1, h2⟩ => ⟨a, (h a).mp h1, h2⟩, fun ⟨a, h1, h2⟩ => ⟨a, (h a).mpr h1, h2⟩⟩
theorem SqT.but {H2 : Hp} {x a : Addr} {o : HO} {us : List V} (s : SameBut x H H2) (e : H x = some o) (ho : ∀ xs, o ≠ .tup xs) (ho2 : ∀ b u, o ≠ .frz b u) (h : SqT K H a us) : SqT K H2 a us := by
  rcases h with h | h
  · refine .inl ?_
    rcases h with h | ⟨b, h⟩
    · exact .inl (s _ _ (fun z => by rw [z, e] at h; exact ho _ (Option.some.inj h)) h)
    · exact .inr ⟨b, s _ _ (fun z => by rw [z, e] at h; exact ho2 _ _ (Option.some.inj h)) h⟩
  · exact .inr h
/-- behind an instance's change -/
theorem TkL.ins {H2 : Hp} {x C dx : Addr} {fs : List (Str × V)} {vs : List V} {ks : List (List Key)} (s : SameBut x H H2) (e : H x = some (.ins C dx fs)) (h : TkL H vs ks) : TkL H2 vs ks := by
  obtain ⟨L, h1, h2, h3⟩ := h
  exact ⟨L, h1, h2, fun p hp => s _ _ (fun z => by have := h3 p hp; rw [z, e] at this; cases this) (h3 p hp)⟩
theorem SeqV.ins {H2 : Hp} {x C dx : Addr} {fs : List (Str × V)} {v : V} {us : List V} (s : SameBut x H H2) (e : H x = some (.ins C dx fs)) (h : SeqV K H v us) : SeqV K H2 v us := by
  obtain ⟨a, rfl, h⟩ := h
  refine ⟨a, rfl, h.imp (fun h => s _ _ (fun z => by rw [z, e] at h; cases h) h) (SqT.but s e (fun _ z => nomatch z) (fun _ _ z => nomatch z))⟩
theorem q_Web_init (F : WebF K c) (h : spWeb K c vs H Q E) : t_Web_init P w K c spCkA spCkM spLed (fin0 Q) (start N_Web_init vs) H := by
  obtain ⟨x, dx, wd, va, vm, sa, sm, rfl, hx, ok, ga, gm, q⟩ := h
  obtain ⟨ua, sva, tka⟩ := ga.seq
  obtain ⟨um, svm, tkm⟩ := gm.seq
  show t_Web_init P w K c spCkA spCkM spLed (fin0 Q) [some (.ref x), some (nV wd.n), some va, some vm, none, none] H
  dsimp only [t_Web_init, tSeq, tAsg, tIfS, tRet, tRetN, tDrop, tNext, tOp, tUn, tCons, tNil, tTup, tLst, tC, tCB, tCan, tAnd, tOr, tNot, tB, tIf, uB, uAndV, uOrV, uNotV, uNeg, uV, gName, gSub, tAug, ipI, tPart, tNoPart, tSl, tBM, tBM0, uLen, uAbs, uInt, uAdd, uSub, uMod, uFdiv, uMul, uBand, uBor, uCmp, uLt, uLe, uGt, uGe, StX.tMakeR, sFld, wipe, tYes, tGThen, tPlain, GEnds.at, tG0, tGIf, tGYield, tIsN, tNotN, tTru, tBits, tFmtB, tRevS, tRevL, start, fin0, List.getElem?_cons_zero, List.getElem?_cons_succ, List.map_cons, List.map_nil, List.length_cons, List.length_nil, List.replicate, List.cons_append, List.nil_append, Nat.reduceSub, Nat.reduceAdd, List.set_cons_zero, List.set_cons_succ]
  have o1 := ok.pos
  have o2 := ok.few
  refine ifF (decide_eq_false (by omega)) (ifF (decide_eq_false (by omega)) ?_)
  refine for_of ?_
  dsimp only [iAny, iList, iTup, tSeq, tAsg, tIfS, tRet, tRetN, tDrop, tNext, tOp, tUn, tCons, tNil, tTup, tLst, tC, tCB, tCan, tAnd, tOr, tNot, tB, tIf, uB, uAndV, uOrV, uNotV, uNeg, uV, gName, gSub, tAug, ipI, tPart, tNoPart, tSl, tBM, tBM0, uLen, uAbs, uInt, uAdd, uSub, uMod, uFdiv, uMul, uBand, uBor, uCmp, uLt, uLe, uGt, uGe, StX.tMakeR, sFld, wipe, tYes, tGThen, tPlain, GEnds.at, tG0, tGIf, tGYield, tIsN, tNotN, tTru, tBits, tFmtB, tRevS, tRevL, start, fin0, List.getElem?_cons_zero, List.getElem?_cons_succ, List.map_cons, List.map_nil, List.length_cons, List.length_nil, List.replicate, List.cons_append, List.nil_append, Nat.reduceSub, Nat.reduceAdd, List.set_cons_zero, List.set_cons_succ]
  refine for_any sva (fun i σ => ∃ y4, σ = [some (.ref x), some (nV wd.n), some va, some vm, y4, none]) ⟨none, rfl⟩ ?_ ?_
  · rintro i u σ hu ⟨y4, rfl⟩
    obtain ⟨a, k, rfl, hk, ha⟩ := tka.at_ hu
    obtain ⟨m, hm, rfl⟩ := map_at hk
    have mm := ok.ar m ((ga.mem m).mpr (List.mem_of_getElem? hm))
    dsimp only [tSeq, tAsg, tIfS, tRet, tRetN, tDrop, tNext, tOp, tUn, tCons, tNil, tTup, tLst, tC, tCB, tCan, tAnd, tOr, tNot, tB, tIf, uB, uAndV, uOrV, uNotV, uNeg, uV, gName, gSub, tAug, ipI, tPart, tNoPart, tSl, tBM, tBM0, uLen, uAbs, uInt, uAdd, uSub, uMod, uFdiv, uMul, uBand, uBor, uCmp, uLt, uLe, uGt, uGe, StX.tMakeR, sFld, wipe, tYes, tGThen, tPlain, GEnds.at, tG0, tGIf, tGYield, tIsN, tNotN, tTru, tBits, tFmtB, tRevS, tRevL, start, fin0, List.getElem?_cons_zero, List.getElem?_cons_succ, List.map_cons, List.map_nil, List.length_cons, List.length_nil, List.replicate, List.cons_append, List.nil_append, Nat.reduceSub, Nat.reduceAdd, List.set_cons_zero, List.set_cons_succ]
    exact ⟨wd.n, a, m, rfl, ha, mm.1, mm.2.1, mm.2.2, ⟨_, rfl⟩, rfl⟩
  rintro σ ⟨y4, rfl⟩
  dsimp only [tSeq, tAsg, tIfS, tRet, tRetN, tDrop, tNext, tOp, tUn, tCons, tNil, tTup, tLst, tC, tCB, tCan, tAnd, tOr, tNot, tB, tIf, uB, uAndV, uOrV, uNotV, uNeg, uV, gName, gSub, tAug, ipI, tPart, tNoPart, tSl, tBM, tBM0, uLen, uAbs, uInt, uAdd, uSub, uMod, uFdiv, uMul, uBand, uBor, uCmp, uLt, uLe, uGt, uGe, StX.tMakeR, sFld, wipe, tYes, tGThen, tPlain, GEnds.at, tG0, tGIf, tGYield, tIsN, tNotN, tTru, tBits, tFmtB, tRevS, tRevL, start, fin0, List.getElem?_cons_zero, List.getElem?_cons_succ, List.map_cons, List.map_nil, List.length_cons, List.length_nil, List.replicate, List.cons_append, List.nil_append, Nat.reduceSub, Nat.reduceAdd, List.set_cons_zero, List.set_cons_succ]
  refine for_of ?_
  dsimp only [iAny, iList, iTup, tSeq, tAsg, tIfS, tRet, tRetN, tDrop, tNext, tOp, tUn, tCons, tNil, tTup, tLst, tC, tCB, tCan, tAnd, tOr, tNot, tB, tIf, uB, uAndV, uOrV, uNotV, uNeg, uV, gName, gSub, tAug, ipI, tPart, tNoPart, tSl, tBM, tBM0, uLen, uAbs, uInt, uAdd, uSub, uMod, uFdiv, uMul, uBand, uBor, uCmp, uLt, uLe, uGt, uGe, StX.tMakeR, sFld, wipe, tYes, tGThen, tPlain, GEnds.at, tG0, tGIf, tGYield, tIsN, tNotN, tTru, tBits, tFmtB, tRevS, tRevL, start, fin0, List.getElem?_cons_zero, List.getElem?_cons_succ, List.map_cons, List.map_nil, List.length_cons, List.length_nil, List.replicate, List.cons_append, List.nil_append, Nat.reduceSub, Nat.reduceAdd, List.set_cons_zero, List.set_cons_succ]
  refine for_any svm (fun i σ => ∃ y5, σ = [some (.ref x), some (nV wd.n), some va, some vm, y4, y5]) ⟨none, rfl⟩ ?_ ?_
  · rintro i u σ hu ⟨y5, rfl⟩
    obtain ⟨a, k, rfl, hk, ha⟩ := tkm.at_ hu
    obtain ⟨m, hm, rfl⟩ := map_at hk
    have mm := ok.ms m ((gm.mem m).mpr (List.mem_of_getElem? hm))
    dsimp only [tSeq, tAsg, tIfS, tRet, tRetN, tDrop, tNext, tOp, tUn, tCons, tNil, tTup, tLst, tC, tCB, tCan, tAnd, tOr, tNot, tB, tIf, uB, uAndV, uOrV, uNotV, uNeg, uV, gName, gSub, tAug, ipI, tPart, tNoPart, tSl, tBM, tBM0, uLen, uAbs, uInt, uAdd, uSub, uMod, uFdiv, uMul, uBand, uBor, uCmp, uLt, uLe, uGt, uGe, StX.tMakeR, sFld, wipe, tYes, tGThen, tPlain, GEnds.at, tG0, tGIf, tGYield, tIsN, tNotN, tTru, tBits, tFmtB, tRevS, tRevL, start, fin0, List.getElem?_cons_zero, List.getElem?_cons_succ, List.map_cons, List.map_nil, List.length_cons, List.length_nil, List.replicate, List.cons_append, List.nil_append, Nat.reduceSub, Nat.reduceAdd, List.set_cons_zero, List.set_cons_succ]
    exact ⟨wd.n, a, m, rfl, ha, mm.1, mm.2, ⟨_, rfl⟩, rfl⟩
  rintro σ ⟨y5, rfl⟩
  dsimp only [tSeq, tAsg, tIfS, tRet, tRetN, tDrop, tNext, tOp, tUn, tCons, tNil, tTup, tLst, tC, tCB, tCan, tAnd, tOr, tNot, tB, tIf, uB, uAndV, uOrV, uNotV, uNeg, uV, gName, gSub, tAug, ipI, tPart, tNoPart, tSl, tBM, tBM0, uLen, uAbs, uInt, uAdd, uSub, uMod, uFdiv, uMul, uBand, uBor, uCmp, uLt, uLe, uGt, uGe, StX.tMakeR, sFld, wipe, tYes, tGThen, tPlain, GEnds.at, tG0, tGIf, tGYield, tIsN, tNotN, tTru, tBits, tFmtB, tRevS, tRevL, start, fin0, List.getElem?_cons_zero, List.getElem?_cons_succ, List.map_cons, List.map_nil, List.length_cons, List.length_nil, List.replicate, List.cons_append, List.nil_append, Nat.reduceSub, Nat.reduceAdd, List.set_cons_zero, List.set_cons_succ]
  refine ⟨x, c.Web, dx, [], rfl, hx, F.cls, F.noat _ (by simp), by decide, ?_⟩
  have b1 : SameBut x H (upd H x (.ins c.Web dx (putF "places" (nV wd.n) []))) := but_upd
  refine srt_set (sva.ins b1 hx) (tka.ins b1 hx) shp_kA (by rw [List.length_map]; have := ga.few; omega) ga.srt (mem_kA ga.mem) fun p ws H2 s2 hp tp => ?_
  have hx2 := s2 _ _ (upd_same (H := H) (a := x) (o := .ins c.Web dx (putF "places" (nV wd.n) [])))
  refine ⟨x, c.Web, dx, _, rfl, hx2, F.cls, F.noat _ (by simp), Nat.lt_of_le_of_lt (lp lp0) (by decide), ?_⟩
  have b2 : SameBut x H2 (upd H2 x (.ins c.Web dx (putF "arrows" (.ref p) (putF "places" (nV wd.n) [])))) := but_upd
  have b02 := (b1.trans (Same.but s2)).trans b2
  refine srt_set (svm.ins b02 hx) (tkm.ins b02 hx) shp_kM (by rw [List.length_map]; have := gm.few; omega) gm.srt (mem_kM gm.mem) fun p2 ws2 H3 s3 hp2 tp2 => ?_
  have hx3 := s3 _ _ (upd_same (H := H2) (a := x) (o := .ins c.Web dx (putF "arrows" (.ref p) (putF "places" (nV wd.n) []))))
  refine ⟨x, c.Web, dx, _, rfl, hx3, F.cls, F.noat _ (by simp), Nat.lt_of_le_of_lt (lp (lp lp0)) (by decide), ?_⟩
  have b3 : SameBut x H3 (upd H3 x (.ins c.Web dx (putF "marks" (.ref p2) (putF "arrows" (.ref p) (putF "places" (nV wd.n) []))))) := but_upd
  have hpx : p ≠ x := fun z => by rw [z, hx2] at hp; cases hp
  have hpx2 : p2 ≠ x := fun z => by rw [z, hx3] at hp2; cases hp2
  have hp3 := s3 _ _ (b2 _ _ hpx hp)
  have hp4 := b3 _ _ hpx hp3
  have tp3 : TkL H3 ws (wd.ar.map kA) := (tp.ins b2 hx2).keep s3
  have tp4 := tp3.ins b3 hx3
  have hp24 := b3 _ _ hpx2 hp2
  have tp24 := tp2.ins b3 hx3
  refine ⟨x, c.Web, dx, _, _, rfl, upd_same, F.cls, F.noat _ (by simp), rfl, ⟨x, c.Web, dx, _, _, rfl, upd_same, F.cls, F.noat _ (by simp), rfl, ?_⟩⟩
  refine ⟨p, p2, ws, ws2, wd.ar, wd.ms, rfl, hp4, tp4, hp24, tp24, ok.lar, ok.lms, fun d kvs H5 s5 hd => ?_⟩
  have hx5 := s5 _ _ (upd_same (H := H3) (a := x) (o := .ins c.Web dx (putF "marks" (.ref p2) (putF "arrows" (.ref p) (putF "places" (nV wd.n) [])))))
  refine ⟨x, c.Web, dx, _, rfl, hx5, F.cls, F.noat _ (by simp), Nat.lt_of_le_of_lt (lp (lp (lp lp0))) (by decide), ?_⟩
  have b5 : SameBut x H5 (upd H5 x (.ins c.Web dx (putF "_led" (.ref d) (putF "marks" (.ref p2) (putF "arrows" (.ref p) (putF "places" (nV wd.n) [])))))) := but_upd
  refine q _ ((((b02.trans (Same.but s3)).trans b3).trans (Same.but s5)).trans b5) ⟨x, dx, _, p, p2, ws, ws2, rfl, upd_same, rfl, rfl, rfl, b5 _ _ hpx (s5 _ _ hp4), (tp4.keep s5).ins b5 hx5, b5 _ _ hpx2 (s5 _ _ hp24), (tp24.keep s5).ins b5 hx5⟩
end
end L2.WB
namespace L2.WB
open PySem PySem.Spec PyProof.Rows L2.XS L2.XB
open K19 (isL isK Bond msk Le Bd Sol InM Okb Ent kids Node sol total wgt prodL allB)
def goodA (x y : Wd) (f : List Nat) : Bool := x.ar.all fun a => decide ((f.getD a.1 0, a.2.1, f.getD a.2.2 0) ∈ y.ar)
def goodM (x y : Wd) (f : List Nat) : Bool := x.ms.all fun m => decide ((f.getD m.1 0, m.2) ∈ y.ms)
def good (x y : Wd) (f : List Nat) : Bool := goodA x y f && goodM x y f
def dom0 (y : Wd) (al : Al) (i : Nat) : List Nat := (List.range y.n).filter (alB al i)
def due (x y : Wd) (al : Al) : List (List Nat) := (prodL ((List.range x.n).map (dom0 y al))).filter (good x y)
def msB (x y : Wd) (i p : Nat) : Bool := x.ms.all fun m => !decide (m.1 = i) || decide ((p, m.2) ∈ y.ms)
theorem mem_prodL : ∀ {ds : List (List Nat)} {f : List Nat}, f ∈ prodL ds → f.length = ds.length ∧ ∀ i, i < ds.length → f.getD i 0 ∈ ds.getD i []
  | [], f, h => by
    have : f = [] := by simpa [K19.prodL] using h
    subst this
    exact ⟨rfl, fun i hi => absurd hi (Nat.not_lt_zero _)⟩
  | d :: ds, f, h => by
    obtain ⟨p, hp, h⟩ := List.mem_flatMap.mp h
    obtain ⟨g, hg, rfl⟩ := List.mem_map.mp h
    obtain ⟨h1, h2⟩ := mem_prodL hg
    refine ⟨congrArg (· + 1) h1, fun i hi => ?_⟩
    cases i with
    | zero => exact hp
    | succ i => exact h2 i (Nat.lt_of_succ_lt_succ hi)
theorem allB_iff : ∀ {qs : List (Nat → Bool)} {f : List Nat}, f.length = qs.length → (allB qs f = true ↔ ∀ (i : Nat) q, qs[i]? = some q → q (f.getD i 0) = true)
  | [], [], _ => ⟨fun _ i q h => by simp at h, fun _ => rfl⟩
  | [], _ :: _, h => absurd h (by simp)
  | _ :: _, [], h => absurd h (by simp)
  | q :: qs, p :: f, h => by
    show (q p && allB qs f) = true ↔ _
    rw [Bool.and_eq_true, allB_iff (Nat.succ.inj h)]
    constructor
    · rintro ⟨h1, h2⟩ i r hr
      cases i with
      | zero => cases hr; exact h1
      | succ i => exact h2 i r hr
    · intro h
      exact ⟨h 0 q rfl, fun i r hr => h (i + 1) r hr⟩
theorem bits_dom {x y : Wd} {al : Al} {t : List Nat} {bs : List Bond} (S : SearchOk x y al t bs) : t.map bitsOf = List.zipWith (fun d q => d.filter q) ((List.range x.n).map (dom0 y al)) ((List.range x.n).map (msB x y)) := by
  refine List.ext_getElem (by rw [List.length_map, List.length_zipWith, List.length_map, List.length_map, List.length_range, S.len, Nat.min_self]) fun i h1 h2 => ?_
  rw [List.length_map] at h1
  rw [List.getElem_map, List.getElem_zipWith, List.getElem_map, List.getElem_map, List.getElem_range]
  unfold dom0
  rw [List.filter_filter]
  have hi : i < x.n := by rw [← S.len]; exact h1
  refine bits_eq fun p => ?_
  rw [← K19.msk_eq h1, S.bit i p hi]
  refine and_congr Iff.rfl ?_
  rw [Bool.and_eq_true, and_comm]
  refine and_congr ?_ Iff.rfl
  unfold msB
  rw [List.all_eq_true]
  refine ⟨fun h m hm => ?_, fun h m hm e => ?_⟩
  · by_cases e : m.1 = i
    · rw [decide_eq_true (h m hm e), Bool.or_true]
    · rw [decide_eq_false e]; rfl
  · have := h m hm
    rw [decide_eq_true e] at this
    simpa using this
theorem sol_due {x y : Wd} {al : Al} {t : List Nat} {bs : List Bond} (S : SearchOk x y al t bs) (ox : x.Ok) : sol bs t = due x y al := by
  show (prodL (t.map bitsOf)).filter (K19.okB bs) = _
  rw [bits_dom S, K19.prod_filter _ _ (by rw [List.length_map, List.length_map]), List.filter_filter]
  unfold due
  refine List.filter_congr fun f hf => ?_
  obtain ⟨l1, l2⟩ := mem_prodL hf
  rw [List.length_map, List.length_range] at l1 l2
  have e1 : K19.okB bs f = goodA x y f := by
    unfold goodA
    rw [Bool.eq_iff_iff, K19.okB_iff, List.all_eq_true]
    constructor
    · intro h a ha
      obtain ⟨i, hi, rfl⟩ := List.getElem_of_mem ha
      obtain ⟨R, hb, rok⟩ := S.bond i _ (List.getElem?_eq_getElem hi)
      have := h _ (List.mem_of_getElem? hb)
      rw [rok.bit] at this
      obtain ⟨z, hz, e⟩ := List.mem_map.mp this
      obtain ⟨z1, z2⟩ := List.mem_filter.mp hz
      have z2 := of_decide_eq_true z2
      have e3 : z = (f.getD x.ar[i].1 0, x.ar[i].2.1, f.getD x.ar[i].2.2 0) := by
        obtain ⟨a1, a2, a3⟩ := z
        have e4 := (Prod.mk.inj e).1
        have e5 := (Prod.mk.inj e).2
        dsimp only at e4 e5 z2 ⊢
        rw [e4, e5, z2]
      rw [← e3]
      exact decide_eq_true z1
    · intro h b hb
      obtain ⟨i, hi, rfl⟩ := List.getElem_of_mem hb
      have hi2 : i < x.ar.length := by rw [← S.blen]; exact hi
      obtain ⟨R, hb2, rok⟩ := S.bond i _ (List.getElem?_eq_getElem hi2)
      rw [List.getElem?_eq_getElem hi] at hb2
      rw [Option.some.inj hb2]
      have := of_decide_eq_true (h _ (List.getElem_mem hi2))
      rw [rok.bit]
      exact List.mem_map.mpr ⟨_, List.mem_filter.mpr ⟨this, decide_eq_true rfl⟩, rfl⟩
  have e2 : allB ((List.range x.n).map (msB x y)) f = goodM x y f := by
    unfold goodM
    rw [Bool.eq_iff_iff, allB_iff (by rw [List.length_map, List.length_range, l1]), List.all_eq_true]
    constructor
    · intro h m hm
      have lt := (ox.ms m hm).1
      have := h m.1 (msB x y m.1) (by rw [List.getElem?_map, List.getElem?_range lt]; rfl)
      unfold msB at this
      rw [List.all_eq_true] at this
      have := this m hm
      rw [decide_eq_true rfl] at this
      simpa using this
    · intro h i q hq
      obtain ⟨j, hj, rfl⟩ := map_at hq
      have e : j = i := by
        have := (List.getElem?_eq_some_iff.mp hj).2
        rwa [List.getElem_range, eq_comm] at this
      subst e
      unfold msB
      rw [List.all_eq_true]
      intro m hm
      by_cases e : m.1 = j
      · subst e
        rw [h m hm, Bool.or_true]
      · rw [decide_eq_false e]; rfl
  rw [e1, e2]
  rfl
theorem leads_due {x y : Wd} {al : Al} {L : List (List Nat)} (h : Leads x y al L) (ox : x.Ok) : L = due x y al := by
  obtain ⟨t, bs, S, rfl⟩ := h
  exact sol_due S ox
end L2.WB
namespace L2.WB
open PySem PySem.Spec PyProof.Rows L2.XS L2.XB
open K19 (isL isK)
def StAt (H : Hp) (st a : Addr) : Prop := ∃ (xs : List V) (i d : Nat), a ≠ st ∧ H st = some (.lst [.ref a, .int (i : Nat), .int (d : Nat)]) ∧ H a = some (.lst xs) ∧ ∀ x ∈ xs, ∃ n : Int, x = .int n
theorem StAt.same {H H2 : Hp} {st a : Addr} (h : StAt H st a) (s : Same H H2) : StAt H2 st a := by
  obtain ⟨xs, i, d, h1, h2, h3, h4⟩ := h
  exact ⟨xs, i, d, h1, s _ _ h2, s _ _ h3, h4⟩
theorem StAt.lst {H : Hp} {st a : Addr} (h : StAt H st a) : ∃ xs, H st = some (.lst xs) := by
  obtain ⟨xs, i, d, h1, h2, h3, h4⟩ := h
  exact ⟨_, h2⟩
theorem StAt.upd {H : Hp} {st a S : Addr} {o : HO} (h : StAt H st a) (h1 : S ≠ st) (h2 : S ≠ a) : StAt (upd H S o) st a := by
  obtain ⟨xs, i, d, e1, e2, e3, e4⟩ := h
  exact ⟨xs, i, d, e1, by rw [upd_ne (Ne.symm h1)]; exact e2, by rw [upd_ne (Ne.symm h2)]; exact e3, e4⟩
theorem StAt.new {H : Hp} {st a S : Addr} (h : StAt H st a) (n : H S = none) : S ≠ st ∧ S ≠ a := by
  obtain ⟨xs, i, d, e1, e2, e3, e4⟩ := h
  exact ⟨fun e => (by rw [e, e2] at n; cases n), fun e => (by rw [e, e3] at n; cases n)⟩
theorem but_new {H H1 : Hp} {st S : Addr} {o : HO} (s : SameBut st H H1) (n : H S = none) : SameBut st H (upd H1 S o) := fun b x hb e => by
  have : b ≠ S := fun z => by rw [z, n] at e; cases e
  rw [upd_ne this]
  exact s b x hb e
section
variable {P : Program} {w : World} {K : PySem.W.Frag} {c : Ad} {H : Hp} {Q : VK} {E : XK} {vs : List V} {v x : V}
def spTake : Sp := fun vs H Q _ => ∃ (st a : Addr) (m : Nat), vs = [.ref st, .int (m : Nat)] ∧ StAt H st a ∧ 1 ≤ m ∧ m < 1073741824 ∧ ∀ (r : Nat) H2, r < m → SameBut st H H2 → StAt H2 st a → Q (.int (r : Nat)) H2
theorem q__law_take (h : spTake vs H Q E) : t__law_take P w K c (fin0 Q) (start N__law_take vs) H := by
  obtain ⟨st, a, m, rfl, sa, hm1, hm2, q⟩ := h
  show t__law_take P w K c (fin0 Q) [some (.ref st), some (.int (m : Nat)), none] H
  obtain ⟨xs, i, d, hne, hst, ha, hxs⟩ := sa
  have fin : ∀ {H1 : Hp} {i d : Nat}, SameBut st H H1 → H1 st = some (.lst [.ref a, .int (i : Nat), .int (d : Nat)]) → Q (.int ((d : Nat) % (m : Nat) : Int)) (upd H1 st (.lst [.ref a, .int (i : Nat), .int ((d : Nat) / (m : Nat) : Int)])) := fun {H1 i d} s1 h1 => by
    rw [← Int.natCast_emod, ← Int.natCast_ediv]
    refine q (d % m) _ (Nat.mod_lt _ hm1) (s1.trans but_upd) ⟨xs, i, d / m, hne, upd_same, ?_, hxs⟩
    rw [upd_ne hne]
    exact s1 _ _ hne ha
  have tail : ∀ {H1 : Hp} {i d : Nat}, SameBut st H H1 → H1 st = some (.lst [.ref a, .int (i : Nat), .int (d : Nat)]) → (tSeq (tAsg (tOp (uMod) (tCB (uInt) (tCons (tOp (uIx K) (uV 0) (tC (.int 2))) tNil)) (uV 1)) (gName 2)) (tSeq (tAsg (tOp (uFdiv) (tOp (uIx K) (uV 0) (tC (.int 2))) (uV 1)) (gSub (uV 0) (tC (.int 2)) rSetL)) (tRet (uV 2)))) (fin0 Q) [some (.ref st), some (.int (m : Nat)), none] H1 := fun {H1 i d} s1 h1 => by
    dsimp only [tSeq, tAsg, tIfS, tRet, tRetN, tDrop, tNext, tOp, tUn, tCons, tNil, tTup, tLst, tC, tCB, tCan, tAnd, tOr, tNot, tB, tIf, uB, uAndV, uOrV, uNotV, uNeg, uV, gName, gSub, tAug, ipI, tPart, tNoPart, tSl, tBM, tBM0, uLen, uAbs, uInt, uAdd, uSub, uMod, uFdiv, uMul, uBand, uBor, uCmp, uLt, uLe, uGt, uGe, StX.tMakeR, sFld, wipe, tYes, tGThen, tPlain, GEnds.at, tG0, tGIf, tGYield, tIsN, tNotN, tTru, tBits, tFmtB, tRevS, tRevL, start, fin0, List.getElem?_cons_zero, List.getElem?_cons_succ, List.map_cons, List.map_nil, List.length_cons, List.length_nil, List.replicate, List.cons_append, List.nil_append, Nat.reduceSub, Nat.reduceAdd, List.set_cons_zero, List.set_cons_succ]
    refine ix_lst h1 (atI_nat (j := 2) rfl) ⟨by omega, ix_lst h1 (atI_nat (j := 2) rfl) ⟨⟨by omega, by omega⟩, st, _, 2, 2, rfl, rfl, h1, rfl, ?_⟩⟩
    exact fin s1 h1
  unfold t__law_take
  show (tIfS _ _ _) _ _ _
  dsimp only [tIfS, tAnd, uB, tB, tSeq, tAsg, tOp, uV, tC, gName, List.getElem?_cons_zero, List.getElem?_cons_succ, List.set_cons_zero, List.set_cons_succ]
  refine ix_lst hst (atI_nat (j := 2) rfl) ?_
  dsimp only [uLt, uCmp]
  refine ifD (fun c1 => ?_) fun c1 => tail (SameBut.refl _ _) hst
  refine ix_lst hst (atI_nat (j := 1) rfl) ?_
  dsimp only [tCB, tCons, tNil, tSeq, tAsg, tOp, uV, tC, gName, List.getElem?_cons_zero, List.getElem?_cons_succ, List.set_cons_zero, List.set_cons_succ]
  refine ix_lst hst (atI_nat (j := 0) rfl) ⟨xs, .inl (sqL ha), ?_⟩
  dsimp only
  refine ifD (fun c2 => ?_) fun c2 => tail (SameBut.refl _ _) hst
  obtain ⟨n, en⟩ := hxs xs[i] (List.getElem_mem (show i < xs.length by omega))
  refine ix_lst hst (atI_nat (j := 0) rfl) (ix_lst hst (atI_nat (j := 1) rfl) (ix_lst ha (atI_nat (j := i) (List.getElem?_eq_getElem (by omega))) ?_))
  rw [en]
  dsimp only [uInt, uAbs]
  refine ⟨st, _, 2, 2, rfl, rfl, hst, rfl, ?_⟩
  have e1 : (if n < 0 then -n else n) = ((n.natAbs : Nat) : Int) := by split <;> omega
  rw [e1]
  dsimp only [List.set_cons_succ, List.set_cons_zero]
  have hs1 : upd H st (.lst [.ref a, .int (i : Nat), .int (n.natAbs : Nat)]) st = some (.lst [.ref a, .int (i : Nat), .int (n.natAbs : Nat)]) := upd_same
  show (tOp _ _ _) _ _ _
  dsimp only [tOp, tC, uV, gSub, List.getElem?_cons_zero, List.getElem?_cons_succ]
  refine ix_lst hs1 (atI_nat (j := 1) rfl) ?_
  dsimp only [uAddA]
  refine ⟨st, _, 1, 1, rfl, rfl, hs1, rfl, ?_⟩
  exact tail (i := i + 1) (d := n.natAbs) (but_upd.trans but_upd) upd_same
def SameD (H : Hp) : Nat → V → V → Prop
  | 0, _, _ => False
  | n + 1, u, v => (∃ i, u = .int i ∧ v = .int i) ∨ (∃ z, u = .str z ∧ v = .str z) ∨ (u = .non ∧ v = .non) ∨ ∃ a b us ws, u = .ref a ∧ v = .ref b ∧ ((H a = some (.lst us) ∧ H b = some (.lst ws)) ∨ (H a = some (.tup us) ∧ H b = some (.tup ws))) ∧
    us.length = ws.length ∧ us.length ≤ 100000 ∧ ∀ (i : Nat) x y, us[i]? = some x → ws[i]? = some y → SameD H n x y
def spSame (n : Nat) : Sp := fun vs H Q _ => ∃ u v, vs = [u, v] ∧ SameD H n u v ∧ Q (.bl true) H
theorem isi_of {T n : String} {b : Bool} (h : TyOf K H x (.type T)) (hk : kitB T n = some b) (q : Q (.bl b) H) : uIsi K [x, .ty n] H Q := .inl ⟨.type T, .type n, b, .ty _, .base h, kit_ty hk, q⟩
theorem q__law_same {n : Nat} (h : spSame (n + 1) vs H Q E) : t__law_same P w K c (spSame n) (fin0 Q) (start N__law_same vs) H := by
  obtain ⟨u, v, rfl, hs, q⟩ := h
  show t__law_same P w K c (spSame n) (fin0 Q) [some u, some v, none] H
  dsimp only [t__law_same, tSeq, tAsg, tIfS, tRet, tRetN, tDrop, tNext, tOp, tUn, tCons, tNil, tTup, tLst, tC, tCB, tCan, tAnd, tOr, tNot, tB, tIf, uB, uAndV, uOrV, uNotV, uNeg, uV, gName, gSub, tAug, ipI, tPart, tNoPart, tSl, tBM, tBM0, uLen, uAbs, uInt, uAdd, uSub, uMod, uFdiv, uMul, uBand, uBor, uCmp, uLt, uLe, uGt, uGe, StX.tMakeR, sFld, wipe, tYes, tGThen, tPlain, GEnds.at, tG0, tGIf, tGYield, tIsN, tNotN, tTru, tBits, tFmtB, tRevS, tRevL, start, fin0, List.getElem?_cons_zero, List.getElem?_cons_succ, List.map_cons, List.map_nil, List.length_cons, List.length_nil, List.replicate, List.cons_append, List.nil_append, Nat.reduceSub, Nat.reduceAdd, List.set_cons_zero, List.set_cons_succ]
  rcases hs with ⟨i, rfl, rfl⟩ | ⟨z, rfl, rfl⟩ | ⟨rfl, rfl⟩ | ⟨a, b, us, ws, rfl, rfl, hab, hl, hm, hd⟩
  · refine isi_of (.int i) (by decide +kernel) (iteF (isi_of (.int i) (by decide +kernel) (iteT (isi_of (b := false) (.int i) (by decide +kernel) (iteF (isi_of (b := true) (.int i) (by decide +kernel) (iteF ?_)))))))
    dsimp only [uEq]
    rw [decide_eq_true rfl]
    exact q
  · refine isi_of (.str z) (by decide +kernel) (iteF (isi_of (.str z) (by decide +kernel) (iteF (isi_of (.str z) (by decide +kernel) (iteT (isi_of (.str z) (by decide +kernel) (iteT ?_)))))))
    dsimp only [uEq]
    rw [decide_eq_true rfl]
    exact q
  · refine isi_of .non (by decide +kernel) (iteF (isi_of .non (by decide +kernel) (iteF (isi_of .non (by decide +kernel) (iteF ⟨true, rfl, iteT q⟩)))))
  · have tail : (∃ xs, (SqL K H a xs ∨ SqT K H a xs) ∧ xs = us) → (∃ xs, (SqL K H b xs ∨ SqT K H b xs) ∧ xs = ws) → (∀ (i : Nat) x (R : VK), us[i]? = some x → R x H → uIx K (.ref a) (.int (i : Nat)) H R) → (∀ (i : Nat) x (R : VK), ws[i]? = some x → R x H → uIx K (.ref b) (.int (i : Nat)) H R) → (tSeq (tIfS (uB (tOp (uNe K) (tCB (uLen K) (tCons (uV 0) tNil)) (tCB (uLen K) (tCons (uV 1) tNil)))) (tRet (tC (.bl false))) tNext) (tSeq (tFor (iRng1 (tCons (tCB (uLen K) (tCons (uV 1) tNil)) tNil)) (gName 2) (tIfS (tNot (uB (tCan (spSame n) E0 (tCons (tOp (uIx K) (uV 0) (uV 2)) (tCons (tOp (uIx K) (uV 1) (uV 2)) tNil))))) (tRet (tC (.bl false))) tNext)) (tRet (tC (.bl true))))) (fin0 Q) [some (.ref a), some (.ref b), none] H := fun l1 l2 x1 x2 => by
      obtain ⟨xs, l1, e1⟩ := l1
      obtain ⟨ys, l2, e2⟩ := l2
      subst e1 e2
      dsimp only [tSeq, tAsg, tIfS, tRet, tRetN, tDrop, tNext, tOp, tUn, tCons, tNil, tTup, tLst, tC, tCB, tCan, tAnd, tOr, tNot, tB, tIf, uB, uAndV, uOrV, uNotV, uNeg, uV, gName, gSub, tAug, ipI, tPart, tNoPart, tSl, tBM, tBM0, uLen, uAbs, uInt, uAdd, uSub, uMod, uFdiv, uMul, uBand, uBor, uCmp, uLt, uLe, uGt, uGe, StX.tMakeR, sFld, wipe, tYes, tGThen, tPlain, GEnds.at, tG0, tGIf, tGYield, tIsN, tNotN, tTru, tBits, tFmtB, tRevS, tRevL, start, fin0, List.getElem?_cons_zero, List.getElem?_cons_succ, List.map_cons, List.map_nil, List.length_cons, List.length_nil, List.replicate, List.cons_append, List.nil_append, Nat.reduceSub, Nat.reduceAdd, List.set_cons_zero, List.set_cons_succ]
      refine ⟨_, l1, _, l2, ?_⟩
      dsimp only [uNe]
      refine ifF (by rw [hl]; simp) ?_
      refine for_of ?_
      dsimp only [iRng1, tSeq, tAsg, tIfS, tRet, tRetN, tDrop, tNext, tOp, tUn, tCons, tNil, tTup, tLst, tC, tCB, tCan, tAnd, tOr, tNot, tB, tIf, uB, uAndV, uOrV, uNotV, uNeg, uV, gName, gSub, tAug, ipI, tPart, tNoPart, tSl, tBM, tBM0, uLen, uAbs, uInt, uAdd, uSub, uMod, uFdiv, uMul, uBand, uBor, uCmp, uLt, uLe, uGt, uGe, StX.tMakeR, sFld, wipe, tYes, tGThen, tPlain, GEnds.at, tG0, tGIf, tGYield, tIsN, tNotN, tTru, tBits, tFmtB, tRevS, tRevL, start, fin0, List.getElem?_cons_zero, List.getElem?_cons_succ, List.map_cons, List.map_nil, List.length_cons, List.length_nil, List.replicate, List.cons_append, List.nil_append, Nat.reduceSub, Nat.reduceAdd, List.set_cons_zero, List.set_cons_succ]
      refine ⟨_, l2, _, rfl, by omega, by omega, ?_⟩
      rw [Int.toNat_natCast]
      refine for_r (fun i σ H2 => H2 = H ∧ ∃ o, σ = [some (.ref a), some (.ref b), o]) ⟨rfl, _, rfl⟩ ?_ ?_
      · rintro i σ _ hi ⟨rfl, o, rfl⟩
        dsimp only [tSeq, tAsg, tIfS, tRet, tRetN, tDrop, tNext, tOp, tUn, tCons, tNil, tTup, tLst, tC, tCB, tCan, tAnd, tOr, tNot, tB, tIf, uB, uAndV, uOrV, uNotV, uNeg, uV, gName, gSub, tAug, ipI, tPart, tNoPart, tSl, tBM, tBM0, uLen, uAbs, uInt, uAdd, uSub, uMod, uFdiv, uMul, uBand, uBor, uCmp, uLt, uLe, uGt, uGe, StX.tMakeR, sFld, wipe, tYes, tGThen, tPlain, GEnds.at, tG0, tGIf, tGYield, tIsN, tNotN, tTru, tBits, tFmtB, tRevS, tRevL, start, fin0, List.getElem?_cons_zero, List.getElem?_cons_succ, List.map_cons, List.map_nil, List.length_cons, List.length_nil, List.replicate, List.cons_append, List.nil_append, Nat.reduceSub, Nat.reduceAdd, List.set_cons_zero, List.set_cons_succ]
        have hx := List.getElem?_eq_getElem (show i < xs.length by omega)
        have hy := List.getElem?_eq_getElem hi
        refine x1 i _ _ hx (x2 i _ _ hy ⟨_, _, rfl, hd i _ _ hx hy, iteF ?_⟩)
        exact ⟨rfl, _, rfl⟩
      · rintro σ _ ⟨rfl, o, rfl⟩
        exact q
    rcases hab with ⟨ha, hb⟩ | ⟨ha, hb⟩
    · refine isi_of (.lst hb) (by decide +kernel) (iteF (isi_of (.lst hb) (by decide +kernel) (iteF (isi_of (.lst hb) (by decide +kernel) (iteF ⟨false, rfl, iteF ?_⟩)))))
      refine isi_of (.lst hb) (by decide +kernel) (iteT (isi_of (b := true) (.lst ha) (by decide +kernel) (iteF ?_)))
      refine isi_of (.lst hb) (by decide +kernel) (iteF (iteF ?_))
      exact tail ⟨_, .inl (sqL ha), rfl⟩ ⟨_, .inl (sqL hb), rfl⟩ (fun i x R e r => ix_lst ha (atI_nat e) r) fun i x R e r => ix_lst hb (atI_nat e) r
    · refine isi_of (.tup hb) (by decide +kernel) (iteF (isi_of (.tup hb) (by decide +kernel) (iteF (isi_of (.tup hb) (by decide +kernel) (iteF ⟨false, rfl, iteF ?_⟩)))))
      refine isi_of (.tup hb) (by decide +kernel) (iteF (iteF ?_))
      refine isi_of (.tup hb) (by decide +kernel) (iteT (isi_of (b := true) (.tup ha) (by decide +kernel) (iteF ?_)))
      exact tail ⟨_, .inr (sqT ha), rfl⟩ ⟨_, .inr (sqT hb), rfl⟩ (fun i x R e r => ix_tup2 ha (atI_nat e) r) fun i x R e r => ix_tup2 hb (atI_nat e) r
end
end L2.WB
namespace L2.WB
open PySem PySem.Spec PyProof.Rows L2.XS L2.XB
open K19 (isL isK)
def kD : Key → PyData
  | .inl i => .int i
  | .inr x => .str x
def tD (k : List Key) : PyData := .tuple (k.map kD)
def KOk (k : List Key) : Prop := ∀ s, Sum.inr s ∈ k → PyData.strOk s = true
theorem dp_key {K : PySem.W.Frag} {H : Hp} : ∀ k : List Key, DpAll K H (k.map kV) (k.map kD)
  | [] => .nil
  | .inl i :: k => .cons (.int i) (dp_key k)
  | .inr x :: k => .cons (.str x) (dp_key k)
theorem eqv_key1 (a b : Key) : PyData.eqv (kD a) (kD b) = decide (a = b) := by
  cases a <;> cases b <;> simp [kD, PyData.eqv]
  · rw [Bool.eq_iff_iff, beq_iff_eq, decide_eq_true_eq]
  · rw [Bool.eq_iff_iff, beq_iff_eq, decide_eq_true_eq]
theorem eqv_key : ∀ k m : List Key, PyData.eqvAll (k.map kD) (m.map kD) = decide (k = m)
  | [], [] => rfl
  | [], _ :: _ => rfl
  | _ :: _, [] => rfl
  | a :: k, b :: m => by
    show (PyData.eqv (kD a) (kD b) && PyData.eqvAll (k.map kD) (m.map kD)) = _
    rw [eqv_key k m, eqv_key1, Bool.eq_iff_iff, Bool.and_eq_true, decide_eq_true_eq, decide_eq_true_eq, decide_eq_true_eq, List.cons.injEq]
theorem eqv_tup (k m : List Key) : PyData.eqv (tD k) (tD m) = decide (k = m) := by
  unfold tD
  rw [PyData.eqv, eqv_key]
theorem lay_key : ∀ {k : List Key}, KOk k → PyData.canLayAll0 (k.map kD) = true
  | [], _ => rfl
  | .inl i :: k, h => by
    show (true && PyData.canLayAll0 (k.map kD)) = true
    rw [lay_key fun s hs => h s (List.mem_cons_of_mem _ hs)]; rfl
  | .inr x :: k, h => by
    show (PyData.strOk x && PyData.canLayAll0 (k.map kD)) = true
    rw [lay_key fun s hs => h s (List.mem_cons_of_mem _ hs), h x (List.mem_cons_self ..)]; rfl
theorem depth_key : ∀ k : List Key, PyData.depthAll (k.map kD) = 0
  | [] => rfl
  | .inl i :: k => by
    show max 0 (PyData.depthAll (k.map kD)) = 0
    rw [depth_key k]; rfl
  | .inr x :: k => by
    show max 0 (PyData.depthAll (k.map kD)) = 0
    rw [depth_key k]; rfl
theorem lay_tups : ∀ {ks : List (List Key)}, (∀ k ∈ ks, KOk k) → PyData.canLayAll0 (ks.map tD) = true
  | [], _ => rfl
  | k :: ks, h => by
    show (PyData.canLayAll0 (k.map kD) && PyData.canLayAll0 (ks.map tD)) = true
    rw [lay_key (h k (List.mem_cons_self ..)), lay_tups fun k hk => h k (List.mem_cons_of_mem _ hk)]; rfl
def inK (k : List Key) (ks : List (List Key)) : Bool := ks.any fun m => decide (m = k)
theorem inK_iff {k : List Key} {ks : List (List Key)} : inK k ks = true ↔ k ∈ ks := by
  unfold inK
  rw [List.any_eq_true]
  exact ⟨fun ⟨m, h1, h2⟩ => of_decide_eq_true h2 ▸ h1, fun h => ⟨k, h, decide_eq_true rfl⟩⟩
theorem any_tups (k : List Key) (ks : List (List Key)) : ((ks.map tD).any fun z => PyData.eqv z (tD k)) = inK k ks := by
  unfold inK
  rw [List.any_map]
  exact congrArg ks.any (funext fun m => eqv_tup m k)
theorem depth_tups (ks : List (List Key)) : PyData.depthAll (ks.map tD) ≤ 1 := by
  induction ks with
  | nil => exact Nat.zero_le _
  | cons k ks ih =>
    show max (PyData.depthAll (k.map kD) + 1) (PyData.depthAll (ks.map tD)) ≤ 1
    rw [depth_key]
    omega
theorem dp_tups {K : PySem.W.Frag} {H : Hp} {us : List V} {ks : List (List Key)} (h : TkL H us ks) : DpAll K H us (ks.map tD) := by
  obtain ⟨L, rfl, rfl, h3⟩ := h
  induction L with
  | nil => exact .nil
  | cons p L ih => exact .cons (.tup (sqT (h3 p (List.mem_cons_self ..))) (dp_key p.2)) (ih fun q hq => h3 q (List.mem_cons_of_mem _ hq))
theorem kOk_of {k : List Key} (h : ∀ s, Sum.inr s ∈ k → ∃ l, s = sOf l ∧ ∀ c ∈ l, c < 1114112) : KOk k := fun s hs => by
  obtain ⟨l, rfl, h⟩ := h s hs
  unfold PyData.strOk sOf
  rw [Array.all_eq_true_iff_forall_mem]
  intro x hx
  exact decide_eq_true (h x (by simpa using hx))
theorem kOk_A {x : Arr} (h : K19.isL x.2.1 = true) : KOk (kA x) := kOk_of fun s hs => by
  have : s = sOf [x.2.1] := by simpa using hs
  refine ⟨_, this, fun c hc => ?_⟩
  cases List.mem_singleton.mp hc
  unfold K19.isL at h
  simp at h
  omega
theorem kOk_M {x : Mrk} (h : K19.isK x.2 = true) : KOk (kM x) := kOk_of fun s hs => by
  have : s = sOf [x.2] := by simpa using hs
  refine ⟨_, this, fun c hc => ?_⟩
  cases List.mem_singleton.mp hc
  unfold K19.isK at h
  simp at h
  omega
section
variable {P : Program} {w : World} {K : PySem.W.Frag} {c : Ad} {H : Hp} {Q : VK} {E : XK} {vs : List V} {v x : V}
theorem in_tups {neg : Bool} {a y2 : Addr} {us : List V} {k : List Key} {ks : List (List Key)} (ha : H a = some (.tup (k.map kV))) (hy : H y2 = some (.lst us)) (hu : TkL H us ks) (ok : KOk k) (oks : ∀ k ∈ ks, KOk k) (q : Q (.bl (if neg then !inK k ks else inK k ks)) H) : uIn K neg (.ref a) (.ref y2) H Q := by
  refine .inr ⟨tD k, ks.map tD, .tup (sqT ha) (dp_key k), .lst (sqL hy) (dp_tups hu), lay_key ok, lay_tups oks, ?_, ?_⟩
  · have := depth_tups ks
    omega
  · rw [any_tups]
    exact q
def TwoAt (H : Hp) (v : V) (x y : Nat) : Prop := ∃ a, v = .ref a ∧ H a = some (.lst [sV x, sV y])
def spTwo : Sp := fun vs H Q _ => ∃ (st a : Addr) (l : List Nat), vs = [.ref st, .str (sOf l)] ∧ l.length = 26 ∧ StAt H st a ∧ ∀ S x y H2, x ∈ l → y ∈ l → (l.Nodup → x ≠ y) → SameBut st H H2 → StAt H2 st a → H2 S = some (.lst [sV x, sV y]) → S ≠ st → Q (.ref S) H2
theorem q__law_two (h : spTwo vs H Q E) : t__law_two P w K c spTake (fin0 Q) (start N__law_two vs) H := by
  obtain ⟨st, a, l, rfl, hl, sa, q⟩ := h
  show t__law_two P w K c spTake (fin0 Q) [some (.ref st), some (.str (sOf l)), none, none] H
  dsimp only [t__law_two, tSeq, tAsg, tIfS, tRet, tRetN, tDrop, tNext, tOp, tUn, tCons, tNil, tTup, tLst, tC, tCB, tCan, tAnd, tOr, tNot, tB, tIf, uB, uAndV, uOrV, uNotV, uNeg, uV, gName, gSub, tAug, ipI, tPart, tNoPart, tSl, tBM, tBM0, uLen, uAbs, uInt, uAdd, uSub, uMod, uFdiv, uMul, uBand, uBor, uCmp, uLt, uLe, uGt, uGe, StX.tMakeR, sFld, wipe, tYes, tGThen, tPlain, GEnds.at, tG0, tGIf, tGYield, tIsN, tNotN, tTru, tBits, tFmtB, tRevS, tRevL, start, fin0, List.getElem?_cons_zero, List.getElem?_cons_succ, List.map_cons, List.map_nil, List.length_cons, List.length_nil, List.replicate, List.cons_append, List.nil_append, Nat.reduceSub, Nat.reduceAdd, List.set_cons_zero, List.set_cons_succ]
  refine ⟨st, a, 26, rfl, sa, by decide, by decide, fun r H1 hr s1 sa1 => ?_⟩
  dsimp only [uAddA, tSeq, tAsg, tIfS, tRet, tRetN, tDrop, tNext, tOp, tUn, tCons, tNil, tTup, tLst, tC, tCB, tCan, tAnd, tOr, tNot, tB, tIf, uB, uAndV, uOrV, uNotV, uNeg, uV, gName, gSub, tAug, ipI, tPart, tNoPart, tSl, tBM, tBM0, uLen, uAbs, uInt, uAdd, uSub, uMod, uFdiv, uMul, uBand, uBor, uCmp, uLt, uLe, uGt, uGe, StX.tMakeR, sFld, wipe, tYes, tGThen, tPlain, GEnds.at, tG0, tGIf, tGYield, tIsN, tNotN, tTru, tBits, tFmtB, tRevS, tRevL, start, fin0, List.getElem?_cons_zero, List.getElem?_cons_succ, List.map_cons, List.map_nil, List.length_cons, List.length_nil, List.replicate, List.cons_append, List.nil_append, Nat.reduceSub, Nat.reduceAdd, List.set_cons_zero, List.set_cons_succ]
  refine ⟨st, a, 25, rfl, sa1, by decide, by decide, fun r2 H2 hr2 s2 sa2 => ?_⟩
  dsimp only [uAddA, tSeq, tAsg, tIfS, tRet, tRetN, tDrop, tNext, tOp, tUn, tCons, tNil, tTup, tLst, tC, tCB, tCan, tAnd, tOr, tNot, tB, tIf, uB, uAndV, uOrV, uNotV, uNeg, uV, gName, gSub, tAug, ipI, tPart, tNoPart, tSl, tBM, tBM0, uLen, uAbs, uInt, uAdd, uSub, uMod, uFdiv, uMul, uBand, uBor, uCmp, uLt, uLe, uGt, uGe, StX.tMakeR, sFld, wipe, tYes, tGThen, tPlain, GEnds.at, tG0, tGIf, tGYield, tIsN, tNotN, tTru, tBits, tFmtB, tRevS, tRevL, start, fin0, List.getElem?_cons_zero, List.getElem?_cons_succ, List.map_cons, List.map_nil, List.length_cons, List.length_nil, List.replicate, List.cons_append, List.nil_append, Nat.reduceSub, Nat.reduceAdd, List.set_cons_zero, List.set_cons_succ]
  refine ⟨by omega, ?_⟩
  have hp : (r + 1 + r2) % 26 < 26 := Nat.mod_lt _ (by decide)
  have h1 := List.getElem?_eq_getElem (show r < l.length by omega)
  have h2 := List.getElem?_eq_getElem (show (r + 1 + r2) % 26 < l.length by omega)
  refine ix_txt (by omega) rfl h1 (ix_txt (by omega) (by omega) h2 ⟨by decide +kernel, fun S nS => ?_⟩)
  obtain ⟨n1, n2⟩ := sa2.new nS
  refine q S _ _ _ (List.getElem_mem _) (List.getElem_mem _) (fun nd e => ?_) ((s1.trans s2).trans (but_new (SameBut.refl _ _) nS)) (sa2.upd n1 n2) upd_same n1
  have := (List.getElem_inj nd).mp e
  omega
def spDist : Sp := fun vs H Q _ => ∃ (a : Addr) (us : List V) (ks : List (List Key)) (sh : List Bool), vs = [.ref a] ∧ H a = some (.lst us) ∧ TkL H us ks ∧ (∀ k ∈ ks, shp k = true :: sh) ∧ (∀ k ∈ ks, KOk k) ∧ ks.length ≤ 1000 ∧
  ∀ p ws ms H2, Same H H2 → H2 p = some (.lst ws) → TkL H2 ws ms → ms.Pairwise (fun x y => tlt x y = true) → (∀ k, k ∈ ms ↔ k ∈ ks) → ms.length ≤ ks.length → H p = none → Q (.ref p) H2
theorem q__law_distinct (h : spDist vs H Q E) : t__law_distinct P w K c (fin0 Q) (start N__law_distinct vs) H := by
  obtain ⟨a, us, ks, sh, rfl, ha, hu, hs, ok, lk, q⟩ := h
  show t__law_distinct P w K c (fin0 Q) [some (.ref a), none, none] H
  dsimp only [t__law_distinct, tSeq, tAsg, tIfS, tRet, tRetN, tDrop, tNext, tOp, tUn, tCons, tNil, tTup, tLst, tC, tCB, tCan, tAnd, tOr, tNot, tB, tIf, uB, uAndV, uOrV, uNotV, uNeg, uV, gName, gSub, tAug, ipI, tPart, tNoPart, tSl, tBM, tBM0, uLen, uAbs, uInt, uAdd, uSub, uMod, uFdiv, uMul, uBand, uBor, uCmp, uLt, uLe, uGt, uGe, StX.tMakeR, sFld, wipe, tYes, tGThen, tPlain, GEnds.at, tG0, tGIf, tGYield, tIsN, tNotN, tTru, tBits, tFmtB, tRevS, tRevL, start, fin0, List.getElem?_cons_zero, List.getElem?_cons_succ, List.map_cons, List.map_nil, List.length_cons, List.length_nil, List.replicate, List.cons_append, List.nil_append, Nat.reduceSub, Nat.reduceAdd, List.set_cons_zero, List.set_cons_succ]
  refine ⟨by decide +kernel, fun o no => ?_⟩
  have s0 := same_new (o := HO.lst []) no
  refine for_of ?_
  dsimp only [iList, tSeq, tAsg, tIfS, tRet, tRetN, tDrop, tNext, tOp, tUn, tCons, tNil, tTup, tLst, tC, tCB, tCan, tAnd, tOr, tNot, tB, tIf, uB, uAndV, uOrV, uNotV, uNeg, uV, gName, gSub, tAug, ipI, tPart, tNoPart, tSl, tBM, tBM0, uLen, uAbs, uInt, uAdd, uSub, uMod, uFdiv, uMul, uBand, uBor, uCmp, uLt, uLe, uGt, uGe, StX.tMakeR, sFld, wipe, tYes, tGThen, tPlain, GEnds.at, tG0, tGIf, tGYield, tIsN, tNotN, tTru, tBits, tFmtB, tRevS, tRevL, start, fin0, List.getElem?_cons_zero, List.getElem?_cons_succ, List.map_cons, List.map_nil, List.length_cons, List.length_nil, List.replicate, List.cons_append, List.nil_append, Nat.reduceSub, Nat.reduceAdd, List.set_cons_zero, List.set_cons_succ]
  obtain ⟨L0, rfl, rfl, h3⟩ := hu
  refine .inr (.inl ⟨a, L0, sh, rfl, sqL (s0 _ _ ha), fun p hp => sqT (s0 _ _ (h3 p hp)), fun p hp => hs _ (List.mem_map.mpr ⟨p, hp, rfl⟩), fun L p pm pw np => ⟨p, rfl, ⟨_, sqL upd_same⟩, ?_⟩⟩)
  have s1 := s0.trans (same_new (o := HO.lst (L.map fun q => V.ref q.1)) np)
  refine for_l (xs := L.map fun q => V.ref q.1) (fun i σ H3 => ∃ y2 ws ms, σ = [some (.ref a), some (.ref o), y2] ∧ Same H H3 ∧ H3 p = some (.lst (L.map fun q => V.ref q.1)) ∧ H3 o = some (.lst ws) ∧ TkL H3 ws ms ∧ ms.length ≤ i ∧ ms.Pairwise (fun x y => tlt x y = true) ∧ ∀ k, k ∈ ms ↔ k ∈ (L.take i).map (·.2))
    ⟨none, [], [], rfl, s1, upd_same, get_new upd_same np, .nil, Nat.le_refl _, .nil, fun k => by simp⟩ (fun i σ H3 ⟨_, _, _, _, _, e, _⟩ => e) ?_ ?_
  · rintro i x σ H3 hx ⟨y2, ws, ms, rfl, s3, ep, eo, hw, lm, srt, mem⟩
    obtain ⟨z, hz, rfl⟩ := map_at hx
    have zm : z ∈ L0 := pm.mem_iff.mp (List.mem_of_getElem? hz)
    have ez := s3 _ _ (h3 z zm)
    have kl : i < 1000 := by
      have h1 := (List.getElem?_eq_some_iff.mp hz).1
      have h2 := pm.length_eq
      rw [List.length_map] at lk
      omega
    have okm : ∀ k ∈ ms, KOk k := fun k hk => by
      obtain ⟨p2, hp2, rfl⟩ := List.mem_map.mp ((mem k).mp hk)
      exact ok _ (List.mem_map.mpr ⟨p2, pm.mem_iff.mp (List.mem_of_mem_take hp2), rfl⟩)
    dsimp only [tSeq, tAsg, tIfS, tRet, tRetN, tDrop, tNext, tOp, tUn, tCons, tNil, tTup, tLst, tC, tCB, tCan, tAnd, tOr, tNot, tB, tIf, uB, uAndV, uOrV, uNotV, uNeg, uV, gName, gSub, tAug, ipI, tPart, tNoPart, tSl, tBM, tBM0, uLen, uAbs, uInt, uAdd, uSub, uMod, uFdiv, uMul, uBand, uBor, uCmp, uLt, uLe, uGt, uGe, StX.tMakeR, sFld, wipe, tYes, tGThen, tPlain, GEnds.at, tG0, tGIf, tGYield, tIsN, tNotN, tTru, tBits, tFmtB, tRevS, tRevL, start, fin0, List.getElem?_cons_zero, List.getElem?_cons_succ, List.map_cons, List.map_nil, List.length_cons, List.length_nil, List.replicate, List.cons_append, List.nil_append, Nat.reduceSub, Nat.reduceAdd, List.set_cons_zero, List.set_cons_succ]
    refine in_tups ez eo hw (ok _ (List.mem_map.mpr ⟨z, zm, rfl⟩)) okm ?_
    have tk := take_one hz
    refine ifB (fun e => ?_) fun e => ?_
    · have nin : z.2 ∉ ms := fun h => by
        rw [inK_iff.mpr h] at e
        cases e
      refine app_ok2 eo (by have := hw.len; omega) ?_
      have ne : z.1 ≠ o := fun q => by rw [q, eo] at ez; cases ez
      have npo : p ≠ o := fun q => by rw [q, upd_same] at np; cases np
      refine ⟨_, ws ++ [.ref z.1], ms ++ [z.2], rfl, same_upd s3 no, ?_, upd_same, ?_, ?_, ?_, ?_⟩
      · rw [upd_ne npo]; exact ep
      · refine TkL.snoc ?_ (k := z.2) (by rw [upd_ne ne]; exact ez)
        exact hw.but (st := o) (fun b x hb hx => by rw [upd_ne hb]; exact hx) eo
      · rw [List.length_append]; exact Nat.succ_le_succ lm
      · rw [List.pairwise_append]
        refine ⟨srt, List.pairwise_singleton _ _, fun x hx y hy => ?_⟩
        cases List.mem_singleton.mp hy
        obtain ⟨p2, hp2, rfl⟩ := List.mem_map.mp ((mem x).mp hx)
        obtain ⟨j, hj, e2⟩ := List.getElem_of_mem hp2
        rw [List.length_take] at hj
        rw [List.getElem_take] at e2
        have hi := (List.getElem?_eq_some_iff.mp hz)
        have := List.pairwise_iff_getElem.mp pw j i (by rw [List.length_map]; omega) (by rw [List.length_map]; exact hi.1) (by omega)
        rw [List.getElem_map, List.getElem_map, e2, hi.2] at this
        rcases lin_tup.tri p2.2 z.2 with t | t | t
        · exact t
        · exact absurd (t ▸ hx) nin
        · rw [t] at this; cases this
      · intro k
        rw [tk, List.map_append, List.mem_append, List.mem_append, mem]
        rfl
    · have inn : z.2 ∈ ms := by
        cases hh : inK z.2 ms with
        | false => rw [hh] at e; cases e
        | true => exact inK_iff.mp hh
      refine ⟨_, ws, ms, rfl, s3, ep, eo, hw, Nat.le_succ_of_le lm, srt, fun k => ?_⟩
      rw [tk, List.map_append, List.mem_append, mem]
      refine ⟨.inl, fun h => h.elim id fun h => ?_⟩
      cases List.mem_singleton.mp h
      exact (mem _).mp inn
  · rintro σ H3 ⟨y2, ws, ms, rfl, s3, ep, eo, hw, lm, srt, mem⟩
    rw [List.length_map] at mem lm
    rw [List.take_length] at mem
    refine q o ws ms H3 s3 eo hw srt (fun k => ?_) (by rw [List.length_map, ← pm.length_eq]; exact lm) no
    rw [mem, List.mem_map, List.mem_map]
    exact exists_congr fun p => and_congr pm.mem_iff Iff.rfl
end
end L2.WB
namespace L2.WB
open PySem PySem.Spec PyProof.Rows L2.XS L2.XB
open K19 (isL isK)
theorem StAt.ne {H : Hp} {st a b : Addr} {xs : List V} (h : StAt H st a) (e : H b = some (.lst xs)) (n : ∀ i : Int, xs[1]? ≠ some (.int i)) : b ≠ st := fun z => by
  obtain ⟨ys, i, d, _, h2, _⟩ := h
  rw [z, h2] at e
  cases e
  exact n _ rfl
theorem TkL.ne1 {H : Hp} {us : List V} {ks : List (List Key)} (h : TkL H us ks) (i : Int) : us[1]? ≠ some (.int i) := fun e => by
  obtain ⟨a, k, e2, _⟩ := h.at_ e
  cases e2
def WlAt (H : Hp) (v : V) (x : Wd) : Prop := ∃ a p q us ws, v = .ref a ∧ H a = some (.lst [nV x.n, .ref p, .ref q]) ∧ H p = some (.lst us) ∧ TkL H us (x.ar.map kA) ∧ H q = some (.lst ws) ∧ TkL H ws (x.ms.map kM)
theorem WlAt.keep {H H2 : Hp} {v : V} {x : Wd} (s : Same H H2) (h : WlAt H v x) : WlAt H2 v x := by
  obtain ⟨a, p, q, us, ws, h1, h2, h3, h4, h5, h6⟩ := h
  exact ⟨a, p, q, us, ws, h1, s _ _ h2, s _ _ h3, h4.keep s, s _ _ h5, h6.keep s⟩
theorem WlAt.but {H H2 : Hp} {st a : Addr} {v : V} {x : Wd} (sa : StAt H st a) (s : SameBut st H H2) (h : WlAt H v x) : WlAt H2 v x := by
  obtain ⟨a, p, q, us, ws, h1, h2, h3, h4, h5, h6⟩ := h
  obtain ⟨xs, e⟩ := sa.lst
  exact ⟨a, p, q, us, ws, h1, s _ _ (sa.ne h2 fun i => by simp) h2, s _ _ (sa.ne h3 h4.ne1) h3, h4.but s e, s _ _ (sa.ne h5 h6.ne1) h5, h6.but s e⟩
theorem TwoAt.keep {H H2 : Hp} {v : V} {x y : Nat} (s : Same H H2) (h : TwoAt H v x y) : TwoAt H2 v x y := by
  obtain ⟨a, h1, h2⟩ := h
  exact ⟨a, h1, s _ _ h2⟩
theorem TwoAt.but {H H2 : Hp} {st a : Addr} {v : V} {x y : Nat} (sa : StAt H st a) (s : SameBut st H H2) (h : TwoAt H v x y) : TwoAt H2 v x y := by
  obtain ⟨a, h1, h2⟩ := h
  exact ⟨a, h1, s _ _ (sa.ne h2 fun i => by simp) h2⟩
theorem none_but {H H1 : Hp} {st p : Addr} (s : SameBut st H H1) (n : H1 p = none) (ne : p ≠ st) : H p = none := by
  cases e : H p with
  | none => rfl
  | some o => rw [s p o ne e] at n; cases n
structure WlOk (x : Wd) : Prop where
  ok : x.Ok
  sar : (x.ar.map kA).Pairwise fun a b => tlt a b = true
  sms : (x.ms.map kM).Pairwise fun a b => tlt a b = true
theorem keys_map {α : Type} {f : α → List Key} {p : α → Prop} : ∀ {ms : List (List Key)}, (∀ k ∈ ms, ∃ a, p a ∧ k = f a) → ∃ l : List α, ms = l.map f ∧ ∀ a ∈ l, p a
  | [], _ => ⟨[], rfl, fun a h => by cases h⟩
  | k :: ms, h => by
    obtain ⟨a, h1, rfl⟩ := h k (List.mem_cons_self ..)
    obtain ⟨l, rfl, h2⟩ := keys_map fun k hk => h k (List.mem_cons_of_mem _ hk)
    exact ⟨a :: l, rfl, fun b hb => (List.mem_cons.mp hb).elim (fun e => e ▸ h1) (h2 b)⟩
section
variable {P : Program} {w : World} {K : PySem.W.Frag} {c : Ad} {H : Hp} {Q : VK} {E : XK} {vs : List V} {v x : V}
theorem TwoAt.ix {y z r : Nat} (h : TwoAt H v y z) (hr : r < 2) (q : ∀ g, g = y ∨ g = z → Q (sV g) H) : uIx K v (.int (r : Nat)) H Q := by
  obtain ⟨a, rfl, e⟩ := h
  obtain rfl | rfl : r = 0 ∨ r = 1 := by omega
  · exact ix_lst e (atI_nat (j := 0) rfl) (q _ (.inl rfl))
  · exact ix_lst e (atI_nat (j := 1) rfl) (q _ (.inr rfl))
def okA (n : Nat) (a : Arr) : Prop := a.1 < n ∧ K19.isL a.2.1 = true ∧ a.2.2 < n
def okM (n : Nat) (a : Mrk) : Prop := a.1 < n ∧ K19.isK a.2 = true
/-- distinct arrows -/
theorem dist_A {n : Nat} {a : Addr} {us : List V} {l : List Arr} (ha : H a = some (.lst us)) (hu : TkL H us (l.map kA)) (ok : ∀ x ∈ l, okA n x) (hl : l.length ≤ 1000)
    (q : ∀ (p : Addr) (ws : List V) (m : List Arr) (H2 : Hp), Same H H2 → H2 p = some (.lst ws) → TkL H2 ws (m.map kA) → (m.map kA).Pairwise (fun x y => tlt x y = true) → (∀ x ∈ m, okA n x) → m.length ≤ l.length → H p = none → Q (.ref p) H2) : spDist [.ref a] H Q E := by
  refine ⟨a, us, l.map kA, [false, true], rfl, ha, hu, fun k hk => ?_, fun k hk => ?_, by rw [List.length_map]; exact hl, fun p ws ms H2 s2 h1 h2 h3 h4 h5 h6 => ?_⟩
  · obtain ⟨x, _, rfl⟩ := List.mem_map.mp hk; rfl
  · obtain ⟨x, hx, rfl⟩ := List.mem_map.mp hk; exact kOk_A (ok x hx).2.1
  · obtain ⟨m, rfl, hm⟩ := keys_map (f := kA) (p := okA n) fun k hk => by
      obtain ⟨x, hx, e⟩ := List.mem_map.mp ((h4 k).mp hk)
      exact ⟨x, ok x hx, e.symm⟩
    rw [List.length_map, List.length_map] at h5
    exact q p ws m H2 s2 h1 h2 h3 hm h5 h6
theorem dist_M {n : Nat} {a : Addr} {us : List V} {l : List Mrk} (ha : H a = some (.lst us)) (hu : TkL H us (l.map kM)) (ok : ∀ x ∈ l, okM n x) (hl : l.length ≤ 1000)
    (q : ∀ (p : Addr) (ws : List V) (m : List Mrk) (H2 : Hp), Same H H2 → H2 p = some (.lst ws) → TkL H2 ws (m.map kM) → (m.map kM).Pairwise (fun x y => tlt x y = true) → (∀ x ∈ m, okM n x) → m.length ≤ l.length → H p = none → Q (.ref p) H2) : spDist [.ref a] H Q E := by
  refine ⟨a, us, l.map kM, [false], rfl, ha, hu, fun k hk => ?_, fun k hk => ?_, by rw [List.length_map]; exact hl, fun p ws ms H2 s2 h1 h2 h3 h4 h5 h6 => ?_⟩
  · obtain ⟨x, _, rfl⟩ := List.mem_map.mp hk; rfl
  · obtain ⟨x, hx, rfl⟩ := List.mem_map.mp hk; exact kOk_M (ok x hx).2
  · obtain ⟨m, rfl, hm⟩ := keys_map (f := kM) (p := okM n) fun k hk => by
      obtain ⟨x, hx, e⟩ := List.mem_map.mp ((h4 k).mp hk)
      exact ⟨x, ok x hx, e.symm⟩
    rw [List.length_map, List.length_map] at h5
    exact q p ws m H2 s2 h1 h2 h3 hm h5 h6
abbrev nV0 (n : Nat) : Int := (n : Int)
def spWorld : Sp := fun vs H Q _ => ∃ (st a : Addr) (L S : V) (most many l1 l2 s1 s2 : Nat), vs = [.ref st, L, S, nV most, nV many] ∧ StAt H st a ∧ TwoAt H L l1 l2 ∧ K19.isL l1 = true ∧ K19.isL l2 = true ∧ TwoAt H S s1 s2 ∧ K19.isK s1 = true ∧ K19.isK s2 = true ∧ 1 ≤ most ∧ most ≤ 3 ∧ 1 ≤ many ∧ many ≤ 100 ∧
  ∀ v x H2, SameBut st H H2 → StAt H2 st a → WlAt H2 v x → WlOk x → x.n ≤ 3 → x.ar.length ≤ many → x.ms.length ≤ 3 → Q v H2
theorem q__law_world (h : spWorld vs H Q E) : t__law_world P w K c spTake spDist (fin0 Q) (start N__law_world vs) H := by
  obtain ⟨st, a, L, S, most, many, l1, l2, g1, g2, rfl, sa, tL, i1, i2, tS, k1, k2, m1, m2, m3, m4, q⟩ := h
  show t__law_world P w K c spTake spDist (fin0 Q) [some (.ref st), some L, some S, some (nV most), some (nV many), none, none, none, none, none, none] H
  dsimp only [t__law_world, tSeq, tAsg, tIfS, tRet, tRetN, tDrop, tNext, tOp, tUn, tCons, tNil, tTup, tLst, tC, tCB, tCan, tAnd, tOr, tNot, tB, tIf, uB, uAndV, uOrV, uNotV, uNeg, uV, gName, gSub, tAug, ipI, tPart, tNoPart, tSl, tBM, tBM0, uLen, uAbs, uInt, uAdd, uSub, uMod, uFdiv, uMul, uBand, uBor, uCmp, uLt, uLe, uGt, uGe, StX.tMakeR, sFld, wipe, tYes, tGThen, tPlain, GEnds.at, tG0, tGIf, tGYield, tIsN, tNotN, tTru, tBits, tFmtB, tRevS, tRevL, start, fin0, List.getElem?_cons_zero, List.getElem?_cons_succ, List.map_cons, List.map_nil, List.length_cons, List.length_nil, List.replicate, List.cons_append, List.nil_append, Nat.reduceSub, Nat.reduceAdd, List.set_cons_zero, List.set_cons_succ]
  refine ⟨st, a, most, rfl, sa, m1, by omega, fun n H1 hn s1 sa1 => ?_⟩
  dsimp only [uAddA, tSeq, tAsg, tIfS, tRet, tRetN, tDrop, tNext, tOp, tUn, tCons, tNil, tTup, tLst, tC, tCB, tCan, tAnd, tOr, tNot, tB, tIf, uB, uAndV, uOrV, uNotV, uNeg, uV, gName, gSub, tAug, ipI, tPart, tNoPart, tSl, tBM, tBM0, uLen, uAbs, uInt, uAdd, uSub, uMod, uFdiv, uMul, uBand, uBor, uCmp, uLt, uLe, uGt, uGe, StX.tMakeR, sFld, wipe, tYes, tGThen, tPlain, GEnds.at, tG0, tGIf, tGYield, tIsN, tNotN, tTru, tBits, tFmtB, tRevS, tRevL, start, fin0, List.getElem?_cons_zero, List.getElem?_cons_succ, List.map_cons, List.map_nil, List.length_cons, List.length_nil, List.replicate, List.cons_append, List.nil_append, Nat.reduceSub, Nat.reduceAdd, List.set_cons_zero, List.set_cons_succ]
  have en : (1 : Int) + (n : Nat) = nV0 (n + 1) := by unfold nV0; omega
  rw [en]
  have hn1 : n + 1 ≤ 3 := by omega
  generalize hN : n + 1 = N at hn1
  have hN1 : 1 ≤ N := by omega
  refine ⟨by decide +kernel, fun o no => ?_⟩
  obtain ⟨o1, o2⟩ := sa1.new no
  have s2 := s1.trans (but_new (SameBut.refl st H1) no (o := HO.lst []))
  have sa2 := sa1.upd (o := HO.lst []) o1 o2
  refine for_of ?_
  dsimp only [iRng1, tSeq, tAsg, tIfS, tRet, tRetN, tDrop, tNext, tOp, tUn, tCons, tNil, tTup, tLst, tC, tCB, tCan, tAnd, tOr, tNot, tB, tIf, uB, uAndV, uOrV, uNotV, uNeg, uV, gName, gSub, tAug, ipI, tPart, tNoPart, tSl, tBM, tBM0, uLen, uAbs, uInt, uAdd, uSub, uMod, uFdiv, uMul, uBand, uBor, uCmp, uLt, uLe, uGt, uGe, StX.tMakeR, sFld, wipe, tYes, tGThen, tPlain, GEnds.at, tG0, tGIf, tGYield, tIsN, tNotN, tTru, tBits, tFmtB, tRevS, tRevL, start, fin0, List.getElem?_cons_zero, List.getElem?_cons_succ, List.map_cons, List.map_nil, List.length_cons, List.length_nil, List.replicate, List.cons_append, List.nil_append, Nat.reduceSub, Nat.reduceAdd, List.set_cons_zero, List.set_cons_succ]
  refine ⟨st, a, many, rfl, sa2, m3, by omega, fun r H2 hr s3 sa3 => ?_⟩
  dsimp only [uAddA, tSeq, tAsg, tIfS, tRet, tRetN, tDrop, tNext, tOp, tUn, tCons, tNil, tTup, tLst, tC, tCB, tCan, tAnd, tOr, tNot, tB, tIf, uB, uAndV, uOrV, uNotV, uNeg, uV, gName, gSub, tAug, ipI, tPart, tNoPart, tSl, tBM, tBM0, uLen, uAbs, uInt, uAdd, uSub, uMod, uFdiv, uMul, uBand, uBor, uCmp, uLt, uLe, uGt, uGe, StX.tMakeR, sFld, wipe, tYes, tGThen, tPlain, GEnds.at, tG0, tGIf, tGYield, tIsN, tNotN, tTru, tBits, tFmtB, tRevS, tRevL, start, fin0, List.getElem?_cons_zero, List.getElem?_cons_succ, List.map_cons, List.map_nil, List.length_cons, List.length_nil, List.replicate, List.cons_append, List.nil_append, Nat.reduceSub, Nat.reduceAdd, List.set_cons_zero, List.set_cons_succ]
  have er : (1 : Int) + (r : Nat) = nV0 (r + 1) := by unfold nV0; omega
  rw [er]
  refine ⟨_, rfl, by unfold nV0; omega, by unfold nV0; omega, ?_⟩
  have er2 : (nV0 (r + 1)).toNat = r + 1 := Int.toNat_natCast _
  rw [er2]
  have e0 := s3 _ _ o1 (upd_same (H := H1) (a := o) (o := HO.lst []))
  refine for_r (fun i σ H3 => ∃ y7 y9 y10 us l, σ = [some (.ref st), some L, some S, some (nV most), some (nV many), some (nV N), some (.ref o), y7, none, y9, y10] ∧ SameBut st H H3 ∧ StAt H3 st a ∧ H3 o = some (.lst us) ∧ TkL H3 us (l.map kA) ∧ (∀ x ∈ l, okA N x) ∧ l.length = i) ⟨none, none, none, [], [], rfl, s2.trans s3, sa3, e0, .nil, fun x h => by (cases h), rfl⟩ ?_ ?_
  · rintro i σ H3 hi ⟨y7, y9, y10, us, l, rfl, s4, sa4, eo, hu, ok, ll⟩
    dsimp only [tSeq, tAsg, tIfS, tRet, tRetN, tDrop, tNext, tOp, tUn, tCons, tNil, tTup, tLst, tC, tCB, tCan, tAnd, tOr, tNot, tB, tIf, uB, uAndV, uOrV, uNotV, uNeg, uV, gName, gSub, tAug, ipI, tPart, tNoPart, tSl, tBM, tBM0, uLen, uAbs, uInt, uAdd, uSub, uMod, uFdiv, uMul, uBand, uBor, uCmp, uLt, uLe, uGt, uGe, StX.tMakeR, sFld, wipe, tYes, tGThen, tPlain, GEnds.at, tG0, tGIf, tGYield, tIsN, tNotN, tTru, tBits, tFmtB, tRevS, tRevL, start, fin0, List.getElem?_cons_zero, List.getElem?_cons_succ, List.map_cons, List.map_nil, List.length_cons, List.length_nil, List.replicate, List.cons_append, List.nil_append, Nat.reduceSub, Nat.reduceAdd, List.set_cons_zero, List.set_cons_succ]
    refine ⟨st, a, N, rfl, sa4, hN1, by omega, fun b1 H4 hb1 s5 sa5 => ⟨st, a, 2, rfl, sa5, by decide, by decide, fun b2 H5 hb2 s6 sa6 => (tL.but sa (s4.trans (s5.trans s6))).ix hb2 fun g hg => ⟨tyl ((s5.trans s6) _ _ (sa4.ne eo hu.ne1) eo), ⟨st, a, N, rfl, sa6, hN1, by omega, fun b3 H6 hb3 s7 sa7 => ?_⟩⟩⟩⟩
    refine ⟨by decide +kernel, fun T nT => ?_⟩
    obtain ⟨t1, t2⟩ := sa7.new nT
    have s8 := s5.trans (s6.trans s7)
    obtain ⟨zs, ez⟩ := sa4.lst
    have eo2 := get_new (x := HO.tup [nV b1, sV g, nV b3]) (s8 _ _ (sa4.ne eo hu.ne1) eo) nT
    have hu2 := (hu.but s8 ez).keep (same_new (o := HO.tup [nV b1, sV g, nV b3]) nT)
    have oT : o ≠ T := fun z => by rw [z, upd_same] at eo2; cases eo2
    refine ⟨us, eo2, by rw [hu.len, List.length_map, sizeLine_eq]; omega, ?_⟩
    refine ⟨_, _, _, us ++ [.ref T], l ++ [(b1, g, b3)], rfl, ?_, ?_, upd_same, ?_, ?_, ?_⟩
    · exact but_new (s4.trans (s8.trans (but_new (SameBut.refl _ _) nT))) (none_but s1 no o1)
    · exact (sa7.upd t1 t2).upd o1 o2
    · rw [List.map_append]
      refine TkL.snoc ((hu2.but (fun b x hb hx => by rw [upd_ne hb]; exact hx) eo2)) (k := kA (b1, g, b3)) ?_
      rw [upd_ne (Ne.symm oT), upd_same]
      rfl
    · intro x hx
      rcases List.mem_append.mp hx with hx | hx
      · exact ok x hx
      · cases List.mem_singleton.mp hx
        exact ⟨hb1, by rcases hg with rfl | rfl; exact i1; exact i2, hb3⟩
    · rw [List.length_append, ll]; rfl
  · rintro σ H3 ⟨y7, y9, y10, us, ar, rfl, s4, sa4, eo, hu, ok, la⟩
    dsimp only [tSeq, tAsg, tIfS, tRet, tRetN, tDrop, tNext, tOp, tUn, tCons, tNil, tTup, tLst, tC, tCB, tCan, tAnd, tOr, tNot, tB, tIf, uB, uAndV, uOrV, uNotV, uNeg, uV, gName, gSub, tAug, ipI, tPart, tNoPart, tSl, tBM, tBM0, uLen, uAbs, uInt, uAdd, uSub, uMod, uFdiv, uMul, uBand, uBor, uCmp, uLt, uLe, uGt, uGe, StX.tMakeR, sFld, wipe, tYes, tGThen, tPlain, GEnds.at, tG0, tGIf, tGYield, tIsN, tNotN, tTru, tBits, tFmtB, tRevS, tRevL, start, fin0, List.getElem?_cons_zero, List.getElem?_cons_succ, List.map_cons, List.map_nil, List.length_cons, List.length_nil, List.replicate, List.cons_append, List.nil_append, Nat.reduceSub, Nat.reduceAdd, List.set_cons_zero, List.set_cons_succ]
    refine ⟨by decide +kernel, fun o3 no3 => ?_⟩
    obtain ⟨n1, n2⟩ := sa4.new no3
    have sa5 := sa4.upd (o := HO.lst []) n1 n2
    have s5 : SameBut st H3 (upd H3 o3 (HO.lst [])) := but_new (SameBut.refl _ _) no3
    refine for_of ?_
    dsimp only [iRng1, tSeq, tAsg, tIfS, tRet, tRetN, tDrop, tNext, tOp, tUn, tCons, tNil, tTup, tLst, tC, tCB, tCan, tAnd, tOr, tNot, tB, tIf, uB, uAndV, uOrV, uNotV, uNeg, uV, gName, gSub, tAug, ipI, tPart, tNoPart, tSl, tBM, tBM0, uLen, uAbs, uInt, uAdd, uSub, uMod, uFdiv, uMul, uBand, uBor, uCmp, uLt, uLe, uGt, uGe, StX.tMakeR, sFld, wipe, tYes, tGThen, tPlain, GEnds.at, tG0, tGIf, tGYield, tIsN, tNotN, tTru, tBits, tFmtB, tRevS, tRevL, start, fin0, List.getElem?_cons_zero, List.getElem?_cons_succ, List.map_cons, List.map_nil, List.length_cons, List.length_nil, List.replicate, List.cons_append, List.nil_append, Nat.reduceSub, Nat.reduceAdd, List.set_cons_zero, List.set_cons_succ]
    refine ⟨st, a, 4, rfl, sa5, by decide, by decide, fun r4 H4 hr4 s6 sa6 => ⟨_, rfl, by omega, by omega, ?_⟩⟩
    rw [Int.toNat_natCast]
    have s56 := s5.trans s6
    obtain ⟨zs, ez⟩ := sa4.lst
    have e0 := s6 _ _ n1 (upd_same (H := H3) (a := o3) (o := HO.lst []))
    have h0 : H o3 = none := none_but s4 no3 n1
    have oo : o ≠ o3 := ne_of_none eo no3
    refine for_r (fun i σ H5 => ∃ y7 us2 l, σ = [some (.ref st), some L, some S, some (nV most), some (nV many), some (nV N), some (.ref o), y7, some (.ref o3), y9, y10] ∧ SameBut st H3 H5 ∧ SameBut st H H5 ∧ StAt H5 st a ∧ H5 o3 = some (.lst us2) ∧ TkL H5 us2 (l.map kM) ∧ (∀ x ∈ l, okM N x) ∧ l.length = i) ⟨y7, [], [], rfl, s56, s4.trans s56, sa6, e0, .nil, fun x h => by (cases h), rfl⟩ ?_ ?_
    · rintro i σ H5 hi ⟨y7, us2, l, rfl, s7, s8, sa7, e3, hu2, ok2, ll⟩
      dsimp only [tSeq, tAsg, tIfS, tRet, tRetN, tDrop, tNext, tOp, tUn, tCons, tNil, tTup, tLst, tC, tCB, tCan, tAnd, tOr, tNot, tB, tIf, uB, uAndV, uOrV, uNotV, uNeg, uV, gName, gSub, tAug, ipI, tPart, tNoPart, tSl, tBM, tBM0, uLen, uAbs, uInt, uAdd, uSub, uMod, uFdiv, uMul, uBand, uBor, uCmp, uLt, uLe, uGt, uGe, StX.tMakeR, sFld, wipe, tYes, tGThen, tPlain, GEnds.at, tG0, tGIf, tGYield, tIsN, tNotN, tTru, tBits, tFmtB, tRevS, tRevL, start, fin0, List.getElem?_cons_zero, List.getElem?_cons_succ, List.map_cons, List.map_nil, List.length_cons, List.length_nil, List.replicate, List.cons_append, List.nil_append, Nat.reduceSub, Nat.reduceAdd, List.set_cons_zero, List.set_cons_succ]
      refine ⟨tyl e3, st, a, N, rfl, sa7, hN1, by omega, fun b1 H6 hb1 s9 sa9 => ⟨st, a, 2, rfl, sa9, by decide, by decide, fun b2 H7 hb2 s10 sa10 => (tS.but sa (s8.trans (s9.trans s10))).ix hb2 fun g hg => ?_⟩⟩
      refine ⟨by decide +kernel, fun T nT => ?_⟩
      obtain ⟨t1, t2⟩ := sa10.new nT
      have s11 := s9.trans s10
      obtain ⟨zs, ez⟩ := sa7.lst
      have e32 := get_new (x := HO.tup [nV b1, sV g]) (s11 _ _ n1 e3) nT
      have hu3 := (hu2.but s11 ez).keep (same_new (o := HO.tup [nV b1, sV g]) nT)
      have oT : o3 ≠ T := fun z => by rw [z, upd_same] at e32; cases e32
      have s12 : SameBut st H5 (upd H7 T (HO.tup [nV b1, sV g])) := s11.trans (but_new (SameBut.refl _ _) nT)
      refine ⟨us2, e32, by rw [hu2.len, List.length_map, sizeLine_eq]; omega, ?_⟩
      refine ⟨_, us2 ++ [.ref T], l ++ [(b1, g)], rfl, but_new (s7.trans s12) no3, but_new (s8.trans s12) h0, (sa10.upd t1 t2).upd n1 n2, upd_same, ?_, ?_, ?_⟩
      · rw [List.map_append]
        refine TkL.snoc ((hu3.but (fun b x hb hx => by rw [upd_ne hb]; exact hx) e32)) (k := kM (b1, g)) ?_
        rw [upd_ne (Ne.symm oT), upd_same]
        rfl
      · intro x hx
        rcases List.mem_append.mp hx with hx | hx
        · exact ok2 x hx
        · cases List.mem_singleton.mp hx
          exact ⟨hb1, by rcases hg with rfl | rfl; exact k1; exact k2⟩
      · rw [List.length_append, ll]; rfl
    · rintro σ H5 ⟨y7, us2, ms, rfl, s7, s8, sa7, e3, hu2, ok2, ll⟩
      dsimp only [tSeq, tAsg, tIfS, tRet, tRetN, tDrop, tNext, tOp, tUn, tCons, tNil, tTup, tLst, tC, tCB, tCan, tAnd, tOr, tNot, tB, tIf, uB, uAndV, uOrV, uNotV, uNeg, uV, gName, gSub, tAug, ipI, tPart, tNoPart, tSl, tBM, tBM0, uLen, uAbs, uInt, uAdd, uSub, uMod, uFdiv, uMul, uBand, uBor, uCmp, uLt, uLe, uGt, uGe, StX.tMakeR, sFld, wipe, tYes, tGThen, tPlain, GEnds.at, tG0, tGIf, tGYield, tIsN, tNotN, tTru, tBits, tFmtB, tRevS, tRevL, start, fin0, List.getElem?_cons_zero, List.getElem?_cons_succ, List.map_cons, List.map_nil, List.length_cons, List.length_nil, List.replicate, List.cons_append, List.nil_append, Nat.reduceSub, Nat.reduceAdd, List.set_cons_zero, List.set_cons_succ]
      have eo5 := s7 _ _ o1 eo
      have hu5 := hu.but s7 ez
      refine dist_A eo5 hu5 ok (by omega) fun p us3 ar2 H6 s9 ep h1 h2 h3 h4 np => ?_
      refine dist_M (s9 _ _ e3) (hu2.keep s9) ok2 (by omega) fun p2 us4 ms2 H7 s10 ep2 g1 g2 g3 g4 np2 => ?_
      refine ⟨by decide +kernel, fun R nR => ?_⟩
      have s11 := s10.trans (same_new (o := HO.lst [nV N, .ref p, .ref p2]) nR)
      refine q _ ⟨N, ar2, ms2⟩ _ (s8.trans (Same.but (s9.trans s11))) (sa7.same (s9.trans s11)) ⟨R, p, p2, us3, us4, rfl, upd_same, s11 _ _ ep, h1.keep s11, get_new ep2 nR, g1.keep (same_new nR)⟩ ⟨⟨hN1, by show N ≤ 200; omega, h3, g3, by show ar2.length ≤ 1000; omega, by show ms2.length ≤ 1000; omega⟩, h2, g2⟩ hn1 (by show ar2.length ≤ many; omega) (by show ms2.length ≤ 3; omega)
end
end L2.WB
namespace L2.WB
open PySem PySem.Spec PyProof.Rows L2.XS L2.XB
open K19 (isL isK prodL)
section
variable {P : Program} {w : World} {K : PySem.W.Frag} {c : Ad} {H : Hp} {Q : VK} {E : XK} {vs : List V} {v x : V}
theorem in_nums {a : Addr} {l : List Nat} {k : Nat} (h1 : H a = some (.lst (l.map nV))) (q : Q (.bl (decide (k ∈ l))) H) : uIn K false (nV k) (.ref a) H Q := by
  refine .inl ⟨_, .inl (sqL h1), rfl, ?_, ?_⟩
  · rw [List.all_map]
    exact List.all_eq_true.mpr fun _ _ => rfl
  · have e : inV (nV k) (l.map nV) = decide (k ∈ l) := by
      unfold inV
      rw [List.any_map, Bool.eq_iff_iff, List.any_eq_true, decide_eq_true_eq]
      constructor
      · rintro ⟨n, hn, e⟩
        have e : ((n : Int) == (k : Int)) = true := e
        rw [beq_iff_eq] at e
        have : n = k := by omega
        rwa [← this]
      · exact fun h => ⟨k, h, (beq_iff_eq (a := (k : Int)) (b := (k : Int))).mpr rfl⟩
    show Q (.bl (inV (nV k) (l.map nV))) H
    rw [e]; exact q
def spLets : Sp := fun vs H Q _ => ∃ (v3 : V) (al : Al) (i k : Nat), vs = [v3, nV i, nV k] ∧ AlAt H v3 al ∧ (∀ l, al = some l → i < l.length) ∧ Q (.bl (alB al i k)) H
theorem q__law_lets (h : spLets vs H Q E) : t__law_lets P w K c (fin0 Q) (start N__law_lets vs) H := by
  obtain ⟨v3, al, i, k, rfl, ha, lt, q⟩ := h
  show t__law_lets P w K c (fin0 Q) [some v3, some (nV i), some (nV k)] H
  dsimp only [t__law_lets, tSeq, tAsg, tIfS, tRet, tRetN, tDrop, tNext, tOp, tUn, tCons, tNil, tTup, tLst, tC, tCB, tCan, tAnd, tOr, tNot, tB, tIf, uB, uAndV, uOrV, uNotV, uNeg, uV, gName, gSub, tAug, ipI, tPart, tNoPart, tSl, tBM, tBM0, uLen, uAbs, uInt, uAdd, uSub, uMod, uFdiv, uMul, uBand, uBor, uCmp, uLt, uLe, uGt, uGe, StX.tMakeR, sFld, wipe, tYes, tGThen, tPlain, GEnds.at, tG0, tGIf, tGYield, tIsN, tNotN, tTru, tBits, tFmtB, tRevS, tRevL, start, fin0, List.getElem?_cons_zero, List.getElem?_cons_succ, List.map_cons, List.map_nil, List.length_cons, List.length_nil, List.replicate, List.cons_append, List.nil_append, Nat.reduceSub, Nat.reduceAdd, List.set_cons_zero, List.set_cons_succ]
  cases al with
  | none =>
    obtain rfl : v3 = .non := ha
    exact ⟨true, rfl, iteT (iteT q)⟩
  | some l =>
    obtain ⟨a, us, rfl, h2, h3, h4⟩ := ha
    obtain ⟨u, hu, hc⟩ := al_at (i := i) h3 h4 (lt l rfl)
    refine ⟨false, rfl, iteF (ix_lst h2 (atI_nat hu) ?_)⟩
    rcases hc with ⟨e1, rfl⟩ | ⟨s, e, e1, rfl, e3⟩
    · refine ⟨true, rfl, iteT ?_⟩
      rw [alB_free e1] at q
      exact q
    · refine ⟨false, rfl, iteF (ix_lst h2 (atI_nat hu) (in_nums e3 ?_))⟩
      rw [alB_in e1] at q
      exact q
theorem inK_A {z : Arr} {l : List Arr} : inK (kA z) (l.map kA) = decide (z ∈ l) := by
  rw [Bool.eq_iff_iff, inK_iff, decide_eq_true_eq, List.mem_map]
  exact ⟨fun ⟨a, h1, h2⟩ => kA_inj h2 ▸ h1, fun h => ⟨z, h, rfl⟩⟩
theorem inK_M {z : Mrk} {l : List Mrk} : inK (kM z) (l.map kM) = decide (z ∈ l) := by
  rw [Bool.eq_iff_iff, inK_iff, decide_eq_true_eq, List.mem_map]
  exact ⟨fun ⟨a, h1, h2⟩ => kM_inj h2 ▸ h1, fun h => ⟨z, h, rfl⟩⟩
theorem prod_len {d : Nat} : ∀ {ds : List (List Nat)}, (∀ l ∈ ds, l.length ≤ d) → (prodL ds).length ≤ d ^ ds.length
  | [], _ => Nat.le_refl _
  | l :: ds, h => by
    show (l.flatMap fun p => (prodL ds).map (p :: ·)).length ≤ d ^ (ds.length + 1)
    have ih := prod_len fun l hl => h l (List.mem_cons_of_mem _ hl)
    have h0 := h l (List.mem_cons_self ..)
    rw [List.length_flatMap]
    have e : (l.map fun p => ((prodL ds).map (p :: ·)).length) = List.replicate l.length (prodL ds).length := by
      rw [List.eq_replicate_iff]
      refine ⟨List.length_map .., fun b hb => ?_⟩
      obtain ⟨p, _, rfl⟩ := List.mem_map.mp hb
      exact List.length_map ..
    rw [e, List.sum_replicate_nat, Nat.pow_succ, Nat.mul_comm]
    exact Nat.mul_le_mul ih h0
theorem add_tup {a T : Addr} {f : List Nat} {k : Nat} (ha : H a = some (.tup (f.map nV))) (hT : H T = some (.tup [nV k])) (hl : f.length ≤ 100) (q : ∀ r H2, Same H H2 → H2 r = some (.tup ((f ++ [k]).map nV)) → Q (.ref r) H2) : uAddA K (.ref a) (.ref T) H Q := by
  refine .inr ⟨_, _, sqT ha, sqT hT, by rw [List.length_map, sizeLine_eq]; simp; omega, fun e => ?_, (fun _ e => nomatch e), fun _ _ l nl => ?_⟩
  · refine q T H (Same.refl _) ?_
    have : f = [] := List.map_eq_nil_iff.mp e
    subst this
    exact hT
  · refine q l _ (same_new nl) ?_
    rw [upd_same, List.map_append]
    rfl
def spDue : Sp := fun vs H Q _ => ∃ v1 v2 v3 x y al, vs = [v1, v2, v3] ∧ WlAt H v1 x ∧ WlAt H v2 y ∧ AlAt H v3 al ∧ AlOk al x.n y.n ∧ x.Ok ∧ y.Ok ∧ x.n ≤ 3 ∧ y.n ≤ 3 ∧
  ∀ p us H2, Same H H2 → H2 p = some (.lst us) → TkL H2 us ((due x y al).map kF) → Q (.ref p) H2
theorem q__law_due (h : spDue vs H Q E) : t__law_due P w K c spLets (fin0 Q) (start N__law_due vs) H := by
  obtain ⟨v1, v2, v3, x, y, al, rfl, w1, w2, a3, ao, ox, oy, n1, n2, q⟩ := h
  show t__law_due P w K c spLets (fin0 Q) [some v1, some v2, some v3, none, none, none, none, none, none, none, none, none] H
  obtain ⟨b1, p1, q1, us1, ws1, rfl, w11, w12, w13, w14, w15⟩ := w1
  obtain ⟨b2, p2, q2, us2, ws2, rfl, w21, w22, w23, w24, w25⟩ := w2
  dsimp only [t__law_due, tSeq, tAsg, tIfS, tRet, tRetN, tDrop, tNext, tOp, tUn, tCons, tNil, tTup, tLst, tC, tCB, tCan, tAnd, tOr, tNot, tB, tIf, uB, uAndV, uOrV, uNotV, uNeg, uV, gName, gSub, tAug, ipI, tPart, tNoPart, tSl, tBM, tBM0, uLen, uAbs, uInt, uAdd, uSub, uMod, uFdiv, uMul, uBand, uBor, uCmp, uLt, uLe, uGt, uGe, StX.tMakeR, sFld, wipe, tYes, tGThen, tPlain, GEnds.at, tG0, tGIf, tGYield, tIsN, tNotN, tTru, tBits, tFmtB, tRevS, tRevL, start, fin0, List.getElem?_cons_zero, List.getElem?_cons_succ, List.map_cons, List.map_nil, List.length_cons, List.length_nil, List.replicate, List.cons_append, List.nil_append, Nat.reduceSub, Nat.reduceAdd, List.set_cons_zero, List.set_cons_succ]
  refine ⟨by decide +kernel, fun T0 nT0 => ⟨by decide +kernel, fun o0 no0 => ?_⟩⟩
  have s0 := (same_new (o := HO.tup []) nT0).trans (same_new (o := HO.lst [.ref T0]) no0)
  refine for_of ?_
  dsimp only [iRng1, tSeq, tAsg, tIfS, tRet, tRetN, tDrop, tNext, tOp, tUn, tCons, tNil, tTup, tLst, tC, tCB, tCan, tAnd, tOr, tNot, tB, tIf, uB, uAndV, uOrV, uNotV, uNeg, uV, gName, gSub, tAug, ipI, tPart, tNoPart, tSl, tBM, tBM0, uLen, uAbs, uInt, uAdd, uSub, uMod, uFdiv, uMul, uBand, uBor, uCmp, uLt, uLe, uGt, uGe, StX.tMakeR, sFld, wipe, tYes, tGThen, tPlain, GEnds.at, tG0, tGIf, tGYield, tIsN, tNotN, tTru, tBits, tFmtB, tRevS, tRevL, start, fin0, List.getElem?_cons_zero, List.getElem?_cons_succ, List.map_cons, List.map_nil, List.length_cons, List.length_nil, List.replicate, List.cons_append, List.nil_append, Nat.reduceSub, Nat.reduceAdd, List.set_cons_zero, List.set_cons_succ]
  refine ix_lst (s0 _ _ w11) (atI_nat (j := 0) rfl) ⟨_, rfl, by omega, by omega, ?_⟩
  rw [Int.toNat_natCast]
  refine for_r (fun i σ H3 => ∃ o us y4 y6 y7 y11, σ = [some (.ref b1), some (.ref b2), some v3, some (.ref o), y4, none, y6, y7, none, none, none, y11] ∧ Same H H3 ∧ H3 o = some (.lst us) ∧ TkL H3 us ((prodL ((List.range i).map (dom0 y al))).map kF)) ⟨o0, _, none, none, none, none, rfl, s0, upd_same, ?_⟩ ?_ ?_
  · exact TkL.nil.snoc (k := []) (get_new upd_same no0)
  · rintro i σ H3 hi ⟨o, us, y4, y6, y7, y11, rfl, s3, eo, hu⟩
    dsimp only [tSeq, tAsg, tIfS, tRet, tRetN, tDrop, tNext, tOp, tUn, tCons, tNil, tTup, tLst, tC, tCB, tCan, tAnd, tOr, tNot, tB, tIf, uB, uAndV, uOrV, uNotV, uNeg, uV, gName, gSub, tAug, ipI, tPart, tNoPart, tSl, tBM, tBM0, uLen, uAbs, uInt, uAdd, uSub, uMod, uFdiv, uMul, uBand, uBor, uCmp, uLt, uLe, uGt, uGe, StX.tMakeR, sFld, wipe, tYes, tGThen, tPlain, GEnds.at, tG0, tGIf, tGYield, tIsN, tNotN, tTru, tBits, tFmtB, tRevS, tRevL, start, fin0, List.getElem?_cons_zero, List.getElem?_cons_succ, List.map_cons, List.map_nil, List.length_cons, List.length_nil, List.replicate, List.cons_append, List.nil_append, Nat.reduceSub, Nat.reduceAdd, List.set_cons_zero, List.set_cons_succ]
    refine ⟨by decide +kernel, fun o7 n7 => ?_⟩
    have s4 := same_new (o := HO.lst []) n7
    have ne7 := ne_of_none eo n7
    refine for_of ?_
    dsimp only [iList, tSeq, tAsg, tIfS, tRet, tRetN, tDrop, tNext, tOp, tUn, tCons, tNil, tTup, tLst, tC, tCB, tCan, tAnd, tOr, tNot, tB, tIf, uB, uAndV, uOrV, uNotV, uNeg, uV, gName, gSub, tAug, ipI, tPart, tNoPart, tSl, tBM, tBM0, uLen, uAbs, uInt, uAdd, uSub, uMod, uFdiv, uMul, uBand, uBor, uCmp, uLt, uLe, uGt, uGe, StX.tMakeR, sFld, wipe, tYes, tGThen, tPlain, GEnds.at, tG0, tGIf, tGYield, tIsN, tNotN, tTru, tBits, tFmtB, tRevS, tRevL, start, fin0, List.getElem?_cons_zero, List.getElem?_cons_succ, List.map_cons, List.map_nil, List.length_cons, List.length_nil, List.replicate, List.cons_append, List.nil_append, Nat.reduceSub, Nat.reduceAdd, List.set_cons_zero, List.set_cons_succ]
    refine ⟨o, rfl, ⟨_, sqL (s4 _ _ eo)⟩, ?_⟩
    have lu := hu.len
    rw [List.length_map] at lu
    have l27 : us.length ≤ 27 := by
      rw [lu]
      have h1 := prod_len (d := 3) (ds := (List.range i).map (dom0 y al)) fun l hl => by
        obtain ⟨j, _, rfl⟩ := List.mem_map.mp hl
        have := List.length_filter_le (alB al j) (List.range y.n)
        rw [List.length_range] at this
        exact Nat.le_trans this n2
      rw [List.length_map, List.length_range] at h1
      have h2 : 3 ^ i ≤ 3 ^ 3 := Nat.pow_le_pow_right (by decide) (by omega)
      omega
    have look : ∀ {j : Nat} {u : V}, us[j]? = some u → ∃ a f, u = .ref a ∧ (prodL ((List.range i).map (dom0 y al)))[j]? = some f ∧ H3 a = some (.tup (f.map nV)) ∧ f.length = i := fun {j u} e => by
      obtain ⟨a, k, e1, e2, e3⟩ := hu.at_ e
      obtain ⟨f, hf, rfl⟩ := map_at e2
      have := (mem_prodL (List.mem_of_getElem? hf)).1
      rw [List.length_map, List.length_range] at this
      exact ⟨a, f, e1, hf, by rw [← kF_map]; exact e3, this⟩
    generalize hA : prodL ((List.range i).map (dom0 y al)) = A at *
    refine for_l (xs := us) (fun j σ H5 => ∃ y6 y11 us7, σ = [some (.ref b1), some (.ref b2), some v3, some (.ref o), some (nV i), none, y6, some (.ref o7), none, none, none, y11] ∧ Same H3 H5 ∧ H5 o7 = some (.lst us7) ∧ TkL H5 us7 (((A.take j).flatMap fun f => (dom0 y al i).map fun p => f ++ [p]).map kF) ∧ us7.length ≤ 3 * j) ⟨y6, y11, [], rfl, s4, upd_same, .nil, Nat.le_refl _⟩ (fun j σ H5 ⟨_, _, _, _, s, _⟩ => s _ _ eo) ?_ ?_
    · rintro j u σ H5 hx ⟨y6, y11, us7, rfl, s5, e7, h7, l7⟩
      obtain ⟨a, f, rfl, hf, ea, lf⟩ := look hx
      have hj := (List.getElem?_eq_some_iff.mp hx).1
      dsimp only [tSeq, tAsg, tIfS, tRet, tRetN, tDrop, tNext, tOp, tUn, tCons, tNil, tTup, tLst, tC, tCB, tCan, tAnd, tOr, tNot, tB, tIf, uB, uAndV, uOrV, uNotV, uNeg, uV, gName, gSub, tAug, ipI, tPart, tNoPart, tSl, tBM, tBM0, uLen, uAbs, uInt, uAdd, uSub, uMod, uFdiv, uMul, uBand, uBor, uCmp, uLt, uLe, uGt, uGe, StX.tMakeR, sFld, wipe, tYes, tGThen, tPlain, GEnds.at, tG0, tGIf, tGYield, tIsN, tNotN, tTru, tBits, tFmtB, tRevS, tRevL, start, fin0, List.getElem?_cons_zero, List.getElem?_cons_succ, List.map_cons, List.map_nil, List.length_cons, List.length_nil, List.replicate, List.cons_append, List.nil_append, Nat.reduceSub, Nat.reduceAdd, List.set_cons_zero, List.set_cons_succ]
      refine for_of ?_
      dsimp only [iRng1, tSeq, tAsg, tIfS, tRet, tRetN, tDrop, tNext, tOp, tUn, tCons, tNil, tTup, tLst, tC, tCB, tCan, tAnd, tOr, tNot, tB, tIf, uB, uAndV, uOrV, uNotV, uNeg, uV, gName, gSub, tAug, ipI, tPart, tNoPart, tSl, tBM, tBM0, uLen, uAbs, uInt, uAdd, uSub, uMod, uFdiv, uMul, uBand, uBor, uCmp, uLt, uLe, uGt, uGe, StX.tMakeR, sFld, wipe, tYes, tGThen, tPlain, GEnds.at, tG0, tGIf, tGYield, tIsN, tNotN, tTru, tBits, tFmtB, tRevS, tRevL, start, fin0, List.getElem?_cons_zero, List.getElem?_cons_succ, List.map_cons, List.map_nil, List.length_cons, List.length_nil, List.replicate, List.cons_append, List.nil_append, Nat.reduceSub, Nat.reduceAdd, List.set_cons_zero, List.set_cons_succ]
      refine ix_lst ((s3.trans s5) _ _ w21) (atI_nat (j := 0) rfl) ⟨_, rfl, by omega, by omega, ?_⟩
      rw [Int.toNat_natCast]
      refine for_r (fun k σ H6 => ∃ y11 us8, σ = [some (.ref b1), some (.ref b2), some v3, some (.ref o), some (nV i), none, some (.ref a), some (.ref o7), none, none, none, y11] ∧ Same H3 H6 ∧ H6 o7 = some (.lst us8) ∧ TkL H6 us8 (((A.take j).flatMap (fun f => (dom0 y al i).map fun p => f ++ [p]) ++ ((List.range k).filter (alB al i)).map fun p => f ++ [p]).map kF) ∧ us8.length ≤ 3 * j + k) ⟨y11, us7, rfl, s5, e7, by rw [List.range_zero, List.filter_nil, List.map_nil, List.append_nil]; exact h7, l7⟩ ?_ ?_
      · rintro k σ H6 hk ⟨y11, us8, rfl, s6, e8, h8, l8⟩
        dsimp only [tSeq, tAsg, tIfS, tRet, tRetN, tDrop, tNext, tOp, tUn, tCons, tNil, tTup, tLst, tC, tCB, tCan, tAnd, tOr, tNot, tB, tIf, uB, uAndV, uOrV, uNotV, uNeg, uV, gName, gSub, tAug, ipI, tPart, tNoPart, tSl, tBM, tBM0, uLen, uAbs, uInt, uAdd, uSub, uMod, uFdiv, uMul, uBand, uBor, uCmp, uLt, uLe, uGt, uGe, StX.tMakeR, sFld, wipe, tYes, tGThen, tPlain, GEnds.at, tG0, tGIf, tGYield, tIsN, tNotN, tTru, tBits, tFmtB, tRevS, tRevL, start, fin0, List.getElem?_cons_zero, List.getElem?_cons_succ, List.map_cons, List.map_nil, List.length_cons, List.length_nil, List.replicate, List.cons_append, List.nil_append, Nat.reduceSub, Nat.reduceAdd, List.set_cons_zero, List.set_cons_succ]
        refine ⟨v3, al, i, k, rfl, a3.keep (s3.trans s6), fun l e => by rw [ao.len l e]; exact hi, ?_⟩
        rw [List.range_succ, List.filter_append]
        refine ifB (fun e => ?_) fun e => ?_
        · refine ⟨tyl e8, by decide +kernel, fun T nT => ?_⟩
          have sT := same_new (o := HO.tup [nV k]) nT
          refine add_tup (sT _ _ (s6 _ _ ea)) upd_same (by omega) fun r H7 s7 er => ?_
          have s8 := sT.trans s7
          have e9 := s8 _ _ e8
          have ro : r ≠ o7 := fun z => by rw [z, e9] at er; cases er
          refine ⟨us8, e9, by rw [sizeLine_eq]; omega, _, us8 ++ [.ref r], rfl, same_upd (s6.trans s8) n7, upd_same, ?_, by rw [List.length_append]; simp; omega⟩
          have ek : [k].filter (alB al i) = [k] := by rw [List.filter_cons, if_pos e]; rfl
          have e2 : ∀ (X Y : List (List Nat)) (z : List Nat), (X ++ (Y ++ [z])).map kF = (X ++ Y).map kF ++ [kF z] := fun X Y z => by rw [← List.append_assoc, List.map_append]; rfl
          rw [ek, List.map_append (f := fun p => f ++ [p]), List.map_cons, List.map_nil, e2]
          refine TkL.snoc (k := kF (f ++ [k])) ((h8.keep s8).but (fun b x hb hx => by rw [upd_ne hb]; exact hx) e9) ?_
          rw [upd_ne ro, er, kF_map]
        · have ek : [k].filter (alB al i) = [] := by rw [List.filter_cons, if_neg (by rw [e]; exact Bool.false_ne_true)]; rfl
          rw [ek, List.append_nil]
          exact ⟨_, us8, rfl, s6, e8, h8, Nat.le_succ_of_le l8⟩
      · rintro σ H6 ⟨y11, us8, rfl, s6, e8, h8, l8⟩
        refine ⟨_, y11, us8, rfl, s6, e8, ?_, by omega⟩
        rw [take_one hf, List.flatMap_append, List.flatMap_cons, List.flatMap_nil, List.append_nil]
        exact h8
    · rintro σ H5 ⟨y6, y11, us7, rfl, s5, e7, h7, l7⟩
      dsimp only [tSeq, tAsg, tIfS, tRet, tRetN, tDrop, tNext, tOp, tUn, tCons, tNil, tTup, tLst, tC, tCB, tCan, tAnd, tOr, tNot, tB, tIf, uB, uAndV, uOrV, uNotV, uNeg, uV, gName, gSub, tAug, ipI, tPart, tNoPart, tSl, tBM, tBM0, uLen, uAbs, uInt, uAdd, uSub, uMod, uFdiv, uMul, uBand, uBor, uCmp, uLt, uLe, uGt, uGe, StX.tMakeR, sFld, wipe, tYes, tGThen, tPlain, GEnds.at, tG0, tGIf, tGYield, tIsN, tNotN, tTru, tBits, tFmtB, tRevS, tRevL, start, fin0, List.getElem?_cons_zero, List.getElem?_cons_succ, List.map_cons, List.map_nil, List.length_cons, List.length_nil, List.replicate, List.cons_append, List.nil_append, Nat.reduceSub, Nat.reduceAdd, List.set_cons_zero, List.set_cons_succ]
      refine ⟨_, .inl (sqL e7), fun o9 n9 => ?_⟩
      have s9 := same_new (o := HO.lst us7) n9
      refine ⟨o9, us7, _, y6, _, y11, rfl, s3.trans (s5.trans s9), upd_same, ?_⟩
      rw [List.range_succ, List.map_append, List.map_cons, List.map_nil, K19.prod_snoc, hA]
      rw [lu, List.take_length] at h7
      exact h7.keep s9
  · rintro σ H3 ⟨o, us, y4, y6, y7, y11, rfl, s3, eo, hu⟩
    dsimp only [tSeq, tAsg, tIfS, tRet, tRetN, tDrop, tNext, tOp, tUn, tCons, tNil, tTup, tLst, tC, tCB, tCan, tAnd, tOr, tNot, tB, tIf, uB, uAndV, uOrV, uNotV, uNeg, uV, gName, gSub, tAug, ipI, tPart, tNoPart, tSl, tBM, tBM0, uLen, uAbs, uInt, uAdd, uSub, uMod, uFdiv, uMul, uBand, uBor, uCmp, uLt, uLe, uGt, uGe, StX.tMakeR, sFld, wipe, tYes, tGThen, tPlain, GEnds.at, tG0, tGIf, tGYield, tIsN, tNotN, tTru, tBits, tFmtB, tRevS, tRevL, start, fin0, List.getElem?_cons_zero, List.getElem?_cons_succ, List.map_cons, List.map_nil, List.length_cons, List.length_nil, List.replicate, List.cons_append, List.nil_append, Nat.reduceSub, Nat.reduceAdd, List.set_cons_zero, List.set_cons_succ]
    refine ⟨by decide +kernel, fun o5 n5 => ?_⟩
    have s4 := same_new (o := HO.lst []) n5
    refine for_of ?_
    dsimp only [iList, tSeq, tAsg, tIfS, tRet, tRetN, tDrop, tNext, tOp, tUn, tCons, tNil, tTup, tLst, tC, tCB, tCan, tAnd, tOr, tNot, tB, tIf, uB, uAndV, uOrV, uNotV, uNeg, uV, gName, gSub, tAug, ipI, tPart, tNoPart, tSl, tBM, tBM0, uLen, uAbs, uInt, uAdd, uSub, uMod, uFdiv, uMul, uBand, uBor, uCmp, uLt, uLe, uGt, uGe, StX.tMakeR, sFld, wipe, tYes, tGThen, tPlain, GEnds.at, tG0, tGIf, tGYield, tIsN, tNotN, tTru, tBits, tFmtB, tRevS, tRevL, start, fin0, List.getElem?_cons_zero, List.getElem?_cons_succ, List.map_cons, List.map_nil, List.length_cons, List.length_nil, List.replicate, List.cons_append, List.nil_append, Nat.reduceSub, Nat.reduceAdd, List.set_cons_zero, List.set_cons_succ]
    refine ⟨o, rfl, ⟨_, sqL (s4 _ _ eo)⟩, ?_⟩
    have lu := hu.len
    rw [List.length_map] at lu
    have l27 : us.length ≤ 27 := by
      rw [lu]
      have h1 := prod_len (d := 3) (ds := (List.range x.n).map (dom0 y al)) fun l hl => by
        obtain ⟨j, _, rfl⟩ := List.mem_map.mp hl
        have := List.length_filter_le (alB al j) (List.range y.n)
        rw [List.length_range] at this
        exact Nat.le_trans this n2
      rw [List.length_map, List.length_range] at h1
      have h2 : 3 ^ x.n ≤ 3 ^ 3 := Nat.pow_le_pow_right (by decide) (by omega)
      omega
    have look : ∀ {j : Nat} {u : V}, us[j]? = some u → ∃ a f, u = .ref a ∧ (prodL ((List.range x.n).map (dom0 y al)))[j]? = some f ∧ H3 a = some (.tup (f.map nV)) ∧ f.length = x.n ∧ ∀ i, i < x.n → f.getD i 0 < y.n := fun {j u} e => by
      obtain ⟨a, k, e1, e2, e3⟩ := hu.at_ e
      obtain ⟨f, hf, rfl⟩ := map_at e2
      obtain ⟨h1, h2⟩ := mem_prodL (List.mem_of_getElem? hf)
      rw [List.length_map, List.length_range] at h1 h2
      refine ⟨a, f, e1, hf, by rw [← kF_map]; exact e3, h1, fun i hi => ?_⟩
      have := h2 i hi
      rw [List.getD_eq_getElem?_getD, List.getElem?_map, List.getElem?_range hi] at this
      exact List.mem_range.mp (List.mem_filter.mp this).1
    unfold due at q
    generalize hA : prodL ((List.range x.n).map (dom0 y al)) = A at *
    refine for_l (xs := us) (fun j σ H5 => ∃ y6 y8 y9 y10 us7, σ = [some (.ref b1), some (.ref b2), some v3, some (.ref o), y4, some (.ref o5), y6, y7, y8, y9, y10, y11] ∧ Same H3 H5 ∧ H5 o5 = some (.lst us7) ∧ TkL H5 us7 (((A.take j).filter (good x y)).map kF)) ⟨y6, none, none, none, [], rfl, s4, upd_same, .nil⟩ (fun j σ H5 ⟨_, _, _, _, _, _, s, _⟩ => s _ _ eo) ?_ ?_
    · rintro j u σ H5 hx ⟨y6, y8, y9, y10, us7, rfl, s5, e7, h7⟩
      obtain ⟨a, f, rfl, hf, ea, lf, ltf⟩ := look hx
      have hj := (List.getElem?_eq_some_iff.mp hx).1
      have fix : ∀ {H6 : Hp} {R : VK} {i : Nat}, Same H3 H6 → i < x.n → R (nV (f.getD i 0)) H6 → uIx K (.ref a) (nV i) H6 R := fun {H6 R i} s hi r => ix_tup2 (s _ _ ea) (nV_at (n := f.getD i 0) (by rw [List.getD_eq_getElem?_getD, List.getElem?_eq_getElem (by omega)]; rfl)) r
      dsimp only [tSeq, tAsg, tIfS, tRet, tRetN, tDrop, tNext, tOp, tUn, tCons, tNil, tTup, tLst, tC, tCB, tCan, tAnd, tOr, tNot, tB, tIf, uB, uAndV, uOrV, uNotV, uNeg, uV, gName, gSub, tAug, ipI, tPart, tNoPart, tSl, tBM, tBM0, uLen, uAbs, uInt, uAdd, uSub, uMod, uFdiv, uMul, uBand, uBor, uCmp, uLt, uLe, uGt, uGe, StX.tMakeR, sFld, wipe, tYes, tGThen, tPlain, GEnds.at, tG0, tGIf, tGYield, tIsN, tNotN, tTru, tBits, tFmtB, tRevS, tRevL, start, fin0, List.getElem?_cons_zero, List.getElem?_cons_succ, List.map_cons, List.map_nil, List.length_cons, List.length_nil, List.replicate, List.cons_append, List.nil_append, Nat.reduceSub, Nat.reduceAdd, List.set_cons_zero, List.set_cons_succ]
      refine for_of ?_
      dsimp only [iList, tSeq, tAsg, tIfS, tRet, tRetN, tDrop, tNext, tOp, tUn, tCons, tNil, tTup, tLst, tC, tCB, tCan, tAnd, tOr, tNot, tB, tIf, uB, uAndV, uOrV, uNotV, uNeg, uV, gName, gSub, tAug, ipI, tPart, tNoPart, tSl, tBM, tBM0, uLen, uAbs, uInt, uAdd, uSub, uMod, uFdiv, uMul, uBand, uBor, uCmp, uLt, uLe, uGt, uGe, StX.tMakeR, sFld, wipe, tYes, tGThen, tPlain, GEnds.at, tG0, tGIf, tGYield, tIsN, tNotN, tTru, tBits, tFmtB, tRevS, tRevL, start, fin0, List.getElem?_cons_zero, List.getElem?_cons_succ, List.map_cons, List.map_nil, List.length_cons, List.length_nil, List.replicate, List.cons_append, List.nil_append, Nat.reduceSub, Nat.reduceAdd, List.set_cons_zero, List.set_cons_succ]
      refine ix_lst ((s3.trans s5) _ _ w11) (atI_nat (j := 1) rfl) ⟨p1, rfl, ⟨_, sqL ((s3.trans s5) _ _ w12)⟩, ?_⟩
      refine for_l (xs := us1) (fun i σ H6 => ∃ y9, σ = [some (.ref b1), some (.ref b2), some v3, some (.ref o), y4, some (.ref o5), some (.ref a), y7, some (.bl ((x.ar.take i).all fun a => decide ((f.getD a.1 0, a.2.1, f.getD a.2.2 0) ∈ y.ar))), y9, y10, y11] ∧ Same H5 H6) ⟨_, rfl, Same.refl _⟩ (fun i σ H6 ⟨_, _, s⟩ => (s3.trans (s5.trans s)) _ _ w12) ?_ ?_
      · rintro i u σ H6 hx6 ⟨y9, rfl, s6⟩
        obtain ⟨z, k, rfl, hk, hz⟩ := w13.at_ hx6
        obtain ⟨m, hm, rfl⟩ := map_at hk
        have s06 := s3.trans (s5.trans s6)
        have ez := s06 _ _ hz
        obtain ⟨g1, g2, g3⟩ := ox.ar m (List.mem_of_getElem? hm)
        dsimp only [tSeq, tAsg, tIfS, tRet, tRetN, tDrop, tNext, tOp, tUn, tCons, tNil, tTup, tLst, tC, tCB, tCan, tAnd, tOr, tNot, tB, tIf, uB, uAndV, uOrV, uNotV, uNeg, uV, gName, gSub, tAug, ipI, tPart, tNoPart, tSl, tBM, tBM0, uLen, uAbs, uInt, uAdd, uSub, uMod, uFdiv, uMul, uBand, uBor, uCmp, uLt, uLe, uGt, uGe, StX.tMakeR, sFld, wipe, tYes, tGThen, tPlain, GEnds.at, tG0, tGIf, tGYield, tIsN, tNotN, tTru, tBits, tFmtB, tRevS, tRevL, start, fin0, List.getElem?_cons_zero, List.getElem?_cons_succ, List.map_cons, List.map_nil, List.length_cons, List.length_nil, List.replicate, List.cons_append, List.nil_append, Nat.reduceSub, Nat.reduceAdd, List.set_cons_zero, List.set_cons_succ]
        refine ix_tup2 ez (atI_nat (j := 0) rfl) (fix (s5.trans s6) g1 (ix_tup2 ez (atI_nat (j := 1) rfl) (ix_tup2 ez (atI_nat (j := 2) rfl) (fix (s5.trans s6) g3 ?_))))
        refine ⟨by decide +kernel, fun T nT => ?_⟩
        have sT := same_new (o := HO.tup [nV (f.getD m.1 0), sV m.2.1, nV (f.getD m.2.2 0)]) nT
        have s07 := s06.trans sT
        refine ix_lst (s07 _ _ w21) (atI_nat (j := 1) rfl) (in_tups (k := kA (f.getD m.1 0, m.2.1, f.getD m.2.2 0)) (ks := y.ar.map kA) upd_same (s07 _ _ w22) (w23.keep s07) (kOk_A g2) (fun k hk => ?_) ?_)
        · obtain ⟨b, hb, rfl⟩ := List.mem_map.mp hk
          exact kOk_A (oy.ar b hb).2.1
        · rw [inK_A, take_one hm, List.all_append, List.all_cons, List.all_nil, Bool.and_true]
          refine ifB (fun e => ?_) fun e => ?_
          · have e : decide ((f.getD m.1 0, m.2.1, f.getD m.2.2 0) ∈ y.ar) = false := by simpa using e
            rw [e, Bool.and_false]
            exact ⟨_, rfl, s6.trans sT⟩
          · have e : decide ((f.getD m.1 0, m.2.1, f.getD m.2.2 0) ∈ y.ar) = true := by simpa using e
            rw [e, Bool.and_true]
            exact ⟨_, rfl, s6.trans sT⟩
      · rintro σ H6 ⟨y9, rfl, s6⟩
        rw [w13.len, List.length_map, List.take_length]
        dsimp only [tSeq, tAsg, tIfS, tRet, tRetN, tDrop, tNext, tOp, tUn, tCons, tNil, tTup, tLst, tC, tCB, tCan, tAnd, tOr, tNot, tB, tIf, uB, uAndV, uOrV, uNotV, uNeg, uV, gName, gSub, tAug, ipI, tPart, tNoPart, tSl, tBM, tBM0, uLen, uAbs, uInt, uAdd, uSub, uMod, uFdiv, uMul, uBand, uBor, uCmp, uLt, uLe, uGt, uGe, StX.tMakeR, sFld, wipe, tYes, tGThen, tPlain, GEnds.at, tG0, tGIf, tGYield, tIsN, tNotN, tTru, tBits, tFmtB, tRevS, tRevL, start, fin0, List.getElem?_cons_zero, List.getElem?_cons_succ, List.map_cons, List.map_nil, List.length_cons, List.length_nil, List.replicate, List.cons_append, List.nil_append, Nat.reduceSub, Nat.reduceAdd, List.set_cons_zero, List.set_cons_succ]
        refine for_of ?_
        dsimp only [iList, tSeq, tAsg, tIfS, tRet, tRetN, tDrop, tNext, tOp, tUn, tCons, tNil, tTup, tLst, tC, tCB, tCan, tAnd, tOr, tNot, tB, tIf, uB, uAndV, uOrV, uNotV, uNeg, uV, gName, gSub, tAug, ipI, tPart, tNoPart, tSl, tBM, tBM0, uLen, uAbs, uInt, uAdd, uSub, uMod, uFdiv, uMul, uBand, uBor, uCmp, uLt, uLe, uGt, uGe, StX.tMakeR, sFld, wipe, tYes, tGThen, tPlain, GEnds.at, tG0, tGIf, tGYield, tIsN, tNotN, tTru, tBits, tFmtB, tRevS, tRevL, start, fin0, List.getElem?_cons_zero, List.getElem?_cons_succ, List.map_cons, List.map_nil, List.length_cons, List.length_nil, List.replicate, List.cons_append, List.nil_append, Nat.reduceSub, Nat.reduceAdd, List.set_cons_zero, List.set_cons_succ]
        have s06 := s3.trans (s5.trans s6)
        refine ix_lst (s06 _ _ w11) (atI_nat (j := 2) rfl) ⟨q1, rfl, ⟨_, sqL (s06 _ _ w14)⟩, ?_⟩
        refine for_l (xs := ws1) (fun i σ H7 => ∃ y10, σ = [some (.ref b1), some (.ref b2), some v3, some (.ref o), y4, some (.ref o5), some (.ref a), y7, some (.bl (goodA x y f && (x.ms.take i).all fun m => decide ((f.getD m.1 0, m.2) ∈ y.ms))), y9, y10, y11] ∧ Same H6 H7) ⟨_, by rw [List.take_zero, List.all_nil, Bool.and_true]; rfl, Same.refl _⟩ (fun i σ H7 ⟨_, _, s⟩ => (s06.trans s) _ _ w14) ?_ ?_
        · rintro i u σ H7 hx7 ⟨y10, rfl, s7⟩
          obtain ⟨z, k, rfl, hk, hz⟩ := w15.at_ hx7
          obtain ⟨m, hm, rfl⟩ := map_at hk
          have s07 := s06.trans s7
          have ez := s07 _ _ hz
          obtain ⟨g1, g2⟩ := ox.ms m (List.mem_of_getElem? hm)
          dsimp only [tSeq, tAsg, tIfS, tRet, tRetN, tDrop, tNext, tOp, tUn, tCons, tNil, tTup, tLst, tC, tCB, tCan, tAnd, tOr, tNot, tB, tIf, uB, uAndV, uOrV, uNotV, uNeg, uV, gName, gSub, tAug, ipI, tPart, tNoPart, tSl, tBM, tBM0, uLen, uAbs, uInt, uAdd, uSub, uMod, uFdiv, uMul, uBand, uBor, uCmp, uLt, uLe, uGt, uGe, StX.tMakeR, sFld, wipe, tYes, tGThen, tPlain, GEnds.at, tG0, tGIf, tGYield, tIsN, tNotN, tTru, tBits, tFmtB, tRevS, tRevL, start, fin0, List.getElem?_cons_zero, List.getElem?_cons_succ, List.map_cons, List.map_nil, List.length_cons, List.length_nil, List.replicate, List.cons_append, List.nil_append, Nat.reduceSub, Nat.reduceAdd, List.set_cons_zero, List.set_cons_succ]
          refine ix_tup2 ez (atI_nat (j := 0) rfl) (fix (s5.trans (s6.trans s7)) g1 (ix_tup2 ez (atI_nat (j := 1) rfl) ?_))
          refine ⟨by decide +kernel, fun T nT => ?_⟩
          have sT := same_new (o := HO.tup [nV (f.getD m.1 0), sV m.2]) nT
          have s08 := s07.trans sT
          refine ix_lst (s08 _ _ w21) (atI_nat (j := 2) rfl) (in_tups (k := kM (f.getD m.1 0, m.2)) (ks := y.ms.map kM) upd_same (s08 _ _ w24) (w25.keep s08) (kOk_M g2) (fun k hk => ?_) ?_)
          · obtain ⟨b, hb, rfl⟩ := List.mem_map.mp hk
            exact kOk_M (oy.ms b hb).2
          · rw [inK_M, take_one hm, List.all_append, List.all_cons, List.all_nil, Bool.and_true]
            refine ifB (fun e => ?_) fun e => ?_
            · have e : decide ((f.getD m.1 0, m.2) ∈ y.ms) = false := by simpa using e
              rw [e, Bool.and_false, Bool.and_false]
              exact ⟨_, rfl, s7.trans sT⟩
            · have e : decide ((f.getD m.1 0, m.2) ∈ y.ms) = true := by simpa using e
              rw [e, Bool.and_true]
              exact ⟨_, rfl, s7.trans sT⟩
        · rintro σ H7 ⟨y10, rfl, s7⟩
          rw [w15.len, List.length_map, List.take_length]
          dsimp only [tSeq, tAsg, tIfS, tRet, tRetN, tDrop, tNext, tOp, tUn, tCons, tNil, tTup, tLst, tC, tCB, tCan, tAnd, tOr, tNot, tB, tIf, uB, uAndV, uOrV, uNotV, uNeg, uV, gName, gSub, tAug, ipI, tPart, tNoPart, tSl, tBM, tBM0, uLen, uAbs, uInt, uAdd, uSub, uMod, uFdiv, uMul, uBand, uBor, uCmp, uLt, uLe, uGt, uGe, StX.tMakeR, sFld, wipe, tYes, tGThen, tPlain, GEnds.at, tG0, tGIf, tGYield, tIsN, tNotN, tTru, tBits, tFmtB, tRevS, tRevL, start, fin0, List.getElem?_cons_zero, List.getElem?_cons_succ, List.map_cons, List.map_nil, List.length_cons, List.length_nil, List.replicate, List.cons_append, List.nil_append, Nat.reduceSub, Nat.reduceAdd, List.set_cons_zero, List.set_cons_succ]
          have s57 := s5.trans (s6.trans s7)
          have e77 := (s6.trans s7) _ _ e7
          rw [take_one hf, List.filter_append]
          refine ifB (fun e => ?_) fun e => ?_
          · have eg : [f].filter (good x y) = [f] := by rw [List.filter_cons, if_pos (show good x y f = true from e)]; rfl
            refine app_ok2 e77 ?_ ⟨_, _, _, _, us7 ++ [.ref a], rfl, same_upd s57 n5, upd_same, ?_⟩
            · rw [h7.len, List.length_map]
              have := List.length_filter_le (good x y) (A.take j)
              rw [List.length_take] at this
              omega
            · rw [eg, List.map_append]
              refine TkL.snoc (k := kF f) ((h7.keep (s6.trans s7)).but (fun b x hb hx => by rw [upd_ne hb]; exact hx) e77) ?_
              have ro : a ≠ o5 := ne_of_none ea n5
              rw [upd_ne ro, s57 _ _ ea, kF_map]
          · have eg : [f].filter (good x y) = [] := by rw [List.filter_cons, if_neg (by rw [show good x y f = false from e]; exact Bool.false_ne_true)]; rfl
            rw [eg, List.append_nil]
            exact ⟨_, _, _, _, us7, rfl, s57, e77, h7.keep (s6.trans s7)⟩
    · rintro σ H5 ⟨y6, y8, y9, y10, us7, rfl, s5, e7, h7⟩
      rw [lu, List.take_length] at h7
      exact q o5 us7 H5 (s3.trans s5) e7 h7
end
end L2.WB
namespace L2.WB
open PySem PySem.Spec PyProof.Rows L2.XS L2.XB
open K19 (isL isK prodL)
/-- the entries -/
def EntAt (H : Hp) (st o : Addr) (us : List V) (l : List (Option (List Nat))) : Prop := us.length = l.length ∧ ∀ (i : Nat) (u : V), us[i]? = some u → (l[i]? = some none ∧ u = .non) ∨ ∃ s e, l[i]? = some (some s) ∧ u = .ref e ∧ e ≠ st ∧ e ≠ o ∧ H e = some (.lst (s.map nV))
theorem EntAt.keep {H H2 : Hp} {st o : Addr} {us : List V} {l : List (Option (List Nat))} (h : EntAt H st o us l) (s : ∀ e x, e ≠ st → e ≠ o → H e = some x → H2 e = some x) : EntAt H2 st o us l :=
  ⟨h.1, fun i u e => (h.2 i u e).imp id fun ⟨z, f, g1, g2, g3, g4, g5⟩ => ⟨z, f, g1, g2, g3, g4, s _ _ g3 g4 g5⟩⟩
theorem EntAt.snoc {H : Hp} {st o : Addr} {us : List V} {l : List (Option (List Nat))} {u : V} {z : Option (List Nat)} (h : EntAt H st o us l) (hz : (z = none ∧ u = .non) ∨ ∃ s e, z = some s ∧ u = .ref e ∧ e ≠ st ∧ e ≠ o ∧ H e = some (.lst (s.map nV))) : EntAt H st o (us ++ [u]) (l ++ [z]) := by
  refine ⟨by rw [List.length_append, List.length_append, h.1]; rfl, fun i v e => ?_⟩
  by_cases hi : i < us.length
  · rw [List.getElem?_append_left hi] at e
    rw [List.getElem?_append_left (by rw [← h.1]; exact hi)]
    exact h.2 i v e
  · have hi2 : i = us.length := by
      have := (List.getElem?_eq_some_iff.mp e).1
      rw [List.length_append] at this
      simp at this
      omega
    subst hi2
    rw [List.getElem?_append_right (Nat.le_refl _), Nat.sub_self] at e
    cases e
    rw [List.getElem?_append_right (by rw [h.1]; exact Nat.le_refl _), h.1, Nat.sub_self]
    rcases hz with ⟨rfl, rfl⟩ | ⟨s, e, rfl, rfl, h1, h2, h3⟩
    · exact .inl ⟨rfl, rfl⟩
    · exact .inr ⟨s, e, rfl, rfl, h1, h2, h3⟩
section
variable {P : Program} {w : World} {K : PySem.W.Frag} {c : Ad} {H : Hp} {Q : VK} {E : XK} {vs : List V} {v x : V}
def spLists : Sp := fun vs H Q _ => ∃ (st a : Addr) (v1 v2 : V) (x y : Wd), vs = [.ref st, v1, v2] ∧ StAt H st a ∧ WlAt H v1 x ∧ WlAt H v2 y ∧ x.n ≤ 3 ∧ y.n ≤ 3 ∧ ∀ v l H2, SameBut st H H2 → StAt H2 st a → AlAt H2 v (some l) → AlOk (some l) x.n y.n → Q v H2
theorem q__law_lists (h : spLists vs H Q E) : t__law_lists P w K c spTake (fin0 Q) (start N__law_lists vs) H := by
  obtain ⟨st, a, v1, v2, x, y, rfl, sa, w1, w2, n1, n2, q⟩ := h
  show t__law_lists P w K c spTake (fin0 Q) [some (.ref st), some v1, some v2, none, none, none, none] H
  dsimp only [t__law_lists, tSeq, tAsg, tIfS, tRet, tRetN, tDrop, tNext, tOp, tUn, tCons, tNil, tTup, tLst, tC, tCB, tCan, tAnd, tOr, tNot, tB, tIf, uB, uAndV, uOrV, uNotV, uNeg, uV, gName, gSub, tAug, ipI, tPart, tNoPart, tSl, tBM, tBM0, uLen, uAbs, uInt, uAdd, uSub, uMod, uFdiv, uMul, uBand, uBor, uCmp, uLt, uLe, uGt, uGe, StX.tMakeR, sFld, wipe, tYes, tGThen, tPlain, GEnds.at, tG0, tGIf, tGYield, tIsN, tNotN, tTru, tBits, tFmtB, tRevS, tRevL, start, fin0, List.getElem?_cons_zero, List.getElem?_cons_succ, List.map_cons, List.map_nil, List.length_cons, List.length_nil, List.replicate, List.cons_append, List.nil_append, Nat.reduceSub, Nat.reduceAdd, List.set_cons_zero, List.set_cons_succ]
  refine ⟨by decide +kernel, fun o no => ?_⟩
  obtain ⟨o1, o2⟩ := sa.new no
  have s0 := same_new (o := HO.lst []) no
  refine for_of ?_
  dsimp only [iRng1, tSeq, tAsg, tIfS, tRet, tRetN, tDrop, tNext, tOp, tUn, tCons, tNil, tTup, tLst, tC, tCB, tCan, tAnd, tOr, tNot, tB, tIf, uB, uAndV, uOrV, uNotV, uNeg, uV, gName, gSub, tAug, ipI, tPart, tNoPart, tSl, tBM, tBM0, uLen, uAbs, uInt, uAdd, uSub, uMod, uFdiv, uMul, uBand, uBor, uCmp, uLt, uLe, uGt, uGe, StX.tMakeR, sFld, wipe, tYes, tGThen, tPlain, GEnds.at, tG0, tGIf, tGYield, tIsN, tNotN, tTru, tBits, tFmtB, tRevS, tRevL, start, fin0, List.getElem?_cons_zero, List.getElem?_cons_succ, List.map_cons, List.map_nil, List.length_cons, List.length_nil, List.replicate, List.cons_append, List.nil_append, Nat.reduceSub, Nat.reduceAdd, List.set_cons_zero, List.set_cons_succ]
  obtain ⟨b1, p1, q1, us1, ws1, rfl, w11, w12⟩ := w1.keep s0
  refine ix_lst w11 (atI_nat (j := 0) rfl) ⟨_, rfl, by omega, by omega, ?_⟩
  rw [Int.toNat_natCast]
  refine for_r (fun i σ H3 => ∃ y4 y5 us l, σ = [some (.ref st), some (.ref b1), some v2, some (.ref o), y4, y5, none] ∧ SameBut st H H3 ∧ StAt H3 st a ∧ H3 o = some (.lst us) ∧ EntAt H3 st o us l ∧ l.length = i ∧ ∀ s, some s ∈ l → ∀ p ∈ s, p < y.n) ⟨none, none, [], [], rfl, Same.but s0, sa.upd o1 o2, upd_same, ⟨rfl, fun i u e => by simp at e⟩, rfl, fun s h => by cases h⟩ ?_ ?_
  · rintro i σ H3 hi ⟨y4, y5, us, l, rfl, s3, sa3, eo, hl, ll, lt⟩
    dsimp only [tSeq, tAsg, tIfS, tRet, tRetN, tDrop, tNext, tOp, tUn, tCons, tNil, tTup, tLst, tC, tCB, tCan, tAnd, tOr, tNot, tB, tIf, uB, uAndV, uOrV, uNotV, uNeg, uV, gName, gSub, tAug, ipI, tPart, tNoPart, tSl, tBM, tBM0, uLen, uAbs, uInt, uAdd, uSub, uMod, uFdiv, uMul, uBand, uBor, uCmp, uLt, uLe, uGt, uGe, StX.tMakeR, sFld, wipe, tYes, tGThen, tPlain, GEnds.at, tG0, tGIf, tGYield, tIsN, tNotN, tTru, tBits, tFmtB, tRevS, tRevL, start, fin0, List.getElem?_cons_zero, List.getElem?_cons_succ, List.map_cons, List.map_nil, List.length_cons, List.length_nil, List.replicate, List.cons_append, List.nil_append, Nat.reduceSub, Nat.reduceAdd, List.set_cons_zero, List.set_cons_succ]
    refine lc_of ?_
    dsimp only [iRng1, tSeq, tAsg, tIfS, tRet, tRetN, tDrop, tNext, tOp, tUn, tCons, tNil, tTup, tLst, tC, tCB, tCan, tAnd, tOr, tNot, tB, tIf, uB, uAndV, uOrV, uNotV, uNeg, uV, gName, gSub, tAug, ipI, tPart, tNoPart, tSl, tBM, tBM0, uLen, uAbs, uInt, uAdd, uSub, uMod, uFdiv, uMul, uBand, uBor, uCmp, uLt, uLe, uGt, uGe, StX.tMakeR, sFld, wipe, tYes, tGThen, tPlain, GEnds.at, tG0, tGIf, tGYield, tIsN, tNotN, tTru, tBits, tFmtB, tRevS, tRevL, start, fin0, List.getElem?_cons_zero, List.getElem?_cons_succ, List.map_cons, List.map_nil, List.length_cons, List.length_nil, List.replicate, List.cons_append, List.nil_append, Nat.reduceSub, Nat.reduceAdd, List.set_cons_zero, List.set_cons_succ]
    obtain ⟨b2, p2, q2, us2, ws2, rfl, w21, w22⟩ := w2.but sa s3
    refine ix_lst w21 (atI_nat (j := 0) rfl) ⟨_, rfl, by omega, by omega, ?_⟩
    rw [Int.toNat_natCast]
    refine lc_r (fun D j H4 => D ≠ st ∧ D ≠ a ∧ D ≠ o ∧ SameBut st H3 H4 ∧ StAt H4 st a ∧ ∃ s : List Nat, H4 D = some (.lst (s.map nV)) ∧ s.length ≤ j ∧ ∀ p ∈ s, p < y.n) (fun D nD => ?_) ?_ ?_
    · obtain ⟨d1, d2⟩ := sa3.new nD
      exact ⟨d1, d2, (fun z => by rw [z, eo] at nD; cases nD), but_new (SameBut.refl _ _) nD, sa3.upd d1 d2, [], upd_same, Nat.le_refl _, fun p h => by cases h⟩
    · rintro D j H4 nD hj ⟨d1, d2, d3, s4, sa4, s, eD, ls, hs⟩
      refine ⟨rfl, st, a, 4, rfl, sa4, by decide, by decide, fun r H5 hr s5 sa5 => ?_⟩
      dsimp only [uNe, tSeq, tAsg, tIfS, tRet, tRetN, tDrop, tNext, tOp, tUn, tCons, tNil, tTup, tLst, tC, tCB, tCan, tAnd, tOr, tNot, tB, tIf, uB, uAndV, uOrV, uNotV, uNeg, uV, gName, gSub, tAug, ipI, tPart, tNoPart, tSl, tBM, tBM0, uLen, uAbs, uInt, uAdd, uSub, uMod, uFdiv, uMul, uBand, uBor, uCmp, uLt, uLe, uGt, uGe, StX.tMakeR, sFld, wipe, tYes, tGThen, tPlain, GEnds.at, tG0, tGIf, tGYield, tIsN, tNotN, tTru, tBits, tFmtB, tRevS, tRevL, start, fin0, List.getElem?_cons_zero, List.getElem?_cons_succ, List.map_cons, List.map_nil, List.length_cons, List.length_nil, List.replicate, List.cons_append, List.nil_append, Nat.reduceSub, Nat.reduceAdd, List.set_cons_zero, List.set_cons_succ]
      have e5 := s5 _ _ d1 eD
      refine ifB (fun e => ?_) fun e => ⟨d1, d2, d3, s4.trans s5, sa5, s, e5, Nat.le_succ_of_le ls, hs⟩
      refine ⟨_, e5, by rw [List.length_map, sizeLine_eq]; omega, d1, d2, d3, but_new (s4.trans s5) nD, sa5.upd d1 d2, s ++ [j], by rw [upd_same, List.map_append]; rfl, by rw [List.length_append]; simp; omega, fun p hp => ?_⟩
      rcases List.mem_append.mp hp with hp | hp
      · exact hs p hp
      · cases List.mem_singleton.mp hp; exact hj
    · rintro D H4 nD ⟨d1, d2, d3, s4, sa4, s, eD, ls, hs⟩
      refine ⟨st, a, 2, rfl, sa4, by decide, by decide, fun r H5 hr s5 sa5 => ?_⟩
      -- the list, in one order or the other
      generalize hG : (fun (σ : St) (H7 : Hp) => ∃ y4 y5 us l, σ = [some (.ref st), some (.ref b1), some (.ref b2), some (.ref o), y4, y5, none] ∧ SameBut st H H7 ∧ StAt H7 st a ∧ H7 o = some (.lst us) ∧ EntAt H7 st o us l ∧ l.length = i + 1 ∧ ∀ s, some s ∈ l → ∀ p ∈ s, p < y.n) = G
      have fin : ∀ {H6 : Hp} {u : V} {z : Option (List Nat)}, SameBut st H3 H6 → StAt H6 st a → ((z = none ∧ u = .non) ∨ ∃ s e, z = some s ∧ u = .ref e ∧ e ≠ st ∧ e ≠ o ∧ H6 e = some (.lst (s.map nV))) → (∀ s, z = some s → ∀ p ∈ s, p < y.n) →
          tyV K "list" (.ref o) H6 ∧ uApp (.ref o) [u] H6 fun _ H7 => G [some (.ref st), some (.ref b1), some (.ref b2), some (.ref o), some (nV i), some u, none] H7 := fun {H6 u z} s6 sa6 hz hp => by
        have eo6 := s6 _ _ o1 eo
        subst hG
        refine ⟨tyl eo6, us, eo6, by rw [hl.1, sizeLine_eq]; omega, _, _, us ++ [u], l ++ [z], rfl, but_new (s3.trans s6) no, sa6.upd o1 o2, upd_same, ?_, by rw [List.length_append, ll]; rfl, fun s hs => ?_⟩
        · refine EntAt.snoc (hl.keep fun e x h1 h2 h => by rw [upd_ne h2]; exact s6 _ _ h1 h) (hz.imp id fun ⟨s, e, g1, g2, g3, g4, g5⟩ => ⟨s, e, g1, g2, g3, g4, by rw [upd_ne g4]; exact g5⟩)
        · rcases List.mem_append.mp hs with hs | hs
          · exact lt s hs
          · exact hp s (List.mem_singleton.mp hs).symm
      have mid : ∀ {H6 : Hp} {e : Addr} {s : List Nat}, SameBut st H3 H6 → StAt H6 st a → e ≠ st → e ≠ o → H6 e = some (.lst (s.map nV)) → (∀ p ∈ s, p < y.n) → (tSeq (tIfS (uB (tOp (uEq K) (tCan spTake E0 (tCons (uV 0) (tCons (tC (.int 3)) tNil))) (tC (.int 2)))) (tAsg (tC .non) (gName 5)) tNext) (tDrop (tBM K "list" uApp (uV 3) (tCons (uV 5) tNil)))) { nx := G, rt := Q } [some (.ref st), some (.ref b1), some (.ref b2), some (.ref o), some (nV i), some (.ref e), none] H6 := fun {H6 e s} s6 sa6 g1 g2 g3 hs => by
        dsimp only [tSeq, tAsg, tIfS, tRet, tRetN, tDrop, tNext, tOp, tUn, tCons, tNil, tTup, tLst, tC, tCB, tCan, tAnd, tOr, tNot, tB, tIf, uB, uAndV, uOrV, uNotV, uNeg, uV, gName, gSub, tAug, ipI, tPart, tNoPart, tSl, tBM, tBM0, uLen, uAbs, uInt, uAdd, uSub, uMod, uFdiv, uMul, uBand, uBor, uCmp, uLt, uLe, uGt, uGe, StX.tMakeR, sFld, wipe, tYes, tGThen, tPlain, GEnds.at, tG0, tGIf, tGYield, tIsN, tNotN, tTru, tBits, tFmtB, tRevS, tRevL, start, fin0, List.getElem?_cons_zero, List.getElem?_cons_succ, List.map_cons, List.map_nil, List.length_cons, List.length_nil, List.replicate, List.cons_append, List.nil_append, Nat.reduceSub, Nat.reduceAdd, List.set_cons_zero, List.set_cons_succ]
        refine ⟨st, a, 3, rfl, sa6, by decide, by decide, fun r2 H7 hr2 s7 sa7 => ?_⟩
        dsimp only [uEq, tSeq, tAsg, tIfS, tRet, tRetN, tDrop, tNext, tOp, tUn, tCons, tNil, tTup, tLst, tC, tCB, tCan, tAnd, tOr, tNot, tB, tIf, uB, uAndV, uOrV, uNotV, uNeg, uV, gName, gSub, tAug, ipI, tPart, tNoPart, tSl, tBM, tBM0, uLen, uAbs, uInt, uAdd, uSub, uMod, uFdiv, uMul, uBand, uBor, uCmp, uLt, uLe, uGt, uGe, StX.tMakeR, sFld, wipe, tYes, tGThen, tPlain, GEnds.at, tG0, tGIf, tGYield, tIsN, tNotN, tTru, tBits, tFmtB, tRevS, tRevL, start, fin0, List.getElem?_cons_zero, List.getElem?_cons_succ, List.map_cons, List.map_nil, List.length_cons, List.length_nil, List.replicate, List.cons_append, List.nil_append, Nat.reduceSub, Nat.reduceAdd, List.set_cons_zero, List.set_cons_succ]
        refine ifD (fun _ => ?_) fun _ => ?_
        · exact fin (z := none) (s6.trans s7) sa7 (.inl ⟨rfl, rfl⟩) fun s e => by cases e
        · exact fin (z := some s) (s6.trans s7) sa7 (.inr ⟨s, e, rfl, rfl, g1, g2, s7 _ _ g1 g3⟩) fun s2 e2 => by cases e2; exact hs
      have e5 := s5 _ _ d1 eD
      subst hG
      dsimp only [uEq, tSeq, tAsg, tIfS, tRet, tRetN, tDrop, tNext, tOp, tUn, tCons, tNil, tTup, tLst, tC, tCB, tCan, tAnd, tOr, tNot, tB, tIf, uB, uAndV, uOrV, uNotV, uNeg, uV, gName, gSub, tAug, ipI, tPart, tNoPart, tSl, tBM, tBM0, uLen, uAbs, uInt, uAdd, uSub, uMod, uFdiv, uMul, uBand, uBor, uCmp, uLt, uLe, uGt, uGe, StX.tMakeR, sFld, wipe, tYes, tGThen, tPlain, GEnds.at, tG0, tGIf, tGYield, tIsN, tNotN, tTru, tBits, tFmtB, tRevS, tRevL, start, fin0, List.getElem?_cons_zero, List.getElem?_cons_succ, List.map_cons, List.map_nil, List.length_cons, List.length_nil, List.replicate, List.cons_append, List.nil_append, Nat.reduceSub, Nat.reduceAdd, List.set_cons_zero, List.set_cons_succ]
      refine ifD (fun _ => ?_) fun _ => ?_
      · refine ⟨D, _, rfl, sqL e5, fun p np => ?_⟩
        obtain ⟨t1, t2⟩ := sa5.new np
        have po : p ≠ o := fun z => by rw [z, s5 _ _ o1 (s4 _ _ o1 eo)] at np; cases np
        exact mid (s := s.reverse) ((s4.trans s5).trans (but_new (SameBut.refl _ _) np)) (sa5.upd t1 t2) t1 po (by rw [upd_same, List.map_reverse]) fun p hp => hs p (List.mem_reverse.mp hp)
      · exact mid (s4.trans s5) sa5 d1 d3 e5 hs
  · rintro σ H3 ⟨y4, y5, us, l, rfl, s3, sa3, eo, hl, ll, lt⟩
    refine q (.ref o) l H3 s3 sa3 ⟨o, us, rfl, eo, hl.1, fun i u e => (hl.2 i u e).imp id fun ⟨s, e, g1, g2, _, _, g5⟩ => ⟨s, e, g1, g2, g5⟩⟩ ⟨fun l2 e => by cases e; exact ll, fun l2 e s hs => by cases e; exact lt s hs⟩
end
end L2.WB
namespace L2.WB
open PySem PySem.Spec PyProof.Rows L2.XS L2.XB
open K19 (isL isK prodL)
theorem SameD.mono {H : Hp} : ∀ {n m : Nat} {u v : V}, n ≤ m → SameD H n u v → SameD H m u v
  | 0, _, _, _, _, h => h.elim
  | n + 1, 0, _, _, le, _ => absurd le (by omega)
  | n + 1, m + 1, _, _, le, h => by
    rcases h with h | h | h | ⟨a, b, us, ws, h1, h2, h3, h4, h5, h6⟩
    · exact .inl h
    · exact .inr (.inl h)
    · exact .inr (.inr (.inl h))
    · exact .inr (.inr (.inr ⟨a, b, us, ws, h1, h2, h3, h4, h5, fun i x y ex ey => (h6 i x y ex ey).mono (by omega)⟩))
theorem SameD.non {H : Hp} {n : Nat} : SameD H (n + 1) .non .non := .inr (.inr (.inl ⟨rfl, rfl⟩))
theorem SameD.key {H : Hp} {n : Nat} (k : Key) : SameD H (n + 1) (kV k) (kV k) := by
  cases k with
  | inl i => exact .inl ⟨i, rfl, rfl⟩
  | inr x => exact .inr (.inl ⟨x, rfl, rfl⟩)
theorem SameD.tup {H : Hp} {n : Nat} {a b : Addr} {k : List Key} (ha : H a = some (.tup (k.map kV))) (hb : H b = some (.tup (k.map kV))) (hl : k.length ≤ 100000) : SameD H (n + 2) (.ref a) (.ref b) := by
  refine .inr (.inr (.inr ⟨a, b, _, _, rfl, rfl, .inr ⟨ha, hb⟩, rfl, by rw [List.length_map]; exact hl, fun i x y ex ey => ?_⟩))
  rw [ex] at ey
  cases ey
  obtain ⟨z, _, rfl⟩ := map_at ex
  exact SameD.key z
theorem SameD.tk {H : Hp} {n : Nat} {a b : Addr} {us ws : List V} {ks : List (List Key)} (hab : (H a = some (.lst us) ∧ H b = some (.lst ws)) ∨ (H a = some (.tup us) ∧ H b = some (.tup ws))) (hu : TkL H us ks) (hw : TkL H ws ks) (hl : ks.length ≤ 100000) (hk : ∀ k ∈ ks, k.length ≤ 100000) : SameD H (n + 3) (.ref a) (.ref b) := by
  refine .inr (.inr (.inr ⟨a, b, us, ws, rfl, rfl, hab, by rw [hu.len, hw.len], by rw [hu.len]; exact hl, fun i x y ex ey => ?_⟩))
  obtain ⟨p, k, rfl, e1, e2⟩ := hu.at_ ex
  obtain ⟨q, k2, rfl, g1, g2⟩ := hw.at_ ey
  rw [e1] at g1
  cases g1
  exact SameD.tup e2 g2 (hk k (List.mem_of_getElem? e1))
theorem SameD.pair {H : Hp} {n : Nat} {a b : Addr} {u1 u2 w1 w2 : V} (ha : H a = some (.lst [u1, u2])) (hb : H b = some (.lst [w1, w2])) (h1 : SameD H n u1 w1) (h2 : SameD H n u2 w2) : SameD H (n + 1) (.ref a) (.ref b) := by
  refine .inr (.inr (.inr ⟨a, b, _, _, rfl, rfl, .inl ⟨ha, hb⟩, rfl, (show 2 ≤ 100000 by decide), fun i x y ex ey => ?_⟩))
  match i, ex, ey with
  | 0, ex, ey => cases ex; cases ey; exact h1
  | 1, ex, ey => cases ex; cases ey; exact h2
  | i + 2, ex, ey => simp at ex
/-- the first of these lists, or None -/
def FstV (H : Hp) (v : V) : List (List Nat) → Prop
  | [] => v = .non
  | f :: _ => ∃ p, v = .ref p ∧ H p = some (.tup ((kF f).map kV))
theorem FstV.keep {H H2 : Hp} {v : V} {L : List (List Nat)} (s : Same H H2) (h : FstV H v L) : FstV H2 v L := by
  cases L with
  | nil => exact h
  | cons f L =>
    obtain ⟨p, e, h⟩ := h
    exact ⟨p, e, s _ _ h⟩
theorem SameD.fst {H : Hp} {n : Nat} {u v : V} {L : List (List Nat)} (hu : FstV H u L) (hv : FstV H v L) (hl : ∀ f ∈ L, f.length ≤ 100000) : SameD H (n + 2) u v := by
  cases L with
  | nil =>
    obtain rfl : u = .non := hu
    obtain rfl : v = .non := hv
    exact SameD.non
  | cons f L =>
    obtain ⟨p, rfl, e1⟩ := hu
    obtain ⟨q, rfl, e2⟩ := hv
    exact SameD.tup e1 e2 (by rw [List.length_map]; exact hl f (List.mem_cons_self ..))
section
variable {P : Program} {w : World} {K : PySem.W.Frag} {c : Ad} {H : Hp} {Q : VK} {E : XK} {vs : List V} {v1 v2 v3 : V} {x y : Wd} {al : Al}
theorem lead_ok (w1 : WbAt c H v1 x) (w2 : WbAt c H v2 y) (a3 : AlAt H v3 al) (ao : AlOk al x.n y.n) (ox : x.Ok) (oy : y.Ok) (few : (due x y al).length ≤ 10000) (q : ∀ p us H2, Same H H2 → H2 p = some (.lst us) → TkL H2 us ((due x y al).map kF) → Q (.ref p) H2) :
    spLead c [v1, v2, v3] H (fun out H2 => ∀ p, H2 p = none → Q (.ref p) (upd H2 p (.lst out))) E := by
  refine ⟨v1, v2, v3, x, y, al, rfl, w1, w2, a3, ao, ox, oy, fun L h => by rw [leads_due h ox]; exact few, fun L us H2 h s hu p np => ?_⟩
  rw [leads_due h ox] at hu
  have s2 := same_new (o := HO.lst us) np
  exact q p us _ (s.trans s2) upd_same (hu.keep s2)
theorem first_ok (w1 : WbAt c H v1 x) (w2 : WbAt c H v2 y) (a3 : AlAt H v3 al) (ao : AlOk al x.n y.n) (ox : x.Ok) (oy : y.Ok) (q : ∀ v H2, Same H H2 → FstV H2 v (due x y al) → Q v H2) : spFirst c [v1, v2, v3] H Q E := by
  refine ⟨v1, v2, v3, x, y, al, rfl, w1, w2, a3, ao, ox, oy, fun L h => ?_⟩
  have e := leads_due h ox
  subst e
  generalize due x y al = L at q
  cases L with
  | nil => exact fun H2 s => q _ H2 s rfl
  | cons f L => exact fun p H2 s e => q _ H2 s ⟨p, rfl, by rw [kF_map]; exact e⟩
theorem listG_ok {t : TA} {σ : St} (ht : ∀ R : List V → Hp → Prop, R [v1, v2] H → t σ H R) (w1 : WbAt c H v1 x) (w2 : WbAt c H v2 y) (ox : x.Ok) (oy : y.Ok) (few : (due x y none).length ≤ 10000) (q : ∀ p us H2, Same H H2 → H2 p = some (.lst us) → TkL H2 us ((due x y none).map kF) → Q (.ref p) H2) :
    tListG (tCallG (spLead c) [.non] E0 t) σ H Q := ht _ (lead_ok w1 w2 (al := none) rfl ⟨(fun l e => nomatch e), (fun l e => nomatch e)⟩ ox oy few q)
theorem listK_ok {t tk : TA} {σ : St} (ht : ∀ R : List V → Hp → Prop, R [v1, v2] H → t σ H R) (hk : ∀ R : List V → Hp → Prop, R [v3] H → tk σ H R) (w1 : WbAt c H v1 x) (w2 : WbAt c H v2 y) (a3 : AlAt H v3 al) (ao : AlOk al x.n y.n) (ox : x.Ok) (oy : y.Ok) (few : (due x y al).length ≤ 10000) (q : ∀ p us H2, Same H H2 → H2 p = some (.lst us) → TkL H2 us ((due x y al).map kF) → Q (.ref p) H2) :
    tListG (tCallGK 2 1 (spLead c) (fun vs zs => vs ++ zs) E0 t tk) σ H Q := ht _ (hk _ ⟨rfl, rfl, lead_ok w1 w2 a3 ao ox oy few q⟩)
theorem firstK_ok {t tk : TA} {σ : St} (ht : ∀ R : List V → Hp → Prop, R [v1, v2] H → t σ H R) (hk : ∀ R : List V → Hp → Prop, R [v3] H → tk σ H R) (w1 : WbAt c H v1 x) (w2 : WbAt c H v2 y) (a3 : AlAt H v3 al) (ao : AlOk al x.n y.n) (ox : x.Ok) (oy : y.Ok) (q : ∀ v H2, Same H H2 → FstV H2 v (due x y al) → Q v H2) :
    tCallN 2 1 (spFirst c) (fun vs zs => vs ++ zs) E0 t tk σ H Q := ht _ (hk _ ⟨rfl, rfl, first_ok w1 w2 a3 ao ox oy q⟩)
def spFirst2 (c : Ad) : Sp := fun vs H Q E => ∃ u1 u2, vs = [u1, u2] ∧ spFirst c [u1, u2, .non] H Q E
theorem AlOk.none {n m : Nat} : AlOk none n m := ⟨(fun l e => nomatch e), (fun l e => nomatch e)⟩
/-- (due + [None])[0] -/
theorem least_ok {a : Addr} {us : List V} {L : List (List Nat)} (ha : H a = some (.lst us)) (hu : TkL H us (L.map kF)) (hl : L.length ≤ 10000) (q : ∀ v H2, Same H H2 → FstV H2 v L → Q v H2) : ∀ T, H T = none → uAddA K (.ref a) (.ref T) (upd H T (.lst [.non])) fun z H1 => uIx K z (.int 0) H1 Q := fun T nT => by
  have s1 := same_new (o := HO.lst [.non]) nT
  refine .inl ⟨us, [.non], s1 _ _ ha, upd_same, by rw [hu.len, List.length_map, sizeLine_eq]; simp; omega, fun l nl => ?_⟩
  have s2 := s1.trans (same_new (o := HO.lst (us ++ [.non])) nl)
  cases L with
  | nil =>
    obtain rfl : us = [] := List.eq_nil_of_length_eq_zero hu.len
    exact ix_lst upd_same (atI_nat (j := 0) rfl) (q _ _ s2 rfl)
  | cons f L =>
    have l1 := hu.len
    cases us with
    | nil => cases l1
    | cons u us =>
      obtain ⟨p, k, rfl, e1, e2⟩ := hu.at_ (i := 0) rfl
      cases e1
      exact ix_lst upd_same (atI_nat (j := 0) rfl) (q _ _ s2 ⟨p, rfl, s2 _ _ e2⟩)
theorem due_len {f : List Nat} (h : f ∈ due x y al) : f.length = x.n := by
  have := (mem_prodL (List.mem_filter.mp h).1).1
  rwa [List.length_map, List.length_range] at this
theorem due_few (h1 : x.n ≤ 3) (h2 : y.n ≤ 3) : (due x y al).length ≤ 27 := by
  unfold due
  refine Nat.le_trans (List.length_filter_le ..) (Nat.le_trans (prod_len (d := 3) fun l hl => ?_) ?_)
  · obtain ⟨j, _, rfl⟩ := List.mem_map.mp hl
    have := List.length_filter_le (alB al j) (List.range y.n)
    rw [List.length_range] at this
    exact Nat.le_trans this h2
  · rw [List.length_map, List.length_range]
    exact Nat.le_trans (Nat.pow_le_pow_right (by decide) h1) (by decide)
/-- [list(leadings), first_leading] is [due, least] -/
theorem same_told {a b p q : Addr} {us ws : List V} {u v : V} {L : List (List Nat)} (ha : H a = some (.lst [.ref p, u])) (hb : H b = some (.lst [.ref q, v])) (hp : H p = some (.lst us)) (hu : TkL H us (L.map kF)) (hq : H q = some (.lst ws)) (hw : TkL H ws (L.map kF)) (f1 : FstV H u L) (f2 : FstV H v L) (hl : L.length ≤ 10000) (hk : ∀ f ∈ L, f.length ≤ 200) : SameD H 5 (.ref a) (.ref b) := by
  refine (SameD.pair (n := 3) ha hb (SameD.tk (.inl ⟨hp, hq⟩) hu hw (by rw [List.length_map]; omega) fun k h => ?_) (SameD.fst f1 f2 fun f h => by have := hk f h; omega)).mono (by decide)
  obtain ⟨f, hf, rfl⟩ := List.mem_map.mp h
  rw [List.length_map]
  have := hk f hf
  omega
end
def LsL (H : Hp) (vs : List V) (ss : List (List Nat)) : Prop := ∃ L : List (Addr × List Nat), vs = L.map (fun p => V.ref p.1) ∧ L.map (·.2) = ss ∧ ∀ p ∈ L, H p.1 = some (.lst (p.2.map nV))
theorem LsL.keep {H H2 : Hp} {vs : List V} {ss : List (List Nat)} (s : ∀ e x, H e = some (.lst x) → H2 e = some (.lst x)) (h : LsL H vs ss) : LsL H2 vs ss := by
  obtain ⟨L, h1, h2, h3⟩ := h
  exact ⟨L, h1, h2, fun p hp => s _ _ (h3 p hp)⟩
theorem LsL.nil {H : Hp} : LsL H [] [] := ⟨[], rfl, rfl, fun p hp => by cases hp⟩
theorem LsL.len {H : Hp} {vs : List V} {ss : List (List Nat)} (h : LsL H vs ss) : vs.length = ss.length := by
  obtain ⟨L, rfl, rfl, h3⟩ := h
  rw [List.length_map, List.length_map]
theorem LsL.snoc {H : Hp} {vs : List V} {ss : List (List Nat)} (h : LsL H vs ss) {a : Addr} {k : List Nat} (e : H a = some (.lst (k.map nV))) : LsL H (vs ++ [.ref a]) (ss ++ [k]) := by
  obtain ⟨L, rfl, rfl, h3⟩ := h
  refine ⟨L ++ [(a, k)], by rw [List.map_append]; rfl, by rw [List.map_append]; rfl, fun p hp => ?_⟩
  rcases List.mem_append.mp hp with hp | hp
  · exact h3 p hp
  · cases List.mem_singleton.mp hp; exact e
def lD (s : List Nat) : PyData := .list (s.map nD)
theorem LsL.dp {K : PySem.W.Frag} {H : Hp} {us : List V} {ss : List (List Nat)} (h : LsL H us ss) : DpAll K H us (ss.map lD) := by
  obtain ⟨L, rfl, rfl, h3⟩ := h
  induction L with
  | nil => exact .nil
  | cons p L ih => exact .cons (.lst (sqL (h3 p (List.mem_cons_self ..))) (dp_nums p.2)) (ih fun q hq => h3 q (List.mem_cons_of_mem _ hq))
theorem lay_lls : ∀ ss : List (List Nat), PyData.canLayAll0 (ss.map lD) = true
  | [] => rfl
  | s :: ss => by
    show (PyData.canLayAll0 (s.map nD) && PyData.canLayAll0 (ss.map lD)) = true
    rw [lay_nums, lay_lls ss]; rfl
theorem depth_lls : ∀ ss : List (List Nat), PyData.depthAll (ss.map lD) ≤ 1
  | [] => Nat.zero_le _
  | s :: ss => by
    show max (PyData.depthAll (s.map nD) + 1) (PyData.depthAll (ss.map lD)) ≤ 1
    have := depth_lls ss
    rw [depth_nums]
    omega
theorem eqv_lls : ∀ ss : List (List Nat), PyData.eqvAll (ss.map lD) (ss.map lD) = true
  | [] => rfl
  | s :: ss => by
    show (PyData.eqv (lD s) (lD s) && PyData.eqvAll (ss.map lD) (ss.map lD)) = true
    have e : PyData.eqv (lD s) (lD s) = decide (s = s) := by unfold lD; rw [PyData.eqv, eqv_nums]
    rw [eqv_lls ss, e, decide_eq_true rfl]; rfl
theorem ne_lls {K : PySem.W.Frag} {H : Hp} {Q : VK} {a b : Addr} {us ws : List V} {ss : List (List Nat)} (ha : H a = some (.lst us)) (hb : H b = some (.lst ws)) (hu : LsL H us ss) (hw : LsL H ws ss) (q : Q (.bl false) H) : uNe K (.ref a) (.ref b) H Q := by
  refine ⟨.list (ss.map lD), .list (ss.map lD), .lst (sqL ha) hu.dp, .lst (sqL hb) hw.dp, lay_lls ss, lay_lls ss, ?_, ?_⟩
  · show min (PyData.depthAll (ss.map lD) + 1) (PyData.depthAll (ss.map lD) + 1) ≤ 200
    have := depth_lls ss
    omega
  · have e : PyData.eqv (.list (ss.map lD)) (.list (ss.map lD)) = true := by rw [PyData.eqv, eqv_lls]
    show Q (.bl (if true = true then !PyData.eqv (.list (ss.map lD)) (.list (ss.map lD)) else _)) H
    rw [if_pos rfl, e]
    exact q
end L2.WB
namespace L2.WB
open PySem PySem.Spec PyProof.Rows L2.XS L2.XB
open K19 (isL isK prodL)
section
variable {P : Program} {w : World} {K : PySem.W.Frag} {c : Ad} {H : Hp} {Q : VK} {E : XK} {vs : List V}
theorem ne_int {i j : Int} (q : Q (.bl (!decide (i = j))) H) : uNe K (.int i) (.int j) H Q := q
def spAsked (c : Ad) : Sp := fun vs H Q _ => ∃ (v1 v2 v3 v4 v5 : V) (x y : Wd) (l : List (Option (List Nat))), vs = [v1, v2, v3, v4, v5] ∧ WbAt c H v1 x ∧ WbAt c H v2 y ∧ WlAt H v3 x ∧ WlAt H v4 y ∧ AlAt H v5 (some l) ∧ AlOk (some l) x.n y.n ∧ x.Ok ∧ y.Ok ∧ x.n ≤ 3 ∧ y.n ≤ 3 ∧
  ∀ H2, Same H H2 → Q (.bl true) H2
theorem q__law_asked (F : WebF K c) (h : spAsked c vs H Q E) : t__law_asked P w K c spDue (spSame 5) (spFirst2 c) (spFirst c) (spLead c) (fin0 Q) (start N__law_asked vs) H := by
  obtain ⟨v1, v2, v3, v4, v5, x, y, l, rfl, w1, w2, l1, l2, a5, ao, ox, oy, n1, n2, q⟩ := h
  show t__law_asked P w K c spDue (spSame 5) (spFirst2 c) (spFirst c) (spLead c) (fin0 Q) [some v1, some v2, some v3, some v4, some v5, none, none, none, none, none, none, none, none] H
  have kl : ∀ {al : Al}, ∀ f ∈ due x y al, f.length ≤ 200 := fun f hf => by rw [due_len hf]; omega
  have fw : ∀ {al : Al}, (due x y al).length ≤ 10000 := by intro al; have := due_few (al := al) n1 n2; omega
  dsimp only [t__law_asked, tSeq, tAsg, tIfS, tRet, tRetN, tDrop, tNext, tOp, tUn, tCons, tNil, tTup, tLst, tC, tCB, tCan, tAnd, tOr, tNot, tB, tIf, uB, uAndV, uOrV, uNotV, uNeg, uV, gName, gSub, tAug, ipI, tPart, tNoPart, tSl, tBM, tBM0, uLen, uAbs, uInt, uAdd, uSub, uMod, uFdiv, uMul, uBand, uBor, uCmp, uLt, uLe, uGt, uGe, StX.tMakeR, sFld, wipe, tYes, tGThen, tPlain, GEnds.at, tG0, tGIf, tGYield, tIsN, tNotN, tTru, tBits, tFmtB, tRevS, tRevL, start, fin0, List.getElem?_cons_zero, List.getElem?_cons_succ, List.map_cons, List.map_nil, List.length_cons, List.length_nil, List.replicate, List.cons_append, List.nil_append, Nat.reduceSub, Nat.reduceAdd, List.set_cons_zero, List.set_cons_succ]
  refine ⟨v3, v4, .non, x, y, none, rfl, l1, l2, rfl, .none, ox, oy, n1, n2, fun p us H1 s1 ep hu => ?_⟩
  refine ⟨by decide +kernel, ?_⟩
  refine least_ok ep hu fw fun z H2 s2 fz => ?_
  have s12 := s1.trans s2
  have ep2 := s2 _ _ ep
  have hu2 := hu.keep s2
  refine listG_ok (fun R h => h) (w1.keep s12) (w2.keep s12) ox oy fw fun p2 us2 H3 s3 e2 h2 => ?_
  have s13 := s12.trans s3
  refine ⟨_, _, rfl, first_ok (w1.keep s13) (w2.keep s13) (al := none) rfl .none ox oy fun u H4 s4 f4 => ?_⟩
  refine ⟨by decide +kernel, fun T nT => ⟨by decide +kernel, fun T2 nT2 => ?_⟩⟩
  have sT := same_new (o := HO.lst [.ref p2, u]) nT
  have sT2 := same_new (o := HO.lst [.ref p, z]) nT2
  have sTT := sT.trans sT2
  have s35 := s3.trans (s4.trans sTT)
  refine ⟨_, _, rfl, same_told (get_new upd_same nT2) upd_same ((s4.trans sTT) _ _ e2) (h2.keep (s4.trans sTT)) (s35 _ _ ep2) (hu2.keep s35) (f4.keep sTT) (fz.keep s35) fw kl, ifF rfl ?_⟩
  have s15 := s13.trans (s4.trans sTT)
  -- allowed=None
  refine listK_ok (fun R h => h) (fun R h => h) (w1.keep s15) (w2.keep s15) (al := none) rfl .none ox oy fw fun p3 us3 H5 s5 e3 h3 => ?_
  have s16 := s15.trans s5
  refine firstK_ok (fun R h => h) (fun R h => h) (w1.keep s16) (w2.keep s16) (al := none) rfl .none ox oy fun u3 H6 s6 f6 => ?_
  refine ⟨by decide +kernel, fun T3 nT3 => ⟨by decide +kernel, fun T4 nT4 => ?_⟩⟩
  have sT3 := same_new (o := HO.lst [.ref p3, u3]) nT3
  have sT4 := same_new (o := HO.lst [.ref p, z]) nT4
  have sTT3 := s6.trans (sT3.trans sT4)
  have s18 := s16.trans sTT3
  have s28 := s35.trans (s5.trans sTT3)
  refine ⟨_, _, rfl, same_told (get_new upd_same nT4) upd_same (sTT3 _ _ e3) (h3.keep sTT3) (s28 _ _ ep2) (hu2.keep s28) (f6.keep (sT3.trans sT4)) (fz.keep s28) fw kl, ifF rfl ?_⟩
  -- some
  refine ⟨v3, v4, v5, x, y, some l, rfl, l1.keep s18, l2.keep s18, a5.keep s18, ao, ox, oy, n1, n2, fun p5 us5 H7 s7 e5 h5 => ?_⟩
  have s19 := s18.trans s7
  -- handed
  refine lc_of ?_
  dsimp only [iRng1, tSeq, tAsg, tIfS, tRet, tRetN, tDrop, tNext, tOp, tUn, tCons, tNil, tTup, tLst, tC, tCB, tCan, tAnd, tOr, tNot, tB, tIf, uB, uAndV, uOrV, uNotV, uNeg, uV, gName, gSub, tAug, ipI, tPart, tNoPart, tSl, tBM, tBM0, uLen, uAbs, uInt, uAdd, uSub, uMod, uFdiv, uMul, uBand, uBor, uCmp, uLt, uLe, uGt, uGe, StX.tMakeR, sFld, wipe, tYes, tGThen, tPlain, GEnds.at, tG0, tGIf, tGYield, tIsN, tNotN, tTru, tBits, tFmtB, tRevS, tRevL, start, fin0, List.getElem?_cons_zero, List.getElem?_cons_succ, List.map_cons, List.map_nil, List.length_cons, List.length_nil, List.replicate, List.cons_append, List.nil_append, Nat.reduceSub, Nat.reduceAdd, List.set_cons_zero, List.set_cons_succ]
  obtain ⟨b3, q3, q3m, vs3, ws3, rfl, l11, l12, l13, l14, l15⟩ := l1
  obtain ⟨a, es, rfl, l51, l52, l53⟩ := a5
  have ll : l.length = x.n := ao.len l rfl
  refine ix_lst (s19 _ _ l11) (atI_nat (j := 0) rfl) ⟨_, rfl, by omega, by omega, ?_⟩
  rw [Int.toNat_natCast]
  refine lc_r (fun D i H8 => Same H7 H8 ∧ H8 D = some (.lst (es.take i))) (fun D nD => ⟨same_new nD, by rw [upd_same, List.take_zero]⟩) ?_ ?_
  · rintro D i H8 nD hi ⟨s8, e8⟩
    obtain ⟨u, hu, _⟩ := al_at (i := i) l52 l53 (by omega)
    refine ⟨rfl, ?_⟩
    dsimp only [tYes, tSeq, tAsg, tIfS, tRet, tRetN, tDrop, tNext, tOp, tUn, tCons, tNil, tTup, tLst, tC, tCB, tCan, tAnd, tOr, tNot, tB, tIf, uB, uAndV, uOrV, uNotV, uNeg, uV, gName, gSub, tAug, ipI, tPart, tNoPart, tSl, tBM, tBM0, uLen, uAbs, uInt, uAdd, uSub, uMod, uFdiv, uMul, uBand, uBor, uCmp, uLt, uLe, uGt, uGe, StX.tMakeR, sFld, wipe, tYes, tGThen, tPlain, GEnds.at, tG0, tGIf, tGYield, tIsN, tNotN, tTru, tBits, tFmtB, tRevS, tRevL, start, fin0, List.getElem?_cons_zero, List.getElem?_cons_succ, List.map_cons, List.map_nil, List.length_cons, List.length_nil, List.replicate, List.cons_append, List.nil_append, Nat.reduceSub, Nat.reduceAdd, List.set_cons_zero, List.set_cons_succ]
    refine iteT ?_
    refine ix_lst (s8 _ _ (s19 _ _ l51)) (atI_nat hu) ⟨_, e8, by rw [List.length_take, sizeLine_eq]; omega, same_upd s8 nD, ?_⟩
    rw [upd_same, take_one hu]
  · rintro D9 H9 nD9 ⟨s9, e9⟩
    dsimp only [tSeq, tAsg, tIfS, tRet, tRetN, tDrop, tNext, tOp, tUn, tCons, tNil, tTup, tLst, tC, tCB, tCan, tAnd, tOr, tNot, tB, tIf, uB, uAndV, uOrV, uNotV, uNeg, uV, gName, gSub, tAug, ipI, tPart, tNoPart, tSl, tBM, tBM0, uLen, uAbs, uInt, uAdd, uSub, uMod, uFdiv, uMul, uBand, uBor, uCmp, uLt, uLe, uGt, uGe, StX.tMakeR, sFld, wipe, tYes, tGThen, tPlain, GEnds.at, tG0, tGIf, tGYield, tIsN, tNotN, tTru, tBits, tFmtB, tRevS, tRevL, start, fin0, List.getElem?_cons_zero, List.getElem?_cons_succ, List.map_cons, List.map_nil, List.length_cons, List.length_nil, List.replicate, List.cons_append, List.nil_append, Nat.reduceSub, Nat.reduceAdd, List.set_cons_zero, List.set_cons_succ]
    rw [← ll, ← l52, List.take_length] at e9
    have s09 := s19.trans s9
    have ent : ∀ {i : Nat} {u : V}, es[i]? = some u → (l[i]? = some none ∧ u = .non) ∨ ∃ s e, l[i]? = some (some s) ∧ u = .ref e ∧ H e = some (.lst (s.map nV)) := fun {i u} e => l53 i u e
    refine lc_of ?_
    dsimp only [iList, tSeq, tAsg, tIfS, tRet, tRetN, tDrop, tNext, tOp, tUn, tCons, tNil, tTup, tLst, tC, tCB, tCan, tAnd, tOr, tNot, tB, tIf, uB, uAndV, uOrV, uNotV, uNeg, uV, gName, gSub, tAug, ipI, tPart, tNoPart, tSl, tBM, tBM0, uLen, uAbs, uInt, uAdd, uSub, uMod, uFdiv, uMul, uBand, uBor, uCmp, uLt, uLe, uGt, uGe, StX.tMakeR, sFld, wipe, tYes, tGThen, tPlain, GEnds.at, tG0, tGIf, tGYield, tIsN, tNotN, tTru, tBits, tFmtB, tRevS, tRevL, start, fin0, List.getElem?_cons_zero, List.getElem?_cons_succ, List.map_cons, List.map_nil, List.length_cons, List.length_nil, List.replicate, List.cons_append, List.nil_append, Nat.reduceSub, Nat.reduceAdd, List.set_cons_zero, List.set_cons_succ]
    refine ⟨a, rfl, ⟨_, sqL (s09 _ _ l51)⟩, ?_⟩
    refine lc_l (xs := es) (fun D i H8 => Same H9 H8 ∧ ∃ ks, H8 D = some (.lst ks) ∧ ks.length ≤ i ∧ LsL H8 ks ((l.take i).filterMap id)) (fun D nD => ⟨same_new nD, [], upd_same, Nat.le_refl _, .nil⟩) (fun D i H8 h => (s09.trans h.1) _ _ l51) ?_ ?_
    · rintro D i u H8 nD hx ⟨s8, ks, e8, lk, hk⟩
      have hi := (List.getElem?_eq_some_iff.mp hx).1
      refine ⟨rfl, ?_⟩
      dsimp only [tSeq, tAsg, tIfS, tRet, tRetN, tDrop, tNext, tOp, tUn, tCons, tNil, tTup, tLst, tC, tCB, tCan, tAnd, tOr, tNot, tB, tIf, uB, uAndV, uOrV, uNotV, uNeg, uV, gName, gSub, tAug, ipI, tPart, tNoPart, tSl, tBM, tBM0, uLen, uAbs, uInt, uAdd, uSub, uMod, uFdiv, uMul, uBand, uBor, uCmp, uLt, uLe, uGt, uGe, StX.tMakeR, sFld, wipe, tYes, tGThen, tPlain, GEnds.at, tG0, tGIf, tGYield, tIsN, tNotN, tTru, tBits, tFmtB, tRevS, tRevL, start, fin0, List.getElem?_cons_zero, List.getElem?_cons_succ, List.map_cons, List.map_nil, List.length_cons, List.length_nil, List.replicate, List.cons_append, List.nil_append, Nat.reduceSub, Nat.reduceAdd, List.set_cons_zero, List.set_cons_succ]
      rcases ent hx with ⟨g1, rfl⟩ | ⟨s, e, g1, rfl, g3⟩
      · refine ⟨false, rfl, iteF ⟨s8, ks, e8, by omega, ?_⟩⟩
        rw [take_one g1, List.filterMap_append]
        show LsL H8 ks (_ ++ [])
        rw [List.append_nil]
        exact hk
      · refine ⟨true, rfl, iteT ⟨_, .inl (sqL ((s09.trans s8) _ _ g3)), fun q nq => ?_⟩⟩
        have sq := same_new (o := HO.lst (s.map nV)) nq
        have e81 := sq _ _ e8
        have ne : q ≠ D := fun z => by rw [z, e8] at nq; cases nq
        refine ⟨ks, e81, by rw [sizeLine_eq]; omega, same_upd (s8.trans sq) nD, _, upd_same, by rw [List.length_append]; simp; omega, ?_⟩
        rw [take_one g1, List.filterMap_append]
        refine LsL.snoc ?_ (by rw [upd_ne ne]; exact upd_same)
        obtain ⟨L, r1, r2, r3⟩ := hk
        refine ⟨L, r1, r2, fun p hp => ?_⟩
        have h0 := r3 p hp
        have : p.1 ≠ D := fun z => by
          rw [z, e8, r1] at h0
          injection h0 with h0
          injection h0 with h0
          revert h0
          generalize p.2 = M
          cases L with
          | nil => cases hp
          | cons a L =>
            cases M with
            | nil => intro h0; cases h0
            | cons b M => intro h0; injection h0 with h1; cases h1
        rw [upd_ne this]
        exact sq _ _ h0
    · rintro D10 H10 nD10 ⟨s10, ks, e10, lk, hk⟩
      rw [l52, List.take_length] at hk
      have s010 := s09.trans s10
      have e910 := s10 _ _ e9
      have hal : ∀ {H11 : Hp}, Same H10 H11 → AlAt H11 (.ref D9) (some l) := fun {H11} s => ⟨D9, es, rfl, s _ _ e910, l52, fun i u e => (ent e).imp id fun ⟨z, f, g1, g2, g3⟩ => ⟨z, f, g1, g2, s _ _ (s010 _ _ g3)⟩⟩
      refine listK_ok (fun R h => h) (fun R h => h) (w1.keep s010) (w2.keep s010) (hal (Same.refl _)) ao ox oy fw fun p11 us11 H11 s11 e11 h11 => ?_
      have s011 := s010.trans s11
      refine firstK_ok (fun R h => h) (fun R h => h) (w1.keep s011) (w2.keep s011) (hal s11) ao ox oy fun u12 H12 s12' f12 => ?_
      refine ⟨by decide +kernel, fun T5 nT5 => ?_⟩
      have sT5 := same_new (o := HO.lst [.ref p11, u12]) nT5
      have s713 := (s9.trans s10).trans (s11.trans (s12'.trans sT5))
      have e513 := s713 _ _ e5
      have h513 := h5.keep s713
      refine ⟨by decide +kernel, least_ok e513 h513 fw fun z2 H14 s14 fz2 => ⟨by decide +kernel, fun T6 nT6 => ?_⟩⟩
      have sT6 := same_new (o := HO.lst [.ref p5, z2]) nT6
      have s1315 := s14.trans sT6
      refine ⟨_, _, rfl, same_told (s1315 _ _ upd_same) upd_same ((s12'.trans (sT5.trans s1315)) _ _ e11) (h11.keep (s12'.trans (sT5.trans s1315))) (s1315 _ _ e513) (h513.keep s1315) (f12.keep (sT5.trans s1315)) (fz2.keep sT6) fw kl, ifF rfl ?_⟩
      have s10x := s11.trans (s12'.trans (sT5.trans s1315))
      have s0x := s010.trans s10x
      have e9x := s10x _ _ e910
      have e10x := s10x _ _ e10
      have hkx := hk.keep fun e x h => s10x _ _ h
      generalize hHx : upd H14 T6 (HO.lst [.ref p5, z2]) = Hx at *
      refine ⟨_, .inl (sqL e9x), ix_lst (s0x _ _ l11) (atI_nat (j := 0) rfl) ?_⟩
      refine ne_int ?_
      refine ifF (by rw [l52, ll]; simp) ?_
      refine lc_of ?_
      dsimp only [iList, tSeq, tAsg, tIfS, tRet, tRetN, tDrop, tNext, tOp, tUn, tCons, tNil, tTup, tLst, tC, tCB, tCan, tAnd, tOr, tNot, tB, tIf, uB, uAndV, uOrV, uNotV, uNeg, uV, gName, gSub, tAug, ipI, tPart, tNoPart, tSl, tBM, tBM0, uLen, uAbs, uInt, uAdd, uSub, uMod, uFdiv, uMul, uBand, uBor, uCmp, uLt, uLe, uGt, uGe, StX.tMakeR, sFld, wipe, tYes, tGThen, tPlain, GEnds.at, tG0, tGIf, tGYield, tIsN, tNotN, tTru, tBits, tFmtB, tRevS, tRevL, start, fin0, List.getElem?_cons_zero, List.getElem?_cons_succ, List.map_cons, List.map_nil, List.length_cons, List.length_nil, List.replicate, List.cons_append, List.nil_append, Nat.reduceSub, Nat.reduceAdd, List.set_cons_zero, List.set_cons_succ]
      refine ⟨D9, rfl, ⟨_, sqL e9x⟩, ?_⟩
      refine lc_l (xs := es) (fun D i H8 => Same Hx H8 ∧ ∃ ks2, H8 D = some (.lst ks2) ∧ ks2.length ≤ i ∧ LsL Hx ks2 ((l.take i).filterMap id)) (fun D nD => ⟨same_new nD, [], upd_same, Nat.le_refl _, .nil⟩) (fun D i H8 h => h.1 _ _ e9x) ?_ ?_
      · rintro D i u H8 nD hx ⟨s8, ks2, e8, lk2, hk2⟩
        have hi := (List.getElem?_eq_some_iff.mp hx).1
        refine ⟨rfl, ?_⟩
        dsimp only [tSeq, tAsg, tIfS, tRet, tRetN, tDrop, tNext, tOp, tUn, tCons, tNil, tTup, tLst, tC, tCB, tCan, tAnd, tOr, tNot, tB, tIf, uB, uAndV, uOrV, uNotV, uNeg, uV, gName, gSub, tAug, ipI, tPart, tNoPart, tSl, tBM, tBM0, uLen, uAbs, uInt, uAdd, uSub, uMod, uFdiv, uMul, uBand, uBor, uCmp, uLt, uLe, uGt, uGe, StX.tMakeR, sFld, wipe, tYes, tGThen, tPlain, GEnds.at, tG0, tGIf, tGYield, tIsN, tNotN, tTru, tBits, tFmtB, tRevS, tRevL, start, fin0, List.getElem?_cons_zero, List.getElem?_cons_succ, List.map_cons, List.map_nil, List.length_cons, List.length_nil, List.replicate, List.cons_append, List.nil_append, Nat.reduceSub, Nat.reduceAdd, List.set_cons_zero, List.set_cons_succ]
        rcases ent hx with ⟨g1, rfl⟩ | ⟨s, e, g1, rfl, g3⟩
        · refine ⟨false, rfl, iteF ⟨s8, ks2, e8, by omega, ?_⟩⟩
          rw [take_one g1, List.filterMap_append]
          show LsL Hx ks2 (_ ++ [])
          rw [List.append_nil]
          exact hk2
        · refine ⟨true, rfl, iteT ⟨ks2, e8, by rw [sizeLine_eq]; omega, same_upd s8 nD, _, upd_same, by rw [List.length_append]; simp; omega, ?_⟩⟩
          rw [take_one g1, List.filterMap_append]
          exact hk2.snoc (s0x _ _ g3)
      · rintro D H8 nD ⟨s8, ks2, e8, lk2, hk2⟩
        rw [l52, List.take_length] at hk2
        refine ne_lls e8 (s8 _ _ e10x) (hk2.keep fun e x h => s8 _ _ h) (hkx.keep fun e x h => s8 _ _ h) ?_
        refine ifF rfl ?_
        have s08 := s0x.trans s8
        have ep8 := s8 _ _ (s10x _ _ ((s7.trans (s9.trans s10)) _ _ (s28 _ _ ep2)))
        have s2x := s28.trans (s7.trans ((s9.trans s10).trans (s10x.trans s8)))
        have hux := hu2.keep s2x
        have fzx := fz.keep s2x
        refine listG_ok (fun R h => h) (w1.keep s08) (w2.keep s08) ox oy fw fun p21 us21 H21 s21 e21 h21 => ?_
        have s021 := s08.trans s21
        refine ⟨_, _, rfl, first_ok (w1.keep s021) (w2.keep s021) (al := none) rfl .none ox oy fun u22 H22 s22 f22 => ?_⟩
        refine ⟨by decide +kernel, fun T7 nT7 => ⟨by decide +kernel, fun T8 nT8 => ?_⟩⟩
        have sT7 := same_new (o := HO.lst [.ref p21, u22]) nT7
        have sT8 := same_new (o := HO.lst [.ref p, z]) nT8
        have sTT7 := s22.trans (sT7.trans sT8)
        have s8x := s21.trans sTT7
        refine ⟨_, _, rfl, same_told (get_new upd_same nT8) upd_same (sTT7 _ _ e21) (h21.keep sTT7) (s8x _ _ ep8) (hux.keep s8x) (f22.keep (sT7.trans sT8)) (fzx.keep s8x) fw kl, ifF rfl ?_⟩
        have s0y := s021.trans sTT7
        generalize hHy : upd (upd H22 T7 (HO.lst [.ref p21, u22])) T8 (HO.lst [.ref p, z]) = Hy at *
        obtain ⟨b4, q4, q4m, vs4, ws4, rfl, l21, l22, l23, l24, l25⟩ := l2
        refine F.arrows (w1.keep s0y) (fun _ h => h) fun pa ua ea ha => F.arrows (w2.keep s0y) (fun _ h => h) fun pb ub eb hb => ?_
        refine ⟨by decide +kernel, fun T9 nT9 => ?_⟩
        have sT9 := same_new (o := HO.lst [.ref pa, .ref pb]) nT9
        have s9y := s0y.trans sT9
        refine ix_lst (s9y _ _ l11) (atI_nat (j := 1) rfl) ⟨_, sqL (s9y _ _ l12), fun Ta nTa => ?_⟩
        have sTa := same_new (o := HO.tup vs3) nTa
        have s10y := s9y.trans sTa
        refine ix_lst (s10y _ _ l21) (atI_nat (j := 1) rfl) ⟨_, sqL (s10y _ _ l22), fun Tb nTb => ?_⟩
        have sTb := same_new (o := HO.tup vs4) nTb
        refine ⟨by decide +kernel, fun Tc nTc => ?_⟩
        have sTc := same_new (o := HO.lst [.ref Ta, .ref Tb]) nTc
        have s11y := s10y.trans (sTb.trans sTc)
        have sEnd := sT9.trans (sTa.trans (sTb.trans sTc))
        refine ⟨_, _, rfl, (SameD.pair (n := 3) ((sTa.trans (sTb.trans sTc)) _ _ upd_same) upd_same (SameD.tk (.inr ⟨sEnd _ _ ea, (sTb.trans sTc) _ _ upd_same⟩) (ha.keep sEnd) (l13.keep s11y) (by rw [List.length_map]; have := ox.lar; omega) fun k hk => ?_) (SameD.tk (.inr ⟨sEnd _ _ eb, sTc _ _ upd_same⟩) (hb.keep sEnd) (l23.keep s11y) (by rw [List.length_map]; have := oy.lar; omega) fun k hk => ?_)).mono (by decide), q _ s11y⟩
        · obtain ⟨b, _, rfl⟩ := List.mem_map.mp hk
          exact (show 3 ≤ 100000 by decide)
        · obtain ⟨b, _, rfl⟩ := List.mem_map.mp hk
          exact (show 3 ≤ 100000 by decide)
end
end L2.WB
namespace L2.WB
open PySem PySem.Spec PyProof.Rows L2.XS L2.XB
open K19 (isL isK prodL)
abbrev Up (d : List Nat) : Prop := d.Pairwise fun x y => nlt x y = true
theorem up_range (n : Nat) : Up (List.range n) := List.pairwise_lt_range.imp fun h => decide_eq_true h
theorem prod_up : ∀ {ds : List (List Nat)}, (∀ d ∈ ds, Up d) → (prodL ds).Pairwise fun x y => lex nlt x y = true
  | [], _ => List.pairwise_singleton _ _
  | d :: ds, h => by
    have ih := prod_up fun d hd => h d (List.mem_cons_of_mem _ hd)
    have h0 := h d (List.mem_cons_self ..)
    show (d.flatMap fun p => (prodL ds).map (p :: ·)).Pairwise _
    rw [List.pairwise_flatMap]
    refine ⟨fun p _ => ?_, h0.imp fun {p q} hpq x hx y hy => ?_⟩
    · rw [List.pairwise_map]
      refine ih.imp fun {x y} hxy => ?_
      unfold lex
      rw [if_pos rfl]
      exact hxy
    · obtain ⟨f, _, rfl⟩ := List.mem_map.mp hx
      obtain ⟨g, _, rfl⟩ := List.mem_map.mp hy
      have ne : p ≠ q := fun e => absurd (of_decide_eq_true hpq) (by rw [e]; exact Nat.lt_irrefl _)
      unfold lex
      rw [if_neg ne]
      exact hpq
theorem mem_prod2 : ∀ {ds : List (List Nat)} {f : List Nat}, f.length = ds.length → (∀ i, i < ds.length → f.getD i 0 ∈ ds.getD i []) → f ∈ prodL ds
  | [], [], _, _ => List.mem_singleton.mpr rfl
  | [], _ :: _, h, _ => absurd h (by simp)
  | _ :: _, [], h, _ => absurd h (by simp)
  | d :: ds, p :: f, h, hd => by
    refine List.mem_flatMap.mpr ⟨p, hd 0 (Nat.succ_pos _), List.mem_map.mpr ⟨f, mem_prod2 (Nat.succ.inj h) fun i hi => hd (i + 1) (Nat.succ_lt_succ hi), rfl⟩⟩
theorem mem_due {x y : Wd} {al : Al} {f : List Nat} : f ∈ due x y al ↔ f.length = x.n ∧ (∀ i, i < x.n → f.getD i 0 < y.n ∧ alB al i (f.getD i 0) = true) ∧ good x y f = true := by
  unfold due
  rw [List.mem_filter, ← and_assoc]
  refine and_congr ⟨fun h => ?_, fun ⟨h1, h2⟩ => ?_⟩ Iff.rfl
  · obtain ⟨h1, h2⟩ := mem_prodL h
    rw [List.length_map, List.length_range] at h1 h2
    refine ⟨h1, fun i hi => ?_⟩
    have := h2 i hi
    rw [List.getD_eq_getElem?_getD (l := List.map _ _), List.getElem?_map, List.getElem?_range hi] at this
    obtain ⟨g1, g2⟩ := List.mem_filter.mp this
    exact ⟨List.mem_range.mp g1, g2⟩
  · refine mem_prod2 (by rw [List.length_map, List.length_range]; exact h1) fun i hi => ?_
    rw [List.length_map, List.length_range] at hi
    rw [List.getD_eq_getElem?_getD (l := List.map _ _), List.getElem?_map, List.getElem?_range hi]
    exact List.mem_filter.mpr ⟨List.mem_range.mpr (h2 i hi).1, (h2 i hi).2⟩
theorem due_up (x y : Wd) (al : Al) : (due x y al).Pairwise fun x y => lex nlt x y = true := by
  refine (prod_up fun d hd => ?_).filter _
  obtain ⟨j, _, rfl⟩ := List.mem_map.mp hd
  exact (up_range y.n).filter _
def chainW (many l s : Nat) : Wd := ⟨many, (List.range (many - 1)).map fun k => (k, l, k + 1), [(many - 1, s)]⟩
def circ (size l : Nat) : List Arr := (List.range size).map fun k => (k, l, (k + 1) % size)
def marksL (size s : Nat) : List Mrk := (List.range size).map fun k => (k, s)
def rot (many size start : Nat) : List Nat := (List.range many).map fun k => (start + k) % size
def rots (many size : Nat) : List (List Nat) := (List.range size).map (rot many size)
theorem rot_at {many size start i : Nat} (h : i < many) : (rot many size start).getD i 0 = (start + i) % size := by
  unfold rot
  rw [List.getD_eq_getElem?_getD, List.getElem?_map, List.getElem?_range h]
  rfl
theorem rots_up {many size : Nat} (h : 1 ≤ many) : (rots many size).Pairwise fun x y => lex nlt x y = true := by
  unfold rots
  rw [List.pairwise_map]
  refine List.Pairwise.imp_of_mem (fun {a b} ha hb hab => ?_) List.pairwise_lt_range
  have ha := List.mem_range.mp ha
  have hb := List.mem_range.mp hb
  unfold rot
  obtain ⟨m, rfl⟩ : ∃ m, many = m + 1 := ⟨many - 1, by omega⟩
  rw [List.range_succ_eq_map, List.map_cons, List.map_cons]
  unfold lex
  rw [Nat.add_zero, Nat.add_zero, Nat.mod_eq_of_lt ha, Nat.mod_eq_of_lt hb, if_neg (Nat.ne_of_lt hab)]
  exact decide_eq_true hab
theorem mem_circ {size l p q : Nat} : (p, l, q) ∈ circ size l ↔ p < size ∧ q = (p + 1) % size := by
  unfold circ
  rw [List.mem_map]
  constructor
  · rintro ⟨k, hk, e⟩
    cases e
    exact ⟨List.mem_range.mp hk, rfl⟩
  · rintro ⟨h, rfl⟩
    exact ⟨p, List.mem_range.mpr h, rfl⟩
theorem due_ring {many size l s : Nat} {ms : List Mrk} {al : Al} {p : List Nat → Bool} (h1 : 1 ≤ many) (h2 : 1 ≤ size) (hp : ∀ f ∈ rots many size, (p f = true ↔ (∀ i, i < many → alB al i (f.getD i 0) = true) ∧ (f.getD (many - 1) 0, s) ∈ ms)) :
    due (chainW many l s) ⟨size, circ size l, ms⟩ al = (rots many size).filter p := by
  refine sorted_uniq (lin_nat.lex) (due_up ..) ((rots_up h1).filter _) fun f => ?_
  rw [mem_due, List.mem_filter]
  have gm : goodM (chainW many l s) ⟨size, circ size l, ms⟩ f = decide ((f.getD (many - 1) 0, s) ∈ ms) := by
    unfold goodM chainW
    simp
  constructor
  · rintro ⟨g1, g2, g3⟩
    unfold good at g3
    rw [Bool.and_eq_true, gm, decide_eq_true_eq] at g3
    obtain ⟨g3, g4⟩ := g3
    have step : ∀ k, k + 1 < many → f.getD (k + 1) 0 = (f.getD k 0 + 1) % size := fun k hk => by
      unfold goodA at g3
      have := of_decide_eq_true (List.all_eq_true.mp g3 (k, l, k + 1) (List.mem_map.mpr ⟨k, List.mem_range.mpr (by omega), rfl⟩))
      exact (mem_circ.mp this).2
    have f0 := (g2 0 h1).1
    have all : ∀ k, k < many → f.getD k 0 = (f.getD 0 0 + k) % size := fun k => by
      induction k with
      | zero => intro _; rw [Nat.add_zero, Nat.mod_eq_of_lt f0]
      | succ k ih =>
        intro hk
        rw [step k hk, ih (by omega), Nat.mod_add_mod]
        rfl
    have e : f = rot many size (f.getD 0 0) := by
      have g1 : f.length = many := g1
      have lr : (rot many size (f.getD 0 0)).length = many := by unfold rot; rw [List.length_map, List.length_range]
      refine List.ext_getElem (by rw [lr]; exact g1) fun i i1 i2 => ?_
      have e1 := all i (by omega)
      have e2 := rot_at (size := size) (start := f.getD 0 0) (show i < many by omega)
      rw [List.getD_eq_getElem?_getD, List.getElem?_eq_getElem i2] at e2
      rw [← e2] at e1
      rw [List.getD_eq_getElem?_getD, List.getElem?_eq_getElem i1] at e1
      exact e1
    have hf : f ∈ rots many size := List.mem_map.mpr ⟨_, List.mem_range.mpr f0, e.symm⟩
    exact ⟨hf, (hp f hf).mpr ⟨fun i hi => (g2 i hi).2, g4⟩⟩
  · rintro ⟨hf, pf⟩
    obtain ⟨a1, a2⟩ := (hp f hf).mp pf
    obtain ⟨start, hs, rfl⟩ := List.mem_map.mp hf
    refine ⟨by unfold rot; rw [List.length_map, List.length_range]; rfl, fun i hi => ⟨?_, a1 i hi⟩, ?_⟩
    · rw [rot_at (show i < many from hi)]
      exact Nat.mod_lt _ h2
    · unfold good
      rw [Bool.and_eq_true, gm, decide_eq_true_eq]
      refine ⟨?_, a2⟩
      unfold goodA
      rw [List.all_eq_true]
      intro a ha
      obtain ⟨k, hk, rfl⟩ := List.mem_map.mp ha
      have hk := List.mem_range.mp hk
      refine decide_eq_true (mem_circ.mpr ?_)
      rw [rot_at (show k < many by omega), rot_at (show k + 1 < many by omega)]
      exact ⟨Nat.mod_lt _ h2, by rw [Nat.mod_add_mod]; rfl⟩
theorem rot_hits {many size last : Nat} (h1 : 1 ≤ many) (h2 : last < size) : ∃ start, start < size ∧ (start + (many - 1)) % size = last := by
  refine ⟨(last + (size - (many - 1) % size)) % size, Nat.mod_lt _ (by omega), ?_⟩
  have hm : (many - 1) % size < size := Nat.mod_lt _ (by omega)
  rw [Nat.mod_add_mod]
  have := Nat.div_add_mod (many - 1) size
  have e : last + (size - (many - 1) % size) + (many - 1) = last + size * ((many - 1) / size + 1) := by
    rw [Nat.mul_add, Nat.mul_one]
    omega
  rw [e, Nat.add_mul_mod_self_left, Nat.mod_eq_of_lt h2]
end L2.WB
namespace L2.WB
open PySem PySem.Spec PyProof.Rows L2.XS L2.XB
open K19 (isL isK prodL)
/-- making a web with one, two, three arguments; T1, T2: the defaults -/
def spMk (K : PySem.W.Frag) (c : Ad) (T1 T2 : V) : Sp := fun vs H Q E => spWeb K c vs H Q E ∨ spWeb K c (vs ++ [T2]) H Q E ∨ spWeb K c (vs ++ [T1, T2]) H Q E
/-- an empty tuple that stands in the text -/
def Emp (K : PySem.W.Frag) (T : V) : Prop := ∀ H, SeqV K H T []
section
variable {P : Program} {w : World} {K : PySem.W.Frag} {c : Ad} {H : Hp} {Q : VK} {E : XK} {vs : List V} {T1 T2 va vm : V} {wd : Wd} {sa : List Arr} {sm : List Mrk}
theorem GivA.keep {H2 : Hp} (s : Same H H2) (h : GivA K H va wd.ar sa) : GivA K H2 va wd.ar sa := by
  obtain ⟨⟨us, h1, h2⟩, h3, h4, h5⟩ := h
  exact ⟨⟨us, h1.keep s, h2.keep s⟩, h3, h4, h5⟩
theorem GivM.keep {H2 : Hp} (s : Same H H2) (h : GivM K H vm wd.ms sm) : GivM K H2 vm wd.ms sm := by
  obtain ⟨⟨us, h1, h2⟩, h3, h4, h5⟩ := h
  exact ⟨⟨us, h1.keep s, h2.keep s⟩, h3, h4, h5⟩
theorem web_ok {x dx : Addr} {R : VK} (nx : H x = none) (nd : H dx = none) (ne : dx ≠ x) (ok : wd.Ok) (ga : GivA K H va wd.ar sa) (gm : GivM K H vm wd.ms sm) (q : ∀ H2, Same H H2 → WbAt c H2 (.ref x) wd → R .non H2) :
    spWeb K c [.ref x, nV wd.n, va, vm] (upd (upd H dx (.own x)) x (.ins c.Web dx [])) R E := by
  have s1 : Same H (upd (upd H dx (.own x)) x (.ins c.Web dx [])) := same_upd (same_new nd) nx
  exact ⟨x, dx, wd, va, vm, sa, sm, rfl, upd_same, ok, ga.keep s1, gm.keep s1, fun H2 b wb => q H2 (same_but s1 b nx) wb⟩
theorem mk3 {x dx : Addr} {R : VK} (nx : H x = none) (nd : H dx = none) (ne : dx ≠ x) (ok : wd.Ok) (ga : GivA K H va wd.ar sa) (gm : GivM K H vm wd.ms sm) (q : ∀ H2, Same H H2 → WbAt c H2 (.ref x) wd → R .non H2) :
    spMk K c T1 T2 [.ref x, nV wd.n, va, vm] (upd (upd H dx (.own x)) x (.ins c.Web dx [])) R E := .inl (web_ok nx nd ne ok ga gm q)
theorem GivA.same {us : List V} {ar : List Arr} (h1 : SeqV K H va us) (h2 : TkL H us (ar.map kA)) (h3 : ar.length ≤ 1000) (h4 : (ar.map kA).Pairwise fun x y => tlt x y = true) : GivA K H va ar ar := ⟨⟨us, h1, h2⟩, h3, h4, fun a => Iff.rfl⟩
theorem GivM.same {us : List V} {ms : List Mrk} (h1 : SeqV K H vm us) (h2 : TkL H us (ms.map kM)) (h3 : ms.length ≤ 1000) (h4 : (ms.map kM).Pairwise fun x y => tlt x y = true) : GivM K H vm ms ms := ⟨⟨us, h1, h2⟩, h3, h4, fun a => Iff.rfl⟩
theorem GivA.emp (h : Emp K va) : GivA K H va [] [] := .same (h H) .nil (Nat.zero_le _) .nil
theorem GivM.emp (h : Emp K vm) : GivM K H vm [] [] := .same (h H) .nil (Nat.zero_le _) .nil
theorem mk2 {x dx : Addr} {R : VK} (t2 : Emp K T2) (e : wd.ms = []) (nx : H x = none) (nd : H dx = none) (ne : dx ≠ x) (ok : wd.Ok) (ga : GivA K H va wd.ar sa) (q : ∀ H2, Same H H2 → WbAt c H2 (.ref x) wd → R .non H2) :
    spMk K c T1 T2 [.ref x, nV wd.n, va] (upd (upd H dx (.own x)) x (.ins c.Web dx [])) R E := .inr (.inl (web_ok nx nd ne ok ga (vm := T2) (sm := []) (by rw [e]; exact .emp t2) q))
theorem mk1 {x dx : Addr} {R : VK} (t1 : Emp K T1) (t2 : Emp K T2) (e0 : wd.ar = []) (e : wd.ms = []) (nx : H x = none) (nd : H dx = none) (ne : dx ≠ x) (ok : wd.Ok) (q : ∀ H2, Same H H2 → WbAt c H2 (.ref x) wd → R .non H2) :
    spMk K c T1 T2 [.ref x, nV wd.n] (upd (upd H dx (.own x)) x (.ins c.Web dx [])) R E := .inr (.inr (web_ok nx nd ne ok (va := T1) (vm := T2) (sa := []) (sm := []) (by rw [e0]; exact .emp t1) (by rw [e]; exact .emp t2) q))
end
theorem tlt_first {a b : Nat} {k m : List Key} (h : a < b) : tlt (kN a :: k) (kN b :: m) = true := by
  unfold tlt lex
  have ne : kN a ≠ kN b := fun e => by
    have : (a : Int) = (b : Int) := Sum.inl.inj e
    omega
  rw [if_neg ne]
  exact decide_eq_true (show (a : Int) < (b : Int) by omega)
theorem srt_A {f : Nat → Arr} (hf : ∀ k, (f k).1 = k) (n : Nat) : (((List.range n).map f).map kA).Pairwise fun x y => tlt x y = true := by
  rw [List.map_map, List.pairwise_map]
  refine List.pairwise_lt_range.imp fun {a b} h => ?_
  exact tlt_first (by rw [hf, hf]; exact h)
theorem srt_M {f : Nat → Mrk} (hf : ∀ k, (f k).1 = k) (n : Nat) : (((List.range n).map f).map kM).Pairwise fun x y => tlt x y = true := by
  rw [List.map_map, List.pairwise_map]
  refine List.pairwise_lt_range.imp fun {a b} h => ?_
  exact tlt_first (by rw [hf, hf]; exact h)
def bareM (size last s : Nat) : List Mrk := (marksL size s).take last ++ (marksL size s).drop (last + 1)
theorem bare_sub (size last s : Nat) : List.Sublist (bareM size last s) (marksL size s) := by
  unfold bareM
  rw [← List.eraseIdx_eq_take_drop_succ]
  exact List.eraseIdx_sublist ..
theorem bare_srt (size last s : Nat) : ((bareM size last s).map kM).Pairwise fun x y => tlt x y = true := (srt_M (f := fun k => (k, s)) (fun _ => rfl) size).sublist ((bare_sub size last s).map kM)
theorem mem_marks {size s p : Nat} : (p, s) ∈ marksL size s ↔ p < size := by
  unfold marksL
  rw [List.mem_map]
  constructor
  · rintro ⟨k, hk, e⟩
    cases e
    exact List.mem_range.mp hk
  · exact fun h => ⟨p, List.mem_range.mpr h, rfl⟩
theorem mem_bare {size last s p : Nat} : (p, s) ∈ bareM size last s ↔ p < size ∧ p ≠ last := by
  unfold bareM
  rw [← List.eraseIdx_eq_take_drop_succ, List.mem_eraseIdx_iff_getElem]
  constructor
  · rintro ⟨i, h, ne, e⟩
    unfold marksL at h e
    rw [List.getElem_map, List.getElem_range] at e
    rw [List.length_map, List.length_range] at h
    cases e
    exact ⟨h, ne⟩
  · rintro ⟨h1, h2⟩
    refine ⟨p, by unfold marksL; rw [List.length_map, List.length_range]; exact h1, h2, ?_⟩
    unfold marksL
    rw [List.getElem_map, List.getElem_range]
end L2.WB
namespace L2.WB
open PySem PySem.Spec PyProof.Rows L2.XS L2.XB
open K19 (isL isK prodL)
theorem cutV_from (l : List V) (i : Nat) : cutV l (some (i : Int)) none = l.drop i := by
  unfold cutV
  rw [HT.sIx_nat, HT.sIx_none]
  by_cases h : i ≤ l.length
  · rw [Nat.min_eq_left h, List.take_of_length_le (by rw [List.length_drop]; exact Nat.le_refl _)]
  · rw [Nat.min_eq_right (by omega), List.drop_of_length_le (by omega), List.drop_of_length_le (by omega)]; simp
theorem cutV_to (l : List V) (i : Nat) : cutV l none (some (i : Int)) = l.take i := by
  unfold cutV
  rw [HT.sIx_nat, HT.sIx_none]
  by_cases h : i ≤ l.length
  · rw [Nat.min_eq_left h]; rfl
  · rw [Nat.min_eq_right (by omega), List.take_of_length_le (l := l) (by omega), List.drop_zero, Nat.sub_zero, List.take_of_length_le (by omega)]
section
variable {P : Program} {w : World} {K : PySem.W.Frag} {c : Ad} {H : Hp} {Q : VK} {E : XK} {vs : List V} {σ : St} {te : TE} {j n : Nat}
/-- [tuple for k in range(n)] -/
theorem lc_keys {f : Nat → List Key} (hn : n ≤ 1000) (hw : ∀ v, wipe ((wipe σ [j]).set j (some v)) [j] = wipe σ [j])
    (he : ∀ i H', i < n → Same H H' → ∀ R : VK, (∀ T H2, Same H' H2 → H2 T = some (.tup ((f i).map kV)) → R (.ref T) H2) → te ((wipe σ [j]).set j (some (nV i))) H' R)
    (q : ∀ p us H2, Same H H2 → H2 p = some (.lst us) → TkL H2 us ((List.range n).map f) → Q (.ref p) H2) : LcOk (Itr 0 n) (gName j) tYes te [j] σ H Q := by
  refine lc_r (fun D i H8 => Same H H8 ∧ ∃ us, H8 D = some (.lst us) ∧ us.length ≤ i ∧ TkL H8 us ((List.range i).map f)) (fun D nD => ⟨same_new nD, [], upd_same, Nat.le_refl _, .nil⟩) ?_ ?_
  · rintro D i H8 nD hi ⟨s8, us, e8, l8, h8⟩
    refine ⟨hw _, ?_⟩
    dsimp only [tYes]
    refine iteT (he i H8 hi s8 _ fun T H2 s2 eT => ?_)
    have e9 := s2 _ _ e8
    have ne : T ≠ D := fun z => by rw [z, e9] at eT; cases eT
    refine ⟨us, e9, by rw [sizeLine_eq]; omega, same_upd (s8.trans s2) nD, _, upd_same, by rw [List.length_append]; simp; omega, ?_⟩
    rw [List.range_succ, List.map_append]
    exact TkL.snoc ((h8.keep s2).but (fun b x hb hx => by rw [upd_ne hb]; exact hx) e9) (by rw [upd_ne ne]; exact eT)
  · rintro D H8 nD ⟨s8, us, e8, l8, h8⟩
    exact q D us H8 s8 e8 h8
/-- [int for k in range(n)] -/
theorem lc_nats {f : Nat → Nat} (hn : n ≤ 1000) (hw : ∀ v, wipe ((wipe σ [j]).set j (some v)) [j] = wipe σ [j]) (he : ∀ i H', i < n → Same H H' → ∀ R : VK, R (nV (f i)) H' → te ((wipe σ [j]).set j (some (nV i))) H' R)
    (q : ∀ p H2, Same H H2 → H2 p = some (.lst (((List.range n).map f).map nV)) → Q (.ref p) H2) : LcOk (Itr 0 n) (gName j) tYes te [j] σ H Q := by
  refine lc_r (fun D i H8 => Same H H8 ∧ H8 D = some (.lst (((List.range i).map f).map nV))) (fun D nD => ⟨same_new nD, upd_same⟩) ?_ ?_
  · rintro D i H8 nD hi ⟨s8, e8⟩
    refine ⟨hw _, ?_⟩
    dsimp only [tYes]
    refine iteT (he i H8 hi s8 _ ?_)
    refine ⟨_, e8, by rw [List.length_map, List.length_map, List.length_range, sizeLine_eq]; omega, same_upd s8 nD, ?_⟩
    rw [upd_same, List.range_succ, List.map_append, List.map_append]
    rfl
  · rintro D H8 nD ⟨s8, e8⟩
    exact q D H8 s8 e8
/-- [None for k in range(n)] -/
theorem lc_nons (hn : n ≤ 1000) (hw : ∀ v, wipe ((wipe σ [j]).set j (some v)) [j] = wipe σ [j]) (he : ∀ i H', i < n → ∀ R : VK, R .non H' → te ((wipe σ [j]).set j (some (nV i))) H' R)
    (q : ∀ p H2, Same H H2 → H2 p = some (.lst (List.replicate n .non)) → Q (.ref p) H2) : LcOk (Itr 0 n) (gName j) tYes te [j] σ H Q := by
  refine lc_r (fun D i H8 => Same H H8 ∧ H8 D = some (.lst (List.replicate i .non))) (fun D nD => ⟨same_new nD, upd_same⟩) ?_ ?_
  · rintro D i H8 nD hi ⟨s8, e8⟩
    refine ⟨hw _, ?_⟩
    dsimp only [tYes]
    refine iteT (he i H8 hi _ ?_)
    refine ⟨_, e8, by rw [List.length_replicate, sizeLine_eq]; omega, same_upd s8 nD, ?_⟩
    rw [upd_same, List.replicate_succ']
  · rintro D H8 nD ⟨s8, e8⟩
    exact q D H8 s8 e8
/-- [row for row in rows if ..] -/
theorem lc_rows {tt : TT} {a : Addr} {us : List V} {L : List (List Nat)} {p : List Nat → Bool} (ha : H a = some (.lst us)) (hu : TkL H us (L.map kF)) (hl : L.length ≤ 10000) (hw : ∀ v, wipe ((wipe σ [j]).set j (some v)) [j] = wipe σ [j])
    (ht : ∀ f b H', f ∈ L → H' b = some (.tup (f.map nV)) → ∀ D : Bool → Hp → Prop, D (p f) H' → tt ((wipe σ [j]).set j (some (.ref b))) H' D) (he : ∀ b H', ∀ R : VK, R (.ref b) H' → te ((wipe σ [j]).set j (some (.ref b))) H' R)
    (q : ∀ p2 us2 H2, Same H H2 → H2 p2 = some (.lst us2) → TkL H2 us2 ((L.filter p).map kF) → Q (.ref p2) H2) : LcOk (Itl K a) (gName j) tt te [j] σ H Q := by
  refine lc_l (xs := us) (fun D i H8 => Same H H8 ∧ ∃ us2, H8 D = some (.lst us2) ∧ us2.length ≤ i ∧ TkL H us2 (((L.take i).filter p).map kF)) (fun D nD => ⟨same_new nD, [], upd_same, Nat.le_refl _, .nil⟩) (fun D i H8 h => h.1 _ _ ha) ?_ ?_
  · rintro D i x H8 nD hx ⟨s8, us2, e8, l8, h8⟩
    obtain ⟨b, k, rfl, hk, hb⟩ := hu.at_ hx
    obtain ⟨f, hf, rfl⟩ := map_at hk
    have hi := (List.getElem?_eq_some_iff.mp hf).1
    refine ⟨hw _, ht f b H8 (List.mem_of_getElem? hf) (by rw [← kF_map]; exact s8 _ _ hb) _ ?_⟩
    rw [take_one hf, List.filter_append]
    refine ifB (fun e => ?_) fun e => ?_
    · refine he b H8 _ ⟨us2, e8, by rw [sizeLine_eq]; omega, same_upd s8 nD, _, upd_same, by rw [List.length_append]; simp; omega, ?_⟩
      rw [List.filter_cons, if_pos e, List.map_append]
      exact h8.snoc hb
    · refine ⟨s8, us2, e8, by omega, ?_⟩
      rw [List.filter_cons, if_neg (by rw [e]; exact Bool.false_ne_true), List.filter_nil, List.append_nil]
      exact h8
  · rintro D H8 nD ⟨s8, us2, e8, l8, h8⟩
    rw [hu.len, List.length_map, List.take_length] at h8
    exact q D us2 H8 s8 e8 (h8.keep s8)
end
end L2.WB
namespace L2.WB
open PySem PySem.Spec PyProof.Rows L2.XS L2.XB
open K19 (isL isK prodL)
def ringW (size l s : Nat) : Wd := ⟨size, circ size l, marksL size s⟩
def bareW (size last l s : Nat) : Wd := ⟨size, circ size l, bareM size last s⟩
theorem circ_ok {size l : Nat} (h : 1 ≤ size) (hl : K19.isL l = true) : ∀ a ∈ circ size l, a.1 < size ∧ K19.isL a.2.1 = true ∧ a.2.2 < size := fun a ha => by
  obtain ⟨k, hk, rfl⟩ := List.mem_map.mp ha
  exact ⟨List.mem_range.mp hk, hl, Nat.mod_lt _ h⟩
theorem marks_ok {size s : Nat} (hs : K19.isK s = true) : ∀ a ∈ marksL size s, a.1 < size ∧ K19.isK a.2 = true := fun a ha => by
  obtain ⟨k, hk, rfl⟩ := List.mem_map.mp ha
  exact ⟨List.mem_range.mp hk, hs⟩
theorem ring_ok {size l s : Nat} (h1 : 1 ≤ size) (h2 : size ≤ 100) (hl : K19.isL l = true) (hs : K19.isK s = true) : (ringW size l s).Ok :=
  ⟨h1, by show size ≤ 200; omega, circ_ok h1 hl, marks_ok hs, by show (circ size l).length ≤ 1000; unfold circ; rw [List.length_map, List.length_range]; omega, by show (marksL size s).length ≤ 1000; unfold marksL; rw [List.length_map, List.length_range]; omega⟩
theorem bare_ok {size last l s : Nat} (h1 : 1 ≤ size) (h2 : size ≤ 100) (hl : K19.isL l = true) (hs : K19.isK s = true) : (bareW size last l s).Ok :=
  ⟨h1, by show size ≤ 200; omega, circ_ok h1 hl, fun a ha => marks_ok hs a ((bare_sub size last s).subset ha), by show (circ size l).length ≤ 1000; unfold circ; rw [List.length_map, List.length_range]; omega, by
    have := (bare_sub size last s).length_le
    show (bareM size last s).length ≤ 1000
    unfold marksL at this
    rw [List.length_map, List.length_range] at this
    omega⟩
theorem chain_ok {many l s : Nat} (h1 : 1 ≤ many) (h2 : many ≤ 100) (hl : K19.isL l = true) (hs : K19.isK s = true) : (chainW many l s).Ok :=
  ⟨h1, by show many ≤ 200; omega, fun a ha => by
    obtain ⟨k, hk, rfl⟩ := List.mem_map.mp ha
    have := List.mem_range.mp hk
    exact ⟨by show k < many; omega, hl, by show k + 1 < many; omega⟩, fun a ha => by
    cases List.mem_singleton.mp ha
    exact ⟨by show many - 1 < many; omega, hs⟩, by show ((List.range (many - 1)).map _).length ≤ 1000; rw [List.length_map, List.length_range]; omega, by show 1 ≤ 1000; omega⟩
/-- the lists of the law: only the last place is bound -/
def lastAl (many : Nat) (s : List Nat) : List (Option (List Nat)) := List.replicate (many - 1) none ++ [some s]
theorem lastAl_len {many : Nat} {s : List Nat} (h : 1 ≤ many) : (lastAl many s).length = many := by
  unfold lastAl
  rw [List.length_append, List.length_replicate]
  simp
  omega
theorem lastAl_ok {many m : Nat} {s : List Nat} (h : 1 ≤ many) (hs : ∀ p ∈ s, p < m) : AlOk (some (lastAl many s)) many m :=
  ⟨fun l e => by cases e; exact lastAl_len h, fun l e t ht => by
    cases e
    rcases List.mem_append.mp ht with ht | ht
    · cases (List.mem_replicate.mp ht).2
    · cases List.mem_singleton.mp ht; exact hs⟩
theorem lastAl_B {many i p : Nat} {s : List Nat} (hi : i < many) : alB (some (lastAl many s)) i p = if i = many - 1 then decide (p ∈ s) else true := by
  by_cases e : i = many - 1
  · subst e
    rw [if_pos rfl]
    exact alB_in (l := lastAl many s) (s := s) (i := many - 1) (by unfold lastAl; rw [List.getElem?_append_right (by rw [List.length_replicate]; exact Nat.le_refl _), List.length_replicate, Nat.sub_self]; rfl) p
  · rw [if_neg e]
    exact alB_free (l := lastAl many s) (i := i) (by unfold lastAl; rw [List.getElem?_append_left (by rw [List.length_replicate]; omega), List.getElem?_replicate, if_pos (by omega)]) p
theorem due1 {many size l s : Nat} (h1 : 1 ≤ many) (h2 : 1 ≤ size) : due (chainW many l s) (ringW size l s) none = rots many size := by
  have := due_ring (many := many) (size := size) (l := l) (s := s) (ms := marksL size s) (al := none) (p := fun _ => true) h1 h2 fun f hf => by
    obtain ⟨st, hs, rfl⟩ := List.mem_map.mp hf
    refine ⟨fun _ => ⟨fun _ _ => rfl, mem_marks.mpr ?_⟩, fun _ => rfl⟩
    rw [rot_at (by omega)]
    exact Nat.mod_lt _ h2
  rw [List.filter_eq_self.mpr (fun _ _ => rfl)] at this
  exact this
def atLast (many last : Nat) (f : List Nat) : Bool := decide (f.getD (many - 1) 0 = last)
theorem due2 {many size l s last : Nat} (h1 : 1 ≤ many) (h2 : 1 ≤ size) : due (chainW many l s) (ringW size l s) (some (lastAl many [last])) = (rots many size).filter (atLast many last) := by
  refine due_ring h1 h2 fun f hf => ?_
  obtain ⟨st, hs, rfl⟩ := List.mem_map.mp hf
  unfold atLast
  rw [decide_eq_true_eq]
  refine ⟨fun e => ⟨fun i hi => ?_, mem_marks.mpr ?_⟩, fun h => ?_⟩
  · rw [lastAl_B hi]
    by_cases ei : i = many - 1
    · rw [if_pos ei, ei, e]
      simp
    · rw [if_neg ei]
  · rw [rot_at (by omega)]
    exact Nat.mod_lt _ h2
  · have := h.1 (many - 1) (by omega)
    rw [lastAl_B (by omega), if_pos rfl, decide_eq_true_eq] at this
    exact List.mem_singleton.mp this
theorem due3 {many size l s last : Nat} (h1 : 1 ≤ many) (h2 : 1 ≤ size) : due (chainW many l s) (bareW size last l s) none = (rots many size).filter fun f => !atLast many last f := by
  refine due_ring h1 h2 fun f hf => ?_
  obtain ⟨st, hs, rfl⟩ := List.mem_map.mp hf
  have hlt : (rot many size st).getD (many - 1) 0 < size := by
    rw [rot_at (by omega)]
    exact Nat.mod_lt _ h2
  unfold atLast
  refine ⟨fun e => ⟨fun _ _ => rfl, mem_bare.mpr ⟨hlt, by simpa using e⟩⟩, fun h => ?_⟩
  simpa using (mem_bare.mp h.2).2
theorem due4 {many size l s : Nat} (h1 : 1 ≤ many) (h2 : 1 ≤ size) : due (chainW many l s) (ringW size l s) (some (lastAl many [])) = [] := by
  have := due_ring (many := many) (size := size) (l := l) (s := s) (ms := marksL size s) (al := some (lastAl many [])) (p := fun _ => false) h1 h2 fun f hf => by
    refine ⟨(fun e => nomatch e), fun h => ?_⟩
    have := h.1 (many - 1) (by omega)
    rw [lastAl_B (by omega), if_pos rfl] at this
    simp at this
  rw [show (rots many size).filter (fun _ => false) = [] from List.filter_eq_nil_iff.mpr fun _ _ => Bool.false_ne_true] at this
  exact this
theorem rots_len {many size : Nat} : (rots many size).length = size := by
  unfold rots
  rw [List.length_map, List.length_range]
theorem rots_row {many size : Nat} : ∀ f ∈ rots many size, f.length = many := fun f hf => by
  obtain ⟨st, _, rfl⟩ := List.mem_map.mp hf
  unfold rot
  rw [List.length_map, List.length_range]
theorem last_ne {many size last : Nat} (h1 : 1 ≤ many) (h2 : last < size) : (rots many size).filter (atLast many last) ≠ [] := fun e => by
  obtain ⟨st, g1, g2⟩ := rot_hits h1 h2
  have := List.filter_eq_nil_iff.mp e (rot many size st) (List.mem_map.mpr ⟨st, List.mem_range.mpr g1, rfl⟩)
  unfold atLast at this
  rw [rot_at (by omega), g2] at this
  simp at this
end L2.WB
namespace L2.WB
open PySem PySem.Spec PyProof.Rows L2.XS L2.XB
open K19 (isL isK prodL)
section
variable {P : Program} {w : World} {K : PySem.W.Frag} {c : Ad} {H : Hp} {Q : VK} {E : XK} {vs : List V} {T1 T2 : V}
theorem TwoAt.ix0 {v : V} {y z : Nat} (h : TwoAt H v y z) (q : Q (sV y) H) : uIx K v (.int 0) H Q := by
  obtain ⟨a, rfl, e⟩ := h
  exact ix_lst e (atI_nat (j := 0) rfl) q
theorem fst_at {us : List V} {L : List (List Nat)} (hu : TkL H us (L.map kF)) (ne : L ≠ []) : ∃ v, us[0]? = some v ∧ FstV H v L := by
  cases L with
  | nil => exact absurd rfl ne
  | cons f L =>
    have l1 := hu.len
    cases us with
    | nil => cases l1
    | cons u us =>
      obtain ⟨p, k, rfl, e1, e2⟩ := hu.at_ (i := 0) rfl
      cases e1
      exact ⟨_, rfl, p, rfl, e2⟩
theorem al_last {p e : Addr} {many : Nat} {s : List Nat} (h : 1 ≤ many) (h1 : H p = some (.lst (List.replicate (many - 1) .non ++ [.ref e]))) (h2 : H e = some (.lst (s.map nV))) : AlAt H (.ref p) (some (lastAl many s)) := by
  refine ⟨p, _, rfl, h1, by rw [lastAl_len h, List.length_append, List.length_replicate]; simp; omega, fun i u e1 => ?_⟩
  unfold lastAl
  by_cases hi : i < many - 1
  · rw [List.getElem?_append_left (by rw [List.length_replicate]; exact hi), List.getElem?_replicate, if_pos hi] at e1
    refine .inl ⟨?_, (Option.some.inj e1).symm⟩
    rw [List.getElem?_append_left (by rw [List.length_replicate]; exact hi), List.getElem?_replicate, if_pos hi]
  · have l1 := (List.getElem?_eq_some_iff.mp e1).1
    rw [List.length_append, List.length_replicate] at l1
    have hi2 : i = many - 1 := by simp at l1; omega
    subst hi2
    rw [List.getElem?_append_right (by rw [List.length_replicate]; exact Nat.le_refl _), List.length_replicate, Nat.sub_self] at e1
    refine .inr ⟨s, e, ?_, (Option.some.inj e1).symm, h2⟩
    rw [List.getElem?_append_right (by rw [List.length_replicate]; exact Nat.le_refl _), List.length_replicate, Nat.sub_self]
    rfl
theorem last_ix {b : Addr} {f : List Nat} {many : Nat} {i : Int} (h : 1 ≤ many) (ei : i = ((many - 1 : Nat) : Int)) (hl : f.length = many) (hb : H b = some (.tup (f.map nV))) (q : Q (nV (f.getD (many - 1) 0)) H) : uIx K (.ref b) (.int i) H Q := by
  rw [ei]
  exact ix_tup2 hb (nV_at (n := f.getD (many - 1) 0) (by rw [List.getD_eq_getElem?_getD, List.getElem?_eq_getElem (by omega)]; rfl)) q
def spChain : Sp := fun vs H Q _ => ∃ (many size last : Nat) (vl vm : V) (l1 l2 m1 m2 : Nat), vs = [nV many, nV size, nV last, vl, vm] ∧ TwoAt H vl l1 l2 ∧ TwoAt H vm m1 m2 ∧ K19.isL l1 = true ∧ K19.isK m1 = true ∧ 2 ≤ many ∧ many ≤ 100 ∧ 1 ≤ size ∧ size ≤ 100 ∧ last < size ∧ ∀ H2, Same H H2 → Q (.bl true) H2
theorem q__law_chain (F : WebF K c) (h : spChain vs H Q E) : t__law_chain P w K c (spSame 5) (spFirst2 c) (spFirst c) (spMk K c T1 T2) (spLead c) (fin0 Q) (start N__law_chain vs) H := by
  obtain ⟨many, size, last, vl, vm, l1, l2, m1, m2, rfl, tl, tm, hl, hk, n1, n2, n3, n4, n5, q⟩ := h
  show t__law_chain P w K c (spSame 5) (spFirst2 c) (spFirst c) (spMk K c T1 T2) (spLead c) (fin0 Q) [some (nV many), some (nV size), some (nV last), some vl, some vm, none, none, none, none, none, none, none, none, none, none, none, none, none] H
  have co := chain_ok (many := many) (by omega) n2 hl hk
  have ro := ring_ok (size := size) n3 n4 hl hk
  have bo := bare_ok (size := size) (last := last) n3 n4 hl hk
  have em : ((many : Int) - 1) = nV0 (many - 1) := by unfold nV0; omega
  dsimp only [t__law_chain, tSeq, tAsg, tIfS, tRet, tRetN, tDrop, tNext, tOp, tUn, tCons, tNil, tTup, tLst, tC, tCB, tCan, tAnd, tOr, tNot, tB, tIf, uB, uAndV, uOrV, uNotV, uNeg, uV, gName, gSub, tAug, ipI, tPart, tNoPart, tSl, tBM, tBM0, uLen, uAbs, uInt, uAdd, uSub, uMod, uFdiv, uMul, uBand, uBor, uCmp, uLt, uLe, uGt, uGe, StX.tMakeR, sFld, wipe, tYes, tGThen, tPlain, GEnds.at, tG0, tGIf, tGYield, tIsN, tNotN, tTru, tBits, tFmtB, tRevS, tRevL, start, fin0, List.getElem?_cons_zero, List.getElem?_cons_succ, List.map_cons, List.map_nil, List.length_cons, List.length_nil, List.replicate, List.cons_append, List.nil_append, Nat.reduceSub, Nat.reduceAdd, List.set_cons_zero, List.set_cons_succ]
  -- chain
  refine lc_of ?_
  dsimp only [iRng1, tSeq, tAsg, tIfS, tRet, tRetN, tDrop, tNext, tOp, tUn, tCons, tNil, tTup, tLst, tC, tCB, tCan, tAnd, tOr, tNot, tB, tIf, uB, uAndV, uOrV, uNotV, uNeg, uV, gName, gSub, tAug, ipI, tPart, tNoPart, tSl, tBM, tBM0, uLen, uAbs, uInt, uAdd, uSub, uMod, uFdiv, uMul, uBand, uBor, uCmp, uLt, uLe, uGt, uGe, StX.tMakeR, sFld, wipe, tYes, tGThen, tPlain, GEnds.at, tG0, tGIf, tGYield, tIsN, tNotN, tTru, tBits, tFmtB, tRevS, tRevL, start, fin0, List.getElem?_cons_zero, List.getElem?_cons_succ, List.map_cons, List.map_nil, List.length_cons, List.length_nil, List.replicate, List.cons_append, List.nil_append, Nat.reduceSub, Nat.reduceAdd, List.set_cons_zero, List.set_cons_succ]
  refine ⟨_, rfl, by omega, by omega, ?_⟩
  rw [em, show (nV0 (many - 1)).toNat = many - 1 from Int.toNat_natCast _]
  refine lc_keys (f := fun k => kA (k, l1, k + 1)) (by omega) (fun _ => rfl) (fun i H1 hi s1 R r => ?_) fun p1 us1 H1 s1 e1 h1 => ?_
  · dsimp only [tSeq, tAsg, tIfS, tRet, tRetN, tDrop, tNext, tOp, tUn, tCons, tNil, tTup, tLst, tC, tCB, tCan, tAnd, tOr, tNot, tB, tIf, uB, uAndV, uOrV, uNotV, uNeg, uV, gName, gSub, tAug, ipI, tPart, tNoPart, tSl, tBM, tBM0, uLen, uAbs, uInt, uAdd, uSub, uMod, uFdiv, uMul, uBand, uBor, uCmp, uLt, uLe, uGt, uGe, StX.tMakeR, sFld, wipe, tYes, tGThen, tPlain, GEnds.at, tG0, tGIf, tGYield, tIsN, tNotN, tTru, tBits, tFmtB, tRevS, tRevL, start, fin0, List.getElem?_cons_zero, List.getElem?_cons_succ, List.map_cons, List.map_nil, List.length_cons, List.length_nil, List.replicate, List.cons_append, List.nil_append, Nat.reduceSub, Nat.reduceAdd, List.set_cons_zero, List.set_cons_succ]
    refine (tl.keep s1).ix0 ?_
    dsimp only [uAddA, tSeq, tAsg, tIfS, tRet, tRetN, tDrop, tNext, tOp, tUn, tCons, tNil, tTup, tLst, tC, tCB, tCan, tAnd, tOr, tNot, tB, tIf, uB, uAndV, uOrV, uNotV, uNeg, uV, gName, gSub, tAug, ipI, tPart, tNoPart, tSl, tBM, tBM0, uLen, uAbs, uInt, uAdd, uSub, uMod, uFdiv, uMul, uBand, uBor, uCmp, uLt, uLe, uGt, uGe, StX.tMakeR, sFld, wipe, tYes, tGThen, tPlain, GEnds.at, tG0, tGIf, tGYield, tIsN, tNotN, tTru, tBits, tFmtB, tRevS, tRevL, start, fin0, List.getElem?_cons_zero, List.getElem?_cons_succ, List.map_cons, List.map_nil, List.length_cons, List.length_nil, List.replicate, List.cons_append, List.nil_append, Nat.reduceSub, Nat.reduceAdd, List.set_cons_zero, List.set_cons_succ]
    exact ⟨by decide +kernel, fun T nT => r T _ (same_new nT) upd_same⟩
  refine (tm.keep s1).ix0 ⟨by decide +kernel, fun T3 nT3 => ⟨by decide +kernel, fun T4 nT4 => ?_⟩⟩
  have sT3 := same_new (o := HO.tup [.int (nV0 (many - 1)), sV m1]) nT3
  have sT4 := same_new (o := HO.lst [.ref T3]) nT4
  intro x5 d5 nx5 nd5 ne5
  refine mk3 (wd := chainW many l1 m1) nx5 nd5 ne5 co (GivA.same (us := us1) ⟨p1, rfl, .inl ((sT3.trans sT4) _ _ e1)⟩ ?_ co.lar (srt_A (f := fun k => (k, l1, k + 1)) (fun _ => rfl) _)) (GivM.same (us := [.ref T3]) ⟨T4, rfl, .inl upd_same⟩ (TkL.nil.snoc (k := kM (many - 1, m1)) (get_new upd_same nT4)) co.lms (List.pairwise_singleton _ _)) fun H5 s5 w5 => ⟨rfl, ?_⟩
  · have := h1.keep (sT3.trans sT4)
    show TkL _ us1 (List.map kA (List.map _ _))
    rw [List.map_map]
    exact this
  have s05 := s1.trans ((sT3.trans sT4).trans s5)
  have md : ∀ i : Nat, ((i : Int) + 1) % (size : Int) = (((i + 1) % size : Nat) : Int) := fun i => by rw [Int.natCast_emod]; rfl
  -- circle
  refine lc_of ?_
  dsimp only [iRng1, tSeq, tAsg, tIfS, tRet, tRetN, tDrop, tNext, tOp, tUn, tCons, tNil, tTup, tLst, tC, tCB, tCan, tAnd, tOr, tNot, tB, tIf, uB, uAndV, uOrV, uNotV, uNeg, uV, gName, gSub, tAug, ipI, tPart, tNoPart, tSl, tBM, tBM0, uLen, uAbs, uInt, uAdd, uSub, uMod, uFdiv, uMul, uBand, uBor, uCmp, uLt, uLe, uGt, uGe, StX.tMakeR, sFld, wipe, tYes, tGThen, tPlain, GEnds.at, tG0, tGIf, tGYield, tIsN, tNotN, tTru, tBits, tFmtB, tRevS, tRevL, start, fin0, List.getElem?_cons_zero, List.getElem?_cons_succ, List.map_cons, List.map_nil, List.length_cons, List.length_nil, List.replicate, List.cons_append, List.nil_append, Nat.reduceSub, Nat.reduceAdd, List.set_cons_zero, List.set_cons_succ]
  refine ⟨_, rfl, by omega, by omega, ?_⟩
  rw [Int.toNat_natCast]
  refine lc_keys (f := fun k => kA (k, l1, (k + 1) % size)) (by omega) (fun _ => rfl) (fun i H1 hi s1 R r => ?_) fun p6 us6 H6 s6 e6 h6 => ?_
  · dsimp only [tSeq, tAsg, tIfS, tRet, tRetN, tDrop, tNext, tOp, tUn, tCons, tNil, tTup, tLst, tC, tCB, tCan, tAnd, tOr, tNot, tB, tIf, uB, uAndV, uOrV, uNotV, uNeg, uV, gName, gSub, tAug, ipI, tPart, tNoPart, tSl, tBM, tBM0, uLen, uAbs, uInt, uAdd, uSub, uMod, uFdiv, uMul, uBand, uBor, uCmp, uLt, uLe, uGt, uGe, StX.tMakeR, sFld, wipe, tYes, tGThen, tPlain, GEnds.at, tG0, tGIf, tGYield, tIsN, tNotN, tTru, tBits, tFmtB, tRevS, tRevL, start, fin0, List.getElem?_cons_zero, List.getElem?_cons_succ, List.map_cons, List.map_nil, List.length_cons, List.length_nil, List.replicate, List.cons_append, List.nil_append, Nat.reduceSub, Nat.reduceAdd, List.set_cons_zero, List.set_cons_succ]
    refine (tl.keep (s05.trans s1)).ix0 ?_
    dsimp only [uAddA, tSeq, tAsg, tIfS, tRet, tRetN, tDrop, tNext, tOp, tUn, tCons, tNil, tTup, tLst, tC, tCB, tCan, tAnd, tOr, tNot, tB, tIf, uB, uAndV, uOrV, uNotV, uNeg, uV, gName, gSub, tAug, ipI, tPart, tNoPart, tSl, tBM, tBM0, uLen, uAbs, uInt, uAdd, uSub, uMod, uFdiv, uMul, uBand, uBor, uCmp, uLt, uLe, uGt, uGe, StX.tMakeR, sFld, wipe, tYes, tGThen, tPlain, GEnds.at, tG0, tGIf, tGYield, tIsN, tNotN, tTru, tBits, tFmtB, tRevS, tRevL, start, fin0, List.getElem?_cons_zero, List.getElem?_cons_succ, List.map_cons, List.map_nil, List.length_cons, List.length_nil, List.replicate, List.cons_append, List.nil_append, Nat.reduceSub, Nat.reduceAdd, List.set_cons_zero, List.set_cons_succ]
    refine ⟨by omega, by decide +kernel, fun T nT => ?_⟩
    rw [md]
    exact r T _ (same_new nT) upd_same
  have s06 := s05.trans s6
  have c6 : TkL H6 us6 ((circ size l1).map kA) := by
    show TkL _ us6 (List.map kA (List.map _ _))
    rw [List.map_map]
    exact h6
  -- marks
  refine lc_of ?_
  dsimp only [iRng1, tSeq, tAsg, tIfS, tRet, tRetN, tDrop, tNext, tOp, tUn, tCons, tNil, tTup, tLst, tC, tCB, tCan, tAnd, tOr, tNot, tB, tIf, uB, uAndV, uOrV, uNotV, uNeg, uV, gName, gSub, tAug, ipI, tPart, tNoPart, tSl, tBM, tBM0, uLen, uAbs, uInt, uAdd, uSub, uMod, uFdiv, uMul, uBand, uBor, uCmp, uLt, uLe, uGt, uGe, StX.tMakeR, sFld, wipe, tYes, tGThen, tPlain, GEnds.at, tG0, tGIf, tGYield, tIsN, tNotN, tTru, tBits, tFmtB, tRevS, tRevL, start, fin0, List.getElem?_cons_zero, List.getElem?_cons_succ, List.map_cons, List.map_nil, List.length_cons, List.length_nil, List.replicate, List.cons_append, List.nil_append, Nat.reduceSub, Nat.reduceAdd, List.set_cons_zero, List.set_cons_succ]
  refine ⟨_, rfl, by omega, by omega, ?_⟩
  rw [Int.toNat_natCast]
  refine lc_keys (f := fun k => kM (k, m1)) (by omega) (fun _ => rfl) (fun i H1 hi s1 R r => ?_) fun p7 us7 H7 s7 e7 h7 => ?_
  · dsimp only [tSeq, tAsg, tIfS, tRet, tRetN, tDrop, tNext, tOp, tUn, tCons, tNil, tTup, tLst, tC, tCB, tCan, tAnd, tOr, tNot, tB, tIf, uB, uAndV, uOrV, uNotV, uNeg, uV, gName, gSub, tAug, ipI, tPart, tNoPart, tSl, tBM, tBM0, uLen, uAbs, uInt, uAdd, uSub, uMod, uFdiv, uMul, uBand, uBor, uCmp, uLt, uLe, uGt, uGe, StX.tMakeR, sFld, wipe, tYes, tGThen, tPlain, GEnds.at, tG0, tGIf, tGYield, tIsN, tNotN, tTru, tBits, tFmtB, tRevS, tRevL, start, fin0, List.getElem?_cons_zero, List.getElem?_cons_succ, List.map_cons, List.map_nil, List.length_cons, List.length_nil, List.replicate, List.cons_append, List.nil_append, Nat.reduceSub, Nat.reduceAdd, List.set_cons_zero, List.set_cons_succ]
    refine (tm.keep (s06.trans s1)).ix0 ⟨by decide +kernel, fun T nT => r T _ (same_new nT) upd_same⟩
  have s07 := s06.trans s7
  have c7 : TkL H7 us7 ((marksL size m1).map kM) := by
    show TkL _ us7 (List.map kM (List.map _ _))
    rw [List.map_map]
    exact h7
  -- ring
  refine ⟨_, .inl (sqL (s7 _ _ e6)), fun q8 nq8 => ⟨_, .inl (sqL ((same_new (o := HO.lst us6) nq8) _ _ e7)), fun q9 nq9 => ?_⟩⟩
  have sq8 := same_new (o := HO.lst us6) nq8
  have sq9 := same_new (o := HO.lst us7) nq9
  intro x8 d8 nx8 nd8 ne8
  refine mk3 (wd := ringW size l1 m1) nx8 nd8 ne8 ro (GivA.same (us := us6) ⟨q8, rfl, .inl (sq9 _ _ upd_same)⟩ (c6.keep (s7.trans (sq8.trans sq9))) ro.lar (srt_A (f := fun k => (k, l1, (k + 1) % size)) (fun _ => rfl) _)) (GivM.same (us := us7) ⟨q9, rfl, .inl upd_same⟩ (c7.keep (sq8.trans sq9)) ro.lms (srt_M (f := fun k => (k, m1)) (fun _ => rfl) _)) fun H8 s8 w8 => ⟨rfl, ?_⟩
  have s78 := (sq8.trans sq9).trans s8
  have s08 := s07.trans s78
  -- due
  refine lc_of ?_
  dsimp only [iRng1, tSeq, tAsg, tIfS, tRet, tRetN, tDrop, tNext, tOp, tUn, tCons, tNil, tTup, tLst, tC, tCB, tCan, tAnd, tOr, tNot, tB, tIf, uB, uAndV, uOrV, uNotV, uNeg, uV, gName, gSub, tAug, ipI, tPart, tNoPart, tSl, tBM, tBM0, uLen, uAbs, uInt, uAdd, uSub, uMod, uFdiv, uMul, uBand, uBor, uCmp, uLt, uLe, uGt, uGe, StX.tMakeR, sFld, wipe, tYes, tGThen, tPlain, GEnds.at, tG0, tGIf, tGYield, tIsN, tNotN, tTru, tBits, tFmtB, tRevS, tRevL, start, fin0, List.getElem?_cons_zero, List.getElem?_cons_succ, List.map_cons, List.map_nil, List.length_cons, List.length_nil, List.replicate, List.cons_append, List.nil_append, Nat.reduceSub, Nat.reduceAdd, List.set_cons_zero, List.set_cons_succ]
  refine ⟨_, rfl, by omega, by omega, ?_⟩
  rw [Int.toNat_natCast]
  refine lc_keys (f := fun k => kF (rot many size k)) (by omega) (fun _ => rfl) (fun i H1 hi s1 R r => ?_) fun p9 us9 H9 s9 e9 h9 => ?_
  · dsimp only [tSeq, tAsg, tIfS, tRet, tRetN, tDrop, tNext, tOp, tUn, tCons, tNil, tTup, tLst, tC, tCB, tCan, tAnd, tOr, tNot, tB, tIf, uB, uAndV, uOrV, uNotV, uNeg, uV, gName, gSub, tAug, ipI, tPart, tNoPart, tSl, tBM, tBM0, uLen, uAbs, uInt, uAdd, uSub, uMod, uFdiv, uMul, uBand, uBor, uCmp, uLt, uLe, uGt, uGe, StX.tMakeR, sFld, wipe, tYes, tGThen, tPlain, GEnds.at, tG0, tGIf, tGYield, tIsN, tNotN, tTru, tBits, tFmtB, tRevS, tRevL, start, fin0, List.getElem?_cons_zero, List.getElem?_cons_succ, List.map_cons, List.map_nil, List.length_cons, List.length_nil, List.replicate, List.cons_append, List.nil_append, Nat.reduceSub, Nat.reduceAdd, List.set_cons_zero, List.set_cons_succ]
    refine lc_of ?_
    dsimp only [iRng1, tSeq, tAsg, tIfS, tRet, tRetN, tDrop, tNext, tOp, tUn, tCons, tNil, tTup, tLst, tC, tCB, tCan, tAnd, tOr, tNot, tB, tIf, uB, uAndV, uOrV, uNotV, uNeg, uV, gName, gSub, tAug, ipI, tPart, tNoPart, tSl, tBM, tBM0, uLen, uAbs, uInt, uAdd, uSub, uMod, uFdiv, uMul, uBand, uBor, uCmp, uLt, uLe, uGt, uGe, StX.tMakeR, sFld, wipe, tYes, tGThen, tPlain, GEnds.at, tG0, tGIf, tGYield, tIsN, tNotN, tTru, tBits, tFmtB, tRevS, tRevL, start, fin0, List.getElem?_cons_zero, List.getElem?_cons_succ, List.map_cons, List.map_nil, List.length_cons, List.length_nil, List.replicate, List.cons_append, List.nil_append, Nat.reduceSub, Nat.reduceAdd, List.set_cons_zero, List.set_cons_succ]
    refine ⟨_, rfl, by omega, by omega, ?_⟩
    rw [Int.toNat_natCast]
    refine lc_nats (f := fun k => (i + k) % size) (by omega) (fun _ => rfl) (fun k H2 hk s2 R2 r2 => ?_) fun p2 H2 s2 e2 => ?_
    · dsimp only [uAddA, tSeq, tAsg, tIfS, tRet, tRetN, tDrop, tNext, tOp, tUn, tCons, tNil, tTup, tLst, tC, tCB, tCan, tAnd, tOr, tNot, tB, tIf, uB, uAndV, uOrV, uNotV, uNeg, uV, gName, gSub, tAug, ipI, tPart, tNoPart, tSl, tBM, tBM0, uLen, uAbs, uInt, uAdd, uSub, uMod, uFdiv, uMul, uBand, uBor, uCmp, uLt, uLe, uGt, uGe, StX.tMakeR, sFld, wipe, tYes, tGThen, tPlain, GEnds.at, tG0, tGIf, tGYield, tIsN, tNotN, tTru, tBits, tFmtB, tRevS, tRevL, start, fin0, List.getElem?_cons_zero, List.getElem?_cons_succ, List.map_cons, List.map_nil, List.length_cons, List.length_nil, List.replicate, List.cons_append, List.nil_append, Nat.reduceSub, Nat.reduceAdd, List.set_cons_zero, List.set_cons_succ]
      refine ⟨by omega, ?_⟩
      rw [show ((i : Int) + (k : Int)) % (size : Int) = (((i + k) % size : Nat) : Int) by rw [Int.natCast_emod]; rfl]
      exact r2
    · refine ⟨_, sqL e2, fun T nT => r T _ (s2.trans (same_new nT)) ?_⟩
      rw [upd_same, kF_map]
      rfl
  have s09 := s08.trans s9
  have d9 : TkL H9 us9 ((rots many size).map kF) := by
    show TkL _ us9 (List.map kF (List.map _ _))
    rw [List.map_map]
    exact h9
  have w19 := w5.keep (s6.trans (s7.trans (s78.trans s9)))
  have w29 := w8.keep s9
  have dl : ∀ {al : Al} {y : Wd}, ∀ f ∈ due (chainW many l1 m1) y al, f.length ≤ 200 := fun f hf => by
    rw [due_len hf]
    show many ≤ 200
    omega
  have r1 := due1 (many := many) (size := size) (l := l1) (s := m1) (by omega) n3
  have few1 : (due (chainW many l1 m1) (ringW size l1 m1) none).length ≤ 10000 := by rw [r1, rots_len]; omega
  obtain ⟨z, z1, z2⟩ := fst_at d9 (fun e => by have := congrArg List.length e; rw [rots_len] at this; exact absurd this (by simp; omega))
  refine listG_ok (fun R h => h) w19 w29 co ro few1 fun p10 us10 H10 s10 e10 h10 => ?_
  refine ⟨_, _, rfl, first_ok (w19.keep s10) (w29.keep s10) (al := none) rfl .none co ro fun u11 H11 s11 f11 => ?_⟩
  refine ⟨by decide +kernel, fun T5 nT5 => ?_⟩
  have sT5 := same_new (o := HO.lst [.ref p10, u11]) nT5
  have s95 := s10.trans (s11.trans sT5)
  refine ix_lst (s95 _ _ e9) (atI_nat (j := 0) z1) ⟨by decide +kernel, fun T6 nT6 => ?_⟩
  have sT6 := same_new (o := HO.lst [.ref p9, z]) nT6
  have s115 := s11.trans (sT5.trans sT6)
  have s96 := s10.trans s115
  rw [r1] at h10 f11
  have rl : ∀ f ∈ rots many size, f.length ≤ 200 := fun f hf => by rw [rots_row f hf]; omega
  have fewR : (rots many size).length ≤ 10000 := by rw [rots_len]; omega
  refine ⟨_, _, rfl, same_told (get_new upd_same nT6) upd_same (s115 _ _ e10) (h10.keep s115) (s96 _ _ e9) (d9.keep s96) (f11.keep (sT5.trans sT6)) (z2.keep s96) fewR rl, ifF rfl ?_⟩
  have s012 := s09.trans s96
  have w12 := w19.keep s96
  have w22 := w29.keep s96
  have e12 := s96 _ _ e9
  have d12 := d9.keep s96
  have z12 := z2.keep s96
  generalize hH12 : upd (upd H11 T5 (HO.lst [.ref p10, u11])) T6 (HO.lst [.ref p9, z]) = H12 at *
  -- lists
  refine lc_of ?_
  dsimp only [iRng1, tSeq, tAsg, tIfS, tRet, tRetN, tDrop, tNext, tOp, tUn, tCons, tNil, tTup, tLst, tC, tCB, tCan, tAnd, tOr, tNot, tB, tIf, uB, uAndV, uOrV, uNotV, uNeg, uV, gName, gSub, tAug, ipI, tPart, tNoPart, tSl, tBM, tBM0, uLen, uAbs, uInt, uAdd, uSub, uMod, uFdiv, uMul, uBand, uBor, uCmp, uLt, uLe, uGt, uGe, StX.tMakeR, sFld, wipe, tYes, tGThen, tPlain, GEnds.at, tG0, tGIf, tGYield, tIsN, tNotN, tTru, tBits, tFmtB, tRevS, tRevL, start, fin0, List.getElem?_cons_zero, List.getElem?_cons_succ, List.map_cons, List.map_nil, List.length_cons, List.length_nil, List.replicate, List.cons_append, List.nil_append, Nat.reduceSub, Nat.reduceAdd, List.set_cons_zero, List.set_cons_succ]
  refine ⟨_, rfl, by omega, by omega, ?_⟩
  rw [em, show (nV0 (many - 1)).toNat = many - 1 from Int.toNat_natCast _]
  refine lc_nons (by omega) (fun _ => rfl) (fun i H1 hi R r => r) fun p13 H13 s13 e13 => ?_
  refine ⟨by decide +kernel, fun T7 nT7 => ⟨by decide +kernel, fun T8 nT8 => ?_⟩⟩
  have sT7 := same_new (o := HO.lst [nV last]) nT7
  have sT8 := same_new (o := HO.lst [.ref T7]) nT8
  dsimp only [uAddA]
  refine .inl ⟨_, _, (sT7.trans sT8) _ _ e13, upd_same, by rw [List.length_replicate, sizeLine_eq]; simp; omega, fun p14 n14 => ?_⟩
  have s14 := same_new (o := HO.lst (List.replicate (many - 1) .non ++ [.ref T7])) n14
  have s1214 := s13.trans (sT7.trans (sT8.trans s14))
  have a14 := al_last (H := upd (upd (upd H13 T7 (.lst [nV last])) T8 (.lst [.ref T7])) p14 (.lst (List.replicate (many - 1) .non ++ [.ref T7]))) (s := [last]) (show 1 ≤ many by omega) upd_same ((sT8.trans s14) _ _ upd_same)
  have o14 : AlOk (some (lastAl many [last])) (chainW many l1 m1).n (ringW size l1 m1).n := lastAl_ok (by omega) fun p hp => by cases List.mem_singleton.mp hp; exact n5
  have e714 := (sT8.trans s14) _ _ (upd_same (H := H13) (a := T7) (o := .lst [nV last]))
  have e14 : upd (upd (upd H13 T7 (.lst [nV last])) T8 (.lst [.ref T7])) p14 (.lst (List.replicate (many - 1) .non ++ [.ref T7])) p14 = some (.lst (List.replicate (many - 1) .non ++ [.ref T7])) := upd_same
  generalize hH14 : upd (upd (upd H13 T7 (.lst [nV last])) T8 (.lst [.ref T7])) p14 (.lst (List.replicate (many - 1) .non ++ [.ref T7])) = H14 at *
  -- one
  refine lc_of ?_
  dsimp only [iList, tSeq, tAsg, tIfS, tRet, tRetN, tDrop, tNext, tOp, tUn, tCons, tNil, tTup, tLst, tC, tCB, tCan, tAnd, tOr, tNot, tB, tIf, uB, uAndV, uOrV, uNotV, uNeg, uV, gName, gSub, tAug, ipI, tPart, tNoPart, tSl, tBM, tBM0, uLen, uAbs, uInt, uAdd, uSub, uMod, uFdiv, uMul, uBand, uBor, uCmp, uLt, uLe, uGt, uGe, StX.tMakeR, sFld, wipe, tYes, tGThen, tPlain, GEnds.at, tG0, tGIf, tGYield, tIsN, tNotN, tTru, tBits, tFmtB, tRevS, tRevL, start, fin0, List.getElem?_cons_zero, List.getElem?_cons_succ, List.map_cons, List.map_nil, List.length_cons, List.length_nil, List.replicate, List.cons_append, List.nil_append, Nat.reduceSub, Nat.reduceAdd, List.set_cons_zero, List.set_cons_succ]
  refine ⟨p9, rfl, ⟨_, sqL (s1214 _ _ e12)⟩, ?_⟩
  refine lc_rows (p := atLast many last) (s1214 _ _ e12) (d12.keep s1214) fewR (fun _ => rfl) (fun f b H1 hf hb D d => ?_) (fun b H1 R r => r) fun p15 us15 H15 s15 e15 h15 => ?_
  · dsimp only [tSeq, tAsg, tIfS, tRet, tRetN, tDrop, tNext, tOp, tUn, tCons, tNil, tTup, tLst, tC, tCB, tCan, tAnd, tOr, tNot, tB, tIf, uB, uAndV, uOrV, uNotV, uNeg, uV, gName, gSub, tAug, ipI, tPart, tNoPart, tSl, tBM, tBM0, uLen, uAbs, uInt, uAdd, uSub, uMod, uFdiv, uMul, uBand, uBor, uCmp, uLt, uLe, uGt, uGe, StX.tMakeR, sFld, wipe, tYes, tGThen, tPlain, GEnds.at, tG0, tGIf, tGYield, tIsN, tNotN, tTru, tBits, tFmtB, tRevS, tRevL, start, fin0, List.getElem?_cons_zero, List.getElem?_cons_succ, List.map_cons, List.map_nil, List.length_cons, List.length_nil, List.replicate, List.cons_append, List.nil_append, Nat.reduceSub, Nat.reduceAdd, List.set_cons_zero, List.set_cons_succ]
    refine last_ix (by omega) em (rots_row f hf) hb ?_
    show D (decide ((f.getD (many - 1) 0 : Int) = (last : Int))) H1
    have e : decide (((f.getD (many - 1) 0 : Nat) : Int) = (last : Int)) = atLast many last f := by unfold atLast; exact decide_eq_decide.mpr (by omega)
    rw [e]
    exact d
  have r2 := due2 (many := many) (size := size) (l := l1) (s := m1) (last := last) (by omega) n3
  have fl : ∀ {p : List Nat → Bool}, ((rots many size).filter p).length ≤ 10000 := by intro p; exact Nat.le_trans (List.length_filter_le ..) fewR
  have rl2 : ∀ {p : List Nat → Bool}, ∀ f ∈ (rots many size).filter p, f.length ≤ 200 := fun f hf => rl f (List.mem_filter.mp hf).1
  have s1215 := s1214.trans s15
  have w115 := w12.keep s1215
  have w215 := w22.keep s1215
  refine listK_ok (fun R h => h) (fun R h => h) w115 w215 (a14.keep s15) o14 co ro (by rw [r2]; exact fl) fun p16 us16 H16 s16 e16 h16 => ?_
  refine firstK_ok (fun R h => h) (fun R h => h) (w115.keep s16) (w215.keep s16) (a14.keep (s15.trans s16)) o14 co ro fun u17 H17 s17 f17 => ?_
  rw [r2] at h16 f17
  refine ⟨by decide +kernel, fun T9 nT9 => ?_⟩
  have sT9 := same_new (o := HO.lst [.ref p16, u17]) nT9
  obtain ⟨y, y1, y2⟩ := fst_at h15 (last_ne (show 1 ≤ many by omega) n5)
  have s159 := s16.trans (s17.trans sT9)
  refine ix_lst (s159 _ _ e15) (atI_nat (j := 0) y1) ⟨by decide +kernel, fun T10 nT10 => ?_⟩
  have sT10 := same_new (o := HO.lst [.ref p15, y]) nT10
  have s1710 := s17.trans (sT9.trans sT10)
  have s1510 := s16.trans s1710
  refine ⟨_, _, rfl, same_told (get_new upd_same nT10) upd_same (s1710 _ _ e16) (h16.keep s1710) (s1510 _ _ e15) (h15.keep s1510) (f17.keep (sT9.trans sT10)) (y2.keep s1510) fl rl2, ifF rfl ?_⟩
  have s1418 := s15.trans s1510
  have s018 := s012.trans (s1214.trans s1418)
  generalize hH18 : upd (upd H17 T9 (HO.lst [.ref p16, u17])) T10 (HO.lst [.ref p15, y]) = H18 at *
  have s718 := s78.trans (s9.trans (s96.trans (s1214.trans s1418)))
  have c618 := c6.keep (s7.trans s718)
  have c718 := c7.keep s718
  have e618 := (s7.trans s718) _ _ e6
  have e718 := s718 _ _ e7
  -- bare
  refine ⟨_, .inl (sqL e618), fun q19 nq19 => ?_⟩
  have s19 := same_new (o := HO.lst us6) nq19
  refine ⟨_, rfl, _, sqL (s19 _ _ e718), fun q20 nq20 => ?_⟩
  rw [cutV_to]
  have s20 := same_new (o := HO.lst (us7.take last)) nq20
  dsimp only [uAddA, tSeq, tAsg, tIfS, tRet, tRetN, tDrop, tNext, tOp, tUn, tCons, tNil, tTup, tLst, tC, tCB, tCan, tAnd, tOr, tNot, tB, tIf, uB, uAndV, uOrV, uNotV, uNeg, uV, gName, gSub, tAug, ipI, tPart, tNoPart, tSl, tBM, tBM0, uLen, uAbs, uInt, uAdd, uSub, uMod, uFdiv, uMul, uBand, uBor, uCmp, uLt, uLe, uGt, uGe, StX.tMakeR, sFld, wipe, tYes, tGThen, tPlain, GEnds.at, tG0, tGIf, tGYield, tIsN, tNotN, tTru, tBits, tFmtB, tRevS, tRevL, start, fin0, List.getElem?_cons_zero, List.getElem?_cons_succ, List.map_cons, List.map_nil, List.length_cons, List.length_nil, List.replicate, List.cons_append, List.nil_append, Nat.reduceSub, Nat.reduceAdd, List.set_cons_zero, List.set_cons_succ]
  refine ⟨_, rfl, _, sqL ((s19.trans s20) _ _ e718), fun q21 nq21 => ?_⟩
  rw [show ((last : Int) + 1) = ((last + 1 : Nat) : Int) by omega, cutV_from]
  have s21 := same_new (o := HO.lst (us7.drop (last + 1))) nq21
  have l7 : us7.length = size := by
    have := c7.len
    rw [List.length_map] at this
    unfold marksL at this
    rw [List.length_map, List.length_range] at this
    exact this
  refine .inl ⟨_, _, s21 _ _ upd_same, upd_same, by rw [List.length_take, List.length_drop, sizeLine_eq]; omega, fun q22 nq22 => ?_⟩
  have s22 := same_new (o := HO.lst (us7.take last ++ us7.drop (last + 1))) nq22
  have s1922 := s19.trans (s20.trans (s21.trans s22))
  intro x23 d23 nx23 nd23 ne23
  refine mk3 (wd := bareW size last l1 m1) nx23 nd23 ne23 bo (GivA.same (us := us6) ⟨q19, rfl, .inl ((s20.trans (s21.trans s22)) _ _ upd_same)⟩ (c618.keep s1922) ro.lar (srt_A (f := fun k => (k, l1, (k + 1) % size)) (fun _ => rfl) _)) (GivM.same (us := us7.take last ++ us7.drop (last + 1)) ⟨q22, rfl, .inl upd_same⟩ ?_ bo.lms (bare_srt size last m1)) fun H23 s23 w23 => ⟨rfl, ?_⟩
  · show TkL _ _ ((bareM size last m1).map kM)
    unfold bareM
    rw [List.map_append, List.map_take, List.map_drop]
    exact ((c718.sub (fun l => l.take last) (fun g l => List.map_take ..) (fun l x h => List.mem_of_mem_take h)).app (c718.sub (fun l => l.drop (last + 1)) (fun g l => List.map_drop ..) (fun l x h => List.mem_of_mem_drop h))).keep s1922
  have s1823 := s1922.trans s23
  have s023 := s018.trans s1823
  have s1223 := s1214.trans (s1418.trans s1823)
  -- left
  refine lc_of ?_
  dsimp only [iList, tSeq, tAsg, tIfS, tRet, tRetN, tDrop, tNext, tOp, tUn, tCons, tNil, tTup, tLst, tC, tCB, tCan, tAnd, tOr, tNot, tB, tIf, uB, uAndV, uOrV, uNotV, uNeg, uV, gName, gSub, tAug, ipI, tPart, tNoPart, tSl, tBM, tBM0, uLen, uAbs, uInt, uAdd, uSub, uMod, uFdiv, uMul, uBand, uBor, uCmp, uLt, uLe, uGt, uGe, StX.tMakeR, sFld, wipe, tYes, tGThen, tPlain, GEnds.at, tG0, tGIf, tGYield, tIsN, tNotN, tTru, tBits, tFmtB, tRevS, tRevL, start, fin0, List.getElem?_cons_zero, List.getElem?_cons_succ, List.map_cons, List.map_nil, List.length_cons, List.length_nil, List.replicate, List.cons_append, List.nil_append, Nat.reduceSub, Nat.reduceAdd, List.set_cons_zero, List.set_cons_succ]
  refine ⟨p9, rfl, ⟨_, sqL (s1223 _ _ e12)⟩, ?_⟩
  refine lc_rows (p := fun f => !atLast many last f) (s1223 _ _ e12) (d12.keep s1223) fewR (fun _ => rfl) (fun f b H1 hf hb D d => ?_) (fun b H1 R r => r) fun p24 us24 H24 s24 e24 h24 => ?_
  · dsimp only [tSeq, tAsg, tIfS, tRet, tRetN, tDrop, tNext, tOp, tUn, tCons, tNil, tTup, tLst, tC, tCB, tCan, tAnd, tOr, tNot, tB, tIf, uB, uAndV, uOrV, uNotV, uNeg, uV, gName, gSub, tAug, ipI, tPart, tNoPart, tSl, tBM, tBM0, uLen, uAbs, uInt, uAdd, uSub, uMod, uFdiv, uMul, uBand, uBor, uCmp, uLt, uLe, uGt, uGe, StX.tMakeR, sFld, wipe, tYes, tGThen, tPlain, GEnds.at, tG0, tGIf, tGYield, tIsN, tNotN, tTru, tBits, tFmtB, tRevS, tRevL, start, fin0, List.getElem?_cons_zero, List.getElem?_cons_succ, List.map_cons, List.map_nil, List.length_cons, List.length_nil, List.replicate, List.cons_append, List.nil_append, Nat.reduceSub, Nat.reduceAdd, List.set_cons_zero, List.set_cons_succ]
    refine last_ix (by omega) em (rots_row f hf) hb ?_
    show D (!decide ((f.getD (many - 1) 0 : Int) = (last : Int))) H1
    have e : decide (((f.getD (many - 1) 0 : Nat) : Int) = (last : Int)) = atLast many last f := by unfold atLast; exact decide_eq_decide.mpr (by omega)
    rw [e]
    exact d
  have r3 := due3 (many := many) (size := size) (l := l1) (s := m1) (last := last) (by omega) n3
  have w124 := w12.keep (s1223.trans s24)
  have w324 := w23.keep s24
  refine listG_ok (fun R h => h) w124 w324 co bo (by rw [r3]; exact fl) fun p25 us25 H25 s25 e25 h25 => ?_
  refine ⟨_, _, rfl, first_ok (w124.keep s25) (w324.keep s25) (al := none) rfl .none co bo fun u26 H26 s26 f26 => ?_⟩
  rw [r3] at h25 f26
  refine ⟨by decide +kernel, fun T11 nT11 => ?_⟩
  have sT11 := same_new (o := HO.lst [.ref p25, u26]) nT11
  have s2411 := s25.trans (s26.trans sT11)
  refine ⟨by decide +kernel, least_ok (s2411 _ _ e24) (h24.keep s2411) fl fun v27 H27 s27 f27 => ⟨by decide +kernel, fun T12 nT12 => ?_⟩⟩
  have sT12 := same_new (o := HO.lst [.ref p24, v27]) nT12
  have s2712 := s27.trans sT12
  have s2612 := s26.trans (sT11.trans s2712)
  have s2412 := s2411.trans s2712
  refine ⟨_, _, rfl, same_told (s2712 _ _ upd_same) upd_same (s2612 _ _ e25) (h25.keep s2612) (s2412 _ _ e24) (h24.keep s2412) (f26.keep (sT11.trans s2712)) (f27.keep sT12) fl rl2, ifF rfl ?_⟩
  have s1428 := s1418.trans (s1823.trans (s24.trans s2412))
  have s028 := s012.trans (s1214.trans s1428)
  have e1428 := s1428 _ _ e14
  have w128 := w12.keep (s1214.trans s1428)
  have w228 := w22.keep (s1214.trans s1428)
  generalize hH28 : upd H27 T12 (HO.lst [.ref p24, v27]) = H28 at *
  -- lists[many - 1] = []
  refine ⟨by decide +kernel, fun T13 nT13 => ?_⟩
  have sT13 := same_new (o := HO.lst []) nT13
  refine ⟨p14, _, _, many - 1, rfl, rfl, sT13 _ _ e1428, ?_, ?_⟩
  · exact ixN_nat (by rw [List.length_append, List.length_replicate]; simp)
  have n1214 : H12 p14 = none := none_old (s13.trans (sT7.trans sT8)) n14
  have s1229 := same_upd (o := HO.lst (List.set (List.replicate (many - 1) .non ++ [.ref T7]) (many - 1) (.ref T13))) (s1214.trans (s1428.trans sT13)) n1214
  have s029 := s012.trans s1229
  have w129 := w12.keep s1229
  have w229 := w22.keep s1229
  have np13 : T13 ≠ p14 := fun z => by rw [z, e1428] at nT13; cases nT13
  have a29 := al_last (H := upd (upd H28 T13 (.lst [])) p14 (.lst (List.set (List.replicate (many - 1) .non ++ [.ref T7]) (many - 1) (.ref T13)))) (p := p14) (e := T13) (many := many) (s := []) (by omega) (by
    rw [upd_same, List.set_append_right _ _ (by rw [List.length_replicate]; exact Nat.le_refl _), List.length_replicate, Nat.sub_self]
    rfl) (by rw [upd_ne np13]; exact upd_same)
  have o29 : AlOk (some (lastAl many [])) (chainW many l1 m1).n (ringW size l1 m1).n := lastAl_ok (by omega) fun p hp => by cases hp
  have r4 := due4 (many := many) (size := size) (l := l1) (s := m1) (by omega) n3
  refine listK_ok (fun R h => h) (fun R h => h) w129 w229 a29 o29 co ro (by rw [r4]; exact Nat.zero_le _) fun p30 us30 H30 s30 e30 h30 => ?_
  refine firstK_ok (fun R h => h) (fun R h => h) (w129.keep s30) (w229.keep s30) (a29.keep s30) o29 co ro fun u31 H31 s31 f31 => ?_
  rw [r4] at h30 f31
  refine ⟨by decide +kernel, fun T14 nT14 => ⟨by decide +kernel, fun T15 nT15 => ⟨by decide +kernel, fun T16 nT16 => ?_⟩⟩⟩
  have sT14 := same_new (o := HO.lst [.ref p30, u31]) nT14
  have sT15 := same_new (o := HO.lst []) nT15
  have sT16 := same_new (o := HO.lst [.ref T15, .non]) nT16
  have s3116 := s31.trans (sT14.trans (sT15.trans sT16))
  exact ⟨_, _, rfl, same_told ((sT15.trans sT16) _ _ upd_same) upd_same (s3116 _ _ e30) (h30.keep s3116) (sT16 _ _ upd_same) .nil (f31.keep (sT14.trans (sT15.trans sT16))) rfl (Nat.zero_le _) (fun f h => by cases h), q _ (s029.trans (s30.trans s3116))⟩
end
end L2.WB
namespace L2.WB
open PySem PySem.Spec PyProof.Rows L2.XS L2.XB
open K19 (isL isK prodL)
def pointW : Wd := ⟨1, [], []⟩
def loopW (l : Nat) : Wd := ⟨1, [(0, l, 0)], []⟩
def pairW (l : Nat) : Wd := ⟨2, [(0, l, 1)], []⟩
theorem point_ok : pointW.Ok := ⟨by decide, by decide, (fun a h => by cases h), (fun a h => by cases h), by decide, by decide⟩
theorem loop_ok {l : Nat} (h : K19.isL l = true) : (loopW l).Ok := ⟨(show 1 ≤ 1 by decide), (show 1 ≤ 200 by decide), fun a ha => by cases List.mem_singleton.mp ha; exact ⟨(show 0 < 1 by decide), h, (show 0 < 1 by decide)⟩, (fun a h => by cases h), (show 1 ≤ 1000 by decide), (show 0 ≤ 1000 by decide)⟩
theorem pair_ok {l : Nat} (h : K19.isL l = true) : (pairW l).Ok := ⟨(show 1 ≤ 2 by decide), (show 2 ≤ 200 by decide), fun a ha => by cases List.mem_singleton.mp ha; exact ⟨(show 0 < 2 by decide), h, (show 1 < 2 by decide)⟩, (fun a h => by cases h), (show 1 ≤ 1000 by decide), (show 0 ≤ 1000 by decide)⟩
theorem fx1 {l : Nat} : due pointW (pairW l) none = [[0], [1]] := by
  simp [due, List.filter_cons, prodL, dom0, alB, alOf, good, goodA, goodM, pointW, pairW, List.range_succ, List.range_zero]
theorem fx2 {l : Nat} : due (pairW l) (loopW l) none = [[0, 0]] := by
  simp [due, List.filter_cons, prodL, dom0, alB, alOf, good, goodA, goodM, loopW, pairW, List.range_succ, List.range_zero]
theorem fx3 {l : Nat} : due (loopW l) (pairW l) none = [] := by
  simp [due, List.filter_cons, prodL, dom0, alB, alOf, good, goodA, goodM, loopW, pairW, List.range_succ, List.range_zero]
theorem fx4 {l m : Nat} (h : l ≠ m) : due (loopW l) (loopW m) none = [] := by
  simp [due, List.filter_cons, prodL, dom0, alB, alOf, good, goodA, goodM, loopW, pairW, List.range_succ, List.range_zero, h]
theorem SameD.lst {H : Hp} {n : Nat} {a b : Addr} {us ws : List V} (ha : H a = some (.lst us)) (hb : H b = some (.lst ws)) (hl : us.length = ws.length) (hm : us.length ≤ 100000) (h : ∀ (i : Nat) (x y : V), us[i]? = some x → ws[i]? = some y → SameD H n x y) : SameD H (n + 1) (.ref a) (.ref b) :=
  .inr (.inr (.inr ⟨a, b, us, ws, rfl, rfl, .inl ⟨ha, hb⟩, hl, hm, h⟩))
section
variable {P : Program} {w : World} {K : PySem.W.Frag} {c : Ad} {H : Hp} {Q : VK} {E : XK} {vs : List V} {T1 T2 : V}
theorem TwoAt.ix1 {v : V} {y z : Nat} (h : TwoAt H v y z) (q : Q (sV z) H) : uIx K v (.int 1) H Q := by
  obtain ⟨a, rfl, e⟩ := h
  exact ix_lst e (atI_nat (j := 1) rfl) q
def spFixed : Sp := fun vs H Q _ => ∃ (vl : V) (l1 l2 : Nat), vs = [vl] ∧ TwoAt H vl l1 l2 ∧ K19.isL l1 = true ∧ K19.isL l2 = true ∧ l1 ≠ l2 ∧ ∀ H2, Same H H2 → Q (.bl true) H2
theorem q__law_fixed (F : WebF K c) (t1 : Emp K T1) (t2 : Emp K T2) (h : spFixed vs H Q E) : t__law_fixed P w K c (spFirst2 c) (spSame 5) (spMk K c T1 T2) (spLead c) (fin0 Q) (start N__law_fixed vs) H := by
  obtain ⟨vl, l1, l2, rfl, tl, g1, g2, ne, q⟩ := h
  show t__law_fixed P w K c (spFirst2 c) (spSame 5) (spMk K c T1 T2) (spLead c) (fin0 Q) [some vl, none, none, none, none] H
  dsimp only [t__law_fixed, tSeq, tAsg, tIfS, tRet, tRetN, tDrop, tNext, tOp, tUn, tCons, tNil, tTup, tLst, tC, tCB, tCan, tAnd, tOr, tNot, tB, tIf, uB, uAndV, uOrV, uNotV, uNeg, uV, gName, gSub, tAug, ipI, tPart, tNoPart, tSl, tBM, tBM0, uLen, uAbs, uInt, uAdd, uSub, uMod, uFdiv, uMul, uBand, uBor, uCmp, uLt, uLe, uGt, uGe, StX.tMakeR, sFld, wipe, tYes, tGThen, tPlain, GEnds.at, tG0, tGIf, tGYield, tIsN, tNotN, tTru, tBits, tFmtB, tRevS, tRevL, start, fin0, List.getElem?_cons_zero, List.getElem?_cons_succ, List.map_cons, List.map_nil, List.length_cons, List.length_nil, List.replicate, List.cons_append, List.nil_append, Nat.reduceSub, Nat.reduceAdd, List.set_cons_zero, List.set_cons_succ]
  intro x1 d1 nx1 nd1 ne1
  refine mk1 (wd := pointW) t1 t2 rfl rfl nx1 nd1 ne1 point_ok fun H1 s1 w1 => ⟨rfl, ?_⟩
  refine (tl.keep s1).ix0 ⟨by decide +kernel, fun T3 nT3 => ⟨by decide +kernel, fun T4 nT4 => ?_⟩⟩
  have s34 := (same_new (o := HO.tup [.int 0, sV l1, .int 0]) nT3).trans (same_new (o := HO.lst [.ref T3]) nT4)
  intro x2 d2 nx2 nd2 ne2
  refine mk2 (wd := loopW l1) t2 rfl nx2 nd2 ne2 (loop_ok g1) (GivA.same (us := [.ref T3]) ⟨T4, rfl, .inl upd_same⟩ (TkL.nil.snoc (k := kA (0, l1, 0)) (get_new upd_same nT4)) (show 1 ≤ 1000 by decide) (List.pairwise_singleton _ _)) fun H2 s2 w2 => ⟨rfl, ?_⟩
  have s02 := s1.trans (s34.trans s2)
  refine (tl.keep s02).ix0 ⟨by decide +kernel, fun T5 nT5 => ⟨by decide +kernel, fun T6 nT6 => ?_⟩⟩
  have s56 := (same_new (o := HO.tup [.int 0, sV l1, .int 1]) nT5).trans (same_new (o := HO.lst [.ref T5]) nT6)
  intro x3 d3 nx3 nd3 ne3
  refine mk2 (wd := pairW l1) t2 rfl nx3 nd3 ne3 (pair_ok g1) (GivA.same (us := [.ref T5]) ⟨T6, rfl, .inl upd_same⟩ (TkL.nil.snoc (k := kA (0, l1, 1)) (get_new upd_same nT6)) (show 1 ≤ 1000 by decide) (List.pairwise_singleton _ _)) fun H3 s3 w3 => ⟨rfl, ?_⟩
  have s23 := s56.trans s3
  have s03 := s02.trans s23
  have w13 := w1.keep (s34.trans (s2.trans s23))
  have w23 := w2.keep s23
  refine listG_ok (fun R h => h) w13 w3 point_ok (pair_ok g1) (by rw [fx1]; exact (show 2 ≤ 10000 by decide)) fun p4 us4 H4 s4 e4 h4 => ?_
  refine listG_ok (fun R h => h) (w3.keep s4) (w23.keep s4) (pair_ok g1) (loop_ok g1) (by rw [fx2]; exact (show 1 ≤ 10000 by decide)) fun p5 us5 H5 s5 e5 h5 => ?_
  have s45 := s4.trans s5
  refine listG_ok (fun R h => h) (w23.keep s45) (w3.keep s45) (loop_ok g1) (pair_ok g1) (by rw [fx3]; exact Nat.zero_le _) fun p6 us6 H6 s6 e6 h6 => ?_
  refine ⟨by decide +kernel, fun T7 nT7 => ?_⟩
  have sT7 := same_new (o := HO.lst [.ref p4, .ref p5, .ref p6]) nT7
  have s37 := s45.trans (s6.trans sT7)
  refine ⟨_, _, rfl, first_ok (w3.keep s37) (w23.keep s37) (al := none) rfl .none (pair_ok g1) (loop_ok g1) fun u8 H8 s8 f8 => ?_⟩
  have s38 := s37.trans s8
  refine ⟨_, _, rfl, first_ok (w23.keep s38) (w3.keep s38) (al := none) rfl .none (loop_ok g1) (pair_ok g1) fun u9 H9 s9 f9 => ?_⟩
  have s39 := s38.trans s9
  refine (tl.keep (s03.trans s39)).ix1 ⟨by decide +kernel, fun T10 nT10 => ⟨by decide +kernel, fun T11 nT11 => ?_⟩⟩
  have s1011 := (same_new (o := HO.tup [.int 0, sV l2, .int 0]) nT10).trans (same_new (o := HO.lst [.ref T10]) nT11)
  intro x4 d4 nx4 nd4 ne4
  refine mk2 (wd := loopW l2) t2 rfl nx4 nd4 ne4 (loop_ok g2) (GivA.same (us := [.ref T10]) ⟨T11, rfl, .inl upd_same⟩ (TkL.nil.snoc (k := kA (0, l2, 0)) (get_new upd_same nT11)) (show 1 ≤ 1000 by decide) (List.pairwise_singleton _ _)) fun H12 s12 w4 => ⟨rfl, ?_⟩
  have s912 := s1011.trans s12
  have s312 := s39.trans s912
  refine ⟨_, _, rfl, first_ok (w23.keep s312) w4 (al := none) rfl .none (loop_ok g1) (loop_ok g2) fun u13 H13 s13 f13 => ?_⟩
  rw [fx1] at h4
  rw [fx2] at h5 f8
  rw [fx3] at h6 f9
  rw [fx4 ne] at f13
  refine ⟨by decide +kernel, fun T14 nT14 => ?_⟩
  have sT14 := same_new (o := HO.lst [u8, u9, u13]) nT14
  have s814 := s9.trans (s912.trans (s13.trans sT14))
  dsimp only [uAddA]
  refine .inl ⟨_, _, (s8.trans s814) _ _ upd_same, upd_same, (show 6 ≤ sizeLine by decide +kernel), fun T15 nT15 => ?_⟩
  have s15 := same_new (o := HO.lst ([.ref p4, .ref p5, .ref p6] ++ [u8, u9, u13])) nT15
  have s715 := s8.trans (s814.trans s15)
  refine ⟨by decide +kernel, fun A1 nA1 => ⟨by decide +kernel, fun A2 nA2 => ⟨by decide +kernel, fun A3 nA3 => ⟨by decide +kernel, fun A4 nA4 => ⟨by decide +kernel, fun A5 nA5 => ⟨by decide +kernel, fun A6 nA6 => ⟨by decide +kernel, fun A7 nA7 => ⟨by decide +kernel, fun A8 nA8 => ?_⟩⟩⟩⟩⟩⟩⟩⟩
  have a1 := same_new (o := HO.tup [.int 0]) nA1
  have a2 := same_new (o := HO.tup [.int 1]) nA2
  have a3 := same_new (o := HO.lst [.ref A1, .ref A2]) nA3
  have a4 := same_new (o := HO.tup [.int 0, .int 0]) nA4
  have a5 := same_new (o := HO.lst [.ref A4]) nA5
  have a6 := same_new (o := HO.lst []) nA6
  have a7 := same_new (o := HO.tup [.int 0, .int 0]) nA7
  have a8 := same_new (o := HO.lst [.ref A3, .ref A5, .ref A6, .ref A7, .non, .non]) nA8
  have a38 := a4.trans (a5.trans (a6.trans (a7.trans a8)))
  have a18 := a1.trans (a2.trans (a3.trans a38))
  have s718 := s715.trans a18
  have k1 : TkL _ [.ref A1, .ref A2] (([[0], [1]] : List (List Nat)).map kF) := (TkL.nil.snoc (k := kF [0]) ((a2.trans (a3.trans a38)) _ _ upd_same)).snoc (k := kF [1]) ((a3.trans a38) _ _ upd_same)
  have k2 : TkL _ [.ref A4] (([[0, 0]] : List (List Nat)).map kF) := TkL.nil.snoc (k := kF [0, 0]) ((a5.trans (a6.trans (a7.trans a8))) _ _ upd_same)
  have s48 := s5.trans (s6.trans (sT7.trans s718))
  refine ⟨_, _, rfl, SameD.lst (n := 4) (a18 _ _ upd_same) upd_same rfl (show 6 ≤ 100000 by decide) fun i x y ex ey => ?_, q _ (s03.trans (s37.trans s718))⟩
  match i, ex, ey with
  | 0, ex, ey =>
    cases ex; cases ey
    exact (SameD.tk (n := 0) (.inl ⟨s48 _ _ e4, a38 _ _ upd_same⟩) (h4.keep s48) k1 (show 2 ≤ 100000 by decide) (fun k hk => by simp at hk; rcases hk with rfl | rfl <;> decide)).mono (by decide)
  | 1, ex, ey =>
    cases ex; cases ey
    exact (SameD.tk (n := 0) (.inl ⟨(s6.trans (sT7.trans s718)) _ _ e5, (a6.trans (a7.trans a8)) _ _ upd_same⟩) (h5.keep (s6.trans (sT7.trans s718))) k2 (show 1 ≤ 100000 by decide) (fun k hk => by simp at hk; subst hk; decide)).mono (by decide)
  | 2, ex, ey =>
    cases ex; cases ey
    exact (SameD.tk (n := 0) (.inl ⟨(sT7.trans s718) _ _ e6, (a7.trans a8) _ _ upd_same⟩) (h6.keep (sT7.trans s718)) .nil (show 0 ≤ 100000 by decide) (fun k hk => by cases hk)).mono (by decide)
  | 3, ex, ey =>
    cases ex; cases ey
    exact (SameD.fst (n := 0) (f8.keep (s814.trans (s15.trans a18))) ⟨A7, rfl, a8 _ _ upd_same⟩ (fun f hf => by cases List.mem_singleton.mp hf; decide)).mono (by decide)
  | 4, ex, ey =>
    cases ex; cases ey
    exact (SameD.fst (n := 0) (f9.keep (s912.trans (s13.trans (sT14.trans (s15.trans a18))))) rfl (fun f hf => by cases hf)).mono (by decide)
  | 5, ex, ey =>
    cases ex; cases ey
    exact (SameD.fst (n := 0) (f13.keep (sT14.trans (s15.trans a18))) rfl (fun f hf => by cases hf)).mono (by decide)
  | i + 6, ex, ey => simp at ex
end
end L2.WB
namespace L2.WB
open PySem PySem.Spec PyProof.Rows L2.XS L2.XB
open K19 (isL isK prodL)
theorem cut_mem {l : List V} {lo hi : Option Int} {z : V} (h : z ∈ cutV l lo hi) : z ∈ l := by
  unfold cutV at h
  exact List.mem_of_mem_drop (List.mem_of_mem_take h)
theorem low_isL {x : Nat} (h : x ∈ lowers) : K19.isL x = true := by rw [← mem_lowers]; exact decide_eq_true h
theorem up_isK {x : Nat} (h : x ∈ uppers) : K19.isK x = true := by rw [← mem_uppers]; exact decide_eq_true h
section
variable {P : Program} {w : World} {K : PySem.W.Frag} {c : Ad} {H : Hp} {Q : VK} {E : XK} {vs : List V} {T1 T2 : V} {σ : St} {te : TE} {j : Nat}
/-- [tuple for tuple in list] -/
theorem lc_map {α : Type} {f g : α → List Key} {a : Addr} {us : List V} {L : List α} (ha : H a = some (.lst us)) (hu : TkL H us (L.map f)) (hl : L.length ≤ 1000) (hw : ∀ v, wipe ((wipe σ [j]).set j (some v)) [j] = wipe σ [j])
    (he : ∀ x b H', x ∈ L → Same H H' → H' b = some (.tup ((f x).map kV)) → ∀ R : VK, (∀ T H2, Same H' H2 → H2 T = some (.tup ((g x).map kV)) → R (.ref T) H2) → te ((wipe σ [j]).set j (some (.ref b))) H' R)
    (q : ∀ p us2 H2, Same H H2 → H2 p = some (.lst us2) → TkL H2 us2 (L.map g) → Q (.ref p) H2) : LcOk (Itl K a) (gName j) tYes te [j] σ H Q := by
  refine lc_l (xs := us) (fun D i H8 => Same H H8 ∧ ∃ us2, H8 D = some (.lst us2) ∧ us2.length ≤ i ∧ TkL H8 us2 ((L.take i).map g)) (fun D nD => ⟨same_new nD, [], upd_same, Nat.le_refl _, .nil⟩) (fun D i H8 h => h.1 _ _ ha) ?_ ?_
  · rintro D i x H8 nD hx ⟨s8, us2, e8, l8, h8⟩
    obtain ⟨b, k, rfl, hk, hb⟩ := hu.at_ hx
    obtain ⟨z, hz, rfl⟩ := map_at hk
    have hi := (List.getElem?_eq_some_iff.mp hz).1
    refine ⟨hw _, ?_⟩
    dsimp only [tYes]
    refine iteT (he z b H8 (List.mem_of_getElem? hz) s8 (s8 _ _ hb) _ fun T H2 s2 eT => ?_)
    have e9 := s2 _ _ e8
    have ne : T ≠ D := fun z => by rw [z, e9] at eT; cases eT
    refine ⟨us2, e9, by rw [sizeLine_eq]; omega, same_upd (s8.trans s2) nD, _, upd_same, by rw [List.length_append]; simp; omega, ?_⟩
    rw [take_one hz, List.map_append]
    exact TkL.snoc ((h8.keep s2).but (fun b x hb hx => by rw [upd_ne hb]; exact hx) e9) (by rw [upd_ne ne]; exact eT)
  · rintro D H8 nD ⟨s8, us2, e8, l8, h8⟩
    rw [hu.len, List.length_map, List.take_length] at h8
    exact q D us2 H8 s8 e8 h8
def spLaw (K : PySem.W.Frag) : Sp := fun vs H Q _ => ∃ (sc : Addr) (xs : List V), vs = [.ref sc] ∧ SqL K H sc xs ∧ (∀ z ∈ xs, ∃ n : Int, z = .int n) ∧ ∀ H2, Q (.bl true) H2
def tTail (K : PySem.W.Frag) (c : Ad) (T1 T2 : V) : TS := (tSeq (tAsg (tCan spLists E0 (tCons (uV 1) (tCons (uV 4) (tCons (uV 5) tNil)))) (gName 6)) (tSeq (tAsg (StX.tMakeR c.Web (spMk K c T1 T2) E0 (tCons (tOp (uIx K) (uV 4) (tC (.int 0))) (tCons (tCB (uList K) (tCons (tOp (uIx K) (uV 4) (tC (.int 1))) tNil)) (tCons (tCB (uList K) (tCons (tOp (uIx K) (uV 4) (tC (.int 2))) tNil)) tNil)))) (gName 7)) (tSeq (tAsg (StX.tMakeR c.Web (spMk K c T1 T2) E0 (tCons (tOp (uIx K) (uV 5) (tC (.int 0))) (tCons (tCB (uList K) (tCons (tOp (uIx K) (uV 5) (tC (.int 1))) tNil)) (tCons (tCB (uList K) (tCons (tOp (uIx K) (uV 5) (tC (.int 2))) tNil)) tNil)))) (gName 8)) (tSeq (tAsg (tLst (tCons (tOp (uIx K) (uV 5) (tC (.int 0))) (tCons (tSl (uSl K) (tOp (uIx K) (uV 5) (tC (.int 1))) (tPart (tC (.int 1))) tNoPart) (tCons (tOp (uIx K) (uV 5) (tC (.int 2))) tNil)))) (gName 9)) (tSeq (tAsg (StX.tMakeR c.Web (spMk K c T1 T2) E0 (tCons (tOp (uIx K) (uV 9) (tC (.int 0))) (tCons (tCB (uList K) (tCons (tOp (uIx K) (uV 9) (tC (.int 1))) tNil)) (tCons (tCB (uList K) (tCons (tOp (uIx K) (uV 9) (tC (.int 2))) tNil)) tNil)))) (gName 10)) (tSeq (tIfS (tNot (uB (tCan (spAsked c) E0 (tCons (uV 7) (tCons (uV 8) (tCons (uV 4) (tCons (uV 5) (tCons (uV 6) tNil)))))))) (tRet (tC (.bl false))) tNext) (tSeq (tIfS (tNot (uB (tCan (spAsked c) E0 (tCons (uV 7) (tCons (uV 10) (tCons (uV 4) (tCons (uV 9) (tCons (uV 6) tNil)))))))) (tRet (tC (.bl false))) tNext) (tSeq (tIfS (tNot (uB (tCan (spSame 5) E0 (tCons (tListG (tCallG (spLead c) [.non] E0 (tCons (uV 7) (tCons (uV 8) tNil)))) (tCons (tCan spDue E0 (tCons (uV 4) (tCons (uV 5) (tCons (tC .non) tNil)))) tNil))))) (tRet (tC (.bl false))) tNext) (tSeq (tIfS (tNot (uB (tCan (spAsked c) E0 (tCons (uV 8) (tCons (uV 7) (tCons (uV 5) (tCons (uV 4) (tCons (tLc (iRng1 (tCons (tOp (uIx K) (uV 5) (tC (.int 0))) tNil)) (gName 17) tYes (tC .non) [17]) tNil)))))))) (tRet (tC (.bl false))) tNext) (tSeq (tAsg (tOp (uAddA K) (tC (.int 1)) (tCan spTake E0 (tCons (uV 1) (tCons (tC (.int 5)) tNil)))) (gName 11)) (tSeq (tAsg (tCan spTake E0 (tCons (uV 1) (tCons (uV 11) tNil))) (gName 12)) (tSeq (tAsg (tOp (uAddA K) (tC (.int 2)) (tCan spTake E0 (tCons (uV 1) (tCons (tC (.int 11)) tNil)))) (gName 13)) (tSeq (tIfS (uB (tOp (uEq K) (tCan spTake E0 (tCons (uV 1) (tCons (tC (.int 8)) tNil))) (tC (.int 7)))) (tSeq (tAsg (tC (.int 100)) (gName 11)) (tAsg (tC (.int 2)) (gName 13))) tNext) (tRet (uAndV (tCan spFixed E0 (tCons (uV 2) tNil)) (tCan spChain E0 (tCons (uV 13) (tCons (uV 11) (tCons (uV 12) (tCons (uV 2) (tCons (uV 3) tNil)))))))))))))))))))))
theorem WlAt.parts {v : V} {x : Wd} (h : WlAt H v x) : ∃ a p q us ws, v = .ref a ∧ H a = some (.lst [nV x.n, .ref p, .ref q]) ∧ H p = some (.lst us) ∧ TkL H us (x.ar.map kA) ∧ H q = some (.lst ws) ∧ TkL H ws (x.ms.map kM) := h
theorem al_nons {p : Addr} {n : Nat} (h : H p = some (.lst (List.replicate n .non))) : AlAt H (.ref p) (some (List.replicate n none)) := by
  refine ⟨p, _, rfl, h, by rw [List.length_replicate, List.length_replicate], fun i u e => ?_⟩
  rw [List.getElem?_replicate] at e
  split at e
  · rename_i hi
    exact .inl ⟨by rw [List.getElem?_replicate, if_pos hi], (Option.some.inj e).symm⟩
  · cases e
theorem law_tail {sc st a : Addr} {L S v4 v5 : V} {x y : Wd} {l1 l2 m1 m2 : Nat} {y14 y15 y16 : Option V} (F : WebF K c) (t1 : Emp K T1) (t2 : Emp K T2) (sa : StAt H st a) (wx : WlAt H v4 x) (okx : WlOk x) (x1 : x.n ≤ 3) (wy : WlAt H v5 y) (oky : WlOk y) (y1 : y.n ≤ 3) (tL : TwoAt H L l1 l2) (tS : TwoAt H S m1 m2) (i1 : K19.isL l1 = true) (i2 : K19.isL l2 = true) (k1 : K19.isK m1 = true) (ne : l1 ≠ l2) (q : ∀ H2, Q (.bl true) H2) :
    tTail K c T1 T2 (fin0 Q) [some (.ref sc), some (.ref st), some L, some S, some v4, some v5, none, none, none, none, none, none, none, none, y14, y15, y16, none, none, none] H := by
  dsimp only [tTail, tSeq, tAsg, tIfS, tRet, tRetN, tDrop, tNext, tOp, tUn, tCons, tNil, tTup, tLst, tC, tCB, tCan, tAnd, tOr, tNot, tB, tIf, uB, uAndV, uOrV, uNotV, uNeg, uV, gName, gSub, tAug, ipI, tPart, tNoPart, tSl, tBM, tBM0, uLen, uAbs, uInt, uAdd, uSub, uMod, uFdiv, uMul, uBand, uBor, uCmp, uLt, uLe, uGt, uGe, StX.tMakeR, sFld, wipe, tYes, tGThen, tPlain, GEnds.at, tG0, tGIf, tGYield, tIsN, tNotN, tTru, tBits, tFmtB, tRevS, tRevL, start, fin0, List.getElem?_cons_zero, List.getElem?_cons_succ, List.map_cons, List.map_nil, List.length_cons, List.length_nil, List.replicate, List.cons_append, List.nil_append, Nat.reduceSub, Nat.reduceAdd, List.set_cons_zero, List.set_cons_succ]
  refine ⟨st, a, v4, v5, x, y, rfl, sa, wx, wy, x1, y1, fun v6 l H1 s1 sa1 al ao => ?_⟩
  have tL1 := tL.but sa s1
  have tS1 := tS.but sa s1
  obtain ⟨a4, p4, q4, us4, ws4, rfl, wx1, wx2, wx3, wx4, wx5⟩ := wx.but sa s1
  obtain ⟨a5, p5, q5, us5, ws5, rfl, wy1, wy2, wy3, wy4, wy5⟩ := wy.but sa s1
  have wlx : WlAt H1 (.ref a4) x := ⟨a4, p4, q4, us4, ws4, rfl, wx1, wx2, wx3, wx4, wx5⟩
  have wly : WlAt H1 (.ref a5) y := ⟨a5, p5, q5, us5, ws5, rfl, wy1, wy2, wy3, wy4, wy5⟩
  -- first
  refine ix_lst wx1 (atI_nat (j := 0) rfl) (ix_lst wx1 (atI_nat (j := 1) rfl) ⟨_, .inl (sqL wx2), fun b1 nb1 => ?_⟩)
  have sb1 := same_new (o := HO.lst us4) nb1
  refine ix_lst (sb1 _ _ wx1) (atI_nat (j := 2) rfl) ⟨_, .inl (sqL (sb1 _ _ wx4)), fun b2 nb2 => ?_⟩
  have sb2 := same_new (o := HO.lst ws4) nb2
  intro r1 d1 nr1 nd1 ne1
  refine mk3 (wd := x) nr1 nd1 ne1 okx.ok (GivA.same ⟨b1, rfl, .inl (sb2 _ _ upd_same)⟩ (wx3.keep (sb1.trans sb2)) okx.ok.lar okx.sar) (GivM.same ⟨b2, rfl, .inl upd_same⟩ (wx5.keep (sb1.trans sb2)) okx.ok.lms okx.sms) fun H2 s2 w2 => ⟨rfl, ?_⟩
  have s12 := (sb1.trans sb2).trans s2
  -- second
  refine ix_lst (s12 _ _ wy1) (atI_nat (j := 0) rfl) (ix_lst (s12 _ _ wy1) (atI_nat (j := 1) rfl) ⟨_, .inl (sqL (s12 _ _ wy2)), fun b3 nb3 => ?_⟩)
  have sb3 := same_new (o := HO.lst us5) nb3
  refine ix_lst ((s12.trans sb3) _ _ wy1) (atI_nat (j := 2) rfl) ⟨_, .inl (sqL ((s12.trans sb3) _ _ wy4)), fun b4 nb4 => ?_⟩
  have sb4 := same_new (o := HO.lst ws5) nb4
  intro r2 d2 nr2 nd2 ne2
  refine mk3 (wd := y) nr2 nd2 ne2 oky.ok (GivA.same ⟨b3, rfl, .inl (sb4 _ _ upd_same)⟩ (wy3.keep (s12.trans (sb3.trans sb4))) oky.ok.lar oky.sar) (GivM.same ⟨b4, rfl, .inl upd_same⟩ (wy5.keep (s12.trans (sb3.trans sb4))) oky.ok.lms oky.sms) fun H3 s3 w3 => ⟨rfl, ?_⟩
  have s23 := (sb3.trans sb4).trans s3
  have s13 := s12.trans s23
  have w23 := w2.keep s23
  -- less
  refine ix_lst (s13 _ _ wy1) (atI_nat (j := 0) rfl) (ix_lst (s13 _ _ wy1) (atI_nat (j := 1) rfl) ⟨_, rfl, _, sqL (s13 _ _ wy2), fun b5 nb5 => ?_⟩)
  rw [show cutV us5 (some 1) none = us5.drop 1 from cutV_from us5 1]
  have sb5 := same_new (o := HO.lst (us5.drop 1)) nb5
  refine ix_lst ((s13.trans sb5) _ _ wy1) (atI_nat (j := 2) rfl) ⟨by decide +kernel, fun a6 na6 => ?_⟩
  have sa6 := same_new (o := HO.lst [nV y.n, .ref b5, .ref q5]) na6
  have s56 := sb5.trans sa6
  have s16 := s13.trans s56
  have e6 : upd (upd H3 b5 (.lst (us5.drop 1))) a6 (.lst [nV y.n, .ref b5, .ref q5]) a6 = some (.lst [nV y.n, .ref b5, .ref q5]) := upd_same
  have e61 := sa6 _ _ (upd_same (H := H3) (a := b5) (o := HO.lst (us5.drop 1)))
  have okz : WlOk ⟨y.n, y.ar.drop 1, y.ms⟩ := ⟨⟨oky.ok.pos, oky.ok.few, fun z hz => oky.ok.ar z (List.mem_of_mem_drop hz), oky.ok.ms, by show (y.ar.drop 1).length ≤ 1000; rw [List.length_drop]; have := oky.ok.lar; omega, oky.ok.lms⟩, by
    show (List.map kA (y.ar.drop 1)).Pairwise _
    rw [List.map_drop]
    exact oky.sar.sublist (List.drop_sublist ..), oky.sms⟩
  have tkz : TkL H1 (us5.drop 1) ((y.ar.drop 1).map kA) := by
    rw [List.map_drop]
    exact wy3.sub (fun l => l.drop 1) (fun g l => List.map_drop ..) (fun l x h => List.mem_of_mem_drop h)
  have wlz : WlAt (upd (upd H3 b5 (.lst (us5.drop 1))) a6 (.lst [nV y.n, .ref b5, .ref q5])) (.ref a6) ⟨y.n, y.ar.drop 1, y.ms⟩ := ⟨a6, b5, q5, _, ws5, rfl, e6, e61, tkz.keep s16, s16 _ _ wy4, wy5.keep s16⟩
  have wlx6 := wlx.keep s16
  have wly6 := wly.keep s16
  have w26 := w23.keep s56
  have w36 := w3.keep s56
  have al6 := al.keep s16
  have wq4 := s16 _ _ wy4
  have wq5 := wy5.keep s16
  have tkz6 := tkz.keep s16
  have tL6 := tL1.keep s16
  have tS6 := tS1.keep s16
  have sa16 := sa1.same s16
  have ey5 := s16 _ _ wy1
  generalize hH6 : upd (upd H3 b5 (.lst (us5.drop 1))) a6 (.lst [nV y.n, .ref b5, .ref q5]) = H6 at *
  -- smaller
  refine ix_lst e6 (atI_nat (j := 0) rfl) (ix_lst e6 (atI_nat (j := 1) rfl) ⟨_, .inl (sqL e61), fun b7 nb7 => ?_⟩)
  have sb7 := same_new (o := HO.lst (us5.drop 1)) nb7
  refine ix_lst (sb7 _ _ e6) (atI_nat (j := 2) rfl) ⟨_, .inl (sqL (sb7 _ _ wq4)), fun b8 nb8 => ?_⟩
  have sb8 := same_new (o := HO.lst ws5) nb8
  intro r3 d3 nr3 nd3 ne3
  refine mk3 (wd := ⟨y.n, y.ar.drop 1, y.ms⟩) nr3 nd3 ne3 okz.ok (GivA.same ⟨b7, rfl, .inl (sb8 _ _ upd_same)⟩ (tkz6.keep (sb7.trans sb8)) okz.ok.lar okz.sar) (GivM.same ⟨b8, rfl, .inl upd_same⟩ (wq5.keep (sb7.trans sb8)) okz.ok.lms okz.sms) fun H7 s7 w7 => ⟨rfl, ?_⟩
  have s67 := (sb7.trans sb8).trans s7
  refine ⟨_, _, _, _, _, x, y, l, rfl, w26.keep s67, w36.keep s67, wlx6.keep s67, wly6.keep s67, al6.keep s67, ao, okx.ok, oky.ok, x1, y1, fun H8 s8 => ifF rfl ?_⟩
  have s68 := s67.trans s8
  refine ⟨_, _, _, _, _, x, ⟨y.n, y.ar.drop 1, y.ms⟩, l, rfl, w26.keep s68, w7.keep s8, wlx6.keep s68, wlz.keep s68, al6.keep s68, ao, okx.ok, okz.ok, x1, y1, fun H9 s9 => ifF rfl ?_⟩
  have s69 := s68.trans s9
  have fw : (due x y none).length ≤ 10000 := by have := due_few (al := none) x1 y1; omega
  refine listG_ok (fun R h => h) (w26.keep s69) (w36.keep s69) okx.ok oky.ok fw fun p10 us10 H10 s10 e10 h10 => ?_
  have s610 := s69.trans s10
  refine ⟨_, _, .non, x, y, none, rfl, wlx6.keep s610, wly6.keep s610, rfl, .none, okx.ok, oky.ok, x1, y1, fun p11 us11 H11 s11 e11 h11 => ?_⟩
  refine ⟨_, _, rfl, (SameD.tk (n := 2) (.inl ⟨s11 _ _ e10, e11⟩) (h10.keep s11) h11 (by rw [List.length_map]; omega) fun k hk => ?_).mono (by decide), ifF rfl ?_⟩
  · obtain ⟨f, hf, rfl⟩ := List.mem_map.mp hk
    rw [List.length_map, due_len hf]
    omega
  have s611 := s610.trans s11
  -- the other way round
  refine lc_of ?_
  dsimp only [iRng1, tSeq, tAsg, tIfS, tRet, tRetN, tDrop, tNext, tOp, tUn, tCons, tNil, tTup, tLst, tC, tCB, tCan, tAnd, tOr, tNot, tB, tIf, uB, uAndV, uOrV, uNotV, uNeg, uV, gName, gSub, tAug, ipI, tPart, tNoPart, tSl, tBM, tBM0, uLen, uAbs, uInt, uAdd, uSub, uMod, uFdiv, uMul, uBand, uBor, uCmp, uLt, uLe, uGt, uGe, StX.tMakeR, sFld, wipe, tYes, tGThen, tPlain, GEnds.at, tG0, tGIf, tGYield, tIsN, tNotN, tTru, tBits, tFmtB, tRevS, tRevL, start, fin0, List.getElem?_cons_zero, List.getElem?_cons_succ, List.map_cons, List.map_nil, List.length_cons, List.length_nil, List.replicate, List.cons_append, List.nil_append, Nat.reduceSub, Nat.reduceAdd, List.set_cons_zero, List.set_cons_succ]
  refine ix_lst (s611 _ _ ey5) (atI_nat (j := 0) rfl) ⟨_, rfl, by omega, by omega, ?_⟩
  rw [Int.toNat_natCast]
  refine lc_nons (by omega) (fun _ => rfl) (fun i H1 hi R r => r) fun p12 H12 s12 e12 => ?_
  have s612 := s611.trans s12
  have ao2 : AlOk (some (List.replicate y.n none)) y.n x.n := ⟨fun l e => by cases e; exact List.length_replicate .., fun l e s hs => by cases e; cases (List.mem_replicate.mp hs).2⟩
  refine ⟨_, _, _, _, _, y, x, _, rfl, w36.keep s612, w26.keep s612, wly6.keep s612, wlx6.keep s612, al_nons e12, ao2, oky.ok, okx.ok, y1, x1, fun H13 s13' => ifF rfl ?_⟩
  have s613 := s612.trans s13'
  have sa13 := sa16.same s613
  have tL13 := tL6.keep s613
  have tS13 := tS6.keep s613
  refine ⟨st, a, 5, rfl, sa13, by decide, by decide, fun g1 H14 hg1 s14 sa14 => ?_⟩
  dsimp only [uAddA]
  refine ⟨st, a, g1 + 1, by rw [show (1 : Int) + (g1 : Int) = ((g1 + 1 : Nat) : Int) by omega], sa14, by omega, by omega, fun g2 H15 hg2 s15 sa15 => ?_⟩
  refine ⟨st, a, 11, rfl, sa15, by decide, by decide, fun g3 H16 hg3 s16' sa16' => ?_⟩
  dsimp only [uAddA]
  refine ⟨st, a, 8, rfl, sa16', by decide, by decide, fun g4 H17 hg4 s17 sa17 => ?_⟩
  have s1317 := s14.trans (s15.trans (s16'.trans s17))
  have tL17 := tL13.but sa13 s1317
  have tS17 := tS13.but sa13 s1317
  dsimp only [uEq, tSeq, tAsg, tIfS, tRet, tRetN, tDrop, tNext, tOp, tUn, tCons, tNil, tTup, tLst, tC, tCB, tCan, tAnd, tOr, tNot, tB, tIf, uB, uAndV, uOrV, uNotV, uNeg, uV, gName, gSub, tAug, ipI, tPart, tNoPart, tSl, tBM, tBM0, uLen, uAbs, uInt, uAdd, uSub, uMod, uFdiv, uMul, uBand, uBor, uCmp, uLt, uLe, uGt, uGe, StX.tMakeR, sFld, wipe, tYes, tGThen, tPlain, GEnds.at, tG0, tGIf, tGYield, tIsN, tNotN, tTru, tBits, tFmtB, tRevS, tRevL, start, fin0, List.getElem?_cons_zero, List.getElem?_cons_succ, List.map_cons, List.map_nil, List.length_cons, List.length_nil, List.replicate, List.cons_append, List.nil_append, Nat.reduceSub, Nat.reduceAdd, List.set_cons_zero, List.set_cons_succ]
  have fin : ∀ {A B : Int} {many size : Nat}, A = (many : Int) → B = (size : Int) → 2 ≤ many → many ≤ 100 → 1 ≤ size → size ≤ 100 → g2 < size → spFixed [L] H17 (fun z H18 => match z with | .bl b => if b = true then spChain [.int A, .int B, .int (g2 : Int), L, S] H18 Q E0 else Q (.bl false) H18 | _ => False) E0 := fun {A B many size} eA eB h1 h2 h3 h4 h5 => by
    subst eA eB
    refine ⟨L, l1, l2, rfl, tL17, i1, i2, ne, fun H18 s18 => ?_⟩
    refine iteT ?_
    exact ⟨many, size, g2, L, S, l1, l2, m1, m2, rfl, tL17.keep s18, tS17.keep s18, i1, k1, h1, h2, h3, h4, h5, fun H2 _ => q H2⟩
  refine ifD (fun _ => ?_) fun _ => ?_
  · exact fin (A := 2) (B := 100) (many := 2) (size := 100) rfl rfl (by decide) (by decide) (by decide) (by decide) (by omega)
  · exact fin (A := 2 + (g3 : Int)) (B := 1 + (g1 : Int)) (many := 2 + g3) (size := 1 + g1) (by omega) (by omega) (by omega) (by omega) (by omega) (by omega) (by omega)
end
end L2.WB
namespace L2.WB
open PySem PySem.Spec PyProof.Rows L2.XS L2.XB
open K19 (isL isK prodL)
section
variable {P : Program} {w : World} {K : PySem.W.Frag} {c : Ad} {H : Hp} {Q : VK} {E : XK} {vs : List V} {T1 T2 : V} {σ : St} {te : TE} {j : Nat}
def tHead (P : Program) (w : World) (K : PySem.W.Frag) (c : Ad) (T1 T2 : V) : TS := (tSeq (tAsg (tLst (tCons (tCB (uList K) (tCons (tSl (uSl K) (uV 0) tNoPart (tPart (tC (.int 63)))) tNil)) (tCons (tC (.int 0)) (tCons (tC (.int 0)) tNil)))) (gName 1)) (tSeq (tAsg (tCan spTwo E0 (tCons (uV 1) (tCons (tC (.str (sOf lowers))) tNil))) (gName 2)) (tSeq (tAsg (tCan spTwo E0 (tCons (uV 1) (tCons (tC (.str (sOf uppers))) tNil))) (gName 3)) (tSeq (tAsg (tCan spWorld E0 (tCons (uV 1) (tCons (uV 2) (tCons (uV 3) (tCons (tC (.int 3)) (tCons (tC (.int 3)) tNil)))))) (gName 4)) (tSeq (tAsg (tCan spWorld E0 (tCons (uV 1) (tCons (uV 2) (tCons (uV 3) (tCons (tC (.int 3)) (tCons (tC (.int 6)) tNil)))))) (gName 5)) (tSeq (tIfS (uB (tOp (uEq K) (tCan spTake E0 (tCons (uV 1) (tCons (tC (.int 2)) tNil))) (tC (.int 0)))) (tSeq (tAsg (tLc (iRng1 (tCons (tOp (uIx K) (uV 4) (tC (.int 0))) tNil)) (gName 17) tYes (tCan spTake E0 (tCons (uV 1) (tCons (tOp (uIx K) (uV 5) (tC (.int 0))) tNil))) [17]) (gName 14)) (tSeq (tAsg (tLc (iList K (tOp (uIx K) (uV 4) (tC (.int 1)))) (gName 18) tYes (tTup (tCons (tOp (uIx K) (uV 14) (tOp (uIx K) (uV 18) (tC (.int 0)))) (tCons (tOp (uIx K) (uV 18) (tC (.int 1))) (tCons (tOp (uIx K) (uV 14) (tOp (uIx K) (uV 18) (tC (.int 2)))) tNil)))) [18]) (gName 15)) (tSeq (tAsg (tLc (iList K (tOp (uIx K) (uV 4) (tC (.int 2)))) (gName 19) tYes (tTup (tCons (tOp (uIx K) (uV 14) (tOp (uIx K) (uV 19) (tC (.int 0)))) (tCons (tOp (uIx K) (uV 19) (tC (.int 1))) tNil))) [19]) (gName 16)) (tAsg (tLst (tCons (tOp (uIx K) (uV 5) (tC (.int 0))) (tCons (tCan spDist E0 (tCons (tOp (uAddA K) (tOp (uIx K) (uV 5) (tC (.int 1))) (uV 15)) tNil)) (tCons (tCan spDist E0 (tCons (tOp (uAddA K) (tOp (uIx K) (uV 5) (tC (.int 2))) (uV 16)) tNil)) tNil)))) (gName 5))))) tNext) (tTail K c T1 T2)))))))
theorem law_eq : t_law P w K c spTwo spWorld spTake spDist spLists (spAsked c) (spSame 5) spDue spFixed spChain (spMk K c T1 T2) (spLead c) = tHead P w K c T1 T2 := rfl
theorem q_law (F : WebF K c) (t1 : Emp K T1) (t2 : Emp K T2) (h : spLaw K vs H Q E) : t_law P w K c spTwo spWorld spTake spDist spLists (spAsked c) (spSame 5) spDue spFixed spChain (spMk K c T1 T2) (spLead c) (fin0 Q) (start N_law vs) H := by
  obtain ⟨sc, xs, rfl, hsc, hxs, q⟩ := h
  show t_law P w K c spTwo spWorld spTake spDist spLists (spAsked c) (spSame 5) spDue spFixed spChain (spMk K c T1 T2) (spLead c) (fin0 Q) [some (.ref sc), none, none, none, none, none, none, none, none, none, none, none, none, none, none, none, none, none, none, none] H
  rw [law_eq]
  dsimp only [tHead, tSeq, tAsg, tIfS, tRet, tRetN, tDrop, tNext, tOp, tUn, tCons, tNil, tTup, tLst, tC, tCB, tCan, tAnd, tOr, tNot, tB, tIf, uB, uAndV, uOrV, uNotV, uNeg, uV, gName, gSub, tAug, ipI, tPart, tNoPart, tSl, tBM, tBM0, uLen, uAbs, uInt, uAdd, uSub, uMod, uFdiv, uMul, uBand, uBor, uCmp, uLt, uLe, uGt, uGe, StX.tMakeR, sFld, wipe, tYes, tGThen, tPlain, GEnds.at, tG0, tGIf, tGYield, tIsN, tNotN, tTru, tBits, tFmtB, tRevS, tRevL, start, fin0, List.getElem?_cons_zero, List.getElem?_cons_succ, List.map_cons, List.map_nil, List.length_cons, List.length_nil, List.replicate, List.cons_append, List.nil_append, Nat.reduceSub, Nat.reduceAdd, List.set_cons_zero, List.set_cons_succ]
  refine ⟨63, rfl, xs, hsc, fun p0 n0 => ?_⟩
  refine ⟨_, .inl (sqL upd_same), fun a na => ⟨by decide +kernel, fun st nst => ?_⟩⟩
  have sa : StAt (upd (upd (upd H p0 (.lst (cutV xs none (some 63)))) a (.lst (cutV xs none (some 63)))) st (.lst [.ref a, .int 0, .int 0])) st a := by
    refine ⟨_, 0, 0, ?_, upd_same, get_new upd_same nst, fun z hz => hxs z (cut_mem hz)⟩
    exact ne_of_none upd_same nst
  generalize (upd (upd (upd H p0 (.lst (cutV xs none (some 63)))) a (.lst (cutV xs none (some 63)))) st (.lst [.ref a, .int 0, .int 0])) = Ha at *
  refine ⟨st, a, lowers, rfl, rfl, sa, fun L l1 l2 H1 hl1 hl2 hne s1 sa1 eL nL => ?_⟩
  have tL : TwoAt H1 (.ref L) l1 l2 := ⟨L, rfl, eL⟩
  refine ⟨st, a, uppers, rfl, rfl, sa1, fun S m1 m2 H2 hm1 hm2 hme s2 sa2 eS nS => ?_⟩
  have tS : TwoAt H2 (.ref S) m1 m2 := ⟨S, rfl, eS⟩
  have tL2 := tL.but sa1 s2
  have i1 := low_isL hl1
  have i2 := low_isL hl2
  have k1 := up_isK hm1
  have k2 := up_isK hm2
  have ne12 : l1 ≠ l2 := hne (by decide)
  refine ⟨st, a, .ref L, .ref S, 3, 3, l1, l2, m1, m2, rfl, sa2, tL2, i1, i2, tS, k1, k2, by decide, by decide, by decide, by decide, fun v4 x H3 s3 sa3 wx okx x1 x2 x3 => ?_⟩
  have tL3 := tL2.but sa2 s3
  have tS3 := tS.but sa2 s3
  refine ⟨st, a, .ref L, .ref S, 3, 6, l1, l2, m1, m2, rfl, sa3, tL3, i1, i2, tS3, k1, k2, by decide, by decide, by decide, by decide, fun v5 y H4 s4 sa4 wy oky y1 y2 y3 => ?_⟩
  have tL4 := tL3.but sa3 s4
  have tS4 := tS3.but sa3 s4
  have wx4 := wx.but sa3 s4
  refine ⟨st, a, 2, rfl, sa4, by decide, by decide, fun r H5 hr s5 sa5 => ?_⟩
  have tL5 := tL4.but sa4 s5
  have tS5 := tS4.but sa4 s5
  have wx5 := wx4.but sa4 s5
  have wy5 := wy.but sa4 s5
  dsimp only [uEq, tSeq, tAsg, tIfS, tRet, tRetN, tDrop, tNext, tOp, tUn, tCons, tNil, tTup, tLst, tC, tCB, tCan, tAnd, tOr, tNot, tB, tIf, uB, uAndV, uOrV, uNotV, uNeg, uV, gName, gSub, tAug, ipI, tPart, tNoPart, tSl, tBM, tBM0, uLen, uAbs, uInt, uAdd, uSub, uMod, uFdiv, uMul, uBand, uBor, uCmp, uLt, uLe, uGt, uGe, StX.tMakeR, sFld, wipe, tYes, tGThen, tPlain, GEnds.at, tG0, tGIf, tGYield, tIsN, tNotN, tTru, tBits, tFmtB, tRevS, tRevL, start, fin0, List.getElem?_cons_zero, List.getElem?_cons_succ, List.map_cons, List.map_nil, List.length_cons, List.length_nil, List.replicate, List.cons_append, List.nil_append, Nat.reduceSub, Nat.reduceAdd, List.set_cons_zero, List.set_cons_succ]
  refine ifD (fun _ => ?_) fun _ => ?_
  · obtain ⟨a5, p5, q5, us5, ws5, rfl, wy1, wy2, wy3, wy4, wy5'⟩ := wy5
    obtain ⟨a4, p4, q4, us4, ws4, rfl, wx1, wx2, wx3, wx4', wx5'⟩ := wx5
    refine lc_of ?_
    dsimp only [iRng1, tSeq, tAsg, tIfS, tRet, tRetN, tDrop, tNext, tOp, tUn, tCons, tNil, tTup, tLst, tC, tCB, tCan, tAnd, tOr, tNot, tB, tIf, uB, uAndV, uOrV, uNotV, uNeg, uV, gName, gSub, tAug, ipI, tPart, tNoPart, tSl, tBM, tBM0, uLen, uAbs, uInt, uAdd, uSub, uMod, uFdiv, uMul, uBand, uBor, uCmp, uLt, uLe, uGt, uGe, StX.tMakeR, sFld, wipe, tYes, tGThen, tPlain, GEnds.at, tG0, tGIf, tGYield, tIsN, tNotN, tTru, tBits, tFmtB, tRevS, tRevL, start, fin0, List.getElem?_cons_zero, List.getElem?_cons_succ, List.map_cons, List.map_nil, List.length_cons, List.length_nil, List.replicate, List.cons_append, List.nil_append, Nat.reduceSub, Nat.reduceAdd, List.set_cons_zero, List.set_cons_succ]
    refine ix_lst wx1 (atI_nat (j := 0) rfl) ⟨_, rfl, by omega, by omega, ?_⟩
    rw [Int.toNat_natCast]
    refine lc_r (fun D i H8 => D ≠ st ∧ D ≠ a ∧ SameBut st H5 H8 ∧ StAt H8 st a ∧ ∃ t : List Nat, H8 D = some (.lst (t.map nV)) ∧ t.length = i ∧ ∀ p ∈ t, p < y.n) (fun D nD => ?_) ?_ ?_
    · obtain ⟨d1, d2⟩ := sa5.new nD
      exact ⟨d1, d2, but_new (SameBut.refl _ _) nD, sa5.upd d1 d2, [], upd_same, rfl, fun p h => by cases h⟩
    · rintro D i H8 nD hi ⟨d1, d2, s8, sa8, t, eD, lt, ht⟩
      refine ⟨rfl, ?_⟩
      dsimp only [tYes, tSeq, tAsg, tIfS, tRet, tRetN, tDrop, tNext, tOp, tUn, tCons, tNil, tTup, tLst, tC, tCB, tCan, tAnd, tOr, tNot, tB, tIf, uB, uAndV, uOrV, uNotV, uNeg, uV, gName, gSub, tAug, ipI, tPart, tNoPart, tSl, tBM, tBM0, uLen, uAbs, uInt, uAdd, uSub, uMod, uFdiv, uMul, uBand, uBor, uCmp, uLt, uLe, uGt, uGe, StX.tMakeR, sFld, wipe, tYes, tGThen, tPlain, GEnds.at, tG0, tGIf, tGYield, tIsN, tNotN, tTru, tBits, tFmtB, tRevS, tRevL, start, fin0, List.getElem?_cons_zero, List.getElem?_cons_succ, List.map_cons, List.map_nil, List.length_cons, List.length_nil, List.replicate, List.cons_append, List.nil_append, Nat.reduceSub, Nat.reduceAdd, List.set_cons_zero, List.set_cons_succ]
      refine iteT ?_
      have s58 := s8
      refine ix_lst (s8 _ _ (sa5.ne wy1 fun i => by simp) wy1) (atI_nat (j := 0) rfl) ⟨st, a, y.n, rfl, sa8, oky.ok.pos, by omega, fun r H9 hr s9 sa9 => ?_⟩
      have e9 := s9 _ _ d1 eD
      refine ⟨_, e9, by rw [List.length_map, sizeLine_eq]; omega, d1, d2, but_new (s8.trans s9) nD, sa9.upd d1 d2, t ++ [r], by rw [upd_same, List.map_append]; rfl, by rw [List.length_append, lt]; rfl, fun p hp => ?_⟩
      rcases List.mem_append.mp hp with hp | hp
      · exact ht p hp
      · cases List.mem_singleton.mp hp; exact hr
    · rintro D H8 nD ⟨d1, d2, s8, sa8, t, eD, lt, ht⟩
      have wx1' := s8 _ _ (sa5.ne wx1 fun i => by simp) wx1
      obtain ⟨zs, ez⟩ := sa5.lst
      have tka := wx3.but s8 ez
      have tkm := wx5'.but s8 ez
      have ep4 := s8 _ _ (sa5.ne wx2 wx3.ne1) wx2
      have eq4 := s8 _ _ (sa5.ne wx4' wx5'.ne1) wx4'
      have tab : ∀ {H9 : Hp} {R : VK} {i : Nat}, Same H8 H9 → i < x.n → R (nV (t.getD i 0)) H9 → uIx K (.ref D) (nV i) H9 R := fun {H9 R i} s hi r => ix_lst (s _ _ eD) (nV_at (n := t.getD i 0) (by rw [List.getD_eq_getElem?_getD, List.getElem?_eq_getElem (by omega)]; rfl)) r
      refine lc_of ?_
      dsimp only [iList, tSeq, tAsg, tIfS, tRet, tRetN, tDrop, tNext, tOp, tUn, tCons, tNil, tTup, tLst, tC, tCB, tCan, tAnd, tOr, tNot, tB, tIf, uB, uAndV, uOrV, uNotV, uNeg, uV, gName, gSub, tAug, ipI, tPart, tNoPart, tSl, tBM, tBM0, uLen, uAbs, uInt, uAdd, uSub, uMod, uFdiv, uMul, uBand, uBor, uCmp, uLt, uLe, uGt, uGe, StX.tMakeR, sFld, wipe, tYes, tGThen, tPlain, GEnds.at, tG0, tGIf, tGYield, tIsN, tNotN, tTru, tBits, tFmtB, tRevS, tRevL, start, fin0, List.getElem?_cons_zero, List.getElem?_cons_succ, List.map_cons, List.map_nil, List.length_cons, List.length_nil, List.replicate, List.cons_append, List.nil_append, Nat.reduceSub, Nat.reduceAdd, List.set_cons_zero, List.set_cons_succ]
      refine ix_lst wx1' (atI_nat (j := 1) rfl) ⟨p4, rfl, ⟨_, sqL ep4⟩, ?_⟩
      refine lc_map (L := x.ar) (f := kA) (g := fun m => kA (t.getD m.1 0, m.2.1, t.getD m.2.2 0)) ep4 tka okx.ok.lar (fun _ => rfl) (fun m b H9 hm s9 eb R r => ?_) fun p6 us6 H6 s6 e6 h6 => ?_
      · dsimp only [tSeq, tAsg, tIfS, tRet, tRetN, tDrop, tNext, tOp, tUn, tCons, tNil, tTup, tLst, tC, tCB, tCan, tAnd, tOr, tNot, tB, tIf, uB, uAndV, uOrV, uNotV, uNeg, uV, gName, gSub, tAug, ipI, tPart, tNoPart, tSl, tBM, tBM0, uLen, uAbs, uInt, uAdd, uSub, uMod, uFdiv, uMul, uBand, uBor, uCmp, uLt, uLe, uGt, uGe, StX.tMakeR, sFld, wipe, tYes, tGThen, tPlain, GEnds.at, tG0, tGIf, tGYield, tIsN, tNotN, tTru, tBits, tFmtB, tRevS, tRevL, start, fin0, List.getElem?_cons_zero, List.getElem?_cons_succ, List.map_cons, List.map_nil, List.length_cons, List.length_nil, List.replicate, List.cons_append, List.nil_append, Nat.reduceSub, Nat.reduceAdd, List.set_cons_zero, List.set_cons_succ]
        obtain ⟨o1, o2, o3⟩ := okx.ok.ar m hm
        refine ix_tup2 eb (atI_nat (j := 0) rfl) (tab s9 o1 (ix_tup2 eb (atI_nat (j := 1) rfl) (ix_tup2 eb (atI_nat (j := 2) rfl) (tab s9 o3 ⟨by decide +kernel, fun T nT => r T _ (same_new nT) upd_same⟩))))
      refine lc_of ?_
      dsimp only [iList, tSeq, tAsg, tIfS, tRet, tRetN, tDrop, tNext, tOp, tUn, tCons, tNil, tTup, tLst, tC, tCB, tCan, tAnd, tOr, tNot, tB, tIf, uB, uAndV, uOrV, uNotV, uNeg, uV, gName, gSub, tAug, ipI, tPart, tNoPart, tSl, tBM, tBM0, uLen, uAbs, uInt, uAdd, uSub, uMod, uFdiv, uMul, uBand, uBor, uCmp, uLt, uLe, uGt, uGe, StX.tMakeR, sFld, wipe, tYes, tGThen, tPlain, GEnds.at, tG0, tGIf, tGYield, tIsN, tNotN, tTru, tBits, tFmtB, tRevS, tRevL, start, fin0, List.getElem?_cons_zero, List.getElem?_cons_succ, List.map_cons, List.map_nil, List.length_cons, List.length_nil, List.replicate, List.cons_append, List.nil_append, Nat.reduceSub, Nat.reduceAdd, List.set_cons_zero, List.set_cons_succ]
      refine ix_lst (s6 _ _ wx1') (atI_nat (j := 2) rfl) ⟨q4, rfl, ⟨_, sqL (s6 _ _ eq4)⟩, ?_⟩
      refine lc_map (L := x.ms) (f := kM) (g := fun m => kM (t.getD m.1 0, m.2)) (s6 _ _ eq4) (tkm.keep s6) okx.ok.lms (fun _ => rfl) (fun m b H9 hm s9 eb R r => ?_) fun p7 us7 H7 s7 e7 h7 => ?_
      · dsimp only [tSeq, tAsg, tIfS, tRet, tRetN, tDrop, tNext, tOp, tUn, tCons, tNil, tTup, tLst, tC, tCB, tCan, tAnd, tOr, tNot, tB, tIf, uB, uAndV, uOrV, uNotV, uNeg, uV, gName, gSub, tAug, ipI, tPart, tNoPart, tSl, tBM, tBM0, uLen, uAbs, uInt, uAdd, uSub, uMod, uFdiv, uMul, uBand, uBor, uCmp, uLt, uLe, uGt, uGe, StX.tMakeR, sFld, wipe, tYes, tGThen, tPlain, GEnds.at, tG0, tGIf, tGYield, tIsN, tNotN, tTru, tBits, tFmtB, tRevS, tRevL, start, fin0, List.getElem?_cons_zero, List.getElem?_cons_succ, List.map_cons, List.map_nil, List.length_cons, List.length_nil, List.replicate, List.cons_append, List.nil_append, Nat.reduceSub, Nat.reduceAdd, List.set_cons_zero, List.set_cons_succ]
        obtain ⟨o1, o2⟩ := okx.ok.ms m hm
        refine ix_tup2 eb (atI_nat (j := 0) rfl) (tab (s6.trans s9) o1 (ix_tup2 eb (atI_nat (j := 1) rfl) ⟨by decide +kernel, fun T nT => r T _ (same_new nT) upd_same⟩))
      have s87 := s6.trans s7
      have s57 := s8.trans (Same.but s87)
      have sa7 := sa8.same s87
      have f1 := s57 _ _ (sa5.ne wy1 fun i => by simp) wy1
      have f2 := s57 _ _ (sa5.ne wy2 wy3.ne1) wy2
      have f3 := wy3.but s57 ez
      have f4 := s57 _ _ (sa5.ne wy4 wy5'.ne1) wy4
      have f5 := wy5'.but s57 ez
      have l6 := h6.len
      have l7 := h7.len
      rw [List.length_map] at l6 l7
      have lu5 := f3.len
      have lw5 := f5.len
      rw [List.length_map] at lu5 lw5
      have tlt : ∀ i, i < x.n → t.getD i 0 < y.n := fun i hi => by
        rw [List.getD_eq_getElem?_getD, List.getElem?_eq_getElem (show i < t.length by omega)]
        exact ht _ (List.getElem_mem _)
      refine ix_lst f1 (atI_nat (j := 0) rfl) (ix_lst f1 (atI_nat (j := 1) rfl) ?_)
      dsimp only [uAddA]
      refine .inl ⟨_, _, f2, s7 _ _ e6, by rw [sizeLine_eq]; omega, fun p8 np8 => ?_⟩
      have s9 := same_new (o := HO.lst (us5 ++ us6)) np8
      have g6 : TkL (upd H7 p8 (.lst (us5 ++ us6))) (us5 ++ us6) ((y.ar ++ x.ar.map fun m => (t.getD m.1 0, m.2.1, t.getD m.2.2 0)).map kA) := by
        rw [List.map_append, List.map_map]
        exact (f3.app (h6.keep s7)).keep s9
      refine dist_A (n := y.n) upd_same g6 (fun z hz => ?_) (by rw [List.length_append, List.length_map]; omega) fun p9 us9 ar9 H9 s10 e9 h9 srt9 ok9 l9 n9 => ?_
      · rcases List.mem_append.mp hz with hz | hz
        · exact oky.ok.ar z hz
        · obtain ⟨m, hm, rfl⟩ := List.mem_map.mp hz
          obtain ⟨o1, o2, o3⟩ := okx.ok.ar m hm
          exact ⟨tlt _ o1, o2, tlt _ o3⟩
      have s79 := s9.trans s10
      refine ix_lst (s79 _ _ f1) (atI_nat (j := 2) rfl) ?_
      refine .inl ⟨_, _, s79 _ _ f4, s79 _ _ e7, by rw [sizeLine_eq]; omega, fun p10 np10 => ?_⟩
      have s11 := same_new (o := HO.lst (ws5 ++ us7)) np10
      have g7 : TkL (upd H9 p10 (.lst (ws5 ++ us7))) (ws5 ++ us7) ((y.ms ++ x.ms.map fun m => (t.getD m.1 0, m.2)).map kM) := by
        rw [List.map_append, List.map_map]
        exact (f5.app h7).keep (s79.trans s11)
      refine dist_M (n := y.n) upd_same g7 (fun z hz => ?_) (by rw [List.length_append, List.length_map]; omega) fun p11 us11 ms11 H11 s12 e11 h11 srt11 ok11 l11 n11 => ?_
      · rcases List.mem_append.mp hz with hz | hz
        · exact oky.ok.ms z hz
        · obtain ⟨m, hm, rfl⟩ := List.mem_map.mp hz
          obtain ⟨o1, o2⟩ := okx.ok.ms m hm
          exact ⟨tlt _ o1, o2⟩
      rw [List.length_append, List.length_map] at l9 l11
      refine ⟨by decide +kernel, fun T nT => ?_⟩
      have sT := same_new (o := HO.lst [nV y.n, .ref p9, .ref p11]) nT
      have s7T := s79.trans (s11.trans (s12.trans sT))
      have s5T := s57.trans (Same.but s7T)
      exact law_tail (y := ⟨y.n, ar9, ms11⟩) F t1 t2 (sa7.same s7T) ((show WlAt H5 (.ref a4) x from ⟨a4, p4, q4, us4, ws4, rfl, wx1, wx2, wx3, wx4', wx5'⟩).but sa5 s5T) okx x1 ⟨T, p9, p11, us9, us11, rfl, upd_same, (s11.trans (s12.trans sT)) _ _ e9, h9.keep (s11.trans (s12.trans sT)), sT _ _ e11, h11.keep sT⟩ ⟨⟨oky.ok.pos, oky.ok.few, ok9, ok11, by show ar9.length ≤ 1000; omega, by show ms11.length ≤ 1000; omega⟩, srt9, srt11⟩ y1 (tL5.but sa5 s5T) (tS5.but sa5 s5T) i1 i2 k1 ne12 q
  · exact law_tail F t1 t2 sa5 wx5 okx x1 wy5 oky y1 tL5 tS5 i1 i2 k1 ne12 q
end
end L2.WB
namespace L2.XH
open PySem PySem.Spec PyProof.Rows L2
open He (ga ma refV frG frG_at frG_in eqO eqO_ok ba Fa DefD fnW FnW AlD dflAt fAd)
def refsX (g : Addr → Option Obj) (a : Addr) : List Addr := match g a with
  | some o => (match o.data with
    | .func fd => refV fd.code ++ refV fd.defaults ++ refV fd.kwdefaults ++ fd.closure.map (·.2)
    | .cls cd => [cd.ns]
    | .dict es _ => es.toList.flatMap fun e => refV e.val
    | .seq its _ => its.toList.flatMap refV
    | _ => [])
  | none => []
def goX (g : Addr → Option Obj) : Nat → List Addr → List Addr
  | 0, _ => []
  | n + 1, l => (l ++ goX g n (l.flatMap (refsX g)))
def asX (g : Addr → Option Obj) : List Addr := cStatics :: goX g 6 [mainGlobals]
abbrev AlX : Type := Bool × List FnW
def obsX (ck : PySem.W.Frag → Bool) (fa : List Fa) (fn : List DefD) (K : PySem.W.Frag) : AlX := (ck K && ((fa.all fun f => f.ok K) && fn.all fun d => d.ok K), fn.map fun d => fnW K d.at_)
def valX (fn : List DefD) : AlX := (true, fn.map DefD.val)
def SaysX (ck : PySem.W.Frag → Bool) (fa : List Fa) (fn : List DefD) (K : PySem.W.Frag) : Prop := obsX ck fa fn K = valX fn
def obsXG (ck : PySem.W.Frag → Bool) (fa : List Fa) (fn : List DefD) (g : Addr → Option Obj) : AlX := obsX ck fa fn (frG g (asX g))
def hookX (ck : PySem.W.Frag → Bool) (fa : List Fa) (fn : List DefD) : PySem.W.Hook where
  α := AlX
  obs := fun s => obsXG ck fa fn s.heap.get?
  val := fun _ => valX fn
  says := fun _ h => ∃ K : PySem.W.Frag, K.In h ∧ SaysX ck fa fn K
  of := fun _ _ e => ⟨_, frG_in, e⟩
  keeps := fun _ _ _ ⟨K, hK, c⟩ k => ⟨K, PySem.W.Frag.In.keeps hK k, c⟩
theorem obsXG_eq {ck : PySem.W.Frag → Bool} {fa : List Fa} {fn : List DefD} {g : Addr → Option Obj} {s : Shared} (h : ∀ a, g a = s.heap.get? a) : obsXG ck fa fn g = (hookX ck fa fn).obs s := by
  have e : g = s.heap.get? := funext h
  rw [e] <;> rfl
section
variable {ck : PySem.W.Frag → Bool} {fa : List Fa} {fn : List DefD} {K : PySem.W.Frag}
theorem SaysX.both (c : SaysX ck fa fn K) : (ck K && ((fa.all fun f => f.ok K) && fn.all fun d => d.ok K)) = true := congrArg (fun z : AlX => z.1) c
theorem SaysX.chk (c : SaysX ck fa fn K) : ck K = true := (ba c.both).1
theorem SaysX.fact (c : SaysX ck fa fn K) (i : Nat) {f : Fa} (h : fa[i]? = some f) : f.ok K = true := List.all_eq_true.mp (ba (ba c.both).2).1 f (List.mem_of_getElem? h)
theorem SaysX.def_ (c : SaysX ck fa fn K) (i : Nat) {d : DefD} (h : fn[i]? = some d) : ∃ fd, FunD K d.name d.qual d.params d.body d.scope (d.dvs K) (d.kws K) (fAd K d.at_) fd := by
  have e : fn.map (fun d => fnW K d.at_) = fn.map DefD.val := congrArg (fun z : AlX => z.2) c
  have e2 : (fn.map fun d => fnW K d.at_)[i]? = (fn.map DefD.val)[i]? := by rw [e]
  rw [List.getElem?_map, List.getElem?_map, h] at e2
  exact DefD.funD (Option.some.inj e2) (List.all_eq_true.mp (ba (ba c.both).2).2 d (List.mem_of_getElem? h))
end
/-- an empty tuple stands there -/
def emptyB (K : PySem.W.Frag) (a : Addr) : Bool := match K.lookup a with
  | some ⟨.type c, _, .seq its _, _⟩ => decide (c = "tuple") && its.isEmpty
  | _ => false
theorem emptyB_ok {K : PySem.W.Frag} {a : Addr} (h : emptyB K a = true) (H : Hp) : SqT K H a [] := by
  unfold emptyB at h
  split at h
  · rename_i c d its n sl e
    obtain ⟨h1, h2⟩ := ba h
    have h3 : its = #[] := Array.isEmpty_iff.mp h2
    subst h3
    exact .inr ⟨_, #[], _, e, congrArg Value.type (of_decide_eq_true h1), rfl, Nat.zero_le _, .nil⟩
  · cases h
end L2.XH
namespace L2.WB
open PySem PySem.Spec PyProof.Rows L2.XS L2.XB L2.XH
open He (ga ma eqO eqO_ok ba Fa DefD dflAt glo_ok free_ok int_ok str_ok cls_ok noat_ok meth_ok mkr_ok exm_ok)

def prg : Program := PySem.Challenge.pw_waysbyviews_k19_leadings_all
def aC (K : PySem.W.Frag) : Ad where
  Web := ga K "Web"
def fa : List Fa := [.free "len",
  .free "abs",
  .free "isinstance",
  .free "enumerate",
  .free "sorted",
  .free "reversed",
  .free "set",
  .free "int",
  .free "list",
  .free "tuple",
  .free "range",
  .free "str",
  .free "bool",
  .str "LETTERS" (sOf lowers),
  .str "MARKS" (sOf uppers),
  .int "MOST_PLACES" 9999,
  .glo "Web",
  .cls "Web",
  .mkr "Web",
  .noat "Web" "places",
  .noat "Web" "arrows",
  .noat "Web" "marks",
  .noat "Web" "_led",
  .glo "members",
  .glo "mask_of",
  .glo "image",
  .glo "is_letter",
  .glo "is_mark",
  .glo "_check_known",
  .glo "check_arrow",
  .glo "check_mark",
  .glo "_led_places",
  .glo "place_relation",
  .glo "_bound_domains",
  .glo "begun_search",
  .glo "longer_choices",
  .glo "first_choice",
  .glo "_allowed_masks",
  .glo "_marked_places",
  .glo "_letter_pairs",
  .glo "_leading_search",
  .glo "leadings",
  .glo "first_leading",
  .glo "_law_take",
  .glo "_law_two",
  .glo "_law_same",
  .glo "_law_distinct",
  .glo "_law_world",
  .glo "_law_lets",
  .glo "_law_due",
  .glo "_law_lists",
  .glo "_law_asked",
  .glo "_law_chain",
  .glo "_law_fixed",
  .glo "law"]
def ds : List DefD := [
  ⟨("members", none), "members", "members", defArgs s_members, defBody s_members, defScope s_members, [], []⟩,
  ⟨("mask_of", none), "mask_of", "mask_of", defArgs s_mask_of, defBody s_mask_of, defScope s_mask_of, [], []⟩,
  ⟨("image", none), "image", "image", defArgs s_image, defBody s_image, defScope s_image, [], []⟩,
  ⟨("is_letter", none), "is_letter", "is_letter", defArgs s_is_letter, defBody s_is_letter, defScope s_is_letter, [], []⟩,
  ⟨("is_mark", none), "is_mark", "is_mark", defArgs s_is_mark, defBody s_is_mark, defScope s_is_mark, [], []⟩,
  ⟨("_check_known", none), "_check_known", "_check_known", defArgs s__check_known, defBody s__check_known, defScope s__check_known, [], []⟩,
  ⟨("check_arrow", none), "check_arrow", "check_arrow", defArgs s_check_arrow, defBody s_check_arrow, defScope s_check_arrow, [], []⟩,
  ⟨("check_mark", none), "check_mark", "check_mark", defArgs s_check_mark, defBody s_check_mark, defScope s_check_mark, [], []⟩,
  ⟨("_led_places", none), "_led_places", "_led_places", defArgs s__led_places, defBody s__led_places, defScope s__led_places, [], []⟩,
  ⟨("Web", some "__init__"), "__init__", "Web.__init__", defArgs s_Web_init, defBody s_Web_init, defScope s_Web_init, [.adr (dflAt ("Web", some "__init__") 0), .adr (dflAt ("Web", some "__init__") 1)], []⟩,
  ⟨("place_relation", none), "place_relation", "place_relation", defArgs s_place_relation, defBody s_place_relation, defScope s_place_relation, [], []⟩,
  ⟨("_bound_domains", none), "_bound_domains", "_bound_domains", defArgs s__bound_domains, defBody s__bound_domains, defScope s__bound_domains, [], []⟩,
  ⟨("begun_search", none), "begun_search", "begun_search", defArgs s_begun_search, defBody s_begun_search, defScope s_begun_search, [], []⟩,
  ⟨("longer_choices", none), "longer_choices", "longer_choices", defArgs s_longer_choices, defBody s_longer_choices, defScope s_longer_choices, [], []⟩,
  ⟨("first_choice", none), "first_choice", "first_choice", defArgs s_first_choice, defBody s_first_choice, defScope s_first_choice, [], []⟩,
  ⟨("_allowed_masks", none), "_allowed_masks", "_allowed_masks", defArgs s__allowed_masks, defBody s__allowed_masks, defScope s__allowed_masks, [], []⟩,
  ⟨("_marked_places", none), "_marked_places", "_marked_places", defArgs s__marked_places, defBody s__marked_places, defScope s__marked_places, [], []⟩,
  ⟨("_letter_pairs", none), "_letter_pairs", "_letter_pairs", defArgs s__letter_pairs, defBody s__letter_pairs, defScope s__letter_pairs, [], []⟩,
  ⟨("_leading_search", none), "_leading_search", "_leading_search", defArgs s__leading_search, defBody s__leading_search, defScope s__leading_search, [], []⟩,
  ⟨("leadings", none), "leadings", "leadings", defArgs s_leadings, defBody s_leadings, defScope s_leadings, [], [("allowed", .non)]⟩,
  ⟨("first_leading", none), "first_leading", "first_leading", defArgs s_first_leading, defBody s_first_leading, defScope s_first_leading, [], [("allowed", .non)]⟩,
  ⟨("_law_take", none), "_law_take", "_law_take", defArgs s__law_take, defBody s__law_take, defScope s__law_take, [], []⟩,
  ⟨("_law_two", none), "_law_two", "_law_two", defArgs s__law_two, defBody s__law_two, defScope s__law_two, [], []⟩,
  ⟨("_law_same", none), "_law_same", "_law_same", defArgs s__law_same, defBody s__law_same, defScope s__law_same, [], []⟩,
  ⟨("_law_distinct", none), "_law_distinct", "_law_distinct", defArgs s__law_distinct, defBody s__law_distinct, defScope s__law_distinct, [], []⟩,
  ⟨("_law_world", none), "_law_world", "_law_world", defArgs s__law_world, defBody s__law_world, defScope s__law_world, [], []⟩,
  ⟨("_law_lets", none), "_law_lets", "_law_lets", defArgs s__law_lets, defBody s__law_lets, defScope s__law_lets, [], []⟩,
  ⟨("_law_due", none), "_law_due", "_law_due", defArgs s__law_due, defBody s__law_due, defScope s__law_due, [], []⟩,
  ⟨("_law_lists", none), "_law_lists", "_law_lists", defArgs s__law_lists, defBody s__law_lists, defScope s__law_lists, [], []⟩,
  ⟨("_law_asked", none), "_law_asked", "_law_asked", defArgs s__law_asked, defBody s__law_asked, defScope s__law_asked, [], []⟩,
  ⟨("_law_chain", none), "_law_chain", "_law_chain", defArgs s__law_chain, defBody s__law_chain, defScope s__law_chain, [], []⟩,
  ⟨("_law_fixed", none), "_law_fixed", "_law_fixed", defArgs s__law_fixed, defBody s__law_fixed, defScope s__law_fixed, [], []⟩,
  ⟨("law", none), "law", "law", defArgs s_law, defBody s_law, defScope s_law, [], []⟩]
def ck (K : PySem.W.Frag) : Bool := emptyB K (dflAt ("Web", some "__init__") 0 K) && emptyB K (dflAt ("Web", some "__init__") 1 K)
def T1 (K : PySem.W.Frag) : V := .ref (dflAt ("Web", some "__init__") 0 K)
def T2 (K : PySem.W.Frag) : V := .ref (dflAt ("Web", some "__init__") 1 K)
/-- a def of the module stands -/
def DefAt (K : PySem.W.Frag) (mg : Str → Option Value) (x : Str) (st : Stmt) (dvs : List V) (kws : List (Str × V)) : Prop := ∃ f fd, mg x = some (.ref f) ∧ FunD K x x (defArgs st) (defBody st) (defScope st) dvs kws f fd
structure Facts (K : PySem.W.Frag) (mg : Str → Option Value) (c : Ad) : Prop where
  T : Txt K mg c
  f_members : DefAt K mg "members" s_members [] []
  f_mask_of : DefAt K mg "mask_of" s_mask_of [] []
  f_image : DefAt K mg "image" s_image [] []
  f_is_letter : DefAt K mg "is_letter" s_is_letter [] []
  f_is_mark : DefAt K mg "is_mark" s_is_mark [] []
  f__check_known : DefAt K mg "_check_known" s__check_known [] []
  f_check_arrow : DefAt K mg "check_arrow" s_check_arrow [] []
  f_check_mark : DefAt K mg "check_mark" s_check_mark [] []
  f__led_places : DefAt K mg "_led_places" s__led_places [] []
  f_place_relation : DefAt K mg "place_relation" s_place_relation [] []
  f__bound_domains : DefAt K mg "_bound_domains" s__bound_domains [] []
  f_begun_search : DefAt K mg "begun_search" s_begun_search [] []
  f_longer_choices : DefAt K mg "longer_choices" s_longer_choices [] []
  f_first_choice : DefAt K mg "first_choice" s_first_choice [] []
  f__allowed_masks : DefAt K mg "_allowed_masks" s__allowed_masks [] []
  f__marked_places : DefAt K mg "_marked_places" s__marked_places [] []
  f__letter_pairs : DefAt K mg "_letter_pairs" s__letter_pairs [] []
  f__leading_search : DefAt K mg "_leading_search" s__leading_search [] []
  f_leadings : DefAt K mg "leadings" s_leadings [] [("allowed", .non)]
  f_first_leading : DefAt K mg "first_leading" s_first_leading [] [("allowed", .non)]
  f__law_take : DefAt K mg "_law_take" s__law_take [] []
  f__law_two : DefAt K mg "_law_two" s__law_two [] []
  f__law_same : DefAt K mg "_law_same" s__law_same [] []
  f__law_distinct : DefAt K mg "_law_distinct" s__law_distinct [] []
  f__law_world : DefAt K mg "_law_world" s__law_world [] []
  f__law_lets : DefAt K mg "_law_lets" s__law_lets [] []
  f__law_due : DefAt K mg "_law_due" s__law_due [] []
  f__law_lists : DefAt K mg "_law_lists" s__law_lists [] []
  f__law_asked : DefAt K mg "_law_asked" s__law_asked [] []
  f__law_chain : DefAt K mg "_law_chain" s__law_chain [] []
  f__law_fixed : DefAt K mg "_law_fixed" s__law_fixed [] []
  f_law : DefAt K mg "law" s_law [] []
  W : WebF K c
  t1 : Emp K (T1 K)
  t2 : Emp K (T2 K)
  web : ∃ f fd, mg "Web" = some (.ref c.Web) ∧ Mk K c.Web f ∧ FunD K "__init__" "Web.__init__" (defArgs s_Web_init) (defBody s_Web_init) (defScope s_Web_init) [T1 K, T2 K] [] f fd
section
variable {K : PySem.W.Frag} {h : Heap} {mg : Str → Option Value}
theorem facts_of (X : K.In h) (G : h.Ns mainGlobals mg) (c : SaysX ck fa ds K) : Facts K mg (aC K) := by
  have tF : Txt K mg (aC K) := ⟨free_ok X G (c.fact 0 rfl),
    free_ok X G (c.fact 1 rfl),
    free_ok X G (c.fact 2 rfl),
    free_ok X G (c.fact 3 rfl),
    free_ok X G (c.fact 4 rfl),
    free_ok X G (c.fact 5 rfl),
    free_ok X G (c.fact 6 rfl),
    free_ok X G (c.fact 7 rfl),
    free_ok X G (c.fact 8 rfl),
    free_ok X G (c.fact 9 rfl),
    free_ok X G (c.fact 10 rfl),
    free_ok X G (c.fact 11 rfl),
    free_ok X G (c.fact 12 rfl),
    (by obtain ⟨t, e⟩ := str_ok X G (c.fact 13 (f := .str "LETTERS" (sOf lowers)) rfl); exact ⟨_, e, t, rfl⟩),
    (by obtain ⟨t, e⟩ := str_ok X G (c.fact 14 (f := .str "MARKS" (sOf uppers)) rfl); exact ⟨_, e, t, rfl⟩),
    (by obtain ⟨t, e⟩ := int_ok X G (c.fact 15 (f := .int "MOST_PLACES" 9999) rfl); exact ⟨_, e, t, rfl⟩),
    ⟨_, glo_ok X G (c.fact 16 rfl), rfl⟩⟩
  exact ⟨tF,
    (by obtain ⟨fd, F⟩ := c.def_ 0 rfl; exact ⟨_, fd, glo_ok X G (c.fact 23 rfl), F⟩),
    (by obtain ⟨fd, F⟩ := c.def_ 1 rfl; exact ⟨_, fd, glo_ok X G (c.fact 24 rfl), F⟩),
    (by obtain ⟨fd, F⟩ := c.def_ 2 rfl; exact ⟨_, fd, glo_ok X G (c.fact 25 rfl), F⟩),
    (by obtain ⟨fd, F⟩ := c.def_ 3 rfl; exact ⟨_, fd, glo_ok X G (c.fact 26 rfl), F⟩),
    (by obtain ⟨fd, F⟩ := c.def_ 4 rfl; exact ⟨_, fd, glo_ok X G (c.fact 27 rfl), F⟩),
    (by obtain ⟨fd, F⟩ := c.def_ 5 rfl; exact ⟨_, fd, glo_ok X G (c.fact 28 rfl), F⟩),
    (by obtain ⟨fd, F⟩ := c.def_ 6 rfl; exact ⟨_, fd, glo_ok X G (c.fact 29 rfl), F⟩),
    (by obtain ⟨fd, F⟩ := c.def_ 7 rfl; exact ⟨_, fd, glo_ok X G (c.fact 30 rfl), F⟩),
    (by obtain ⟨fd, F⟩ := c.def_ 8 rfl; exact ⟨_, fd, glo_ok X G (c.fact 31 rfl), F⟩),
    (by obtain ⟨fd, F⟩ := c.def_ 10 rfl; exact ⟨_, fd, glo_ok X G (c.fact 32 rfl), F⟩),
    (by obtain ⟨fd, F⟩ := c.def_ 11 rfl; exact ⟨_, fd, glo_ok X G (c.fact 33 rfl), F⟩),
    (by obtain ⟨fd, F⟩ := c.def_ 12 rfl; exact ⟨_, fd, glo_ok X G (c.fact 34 rfl), F⟩),
    (by obtain ⟨fd, F⟩ := c.def_ 13 rfl; exact ⟨_, fd, glo_ok X G (c.fact 35 rfl), F⟩),
    (by obtain ⟨fd, F⟩ := c.def_ 14 rfl; exact ⟨_, fd, glo_ok X G (c.fact 36 rfl), F⟩),
    (by obtain ⟨fd, F⟩ := c.def_ 15 rfl; exact ⟨_, fd, glo_ok X G (c.fact 37 rfl), F⟩),
    (by obtain ⟨fd, F⟩ := c.def_ 16 rfl; exact ⟨_, fd, glo_ok X G (c.fact 38 rfl), F⟩),
    (by obtain ⟨fd, F⟩ := c.def_ 17 rfl; exact ⟨_, fd, glo_ok X G (c.fact 39 rfl), F⟩),
    (by obtain ⟨fd, F⟩ := c.def_ 18 rfl; exact ⟨_, fd, glo_ok X G (c.fact 40 rfl), F⟩),
    (by obtain ⟨fd, F⟩ := c.def_ 19 rfl; exact ⟨_, fd, glo_ok X G (c.fact 41 rfl), F⟩),
    (by obtain ⟨fd, F⟩ := c.def_ 20 rfl; exact ⟨_, fd, glo_ok X G (c.fact 42 rfl), F⟩),
    (by obtain ⟨fd, F⟩ := c.def_ 21 rfl; exact ⟨_, fd, glo_ok X G (c.fact 43 rfl), F⟩),
    (by obtain ⟨fd, F⟩ := c.def_ 22 rfl; exact ⟨_, fd, glo_ok X G (c.fact 44 rfl), F⟩),
    (by obtain ⟨fd, F⟩ := c.def_ 23 rfl; exact ⟨_, fd, glo_ok X G (c.fact 45 rfl), F⟩),
    (by obtain ⟨fd, F⟩ := c.def_ 24 rfl; exact ⟨_, fd, glo_ok X G (c.fact 46 rfl), F⟩),
    (by obtain ⟨fd, F⟩ := c.def_ 25 rfl; exact ⟨_, fd, glo_ok X G (c.fact 47 rfl), F⟩),
    (by obtain ⟨fd, F⟩ := c.def_ 26 rfl; exact ⟨_, fd, glo_ok X G (c.fact 48 rfl), F⟩),
    (by obtain ⟨fd, F⟩ := c.def_ 27 rfl; exact ⟨_, fd, glo_ok X G (c.fact 49 rfl), F⟩),
    (by obtain ⟨fd, F⟩ := c.def_ 28 rfl; exact ⟨_, fd, glo_ok X G (c.fact 50 rfl), F⟩),
    (by obtain ⟨fd, F⟩ := c.def_ 29 rfl; exact ⟨_, fd, glo_ok X G (c.fact 51 rfl), F⟩),
    (by obtain ⟨fd, F⟩ := c.def_ 30 rfl; exact ⟨_, fd, glo_ok X G (c.fact 52 rfl), F⟩),
    (by obtain ⟨fd, F⟩ := c.def_ 31 rfl; exact ⟨_, fd, glo_ok X G (c.fact 53 rfl), F⟩),
    (by obtain ⟨fd, F⟩ := c.def_ 32 rfl; exact ⟨_, fd, glo_ok X G (c.fact 54 rfl), F⟩),
    ⟨cls_ok (c.fact 17 rfl), fun f hf => by
      simp only [List.mem_cons, List.not_mem_nil, or_false] at hf
      rcases hf with rfl | rfl | rfl | rfl
      · exact noat_ok (c.fact 19 rfl)
      · exact noat_ok (c.fact 20 rfl)
      · exact noat_ok (c.fact 21 rfl)
      · exact noat_ok (c.fact 22 rfl)⟩,
    (fun H => ⟨_, rfl, .inr (emptyB_ok (ba c.chk).1 H)⟩),
    (fun H => ⟨_, rfl, .inr (emptyB_ok (ba c.chk).2 H)⟩),
    (by obtain ⟨fd, F⟩ := (c.def_ 9 rfl); exact ⟨_, fd, glo_ok X G (c.fact 16 rfl), mkr_ok (c.fact 18 rfl), F⟩)⟩
end
end L2.WB
namespace L2.WB
open PySem PySem.Spec PyProof.Rows L2.XS L2.XB L2.XH

section
variable {P : Program} {w : World} {K : PySem.W.Frag} {mg : Str → Option Value} {base : Heap} {c : Ad} {CX1 : CXT} {x : Str} {sp : Sp} {j k : Nat} {C : Addr}
theorem Has.mono (h : Has P w K mg base CX1 j x sp) (le : j ≤ k) : Has P w K mg base CX1 k x sp := by
  obtain ⟨f, h1, h2, h3⟩ := h
  exact ⟨f, h1, h2, h3.mono le⟩
theorem HasMk.mono (h : HasMk P w K mg base CX1 j x C sp) (le : j ≤ k) : HasMk P w K mg base CX1 k x C sp := by
  obtain ⟨f, h1, h2, h3⟩ := h
  exact ⟨f, h1, h2, h3.mono le⟩
abbrev BindsAll (x : Str) (st : Stmt) (ps : List Str) : Prop := ∀ (kV doc pm : Value) (an : Option Addr) (cdv ct : Value) (us : List Value), us.length = ps.length → bindArgs (PySem.W.fnOf x x (defArgs st) (defBody st) (defScope st) .none kV doc pm an cdv ct) ⟨us, []⟩ = pure (ps.zip us)
abbrev Len (sp : Sp) (n : Nat) : Prop := ∀ vs H Q E, sp vs H Q E → vs.length = n
theorem fn0 {st : Stmt} {N ps : List Str} {t : TS} {dvs : List V} {kws : List (Str × V)} {f : Addr} {fd : FuncData} {qual : Str} (k : Nat) (F : FunD K x qual (defArgs st) (defBody st) (defScope st) dvs kws f fd) (S : FnScope N ps (defScope st)) (len : Len sp ps.length)
    (hd : ∀ (f : Addr) (cdv : Value) (A : Around) (outer : List Env) (s0 : Shared) (H0 : Hp) (E : XK), Room (k + 1) (X0 P w K mg base N qual st f cdv A outer s0 H0 E).A → PSs (X0 P w K mg base N qual st f cdv A outer s0 H0 E) (defBody st) t)
    (hq : ∀ vs H Q E, sp vs H Q E → t (fin0 Q) (start N vs) H) : FnOk P w K mg base CX0 (k + 2) f fd ps sp :=
  F.ok S len (k := k + 1) fun cdv A outer s H vs Q E hr h => ⟨t, (hd f cdv A outer s H E hr : PSs (X0 P w K mg base N qual st f cdv A outer s H E) (defBody st) t).nox, hq vs H Q E h⟩
theorem has0 {st : Stmt} {N ps : List Str} {t : TS} (k : Nat) (D : DefAt K mg x st [] []) (S : FnScope N ps (defScope st)) (len : Len sp ps.length) (hb : BindsAll x st ps)
    (hd : ∀ (f : Addr) (cdv : Value) (A : Around) (outer : List Env) (s0 : Shared) (H0 : Hp) (E : XK), Room (k + 1) (X0 P w K mg base N x st f cdv A outer s0 H0 E).A → PSs (X0 P w K mg base N x st f cdv A outer s0 H0 E) (defBody st) t)
    (hq : ∀ vs H Q E, sp vs H Q E → t (fin0 Q) (start N vs) H) : Has P w K mg base CX0 (k + 2) x sp := by
  obtain ⟨f, fd, h1, F⟩ := D
  exact ⟨f, h1, F.kp, ((fn0 k F S len hd hq).raw (F.bindsN hb) .nil).imp fun vs H Q E h => by rw [List.append_nil]; exact h⟩
theorem g_members (F : Facts K mg c) : Has prg w K mg base CX0 2 "members" spMem := by
  exact has0 0 F.f_members sc_members (fun vs H Q E h => by obtain ⟨_, _, rfl, _⟩ := h; rfl) (fun _ _ _ _ _ _ us hl => match us, hl with | [_], _ => rfl) (fun f cdv A outer s0 H0 E hr => d_members F.T hr ) fun vs H Q E h => q_members h
theorem g_mask_of (F : Facts K mg c) : Has prg w K mg base CX0 2 "mask_of" spMask := by
  exact has0 0 F.f_mask_of sc_mask_of (fun vs H Q E h => by obtain ⟨_, _, rfl, _⟩ := h; rfl) (fun _ _ _ _ _ _ us hl => match us, hl with | [_], _ => rfl) (fun f cdv A outer s0 H0 E hr => d_mask_of F.T hr ) fun vs H Q E h => q_mask_of h
theorem g_image (F : Facts K mg c) : Has prg w K mg base CX0 2 "image" spImage := by
  exact has0 0 F.f_image sc_image (fun vs H Q E h => by obtain ⟨_, _, _, rfl, _⟩ := h; rfl) (fun _ _ _ _ _ _ us hl => match us, hl with | [_, _], _ => rfl) (fun f cdv A outer s0 H0 E hr => d_image F.T hr ) fun vs H Q E h => q_image h
theorem g_is_letter (F : Facts K mg c) : Has prg w K mg base CX0 2 "is_letter" (spOne K19.isL) := by
  exact has0 0 F.f_is_letter sc_is_letter (fun vs H Q E h => by obtain ⟨_, rfl, _⟩ := h; rfl) (fun _ _ _ _ _ _ us hl => match us, hl with | [_], _ => rfl) (fun f cdv A outer s0 H0 E hr => d_is_letter F.T hr ) fun vs H Q E h => q_is_letter h
theorem g_is_mark (F : Facts K mg c) : Has prg w K mg base CX0 2 "is_mark" (spOne K19.isK) := by
  exact has0 0 F.f_is_mark sc_is_mark (fun vs H Q E h => by obtain ⟨_, rfl, _⟩ := h; rfl) (fun _ _ _ _ _ _ us hl => match us, hl with | [_], _ => rfl) (fun f cdv A outer s0 H0 E hr => d_is_mark F.T hr ) fun vs H Q E h => q_is_mark h
theorem g__check_known (F : Facts K mg c) : Has prg w K mg base CX0 2 "_check_known" spKnown := by
  exact has0 0 F.f__check_known sc__check_known (fun vs H Q E h => by obtain ⟨_, _, rfl, _⟩ := h; rfl) (fun _ _ _ _ _ _ us hl => match us, hl with | [_, _], _ => rfl) (fun f cdv A outer s0 H0 E hr => d__check_known F.T hr ) fun vs H Q E h => q__check_known h
theorem g_check_arrow (F : Facts K mg c) : Has prg w K mg base CX0 4 "check_arrow" spCkA := by
  exact has0 2 F.f_check_arrow sc_check_arrow (fun vs H Q E h => by obtain ⟨_, _, _, rfl, _⟩ := h; rfl) (fun _ _ _ _ _ _ us hl => match us, hl with | [_, _], _ => rfl) (fun f cdv A outer s0 H0 E hr => d_check_arrow F.T hr (g__check_known F) (g_is_letter F)) fun vs H Q E h => q_check_arrow h
theorem g_check_mark (F : Facts K mg c) : Has prg w K mg base CX0 4 "check_mark" spCkM := by
  exact has0 2 F.f_check_mark sc_check_mark (fun vs H Q E h => by obtain ⟨_, _, _, rfl, _⟩ := h; rfl) (fun _ _ _ _ _ _ us hl => match us, hl with | [_, _], _ => rfl) (fun f cdv A outer s0 H0 E hr => d_check_mark F.T hr (g__check_known F) (g_is_mark F)) fun vs H Q E h => q_check_mark h
theorem g__led_places (F : Facts K mg c) : Has prg w K mg base CX0 2 "_led_places" spLed := by
  exact has0 0 F.f__led_places sc__led_places (fun vs H Q E h => by obtain ⟨_, _, _, _, _, _, rfl, _⟩ := h; rfl) (fun _ _ _ _ _ _ us hl => match us, hl with | [_, _], _ => rfl) (fun f cdv A outer s0 H0 E hr => d__led_places F.T hr ) fun vs H Q E h => q__led_places h
theorem m_Web (F : Facts K mg c) : HasMk prg w K mg base CX0 6 "Web" c.Web (spMk K c (T1 K) (T2 K)) := by
  obtain ⟨f, fd, hm, M, D⟩ := F.web
  have G : FnOk prg w K mg base CX0 6 f fd ["self", "places", "arrows", "marks"] (spWeb K c) := fn0 4 D sc_Web_init (fun vs H Q E h => by obtain ⟨_, _, _, _, _, _, _, rfl, _⟩ := h; rfl) (fun f cdv A outer s0 H0 E hr => d_Web_init F.T hr (g_check_arrow F) (g_check_mark F) ((g__led_places F).mono (by decide))) fun vs H Q E h => q_Web_init F.W h
  obtain ⟨d4, r4, b4⟩ := D.binds1 (ps := ["self", "places", "arrows", "marks"]) 4 2 (fun z => nomatch z) rfl fun T kV doc pm an cdv ct us its h1 h2 => match us, its, h1, h2 with | [_, _, _, _], [_, _], _, _ => ⟨_, rfl, rfl⟩
  obtain ⟨d3, r3, b3⟩ := D.binds1 (ps := ["self", "places", "arrows", "marks"]) 3 1 (fun z => nomatch z) rfl fun T kV doc pm an cdv ct us its h1 h2 => match us, its, h1, h2 with | [_, _, _], [_, _], _, _ => ⟨_, rfl, rfl⟩
  obtain ⟨d2, r2, b2⟩ := D.binds1 (ps := ["self", "places", "arrows", "marks"]) 2 0 (fun z => nomatch z) rfl fun T kV doc pm an cdv ct us its h1 h2 => match us, its, h1, h2 with | [_, _], [_, _], _, _ => ⟨_, rfl, rfl⟩
  refine ⟨f, hm, M, fun A outer s H us vs Q E hr e0 r h => ?_⟩
  rcases h with h | h | h
  · exact (G.raw b4 r4) A outer s H us vs Q E hr e0 r (by show spWeb K c (vs ++ []) H Q E; rw [List.append_nil]; exact h)
  · exact (G.raw b3 r3) A outer s H us vs Q E hr e0 r h
  · exact (G.raw b2 r2) A outer s H us vs Q E hr e0 r h
theorem g_place_relation (F : Facts K mg c) : Has prg w K mg base CX0 2 "place_relation" spRel := by
  exact has0 0 F.f_place_relation sc_place_relation (fun vs H Q E h => by obtain ⟨_, _, _, _, rfl, _⟩ := h; rfl) (fun _ _ _ _ _ _ us hl => match us, hl with | [_, _], _ => rfl) (fun f cdv A outer s0 H0 E hr => d_place_relation F.T hr ) fun vs H Q E h => q_place_relation h
theorem g__bound_domains (F : Facts K mg c) : Has prg w K mg base CX0 4 "_bound_domains" spBound := by
  exact has0 2 F.f__bound_domains sc__bound_domains (fun vs H Q E h => by obtain ⟨_, _, _, _, _, _, rfl, _⟩ := h; rfl) (fun _ _ _ _ _ _ us hl => match us, hl with | [_, _], _ => rfl) (fun f cdv A outer s0 H0 E hr => d__bound_domains F.T hr (g_members F) (g_mask_of F) (g_image F)) fun vs H Q E h => q__bound_domains h
theorem g_begun_search (F : Facts K mg c) : Has prg w K mg base CX0 6 "begun_search" spBegun := by
  exact has0 4 F.f_begun_search sc_begun_search (fun vs H Q E h => by obtain ⟨_, _, _, _, _, _, rfl, _⟩ := h; rfl) (fun _ _ _ _ _ _ us hl => match us, hl with | [_, _], _ => rfl) (fun f cdv A outer s0 H0 E hr => d_begun_search F.T hr (g__bound_domains F)) fun vs H Q E h => q_begun_search h
theorem g_longer_choices (F : Facts K mg c) : Has prg w K mg base CX0 6 "longer_choices" spLonger := by
  exact has0 4 F.f_longer_choices sc_longer_choices (fun vs H Q E h => by obtain ⟨_, _, _, _, _, _, _, _, rfl, _⟩ := h; rfl) (fun _ _ _ _ _ _ us hl => match us, hl with | [_, _, _], _ => rfl) (fun f cdv A outer s0 H0 E hr => d_longer_choices F.T hr ((g_members F).mono (by decide)) (g__bound_domains F)) fun vs H Q E h => q_longer_choices h
theorem g_first_choice (F : Facts K mg c) : Has prg w K mg base CX0 8 "first_choice" spFirstC := by
  exact has0 6 F.f_first_choice sc_first_choice (fun vs H Q E h => by obtain ⟨_, _, _, _, _, _, rfl, _⟩ := h; rfl) (fun _ _ _ _ _ _ us hl => match us, hl with | [_, _], _ => rfl) (fun f cdv A outer s0 H0 E hr => d_first_choice F.T hr (g_begun_search F) (g_longer_choices F)) fun vs H Q E h => q_first_choice h
theorem g__allowed_masks (F : Facts K mg c) : Has prg w K mg base CX0 4 "_allowed_masks" (spAllowed c) := by
  exact has0 2 F.f__allowed_masks sc__allowed_masks (fun vs H Q E h => by obtain ⟨_, _, _, _, _, _, rfl, _⟩ := h; rfl) (fun _ _ _ _ _ _ us hl => match us, hl with | [_, _, _], _ => rfl) (fun f cdv A outer s0 H0 E hr => d__allowed_masks F.T hr (g_mask_of F)) fun vs H Q E h => q__allowed_masks F.W h
theorem g__marked_places (F : Facts K mg c) : Has prg w K mg base CX0 4 "_marked_places" (spMarked c) := by
  exact has0 2 F.f__marked_places sc__marked_places (fun vs H Q E h => by obtain ⟨_, _, _, rfl, _⟩ := h; rfl) (fun _ _ _ _ _ _ us hl => match us, hl with | [_, _], _ => rfl) (fun f cdv A outer s0 H0 E hr => d__marked_places F.T hr (g_mask_of F)) fun vs H Q E h => q__marked_places F.W h
theorem g__letter_pairs (F : Facts K mg c) : Has prg w K mg base CX0 2 "_letter_pairs" (spPairs c) := by
  exact has0 0 F.f__letter_pairs sc__letter_pairs (fun vs H Q E h => by obtain ⟨_, _, _, rfl, _⟩ := h; rfl) (fun _ _ _ _ _ _ us hl => match us, hl with | [_, _], _ => rfl) (fun f cdv A outer s0 H0 E hr => d__letter_pairs F.T hr ) fun vs H Q E h => q__letter_pairs F.W h
theorem g__leading_search (F : Facts K mg c) : Has prg w K mg base CX0 6 "_leading_search" (spSearch c) := by
  exact has0 4 F.f__leading_search sc__leading_search (fun vs H Q E h => by obtain ⟨_, _, _, _, _, _, rfl, _⟩ := h; rfl) (fun _ _ _ _ _ _ us hl => match us, hl with | [_, _, _], _ => rfl) (fun f cdv A outer s0 H0 E hr => d__leading_search F.T hr (g__allowed_masks F) (g__marked_places F) ((g_place_relation F).mono (by decide)) ((g__letter_pairs F).mono (by decide))) fun vs H Q E h => q__leading_search F.W h
theorem gen_leadings (F : Facts K mg c) : ∃ gf gd ds, (mg "leadings" = some (.ref gf) ∧ PySem.W.keepIn K (.ref gf) = true ∧ GFn prg w K mg base 8 gf gd ["first", "second", "allowed"] (spLead c)) ∧ KBn K gd ["first", "second", "allowed"] 2 ["allowed"] (fun us ws => us ++ ws) (fun vs zs => vs ++ zs) ∧ (Binds K gd ["first", "second", "allowed"] ds ∧ Vals [V.non] ds) := by
  obtain ⟨f, fd, h1, D⟩ := F.f_leadings
  have kp := D.kp
  obtain ⟨ds, rd, bd⟩ := D.binds0 (ps := ["first", "second", "allowed"]) 2 (fun z => nomatch z) rfl fun T doc pm an cdv ct us ks h1 h2 => match us, ks, h1, h2 with | [_, _], [_], _, _ => ⟨_, _, _, _, _, _, rfl, rfl, rfl⟩
  obtain ⟨mv, kb⟩ := D.kbinds0 (ps := ["first", "second", "allowed"]) 2 ["allowed"] [] (fun us _ ws => us ++ ws) (fun z => nomatch z) (fun q hq => nomatch hq) (fun a _ b => a.append b) fun T doc pm an cdv ct us mv ws h1 h2 h3 => match us, mv, ws, h1, h2, h3 with | [_, _], [], [_], _, _, _ => rfl
  obtain ⟨oc, od, dV, kV, doc, pm, an, cdv, ct, osl, rfl, lk, hcd, _, _⟩ := D.ex
  exact ⟨f, _, ds, ⟨h1, kp, gfn_of (k := 7) lk hcd sc_leadings (fun vs H Q E h => by obtain ⟨_, _, _, _, _, _, rfl, _⟩ := h; rfl) fun A outer s H vs Q E pn hr h => ⟨_, d_leadings F.T hr (g_longer_choices F) (g_begun_search F) (g__leading_search F), q_leadings h⟩⟩, kb, bd, rd⟩
theorem k_first_leading (F : Facts K mg c) : ∃ kf kd, mg "first_leading" = some (.ref kf) ∧ PySem.W.keepIn K (.ref kf) = true ∧ FnOk prg w K mg base CX0 10 kf kd ["first", "second", "allowed"] (spFirst c) ∧ KBn K kd ["first", "second", "allowed"] 2 ["allowed"] (fun us ws => us ++ ws) (fun vs zs => vs ++ zs) := by
  obtain ⟨f, fd, h1, D⟩ := F.f_first_leading
  obtain ⟨mv, kb⟩ := D.kbinds0 (ps := ["first", "second", "allowed"]) 2 ["allowed"] [] (fun us _ ws => us ++ ws) (fun z => nomatch z) (fun q hq => nomatch hq) (fun a _ b => a.append b) fun T doc pm an cdv ct us mv ws h1 h2 h3 => match us, mv, ws, h1, h2, h3 with | [_, _], [], [_], _, _, _ => rfl
  exact ⟨f, fd, h1, D.kp, fn0 8 D sc_first_leading (fun vs H Q E h => by obtain ⟨_, _, _, _, _, _, rfl, _⟩ := h; rfl) (fun f cdv A outer s0 H0 E hr => d_first_leading F.T hr ((g__leading_search F).mono (by decide)) (g_first_choice F)) fun vs H Q E h => q_first_leading h, kb⟩
theorem g_first_leading (F : Facts K mg c) : Has prg w K mg base CX0 10 "first_leading" (spFirst2 c) := by
  obtain ⟨f, fd, h1, D⟩ := F.f_first_leading
  obtain ⟨ds, rd, bd⟩ := D.binds0 (ps := ["first", "second", "allowed"]) 2 (fun z => nomatch z) rfl fun T doc pm an cdv ct us ks h1 h2 => match us, ks, h1, h2 with | [_, _], [_], _, _ => ⟨_, _, _, _, _, _, rfl, rfl, rfl⟩
  have G : FnOk prg w K mg base CX0 10 f fd ["first", "second", "allowed"] (spFirst c) := fn0 8 D sc_first_leading (fun vs H Q E h => by obtain ⟨_, _, _, _, _, _, rfl, _⟩ := h; rfl) (fun f cdv A outer s0 H0 E hr => d_first_leading F.T hr ((g__leading_search F).mono (by decide)) (g_first_choice F)) fun vs H Q E h => q_first_leading h
  refine ⟨f, h1, D.kp, (G.raw bd rd).imp fun vs H Q E h => ?_⟩
  obtain ⟨u1, u2, rfl, h⟩ := h
  exact h
theorem g__law_take (F : Facts K mg c) : Has prg w K mg base CX0 2 "_law_take" spTake := by
  exact has0 0 F.f__law_take sc__law_take (fun vs H Q E h => by obtain ⟨_, _, _, rfl, _⟩ := h; rfl) (fun _ _ _ _ _ _ us hl => match us, hl with | [_, _], _ => rfl) (fun f cdv A outer s0 H0 E hr => d__law_take F.T hr ) fun vs H Q E h => q__law_take h
theorem g__law_two (F : Facts K mg c) : Has prg w K mg base CX0 4 "_law_two" spTwo := by
  exact has0 2 F.f__law_two sc__law_two (fun vs H Q E h => by obtain ⟨_, _, _, rfl, _⟩ := h; rfl) (fun _ _ _ _ _ _ us hl => match us, hl with | [_, _], _ => rfl) (fun f cdv A outer s0 H0 E hr => d__law_two F.T hr (g__law_take F)) fun vs H Q E h => q__law_two h
theorem g__law_same_n (F : Facts K mg c) : ∀ n : Nat, Has prg w K mg base CX0 (2 * n + 2) "_law_same" (spSame n)
  | 0 => by
    obtain ⟨f, fd, h1, G⟩ := F.f__law_same
    exact ⟨f, h1, G.kp, fun A outer s H us vs Q E hr e0 r h => by obtain ⟨u, v, _, hs, _⟩ := h; exact hs.elim⟩
  | n + 1 => has0 (2 * n + 2) F.f__law_same sc__law_same (fun vs H Q E h => by obtain ⟨_, _, rfl, _⟩ := h; rfl) (fun _ _ _ _ _ _ us hl => match us, hl with | [_, _], _ => rfl) (fun f cdv A outer s0 H0 E hr => d__law_same F.T hr (g__law_same_n F n)) fun vs H Q E h => q__law_same h
theorem g__law_same (F : Facts K mg c) : Has prg w K mg base CX0 12 "_law_same" (spSame 5) := g__law_same_n F 5
theorem g__law_distinct (F : Facts K mg c) : Has prg w K mg base CX0 2 "_law_distinct" spDist := by
  exact has0 0 F.f__law_distinct sc__law_distinct (fun vs H Q E h => by obtain ⟨_, _, _, _, rfl, _⟩ := h; rfl) (fun _ _ _ _ _ _ us hl => match us, hl with | [_], _ => rfl) (fun f cdv A outer s0 H0 E hr => d__law_distinct F.T hr ) fun vs H Q E h => q__law_distinct h
theorem g__law_world (F : Facts K mg c) : Has prg w K mg base CX0 4 "_law_world" spWorld := by
  exact has0 2 F.f__law_world sc__law_world (fun vs H Q E h => by obtain ⟨_, _, _, _, _, _, _, _, _, _, rfl, _⟩ := h; rfl) (fun _ _ _ _ _ _ us hl => match us, hl with | [_, _, _, _, _], _ => rfl) (fun f cdv A outer s0 H0 E hr => d__law_world F.T hr (g__law_take F) (g__law_distinct F)) fun vs H Q E h => q__law_world h
theorem g__law_lets (F : Facts K mg c) : Has prg w K mg base CX0 2 "_law_lets" spLets := by
  exact has0 0 F.f__law_lets sc__law_lets (fun vs H Q E h => by obtain ⟨_, _, _, _, rfl, _⟩ := h; rfl) (fun _ _ _ _ _ _ us hl => match us, hl with | [_, _, _], _ => rfl) (fun f cdv A outer s0 H0 E hr => d__law_lets F.T hr ) fun vs H Q E h => q__law_lets h
theorem g__law_due (F : Facts K mg c) : Has prg w K mg base CX0 4 "_law_due" spDue := by
  exact has0 2 F.f__law_due sc__law_due (fun vs H Q E h => by obtain ⟨_, _, _, _, _, _, rfl, _⟩ := h; rfl) (fun _ _ _ _ _ _ us hl => match us, hl with | [_, _, _], _ => rfl) (fun f cdv A outer s0 H0 E hr => d__law_due F.T hr (g__law_lets F)) fun vs H Q E h => q__law_due h
theorem g__law_lists (F : Facts K mg c) : Has prg w K mg base CX0 4 "_law_lists" spLists := by
  exact has0 2 F.f__law_lists sc__law_lists (fun vs H Q E h => by obtain ⟨_, _, _, _, _, _, rfl, _⟩ := h; rfl) (fun _ _ _ _ _ _ us hl => match us, hl with | [_, _, _], _ => rfl) (fun f cdv A outer s0 H0 E hr => d__law_lists F.T hr (g__law_take F)) fun vs H Q E h => q__law_lists h
theorem g__law_asked (F : Facts K mg c) : Has prg w K mg base CX0 14 "_law_asked" (spAsked c) := by
  obtain ⟨kf_first_leading, kd_first_leading, kn1_first_leading, kn2_first_leading, kn3_first_leading, kk_first_leading⟩ := k_first_leading (w := w) (base := base) F
  obtain ⟨gf_leadings, gd_leadings, ds_leadings, gn1_leadings, gk_leadings, gb_leadings⟩ := gen_leadings (w := w) (base := base) F
  exact has0 12 F.f__law_asked sc__law_asked (fun vs H Q E h => by obtain ⟨_, _, _, _, _, _, _, _, rfl, _⟩ := h; rfl) (fun _ _ _ _ _ _ us hl => match us, hl with | [_, _, _, _, _], _ => rfl) (fun f cdv A outer s0 H0 E hr => d__law_asked F.T hr ((g__law_due F).mono (by decide)) (g__law_same F) ((g_first_leading F).mono (by decide)) ⟨kn1_first_leading, kn2_first_leading, kn3_first_leading.mono (by decide)⟩ kk_first_leading gn1_leadings (by decide) gk_leadings gb_leadings) fun vs H Q E h => q__law_asked F.W h
theorem g__law_chain (F : Facts K mg c) : Has prg w K mg base CX0 14 "_law_chain" spChain := by
  obtain ⟨kf_first_leading, kd_first_leading, kn1_first_leading, kn2_first_leading, kn3_first_leading, kk_first_leading⟩ := k_first_leading (w := w) (base := base) F
  obtain ⟨gf_leadings, gd_leadings, ds_leadings, gn1_leadings, gk_leadings, gb_leadings⟩ := gen_leadings (w := w) (base := base) F
  exact has0 12 F.f__law_chain sc__law_chain (fun vs H Q E h => by obtain ⟨_, _, _, _, _, _, _, _, _, rfl, _⟩ := h; rfl) (fun _ _ _ _ _ _ us hl => match us, hl with | [_, _, _, _, _], _ => rfl) (fun f cdv A outer s0 H0 E hr => d__law_chain F.T hr (g__law_same F) ((g_first_leading F).mono (by decide)) ⟨kn1_first_leading, kn2_first_leading, kn3_first_leading.mono (by decide)⟩ kk_first_leading ((m_Web F).mono (by decide)) gn1_leadings (by decide) gk_leadings gb_leadings) fun vs H Q E h => q__law_chain F.W h
theorem g__law_fixed (F : Facts K mg c) : Has prg w K mg base CX0 14 "_law_fixed" spFixed := by
  obtain ⟨gf_leadings, gd_leadings, ds_leadings, gn1_leadings, gk_leadings, gb_leadings⟩ := gen_leadings (w := w) (base := base) F
  exact has0 12 F.f__law_fixed sc__law_fixed (fun vs H Q E h => by obtain ⟨_, _, _, rfl, _⟩ := h; rfl) (fun _ _ _ _ _ _ us hl => match us, hl with | [_], _ => rfl) (fun f cdv A outer s0 H0 E hr => d__law_fixed F.T hr ((g_first_leading F).mono (by decide)) (g__law_same F) ((m_Web F).mono (by decide)) gn1_leadings (by decide) gb_leadings) fun vs H Q E h => q__law_fixed F.W F.t1 F.t2 h
theorem g_law {f : Addr} {fd : FuncData} (F : Facts K mg c) (G : FunD K "law" "law" (defArgs s_law) (defBody s_law) (defScope s_law) [] [] f fd) : FnOk prg w K mg base CX0 16 f fd ["script"] (spLaw K) := by
  obtain ⟨gf_leadings, gd_leadings, ds_leadings, gn1_leadings, gk_leadings, gb_leadings⟩ := gen_leadings (w := w) (base := base) F
  exact fn0 14 G sc_law (fun vs H Q E h => by obtain ⟨_, _, rfl, _⟩ := h; rfl) (fun f cdv A outer s0 H0 E hr => d_law F.T hr ((g__law_two F).mono (by decide)) ((g__law_world F).mono (by decide)) ((g__law_take F).mono (by decide)) ((g__law_distinct F).mono (by decide)) ((g__law_lists F).mono (by decide)) (g__law_asked F) ((g__law_same F).mono (by decide)) ((g__law_due F).mono (by decide)) (g__law_fixed F) (g__law_chain F) ((m_Web F).mono (by decide)) gn1_leadings (by decide) gb_leadings) fun vs H Q E h => q_law F.W F.t1 F.t2 h
end
end L2.WB
namespace L2.WB
open PySem PySem.Spec PyProof.Rows L2.XH
abbrev Rw : PySem.W.OpenRow := PySem.W.OpenLaw.row PySem.Challenge.rw_waysbyviews_k19_leadings_all
abbrev hk : PySem.W.Hook := hookX ck fa ds
def ob (s : PySem.W.SharedT) : AlX := obsXG ck fa ds (HandSHeadRun.getT s)
theorem ob_eq (s : PySem.W.SharedT) : ob s = hk.obs s.abs := obsXG_eq (HandSHeadRun.getT_eq s)
def loose0 : List Str := ["_wall", "__name__", "members", "mask_of", "image", "WaysError", "BadItem", "BadPlaces", "BadPlace", "LETTERS", "MARKS", "is_letter", "is_mark", "MOST_PLACES", "_check_known", "check_arrow", "check_mark", "_led_places", "Web", "place_relation", "_bound_domains", "begun_search", "longer_choices", "first_choice", "_allowed_masks"]
def loose1 : List Str := ["_marked_places", "_letter_pairs", "_leading_search", "leadings", "first_leading", "_law_take", "_law_two", "_law_same", "_law_distinct", "_law_world", "_law_lets", "_law_due", "_law_lists", "_law_asked", "_law_chain", "_law_fixed"]
def loose : List Str := loose0 ++ loose1
theorem run (w : World) : HandSHeadRun.RunEq Rw (PySem.W.view Rw.prog [47]) hk ob 20000 loose w := by
  intro os
  kernel_rfl
end L2.WB
namespace L2.WB
open PySem PySem.Spec PyProof.Rows L2.XH
theorem ints_mem {ns : List Int} : ∀ z ∈ ns.map V.int, ∃ n : Int, z = .int n := fun z hz => by
  obtain ⟨n, _, e⟩ := List.mem_map.mp hz
  exact ⟨n, e.symm⟩
theorem the_law {w : World} {K : PySem.W.Frag} {h : Heap} {mg : Str → Option Value} {fa0 : Addr} (X : K.In h) (G : h.Ns mainGlobals mg) (hfa : mg ("law" : Str) = some (.ref fa0)) (c : SaysX ck fa ds K) :
    ∃ fd : FuncData, (∀ (s : Shared) (u : Value), BindsTo s fd ⟨[u], []⟩ [("script", u)]) ∧ ∀ base : Heap, K.In base → base.Ns mainGlobals mg → FnOk prg w K mg base CX0 16 fa0 fd ["script"] (spLaw K) := by
  have F := facts_of X G c
  obtain ⟨f, fd, h1, D⟩ := F.f_law
  obtain rfl : f = fa0 := Value.ref.inj (Option.some.inj (h1.symm.trans hfa))
  refine ⟨fd, fun s u => ?_, fun base _ _ => g_law F D⟩
  exact D.bindsA (ps := ["script"]) (fun _ _ _ _ _ _ us hl => match us, hl with | [_], _ => rfl) s [u] rfl
end L2.WB
open PySem PySem.W PySem.Calls PyProof.Rows
theorem PySem.Challenge.cw_waysbyviews_k19_leadings_all_holds : PySem.Challenge.rw_waysbyviews_k19_leadings_all.Holds := by
  w_on; o_law
  refine HandSHeadRun.head_any (r := L2.WB.Rw) (q := view L2.WB.Rw.prog [47]) (H := L2.WB.hk) (ob := L2.WB.ob) (M := 20000) (loose := L2.WB.loose) (d := HandSHeadRun.topDef L2.WB.Rw.prog 47) (kwd := []) L2.WB.ob_eq
    (by kernel_rfl) (fun s => by kernel_rfl) L2.WB.run (by kernel_rfl) (by kernel_rfl) (by kernel_rfl) (by rfl) (by first | assumption | decide +kernel) (by decide +kernel) ⟨rfl, rfl, rfl, rfl, rfl, by decide +kernel⟩ ?hw ?hc
  case hw => w_witness2
  case hc =>
    refine L2.walk_ofE (l := PySem.Challenge.rw_waysbyviews_k19_leadings_all) (n := 63) (k := 16) (x := "script") (CX := L2.CX0) rfl (by decide) (by kernel_rfl) ⟨rfl, by decide, by decide⟩ ?F (fun _ _ _ _ z => z)
    intro w mg fa h Y G hmg0
    obtain ⟨K, KX, c⟩ := Y
    have hmg : mg ("law" : PySem.Str) = some (.ref fa) := by
      have e : (HandSHeadRun.topDef L2.WB.Rw.prog 47).name = ("law" : PySem.Str) := by kernel_rfl
      rw [← e]
      exact hmg0
    obtain ⟨fd, hb, hF⟩ := L2.WB.the_law (w := w) KX G hmg c
    exact ⟨K, fd, L2.WB.spLaw K, KX, hb, fun H a ns hl _ hS => ⟨a, _, rfl, hS, L2.WB.ints_mem, fun _ => rfl⟩, hF⟩
