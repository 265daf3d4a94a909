import PyProof.Rows.All
import Wide.All
import OpenK.AllK
import Wide.FinOn
import HandS.Base
import HandS.Call
import HandS.Ends
import HandS.Defaults
import HandS.HeadEnd
import HandS.ForMost
import HandS.CallRecv
import HandS.Style
import HandS.Conv
import HandS.WideBits
import KE.KTupSum
import HandS.TupSets
import HandS.Flow
import HandS.Wide
import HandS.SortInts
import HandS.IsInst
import HandS.TupAny
import HandS.Zip
import HandS.Deep
import HandS.SortKw
import KE.DataMinMax
import KE.SortData
import HandS.Sort
import KE.KStateDown
import Lean
import HandS.More
import HandS.WordsExc
import HandS.Head0
import HandS.Head1
import HandS.Head2
import HandS.HeadHook1
import HandS.HeadHook2
import PySem.Challenge.RW_rillwise_k51_steps_of_turnings
import PyProof.ReprLen
set_option Elab.async false
set_option linter.all false
set_option maxRecDepth 100000
set_option maxHeartbeats 0
/-! calls where nothing is being shown (no guard): contracts of defs that may show nested data -/
namespace MP
open PySem PySem.Spec PyProof.Rows L2
/-- a def's contract, of callers that stand in no guard -/
structure GFn (Pr : Program) (w : World) (K : PySem.W.Frag) (mg : Str → Option Value) (base : Heap) (CX : CXT) (k : Nat) (f : Addr) (fd : FuncData) (ps : List Str) (sp : Sp) : Prop where
  len : ∀ vs H Q E, sp vs H Q E → vs.length = ps.length
  go : ∀ (B : Around) (out : List Env) (s : Shared) (H : Hp) (args : Args) (us : List Value) (vs : List V) (Q : VK) (E : XK), Room k B → B.guards = some [] → Env0 Pr w K mg base B out s H → BindsTo s fd args (ps.zip us) → Vals vs us → sp vs H Q E →
    codeAny (model Pr w) B (.call (.ref f) args) (CR CX out Pr w H s Q E) s
section
variable {X : Cx} {CX : CXT} {k : Nat} {f C : Addr} {fd : FuncData} {ps : List Str} {sp : Sp} {dvs : List V} {ds : List Value} {E : XK} {x m : Str} {p pos apos : Pos} {e o : Expr} {es : List Expr} {ta : TE} {t : TA}
theorem GFn.enter {pins : List (Addr × Obj)} {σ : L2.St} {H : Hp} {s : Shared} {Q : VK} {us vv : List Value} {kw : List (Str × Value)} {vs : List V} (F : GFn X.prog X.w X.K X.mg X.base CX k f fd ps sp) (hr : Room k X.A) (hg : X.A.guards = some []) (hx : Passes CX X E)
    (J : Inv X pins σ H s) (hb : BindsTo s fd ⟨us, kw⟩ (ps.zip vv)) (rv : Vals vs vv) (hs : sp vs H Q E) : wpAny (model X.prog X.w) X.A (call (.ref f) us kw) (EP X pins σ Q) X.xe s := by
  refine wpAny_call (codeAny_mono (F.go X.A X.stack s H ⟨us, kw⟩ vv vs Q E hr hg J.env0 hb rv hs) fun res sh hres => ?_)
  match res, hres with
  | .error ee, hres => exact hx pins σ H s ee sh J hres
  | .ok (.ret u), hres => exact J.after hres
  | .ok .next, hres => exact hres.elim
  | .ok .brk, hres => exact hres.elim
  | .ok .cont, hres => exact hres.elim
theorem g_call (F : GFn X.prog X.w X.K X.mg X.base CX k f fd ps sp) (hr : Room k X.A) (hgd : X.A.guards = some []) (hg : Gl X x) (hm : X.mg x = some (.ref f)) (hk : PySem.W.keepIn X.K (.ref f) = true) (hb : Binds X.K fd ps ds) (hd : Vals dvs ds) (hx : Passes CX X E)
    (ha : PA X (e :: es) t) (hdb : (x == ("__debug__" : Str)) = false) (he : starEach (e :: es) X.env = (false, eval e X.env) :: starEach es X.env) (hpl : (backTo pos (starEach es X.env)).any (·.1) = false) :
    PE X (.Call (.Name x p) (e :: es) [] pos) (tCall sp dvs E t) := by
  refine ⟨fun pins s σ H Q J hq => ?_⟩
  refine wpAny_Call_Name_kw (ld_glob J hg hm ?_ hdb)
  refine PySem.W.callWith_K (h₀ := X.base) J.ok.mod.kin hk (thn (ha.run pos pins s σ H _ J hq) fun us sh ⟨vs, H1, J1, rel, q1⟩ => ⟨J1.kIn, ?_⟩) he hpl
  have rel2 : Vals (vs ++ dvs) (us ++ ds) := rel.append hd
  exact F.enter hr hgd hx J1 (hb sh us J1.kIn (rel2.length.symm.trans (F.len _ _ _ _ q1))) rel2 q1
theorem g_call0 (F : GFn X.prog X.w X.K X.mg X.base CX k f fd ps sp) (hr : Room k X.A) (hgd : X.A.guards = some []) (hg : Gl X x) (hm : X.mg x = some (.ref f)) (hk : PySem.W.keepIn X.K (.ref f) = true) (hb : Binds X.K fd ps ds) (hd : Vals dvs ds) (hx : Passes CX X E)
    (hdb : (x == ("__debug__" : Str)) = false) : PE X (.Call (.Name x p) [] [] pos) (tCall sp dvs E tNil) := by
  refine ⟨fun pins s σ H Q J hq => wpAny_Call_Name_kw (ld_glob J hg hm ?_ hdb)⟩
  have hq' : sp ([] ++ dvs) H Q E := hq
  exact PySem.W.callWith_K0 J.kIn hk (F.enter hr hgd hx J (hb s [] J.kIn (hd.length.symm.trans (F.len _ _ _ _ hq'))) (vs := [] ++ dvs) hd hq')
theorem g_callK {ks : List Str} {kws : List Keyword} {tk : TA} {g : List Value → List Value → List Value} {gV : List V → List V → List V} (F : GFn X.prog X.w X.K X.mg X.base CX k f fd ps sp) (hr : Room k X.A) (hgd : X.A.guards = some []) (hg : Gl X x) (hm : X.mg x = some (.ref f)) (hk : PySem.W.keepIn X.K (.ref f) = true) (hb : KBinds X.K fd ps ks g gV) (hx : Passes CX X E)
    (ha : PA X (e :: es) t) (hkw : PK X kws tk) (hall : (backToKw pos (keywordEach kws X.env)).all (·.1.isSome) = true) (hks : (backToKw pos (keywordEach kws X.env)).filterMap (·.1) = ks)
    (hdb : (x == ("__debug__" : Str)) = false) (he : starEach (e :: es) X.env = (false, eval e X.env) :: starEach es X.env)
    (hpl : ((backTo pos (starEach (e :: es) X.env)).any (·.1) || (backToKw pos (keywordEach kws X.env)).any (·.1.isNone)) = false) :
    PE X (.Call (.Name x p) (e :: es) kws pos) (tCallK sp gV E t tk) := by
  refine ⟨fun pins s σ H Q J hq => wpAny_Call_Name_kw (ld_glob J hg hm ?_ hdb)⟩
  refine PySem.W.callWith_KW (h₀ := X.base) J.ok.mod.kin hk hall (thn (ha.run pos pins s σ H _ J hq) fun us sh ⟨vs, H1, J1, rel, q1⟩ => thn (hkw.run pos pins sh σ H1 _ J1 q1) fun ws s2 ⟨zs, H2, J2, relz, q2⟩ => ⟨J2.kIn, ?_⟩) hpl he
  rw [hks]
  have rel2 := hb.rel rel relz
  exact F.enter hr hgd hx J2 (hb.to s2 us ws J2.kIn (rel2.length.symm.trans (F.len _ _ _ _ q2))) rel2 q2
end
section
variable {Pr : Program} {w : World} {K : PySem.W.Frag} {mg : Str → Option Value} {base : Heap} {x qual : Str} {params : Arguments} {body : List Stmt} {scope : Scope} {dvs : List V} {kws : List (Str × V)} {f : Addr} {fd : FuncData}
/-- a def keeps its contract, by its body -/
theorem GFn.of {CX : CXT} {N ps : List Str} {k : Nat} {sp : Sp} (D : FunD K x qual params body scope dvs kws f fd) (S : FnScope N ps scope) (hlen : ∀ vs H Q E, sp vs H Q E → vs.length = ps.length)
    (hbody : ∀ (cdv : Value) (B : Around) (out : List Env) (s : Shared) (H : Hp) (vs : List V) (Q : VK) (E : XK), Room k (B.deeper (envOfC qual scope s.heap.objs.size f cdv)) → (B.deeper (envOfC qual scope s.heap.objs.size f cdv)).guards = some [] → sp vs H Q E →
      ∃ t, PSs (cxOf CX Pr w K mg base N qual scope f cdv B out s H E) body t ∧ t { nx := fun _ H' => Q .non H', rt := Q } (L2.start N vs) H) : GFn Pr w K mg base CX (k + 1) f fd ps sp := by
  obtain ⟨oc, od, dV, kV, doc, pm, an, cdv, ct, osl, rfl, lk, hcd, _, _⟩ := D.ex
  refine ⟨hlen, fun B out s H args us vs Q E hroom hgd he hbind rel hs => ?_⟩
  have kin : K.In s.heap := he.mod.kin.keeps fun b o hb => (he.bs b o hb).1
  have nolim : s.heap.NoLimit := he.mod.nolimit.keeps fun b o hb => (he.bs b o hb).1
  have kinds : ∀ y ∈ ps.zip us, scope.names.lookup y.1 = some .local ∨ (scope.names.lookup y.1 = some .cell ∧ ((cellsFrom (s.heap.objs.size + 1) scope.names []).lookup y.1).isSome = true) := fun ⟨nm, v⟩ hy =>
    (S.par nm (List.of_mem_zip hy).1).imp id fun z => ⟨z, PySem.W.cellsFrom_some _ _ _ (.inl z)⟩
  refine codeAny_call_function hroom.depth (kin _ _ lk) rfl S.co S.gen rfl (PySem.W.codeRec_of kin hcd) (hbind _ _ _ _ (wpAny_newFunctionEnv_cells S.kind kinds fun env henv s1 nx => ?_))
  subst henv
  obtain ⟨t, ht, hq⟩ := hbody cdv B out s H vs Q E (hroom.deeper _) hgd hs
  have J : Inv (cxOf CX Pr w K mg base N qual scope f cdv B out s H E) [] (L2.start N vs) H s1 := inv_start S hroom.hd he (hlen _ _ _ _ hs) rel nx
  refine ⟨nolim.keeps nx.toInCall.keep, codeAny_func (wpAny_mono (ht.run [] s1 (L2.start N vs) H _ J hq) (fun fl sh hfl => ?_) fun _ _ z => z)⟩
  match fl, hfl with
  | .ret u, ⟨v, σ', H', J', rv, q⟩ => exact ⟨v, H', J'.os, J'.bare, J'.base, J'.hok, rv, q⟩
  | .next, ⟨σ', H', J', q⟩ => exact ⟨.non, H', J'.os, J'.bare, J'.base, J'.hok, rfl, q⟩
  | .brk, ⟨_, _, _, q⟩ => exact q.elim
  | .cont, ⟨_, _, _, q⟩ => exact q.elim
end
end MP
namespace MP
open PySem PySem.Spec PyProof.Rows L2
section
variable {Pr : Program} {w : World} {K : PySem.W.Frag} {mg mb : Str → Option Value} {CX : CXT} {k : Nat} {fa sa : Addr} {fd : FuncData} {x : Str} {sp : Sp} {sh : Shared} {vs : List Value} {ns : List Int}
/-- the law's call, the script tracked or part of the module: H tells which -/
theorem law_from (KX : K.In sh.heap) (hns : sh.heap.Ns mainGlobals mg) (hbi : sh.heap.Ns builtinsNs mb) (hboot : ∀ x : Str, x ≠ "__name__" → mb x = bootBuiltins x) (hlim : sh.heap.NoLimit) (hgen : sh.gens = #[])
    (hsc : sh.heap.get? sa = some { cls := .type "list", data := .seq vs.toArray }) (hr : Room k callerA)
    (F : ∀ base : Heap, K.In base → base.Ns mainGlobals mg → GFn Pr w K mg base CX k fa fd [x] sp) (hbind : ∀ (s : Shared) (u : Value), BindsTo s fd ⟨[u], []⟩ [(x, u)])
    (hCX : ∀ H e s', CX [] H sh (fun _ _ _ => False) e s' → False)
    {H : Hp} (only : Only H) (hsp : sp [.ref sa] H (fun v _ => v = .bl true) fun _ _ _ => False) (hok : HOk Pr w H sh.heap) (hone : ∀ b, H b ≠ none → b = sa) (hK : H sa ≠ none → K.lookup sa = none) :
    codeAny (model Pr w) callerA (.call (.ref fa) ⟨[.ref sa], []⟩) (fun r s' => r = .ok (.ret (.bool true)) ∧ OldK sh.heap s'.heap ∧ s'.os = sh.os ∧ AllBare s'.gens) sh := by
  have plainAt : ∀ {b : Addr} {ob : Obj}, sh.heap.get? b = some ob → H b = none → (hidT sh.heap H).get? b = some ob := fun z1 z2 => hidT_get z1 z2
  have some_eq : ∀ {b : Addr} {u : HO}, H b = some u → b = sa := fun {b u} z => hone b (by rw [z]; exact Option.some_ne_none u)
  have dictAt : ∀ {b : Addr} {ob : Obj} {ents : Array DictEntry} {ver : Nat}, sh.heap.get? b = some ob → ob.data = .dict ents ver → H b = none := fun {b ob ents ver} z1 z2 => by
    match hh : H b with
    | none => rfl
    | some u =>
      have zb := some_eq hh
      subst zb
      rw [hsc] at z1
      cases z1
      exact absurd (show Data.seq vs.toArray _ = Data.dict ents ver from z2) (fun z => by cases z)
  have nsAt : ∀ {b : Addr} {mm : Str → Option Value}, sh.heap.Ns b mm → (hidT sh.heap H).Ns b mm := fun {b mm} ⟨ob, ents, ver, z1, z2, z3⟩ => ⟨ob, ents, ver, plainAt z1 (dictAt z1 z2), z2, z3⟩
  have kinB : K.In (hidT sh.heap H) := fun b ob z => plainAt (KX b ob z) (by
    match hh : H b with
    | none => rfl
    | some u =>
      have zb := some_eq hh
      subst zb
      have zk := hK (by rw [hh]; exact Option.some_ne_none u)
      rw [zk] at z
      cases z)
  have modB : Mod K mg (hidT sh.heap H) := ⟨kinB, nsAt hns, ⟨mb, nsAt hbi, hboot⟩, hlim.elim fun mc z => ⟨mc, nsAt z.1, z.2⟩⟩
  have envB : Env0 Pr w K mg (hidT sh.heap H) callerA [] sh H := ⟨rfl, modB, fun b ob z => of_hidT z, Nat.le_of_eq (hidT_size _ _), trivial, fun b z => (List.not_mem_nil (show b ∈ ([] : List Addr) from z)).elim, hok, .of_eq hgen⟩
  refine codeAny_mono ((F _ kinB (nsAt hns)).go callerA [] sh H ⟨[.ref sa], []⟩ [.ref sa] [.ref sa] _ _ hr rfl envB (hbind sh (.ref sa)) (.cons rfl .nil) hsp) fun res s' hres => ?_
  match res, hres with
  | .error ee, hres => exact (hCX H ee s' hres).elim
  | .ok .next, hres => exact hres.elim
  | .ok .brk, hres => exact hres.elim
  | .ok .cont, hres => exact hres.elim
  | .ok (.ret u), ⟨v, H', hos, hbare, hun, hok', rv, hv⟩ =>
    have hv' : v = .bl true := hv
    subst hv'
    have hu : u = Value.bool true := rv
    subst hu
    refine ⟨rfl, OldK.of_keep fun b ob z => ?_, hos, hbare⟩
    rcases only b with hn | ⟨ob2, xs, hz⟩
    · exact hun.keep b ob z hn (fun q => by cases (show b ∈ ([] : List Addr) from q)) (by simp)
    · have z1 := (hok b _ hz).1
      have z2 := (hok' b _ (hun.frzs b ob2 _ hz)).1
      rw [z] at z1
      cases z1
      exact z2
/-- a law whose def stands in no guard -/
theorem walk_g {l : PySem.W.OpenLaw} {n : Nat} {q : Program} {loose : List Str} {XP : (Str → Option Value) → Heap → Prop} {YP : World → Heap → Prop} {d : DefRec}
    (hn : l.most = some n) (hn2 : n ≤ sizeLine) (hdf : d.params.defaults = []) (hr : Room k callerA)
    (F : ∀ (w : World) (mg : Str → Option Value) (fa : Addr) (h : Heap), YP w h → h.Ns mainGlobals mg → mg d.name = some (.ref fa) →
      ∃ (K : PySem.W.Frag) (fd : FuncData) (sp : Sp), K.In h ∧ (∀ (s : Shared) (u : Value), BindsTo s fd ⟨[u], []⟩ [(x, u)]) ∧
        (∀ (H : Hp) (a : Addr) (ns : List Int), ns.length ≤ n → SqL K H a (ns.map V.int) → sp [.ref a] H (fun v _ => v = .bl true) fun _ _ _ => False) ∧
        ∀ base : Heap, K.In base → base.Ns mainGlobals mg → GFn l.prog w K mg base CX k fa fd [x] sp)
    (hCX : ∀ (H : Hp) (s : Shared) (e : Value) (s' : Shared), CX [] H s (fun _ _ _ => False) e s' → False) :
    PySem.W.WalkO q loose XP YP l.row.toRowW d [] (fun f vs => PySem.call f vs) := by
  refine Att.attach_call hn hdf fun w s0 sh mg mb fa o pm cd doc sa vs ns Gr Y ho hd hcd hmg hobj hints hlen hgen => ?_
  obtain ⟨K, fd, sp, KX, hb, hsp, hF⟩ := F w mg fa _ Y Gr.T.g hmg
  have go := fun {H : Hp} => law_from (Pr := l.prog) (w := w) (H := H) KX Gr.T.g Gr.T.b Gr.T.builtins Gr.T.nolimit hgen hobj hr hF hb fun H e s' => hCX H sh e s'
  have rv := vals_ints hints
  have hsz : ns.length ≤ sizeLine := Nat.le_trans hlen hn2
  match hk : K.lookup sa with
  | some ob =>
    have z := KX sa ob hk
    rw [hobj] at z
    cases z
    exact go (H := fun _ => none) (fun _ => .inl rfl) (hsp _ sa ns hlen (.inr ⟨_, vs.toArray, _, hk, rfl, rfl, rfl, by rw [List.size_toArray, hints.length]; exact hsz, by simpa using rv⟩)) (fun b u q => by cases (show (none : Option HO) = some u from q)) (fun b q => absurd rfl q) fun q => absurd rfl q
  | none =>
    have at_ : ∀ b, b = sa ∨ b ≠ sa := fun b => Classical.em _
    refine go (H := fun b => if b = sa then some (.frz { cls := .type "list", data := .seq vs.toArray } (.lst (ns.map V.int))) else none) (fun b => ?_) (hsp _ sa ns hlen (.inl (.inr ⟨{ cls := .type "list", data := .seq vs.toArray }, if_pos rfl⟩))) (fun b u q => ?_) (fun b q => ?_) fun _ => hk
    · exact (at_ b).elim (fun z => .inr ⟨_, _, if_pos z⟩) fun z => .inl (if_neg z)
    · rcases at_ b with z | z
      · have q' := (if_pos z).symm.trans q
        cases q'
        subst z
        exact ⟨hobj, by rw [List.length_map]; exact hsz, vs, _, rv, hobj⟩
      · have q' := (if_neg z).symm.trans q
        cases q'
    · exact (at_ b).elim id fun z => absurd (if_neg z) q
end
end MP

/-! rules at the layer's own level: methods, new instances, chains of four, sums over tuples and ranges -/
namespace MP
open PySem PySem.Spec PyProof.Rows L2
theorem GFn.mono {Pr : Program} {w : World} {K : PySem.W.Frag} {mg : Str → Option Value} {base : Heap} {CX : CXT} {j k : Nat} {f : Addr} {fd : FuncData} {ps : List Str} {sp : Sp} (F : GFn Pr w K mg base CX j f fd ps sp) (h : j ≤ k) : GFn Pr w K mg base CX k f fd ps sp :=
  ⟨F.len, fun B out s H args us vs Q E hr => F.go B out s H args us vs Q E (hr.mono h)⟩
theorem guards_make {A : Around} {C : Addr} {us : List Value} {kw : List (Str × Value)} : (A.under (.builtin "type.__call__" ⟨.ref C :: us, kw⟩)).guards = A.guards := by
  first | rfl | simp [Around.under, Code.weight, Code.isCreation, Code.isGuard, Code.isCaller, Code.frames, Code.isFrame, guardIds]
/-- whom an attribute is asked of: no super() -/
def notSuper : Expr → Bool
  | .Call (.Name id _) [] [] _ => id != ("super" : Str)
  | _ => true
theorem base_ok {o : Expr} {attr : Str} {env : Env} {whole : Sem Value} (h : notSuper o = true) : attributeBase o attr env whole = whole := by
  unfold attributeBase
  split
  · rename_i id p p2
    have h1 : (id != ("super" : Str)) = true := h
    rw [h1]
    simp only [Bool.true_or, if_true, bind_pure]
  · rfl
def noStar : Expr → Bool
  | .Starred _ _ => false
  | _ => true
theorem nostar_ok {e : Expr} {es : List Expr} {env : Env} (h : noStar e = true) : starEach (e :: es) env = (false, eval e env) :: starEach es env := by
  cases e <;> first | rfl | cases h
theorem nostar_any {pos : Pos} {env : Env} : ∀ {es : List Expr}, es.all noStar = true → (backTo pos (starEach es env)).any (·.1) = false
  | [], _ => rfl
  | e :: es, h => by
    simp only [List.all_cons, Bool.and_eq_true] at h
    rw [nostar_ok h.1]
    show (false || (backTo pos (starEach es env)).any (·.1)) = false
    rw [nostar_any h.2]; rfl
theorem all_not_of_any {α : Type} {l : List (Bool × α)} (h : l.any (·.1) = false) : l.all (!·.1) = true := by
  induction l with
  | nil => rfl
  | cons x xs ih =>
    simp only [List.any_cons, Bool.or_eq_false_iff] at h
    simp only [List.all_cons, Bool.and_eq_true, Bool.not_eq_true']
    exact ⟨h.1, ih h.2⟩
theorem meth_tree {o : Expr} {m : Str} {apos pos : Pos} {args : List Expr} {env : Env} (hb : notSuper o = true) (hs : args.all noStar = true) (hl : args.length < 30) (hp : (apos.endLine == pos.line) = true) :
    eval (.Call (.Attribute o m apos) args [] pos) env = (do
      let ov ← eval o env
      standAt apos.atName
      let (f, first) ← holding [ov] (getMethod ov m (do return (← importBound o env).getD true))
      callWith pos f first (backTo pos (starEach args env)) (backToKw pos (keywordEach [] env))) := by
  refine mcall_of (base_ok hb) fun ov => ?_
  have hf : methodCallForm (args.length + ([] : List Keyword).length) (backTo pos (starEach args env)) (backToKw pos (keywordEach [] env)) = true := by
    unfold methodCallForm
    rw [all_not_of_any (nostar_any hs)]
    simp only [List.length_nil, Nat.add_zero, Bool.true_and]
    have : (backToKw pos (keywordEach [] env)).isEmpty = true := rfl
    rw [this]
    simp only [if_true, Nat.add_zero, Bool.and_eq_true, decide_eq_true_eq]
    exact ⟨rfl, hl⟩
  have hq : ∀ few, methodCallPos few o env apos pos = pure pos := fun few => by
    unfold methodCallPos
    rw [hp, Bool.or_true]
    rfl
  unfold methodCall
  rw [hf]
  simp only [hq]
  rfl
/-- o.m(..): the receiver's class tells the def -/
def tMethG (X : Cx) (CX : CXT) (m : Str) (ta : TE) (t : TA) : TE := fun σ H Q => ta σ H fun x H1 => ∃ (a C dx : Addr) (fs : List (Str × V)) (k : Nat) (f : Addr) (fd : FuncData) (ps : List Str) (sp : Sp) (E : XK),
  x = .ref a ∧ H1 a = some (.ins C dx fs) ∧ fs.lookup m = none ∧ Cls X.K C ∧ Meth X.K C m f ∧ GFn X.prog X.w X.K X.mg X.base CX k f fd ps sp ∧ Room k X.A ∧ Binds X.K fd ps [] ∧ Passes CX X E ∧ t σ H1 fun vs H2 => sp (x :: vs) H2 Q E
section
variable {X : Cx} {CX : CXT} {k : Nat} {f C : Addr} {fd : FuncData} {ps : List Str} {sp : Sp} {dvs : List V} {ds : List Value} {E : XK} {x m : Str} {p pos apos : Pos} {e o : Expr} {es : List Expr} {ta : TE} {t : TA}
theorem g_meth_fin {pins : List (Addr × Obj)} {σ : L2.St} {Q : VK} {a : Addr} (hgd : X.A.guards = some []) (F : GFn X.prog X.w X.K X.mg X.base CX k f fd ps sp) (hr : Room k X.A) (hbd : Binds X.K fd ps []) (hx : Passes CX X E) (us : List Value) (s2 : Shared) (vs : List V) (H2 : Hp) (I2 : Inv X pins σ H2 s2) (r : Vals vs us)
    (q2 : sp (.ref a :: vs) H2 Q E) : wpAny (model X.prog X.w) X.A (call (.ref f) (.ref a :: us)) (EP X pins σ Q) X.xe s2 := by
  have hlen : (Value.ref a :: us).length = ps.length := by
    have := F.len _ _ _ _ q2
    rw [← this, List.length_cons, List.length_cons, r.length]
  have hbn := hbd s2 (.ref a :: us) I2.kIn (by rw [List.append_nil]; exact hlen)
  rw [List.append_nil] at hbn
  have r2 : Vals (V.ref a :: vs) (Value.ref a :: us) := .cons rfl r
  exact F.enter hr hgd hx I2 hbn r2 q2
theorem g_meth (hgd : X.A.guards = some []) (he : PE X o ta) (ha : PA X (e :: es) t) (hb : notSuper o = true) (hs : (e :: es).all noStar = true) (hl : (e :: es).length < 30) (hp : (apos.endLine == pos.line) = true) :
    PE X (.Call (.Attribute o m apos) (e :: es) [] pos) (tMethG X CX m ta t) := by
  refine ⟨fun pins s σ H Q I h => ?_⟩
  refine PySem.W.methodCall_KW (thn (he.run pins s σ H _ I h) fun u s1 ⟨x, H1, I1, rx, a, C, dx, fs, k, f, fd, ps, sp, E, ex, ea, l, c, hm, F, hr, hbd, hx, q⟩ => ?_) (meth_tree hb hs hl hp)
  subst ex
  obtain rfl : u = Value.ref a := rx
  refine getmeth_ok I1 ea c hm l ?_
  simp only [List.all_cons, Bool.and_eq_true] at hs
  exact PySem.W.callWith_K (first := [.ref a]) (h₀ := X.base) I.ok.mod.kin hm.kp (thn (ha.run pos pins s1 σ H1 _ I1 q) fun us s2 ⟨vs, H2, I2, r, q2⟩ => ⟨I2.kIn, g_meth_fin hgd F hr hbd hx us s2 vs H2 I2 r q2⟩) (nostar_ok hs.1) (nostar_any hs.2)
theorem g_meth0 (hgd : X.A.guards = some []) (he : PE X o ta) (hb : notSuper o = true) (hp : (apos.endLine == pos.line) = true) :
    PE X (.Call (.Attribute o m apos) [] [] pos) (tMethG X CX m ta tNil) := by
  refine ⟨fun pins s σ H Q I h => ?_⟩
  refine PySem.W.methodCall_KW (thn (he.run pins s σ H _ I h) fun u s1 ⟨x, H1, I1, rx, a, C, dx, fs, k, f, fd, ps, sp, E, ex, ea, l, c, hm, F, hr, hbd, hx, q⟩ => ?_) (meth_tree hb rfl (by decide) hp)
  subst ex
  obtain rfl : u = Value.ref a := rx
  refine getmeth_ok I1 ea c hm l ?_
  exact PySem.W.callWith_K0 (first := [.ref a]) I1.kIn hm.kp (g_meth_fin hgd F hr hbd hx [] s1 [] H1 I1 .nil q)
/-! a new instance -/
theorem g_run_make {pins : List (Addr × Obj)} {σ : L2.St} {H : Hp} {s : Shared} {Q : VK} {us : List Value} {vs : List V} (M : Mk X.K C f) (F : GFn X.prog X.w X.K X.mg X.base CX k f fd ps sp) (hr : Room (k + 1) X.A) (hgd : X.A.guards = some []) (hb : Binds X.K fd ps [])
    (hx : Passes CX X E) (I : Inv X pins σ H s) (r : Vals vs us)
    (h : ∀ x dx, H x = none → H dx = none → dx ≠ x → sp (.ref x :: vs) (upd (upd H dx (.own x)) x (.ins C dx [])) (fun v H2 => v = .non ∧ Q (.ref x) H2) E) :
    wpAny (model X.prog X.w) X.A (call (.ref C) us) (EP X pins σ Q) X.xe s := by
  have hq := h (s.heap.objs.size + 1) s.heap.objs.size (I.hok.fresh (Nat.le_succ _)) (I.hok.fresh (Nat.le_refl _)) (Nat.ne_of_lt (Nat.lt_succ_self _))
  have I2 := Inv.made (C := C) I
  have r2 : Vals (V.ref (s.heap.objs.size + 1) :: vs) (Value.ref (s.heap.objs.size + 1) :: us) := .cons rfl r
  have hl : (Value.ref (s.heap.objs.size + 1) :: us).length = ps.length := by
    have e := r2.length
    rw [F.len _ _ _ _ hq] at e
    exact e.symm
  have hbn := hb { s with heap := (s.heap.push PySem.W.emptyDict).push (PySem.W.instObj C s.heap.objs.size) } (Value.ref (s.heap.objs.size + 1) :: us) I2.kIn (by rw [List.append_nil]; exact hl)
  rw [List.append_nil] at hbn
  refine wpAny_call (make_map (f := f) I.kIn M.makes M.init (beq_iff_eq.mp M.fn) (codeAny_mono (F.go _ X.stack _ _ ⟨Value.ref (s.heap.objs.size + 1) :: us, []⟩ (Value.ref (s.heap.objs.size + 1) :: us) _ _ E (hr.make C us [])
    (by rw [guards_make]; exact hgd) (I2.env0.make C us []) hbn r2 hq) fun r s' hq' => ?_))
  cases r with
  | error e => exact hx pins σ _ _ e s' I2 hq'
  | ok fl =>
    cases fl with
    | ret u =>
      obtain ⟨v, H', I3, rv, ev, q3⟩ := I2.after hq'
      subst ev
      exact ⟨rv, ⟨V.ref (s.heap.objs.size + 1), H', I3, rfl, q3⟩⟩
    | next => exact False.elim hq'
    | brk => exact False.elim hq'
    | cont => exact False.elim hq'
theorem g_make (M : Mk X.K C f) (F : GFn X.prog X.w X.K X.mg X.base CX k f fd ps sp) (hr : Room (k + 1) X.A) (hgd : X.A.guards = some []) (hg : Gl X x) (hm : X.mg x = some (.ref C)) (hb : Binds X.K fd ps []) (hx : Passes CX X E)
    (ha : PA X (e :: es) t) (hdb : (x == ("__debug__" : Str)) = false) (hs : (e :: es).all noStar = true) :
    PE X (.Call (.Name x p) (e :: es) [] pos) (tMake C sp [] E t) := by
  refine ⟨fun pins s σ H Q I h => ?_⟩
  refine wpAny_Call_Name_kw (ld_glob I hg hm ?_ hdb)
  simp only [List.all_cons, Bool.and_eq_true] at hs
  refine PySem.W.callWith_K (h₀ := X.base) I.ok.mod.kin M.kp (thn (ha.run pos pins s σ H _ I h) fun us s1 ⟨vs, H1, I1, r, q⟩ => ⟨I1.kIn, ?_⟩) (nostar_ok hs.1) (nostar_any hs.2)
  exact g_run_make M F hr hgd hb hx I1 r (fun x dx h1 h2 h3 => by have := q x dx h1 h2 h3; rwa [List.append_nil] at this)
end
/-! a < b < c < d -/
def tChain3 (r r' r'' : R2) (ta tb tc td : TE) : TE := fun σ H Q => ta σ H fun x H1 => tb σ H1 fun y H2 => r x y H2 fun z H3 => ∃ k, z = .bl k ∧
  (if k = true then tc σ H3 fun w' H4 => r' y w' H4 fun z' H5 => ∃ k', z' = .bl k' ∧ (if k' = true then td σ H5 fun w'' H6 => r'' w' w'' H6 Q else Q (.bl false) H5) else Q (.bl false) H3)
section
variable {X : Cx} {a b c d : Expr} {ta tb tc td : TE} {pos : Pos}
theorem pe_chain3 {op op' op'' : CmpOp} {r r' r'' : R2} (ho : OpR X (compareOp op) r) (ho' : OpR X (compareOp op') r') (ho'' : OpR X (compareOp op'') r'') (ha : PE X a ta) (hb : PE X b tb) (hc : PE X c tc) (hd : PE X d td)
    (hm : lastMarks [op, op', op''] [b, c, d] = false) : PE X (.Compare a [op, op', op''] [b, c, d] pos) (tChain3 r r' r'' ta tb tc td) := by
  refine ⟨fun pins s σ H Q I h => ?_⟩
  refine Compare_chain (thn (ha.run pins s σ H _ I h) fun v s1 ⟨x, H1, I1, r1, q1⟩ => chain_link (thn (hb.run pins s1 σ H1 _ I1 q1) fun u s2 ⟨y, H2, I2, r2, q2⟩ =>
    thn (ho pins s2 σ H2 x y v u _ I2 r1 r2 q2) fun d1 s3 ⟨z, H3, I3, r3, k, e, q3⟩ => ?_)) hm
  subst e
  cases r3
  refine wpAny_truthy_bool ?_
  cases k with
  | false => exact ite_ff ⟨.bl false, H3, I3, rfl, q3⟩
  | true =>
    refine ite_tt (chain_link (thn (hc.run pins s3 σ H3 _ I3 q3) fun w' s4 ⟨z', H4, I4, r4, q4⟩ => thn (ho' pins s4 σ H4 y z' u w' _ I4 r2 r4 q4) fun d2 s5 ⟨z2, H5, I5, r5, k2, e2, q5⟩ => ?_))
    subst e2
    cases r5
    refine wpAny_truthy_bool ?_
    cases k2 with
    | false => exact ite_ff ⟨.bl false, H5, I5, rfl, q5⟩
    | true => exact ite_tt (chain_last (thn (hd.run pins s5 σ H5 _ I5 q5) fun w2 s6 ⟨z3, H6, I6, r6, q6⟩ => ho'' pins s6 σ H6 z' z3 w' w2 Q I6 r4 r6 q6))
theorem pt_chain3 {op op' op'' : CmpOp} {r r' r'' : R2} (ho : OpR X (compareOp op) r) (ho' : OpR X (compareOp op') r') (ho'' : OpR X (compareOp op'') r'') (ha : PE X a ta) (hb : PE X b tb) (hc : PE X c tc) (hd : PE X d td)
    (hm : lastMarks [op, op', op''] [b, c, d] = false) : PT X (.Compare a [op, op', op''] [b, c, d] pos) (tTest (tChain3 r r' r'' ta tb tc td)) := by
  refine ⟨fun pins s σ H Q I h => ?_⟩
  refine isTrue_chain (thn (ha.run pins s σ H _ I h) fun v s1 ⟨x, H1, I1, r1, q1⟩ => test_link (thn (hb.run pins s1 σ H1 _ I1 q1) fun u s2 ⟨y, H2, I2, r2, q2⟩ =>
    thn (ho pins s2 σ H2 x y v u _ I2 r1 r2 q2) fun d1 s3 ⟨z, H3, I3, r3, k, e, q3⟩ => ?_)) hm
  subst e
  cases r3
  refine wpAny_truthy_bool ?_
  cases k with
  | false =>
    obtain ⟨k', e', q'⟩ := q3
    cases e'
    exact ite_ff ⟨H3, I3, q'⟩
  | true =>
    refine ite_tt (test_link (thn (hc.run pins s3 σ H3 _ I3 q3) fun w' s4 ⟨z', H4, I4, r4, q4⟩ => thn (ho' pins s4 σ H4 y z' u w' _ I4 r2 r4 q4) fun d2 s5 ⟨z2, H5, I5, r5, k2, e2, q5⟩ => ?_))
    subst e2
    cases r5
    refine wpAny_truthy_bool ?_
    cases k2 with
    | false =>
      obtain ⟨k', e', q'⟩ := q5
      cases e'
      exact ite_ff ⟨H5, I5, q'⟩
    | true =>
      refine ite_tt (test_last (thn (hd.run pins s5 σ H5 _ I5 q5) fun w2 s6 ⟨z3, H6, I6, r6, q6⟩ => thn (ho'' pins s6 σ H6 z' z3 w' w2 _ I6 r4 r6 q6) fun c s7 ⟨z4, H7, I7, r7, k7, e7, q7⟩ => ?_))
      subst e7
      cases r7
      exact wpAny_truthy_bool ⟨H7, I7, q7⟩
end
end MP

/-! sum of a tuple and of a range -/
namespace MP
open PySem PySem.Spec PyProof.Rows L2
def rsum (a : Int) : Nat → Int
  | 0 => 0
  | n + 1 => rsum a n + (a + (n : Int))
theorem rsum_pre (a : Int) : ∀ n, preSum (fun i : Nat => a + (i : Int) * 1) n = rsum a n
  | 0 => rfl
  | n + 1 => by
    show preSum (fun i : Nat => a + (i : Int) * 1) n + (a + (n : Int) * 1) = rsum a n + (a + (n : Int))
    rw [rsum_pre a n, Int.mul_one]
section
variable {prog : Program} {w : World} {A : Around} {E : Value → Shared → Prop} {s : Shared}
theorem sum_range {Q : Value → Shared → Prop} {r : Addr} {a b : Int} {t u v : Tok} {n : Nat} (hh : A.handled = none) (hr : IsRange s.heap r a b 1 t u v) (hsmall : Builtin.Range.small a b 1 = true) (hn : Builtin.Range.rangeSize a b 1 = n)
    (h : ∀ h' tk t', (∀ b o, s.heap.get? b = some o → h'.get? b = some o) → Q (.int (rsum a n) t') { s with heap := h', toks := tk }) :
    wpAny (model prog w) A (call (.builtin "sum") [.ref r]) Q E s := by
  have W := (Walks.range (prog := prog) (w := w) (A := A.in1) hh s.heap.objs.size a 1 n).toS
  refine call_sum_walkAnyS (wpAny_pyIter_range hr hsmall ?_)
  have hit₁ : IsRangeIter (s.heap.push { cls := .type "range_iterator", data := .fields #[rawInt a, rawInt (Builtin.Range.rangeSize a b 1), rawInt 1] }) s.heap.objs.size (a + ((0 : Nat) : Int) * 1) ((n : Int) - ((0 : Nat) : Int)) 1 := by
    show IsRangeIter _ _ _ _ _; rw [hn]; simpa using Heap.get?_push_size _ rfl
  refine ⟨s.heap.objs.size, _, _, _, _, _, _, fun i : Nat => a + (i : Int) * 1, rfl, W, hit₁, fun b hb => ?_, fun i v hP => hP, fun s' t' hm => ?_⟩
  · obtain rfl := List.mem_singleton.mp hb
    exact Heap.lt_size (Heap.get?_push_size _ rfl)
  · rw [rsum_pre]
    obtain ⟨h', g', d', tk', os'⟩ := s'
    have e1 : g' = s.gens := hm.gens
    have e2 : d' = s.drawn := hm.drawn
    have e3 : os' = s.os := hm.os
    subst e1 e2 e3
    exact h h' tk' t' fun b o e => hm.heap b o (fun hb => absurd (Heap.lt_size e) ((List.mem_singleton.mp hb) ▸ Nat.lt_irrefl _)) (Heap.get?_push_of_some _ e)
end
section
variable {X : Cx} {e : Expr} {te : L2.St → Hp → (Int → Int → Hp → Prop) → Prop}
/-- sum(range(..)) -/
def tSumRg (te : L2.St → Hp → (Int → Int → Hp → Prop) → Prop) : TE := fun σ H Q => te σ H fun a b H1 => RgOk a b ∧ Q (.int (rsum a (b - a).toNat)) H1
theorem pe_sumRg {p pos : Pos} (hc : X.calm = true) (hg : Gl X "sum") (hm : X.mg "sum" = none) (he : PRg X e te) (na : starEach [e] X.env = (false, eval e X.env) :: starEach [] X.env) : PE X (.Call (.Name "sum" p) [e] [] pos) (tSumRg te) := by
  refine ⟨fun pins s σ H Q I h => ?_⟩
  refine Call_ (ld_blt I hg hm boot_sum (PyProof.Rows.callWith_builtin1 (args_cons (thn (he pins s σ H _ I h) fun x s1 ⟨r, a, b, t, u, v, H1, ex, hr, I1, ok, q⟩ => args_nil ?_) na) na))
  subst ex
  obtain ⟨b1, b2, b3, b4, b5⟩ := ok
  exact sum_range (n := (b - a).toNat) (I1.ok.hd hc) hr (small_one b1 b2 b3 b4) (rangeSize_nat a b) fun h' tk t' hk => ⟨.int _, H1, I1.kept hk, ⟨_, rfl⟩, q⟩
def rSumT (K : PySem.W.Frag) : List V → Hp → VK → Prop := fun vs H Q => ∃ (a : Addr) (ns : List Int), vs = [V.ref a] ∧ SqT K H a (ns.map V.int) ∧ Q (.int ns.sum) H
theorem cr_sumT (hc : X.calm = true) : CallR X (.builtin "sum") (rSumT X.K) := by
  intro pins s σ H vs us Q I r h
  obtain ⟨a, ns, rfl, hs, q⟩ := h
  obtain ⟨its, rv, hl, _⟩ := I.tuple hs
  rw [Vals.ref1 r]
  have hi := rv.ints
  obtain ⟨xs, hx⟩ := hi.allInts.items
  have hn : numsOf its.toArray.toList = ns := by rw [show its.toArray.toList = its from rfl, hi.numsOf]
  rw [hx] at hl hn
  rw [nums_intItems] at hn
  refine PySem.W.ktm_sumG (I.ok.hd hc) hl fun h' tk t' hk => ?_
  rw [preSum_eq, List.take_of_length_le (by simp), hn]
  exact ⟨.int _, H, I.kept hk, ⟨_, rfl⟩, q⟩
end
/-! len(set(xs)), xs a list of tuples of ints -/
def dd : List (List Int) → List (List Int)
  | [] => []
  | t :: ts => if (dd ts).contains t then dd ts else t :: dd ts
theorem dd_mem {x : List Int} : ∀ {ts : List (List Int)}, x ∈ dd ts ↔ x ∈ ts
  | [] => .rfl
  | t :: ts => by
    unfold dd
    have ih := dd_mem (x := x) (ts := ts)
    split
    · rename_i h
      rw [List.contains_iff_mem] at h
      rw [ih, List.mem_cons]
      refine ⟨.inr, fun z => ?_⟩
      rcases z with rfl | z
      · exact dd_mem.mp h
      · exact z
    · rw [List.mem_cons, List.mem_cons, ih]
theorem dd_nodup : ∀ ts : List (List Int), (dd ts).Nodup
  | [] => .nil
  | t :: ts => by
    unfold dd
    split
    · exact dd_nodup ts
    · rename_i h
      rw [List.nodup_cons]
      refine ⟨fun z => h ?_, dd_nodup ts⟩
      rw [List.contains_iff_mem]; exact z
section
variable {X : Cx} {ta : TE} {a : Expr}
def tLenSetT (K : PySem.W.Frag) (ta : TE) : TE := fun σ H Q => ta σ H fun x H1 => ∃ (l : Addr) (ks : List (Addr × List Int)), x = V.ref l ∧ SqL K H1 l (ks.map fun p => V.ref p.1) ∧ (∀ p ∈ ks, SqT K H1 p.1 (p.2.map V.int)) ∧ ks.length < 64 ∧ Q (.int (dd (ks.map (·.2))).length) H1
theorem pe_lenSetT {p p2 q pos : Pos} (hc : X.calm = true) (hu : X.A.units + 64 < cLine) (hg : Gl X "len") (hm : X.mg "len" = none) (hg2 : Gl X "set") (hm2 : X.mg "set" = none) (ha : PE X a ta)
    (na : starEach [a] X.env = (false, eval a X.env) :: starEach [] X.env) : PE X (.Call (.Name "len" p) [.Call (.Name "set" p2) [a] [] q] [] pos) (tLenSetT X.K ta) := by
  refine ⟨fun pins s σ H Q I h => ?_⟩
  refine Call_ (ld_blt I hg hm PySem.boot_len ?_)
  refine PyProof.Rows.callWith_builtin1 (PyProof.Rows.args_cons ?_ rfl) rfl rfl
  refine Call_ (ld_blt I hg2 hm2 PyProof.Rows.boot_set ?_)
  refine PyProof.Rows.callWith_type1 (PyProof.Rows.args_cons (thn (ha.run pins s σ H _ I h) fun v s1 ⟨x, H1, I1, r1, q1⟩ => PyProof.Rows.args_nil ?_) na) na rfl
  obtain ⟨l, ks, rfl, hq, hk, hf, q1⟩ := q1
  cases r1
  obtain ⟨its, rv, pl, hz⟩ := I1.list hq
  refine call_set_tups (P := X.prog) (w := X.w) ks (I1.ok.hd hc) pl.isList (by simpa using refs_of_vals rv) (fun p hp => I1.isT (hk p hp)) hf (by omega) fun h' tk L es ep t R g k => ?_
  refine PyProof.Rows.args_nil ?_
  have I2 : Inv X pins σ H1 { s1 with heap := h', toks := tk } := I1.kept k
  obtain ⟨o, ho, hex, hd⟩ := R.ob
  have hfit : t.fits es.size = true := SetTR.fits (s := { s1 with heap := h', toks := tk }) R
  have hes : es.size = L.length := by
    have := congrArg List.length R.rows
    rw [Array.length_toList] at this
    rw [this]
    unfold rowsOf
    rw [List.length_map]
  have hsub : ∀ p ∈ L, p ∈ ks := fun p hp => List.mem_of_mem_take (g.sub p hp)
  have hall : ∀ p ∈ ks, p.2 ∈ L.map (·.2) := fun p hp => g.all p (by rw [List.take_length]; exact hp)
  have hperm : (L.map (·.2)).Perm (dd (ks.map (·.2))) := by
    refine (List.perm_ext_iff_of_nodup R.nd (dd_nodup _)).mpr fun y => ?_
    rw [dd_mem]
    constructor
    · intro hy
      obtain ⟨p, hp, rfl⟩ := List.mem_map.mp hy
      exact List.mem_map.mpr ⟨p, hsub p hp, rfl⟩
    · intro hy
      obtain ⟨p, hp, rfl⟩ := List.mem_map.mp hy
      exact hall p hp
  have hlen : es.size = (dd (ks.map (·.2))).length := by
    rw [hes, ← hperm.length_eq, List.length_map]
  refine call_len_set ho hex hd hfit (by rw [hes]; have := R.few; omega) ⟨.int (dd (ks.map (·.2))).length, H1, I2.tok _, ⟨_, by rw [hlen]⟩, q1⟩
end
end MP

namespace MP
open PySem PySem.Spec PyProof.Rows L2
abbrev Sg := L2.St

/-- data: pure trees -/
inductive D where
  | non | bl (b : Bool) | int (i : Int) | str (x : Str)
  | tup (ds : List D) | lst (ds : List D)
  | ins (c : Nat) (fs : List D)
  deriving Inhabited

/-- what is fixed: the written part, where classes stand, their fields -/
structure RP where
  K : PySem.W.Frag
  ca : Nat → Addr
  fl : Nat → List Str

def TupAt (K : PySem.W.Frag) (L : Addr → Prop) (H : Hp) (a : Addr) (vs : List V) : Prop :=
  (H a = some (.tup vs) ∧ ¬ L a) ∨ SqT K (fun _ => none) a vs
mutual
/-- the value v is the data d in H; L: the addresses of lists that may still change -/
def Rep (P : RP) (L : Addr → Prop) (H : Hp) : D → V → Prop
  | .non, v => v = .non
  | .bl b, v => v = .bl b
  | .int i, v => v = .int i
  | .str x, v => v = .str x
  | .tup ds, v => ∃ a vs, v = .ref a ∧ TupAt P.K L H a vs ∧ Reps P L H ds vs
  | .lst ds, v => ∃ a vs, v = .ref a ∧ H a = some (.lst vs) ∧ ¬ L a ∧ Reps P L H ds vs
  | .ins c fs, v => ∃ a dx vs, v = .ref a ∧ H a = some (.ins (P.ca c) dx ((P.fl c).zip vs)) ∧ ¬ L a ∧ vs.length ≤ (P.fl c).length ∧ Reps P L H fs vs
def Reps (P : RP) (L : Addr → Prop) (H : Hp) : List D → List V → Prop
  | [], vs => vs = []
  | d :: ds, vs => ∃ v r, vs = v :: r ∧ Rep P L H d v ∧ Reps P L H ds r
end
variable {P : RP} {L L' : Addr → Prop} {H H' : Hp}

theorem SqT.wr {K : PySem.W.Frag} {H : Hp} {a : Addr} {vs : List V} (h : SqT K (fun _ => none) a vs) : SqT K H a vs := by
  rcases h with (h | ⟨o, h⟩) | h
  · cases h
  · cases h
  · exact .inr h
theorem TupAt.sq {K : PySem.W.Frag} {a : Addr} {vs : List V} (h : TupAt K L H a vs) : SqT K H a vs := by
  rcases h with ⟨h, _⟩ | h
  · exact SqT.of h
  · exact SqT.wr h
theorem TupAt.keep {K : PySem.W.Frag} {a : Addr} {vs : List V} (k : ∀ b o, H b = some o → ¬ L b → H' b = some o) (l : ∀ b, L' b → L b ∨ H b = none) (h : TupAt K L H a vs) : TupAt K L' H' a vs := by
  rcases h with ⟨h, n⟩ | h
  · refine .inl ⟨k _ _ h n, fun z => ?_⟩
    rcases l _ z with z | z
    · exact n z
    · rw [z] at h; cases h
  · exact .inr h
mutual
theorem Rep.keep (k : ∀ b o, H b = some o → ¬ L b → H' b = some o) (l : ∀ b, L' b → L b ∨ H b = none) : ∀ (d : D) (v : V), Rep P L H d v → Rep P L' H' d v
  | .non, _, h => h
  | .bl _, _, h => h
  | .int _, _, h => h
  | .str _, _, h => h
  | .tup ds, v, h => by
    unfold Rep at h ⊢
    obtain ⟨a, vs, e, t, r⟩ := h
    exact ⟨a, vs, e, t.keep k l, Reps.keep k l ds vs r⟩
  | .lst ds, v, h => by
    unfold Rep at h ⊢
    obtain ⟨a, vs, e, t, n, r⟩ := h
    refine ⟨a, vs, e, k _ _ t n, fun z => ?_, Reps.keep k l ds vs r⟩
    rcases l _ z with z | z
    · exact n z
    · rw [z] at t; cases t
  | .ins c fs, v, h => by
    unfold Rep at h ⊢
    obtain ⟨a, dx, vs, e, t, n, hl, r⟩ := h
    refine ⟨a, dx, vs, e, k _ _ t n, fun z => ?_, hl, Reps.keep k l fs vs r⟩
    rcases l _ z with z | z
    · exact n z
    · rw [z] at t; cases t
theorem Reps.keep (k : ∀ b o, H b = some o → ¬ L b → H' b = some o) (l : ∀ b, L' b → L b ∨ H b = none) : ∀ (ds : List D) (vs : List V), Reps P L H ds vs → Reps P L' H' ds vs
  | [], _, h => h
  | d :: ds, vs, h => by
    unfold Reps at h ⊢
    obtain ⟨v, r, e, h1, h2⟩ := h
    exact ⟨v, r, e, Rep.keep k l d v h1, Reps.keep k l ds r h2⟩
end
theorem Reps.length : ∀ {ds : List D} {vs : List V}, Reps P L H ds vs → ds.length = vs.length
  | [], _, h => by unfold Reps at h; subst h; rfl
  | d :: ds, vs, h => by
    unfold Reps at h
    obtain ⟨v, r, rfl, _, h2⟩ := h
    simp [Reps.length h2]
theorem Reps.nil : Reps P L H [] [] := by unfold Reps; rfl
theorem Reps.cons {d : D} {ds : List D} {v : V} {vs : List V} (h : Rep P L H d v) (hs : Reps P L H ds vs) : Reps P L H (d :: ds) (v :: vs) := by
  unfold Reps; exact ⟨v, vs, rfl, h, hs⟩
theorem Reps.get : ∀ {ds : List D} {vs : List V} {i : Nat} {d : D}, Reps P L H ds vs → ds[i]? = some d → ∃ v, vs[i]? = some v ∧ Rep P L H d v
  | [], _, i, d, h, e => by simp at e
  | d' :: ds, vs, i, d, h, e => by
    unfold Reps at h
    obtain ⟨v, r, rfl, h1, h2⟩ := h
    cases i with
    | zero => simp at e; subst e; exact ⟨v, by simp, h1⟩
    | succ i =>
      obtain ⟨w, e2, h3⟩ := Reps.get (i := i) h2 (by simpa using e)
      exact ⟨w, by simpa using e2, h3⟩
theorem Reps.getV : ∀ {ds : List D} {vs : List V} {i : Nat} {v : V}, Reps P L H ds vs → vs[i]? = some v → ∃ d, ds[i]? = some d ∧ Rep P L H d v
  | [], _, i, d, h, e => by unfold Reps at h; subst h; simp at e
  | d' :: ds, vs, i, v', h, e => by
    unfold Reps at h
    obtain ⟨v, r, rfl, h1, h2⟩ := h
    cases i with
    | zero => simp at e; subst e; exact ⟨d', by simp, h1⟩
    | succ i =>
      obtain ⟨w, e2, h3⟩ := Reps.getV (i := i) h2 (by simpa using e)
      exact ⟨w, by simpa using e2, h3⟩
theorem Reps.append : ∀ {ds es : List D} {vs ws : List V}, Reps P L H ds vs → Reps P L H es ws → Reps P L H (ds ++ es) (vs ++ ws)
  | [], _, _, _, h, h' => by unfold Reps at h; subst h; exact h'
  | d :: ds, es, vs, ws, h, h' => by
    unfold Reps at h
    obtain ⟨v, r, rfl, h1, h2⟩ := h
    exact Reps.cons h1 (Reps.append h2 h')
theorem Reps.take : ∀ {ds : List D} {vs : List V} (n : Nat), Reps P L H ds vs → Reps P L H (ds.take n) (vs.take n)
  | [], _, n, h => by unfold Reps at h; subst h; simp; exact Reps.nil
  | d :: ds, vs, 0, h => by simp; exact Reps.nil
  | d :: ds, vs, n + 1, h => by
    unfold Reps at h
    obtain ⟨v, r, rfl, h1, h2⟩ := h
    exact Reps.cons h1 (Reps.take n h2)
theorem Reps.drop : ∀ {ds : List D} {vs : List V} (n : Nat), Reps P L H ds vs → Reps P L H (ds.drop n) (vs.drop n)
  | [], _, n, h => by unfold Reps at h; subst h; simp; exact Reps.nil
  | d :: ds, vs, 0, h => h
  | d :: ds, vs, n + 1, h => by
    unfold Reps at h
    obtain ⟨v, r, rfl, h1, h2⟩ := h
    exact Reps.drop n h2
theorem Reps.set : ∀ {ds : List D} {vs : List V} {d : D} {v : V} (i : Nat), Rep P L H d v → Reps P L H ds vs → Reps P L H (ds.set i d) (vs.set i v)
  | [], _, _, _, n, _, h => by unfold Reps at h; subst h; simp; exact Reps.nil
  | d' :: ds, vs, d, w, n, hd, h => by
    unfold Reps at h
    obtain ⟨v, r, rfl, h1, h2⟩ := h
    cases n with
    | zero => exact Reps.cons hd h2
    | succ n => exact Reps.cons h1 (Reps.set n hd h2)
theorem Reps.eraseIdx : ∀ {ds : List D} {vs : List V} (i : Nat), Reps P L H ds vs → Reps P L H (ds.eraseIdx i) (vs.eraseIdx i)
  | [], _, n, h => by unfold Reps at h; subst h; simp; exact Reps.nil
  | d' :: ds, vs, n, h => by
    unfold Reps at h
    obtain ⟨v, r, rfl, h1, h2⟩ := h
    cases n with
    | zero => exact h2
    | succ n => exact Reps.cons h1 (Reps.eraseIdx n h2)
theorem Reps.reverse {ds : List D} {vs : List V} (h : Reps P L H ds vs) : Reps P L H ds.reverse vs.reverse := by
  induction ds generalizing vs with
  | nil => unfold Reps at h; subst h; exact Reps.nil
  | cons d ds ih =>
    unfold Reps at h
    obtain ⟨v, r, rfl, h1, h2⟩ := h
    simp only [List.reverse_cons]
    exact Reps.append (ih h2) (Reps.cons h1 Reps.nil)
/-- same heap up to more tracked things -/
theorem Rep.same (s : Same H H') {d : D} {v : V} (h : Rep P L H d v) : Rep P L H' d v := Rep.keep (fun b o e _ => s b o e) (fun b z => .inl z) d v h
theorem Reps.same (s : Same H H') {d : List D} {v : List V} (h : Reps P L H d v) : Reps P L H' d v := Reps.keep (fun b o e _ => s b o e) (fun b z => .inl z) d v h
theorem Rep.weak (l : ∀ b, L' b → L b) {d : D} {v : V} (h : Rep P L H d v) : Rep P L' H d v := Rep.keep (fun b o e _ => e) (fun b z => .inl (l b z)) d v h
theorem Reps.weak (l : ∀ b, L' b → L b) {d : List D} {v : List V} (h : Reps P L H d v) : Reps P L' H d v := Reps.keep (fun b o e _ => e) (fun b z => .inl (l b z)) d v h
theorem same_upd {p : Addr} {o : HO} (h : H p = none) : Same H (upd H p o) := fun b x e => by rw [upd_ne (ne_of_none e h)]; exact e

/-- lists of ints as values -/
theorem Reps.ints : ∀ {ns : List Int} {vs : List V}, Reps P L H (ns.map D.int) vs → vs = ns.map V.int
  | [], _, h => by unfold Reps at h; subst h; rfl
  | n :: ns, vs, h => by
    simp only [List.map_cons] at h
    unfold Reps at h
    obtain ⟨v, r, rfl, h1, h2⟩ := h
    unfold Rep at h1
    rw [h1, Reps.ints h2]; rfl
theorem Reps.of_ints : ∀ (ns : List Int), Reps P L H (ns.map D.int) (ns.map V.int)
  | [] => Reps.nil
  | n :: ns => Reps.cons (by unfold Rep; rfl) (Reps.of_ints ns)
theorem Reps.bls : ∀ {ns : List Bool} {vs : List V}, Reps P L H (ns.map D.bl) vs → vs = ns.map V.bl
  | [], _, h => by unfold Reps at h; subst h; rfl
  | n :: ns, vs, h => by
    simp only [List.map_cons] at h
    unfold Reps at h
    obtain ⟨v, r, rfl, h1, h2⟩ := h
    unfold Rep at h1
    rw [h1, Reps.bls h2]; rfl

/-! ### locals -/
inductive Slot where
  | none
  /-- data -/
  | dat (d : D)
  /-- a list of its own; b: it is a parameter that the caller lent -/
  | own (b : Bool) (ds : List D)
  /-- the script -/
  | scr (ns : List Int)
  /-- held by others: neither read nor stored to -/
  | hid
abbrev Loc := List Slot
def OwnAt (loc : Loc) (σ : Sg) (a : Addr) : Prop := ∃ (i : Nat) (b : Bool) (ds : List D), loc[i]? = some (.own b ds) ∧ σ[i]? = some (some (.ref a))
def Lv (L0 : Addr → Prop) (loc : Loc) (σ : Sg) (a : Addr) : Prop := L0 a ∨ OwnAt loc σ a
def ScrAt (K : PySem.W.Frag) (L : Addr → Prop) (H : Hp) (a : Addr) (xs : List V) : Prop := (Rd H a (.lst xs) ∧ ¬ L a) ∨ SqL K (fun _ => Option.none) a xs
theorem ScrAt.sq {K : PySem.W.Frag} {a : Addr} {vs : List V} (h : ScrAt K L H a vs) : SqL K H a vs := by
  rcases h with ⟨h, _⟩ | h
  · exact .inl h
  · rcases h with (h | ⟨o, h⟩) | h
    · cases h
    · cases h
    · exact .inr h
theorem ScrAt.keep {K : PySem.W.Frag} {a : Addr} {vs : List V} (k : ∀ b o, H b = some o → ¬ L b → H' b = some o) (l : ∀ b, L' b → L b ∨ H b = none) (h : ScrAt K L H a vs) : ScrAt K L' H' a vs := by
  rcases h with ⟨h, n⟩ | h
  · refine .inl ⟨?_, fun z => ?_⟩
    · rcases h with h | ⟨o, h⟩
      · exact .inl (k _ _ h n)
      · exact .inr ⟨o, k _ _ h n⟩
    · rcases l _ z with z | z
      · exact n z
      · rcases h with h | ⟨o, h⟩ <;> (rw [z] at h; cases h)
  · exact .inr h

structure Rel (P : RP) (L0 : Addr → Prop) (loc : Loc) (σ : Sg) (H : Hp) : Prop where
  len : loc.length = σ.length
  l0 : ∀ b, L0 b → ∃ o, H b = some o
  dat : ∀ (i : Nat) (d : D), loc[i]? = some (.dat d) → ∃ v, σ[i]? = some (some v) ∧ Rep P (Lv L0 loc σ) H d v
  own : ∀ (i : Nat) (b : Bool) (ds : List D), loc[i]? = some (.own b ds) → ∃ a vs, σ[i]? = some (some (.ref a)) ∧ H a = some (.lst vs) ∧ ¬ L0 a ∧ Reps P (Lv L0 loc σ) H ds vs
  inj : ∀ (i j : Nat) (b c : Bool) (ds es : List D) (a : Addr), loc[i]? = some (.own b ds) → loc[j]? = some (.own c es) → σ[i]? = some (some (.ref a)) → σ[j]? = some (some (.ref a)) → i = j
  scr : ∀ (i : Nat) (ns : List Int), loc[i]? = some (.scr ns) → ∃ a, σ[i]? = some (some (.ref a)) ∧ ScrAt P.K (Lv L0 loc σ) H a (ns.map V.int)

theorem Rel.lv {loc : Loc} {σ : Sg} {L0 : Addr → Prop} (R : Rel P L0 loc σ H) {a : Addr} (h : Lv L0 loc σ a) : ∃ o, H a = some o := by
  rcases h with h | ⟨i, b, ds, e, s⟩
  · exact R.l0 _ h
  · obtain ⟨a', vs, s', h, _⟩ := R.own i b ds e
    rw [s] at s'; cases s'
    exact ⟨_, h⟩
/-- the heap grows; more may be live of what is new -/
theorem Rel.grow {loc : Loc} {σ : Sg} {L0 L0' : Addr → Prop} (R : Rel P L0 loc σ H) (s : Same H H') (l : ∀ b, L0' b → L0 b ∨ H b = none) (t : ∀ b, L0' b → ∃ o, H' b = some o) : Rel P L0' loc σ H' := by
  have hl : ∀ b, Lv L0' loc σ b → Lv L0 loc σ b ∨ H b = none := fun b z => by
    rcases z with z | z
    · rcases l b z with z | z
      · exact .inl (.inl z)
      · exact .inr z
    · exact .inl (.inr z)
  have k : ∀ b o, H b = some o → ¬ Lv L0 loc σ b → H' b = some o := fun b o e _ => s b o e
  refine ⟨R.len, t, fun i d e => ?_, fun i b ds e => ?_, R.inj, fun i ns e => ?_⟩
  · obtain ⟨v, e1, r⟩ := R.dat i d e
    exact ⟨v, e1, Rep.keep k hl d v r⟩
  · obtain ⟨a, vs, e1, h, n, r⟩ := R.own i b ds e
    refine ⟨a, vs, e1, s _ _ h, fun z => ?_, Reps.keep k hl ds vs r⟩
    rcases l _ z with z | z
    · exact n z
    · rw [z] at h; cases h
  · obtain ⟨a, e1, h⟩ := R.scr i ns e
    exact ⟨a, e1, h.keep k hl⟩

/-! ### results -/
inductive R where
  | val (d : D)
  | ref (i : Nat)
  /-- a list that is new and nobody else's -/
  | new (ds : List D)
def RepR (P : RP) (L0 : Addr → Prop) (loc : Loc) (σ : Sg) (H : Hp) : R → V → Prop
  | .val d, v => Rep P (Lv L0 loc σ) H d v
  | .ref i, v => σ[i]? = some (some v)
  | .new ds, v => ∃ a vs, v = .ref a ∧ H a = some (.lst vs) ∧ ¬ Lv L0 loc σ a ∧ Reps P (fun b => Lv L0 loc σ b ∨ b = a) H ds vs ∧ Rel P (fun b => L0 b ∨ b = a) loc σ H
def sett : R → R
  | .new ds => .val (.lst ds)
  | r => r
theorem RepR.sett {loc : Loc} {σ : Sg} {L0 : Addr → Prop} {r : R} {v : V} (h : RepR P L0 loc σ H r v) : RepR P L0 loc σ H (sett r) v := by
  cases r with
  | new ds =>
    obtain ⟨a, vs, e, h1, h2, h3, _⟩ := h
    show Rep P _ H (.lst ds) v
    unfold Rep
    exact ⟨a, vs, e, h1, h2, Reps.weak (fun b z => .inl z) h3⟩
  | val d => exact h
  | ref i => exact h

/-- behind an expression -/
structure EvPost (P : RP) (L0 : Addr → Prop) (loc : Loc) (σ : Sg) (H : Hp) (loc' : Loc) (r : R) (v : V) (H' : Hp) : Prop where
  rel : Rel P L0 loc' σ H'
  keep : ∀ b o, H b = some o → ¬ OwnAt loc σ b → H' b = some o
  own : ∀ b, OwnAt loc' σ b → OwnAt loc σ b
  rep : RepR P L0 loc' σ H' r v
  there : ∀ b o, H b = some o → ∃ o', H' b = some o'
  fresh : ∀ ds p, r = .new ds → v = .ref p → H p = none
  pin : ∀ (i : Nat) (ds : List D), loc[i]? = some (.own true ds) → ∃ ds', loc'[i]? = some (.own true ds')
  fix : ∀ (i : Nat) (s : Slot), loc[i]? = some s → (∀ b ds, s ≠ .own b ds) → loc'[i]? = some s
/-- the reading of an evaluator -/
def tE (P : RP) (g : Loc → Option (R × Loc)) : TE := fun σ H Q => ∃ L0 loc r loc', Rel P L0 loc σ H ∧ g loc = some (r, loc') ∧ ∀ v H', EvPost P L0 loc σ H loc' r v H' → Q v H'

/-- what is kept, for data -/
theorem EvPost.kp {loc loc' : Loc} {σ : Sg} {L0 : Addr → Prop} {r : R} {v : V} (p : EvPost P L0 loc σ H loc' r v H') : ∀ b o, H b = some o → ¬ Lv L0 loc σ b → H' b = some o :=
  fun b o e n => p.keep b o e fun z => n (.inr z)
theorem EvPost.lv {loc loc' : Loc} {σ : Sg} {L0 : Addr → Prop} {r : R} {v : V} (p : EvPost P L0 loc σ H loc' r v H') : ∀ b, Lv L0 loc' σ b → Lv L0 loc σ b ∨ H b = none :=
  fun b z => .inl (z.imp id (p.own b))
/-- an earlier result behind a later step -/
theorem RepR.after {loc loc' : Loc} {σ : Sg} {L0 : Addr → Prop} {r r' : R} {v v' : V} (h : RepR P L0 loc σ H (MP.sett r') v') (p : EvPost P L0 loc σ H loc' r v H') : RepR P L0 loc' σ H' (MP.sett r') v' := by
  cases r' with
  | val d => exact Rep.keep p.kp p.lv _ _ h
  | ref i => exact h
  | new ds => exact Rep.keep p.kp p.lv (.lst ds) _ h
theorem EvPost.trans {loc loc1 loc2 : Loc} {σ : Sg} {L0 : Addr → Prop} {H1 H2 : Hp} {r r' : R} {v v' : V} (p : EvPost P L0 loc σ H loc1 r v H1) (q : EvPost P L0 loc1 σ H1 loc2 r' v' H2) : EvPost P L0 loc σ H loc2 r' v' H2 :=
  ⟨q.rel, fun b o e n => q.keep b o (p.keep b o e n) fun z => n (p.own b z), fun b z => p.own b (q.own b z), q.rep,
    fun b o e => by obtain ⟨o', e'⟩ := p.there b o e; exact q.there b o' e',
    (fun ds c e1 e2 => by
      have h := q.fresh ds c e1 e2
      cases e : H c with
      | none => rfl
      | some o => obtain ⟨o', e'⟩ := p.there c o e; rw [h] at e'; cases e'),
    (fun i ds e => by obtain ⟨ds1, e1⟩ := p.pin i ds e; exact q.pin i ds1 e1), fun i s e n => q.fix i s (p.fix i s e n) n⟩
end MP

namespace MP
open PySem L2

inductive Ty where
  | int | bool | list | tuple | str
  deriving DecidableEq
inductive O1 where
  | neg | len | int | list | tuple | sorted | all | any | sum | abs | isi (t : Ty) | bool | repr | rev | lenSet
inductive O2 where
  | add | sub | mul | fdiv | mod | pow | shl | shr | band
  | eq | ne | lt | le | gt | ge | isin | notin | is | isnot
  | ix
  | max2 | min2 | dmod
  deriving DecidableEq
inductive Pat where
  | v (i : Nat)
  | tup (ps : List Nat)

mutual
inductive ME where
  | c (d : D)
  | g (k : Nat)
  | v (i : Nat)
  | r (i : Nat)
  | fz (i : Nat)
  | tup (es : List ME)
  | lst (es : List ME)
  | o1 (o : O1) (a : ME)
  | o2 (o : O2) (a b : ME)
  | ch (o o' : O2) (a b c : ME)
  | sl (a : ME) (lo hi : Option ME)
  | and (a b : ME)
  | or (a b : ME)
  | not (a : ME)
  | ite (c a b : ME)
  | call (f : Nat) (as : List ME)
  | callK (f : Nat) (as ks : List ME) (perm : List Nat)
  | lc (own : List Nat) (p : Pat) (it : IT) (cs : List ME) (elt : ME)
  | app (i : Nat) (e : ME)
  | pop (i : Nat)
  | popAt (i : Nat) (e : ME)
  | clear (i : Nat)
  | ext (i : Nat) (e : ME)
  | sIx (i : Nat) (e : ME)
  | sLen (i : Nat)
  | sSl (i : Nat) (lo hi : Option ME)
  | bad
  | lrng (it : IT)
  | lc2 (own : List Nat) (p : Pat) (it : IT) (cs : List ME) (own1 : List Nat) (p1 : Pat) (it1 : IT) (cs1 : List ME) (elt : ME)
  | mxD (mx : Bool) (a d : ME)
  | thaw (i : Nat) (a : ME)
  | fld (tb : List (Nat × Nat)) (a : ME)
  | meth (tb : List (Nat × Nat)) (a : ME) (as : List ME)
  | make (c f : Nat) (as : List ME)
  | sumR (it : IT)
  | ch3 (o o' o'' : O2) (a b c d : ME)
inductive IT where
  | seq (a : ME)
  | tpl (a : ME)
  | rng1 (a : ME)
  | rng2 (a b : ME)
  | enum (a : ME)
  | zip (a b : ME)
end

/-! ### operations on data -/
def big : Nat := 1000000
mutual
def D.beq : D → D → Bool
  | .non, e => match e with | .non => true | _ => false
  | .bl a, e => match e with | .bl b => a == b | .int j => (if a then 1 else 0) == j | _ => false
  | .int i, e => match e with | .bl b => i == (if b then 1 else 0) | .int j => i == j | _ => false
  | .str x, e => match e with | .str y => decide (x = y) | _ => false
  | .tup xs, e => match e with | .tup ys => D.beqs xs ys | _ => false
  | .lst xs, e => match e with | .lst ys => D.beqs xs ys | _ => false
  | .ins _ _, _ => false
def D.beqs : List D → List D → Bool
  | [], e => match e with | [] => true | _ => false
  | x :: xs, e => match e with | y :: ys => D.beq x y && D.beqs xs ys | [] => false
end
mutual
/-- fit for comparing: no instance in it, not deep -/
def D.plain : Nat → D → Bool
  | n, .tup xs => match n with | 0 => false | n + 1 => D.plains n xs
  | n, .lst xs => match n with | 0 => false | n + 1 => D.plains n xs
  | _, .ins _ _ => false
  | _, .str x => PySem.PyData.strOk x
  | _, _ => true
def D.plains : Nat → List D → Bool
  | _, [] => true
  | n, x :: xs => D.plain n x && D.plains n xs
end
mutual
def toPy : D → PySem.PyData
  | .non => .none
  | .bl b => .bool b
  | .int i => .int i
  | .str x => .str x
  | .tup ds => .tuple (toPys ds)
  | .lst ds => .list (toPys ds)
  | .ins _ _ => .none
def toPys : List D → List PySem.PyData
  | [] => []
  | d :: ds => toPy d :: toPys ds
end
/-- fit to be shown -/
def shOk (d : D) : Bool := D.plain 8 d && (toPy d).showable && decide ((toPy d).shown.length ≤ 100000)
def D.int? : D → Option Int
  | .int i => some i
  | _ => none
def D.bl? : D → Option Bool
  | .bl i => some i
  | _ => none
def ints? : List D → Option (List Int)
  | [] => some []
  | d :: ds => match d, ints? ds with
    | .int i, some r => some (i :: r)
    | _, _ => none
def bls? : List D → Option (List Bool)
  | [] => some []
  | d :: ds => match d, bls? ds with
    | .bl i, some r => some (i :: r)
    | _, _ => none
def insS (x : Int) : List Int → List Int
  | [] => [x]
  | y :: ys => if x ≤ y then x :: y :: ys else y :: insS x ys
def sortS : List Int → List Int
  | [] => []
  | x :: xs => insS x (sortS xs)
/-- rows of ints that are lists -/
def ilsts? : List D → Option (List (List Int))
  | [] => some []
  | d :: ds => match d, ilsts? ds with
    | .lst xs, some r => (ints? xs).map fun ns => ns :: r
    | _, _ => none
def lstD (t : List Int) : D := .lst (t.map D.int)
/-- rows of ints -/
def itups? : List D → Option (List (List Int))
  | [] => some []
  | d :: ds => match d, itups? ds with
    | .tup xs, some r => (ints? xs).map fun ns => ns :: r
    | _, _ => none
def ltL : List Int → List Int → Bool
  | [], ys => match ys with | [] => false | _ :: _ => true
  | x :: xs, ys => match ys with | [] => false | y :: ys => if x = y then ltL xs ys else decide (x < y)
def D.ltInts (xs ys : List D) : Option Bool := match ints? xs, ints? ys with
  | some ns, some ms => some (ltL ns ms)
  | _, _ => none
def insT (x : List Int) : List (List Int) → List (List Int)
  | [] => [x]
  | y :: ys => if ltL y x then y :: insT x ys else x :: y :: ys
def sortT : List (List Int) → List (List Int)
  | [] => []
  | x :: xs => insT x (sortT xs)
def tupD (t : List Int) : D := .tup (t.map D.int)
def srtOk (ts : List (List Int)) : Bool := ts.all (fun t => !t.isEmpty) || decide (ts.length ≤ 1)
def seqAt (ds : List D) (i : Int) : Option D := if 0 ≤ i then ds[i.toNat]? else if -(ds.length : Int) ≤ i then ds[(i + ds.length).toNat]? else none
def small (i : Int) : Bool := decide (-(2 ^ 62) ≤ i) && decide (i < 2 ^ 62)
def mulOk (i j : Int) : Bool := (decide (-(2 ^ 64) < i) && decide (i < 2 ^ 64)) || (decide (-(2 ^ 64) < j) && decide (j < 2 ^ 64)) || decide (i.natAbs.log2 + j.natAbs.log2 < 1000000)
def fdivOk (j : Int) : Bool := decide (0 < j) && decide (j.natAbs.log2 < 9000)
def powOk (i j : Int) : Bool := decide (0 ≤ j) && decide (j ≤ 1000000) && decide (i.natAbs < 2 ^ 64)
def flat : D → Bool
  | .non => true | .bl _ => true | .int _ => true | .str _ => true
  | _ => false

def isNon : D → Bool
  | .non => true
  | _ => false
def cmpI (f : Int → Int → Bool) : D → D → Option R
  | .int i, .int j => some (.val (.bl (f i j)))
  | _, _ => none
def strEq : D → D → Option Bool
  | .str x, .str y => some (decide (x = y))
  | _, _ => none
def ap2 : O2 → D → D → Option R
  | .add, a, b => match a, b with
    | .int i, .int j => some (.val (.int (i + j)))
    | .tup xs, .tup ys => if xs.length + ys.length ≤ big then some (.val (.tup (xs ++ ys))) else none
    | .lst xs, .lst ys => if xs.length + ys.length ≤ big then some (.new (xs ++ ys)) else none
    | _, _ => none
  | .sub, a, b => match a, b with
    | .int i, .int j => some (.val (.int (i - j)))
    | _, _ => none
  | .mul, a, b => match a, b with
    | .int i, .int j => if mulOk i j then some (.val (.int (i * j))) else none
    | .lst xs, .int k => if 0 ≤ k ∧ k ≤ big ∧ xs.length * k.toNat ≤ big then some (.new (List.replicate k.toNat xs).flatten) else none
    | _, _ => none
  | .fdiv, a, b => match a, b with
    | .int i, .int j => if fdivOk j then some (.val (.int (i / j))) else none
    | _, _ => none
  | .mod, a, b => match a, b with
    | .int i, .int j => if 0 < j then some (.val (.int (i % j))) else none
    | _, _ => none
  | .pow, a, b => match a, b with
    | .int i, .int j => if powOk i j then some (.val (.int (i ^ j.toNat))) else none
    | _, _ => none
  | .shl, a, b => match a, b with
    | .int i, .int j => if powOk i j then some (.val (.int (i * 2 ^ j.toNat))) else none
    | _, _ => none
  | .shr, a, b => match a, b with
    | .int i, .int j => if 0 ≤ j then some (.val (.int (i / 2 ^ j.toNat))) else none
    | _, _ => none
  | .band, a, b => match a, b with
    | .int i, .int j => some (.val (.int (Builtin.bitAnd i j)))
    | _, _ => none
  | .eq, a, b => if D.plain 8 a && D.plain 8 b then some (.val (.bl (D.beq a b))) else (strEq a b).map fun k => .val (.bl k)
  | .ne, a, b => if D.plain 8 a && D.plain 8 b then some (.val (.bl (!D.beq a b))) else (strEq a b).map fun k => .val (.bl (!k))
  | .lt, a, b => match a, b with
    | .int i, .int j => some (.val (.bl (decide (i < j))))
    | .tup xs, .tup ys => (D.ltInts xs ys).map fun k => .val (.bl k)
    | _, _ => none
  | .le, a, b => cmpI (fun i j => decide (i ≤ j)) a b
  | .gt, a, b => cmpI (fun i j => decide (j < i)) a b
  | .ge, a, b => cmpI (fun i j => decide (j ≤ i)) a b
  | .isin, a, b => match b with
    | .tup ys => if D.plain 8 a && D.plains 8 ys then some (.val (.bl (ys.any fun y => D.beq y a))) else none
    | .lst ys => if D.plain 8 a && D.plains 8 ys then some (.val (.bl (ys.any fun y => D.beq y a))) else none
    | _ => none
  | .notin, a, b => match b with
    | .tup ys => if D.plain 8 a && D.plains 8 ys then some (.val (.bl (!ys.any fun y => D.beq y a))) else none
    | .lst ys => if D.plain 8 a && D.plains 8 ys then some (.val (.bl (!ys.any fun y => D.beq y a))) else none
    | _ => none
  | .is, a, b => match b, a with
    | .non, a => some (.val (.bl (isNon a)))
    | .bl y, .bl x => some (.val (.bl (x == y)))
    | _, _ => none
  | .isnot, a, b => match b, a with
    | .non, a => some (.val (.bl (!isNon a)))
    | .bl y, .bl x => some (.val (.bl (!(x == y))))
    | _, _ => none
  | .max2, a, b => match a, b with
    | .int i, .int j => some (.val (.int (if j > i then j else i)))
    | _, _ => none
  | .min2, a, b => match a, b with
    | .int i, .int j => some (.val (.int (if j < i then j else i)))
    | _, _ => none
  | .dmod, a, b => match a, b with
    | .int i, .int j => if fdivOk j then some (.val (.tup [.int (i / j), .int (i % j)])) else none
    | _, _ => none
  | .ix, a, b => match a, b with
    | .tup xs, .int i => (seqAt xs i).map fun d => .val d
    | .lst xs, .int i => (seqAt xs i).map fun d => .val d
    | _, _ => none
def isTy : Ty → D → Bool
  | .int, .int _ => true | .int, .bl _ => true
  | .bool, .bl _ => true
  | .list, .lst _ => true
  | .tuple, .tup _ => true
  | .str, .str _ => true
  | _, _ => false
def noIns : D → Bool
  | .ins _ _ => false
  | _ => true
def ap1 : O1 → D → Option R
  | .neg, a => match a with
    | .int i => some (.val (.int (-i)))
    | _ => none
  | .len, a => match a with
    | .tup xs => some (.val (.int xs.length))
    | .lst xs => some (.val (.int xs.length))
    | _ => none
  | .int, a => match a with
    | .int i => some (.val (.int i))
    | .bl b => some (.val (.int (if b then 1 else 0)))
    | _ => none
  | .bool, a => match a with
    | .bl b => some (.val (.bl b))
    | _ => none
  | .list, a => match a with
    | .tup xs => some (.new xs)
    | .lst xs => some (.new xs)
    | _ => none
  | .tuple, a => match a with
    | .tup xs => some (.val (.tup xs))
    | .lst xs => some (.val (.tup xs))
    | _ => none
  | .sorted, a => match a with
    | .lst xs => match ints? xs with
      | some ns => some (.new ((sortS ns).map D.int))
      | none => match itups? xs with
        | some ts => if srtOk ts then some (.new ((sortT ts).map tupD)) else none
        | none => match ilsts? xs with
          | some ts => some (.new ((sortT ts).map lstD))
          | none => none
    | _ => none
  | .all, a => match a with
    | .lst xs => (bls? xs).map fun ns => .val (.bl (ns.all id))
    | _ => none
  | .any, a => match a with
    | .lst xs => (bls? xs).map fun ns => .val (.bl (ns.any id))
    | _ => none
  | .sum, a => match a with
    | .lst xs => (ints? xs).map fun ns => .val (.int ns.sum)
    | .tup xs => (ints? xs).map fun ns => .val (.int ns.sum)
    | _ => none
  | .abs, a => match a with
    | .int i => some (.val (.int (if i < 0 then -i else i)))
    | _ => none
  | .isi t, a => if noIns a then some (.val (.bl (isTy t a))) else none
  | .repr, a => if shOk a then some (.val (.str (toPy a).shown)) else none
  | .lenSet, a => match a with
    | .lst xs => match itups? xs with
      | some ts => if ts.length < 64 then some (.val (.int (dd ts).length)) else none
      | none => none
    | _ => none
  | .rev, a => match a with
    | .lst xs => some (.new xs.reverse)
    | _ => none
def seqInts : D → Option (List Int)
  | .tup ds => ints? ds
  | .lst ds => ints? ds
  | _ => none
/-- max | min -/
def mxI (mx : Bool) (n : Int) (ms : List Int) : Int := if mx then ms.foldl max n else ms.foldl min n
def truth : D → Option Bool
  | .non => some false
  | .bl b => some b
  | .int i => some (i != 0)
  | .tup xs => some (!xs.isEmpty)
  | .lst xs => some (!xs.isEmpty)
  | _ => none
def cutD (xs : List D) (lo hi : Option Int) : List D := (xs.drop (HT.sIx xs.length 0 lo)).take (HT.sIx xs.length xs.length hi - HT.sIx xs.length 0 lo)
def apSl (a : D) (lo hi : Option Int) : Option R := match a with
  | .lst xs => some (.new (cutD xs lo hi))
  | .tup xs => some (.val (.tup (cutD xs lo hi)))
  | _ => none

/-! ### locals -/
def res (loc : Loc) : R → Option D
  | .val d => some d
  | .new ds => some (.lst ds)
  | .ref i => match loc[i]? with
    | some (.own _ ds) => some (.lst ds)
    | _ => none
def toVal : R → Option D
  | .val d => some d
  | .new ds => some (.lst ds)
  | .ref _ => none
/-- a slot that may be stored to -/
def free (loc : Loc) (i : Nat) : Bool := match loc[i]? with
  | some .none => true
  | some (.dat _) => true
  | some (.own b _) => !b
  | some (.scr _) => false
  | some .hid => false
  | none => false
def freeD (loc : Loc) (i : Nat) : Bool := match loc[i]? with
  | some .none => true
  | some (.dat _) => true
  | _ => false
def put (loc : Loc) (i : Nat) (s : Slot) : Option Loc := if free loc i then some (loc.set i s) else none
def puts : List Nat → List D → Loc → Option Loc
  | [], ds, loc => match ds with | [] => some loc | _ => none
  | i :: is, ds, loc => match ds with
    | d :: ds => match put loc i (.dat d) with
      | some loc => puts is ds loc
      | none => none
    | [] => none
def bindP : Pat → D → Loc → Option Loc
  | .v i, d, loc => put loc i (.dat d)
  | .tup is, d, loc => match d with
    | .tup ds => puts is ds loc
    | _ => none
def wipeL (loc : Loc) : List Nat → Loc
  | [] => loc
  | v :: vs => (wipeL loc vs).set v .none
/-- the slots `own` as they were in loc0 -/
def back (loc0 loc1 : Loc) : List Nat → Loc
  | [] => loc1
  | v :: vs => (back loc0 loc1 vs).set v (loc0.getD v .none)

abbrev CallS := Nat → Loc → Option (R × Loc)
def argOf (loc : Loc) : R → Option Slot
  | .val d => some (.dat d)
  | .new ds => some (.dat (.lst ds))
  | .ref i => match loc[i]? with
    | some (.own _ ds) => some (.own true ds)
    | some (.scr ns) => some (.scr ns)
    | _ => none
def argsOf (loc : Loc) : List R → Option Loc
  | [] => some []
  | r :: rs => match argOf loc r, argsOf loc rs with
    | some s, some l => some (s :: l)
    | _, _ => none
def refs : List R → List Nat
  | [] => []
  | .ref i :: rs => i :: refs rs
  | _ :: rs => refs rs
def nodupB : List Nat → Bool
  | [] => true
  | i :: is => !is.contains i && nodupB is
/-- the lent lists as they stand behind the call -/
def given : List R → Loc → Loc → Option Loc
  | [], _, loc => some loc
  | .ref i :: rs, a, loc => match a with
    | .own _ ds :: a' => match loc[i]? with
      | some (.own b _) => given rs a' (loc.set i (.own b ds))
      | _ => none
    | .scr _ :: a' => match loc[i]? with
      | some (.scr _) => given rs a' loc
      | _ => none
    | _ => none
  | _ :: rs, a, loc => match a with
    | _ :: a' => given rs a' loc
    | [] => none
def doCall (C : CallS) (f : Nat) (rs : List R) (loc : Loc) : Option (R × Loc) :=
  if nodupB (refs rs) then
    match argsOf loc rs with
    | some a => match C f a with
      | some (r, a') => match given rs a' loc with
        | some loc' => some (r, loc')
        | none => none
      | none => none
    | none => none
  else none
def isDat : Slot → Bool
  | .dat _ => true
  | _ => false
def allDat (l : Loc) : Bool := l.all isDat
def perm (p : List Nat) (rs : List R) : Option (List R) := p.mapM fun i => rs[i]?

/-- a comprehension's turns -/
def lcRun (own : List Nat) (p : Pat) (cond : Loc → Option (Bool × Loc)) (elt : Loc → Option (R × Loc)) : List D → Loc → Option (List D × Loc)
  | [], loc => some ([], loc)
  | d :: ds, loc => match bindP p d loc with
    | none => none
    | some l1 => match cond l1 with
      | none => none
      | some (true, l2) => match elt l2 with
        | none => none
        | some (r, l3) => match toVal r with
          | none => none
          | some e => match lcRun own p cond elt ds (wipeL l3 own) with
            | none => none
            | some (es, l4) => some (e :: es, l4)
      | some (false, l2) => lcRun own p cond elt ds (wipeL l2 own)
/-- a comprehension with two sources -/
def lc2Run (own : List Nat) (p : Pat) (cond : Loc → Option (Bool × Loc)) (own1 : List Nat) (src : Loc → Option (List D × Loc)) (p1 : Pat) (cond1 : Loc → Option (Bool × Loc)) (elt : Loc → Option (R × Loc)) : List D → Loc → Option (List D × Loc)
  | [], loc => some ([], loc)
  | d :: ds, loc => match bindP p d loc with
    | none => none
    | some l1 => match cond l1 with
      | none => none
      | some (true, l2) => match src l2 with
        | none => none
        | some (items, l3) => if own1.all (freeD l3) && decide (items.length ≤ big) then
            match lcRun own1 p1 cond1 elt items (wipeL l3 own1) with
            | none => none
            | some (es, l4) => match lc2Run own p cond own1 src p1 cond1 elt ds (wipeL l4 own) with
              | none => none
              | some (es', l5) => some (es ++ es', l5)
          else none
      | some (false, l2) => lc2Run own p cond own1 src p1 cond1 elt ds (wipeL l2 own)
def rngL (lo : Int) : Nat → List D
  | 0 => []
  | n + 1 => .int lo :: rngL (lo + 1) n
def enumL : Int → List D → List D
  | _, [] => []
  | k, d :: ds => .tup [.int k, d] :: enumL (k + 1) ds
def zipL : List D → List D → List D
  | x :: xs, y :: ys => .tup [x, y] :: zipL xs ys
  | _, _ => []

/-! lists handed in as plain data -/
mutual
def noLst : D → Bool
  | .tup ds => noLsts ds
  | .lst _ => false
  | .ins _ fs => noLsts fs
  | _ => true
def noLsts : List D → Bool
  | [] => true
  | d :: ds => noLst d && noLsts ds
end
def thawR : R → Bool
  | .val d => noLst d
  | .new es => noLsts es
  | .ref _ => false
def slotOk (s t : Slot) : Bool := match t with
  | .none => true
  | .own _ es => noLsts es
  | .dat d => match s with
    | .dat _ => true
    | _ => noLst d
  | .scr _ => match s with
    | .scr _ => true
    | _ => false
  | .hid => match s with
    | .hid => true
    | _ => false
def thawB (i : Nat) : Nat → Loc → Loc → Bool
  | k, a, b => match b with
    | [] => true
    | t :: b => match a with
      | [] => false
      | s :: a => (k == i || slotOk s t) && thawB i (k + 1) a b
mutual
def ev (G : Nat → D) (C : CallS) : ME → Loc → Option (R × Loc)
  | .c d, loc => some (.val d, loc)
  | .g k, loc => some (.val (G k), loc)
  | .v i, loc => match loc[i]? with
    | some (.dat d) => some (.val d, loc)
    | _ => none
  | .r i, loc => match loc[i]? with
    | some (.own _ _) => some (.ref i, loc)
    | some (.scr _) => some (.ref i, loc)
    | some (.dat d) => some (.val d, loc)
    | _ => none
  | .fz i, loc => match loc[i]? with
    | some (.own false ds) => some (.val (.lst ds), loc.set i (.dat (.lst ds)))
    | some (.dat d) => some (.val d, loc)
    | _ => none
  | .tup es, loc => match evs G C es loc with
    | some (rs, l1) => match rs.mapM toVal with
      | some ds => some (.val (.tup ds), l1)
      | none => none
    | none => none
  | .lst es, loc => match evs G C es loc with
    | some (rs, l1) => match rs.mapM toVal with
      | some ds => some (.new ds, l1)
      | none => none
    | none => none
  | .o1 o a, loc => match ev G C a loc with
    | some (r, l1) => match res l1 r with
      | some d => match ap1 o d with
        | some r' => some (r', l1)
        | none => none
      | none => none
    | none => none
  | .o2 o a b, loc => match ev G C a loc with
    | some (r, l1) => match ev G C b l1 with
      | some (r', l2) => match res l2 (sett r), res l2 r' with
        | some d, some e => match ap2 o d e with
          | some r'' => some (r'', l2)
          | none => none
        | _, _ => none
      | none => none
    | none => none
  | .ch o o' a b c, loc => match ev G C a loc with
    | some (ra, l1) => match ev G C b l1 with
      | some (rb, l2) => match res l2 (sett ra), res l2 rb with
        | some d, some e => match ap2 o d e with
          | some (.val (.bl true)) => match ev G C c l2 with
            | some (rc, l3) => match res l3 (sett rb), res l3 rc with
              | some e', some f => match ap2 o' e' f with
                | some (.val (.bl k)) => some (.val (.bl k), l3)
                | _ => none
              | _, _ => none
            | none => none
          | some (.val (.bl false)) => some (.val (.bl false), l2)
          | _ => none
        | _, _ => none
      | none => none
    | none => none
  | .sl a lo hi, loc => match ev G C a loc with
    | some (r, l1) => match evo G C lo l1 with
      | some (x, l2) => match evo G C hi l2 with
        | some (y, l3) => match res l3 (sett r) with
          | some d => match apSl d x y with
            | some r' => some (r', l3)
            | none => none
          | none => none
        | none => none
      | none => none
    | none => none
  | .and a b, loc => match ev G C a loc with
    | some (r, l1) => match res l1 r with
      | some d => match truth d with
        | some true => ev G C b l1
        | some false => some (sett r, l1)
        | none => none
      | none => none
    | none => none
  | .or a b, loc => match ev G C a loc with
    | some (r, l1) => match res l1 r with
      | some d => match truth d with
        | some true => some (sett r, l1)
        | some false => ev G C b l1
        | none => none
      | none => none
    | none => none
  | .not a, loc => match ev G C a loc with
    | some (r, l1) => match res l1 r with
      | some d => match truth d with
        | some k => some (.val (.bl (!k)), l1)
        | none => none
      | none => none
    | none => none
  | .ite c a b, loc => match ev G C c loc with
    | some (r, l1) => match res l1 r with
      | some d => match truth d with
        | some true => ev G C a l1
        | some false => ev G C b l1
        | none => none
      | none => none
    | none => none
  | .call f as, loc => match evs G C as loc with
    | some (rs, l1) => doCall C f rs l1
    | none => none
  | .callK f as ks p, loc => match evs G C as loc with
    | some (rs, l1) => match evs G C ks l1 with
      | some (ss, l2) => match perm p (rs ++ ss) with
        | some ts => doCall C f ts l2
        | none => none
      | none => none
    | none => none
  | .lc own p it cs elt, loc => match evI G C it loc with
    | some (items, l1) => if own.all (freeD l1) && decide (items.length ≤ big) then
        match lcRun own p (evC G C cs) (ev G C elt) items (wipeL l1 own) with
        | some (ds, l2) => some (.new ds, back l1 l2 own)
        | none => none
      else none
    | none => none
  | .app i e, loc => match loc[i]? with
    | some (.own _ _) => match ev G C e loc with
      | some (r, l1) => match toVal r, l1[i]? with
        | some d, some (.own b ds) => if ds.length < big then some (.val .non, l1.set i (.own b (ds ++ [d]))) else none
        | _, _ => none
      | none => none
    | _ => none
  | .pop i, loc => match loc[i]? with
    | some (.own b ds) => match ds.getLast? with
      | some d => some (.val d, loc.set i (.own b ds.dropLast))
      | none => none
    | _ => none
  | .popAt i e, loc => match loc[i]? with
    | some (.own _ _) => match ev G C e loc with
      | some (.val (.int k), l1) => match l1[i]? with
        | some (.own b ds) => if 0 ≤ k ∧ k < 2 ^ 62 then match ds[k.toNat]? with
          | some d => some (.val d, l1.set i (.own b (ds.eraseIdx k.toNat)))
          | none => none
          else none
        | _ => none
      | _ => none
    | _ => none
  | .clear i, loc => match loc[i]? with
    | some (.own b ds) => some (.val .non, loc.set i (.own b []))
    | _ => none
  | .ext i e, loc => match loc[i]? with
    | some (.own _ _) => match ev G C e loc with
      | some (r, l1) => match toVal r, l1[i]? with
        | some (.lst es), some (.own b ds) => if ds.length + es.length ≤ big then some (.val .non, l1.set i (.own b (ds ++ es))) else none
        | _, _ => none
      | none => none
    | _ => none
  | .sIx i e, loc => match loc[i]? with
    | some (.scr ns) => match ev G C e loc with
      | some (.val (.int k), l1) => if 0 ≤ k then match ns[k.toNat]? with
        | some n => some (.val (.int n), l1)
        | none => none
        else none
      | _ => none
    | _ => none
  | .sLen i, loc => match loc[i]? with
    | some (.scr ns) => some (.val (.int ns.length), loc)
    | _ => none
  | .sSl i lo hi, loc => match loc[i]? with
    | some (.scr ns) => match evo G C lo loc with
      | some (x, l1) => match evo G C hi l1 with
        | some (y, l2) => some (.new (cutD (ns.map D.int) x y), l2)
        | none => none
      | none => none
    | _ => none
  | .lc2 own p it cs own1 p1 it1 cs1 elt, loc => match evI G C it loc with
    | some (items, l1) => if own.all (freeD l1) && decide (items.length ≤ big) then
        match lc2Run own p (evC G C cs) own1 (evI G C it1) p1 (evC G C cs1) (ev G C elt) items (wipeL l1 own) with
        | some (ds, l2) => if ds.length ≤ big then some (.new ds, back l1 l2 own) else none
        | none => none
      else none
    | none => none
  | .mxD mx a d, loc => match ev G C a loc with
    | some (r, l1) => match ev G C d l1 with
      | some (r', l2) => match res l2 (sett r), toVal r' with
        | some x, some y => match seqInts x with
          | some [] => some (.val y, l2)
          | some (n :: ms) => some (.val (.int (mxI mx n ms)), l2)
          | none => none
        | _, _ => none
      | none => none
    | none => none
  | .thaw i a, loc => match ev G C a loc with
    | some (r, l1) => match loc[i]?, l1[i]? with
      | some (.own false _), some (.dat (.lst ds)) => if noLsts ds && thawR r && thawB i 0 loc l1 then some (r, l1.set i (.own false ds)) else none
      | _, _ => none
    | none => none
  | .fld tb a, loc => match ev G C a loc with
    | some (.val (.ins c fs), l1) => match tb.lookup c with
      | some k => match fs[k]? with
        | some d => some (.val d, l1)
        | none => none
      | none => none
    | _ => none
  | .meth tb a as, loc => match ev G C a loc with
    | some (.val (.ins c fs), l1) => match tb.lookup c with
      | some f => match evs G C as l1 with
        | some (rs, l2) => doCall C f (.val (.ins c fs) :: rs) l2
        | none => none
      | none => none
    | _ => none
  | .make c f as, loc => match evs G C as loc with
    | some (rs, l1) => match argsOf l1 rs with
      | some a => if allDat a then
          match C f a with
          | some (.val (.ins c' ds), _) => if c' = c then some (.val (.ins c ds), l1) else none
          | _ => none
        else none
      | none => none
    | none => none
  | .sumR (.rng1 a), loc => match ev G C a loc with
    | some (.val (.int n), l1) => if small n && decide (n.toNat ≤ big) then some (.val (.int (rsum 0 n.toNat)), l1) else none
    | _ => none
  | .sumR _, loc => none
  | .ch3 o o' o'' a b c d, loc => match ev G C a loc with
    | some (ra, l1) => match ev G C b l1 with
      | some (rb, l2) => match res l2 (sett ra), res l2 rb with
        | some x, some y => match ap2 o x y with
          | some (.val (.bl true)) => match ev G C c l2 with
            | some (rc, l3) => match res l3 (sett rb), res l3 rc with
              | some y', some z => match ap2 o' y' z with
                | some (.val (.bl true)) => match ev G C d l3 with
                  | some (rd, l4) => match res l4 (sett rc), res l4 rd with
                    | some z', some w => match ap2 o'' z' w with
                      | some (.val (.bl k)) => some (.val (.bl k), l4)
                      | _ => none
                    | _, _ => none
                  | none => none
                | some (.val (.bl false)) => some (.val (.bl false), l3)
                | _ => none
              | _, _ => none
            | none => none
          | some (.val (.bl false)) => some (.val (.bl false), l2)
          | _ => none
        | _, _ => none
      | none => none
    | none => none
  | .bad, loc => none
  | .lrng it, loc => match evI G C it loc with
    | some (ds, l1) => if ds.length ≤ big then some (.new ds, l1) else none
    | none => none
def evs (G : Nat → D) (C : CallS) : List ME → Loc → Option (List R × Loc)
  | [], loc => some ([], loc)
  | e :: es, loc => match ev G C e loc with
    | some (r, l1) => match evs G C es l1 with
      | some (rs, l2) => some (sett r :: rs, l2)
      | none => none
    | none => none
def evo (G : Nat → D) (C : CallS) : Option ME → Loc → Option (Option Int × Loc)
  | none, loc => some (none, loc)
  | some e, loc => match ev G C e loc with
    | some (.val (.int i), l1) => some (some i, l1)
    | _ => none
def evC (G : Nat → D) (C : CallS) : List ME → Loc → Option (Bool × Loc)
  | [], loc => some (true, loc)
  | e :: es, loc => match ev G C e loc with
    | some (r, l1) => match res l1 r with
      | some d => match truth d with
        | some true => evC G C es l1
        | some false => some (false, l1)
        | none => none
      | none => none
    | none => none
def evI (G : Nat → D) (C : CallS) : IT → Loc → Option (List D × Loc)
  | .seq a, loc => match ev G C a loc with
    | some (r, l1) => match toVal r with
      | some (.lst ds) => some (ds, l1)
      | _ => none
    | none => none
  | .tpl a, loc => match ev G C a loc with
    | some (r, l1) => match toVal r with
      | some (.tup ds) => some (ds, l1)
      | _ => none
    | none => none
  | .rng1 a, loc => match ev G C a loc with
    | some (r, l1) => match r with
      | .val (.int n) => if small n then some (rngL 0 n.toNat, l1) else none
      | _ => none
    | none => none
  | .rng2 a b, loc => match ev G C a loc with
    | some (r, l1) => match ev G C b l1 with
      | some (r', l2) => match r, r' with
        | .val (.int m), .val (.int n) => if small m && small n then some (rngL m (n - m).toNat, l2) else none
        | _, _ => none
      | none => none
    | none => none
  | .enum a, loc => match ev G C a loc with
    | some (r, l1) => match toVal r with
      | some (.lst ds) => some (enumL 0 ds, l1)
      | _ => none
    | none => none
  | .zip a b, loc => match ev G C a loc with
    | some (r, l1) => match ev G C b l1 with
      | some (r', l2) => match toVal r, toVal r' with
        | some (.lst ds), some (.lst es) => some (zipL ds es, l2)
        | some (.tup ds), some (.tup es) => some (zipL ds es, l2)
        | _, _ => none
      | none => none
    | none => none
end
def evT (G : Nat → D) (C : CallS) (m : ME) (loc : Loc) : Option (Bool × Loc) := match ev G C m loc with
  | some (r, l1) => match res l1 r with
    | some d => match truth d with
      | some k => some (k, l1)
      | none => none
    | none => none
  | none => none

/-! ### statements -/
inductive MS where
  | set (p : Pat) (e : ME)
  | own (i : Nat) (e : ME)
  | par (i j : Nat) (a b : ME)
  | aug (i : Nat) (o : O2) (e : ME)
  | ex (e : ME)
  | ret (e : ME)
  | retN
  | ite (c : ME) (t f : List MS)
  | loop (p : Pat) (it : IT) (b : List MS)
  | wh (c : ME) (b : List MS)
  | put (i : Nat) (k e : ME)
  | pass
  | brk
  | cont
  | bad
  | retO (i : Nat)
  | forget (is : List Nat)
  | par3 (i j k : Nat) (a b c : ME)
  | augL (i : Nat) (e : ME)
inductive Out where
  | nx (loc : Loc)
  | rt (r : R) (loc : Loc)
  | bk (loc : Loc)
  | ct (loc : Loc)
def forRun (p : Pat) (body : Loc → Option Out) : List D → Loc → Option Out
  | [], loc => some (.nx loc)
  | d :: ds, loc => match bindP p d loc with
    | none => none
    | some l1 => match body l1 with
      | some (.nx l2) => forRun p body ds l2
      | some (.ct l2) => forRun p body ds l2
      | some (.bk l2) => some (.nx l2)
      | some (.rt r l2) => some (.rt r l2)
      | none => none
def whRun (c : Loc → Option (Bool × Loc)) (body : Loc → Option Out) : Nat → Loc → Option Out
  | 0, _ => none
  | n + 1, loc => match c loc with
    | some (true, l1) => match body l1 with
      | some (.nx l2) => whRun c body n l2
      | some (.ct l2) => whRun c body n l2
      | some (.bk l2) => some (.nx l2)
      | some (.rt r l2) => some (.rt r l2)
      | none => none
    | some (false, l1) => some (.nx l1)
    | none => none
mutual
def sx (G : Nat → D) (C : CallS) (F : Nat) : MS → Loc → Option Out
  | .set p e, loc => match ev G C e loc with
    | some (r, l1) => match toVal r with
      | some d => (bindP p d l1).map .nx
      | none => none
    | none => none
  | .own i e, loc => match ev G C e loc with
    | some (.new ds, l1) => (put l1 i (.own false ds)).map .nx
    | _ => none
  | .par i j a b, loc => match ev G C a loc with
    | some (r, l1) => match ev G C b l1 with
      | some (r', l2) => match toVal r, toVal r' with
        | some d, some e => match put l2 i (.dat d) with
          | some l3 => (put l3 j (.dat e)).map .nx
          | none => none
        | _, _ => none
      | none => none
    | none => none
  | .aug i o e, loc => match loc[i]? with
    | some (.dat d) => match ev G C e loc with
      | some (r, l1) => match d, toVal r with
        | .int x, some (.int y) => match o with
          | .add => (put l1 i (.dat (.int (x + y)))).map .nx
          | .sub => (put l1 i (.dat (.int (x - y)))).map .nx
          | _ => none
        | _, _ => none
      | none => none
    | _ => none
  | .ex e, loc => match ev G C e loc with
    | some (_, l1) => some (.nx l1)
    | none => none
  | .ret e, loc => match ev G C e loc with
    | some (r, l1) => match r with
      | .ref _ => none
      | r => some (.rt r l1)
    | none => none
  | .retN, loc => some (.rt (.val .non) loc)
  | .ite c t f, loc => match evT G C c loc with
    | some (true, l1) => sxs G C F t l1
    | some (false, l1) => sxs G C F f l1
    | none => none
  | .loop p it b, loc => match evI G C it loc with
    | some (items, l1) => forRun p (sxs G C F b) items l1
    | none => none
  | .wh c b, loc => whRun (evT G C c) (sxs G C F b) F loc
  | .put i k e, loc => match ev G C e loc with
    | some (r, l1) => match l1[i]? with
      | some (.own _ _) => match ev G C k l1 with
        | some (.val (.int n), l2) => match toVal r, l2[i]? with
          | some d, some (.own b ds) => if 0 ≤ n ∧ n < ds.length then some (.nx (l2.set i (.own b (ds.set n.toNat d)))) else none
          | _, _ => none
        | _ => none
      | _ => none
    | none => none
  | .pass, loc => some (.nx loc)
  | .brk, loc => some (.bk loc)
  | .cont, loc => some (.ct loc)
  | .bad, loc => none
  | .retO i, loc => match loc[i]? with
    | some (.own false ds) => some (.rt (.new ds) (loc.set i .none))
    | some (.dat d) => some (.rt (.val d) loc)
    | _ => none
  | .forget is, loc => if is.all (free loc) then some (.nx (wipeL loc is)) else none
  | .par3 i j k a b c, loc => match ev G C a loc with
    | some (ra, l1) => match ev G C b l1 with
      | some (rb, l2) => match ev G C c l2 with
        | some (rc, l3) => match toVal ra, toVal rb, toVal rc with
          | some x, some y, some z => match put l3 i (.dat x) with
            | some l4 => match put l4 j (.dat y) with
              | some l5 => (put l5 k (.dat z)).map .nx
              | none => none
            | none => none
          | _, _, _ => none
        | none => none
      | none => none
    | none => none
  | .augL i e, loc => match loc[i]? with
    | some (.own _ _) => match ev G C e loc with
      | some (r, l1) => match toVal r, l1[i]? with
        | some (.lst es), some (.own b ds) => if ds.length + es.length ≤ big then some (.nx (l1.set i (.own b (ds ++ es)))) else none
        | _, _ => none
      | none => none
    | _ => none
def sxs (G : Nat → D) (C : CallS) (F : Nat) : List MS → Loc → Option Out
  | [], loc => some (.nx loc)
  | s :: ss, loc => match sx G C F s loc with
    | some (.nx l1) => sxs G C F ss l1
    | o => o
end

/-! ### defs -/
structure CT where
  c : Nat
  fs : List ME
  post : List MS
structure FD where
  arity : Nat
  slots : Nat
  body : List MS
  ct : Option CT := none
/-- the lent lists behind a body -/
def lent : Loc → Loc → Option Loc
  | [], _ => some []
  | .own b _ :: a, l => match b, l with
    | true, .own true ds :: l' => match lent a l' with
      | some r => some (.own true ds :: r)
      | none => none
    | _, _ => none
  | s :: a, l => match l with
    | _ :: l' => match lent a l' with
      | some r => some (s :: r)
      | none => none
    | [] => none
def runFD (G : Nat → D) (C : CallS) (F : Nat) (d : FD) (a : Loc) : Option (R × Loc) :=
  if a.length = d.arity then
    match sxs G C F d.body (a ++ List.replicate (d.slots - d.arity) .none) with
    | some (.rt r l) => match lent a l with
      | some a' => some (r, a')
      | none => none
    | some (.nx l) => match lent a l with
      | some a' => some (.val .non, a')
      | none => none
    | _ => none
  else none
/-- a def that makes a new instance: what goes ahead, the fields, what comes behind -/
def ctRun (G : Nat → D) (C : CallS) (F : Nat) (c : Nat) (post : List MS) : List MS → List ME → List D → Loc → Option (List D)
  | m :: pre, fs, acc, loc => match sx G C F m loc with
    | some (.nx l1) => ctRun G C F c post pre fs acc l1
    | _ => none
  | [], fs, acc, loc => ctRunF fs acc loc
where ctRunF : List ME → List D → Loc → Option (List D)
  | e :: fs, acc, loc => match ev G C e loc with
    | some (r, l1) => match toVal r with
      | some d => ctRunF fs (acc ++ [d]) l1
      | none => none
    | none => none
  | [], acc, loc => match sxs G C F post (loc.set 0 (.dat (.ins c acc))) with
    | some (.nx _) => some acc
    | _ => none
def runCT (G : Nat → D) (C : CallS) (F : Nat) (d : FD) (ct : CT) (a : Loc) : Option (R × Loc) :=
  if a.length + 1 = d.arity then
    if allDat a then
      match ctRun G C F ct.c ct.post d.body ct.fs [] (.hid :: (a ++ List.replicate (d.slots - d.arity) .none)) with
      | some ds => some (.val (.ins ct.c ds), a)
      | none => none
    else none
  else none
def callN (G : Nat → D) (T : List FD) (F : Nat) : Nat → CallS
  | 0, _, _ => none
  | n + 1, f, a => match T[f]? with
    | some d => match d.ct with
      | none => runFD G (callN G T F n) F d a
      | some ct => match n with
        | 0 => none
        | m + 1 => runCT G (callN G T F m) F d ct a
    | none => none
end MP

namespace MP
open PySem PySem.Spec PyProof.Rows L2

variable {P : RP} {L L' : Addr → Prop} {H H' : Hp}
/-- the value of an operand: a list may be one that still changes -/
def RepW (P : RP) (L : Addr → Prop) (H : Hp) : D → V → Prop
  | .lst ds, v => ∃ a vs, v = .ref a ∧ H a = some (.lst vs) ∧ Reps P L H ds vs
  | d, v => Rep P L H d v
theorem Rep.w {d : D} {v : V} (h : Rep P L H d v) : RepW P L H d v := by
  cases d with
  | lst ds =>
    unfold Rep at h
    obtain ⟨a, vs, e, t, _, r⟩ := h
    exact ⟨a, vs, e, t, r⟩
  | _ => exact h
def OpPost (P : RP) (L : Addr → Prop) (H : Hp) : R → V → Hp → Prop
  | .val d, v, H' => Same H H' ∧ Rep P L H' d v
  | .new ds, v, H' => ∃ p vs, v = .ref p ∧ H p = none ∧ H' = upd H p (.lst vs) ∧ Reps P L H ds vs
  | .ref _, _, _ => False
theorem OpPost.val {d : D} {v : V} (h : Rep P L H d v) : OpPost P L H (.val d) v H := ⟨Same.refl H, h⟩
theorem OpPost.tup {ds : List D} {vs : List V} {p : Addr} (hL : ∀ b, L b → ∃ o, H b = some o) (hp : H p = none) (h : Reps P L H ds vs) : OpPost P L H (.val (.tup ds)) (.ref p) (upd H p (.tup vs)) := by
  refine ⟨same_upd hp, ?_⟩
  unfold Rep
  refine ⟨p, vs, rfl, .inl ⟨upd_same, fun z => ?_⟩, Reps.same (same_upd hp) h⟩
  obtain ⟨o, e⟩ := hL p z
  rw [hp] at e; cases e
theorem OpPost.lst {ds : List D} {vs : List V} {p : Addr} (hp : H p = none) (h : Reps P L H ds vs) : OpPost P L H (.new ds) (.ref p) (upd H p (.lst vs)) :=
  ⟨p, vs, rfl, hp, rfl, h⟩

/-- a two-place operation by data -/
def rD2 (P : RP) (f : D → D → Option R) : R2 := fun x y H Q => ∃ (L : Addr → Prop) (d e : D) (r : R), (∀ b, L b → ∃ o, H b = some o) ∧ RepW P L H d x ∧ RepW P L H e y ∧ f d e = some r ∧ ∀ v H', OpPost P L H r v H' → Q v H'
def rD1 (P : RP) (f : D → Option R) : V → Hp → VK → Prop := fun x H Q => ∃ (L : Addr → Prop) (d : D) (r : R), (∀ b, L b → ∃ o, H b = some o) ∧ RepW P L H d x ∧ f d = some r ∧ ∀ v H', OpPost P L H r v H' → Q v H'

theorem big_line {n : Nat} (h : n ≤ big) : n ≤ sizeLine := Nat.le_trans h (by rw [sizeLine_eq]; decide)
theorem big_lt {n : Nat} (h : n < big) : n < sizeLine := Nat.lt_of_lt_of_le h (by rw [sizeLine_eq]; decide)

/-! ### data compared -/
mutual
theorem plain_lay : ∀ (n : Nat) (d : D), D.plain n d = true → (toPy d).canLay0 = true ∧ (toPy d).depth ≤ n
  | _, .non, _ => ⟨by simp [toPy, PyData.canLay0], by simp [toPy, PyData.depth]⟩
  | _, .bl _, _ => ⟨by simp [toPy, PyData.canLay0], by simp [toPy, PyData.depth]⟩
  | _, .int _, _ => ⟨by simp [toPy, PyData.canLay0], by simp [toPy, PyData.depth]⟩
  | _, .str x, h => ⟨by simpa [toPy, PyData.canLay0, D.plain] using h, by simp [toPy, PyData.depth]⟩
  | 0, .tup ds, h => by simp [D.plain] at h
  | n + 1, .tup ds, h => by
    have := plains_lay n ds (by simpa [D.plain] using h)
    simp only [toPy, PyData.canLay0, PyData.depth]
    exact ⟨this.1, by omega⟩
  | 0, .lst ds, h => by simp [D.plain] at h
  | n + 1, .lst ds, h => by
    have := plains_lay n ds (by simpa [D.plain] using h)
    simp only [toPy, PyData.canLay0, PyData.depth]
    exact ⟨this.1, by omega⟩
  | n, .ins _ _, h => by simp [D.plain] at h
theorem plains_lay : ∀ (n : Nat) (ds : List D), D.plains n ds = true → PyData.canLayAll0 (toPys ds) = true ∧ PyData.depthAll (toPys ds) ≤ n
  | _, [], _ => ⟨by simp [toPys, PyData.canLayAll0], by simp [toPys, PyData.depthAll]⟩
  | n, d :: ds, h => by
    have h' : D.plain n d = true ∧ D.plains n ds = true := by simpa [D.plains] using h
    have h1 := plain_lay n d h'.1
    have h2 := plains_lay n ds h'.2
    simp only [toPys, PyData.canLayAll0, PyData.depthAll]
    exact ⟨by simp [h1.1, h2.1], by omega⟩
end
theorem plain_shaped {d : D} (h : D.plain 8 d = true) : SeqAt.shaped (toPy d) = true := by
  have := plain_lay 8 d h
  unfold SeqAt.shaped
  rw [Bool.and_eq_true]
  exact ⟨this.1, decide_eq_true (by omega)⟩
mutual
theorem rep_dp : ∀ (n : Nat) (d : D) (v : V), D.plain n d = true → Rep P L H d v → Dp P.K H v (toPy d)
  | _, .non, v, _, h => by unfold Rep at h; subst h; exact Dp.non
  | _, .bl _, v, _, h => by unfold Rep at h; subst h; exact Dp.bl _
  | _, .int _, v, _, h => by unfold Rep at h; subst h; exact Dp.int _
  | _, .str _, v, _, h => by unfold Rep at h; subst h; exact Dp.str _
  | 0, .tup ds, _, h, _ => by simp [D.plain] at h
  | n + 1, .tup ds, v, hp, h => by
    unfold Rep at h
    obtain ⟨a, vs, rfl, t, r⟩ := h
    simp only [toPy]
    exact Dp.tup t.sq (reps_dp n ds vs (by simpa [D.plain] using hp) r)
  | 0, .lst ds, _, h, _ => by simp [D.plain] at h
  | n + 1, .lst ds, v, hp, h => by
    unfold Rep at h
    obtain ⟨a, vs, rfl, t, _, r⟩ := h
    simp only [toPy]
    exact Dp.lst (SqL.of t) (reps_dp n ds vs (by simpa [D.plain] using hp) r)
  | n, .ins _ _, _, h, _ => by simp [D.plain] at h
theorem reps_dp : ∀ (n : Nat) (ds : List D) (vs : List V), D.plains n ds = true → Reps P L H ds vs → DpAll P.K H vs (toPys ds)
  | _, [], vs, _, h => by unfold Reps at h; subst h; exact DpAll.nil
  | n, d :: ds, vs, hp, h => by
    have h' : D.plain n d = true ∧ D.plains n ds = true := by simpa [D.plains] using hp
    unfold Reps at h
    obtain ⟨v, r, rfl, h1, h2⟩ := h
    simp only [toPys]
    exact DpAll.cons (rep_dp n d v h'.1 h1) (reps_dp n ds r h'.2 h2)
end
theorem repw_dp {d : D} {v : V} (hp : D.plain 8 d = true) (h : RepW P L H d v) : Dp P.K H v (toPy d) := by
  cases d with
  | lst ds =>
    obtain ⟨a, vs, rfl, t, r⟩ := h
    simp only [toPy]
    exact Dp.lst (SqL.of t) (reps_dp 7 ds vs (by simpa [D.plain] using hp) r)
  | _ => exact rep_dp (L := L) 8 _ v hp h
mutual
theorem beq_eqv : ∀ (n m : Nat) (d e : D), D.plain n d = true → D.plain m e = true → D.beq d e = PyData.eqv (toPy d) (toPy e)
  | _, _, .non, e, _, he => by cases e <;> simp_all [D.beq, toPy, PyData.eqv, D.plain]
  | _, _, .bl a, e, _, he => by cases e <;> simp_all [D.beq, toPy, PyData.eqv, D.plain]
  | _, _, .int a, e, _, he => by cases e <;> simp_all [D.beq, toPy, PyData.eqv, D.plain]
  | _, _, .str a, e, _, he => by
    cases e <;> simp_all [D.beq, toPy, PyData.eqv, D.plain]
    rw [Bool.eq_iff_iff]; simp
  | 0, _, .tup ds, _, h, _ => by simp [D.plain] at h
  | n + 1, m, .tup ds, e, h, he => by
    cases e with
    | tup es =>
      cases m with
      | zero => simp [D.plain] at he
      | succ m =>
        simp only [D.beq, toPy, PyData.eqv]
        exact beqs_eqv n m ds es (by simpa [D.plain] using h) (by simpa [D.plain] using he)
    | ins _ _ => simp [D.plain] at he
    | _ => simp_all [D.beq, toPy, PyData.eqv, D.plain]
  | 0, _, .lst ds, _, h, _ => by simp [D.plain] at h
  | n + 1, m, .lst ds, e, h, he => by
    cases e with
    | lst es =>
      cases m with
      | zero => simp [D.plain] at he
      | succ m =>
        simp only [D.beq, toPy, PyData.eqv]
        exact beqs_eqv n m ds es (by simpa [D.plain] using h) (by simpa [D.plain] using he)
    | ins _ _ => simp [D.plain] at he
    | _ => simp_all [D.beq, toPy, PyData.eqv, D.plain]
  | _, _, .ins _ _, _, h, _ => by simp [D.plain] at h
theorem beqs_eqv : ∀ (n m : Nat) (d e : List D), D.plains n d = true → D.plains m e = true → D.beqs d e = PyData.eqvAll (toPys d) (toPys e)
  | _, _, [], e, _, _ => by cases e <;> simp [D.beqs, toPys, PyData.eqvAll]
  | n, m, d :: ds, e, h, he => by
    cases e with
    | nil => simp [D.beqs, toPys, PyData.eqvAll]
    | cons e es =>
      have h1 : D.plain n d = true ∧ D.plains n ds = true := by simpa [D.plains] using h
      have h2 : D.plain m e = true ∧ D.plains m es = true := by simpa [D.plains] using he
      simp only [D.beqs, toPys, PyData.eqvAll]
      rw [beq_eqv n m d e h1.1 h2.1, beqs_eqv n m ds es h1.2 h2.2]
end
theorem any_eqv (n m : Nat) (d : D) (hd : D.plain m d = true) : ∀ (ds : List D), D.plains n ds = true → (ds.any fun y => D.beq y d) = (toPys ds).any fun z => PyData.eqv z (toPy d)
  | [], _ => by simp [toPys]
  | e :: es, h => by
    have h1 : D.plain n e = true ∧ D.plains n es = true := by simpa [D.plains] using h
    simp only [toPys, List.any_cons]
    rw [any_eqv n m d hd es h1.2, beq_eqv n m e d h1.1 hd]

theorem int_of {v : V} {i : Int} (h : RepW P L H (.int i) v) : v = .int i := by
  have : Rep P L H (.int i) v := h
  unfold Rep at this; exact this
theorem bl_of {v : V} {i : Bool} (h : RepW P L H (.bl i) v) : v = .bl i := by
  have : Rep P L H (.bl i) v := h
  unfold Rep at this; exact this
theorem str_of {v : V} {x : Str} (h : RepW P L H (.str x) v) : v = .str x := by
  have : Rep P L H (.str x) v := h
  unfold Rep at this; exact this
theorem non_of {v : V} (h : RepW P L H .non v) : v = .non := by
  have : Rep P L H .non v := h
  unfold Rep at this; exact this
theorem tup_of {v : V} {ds : List D} (h : RepW P L H (.tup ds) v) : ∃ a vs, v = .ref a ∧ TupAt P.K L H a vs ∧ Reps P L H ds vs := by
  have : Rep P L H (.tup ds) v := h
  unfold Rep at this; exact this
theorem rep_int {i : Int} : Rep P L H (.int i) (.int i) := by unfold Rep; rfl
theorem rep_bl {i : Bool} : Rep P L H (.bl i) (.bl i) := by unfold Rep; rfl
theorem rep_non : Rep P L H .non .non := by unfold Rep; rfl

/-! ### the operators -/
section
variable {X : Cx} {k : Nat}
theorem d_add (hK : P.K = X.K) : OpR X (binaryOp .Add) (rD2 P (ap2 .add)) := by
  intro pins s σ H x y v u Q I rx ry h
  obtain ⟨L, d, e, r, hL, hd, he, hf, q⟩ := h
  cases d with
  | int i =>
    cases e with
    | int j =>
      have hf : some (R.val (.int (i + j))) = some r := hf
      cases hf
      exact op_add pins s σ H x y v u Q I rx ry ⟨i, j, int_of hd, int_of he, q _ _ (.val rep_int)⟩
    | _ => exact nomatch hf
  | tup ds =>
    cases e with
    | tup es =>
      obtain ⟨a, xs, rfl, ta, ra⟩ := tup_of hd
      obtain ⟨b, ys, rfl, tb, rb⟩ := tup_of he
      have hf : (if ds.length + es.length ≤ big then some (R.val (.tup (ds ++ es))) else none) = some r := hf
      split at hf
      · rename_i hb
        cases hf
        rw [ra.length, rb.length] at hb
        refine op_catA pins s σ H _ _ v u Q I rx ry ⟨a, b, xs, ys, rfl, rfl, hK ▸ ta.sq, hK ▸ tb.sq, big_line hb, fun e0 => ?_, fun _ e0 => ?_, fun _ _ p hp => ?_⟩
        · subst e0
          have : ds = [] := by have := ra.length; simpa using this
          subst this
          exact q _ _ (.val he)
        · subst e0
          have : es = [] := by have := rb.length; simpa using this
          subst this
          rw [List.append_nil] at q
          exact q _ _ (.val hd)
        · exact q _ _ (.tup hL hp (ra.append rb))
      · cases hf
    | _ => exact nomatch hf
  | lst ds =>
    cases e with
    | lst es =>
      obtain ⟨a, xs, rfl, ta, ra⟩ := hd
      obtain ⟨b, ys, rfl, tb, rb⟩ := he
      have hf : (if ds.length + es.length ≤ big then some (R.new (ds ++ es)) else none) = some r := hf
      split at hf
      · rename_i hb
        cases hf
        rw [ra.length, rb.length] at hb
        exact op_cat pins s σ H _ _ v u Q I rx ry ⟨a, b, xs, ys, rfl, rfl, ta, tb, big_line hb, fun p hp => q _ _ (.lst hp (ra.append rb))⟩
      · cases hf
    | _ => exact nomatch hf
  | _ => exact nomatch hf
theorem d_int2 {op : Operator} {C : Int → Int → Prop} {g : Int → Int → Int} {f : D → D → Option R} (ho : OpR X (binaryOp op) (rI C fun i j => .int (g i j)))
    (hf : ∀ d e r, f d e = some r → ∃ i j, d = .int i ∧ e = .int j ∧ C i j ∧ r = .val (.int (g i j))) : OpR X (binaryOp op) (rD2 P f) := by
  intro pins s σ H x y v u Q I rx ry h
  obtain ⟨L, d, e, r, hL, hd, he, hr, q⟩ := h
  obtain ⟨i, j, rfl, rfl, c, rfl⟩ := hf d e r hr
  exact ho pins s σ H x y v u Q I rx ry ⟨i, j, int_of hd, int_of he, c, q _ _ (.val rep_int)⟩
theorem rI0_of {f : Value → Value → Sem Value} {g : Int → Int → V} (h : OpR X f (rI0 g)) : OpR X f (rI (fun _ _ => True) g) := by
  intro pins s σ H x y v u Q I rx ry hq
  obtain ⟨i, j, e1, e2, _, q⟩ := hq
  exact h pins s σ H x y v u Q I rx ry ⟨i, j, e1, e2, q⟩
theorem d_sub : OpR X (binaryOp .Sub) (rD2 P (ap2 .sub)) := by
  refine d_int2 (rI0_of op_sub) fun d e r h => ?_
  cases d <;> cases e <;> first | (cases h; exact ⟨_, _, rfl, rfl, trivial, rfl⟩) | exact nomatch h
theorem op_mulA : OpR X (binaryOp .Mult) (rI (fun i j => mulOk i j = true) fun i j => .int (i * j)) := by
  intro pins s σ H x y v u Q I rx ry h
  obtain ⟨i, j, e1, e2, c, q⟩ := h
  unfold mulOk at c
  simp only [Bool.or_eq_true, Bool.and_eq_true, decide_eq_true_eq] at c
  rcases c with (c | c) | c
  · exact op_mul pins s σ H x y v u Q I rx ry ⟨i, j, e1, e2, .inl c, q⟩
  · exact op_mul pins s σ H x y v u Q I rx ry ⟨i, j, e1, e2, .inr c, q⟩
  · exact op_mulW pins s σ H x y v u Q I rx ry ⟨i, j, e1, e2, c, q⟩
theorem Reps.rep {ds : List D} {vs : List V} (h : Reps P L H ds vs) : ∀ k : Nat, Reps P L H (List.replicate k ds).flatten (List.replicate k vs).flatten
  | 0 => Reps.nil
  | k + 1 => by simp only [List.replicate_succ, List.flatten_cons]; exact h.append (Reps.rep h k)
theorem d_mul : OpR X (binaryOp .Mult) (rD2 P (ap2 .mul)) := by
  intro pins s σ H x y v u Q I rx ry h
  obtain ⟨L, d, e, r, hL, hd, he, hf, q⟩ := h
  cases d with
  | int i =>
    cases e with
    | int j =>
      have hf : (if mulOk i j then some (R.val (.int (i * j))) else none) = some r := hf
      split at hf
      · rename_i hb
        cases hf
        exact op_mulA pins s σ H x y v u Q I rx ry ⟨i, j, int_of hd, int_of he, hb, q _ _ (.val rep_int)⟩
      · cases hf
    | _ => exact nomatch hf
  | lst ds =>
    cases e with
    | int k =>
      obtain ⟨a, xs, rfl, ta, ra⟩ := hd
      have hf : (if 0 ≤ k ∧ k ≤ big ∧ ds.length * k.toNat ≤ big then some (R.new (List.replicate k.toNat ds).flatten) else none) = some r := hf
      split at hf
      · rename_i hb
        cases hf
        obtain ⟨h0, h1, h2⟩ := hb
        rw [ra.length] at h2
        have hbig : (big : Int) = 1000000 := rfl
        exact op_rep pins s σ H _ _ v u Q I rx ry ⟨a, k, xs, rfl, int_of he, ta, by omega, by omega, big_line h2, fun p hp => q _ _ (.lst hp (ra.rep _))⟩
      · cases hf
    | _ => exact nomatch hf
  | _ => exact nomatch hf
theorem d_fdiv : OpR X (binaryOp .FloorDiv) (rD2 P (ap2 .fdiv)) := by
  refine d_int2 op_fdivW fun d e r h => ?_
  cases d <;> cases e <;> first | (exfalso; revert h; simp [ap2]; done) | skip
  rename_i i j
  have h : (if fdivOk j then some (R.val (.int (i / j))) else none) = some r := h
  split at h
  · rename_i c
    cases h
    unfold fdivOk at c
    simp only [Bool.and_eq_true, decide_eq_true_eq] at c
    exact ⟨i, j, rfl, rfl, c, rfl⟩
  · cases h
theorem d_mod : OpR X (binaryOp .Mod) (rD2 P (ap2 .mod)) := by
  refine d_int2 op_mod fun d e r h => ?_
  cases d <;> cases e <;> first | (exfalso; revert h; simp [ap2]; done) | skip
  rename_i i j
  have h : (if 0 < j then some (R.val (.int (i % j))) else none) = some r := h
  split at h
  · rename_i c
    cases h
    exact ⟨i, j, rfl, rfl, c, rfl⟩
  · cases h
theorem powOk_C {i j : Int} (h : powOk i j = true) : CPow i j := by
  unfold powOk at h
  simp only [Bool.and_eq_true, decide_eq_true_eq] at h
  exact ⟨h.1.1, h.1.2, h.2⟩
theorem d_pow : OpR X (binaryOp .Pow) (rD2 P (ap2 .pow)) := by
  refine d_int2 op_pow fun d e r h => ?_
  cases d <;> cases e <;> first | (exfalso; revert h; simp [ap2]; done) | skip
  rename_i i j
  have h : (if powOk i j then some (R.val (.int (i ^ j.toNat))) else none) = some r := h
  split at h
  · rename_i c
    cases h
    exact ⟨i, j, rfl, rfl, powOk_C c, rfl⟩
  · cases h
theorem d_shl : OpR X (binaryOp .LShift) (rD2 P (ap2 .shl)) := by
  refine d_int2 op_shl fun d e r h => ?_
  cases d <;> cases e <;> first | (exfalso; revert h; simp [ap2]; done) | skip
  rename_i i j
  have h : (if powOk i j then some (R.val (.int (i * 2 ^ j.toNat))) else none) = some r := h
  split at h
  · rename_i c
    cases h
    exact ⟨i, j, rfl, rfl, powOk_C c, rfl⟩
  · cases h
theorem d_shr : OpR X (binaryOp .RShift) (rD2 P (ap2 .shr)) := by
  refine d_int2 op_shr fun d e r h => ?_
  cases d <;> cases e <;> first | (exfalso; revert h; simp [ap2]; done) | skip
  rename_i i j
  have h : (if 0 ≤ j then some (R.val (.int (i / 2 ^ j.toNat))) else none) = some r := h
  split at h
  · rename_i c
    cases h
    exact ⟨i, j, rfl, rfl, c, rfl⟩
  · cases h
theorem d_band : OpR X (binaryOp .BitAnd) (rD2 P (ap2 .band)) := by
  refine d_int2 (rI0_of op_and) fun d e r h => ?_
  cases d <;> cases e <;> first | (cases h; exact ⟨_, _, rfl, rfl, trivial, rfl⟩) | exact nomatch h
def binOf : O2 → Option Operator
  | .add => some .Add | .sub => some .Sub | .mul => some .Mult | .fdiv => some .FloorDiv | .mod => some .Mod | .pow => some .Pow
  | .shl => some .LShift | .shr => some .RShift | .band => some .BitAnd
  | _ => none
theorem d_bin (hK : P.K = X.K) {o : O2} {op : Operator} (h : binOf o = some op) : OpR X (binaryOp op) (rD2 P (ap2 o)) := by
  cases o <;> simp only [binOf, reduceCtorEq, Option.some.injEq] at h <;> subst h
  · exact d_add hK
  · exact d_sub
  · exact d_mul
  · exact d_fdiv
  · exact d_mod
  · exact d_pow
  · exact d_shl
  · exact d_shr
  · exact d_band

/-! comparisons -/
theorem strEq_spec {d e : D} {k : Bool} (h : strEq d e = some k) : ∃ a b : Str, d = .str a ∧ e = .str b ∧ k = decide (a = b) := by
  unfold strEq at h
  split at h
  · cases h; exact ⟨_, _, rfl, rfl, rfl⟩
  · cases h
theorem d_eq (hK : P.K = X.K) (hu : X.A.units + 64 < cLine) : OpR X (compareOp .Eq) (rD2 P (ap2 .eq)) := by
  intro pins s σ H x y v u Q I rx ry h
  obtain ⟨L, d, e, r, hL, hd, he, hf, q⟩ := h
  have hf : (if D.plain 8 d && D.plain 8 e then some (R.val (.bl (D.beq d e))) else (strEq d e).map fun k => R.val (.bl k)) = some r := hf
  split at hf
  · rename_i c
    cases hf
    rw [Bool.and_eq_true] at c
    refine op_eqD hu pins s σ H x y v u Q I rx ry ⟨toPy d, toPy e, hK ▸ repw_dp c.1 hd, hK ▸ repw_dp c.2 he, plain_shaped c.1, plain_shaped c.2, ?_⟩
    rw [← beq_eqv 8 8 d e c.1 c.2]
    exact q _ _ (.val rep_bl)
  · obtain ⟨k, hk, rfl⟩ := Option.map_eq_some_iff.mp hf
    obtain ⟨a, b, rfl, rfl, rfl⟩ := strEq_spec hk
    obtain rfl := str_of hd
    obtain rfl := str_of he
    refine op_eq pins s σ H _ _ v u Q I rx ry ⟨rfl, ?_⟩
    have e1 : decide (V.str a = V.str b) = decide (a = b) := by simp
    rw [e1]
    exact q _ _ (.val rep_bl)
theorem d_ne (hK : P.K = X.K) (hu : X.A.units + 64 < cLine) : OpR X (compareOp .NotEq) (rD2 P (ap2 .ne)) := by
  intro pins s σ H x y v u Q I rx ry h
  obtain ⟨L, d, e, r, hL, hd, he, hf, q⟩ := h
  have hf : (if D.plain 8 d && D.plain 8 e then some (R.val (.bl (!D.beq d e))) else (strEq d e).map fun k => R.val (.bl (!k))) = some r := hf
  split at hf
  · rename_i c
    cases hf
    rw [Bool.and_eq_true] at c
    refine op_neD hu pins s σ H x y v u Q I rx ry ⟨toPy d, toPy e, hK ▸ repw_dp c.1 hd, hK ▸ repw_dp c.2 he, plain_shaped c.1, plain_shaped c.2, ?_⟩
    rw [← beq_eqv 8 8 d e c.1 c.2]
    exact q _ _ (.val rep_bl)
  · obtain ⟨k, hk, rfl⟩ := Option.map_eq_some_iff.mp hf
    obtain ⟨a, b, rfl, rfl, rfl⟩ := strEq_spec hk
    obtain rfl := str_of hd
    obtain rfl := str_of he
    refine op_ne pins s σ H _ _ v u Q I rx ry ⟨rfl, ?_⟩
    have e1 : decide (V.str a = V.str b) = decide (a = b) := by simp
    rw [e1]
    exact q _ _ (.val rep_bl)
theorem ints_spec : ∀ {ds : List D} {ns : List Int}, ints? ds = some ns → ds = ns.map D.int
  | [], ns, h => by cases h; rfl
  | d :: ds, ns, h => by
    unfold ints? at h
    split at h
    · rename_i i r h1 h2
      cases h
      rw [ints_spec h2]; rfl
    · cases h
theorem ltL_lex : ∀ a b : List Int, HT.lexLt a b = ltL a b
  | [], [] => rfl
  | [], y :: ys => rfl
  | x :: xs, [] => rfl
  | x :: xs, y :: ys => by rw [HT.lexLt_cons, ltL_lex xs ys]; rfl
theorem ltInts_spec (xs ys : List D) (b : Bool) (h : D.ltInts xs ys = some b) : ∃ ns ms : List Int, xs = ns.map D.int ∧ ys = ms.map D.int ∧ HT.lexLt ns ms = b := by
  unfold D.ltInts at h
  split at h
  · rename_i ns ms h1 h2
    cases h
    exact ⟨ns, ms, ints_spec h1, ints_spec h2, ltL_lex ns ms⟩
  · cases h
theorem d_cmpI {op : CmpOp} {f : Int → Int → Bool} (ho : OpR X (compareOp op) (rI0 fun i j => .bl (f i j))) : OpR X (compareOp op) (rD2 P (cmpI f)) := by
  intro pins s σ H x y v u Q I rx ry h
  obtain ⟨L, d, e, r, hL, hd, he, hf, q⟩ := h
  cases d <;> cases e <;> first | (exfalso; revert hf; simp [cmpI]; done) | skip
  rename_i i j
  cases hf
  exact ho pins s σ H x y v u Q I rx ry ⟨i, j, int_of hd, int_of he, q _ _ (.val rep_bl)⟩
theorem d_lt (hK : P.K = X.K) (hu : X.A.units < cLine) : OpR X (compareOp .Lt) (rD2 P (ap2 .lt)) := by
  intro pins s σ H x y v u Q I rx ry h
  obtain ⟨L, d, e, r, hL, hd, he, hf, q⟩ := h
  cases d with
  | int i =>
    cases e with
    | int j =>
      cases hf
      exact op_lt pins s σ H x y v u Q I rx ry ⟨i, j, int_of hd, int_of he, q _ _ (.val rep_bl)⟩
    | _ => exact nomatch hf
  | tup ds =>
    cases e with
    | tup es =>
      have hf : ((D.ltInts ds es).map fun k => R.val (.bl k)) = some r := hf
      obtain ⟨b, hb, rfl⟩ := Option.map_eq_some_iff.mp hf
      obtain ⟨ns, ms, rfl, rfl, e⟩ := ltInts_spec ds es b hb
      obtain ⟨a, xs, rfl, ta, ra⟩ := tup_of hd
      obtain ⟨b', ys, rfl, tb, rb⟩ := tup_of he
      obtain rfl := ra.ints
      obtain rfl := rb.ints
      refine op_ltT hu pins s σ H _ _ v u Q I rx ry ⟨a, b', ns, ms, rfl, rfl, hK ▸ ta.sq, hK ▸ tb.sq, ?_⟩
      rw [e]
      exact q _ _ (.val rep_bl)
    | _ => exact nomatch hf
  | _ => exact nomatch hf
theorem in_tup (hu : X.A.units + 65 < cLine) {pins : List (Addr × Obj)} {s : Shared} {σ : Sg} {H : Hp} {x y : V} {v u : Value} {Q : VK} (I : Inv X pins σ H s) (rx : RelV x v) (ry : RelV y u) {d : PyData} {ds : List PyData} (hd : Dp X.K H x d) (he : Dp X.K H y (.tuple ds))
    (sd : SeqAt.shaped d = true) (se : SeqAt.shaped (.tuple ds) = true) (q : Q (.bl (ds.any fun z => PyData.eqv z d)) H) : wpAny (model X.prog X.w) X.A (compareOp .In v u) (EP X pins σ Q) X.xe s := by
  obtain ⟨as, r1⟩ := Dp.reads I d x v hd rx
  obtain ⟨bs, r2⟩ := Dp.reads I (.tuple ds) y u he ry
  exact SeqAt.in_tuple_reads r2 r1 (SeqAt.canLay_of_shaped se) (SeqAt.canLay_of_shaped sd) (room_in_shaped sd hu) ⟨.bl _, H, I, rfl, q⟩
theorem notIn_tup (hu : X.A.units + 65 < cLine) {pins : List (Addr × Obj)} {s : Shared} {σ : Sg} {H : Hp} {x y : V} {v u : Value} {Q : VK} (I : Inv X pins σ H s) (rx : RelV x v) (ry : RelV y u) {d : PyData} {ds : List PyData} (hd : Dp X.K H x d) (he : Dp X.K H y (.tuple ds))
    (sd : SeqAt.shaped d = true) (se : SeqAt.shaped (.tuple ds) = true) (q : Q (.bl (!ds.any fun z => PyData.eqv z d)) H) : wpAny (model X.prog X.w) X.A (compareOp .NotIn v u) (EP X pins σ Q) X.xe s := by
  obtain ⟨as, r1⟩ := Dp.reads I d x v hd rx
  obtain ⟨bs, r2⟩ := Dp.reads I (.tuple ds) y u he ry
  exact SeqAt.notIn_tuple_reads r2 r1 (SeqAt.canLay_of_shaped se) (SeqAt.canLay_of_shaped sd) (room_in_shaped sd hu) ⟨.bl _, H, I, rfl, q⟩
theorem shaped_seq {ds : List D} (h : D.plains 8 ds = true) : SeqAt.shaped (.tuple (toPys ds)) = true ∧ SeqAt.shaped (.list (toPys ds)) = true := by
  have := plains_lay 8 ds h
  have h1 : (PyData.tuple (toPys ds)).depth = PyData.depthAll (toPys ds) + 1 := by simp only [PyData.depth]
  have h2 : (PyData.list (toPys ds)).depth = PyData.depthAll (toPys ds) + 1 := by simp only [PyData.depth]
  have h3 : (PyData.tuple (toPys ds)).canLay0 = true := by simpa only [PyData.canLay0] using this.1
  have h4 : (PyData.list (toPys ds)).canLay0 = true := by simpa only [PyData.canLay0] using this.1
  unfold SeqAt.shaped
  rw [h1, h2, h3, h4, Bool.true_and]
  exact ⟨decide_eq_true (by omega), decide_eq_true (by omega)⟩
theorem d_in (hK : P.K = X.K) (hu : X.A.units + 65 < cLine) : OpR X (compareOp .In) (rD2 P (ap2 .isin)) := by
  intro pins s σ H x y v u Q I rx ry h
  obtain ⟨L, d, e, r, hL, hd, he, hf, q⟩ := h
  cases e <;> first | (simp [ap2] at hf; done) | skip
  all_goals
    rename_i ys
    have hf : (if D.plain 8 d && D.plains 8 ys then some (R.val (.bl (ys.any fun y => D.beq y d))) else none) = some r := by simpa [ap2] using hf
    split at hf
    · rename_i c
      cases hf
      rw [Bool.and_eq_true] at c
      rw [any_eqv 8 8 d c.1 ys c.2] at q
      first
        | exact in_tup hu I rx ry (hK ▸ repw_dp c.1 hd) (by
            obtain ⟨a, xs, rfl, ta, ra⟩ := tup_of he
            exact hK ▸ Dp.tup ta.sq (reps_dp 8 ys xs c.2 ra)) (plain_shaped c.1) (shaped_seq c.2).1 (q _ _ (.val rep_bl))
        | exact op_inD hu pins s σ H x y v u Q I rx ry ⟨toPy d, toPys ys, hK ▸ repw_dp c.1 hd, (by
            obtain ⟨a, xs, rfl, ta, ra⟩ := he
            exact hK ▸ Dp.lst (SqL.of ta) (reps_dp 8 ys xs c.2 ra)), plain_shaped c.1, (shaped_seq c.2).2, q _ _ (.val rep_bl)⟩
    · cases hf
theorem d_notin (hK : P.K = X.K) (hu : X.A.units + 65 < cLine) : OpR X (compareOp .NotIn) (rD2 P (ap2 .notin)) := by
  intro pins s σ H x y v u Q I rx ry h
  obtain ⟨L, d, e, r, hL, hd, he, hf, q⟩ := h
  cases e <;> first | (simp [ap2] at hf; done) | skip
  all_goals
    rename_i ys
    have hf : (if D.plain 8 d && D.plains 8 ys then some (R.val (.bl (!ys.any fun y => D.beq y d))) else none) = some r := by simpa [ap2] using hf
    split at hf
    · rename_i c
      cases hf
      rw [Bool.and_eq_true] at c
      rw [any_eqv 8 8 d c.1 ys c.2] at q
      first
        | exact notIn_tup hu I rx ry (hK ▸ repw_dp c.1 hd) (by
            obtain ⟨a, xs, rfl, ta, ra⟩ := tup_of he
            exact hK ▸ Dp.tup ta.sq (reps_dp 8 ys xs c.2 ra)) (plain_shaped c.1) (shaped_seq c.2).1 (q _ _ (.val rep_bl))
        | exact op_notInD hu pins s σ H x y v u Q I rx ry ⟨toPy d, toPys ys, hK ▸ repw_dp c.1 hd, (by
            obtain ⟨a, xs, rfl, ta, ra⟩ := he
            exact hK ▸ Dp.lst (SqL.of ta) (reps_dp 8 ys xs c.2 ra)), plain_shaped c.1, (shaped_seq c.2).2, q _ _ (.val rep_bl)⟩
    · cases hf
end
end MP

namespace MP
open PySem PySem.Spec PyProof.Rows L2
variable {P : RP} {L L' : Addr → Prop} {H H' : Hp}

/-! ### sorting ints -/
theorem insS_perm (x : Int) : ∀ l : List Int, (insS x l).Perm (x :: l)
  | [] => List.Perm.refl _
  | y :: ys => by
    unfold insS
    split
    · exact List.Perm.refl _
    · exact ((insS_perm x ys).cons y).trans (List.Perm.swap x y ys)
theorem sortS_perm : ∀ l : List Int, (sortS l).Perm l
  | [] => List.Perm.refl _
  | x :: xs => (insS_perm x (sortS xs)).trans ((sortS_perm xs).cons x)
theorem insS_pw (x : Int) : ∀ l : List Int, l.Pairwise (· ≤ ·) → (insS x l).Pairwise (· ≤ ·)
  | [], _ => by unfold insS; exact List.pairwise_singleton _ _
  | y :: ys, h => by
    have h' := List.pairwise_cons.mp h
    unfold insS
    split
    · rename_i hxy
      refine List.pairwise_cons.mpr ⟨fun z hz => ?_, h⟩
      rcases List.mem_cons.mp hz with rfl | hz
      · exact hxy
      · exact Int.le_trans hxy (h'.1 z hz)
    · rename_i hxy
      refine List.pairwise_cons.mpr ⟨fun z hz => ?_, insS_pw x ys h'.2⟩
      rcases List.mem_cons.mp ((insS_perm x ys).mem_iff.mp hz) with rfl | hz
      · omega
      · exact h'.1 z hz
theorem sortS_pw : ∀ l : List Int, (sortS l).Pairwise (· ≤ ·)
  | [] => by unfold sortS; exact List.Pairwise.nil
  | x :: xs => insS_pw x _ (sortS_pw xs)
theorem sorted_uniq : ∀ {l m : List Int}, l.Perm m → l.Pairwise (· ≤ ·) → m.Pairwise (· ≤ ·) → l = m
  | [], m, p, _, _ => (List.perm_nil.mp p.symm).symm
  | x :: xs, [], p, _, _ => absurd p.length_eq (by simp)
  | x :: xs, y :: ys, p, hl, hm => by
    have hl' := List.pairwise_cons.mp hl
    have hm' := List.pairwise_cons.mp hm
    have e : x = y := by
      have h1 : x ∈ y :: ys := p.mem_iff.mp List.mem_cons_self
      have h2 : y ∈ x :: xs := p.mem_iff.mpr List.mem_cons_self
      rcases List.mem_cons.mp h1 with h1 | h1
      · exact h1
      rcases List.mem_cons.mp h2 with h2 | h2
      · exact h2.symm
      · exact Int.le_antisymm (hl'.1 y h2) (hm'.1 x h1)
    subst e
    rw [sorted_uniq (List.Perm.cons_inv p) hl'.2 hm'.2]
theorem sortS_is {l m : List Int} (p : m.Perm l) (h : m.Pairwise (· ≤ ·)) : m = sortS l := sorted_uniq (p.trans (sortS_perm l).symm) h (sortS_pw l)

theorem bls_spec : ∀ {ds : List D} {ns : List Bool}, bls? ds = some ns → ds = ns.map D.bl
  | [], ns, h => by cases h; rfl
  | d :: ds, ns, h => by
    unfold bls? at h
    split at h
    · rename_i i r h1 h2
      cases h
      rw [bls_spec h2]; rfl
    · cases h

def r1 (P : RP) (f : D → Option R) : List V → Hp → VK → Prop := fun xs H Q => ∃ x, xs = [x] ∧ rD1 P f x H Q
section
variable {X : Cx}
theorem seq_of (hK : P.K = X.K) {d : D} {x : V} (h : RepW P L H d x) : (∀ ds, d = .tup ds → ∃ a vs, x = .ref a ∧ SqT X.K H a vs ∧ Reps P L H ds vs) ∧ (∀ ds, d = .lst ds → ∃ a vs, x = .ref a ∧ H a = some (.lst vs) ∧ Reps P L H ds vs) := by
  refine ⟨fun ds e => ?_, fun ds e => ?_⟩
  · subst e
    obtain ⟨a, vs, rfl, t, r⟩ := tup_of h
    exact ⟨a, vs, rfl, hK ▸ t.sq, r⟩
  · subst e; exact h
theorem c_len (hK : P.K = X.K) : CallR X (.builtin "len") (r1 P (ap1 .len)) := by
  intro pins s σ H xs us Q I r h
  obtain ⟨x, rfl, L, d, r', hL, hd, hf, q⟩ := h
  cases d <;> first | (exfalso; revert hf; simp [ap1]; done) | skip
  · obtain ⟨a, vs, rfl, t, rr⟩ := tup_of hd
    simp only [ap1, Option.some.injEq] at hf
    subst hf
    rw [rr.length] at q
    exact call_len_seq pins s σ H _ us Q I r ⟨a, vs, rfl, .inr (hK ▸ t.sq), q _ _ (.val rep_int)⟩
  · obtain ⟨a, vs, rfl, t, rr⟩ := hd
    simp only [ap1, Option.some.injEq] at hf
    subst hf
    rw [rr.length] at q
    exact call_len_seq pins s σ H _ us Q I r ⟨a, vs, rfl, .inl (SqL.of t), q _ _ (.val rep_int)⟩
theorem c_int : CallR X (.type "int") (r1 P (ap1 .int)) := by
  intro pins s σ H xs us Q I r h
  obtain ⟨x, rfl, L, d, r', hL, hd, hf, q⟩ := h
  cases d <;> first | (exfalso; revert hf; simp [ap1]; done) | skip
  · simp only [ap1, Option.some.injEq] at hf
    subst hf
    exact call_int1 pins s σ H _ us Q I r (.inr ⟨_, by rw [bl_of hd], q _ _ (.val rep_int)⟩)
  · simp only [ap1, Option.some.injEq] at hf
    subst hf
    exact call_int1 pins s σ H _ us Q I r (.inl ⟨_, by rw [int_of hd], q _ _ (.val rep_int)⟩)
theorem c_bool : CallR X (.type "bool") (r1 P (ap1 .bool)) := by
  intro pins s σ H xs us Q I r h
  obtain ⟨x, rfl, L, d, r', hL, hd, hf, q⟩ := h
  cases d <;> first | (exfalso; revert hf; simp [ap1]; done) | skip
  simp only [ap1, Option.some.injEq] at hf
  subst hf
  exact call_bool1 pins s σ H _ us Q I r (.inr ⟨_, by rw [bl_of hd], q _ _ (.val rep_bl)⟩)
theorem c_list (hK : P.K = X.K) : CallR X (.type "list") (r1 P (ap1 .list)) := by
  intro pins s σ H xs us Q I r h
  obtain ⟨x, rfl, L, d, r', hL, hd, hf, q⟩ := h
  cases d <;> first | (exfalso; revert hf; simp [ap1]; done) | skip
  · obtain ⟨a, vs, rfl, t, rr⟩ := tup_of hd
    simp only [ap1, Option.some.injEq] at hf
    subst hf
    exact call_list_of pins s σ H _ us Q I r ⟨a, vs, rfl, .inr (hK ▸ t.sq), fun p hp => q _ _ (.lst hp rr)⟩
  · obtain ⟨a, vs, rfl, t, rr⟩ := hd
    simp only [ap1, Option.some.injEq] at hf
    subst hf
    exact call_list_of pins s σ H _ us Q I r ⟨a, vs, rfl, .inl (SqL.of t), fun p hp => q _ _ (.lst hp rr)⟩
theorem c_tuple (hK : P.K = X.K) : CallR X (.type "tuple") (r1 P (ap1 .tuple)) := by
  intro pins s σ H xs us Q I r h
  obtain ⟨x, rfl, L, d, r', hL, hd, hf, q⟩ := h
  cases d <;> first | (exfalso; revert hf; simp [ap1]; done) | skip
  · obtain ⟨a, vs, rfl, t, rr⟩ := tup_of hd
    simp only [ap1, Option.some.injEq] at hf
    subst hf
    exact call_tuple_of pins s σ H _ us Q I r ⟨a, vs, rfl, .inr ⟨hK ▸ t.sq, q _ _ (.val hd)⟩⟩
  · obtain ⟨a, vs, rfl, t, rr⟩ := hd
    simp only [ap1, Option.some.injEq] at hf
    subst hf
    exact call_tuple_of pins s σ H _ us Q I r ⟨a, vs, rfl, .inl ⟨SqL.of t, fun p hp => q _ _ (.tup hL hp rr)⟩⟩
theorem c_all (hc : X.calm = true) : CallR X (.builtin "all") (r1 P (ap1 .all)) := by
  intro pins s σ H xs us Q I r h
  obtain ⟨x, rfl, L, d, r', hL, hd, hf, q⟩ := h
  cases d <;> first | (exfalso; revert hf; simp [ap1]; done) | skip
  obtain ⟨a, vs, rfl, t, rr⟩ := hd
  obtain ⟨ns, h1, rfl⟩ := Option.map_eq_some_iff.mp (show _ = some r' from hf)
  obtain rfl := bls_spec h1
  obtain rfl := rr.bls
  exact cr_all hc pins s σ H _ us Q I r ⟨a, ns, rfl, SqL.of t, q _ _ (.val rep_bl)⟩
theorem c_any (hc : X.calm = true) : CallR X (.builtin "any") (r1 P (ap1 .any)) := by
  intro pins s σ H xs us Q I r h
  obtain ⟨x, rfl, L, d, r', hL, hd, hf, q⟩ := h
  cases d <;> first | (exfalso; revert hf; simp [ap1]; done) | skip
  obtain ⟨a, vs, rfl, t, rr⟩ := hd
  obtain ⟨ns, h1, rfl⟩ := Option.map_eq_some_iff.mp (show _ = some r' from hf)
  obtain rfl := bls_spec h1
  obtain rfl := rr.bls
  exact cr_any hc pins s σ H _ us Q I r ⟨a, ns, rfl, SqL.of t, q _ _ (.val rep_bl)⟩
theorem c_sum (hK : P.K = X.K) (hc : X.calm = true) : CallR X (.builtin "sum") (r1 P (ap1 .sum)) := by
  intro pins s σ H xs us Q I r h
  obtain ⟨x, rfl, L, d, r', hL, hd, hf, q⟩ := h
  cases d <;> first | (exfalso; revert hf; simp [ap1]; done) | skip
  · obtain ⟨a, vs, rfl, t, rr⟩ := tup_of hd
    obtain ⟨ns, h1, rfl⟩ := Option.map_eq_some_iff.mp (show _ = some r' from hf)
    obtain rfl := ints_spec h1
    obtain rfl := rr.ints
    exact cr_sumT hc pins s σ H _ us Q I r ⟨a, ns, rfl, hK ▸ t.sq, q _ _ (.val rep_int)⟩
  · obtain ⟨a, vs, rfl, t, rr⟩ := hd
    obtain ⟨ns, h1, rfl⟩ := Option.map_eq_some_iff.mp (show _ = some r' from hf)
    obtain rfl := ints_spec h1
    obtain rfl := rr.ints
    exact cr_sum hc pins s σ H _ us Q I r ⟨a, ns, rfl, SqL.of t, q _ _ (.val rep_int)⟩
theorem c_abs : CallR X (.builtin "abs") (r1 P (ap1 .abs)) := by
  intro pins s σ H xs us Q I r h
  obtain ⟨x, rfl, L, d, r', hL, hd, hf, q⟩ := h
  cases d <;> first | (exfalso; revert hf; simp [ap1]; done) | skip
  simp only [ap1, Option.some.injEq] at hf
  subst hf
  exact call_abs pins s σ H _ us Q I r ⟨_, by rw [int_of hd], q _ _ (.val rep_int)⟩
theorem shOk_spec {d : D} (h : shOk d = true) : D.plain 8 d = true ∧ (toPy d).showable = true ∧ (toPy d).shown.length ≤ sizeLine ∧ (toPy d).hasDict = false ∧ (toPy d).depth ≤ 8 := by
  unfold shOk at h
  simp only [Bool.and_eq_true, decide_eq_true_eq] at h
  obtain ⟨⟨h1, h2⟩, h3⟩ := h
  have hp := plain_lay 8 d h1
  exact ⟨h1, h2, big_line (Nat.le_trans h3 (by decide)), PyData.hasDict_of_canLay _ hp.1, hp.2⟩
theorem c_repr (hK : P.K = X.K) (hgd : X.A.guards = some []) (hu : X.A.units + 65 < cLine) : CallR X (.builtin "repr") (r1 P (ap1 .repr)) := by
  intro pins s σ H xs us Q I r h
  obtain ⟨x, rfl, L, d, r', hL, hd, hf, q⟩ := h
  have hf' : (if shOk d then some (R.val (.str (toPy d).shown)) else none) = some r' := hf
  split at hf'
  case isFalse => cases hf'
  rename_i hsh
  cases hf'
  obtain ⟨h1, h2, h3, h4, h5⟩ := shOk_spec hsh
  have hrep : Rep P L H (.str (toPy d).shown) (.str (toPy d).shown) := by unfold Rep; rfl
  have hq := q _ _ (.val hrep)
  obtain ⟨u, rfl, ru⟩ := vals1 r
  cases d with
  | non =>
    obtain rfl := non_of hd
    cases ru
    refine PySem.P.repr_of_none ⟨.str _, H, I.tok _, ⟨_, rfl⟩, ?_⟩
    simpa only [toPy, PyData.shown] using hq
  | bl b =>
    obtain rfl := bl_of hd
    cases ru
    refine PySem.P.repr_of_bool ⟨.str _, H, I.tok _, ⟨_, rfl⟩, ?_⟩
    simpa only [toPy, PyData.shown] using hq
  | int i =>
    obtain rfl := int_of hd
    obtain ⟨t, rfl⟩ := ru
    refine PySem.P.repr_of_int (by simpa only [toPy, PyData.showable, decide_eq_true_eq] using h2) ⟨.str _, H, I.tok _, ⟨_, rfl⟩, ?_⟩
    simpa only [toPy, PyData.shown] using hq
  | str z =>
    obtain rfl := str_of hd
    obtain ⟨t, rfl⟩ := ru
    simp only [toPy, PyData.shown] at h3 hq
    exact PySem.P.repr_of_str ⟨.str _, H, I.tok _, ⟨_, rfl⟩, hq⟩ h3
  | ins _ _ => simp [D.plain] at h1
  | tup ds =>
    obtain ⟨a, vs, rfl, t, rr⟩ := tup_of hd
    obtain rfl : u = Value.ref a := ru
    obtain ⟨as, rd⟩ := Dp.reads I (toPy (.tup ds)) (.ref a) (.ref a) (hK ▸ repw_dp h1 hd) rfl
    exact PySem.repr_of_reads' rd h2 (PyData.noDict_hsm h4) hgd (by omega) (fun _ _ e => e) (fun h' u tk hk => ⟨.str _, H, I.kept hk, ⟨_, rfl⟩, hq⟩) h3
  | lst ds =>
    obtain ⟨a, vs, rfl, t, rr⟩ := hd
    obtain rfl : u = Value.ref a := ru
    obtain ⟨as, rd⟩ := Dp.reads I (toPy (.lst ds)) (.ref a) (.ref a) (hK ▸ repw_dp h1 ⟨a, vs, rfl, t, rr⟩) rfl
    exact PySem.repr_of_reads' rd h2 (PyData.noDict_hsm h4) hgd (by omega) (fun _ _ e => e) (fun h' u tk hk => ⟨.str _, H, I.kept hk, ⟨_, rfl⟩, hq⟩) h3
/-! max, min with a default -/
def rMx (K : PySem.W.Frag) (mx : Bool) : List V → List V → Hp → VK → Prop := fun xs zs H Q => ∃ (a : Addr) (z : V) (ns : List Int), xs = [.ref a] ∧ zs = [z] ∧ (SqT K H a (ns.map V.int) ∨ SqL K H a (ns.map V.int)) ∧ (ns = [] → Q z H) ∧ ∀ n ms, ns = n :: ms → Q (.int (mxI mx n ms)) H
theorem reads_ints {h : Heap} : ∀ {ns : List Int} {its : List Value}, Vals (ns.map V.int) its → ReadsAll h its (ns.map PyData.int) []
  | [], _, r => by cases r; exact .nil
  | n :: ns, _, r => by
    cases r with
    | cons r t =>
      obtain ⟨tk, rfl⟩ := r
      exact ReadsAll.cons (as := []) (.int _ _) (reads_ints t)
theorem alike_ints (ns : List Int) : PySem.W.AlikeAll (ns.map PyData.int) := by
  refine ⟨fun x hx y hy => ?_, fun x hx => ?_⟩
  · obtain ⟨i, _, rfl⟩ := List.mem_map.mp hx
    obtain ⟨j, _, rfl⟩ := List.mem_map.mp hy
    rfl
  · obtain ⟨i, _, rfl⟩ := List.mem_map.mp hx
    exact fun z => nomatch z
theorem depth_ints : ∀ ns : List Int, PyData.depthAll (ns.map PyData.int) = 0
  | [] => rfl
  | n :: ns => by
    simp only [List.map_cons, PyData.depthAll, depth_ints ns, PyData.depth]
    rfl
theorem isTuple_of {h : Heap} {a : Addr} {vs : Array Value} (t : IsTup h a vs) : h.IsTuple a vs := by
  obtain ⟨o, e1, e2, n, e3⟩ := t
  first | exact ⟨o, n, e1, e2, e3⟩ | exact ⟨o, e1, e2, n, e3⟩ | exact ⟨o, e1, e2, ⟨n, e3⟩⟩ | exact ⟨⟨o, e1, e2⟩, o, e1, n, e3⟩
theorem cr_mx (hc : X.calm = true) (hu : X.A.units + 65 < cLine) (mx : Bool) : CallRK X (.builtin (if mx then "max" else "min")) [Str.ofString "default"] (rMx X.K mx) := by
  intro pins s σ H xs zs us ws Q I r rz h
  obtain ⟨a, z, ns, rfl, rfl, hs, h0, h1⟩ := h
  obtain ⟨u, rfl, ru⟩ := vals1 r
  obtain ⟨w, rfl, rw'⟩ := vals1 rz
  obtain rfl : u = Value.ref a := ru
  have hd : X.A.handled = none := I.ok.hd hc
  have hdep := depth_ints ns
  have empty : ∀ {h' : Heap} {tk : Tok}, ns = [] → (∀ b o, s.heap.get? b = some o → h'.get? b = some o) → EP X pins σ Q w { s with heap := h', toks := tk } := fun {h' tk} e k => ⟨z, H, I.kept k, rw', h0 e⟩
  have full : ∀ {y : PyData} {ys : List PyData} {v : Value} {h' h2 : Heap} {tk : Tok} {bs : List Addr} {n : Int} {ms : List Int}, ns = n :: ms → Reads h2 v (.int (mxI mx n ms)) bs → (∀ b o, s.heap.get? b = some o → h'.get? b = some o) → EP X pins σ Q v { s with heap := h', toks := tk } := fun {y ys v h' h2 tk bs n ms} e rd k => by
    cases rd
    exact ⟨.int (mxI mx n ms), H, I.kept k, ⟨_, rfl⟩, h1 n ms e⟩
  have nse : ns.map PyData.int = [] → ns = [] := fun e => by cases ns with
    | nil => rfl
    | cons n ms => cases e
  rcases hs with hs | hs
  · obtain ⟨its, rv, pl, hz⟩ := I.tuple hs
    have ra : ReadsAll s.heap its.toArray.toList (ns.map PyData.int) [] := by simpa using reads_ints rv
    cases mx with
    | true =>
      refine PySem.W.max_tuple_default hd (isTuple_of pl) ra (alike_ints ns) (by omega) (fun e h' tk k => empty (nse e) k) fun y ys i v h' tk bs e hv rd k => ?_
      cases ns with
      | nil => cases e
      | cons n ms =>
        cases e
        rw [PySem.W.maxD_ints] at rd
        exact full (y := .none) (ys := []) rfl rd k
    | false =>
      refine PySem.W.min_tuple_default hd (isTuple_of pl) ra (alike_ints ns) (by omega) (fun e h' tk k => empty (nse e) k) fun y ys i v h' tk bs e hv rd k => ?_
      cases ns with
      | nil => cases e
      | cons n ms =>
        cases e
        rw [PySem.W.minD_ints] at rd
        exact full (y := .none) (ys := []) rfl rd k
  · obtain ⟨its, rv, pl, hz⟩ := I.list hs
    have ra : ReadsAll s.heap its.toArray.toList (ns.map PyData.int) [] := by simpa using reads_ints rv
    cases mx with
    | true =>
      refine PySem.W.max_list_default hd pl.isList ra (alike_ints ns) (by omega) (fun e h' tk k => empty (nse e) k) fun y ys i v h' tk bs e hv rd k => ?_
      cases ns with
      | nil => cases e
      | cons n ms =>
        cases e
        rw [PySem.W.maxD_ints] at rd
        exact full (y := .none) (ys := []) rfl rd k
    | false =>
      refine PySem.W.min_list_default hd pl.isList ra (alike_ints ns) (by omega) (fun e h' tk k => empty (nse e) k) fun y ys i v h' tk bs e hv rd k => ?_
      cases ns with
      | nil => cases e
      | cons n ms =>
        cases e
        rw [PySem.W.minD_ints] at rd
        exact full (y := .none) (ys := []) rfl rd k
/-! rows sorted -/
def encT (t : List Int) : PyData := .tuple (t.map PyData.int)
theorem ltL_dec : ∀ a b : List Int, ltL a b = decide (a < b)
  | [], [] => by simp [ltL]
  | [], y :: ys => by simp [ltL]
  | x :: xs, [] => by simp [ltL]
  | x :: xs, y :: ys => by
    rw [ltL, ltL_dec xs ys]
    by_cases h : x = y
    · subst h; simp [List.cons_lt_cons_iff]
    · simp [List.cons_lt_cons_iff, h]
theorem le_enc : PySem.W.dataLe false encT = fun a b => !ltL b a := by
  funext a b
  show (!PySem.W.dataLt (encT b) (encT a)) = _
  unfold encT
  rw [PySem.W.dataLt_tuple, ltL_dec, ← PySem.W.dataLt_ints]
  rfl
theorem ltL_anti : ∀ a b : List Int, ltL a b = false → ltL b a = false → a = b
  | [], [], _, _ => rfl
  | [], y :: ys, h, _ => by simp [ltL] at h
  | x :: xs, [], _, h => by simp [ltL] at h
  | x :: xs, y :: ys, h1, h2 => by
    simp only [ltL] at h1 h2
    by_cases h : x = y
    · subst h
      rw [if_pos rfl] at h1 h2
      rw [ltL_anti xs ys h1 h2]
    · rw [if_neg h] at h1
      rw [if_neg (Ne.symm h)] at h2
      simp at h1 h2
      omega
theorem insT_perm (x : List Int) : ∀ l : List (List Int), (insT x l).Perm (x :: l)
  | [] => .refl _
  | y :: ys => by
    unfold insT
    split
    · exact ((insT_perm x ys).cons y).trans (.swap x y ys)
    · exact .refl _
theorem sortT_perm : ∀ l : List (List Int), (sortT l).Perm l
  | [] => .refl _
  | x :: xs => (insT_perm x (sortT xs)).trans ((sortT_perm xs).cons x)
theorem leT_trans : ∀ a b c : List Int, ltL b a = false → ltL c b = false → ltL c a = false
  | [], _, c, _, _ => by cases c <;> rfl
  | x :: xs, [], c, h, _ => by simp [ltL] at h
  | x :: xs, y :: ys, [], _, h => by simp [ltL] at h
  | x :: xs, y :: ys, z :: zs, h1, h2 => by
    simp only [ltL] at h1 h2 ⊢
    by_cases e1 : y = x
    · subst e1
      rw [if_pos rfl] at h1
      by_cases e2 : z = y
      · subst e2
        rw [if_pos rfl] at h2 ⊢
        exact leT_trans xs ys zs h1 h2
      · rw [if_neg e2] at h2 ⊢
        exact h2
    · rw [if_neg e1] at h1
      simp at h1
      by_cases e2 : z = y
      · subst e2
        rw [if_neg e1]
        simpa using h1
      · rw [if_neg e2] at h2
        simp at h2
        rw [if_neg (by omega)]
        simp
        omega
theorem leT_total : ∀ a b : List Int, ltL b a = false ∨ ltL a b = false
  | [], b => .inl (by cases b <;> rfl)
  | x :: xs, [] => .inr rfl
  | x :: xs, y :: ys => by
    simp only [ltL]
    by_cases e : x = y
    · subst e
      rw [if_pos rfl, if_pos rfl]
      exact leT_total xs ys
    · rw [if_neg e, if_neg (Ne.symm e)]
      simp
      omega
theorem insT_pw (x : List Int) : ∀ l : List (List Int), l.Pairwise (fun a b => ltL b a = false) → (insT x l).Pairwise (fun a b => ltL b a = false)
  | [], _ => by simp [insT]
  | y :: ys, h => by
    unfold insT
    rw [List.pairwise_cons] at h
    split
    · rename_i c
      rw [List.pairwise_cons]
      refine ⟨fun z hz => ?_, insT_pw x ys h.2⟩
      rcases List.mem_cons.mp ((insT_perm x ys).mem_iff.mp hz) with rfl | hz
      · rcases leT_total y z with q | q
        · exact q
        · rw [c] at q; cases q
      · exact h.1 z hz
    · rename_i c
      have c : ltL y x = false := by simpa using c
      rw [List.pairwise_cons]
      refine ⟨fun z hz => ?_, List.pairwise_cons.mpr h⟩
      rcases List.mem_cons.mp hz with rfl | hz
      · exact c
      · exact leT_trans _ _ _ c (h.1 z hz)
theorem sortT_pw : ∀ l : List (List Int), (sortT l).Pairwise (fun a b => ltL b a = false)
  | [] => .nil
  | x :: xs => insT_pw x _ (sortT_pw xs)
theorem sortT_ms (l : List (List Int)) : l.mergeSort (PySem.W.dataLe false encT) = sortT l := by
  rw [le_enc]
  have h1 : (l.mergeSort fun a b => !ltL b a).Pairwise (fun a b => ltL b a = false) := by
    have := List.pairwise_mergeSort (le := fun a b => !ltL b a) (fun a b c q1 q2 => by
      simp only [Bool.not_eq_true'] at q1 q2 ⊢
      exact leT_trans a b c q1 q2) (fun a b => by
      rcases leT_total a b with q | q <;> simp [q]) l
    exact this.imp fun {a b} q => by simpa using q
  exact List.Perm.eq_of_pairwise (fun a b _ _ q1 q2 => ltL_anti a b q2 q1) h1 (sortT_pw l) ((List.mergeSort_perm l _).trans (sortT_perm l).symm)
theorem itups_spec : ∀ {ds : List D} {ts : List (List Int)}, itups? ds = some ts → ds = ts.map tupD
  | [], ts, h => by simp only [itups?, Option.some.injEq] at h; subst h; rfl
  | d :: ds, ts, h => by
    simp only [itups?] at h
    split at h
    · rename_i xs r h1
      obtain ⟨ns, h2, rfl⟩ := Option.map_eq_some_iff.mp h
      rw [itups_spec h1, ints_spec h2]
      rfl
    · cases h
theorem toPys_ints : ∀ t : List Int, toPys (t.map D.int) = t.map PyData.int
  | [] => by simp [toPys]
  | n :: t => by simp only [List.map_cons, toPys, toPy, toPys_ints t]
theorem plains_ints8 (n : Nat) : ∀ t : List Int, D.plains n (t.map D.int) = true
  | [] => by simp [D.plains]
  | x :: t => by simp [D.plains, D.plain, plains_ints8 n t]
theorem enc_tup (t : List Int) : toPy (tupD t) = encT t := by
  simp only [tupD, toPy, toPys_ints, encT]
theorem plain_tup (t : List Int) : D.plain 8 (tupD t) = true := by
  simp only [tupD, D.plain, plains_ints8]
theorem enc_depth (t : List Int) : (encT t).depth = 1 := by
  simp only [encT, PyData.depth, depth_ints]
def RowR (P : RP) (L : Addr → Prop) (H : Hp) (v : Value) (t : List Int) : Prop := ∃ x : V, RelV x v ∧ Rep P L H (tupD t) x
theorem each_row {L : Addr → Prop} {H : Hp} : ∀ {ts : List (List Int)} {vs : List V} {its : List Value}, Reps P L H (ts.map tupD) vs → Vals vs its → PySem.W.EachIs (RowR P L H) its ts
  | [], vs, its, r, rv => by
    have : vs = [] := by have := r.length; simpa using this.symm
    subst this
    cases rv
    exact .nil
  | t :: ts, vs, its, r, rv => by
    rw [List.map_cons] at r
    unfold Reps at r
    obtain ⟨v, w, rfl, h1, h2⟩ := r
    cases rv with
    | cons q qs => exact .cons ⟨v, q, h1⟩ (each_row h2 qs)
theorem row_each {L : Addr → Prop} {H : Hp} : ∀ {ts : List (List Int)} {out : List Value}, PySem.W.EachIs (RowR P L H) out ts → ∃ ys : List V, Vals ys out ∧ Reps P L H (ts.map tupD) ys
  | _, _, .nil => ⟨[], .nil, Reps.nil⟩
  | _, _, .cons (b := t) ⟨x, q, h⟩ r => by
    obtain ⟨ys, h1, h2⟩ := row_each r
    exact ⟨x :: ys, .cons q h1, by rw [List.map_cons]; exact Reps.cons h h2⟩
theorem alike_rows (ts : List (List Int)) : PySem.W.AllAlike (ts.map encT) := by
  have key : ∀ a b : List Int, PySem.W.alikeAll (a.map PyData.int) (b.map PyData.int) = true := fun a => by
    induction a with
    | nil => intro b; cases b <;> rfl
    | cons x xs ih =>
      intro b
      cases b with
      | nil => rfl
      | cons y ys =>
        simp only [List.map_cons, PySem.W.alikeAll, PySem.W.alike, ih ys, Bool.and_self]
  intro d hd d' hd'
  obtain ⟨a, _, rfl⟩ := List.mem_map.mp hd
  obtain ⟨b, _, rfl⟩ := List.mem_map.mp hd'
  simp only [encT, PySem.W.alike]
  exact key a b
theorem perm_le1 {α : Type} : ∀ {l m : List α}, l.length ≤ 1 → m.Perm l → m = l
  | [], _, _, p => p.eq_nil
  | [_], _, _, p => List.perm_singleton.mp p
  | _ :: _ :: _, _, h, _ => absurd h (by simp)
theorem sort_le1 : ∀ {l : List (List Int)}, l.length ≤ 1 → sortT l = l
  | [], _ => rfl
  | [_], _ => rfl
  | _ :: _ :: _, h => absurd h (by simp)
def encL (t : List Int) : PyData := .list (t.map PyData.int)
theorem le_encL : PySem.W.dataLe false encL = fun a b => !ltL b a := by
  funext a b
  show (!PySem.W.dataLt (encL b) (encL a)) = _
  unfold encL
  rw [PySem.W.dataLt_list, ltL_dec, ← PySem.W.dataLt_ints]
  rfl
theorem sortT_msL (l : List (List Int)) : l.mergeSort (PySem.W.dataLe false encL) = sortT l := by
  rw [le_encL]
  have h1 : (l.mergeSort fun a b => !ltL b a).Pairwise (fun a b => ltL b a = false) := by
    have := List.pairwise_mergeSort (le := fun a b => !ltL b a) (fun a b c q1 q2 => by
      simp only [Bool.not_eq_true'] at q1 q2 ⊢
      exact leT_trans a b c q1 q2) (fun a b => by
      rcases leT_total a b with q | q <;> simp [q]) l
    exact this.imp fun {a b} q => by simpa using q
  exact List.Perm.eq_of_pairwise (fun a b _ _ q1 q2 => ltL_anti a b q2 q1) h1 (sortT_pw l) ((List.mergeSort_perm l _).trans (sortT_perm l).symm)
theorem ilsts_spec : ∀ {ds : List D} {ts : List (List Int)}, ilsts? ds = some ts → ds = ts.map lstD
  | [], ts, h => by simp only [ilsts?, Option.some.injEq] at h; subst h; rfl
  | d :: ds, ts, h => by
    simp only [ilsts?] at h
    split at h
    · rename_i xs r h1
      obtain ⟨ns, h2, rfl⟩ := Option.map_eq_some_iff.mp h
      rw [ilsts_spec h1, ints_spec h2]
      rfl
    · cases h
theorem enc_lst (t : List Int) : toPy (lstD t) = encL t := by
  simp only [lstD, toPy, toPys_ints, encL]
theorem plain_lst (t : List Int) : D.plain 8 (lstD t) = true := by
  simp only [lstD, D.plain, plains_ints8]
theorem enc_depthL (t : List Int) : (encL t).depth = 1 := by
  simp only [encL, PyData.depth, depth_ints]
def RowL (P : RP) (L : Addr → Prop) (H : Hp) (v : Value) (t : List Int) : Prop := ∃ x : V, RelV x v ∧ Rep P L H (lstD t) x
theorem each_rowL {L : Addr → Prop} {H : Hp} : ∀ {ts : List (List Int)} {vs : List V} {its : List Value}, Reps P L H (ts.map lstD) vs → Vals vs its → PySem.W.EachIs (RowL P L H) its ts
  | [], vs, its, r, rv => by
    have : vs = [] := by have := r.length; simpa using this.symm
    subst this
    cases rv
    exact .nil
  | t :: ts, vs, its, r, rv => by
    rw [List.map_cons] at r
    unfold Reps at r
    obtain ⟨v, w, rfl, h1, h2⟩ := r
    cases rv with
    | cons q qs => exact .cons ⟨v, q, h1⟩ (each_rowL h2 qs)
theorem row_eachL {L : Addr → Prop} {H : Hp} : ∀ {ts : List (List Int)} {out : List Value}, PySem.W.EachIs (RowL P L H) out ts → ∃ ys : List V, Vals ys out ∧ Reps P L H (ts.map lstD) ys
  | _, _, .nil => ⟨[], .nil, Reps.nil⟩
  | _, _, .cons (b := t) ⟨x, q, h⟩ r => by
    obtain ⟨ys, h1, h2⟩ := row_eachL r
    exact ⟨x :: ys, .cons q h1, by rw [List.map_cons]; exact Reps.cons h h2⟩
theorem alike_rowsL (ts : List (List Int)) : PySem.W.AllAlike (ts.map encL) := by
  have key : ∀ a b : List Int, PySem.W.alikeAll (a.map PyData.int) (b.map PyData.int) = true := fun a => by
    induction a with
    | nil => intro b; cases b <;> rfl
    | cons x xs ih =>
      intro b
      cases b with
      | nil => rfl
      | cons y ys =>
        simp only [List.map_cons, PySem.W.alikeAll, PySem.W.alike, ih ys, Bool.and_self]
  intro d hd d' hd'
  obtain ⟨a, _, rfl⟩ := List.mem_map.mp hd
  obtain ⟨b, _, rfl⟩ := List.mem_map.mp hd'
  simp only [encL, PySem.W.alike]
  exact key a b
theorem c_sorted (hK : P.K = X.K) (hu : X.A.units + 65 < cLine) : CallR X (.builtin "sorted") (r1 P (ap1 .sorted)) := by
  intro pins s σ H xs us Q I r h
  obtain ⟨x, rfl, L, d, r', hL, hd, hf, q⟩ := h
  cases d <;> first | (exfalso; revert hf; simp [ap1]; done) | skip
  rename_i ds
  obtain ⟨a, vs, rfl, t, rr⟩ := hd
  simp only [ap1] at hf
  split at hf
  · rename_i ns h1
    cases hf
    obtain rfl := ints_spec h1
    obtain rfl := rr.ints
    refine cr_sortedI pins s σ H _ us Q I r ⟨a, ns, rfl, SqL.of t, fun ns' p pm pw hp => ?_⟩
    rw [sortS_is pm pw]
    exact q _ _ (.lst hp (Reps.of_ints _))
  · split at hf
    · rename_i ts h1
      split at hf
      · rename_i hk
        cases hf
        obtain rfl := itups_spec h1
        obtain ⟨its, rv, hl, hz⟩ := I.list (SqL.of (K := X.K) t)
        rw [Vals.ref1 r]
        have e := each_row rr rv
        -- the end, of any values that stand for the sorted rows
        have fin : ∀ out : List Value, PySem.W.EachIs (RowR P L H) out (sortT ts) → EP X pins σ Q (.ref (s.heap.objs.size + 1)) { s with heap := PyProof.Rows.sortedAll s.heap its out.toArray } := fun out eo => by
          obtain ⟨ys, h2, h3⟩ := row_each eo
          obtain ⟨ep, he'⟩ := PyProof.Rows.sortedAll_at s.heap its out.toArray
          have hlen : ys.length ≤ sizeLine := by
            have l1 := h3.length
            rw [List.length_map, (sortT_perm ts).length_eq] at l1
            have l2 := rr.length
            rw [List.length_map] at l2
            omega
          exact ⟨.ref _, upd H (s.heap.objs.size + 1) (.lst ys), I.laid (t' := s.toks) (fun _ _ => PyProof.Rows.sortedAll_old) (Nat.le_succ _) ⟨hlen, out, ep, h2, he'⟩, rfl, q _ _ (.lst (I.hok.fresh (Nat.le_succ _)) h3)⟩
        by_cases hall : ts.all (fun t => !t.isEmpty) = true
        · have er : PySem.W.EachIs (fun v b => ∃ as, Reads s.heap v (encT b) as) its ts := e.mono fun v b ⟨y, q1, q2⟩ => by
            have := Dp.reads I (toPy (tupD b)) y v (hK ▸ rep_dp 8 _ y (plain_tup b) q2) q1
            rwa [enc_tup] at this
          refine PySem.W.sorted_data hl.isList e er (alike_rows ts) (.inl fun d hd => ?_) (by rw [← e.length, ← rv.length]; exact hz) (fun b _ => by rw [enc_depth]; omega) fun out _ eo => ?_
          · obtain ⟨b, hb, rfl⟩ := List.mem_map.mp hd
            have := List.all_eq_true.mp hall b hb
            cases b with
            | nil => simp at this
            | cons n ms => exact ⟨_, _, rfl⟩
          · rw [sortT_ms] at eo
            exact fin out eo
        · have h1 : ts.length ≤ 1 := by
            unfold srtOk at hk
            simp only [Bool.or_eq_true, decide_eq_true_eq] at hk
            rcases hk with hk | hk
            · exact absurd hk hall
            · exact hk
          refine Srt.sorted_any hl.isList (by rw [← rv.length]; exact hz) (fun h2 => ?_) fun out ho => ?_
          · rw [e.length] at h2; omega
          · have hout : out = its := perm_le1 (by rw [e.length]; exact h1) ho
            subst hout
            have ets : sortT ts = ts := sort_le1 h1
            exact fin out (by rw [ets]; exact e)
      · cases hf
    · split at hf
      · rename_i ts h1
        cases hf
        obtain rfl := ilsts_spec h1
        obtain ⟨its, rv, hl, hz⟩ := I.list (SqL.of (K := X.K) t)
        rw [Vals.ref1 r]
        have e := each_rowL rr rv
        have er : PySem.W.EachIs (fun v b => ∃ as, Reads s.heap v (encL b) as) its ts := e.mono fun v b ⟨y, q1, q2⟩ => by
          have := Dp.reads I (toPy (lstD b)) y v (hK ▸ rep_dp 8 _ y (plain_lst b) q2) q1
          rwa [enc_lst] at this
        refine PySem.W.sorted_data hl.isList e er (alike_rowsL ts) (.inr fun d hd => ?_) (by rw [← e.length, ← rv.length]; exact hz) (fun b _ => by rw [enc_depthL]; omega) fun out _ eo => ?_
        · obtain ⟨b, hb, rfl⟩ := List.mem_map.mp hd
          exact ⟨(fun z => nomatch z), (fun xs z => nomatch z)⟩
        · rw [sortT_msL] at eo
          obtain ⟨ys, h2, h3⟩ := row_eachL eo
          obtain ⟨ep, he'⟩ := PyProof.Rows.sortedAll_at s.heap its out.toArray
          have hlen : ys.length ≤ sizeLine := by
            have l1 := h3.length
            rw [List.length_map, (sortT_perm ts).length_eq] at l1
            have l2 := rr.length
            rw [List.length_map] at l2
            omega
          exact ⟨.ref _, upd H (s.heap.objs.size + 1) (.lst ys), I.laid (t' := s.toks) (fun _ _ => PyProof.Rows.sortedAll_old) (Nat.le_succ _) ⟨hlen, out, ep, h2, he'⟩, rfl, q _ _ (.lst (I.hok.fresh (Nat.le_succ _)) h3)⟩
      · cases hf
theorem u_neg : UnR X (unaryOp .USub) (rD1 P (ap1 .neg)) := by
  intro pins s σ H x v Q I r h
  obtain ⟨L, d, r', hL, hd, hf, q⟩ := h
  cases d <;> first | (exfalso; revert hf; simp [ap1]; done) | skip
  simp only [ap1, Option.some.injEq] at hf
  subst hf
  exact un_neg pins s σ H x v Q I r ⟨_, int_of hd, q _ _ (.val rep_int)⟩
/-- isinstance(x, T) -/
def tyN : Ty → String
  | .int => "int" | .bool => "bool" | .list => "list" | .tuple => "tuple" | .str => "str"
def rIsD (P : RP) (t : Ty) : List V → Hp → VK → Prop := fun xs H Q => ∃ x, xs = [x, .ty (tyN t)] ∧ rD1 P (ap1 (.isi t)) x H Q
theorem kit_all (t : Ty) : kitB "NoneType" (tyN t) = some false ∧ kitB "bool" (tyN t) = some (decide (t = .int) || decide (t = .bool)) ∧ kitB "int" (tyN t) = some (decide (t = .int)) ∧ kitB "str" (tyN t) = some (decide (t = .str)) ∧
    kitB "list" (tyN t) = some (decide (t = .list)) ∧ kitB "tuple" (tyN t) = some (decide (t = .tuple)) := by
  cases t <;> decide +kernel
theorem c_isi (hK : P.K = X.K) (t : Ty) : CallR X (.builtin "isinstance") (rIsD P t) := by
  intro pins s σ H xs us Q I r h
  obtain ⟨x, rfl, L, d, r', hL, hd, hf, q⟩ := h
  have k := kit_all t
  have hf : (if noIns d then some (R.val (.bl (isTy t d))) else none) = some r' := hf
  split at hf
  · rename_i hn
    cases hf
    have fin : ∀ (tv : Value) (b : Bool), TyX X.K H x tv → PySem.W.kitOne X.K tv (.type (tyN t)) = some b → b = isTy t d → wpAny (model X.prog X.w) X.A (call (.builtin "isinstance") us) (EP X pins σ Q) X.xe s := fun tv b ht hk e => by
      refine call_isi pins s σ H _ us Q I r ⟨x, .ty (tyN t), tv, .type (tyN t), b, rfl, .ty _, ht, hk, ?_⟩
      subst e
      exact q _ _ (.val rep_bl)
    cases d with
    | non =>
      obtain rfl := non_of hd
      exact fin _ _ (.base .non) (kit_ty k.1) (by cases t <;> rfl)
    | bl b =>
      obtain rfl := bl_of hd
      exact fin _ _ (.base (.bl _)) (kit_ty k.2.1) (by cases t <;> rfl)
    | int i =>
      obtain rfl := int_of hd
      exact fin _ _ (.base (.int _)) (kit_ty k.2.2.1) (by cases t <;> rfl)
    | str y =>
      have : Rep P L H (.str y) x := hd
      unfold Rep at this
      subst this
      exact fin _ _ (.base (.str _)) (kit_ty k.2.2.2.1) (by cases t <;> rfl)
    | lst ds =>
      obtain ⟨a, vs, rfl, ta, _⟩ := hd
      exact fin _ _ (.base (.lst ta)) (kit_ty k.2.2.2.2.1) (by cases t <;> rfl)
    | tup ds =>
      obtain ⟨a, vs, rfl, ta, _⟩ := tup_of hd
      rcases ta with ⟨ta, _⟩ | ta
      · exact fin _ _ (.base (.tup ta)) (kit_ty k.2.2.2.2.2) (by cases t <;> rfl)
      · rcases ta with (z | ⟨_, z⟩) | ⟨o, its, n, e1, e2, e3, _⟩
        · cases z
        · cases z
        · exact fin _ _ (.kTuple (hK ▸ e1) e2) (kit_ty k.2.2.2.2.2) (by cases t <;> rfl)
    | ins c fs => cases hn
  · cases hf

/-! the rest of the two-place operations -/
theorem d_is : OpR X (compareOp .Is) (rD2 P (ap2 .is)) := by
  intro pins s σ H x y v u Q I rx ry h
  obtain ⟨L, d, e, r, hL, hd, he, hf, q⟩ := h
  cases e <;> first | (exfalso; revert hf; simp [ap2]; done) | skip
  · obtain rfl := non_of he
    simp only [ap2, Option.some.injEq] at hf
    subst hf
    refine op_isN pins s σ H x .non v u Q I rx ry ⟨rfl, ?_⟩
    have e : decide (x = V.non) = isNon d := by
      cases d with
      | non => rw [non_of hd]; rfl
      | bl b => rw [bl_of hd]; rfl
      | int b => rw [int_of hd]; rfl
      | str b =>
        have : Rep P L H (.str b) x := hd
        unfold Rep at this
        rw [this]; rfl
      | tup ds => obtain ⟨a, vs, rfl, _⟩ := tup_of hd; rfl
      | lst ds => obtain ⟨a, vs, rfl, _⟩ := hd; rfl
      | ins c fs =>
        have : Rep P L H (.ins c fs) x := hd
        unfold Rep at this
        obtain ⟨a, dx, vs, rfl, _⟩ := this; rfl
    rw [e]
    exact q _ _ (.val rep_bl)
  · cases d <;> first | (exfalso; revert hf; simp [ap2]; done) | skip
    rename_i b c
    simp only [ap2, Option.some.injEq] at hf
    subst hf
    refine op_isBl pins s σ H x y v u Q I rx ry ⟨c, b, bl_of hd, bl_of he, ?_⟩
    have e : decide (c = b) = (c == b) := by cases b <;> cases c <;> rfl
    rw [e]
    exact q _ _ (.val rep_bl)
theorem d_isnot : OpR X (compareOp .IsNot) (rD2 P (ap2 .isnot)) := by
  intro pins s σ H x y v u Q I rx ry h
  obtain ⟨L, d, e, r, hL, hd, he, hf, q⟩ := h
  cases e <;> first | (exfalso; revert hf; simp [ap2]; done) | skip
  · obtain rfl := non_of he
    simp only [ap2, Option.some.injEq] at hf
    subst hf
    refine op_notN pins s σ H x .non v u Q I rx ry ⟨rfl, ?_⟩
    have e : (!decide (x = V.non)) = (!isNon d) := by
      cases d with
      | non => rw [non_of hd]; rfl
      | bl b => rw [bl_of hd]; rfl
      | int b => rw [int_of hd]; rfl
      | str b =>
        have : Rep P L H (.str b) x := hd
        unfold Rep at this
        rw [this]; rfl
      | tup ds => obtain ⟨a, vs, rfl, _⟩ := tup_of hd; rfl
      | lst ds => obtain ⟨a, vs, rfl, _⟩ := hd; rfl
      | ins c fs =>
        have : Rep P L H (.ins c fs) x := hd
        unfold Rep at this
        obtain ⟨a, dx, vs, rfl, _⟩ := this; rfl
    rw [e]
    exact q _ _ (.val rep_bl)
  · cases d <;> first | (exfalso; revert hf; simp [ap2]; done) | skip
    rename_i b c
    simp only [ap2, Option.some.injEq] at hf
    subst hf
    refine op_notBl pins s σ H x y v u Q I rx ry ⟨c, b, bl_of hd, bl_of he, ?_⟩
    have e : decide (c = b) = (c == b) := by cases b <;> cases c <;> rfl
    rw [e]
    exact q _ _ (.val rep_bl)
def cmpOf : O2 → Option CmpOp
  | .eq => some .Eq | .ne => some .NotEq | .lt => some .Lt | .le => some .LtE | .gt => some .Gt | .ge => some .GtE
  | .isin => some .In | .notin => some .NotIn | .is => some .Is | .isnot => some .IsNot
  | _ => none
theorem d_cmp (hK : P.K = X.K) (hu : X.A.units + 65 < cLine) {o : O2} {op : CmpOp} (h : cmpOf o = some op) : OpR X (compareOp op) (rD2 P (ap2 o)) := by
  cases o <;> simp only [cmpOf, reduceCtorEq, Option.some.injEq] at h <;> subst h
  · exact d_eq hK (by omega)
  · exact d_ne hK (by omega)
  · exact d_lt hK (by omega)
  · exact d_cmpI op_le
  · exact d_cmpI op_gt
  · exact d_cmpI op_ge
  · exact d_in hK hu
  · exact d_notin hK hu
  · exact d_is
  · exact d_isnot
theorem seqAt_atI {ds : List D} {vs : List V} {i : Int} {d : D} (r : Reps P L H ds vs) (h : seqAt ds i = some d) : ∃ v, atI vs i = some v ∧ Rep P L H d v := by
  have hl := r.length
  unfold seqAt at h
  unfold atI ixN
  split at h
  · rename_i h0
    obtain ⟨v, e, rv⟩ := r.get h
    have hlt : i.toNat < vs.length := (List.getElem?_eq_some_iff.mp e).1
    rw [if_pos h0, if_pos (by omega)]
    exact ⟨v, e, rv⟩
  · rename_i h0
    split at h
    · rename_i h1
      rw [hl] at h
      obtain ⟨v, e, rv⟩ := r.get h
      rw [if_neg h0, if_pos (by omega)]
      exact ⟨v, e, rv⟩
    · cases h
theorem d_ix (hK : P.K = X.K) : IxR X (rD2 P (ap2 .ix)) := by
  intro val sli pins s σ H x y v u Q I rx ry h hs
  obtain ⟨L, d, e, r, hL, hd, he, hf, q⟩ := h
  cases d <;> first | (exfalso; revert hf; simp [ap2]; done) | skip
  · cases e <;> first | (exfalso; revert hf; simp [ap2]; done) | skip
    obtain ⟨a, vs, rfl, t, rr⟩ := tup_of hd
    obtain ⟨d', h1, rfl⟩ := Option.map_eq_some_iff.mp (show _ = some r from hf)
    obtain ⟨w, h2, h3⟩ := seqAt_atI rr h1
    exact ix_tup val sli pins s σ H _ y v u Q I rx ry ⟨a, vs, _, w, rfl, int_of he, hK ▸ t.sq, h2, q _ _ (.val h3)⟩ hs
  · cases e <;> first | (exfalso; revert hf; simp [ap2]; done) | skip
    obtain ⟨a, vs, rfl, t, rr⟩ := hd
    obtain ⟨d', h1, rfl⟩ := Option.map_eq_some_iff.mp (show _ = some r from hf)
    obtain ⟨w, h2, h3⟩ := seqAt_atI rr h1
    exact ix_list val sli pins s σ H _ y v u Q I rx ry ⟨a, vs, _, w, rfl, int_of he, SqL.of t, h2, q _ _ (.val h3)⟩ hs
/-- slices -/
theorem cutD_V {ds : List D} {vs : List V} (r : Reps P L H ds vs) (lo hi : Option Int) : Reps P L H (cutD ds lo hi) (cutV vs lo hi) := by
  unfold cutD cutV
  rw [r.length]
  exact (r.drop _).take _
def rSlD (P : RP) : V → Option Int → Option Int → Hp → VK → Prop := fun x lo hi H Q => ∃ (L : Addr → Prop) (d : D) (r : R), (∀ b, L b → ∃ o, H b = some o) ∧ RepW P L H d x ∧ apSl d lo hi = some r ∧ ∀ v H', OpPost P L H r v H' → Q v H'
theorem d_sl (hK : P.K = X.K) : SlR X (rSlD P) := by
  intro pins s σ H x v vl vu lo hi sl Q I rx hs pl pu h
  obtain ⟨L, d, r, hL, hd, hf, q⟩ := h
  cases d <;> first | (exfalso; revert hf; simp [apSl]; done) | skip
  · obtain ⟨a, vs, rfl, t, rr⟩ := tup_of hd
    simp only [apSl, Option.some.injEq] at hf
    subst hf
    refine sl_tupA pins s σ H _ v vl vu lo hi sl Q I rx hs pl pu ⟨a, vs, rfl, hK ▸ t.sq, fun hw => ?_, fun _ p hp => q _ _ (.tup hL hp (cutD_V rr lo hi))⟩
    rename_i ds
    have e : cutD ds lo hi = ds := by
      unfold cutD
      rw [rr.length, hw.1, hw.2, List.drop_zero, Nat.sub_zero, ← rr.length, List.take_length]
    rw [e] at q
    exact q _ _ (.val hd)
  · obtain ⟨a, vs, rfl, t, rr⟩ := hd
    simp only [apSl, Option.some.injEq] at hf
    subst hf
    exact sl_list pins s σ H _ v vl vu lo hi sl Q I rx hs pl pu ⟨a, vs, rfl, SqL.of t, fun p hp => q _ _ (.lst hp (cutD_V rr lo hi))⟩
/-- truth -/
theorem truth_V (hK : P.K = X.K) {d : D} {x : V} {k : Bool} (hd : RepW P L H d x) (h : truth d = some k) : TruV X.K x H k := by
  cases d <;> simp only [truth, reduceCtorEq, Option.some.injEq] at h
  · rw [non_of hd]; exact h.symm
  · rw [bl_of hd]; exact h.symm
  · rw [int_of hd]; exact h.symm
  · obtain ⟨a, vs, rfl, t, rr⟩ := tup_of hd
    refine .inr (.inl ⟨vs, hK ▸ t.sq, ?_⟩)
    rw [← h]
    have := rr.length
    cases vs <;> cases ‹List D› <;> simp_all
  · obtain ⟨a, vs, rfl, t, rr⟩ := hd
    refine .inl ⟨vs, SqL.of t, ?_⟩
    rw [← h]
    have := rr.length
    cases vs <;> cases ‹List D› <;> simp_all
end
section
variable {X : Cx} {P : RP}
/-- two arguments -/
def r2c (P : RP) (f : D → D → Option R) : List V → Hp → VK → Prop := fun xs H Q => ∃ x y, xs = [x, y] ∧ rD2 P f x y H Q
theorem c_max2 (hc : X.calm = true) : CallR X (.builtin "max") (r2c P (ap2 .max2)) := by
  intro pins s σ H xs us Q I r h
  obtain ⟨x, y, rfl, L, d, e, r', hL, hd, he, hf, q⟩ := h
  cases d <;> cases e <;> first | (exfalso; revert hf; simp [ap2]; done) | skip
  simp only [ap2, Option.some.injEq] at hf
  subst hf
  exact call_max2 hc pins s σ H _ us Q I r ⟨_, _, by rw [int_of hd, int_of he], q _ _ (.val rep_int)⟩
theorem c_min2 (hc : X.calm = true) : CallR X (.builtin "min") (r2c P (ap2 .min2)) := by
  intro pins s σ H xs us Q I r h
  obtain ⟨x, y, rfl, L, d, e, r', hL, hd, he, hf, q⟩ := h
  cases d <;> cases e <;> first | (exfalso; revert hf; simp [ap2]; done) | skip
  simp only [ap2, Option.some.injEq] at hf
  subst hf
  exact call_min2 hc pins s σ H _ us Q I r ⟨_, _, by rw [int_of hd, int_of he], q _ _ (.val rep_int)⟩
theorem c_dmod : CallR X (.builtin "divmod") (r2c P (ap2 .dmod)) := by
  intro pins s σ H xs us Q I r h
  obtain ⟨x, y, rfl, L, d, e, r', hL, hd, he, hf, q⟩ := h
  cases d <;> cases e <;> first | (exfalso; revert hf; simp [ap2]; done) | skip
  rename_i i j
  simp only [ap2] at hf
  split at hf
  · rename_i c
    cases hf
    unfold fdivOk at c
    simp only [Bool.and_eq_true, decide_eq_true_eq] at c
    refine call_divmodW pins s σ H _ us Q I r ⟨i, j, by rw [int_of hd, int_of he], ⟨c.1, PyProof.noPylong_of_log2 c.2⟩, fun p hp => ?_⟩
    exact q _ _ (.tup hL hp (Reps.cons rep_int (Reps.cons rep_int Reps.nil)))
  · cases hf
end
end MP

namespace MP
open PySem PySem.Spec PyProof.Rows L2
variable {P : RP} {L L' : Addr → Prop} {H H' : Hp} {L0 : Addr → Prop} {loc loc' : Loc} {σ : Sg}

theorem _root_.L2.PE.imp {X : Cx} {e : Expr} {t t' : TE} (h : PE X e t) (w : ∀ σ H Q, t' σ H Q → t σ H Q) : PE X e t' := ⟨fun pins s σ H Q I q => h.run pins s σ H Q I (w σ H Q q)⟩
theorem _root_.L2.PT.imp {X : Cx} {e : Expr} {t t' : TT} (h : PT X e t) (w : ∀ σ H Q, t' σ H Q → t σ H Q) : PT X e t' := ⟨fun pins s σ H Q I q => h.run pins s σ H Q I (w σ H Q q)⟩
theorem _root_.L2.PW.imp {X : Cx} {e : Expr} {t t' : TT} (h : PW X e t) (w : ∀ σ H Q, t' σ H Q → t σ H Q) : PW X e t' := ⟨fun wh pins s σ H Q I q => h.run wh pins s σ H Q I (w σ H Q q)⟩
theorem _root_.L2.PA.imp {X : Cx} {e : List Expr} {t t' : TA} (h : PA X e t) (w : ∀ σ H Q, t' σ H Q → t σ H Q) : PA X e t' := ⟨fun p pins s σ H Q I q => h.run p pins s σ H Q I (w σ H Q q)⟩
theorem _root_.L2.PK.imp {X : Cx} {e : List Keyword} {t t' : TA} (h : PK X e t) (w : ∀ σ H Q, t' σ H Q → t σ H Q) : PK X e t' := ⟨fun p pins s σ H Q I q => h.run p pins s σ H Q I (w σ H Q q)⟩
theorem _root_.L2.PO.imp {X : Cx} {e : Option Expr} {t t' : TO} (h : PO X e t) (w : ∀ σ H Q, t' σ H Q → t σ H Q) : PO X e t' := ⟨fun pins s σ H Q I q => h.run pins s σ H Q I (w σ H Q q)⟩
theorem _root_.L2.PS.imp {X : Cx} {e : Stmt} {t t' : TS} (h : PS X e t) (w : ∀ D σ H, t' D σ H → t D σ H) : PS X e t' := ⟨fun pins s σ H D I q => h.run pins s σ H D I (w D σ H q)⟩
theorem _root_.L2.PSs.imp {X : Cx} {e : List Stmt} {t t' : TS} (h : PSs X e t) (w : ∀ D σ H, t' D σ H → t D σ H) : PSs X e t' := ⟨fun pins s σ H D I q => h.run pins s σ H D I (w D σ H q)⟩
theorem _root_.L2.PG.imp {X : Cx} {e : Expr} {t t' : TG} (h : PG X e t) (w : ∀ v σ H Q, t' v σ H Q → t v σ H Q) : PG X e t' := ⟨fun pins s σ H v u Q I r q => h.run pins s σ H v u Q I r (w v σ H Q q)⟩

theorem EvPost.refl {r : D} {v : V} (R : Rel P L0 loc σ H) (h : RepR P L0 loc σ H (.val r) v) : EvPost P L0 loc σ H loc (.val r) v H := ⟨R, fun _ _ e _ => e, fun _ z => z, h, fun _ o e => ⟨o, e⟩, (fun _ _ e => nomatch e), fun _ ds e => ⟨ds, e⟩, fun _ _ e _ => e⟩
theorem EvPost.reflR {i : Nat} {v : V} (R : Rel P L0 loc σ H) (h : RepR P L0 loc σ H (.ref i) v) : EvPost P L0 loc σ H loc (.ref i) v H := ⟨R, fun _ _ e _ => e, fun _ z => z, h, fun _ o e => ⟨o, e⟩, (fun _ _ e => nomatch e), fun _ ds e => ⟨ds, e⟩, fun _ _ e _ => e⟩
theorem EvPost.op {r : R} {v : V} (R : Rel P L0 loc σ H) (h : OpPost P (Lv L0 loc σ) H r v H') : EvPost P L0 loc σ H loc r v H' := by
  cases r with
  | val d =>
    obtain ⟨s, r⟩ := h
    exact ⟨R.grow s (fun b z => .inl z) fun b z => by obtain ⟨o, e⟩ := R.l0 b z; exact ⟨o, s _ _ e⟩, fun b o e _ => s b o e, fun _ z => z, r, fun b o e => ⟨o, s b o e⟩, (fun _ _ e => nomatch e), fun _ ds e => ⟨ds, e⟩, fun _ _ e _ => e⟩
  | ref i => exact h.elim
  | new ds =>
    obtain ⟨p, vs, rfl, hp, rfl, r⟩ := h
    have s : Same H (upd H p (.lst vs)) := same_upd hp
    have np : ¬ Lv L0 loc σ p := fun z => by obtain ⟨o, e⟩ := R.lv z; rw [hp] at e; cases e
    refine ⟨R.grow s (fun b z => .inl z) fun b z => by obtain ⟨o, e⟩ := R.l0 b z; exact ⟨o, s _ _ e⟩, fun b o e _ => s b o e, fun _ z => z, ⟨p, vs, rfl, upd_same, np, ?_, ?_⟩, fun b o e => ⟨o, s b o e⟩, fun _ c _ e => by cases e; exact hp, fun _ ds e => ⟨ds, e⟩, fun _ _ e _ => e⟩
    · refine Reps.keep (fun b o e _ => s b o e) (fun b z => ?_) _ _ r
      rcases z with z | rfl
      · exact .inl z
      · exact .inr hp
    · refine R.grow s (fun b z => ?_) fun b z => ?_
      · rcases z with z | rfl
        · exact .inl z
        · exact .inr hp
      · rcases z with z | rfl
        · obtain ⟨o, e⟩ := R.l0 b z; exact ⟨o, s _ _ e⟩
        · exact ⟨_, upd_same⟩
theorem res_w {r : R} {v : V} {d : D} (R : Rel P L0 loc σ H) (h : RepR P L0 loc σ H r v) (e : res loc r = some d) : RepW P (Lv L0 loc σ) H d v := by
  cases r with
  | val d' => cases e; exact Rep.w h
  | new ds =>
    cases e
    obtain ⟨a, vs, e1, h1, h2, h3, _⟩ := h
    exact ⟨a, vs, e1, h1, Reps.weak (fun b z => .inl z) h3⟩
  | ref i =>
    simp only [res] at e
    split at e
    · rename_i b ds hl
      cases e
      obtain ⟨a, vs, e1, h1, _, h3⟩ := R.own _ _ _ hl
      have h' : σ[i]? = some (some v) := h
      rw [e1] at h'
      cases h'
      exact ⟨a, vs, rfl, h1, h3⟩
    · cases e
theorem res_sett {r : R} : res loc (sett r) = res loc r := by cases r <;> rfl
theorem toVal_rep {r : R} {v : V} {d : D} (h : RepR P L0 loc σ H r v) (e : toVal r = some d) : Rep P (Lv L0 loc σ) H d v := by
  cases r with
  | val d' => cases e; exact h
  | new ds => cases e; exact h.sett
  | ref i => cases e
theorem tval_sett {r : R} {d : D} (e : toVal r = some d) : sett r = .val d := by
  cases r with
  | val d' => cases e; rfl
  | new ds => cases e; rfl
  | ref i => cases e

/-! ### two-place -/
theorem o2_read {f : D → D → Option R} {ga gb g : Loc → Option (R × Loc)} (hg : ∀ loc r loc', g loc = some (r, loc') → ∃ ra l1 rb d e, ga loc = some (ra, l1) ∧ gb l1 = some (rb, loc') ∧ res loc' (sett ra) = some d ∧ res loc' rb = some e ∧ f d e = some r)
    {Q : VK} (h : tE P g σ H Q) : tOp (rD2 P f) (tE P ga) (tE P gb) σ H Q := by
  obtain ⟨L0, loc, r, loc', R, e, k⟩ := h
  obtain ⟨ra, l1, rb, d, e', h1, h2, h3, h4, h5⟩ := hg _ _ _ e
  refine ⟨L0, loc, ra, l1, R, h1, fun x H1 p1 => ⟨L0, l1, rb, loc', p1.rel, h2, fun y H2 p2 => ⟨Lv L0 loc' σ, d, e', r, fun b z => p2.rel.lv z, res_w p2.rel (p1.rep.sett.after p2) h3, res_w p2.rel p2.rep h4, h5, fun v H' hp => ?_⟩⟩⟩
  exact k v H' ((p1.trans p2).trans (EvPost.op p2.rel hp))
theorem o1_read {f : D → Option R} {ga g : Loc → Option (R × Loc)} (hg : ∀ loc r loc', g loc = some (r, loc') → ∃ ra d, ga loc = some (ra, loc') ∧ res loc' ra = some d ∧ f d = some r)
    {Q : VK} (h : tE P g σ H Q) : tE P ga σ H fun x H1 => rD1 P f x H1 Q := by
  obtain ⟨L0, loc, r, loc', R, e, k⟩ := h
  obtain ⟨ra, d, h1, h3, h5⟩ := hg _ _ _ e
  refine ⟨L0, loc, ra, loc', R, h1, fun x H1 p1 => ⟨Lv L0 loc' σ, d, r, fun b z => p1.rel.lv z, res_w p1.rel p1.rep h3, h5, fun v H' hp => ?_⟩⟩
  exact k v H' (p1.trans (EvPost.op p1.rel hp))

/-! ### freezing a list -/
theorem getset {loc : Loc} {i j : Nat} {s t : Slot} (h : (loc.set i s)[j]? = some t) : (i = j ∧ t = s ∧ i < loc.length) ∨ (i ≠ j ∧ loc[j]? = some t) := by
  by_cases e : i = j
  · subst e
    by_cases hl : i < loc.length
    · rw [List.getElem?_set_self hl] at h; cases h; exact .inl ⟨rfl, rfl, hl⟩
    · rw [List.getElem?_eq_none (by simpa using hl)] at h; cases h
  · rw [List.getElem?_set_ne e] at h; exact .inr ⟨e, h⟩
theorem lt_of_get {α : Type} {l : List α} {i : Nat} {a : α} (h : l[i]? = some a) : i < l.length := (List.getElem?_eq_some_iff.mp h).1
/-- an own list changed or frozen, in the heap or not: what all others know stays -/
theorem Rel.change {i : Nat} {b : Bool} {ds : List D} {a : Addr} {s : Slot} {H' : Hp} (R : Rel P L0 loc σ H) (hi : loc[i]? = some (.own b ds)) (ha : σ[i]? = some (some (.ref a)))
    (hH : ∀ c o, H c = some o → c ≠ a → H' c = some o)
    (hs : (∃ b' es vs, s = .own b' es ∧ H' a = some (.lst vs) ∧ Reps P (Lv L0 loc σ) H' es vs) ∨ (∃ d, s = .dat d ∧ Rep P (fun c => Lv L0 loc σ c ∧ c ≠ a) H' d (.ref a))) : Rel P L0 (loc.set i s) σ H' := by
  obtain ⟨a', vs0, ea, h0, n0, r0⟩ := R.own _ _ _ hi
  rw [ha] at ea; cases ea
  have hil := lt_of_get hi
  have La : Lv L0 loc σ a := .inr ⟨i, b, ds, hi, ha⟩
  -- the live ones behind it are live ahead; a itself only where s is own
  have lv : ∀ c, Lv L0 (loc.set i s) σ c → Lv L0 loc σ c := fun c z => by
    rcases z with z | ⟨j, b', es, e1, e2⟩
    · exact .inl z
    · rcases getset e1 with ⟨rfl, _, _⟩ | ⟨_, e1⟩
      · rw [ha] at e2; cases e2; exact La
      · exact .inr ⟨j, b', es, e1, e2⟩
  have lva : (∃ d, s = .dat d) → ∀ c, Lv L0 (loc.set i s) σ c → c ≠ a := fun hd c z e => by
    subst e
    rcases z with z | ⟨j, b', es, e1, e2⟩
    · exact n0 z
    · rcases getset e1 with ⟨rfl, e3, _⟩ | ⟨ne, e1⟩
      · obtain ⟨d, rfl⟩ := hd; cases e3
      · exact ne (R.inj _ _ _ _ _ _ _ hi e1 ha e2)
  have kp : ∀ c o, H c = some o → ¬ Lv L0 loc σ c → H' c = some o := fun c o e n => hH c o e fun z => n (z ▸ La)
  refine ⟨by rw [List.length_set]; exact R.len, fun c z => ?_, fun j d e => ?_, fun j b' es e => ?_, fun j k b' c' es fs w e1 e2 e3 e4 => ?_, fun j ns e => ?_⟩
  · obtain ⟨o, e⟩ := R.l0 c z
    exact ⟨o, hH c o e fun q => n0 (q ▸ z)⟩
  · rcases getset e with ⟨rfl, e3, _⟩ | ⟨ne, e⟩
    · rcases hs with ⟨_, _, _, rfl, _⟩ | ⟨d', rfl, r⟩
      · cases e3
      · cases e3
        exact ⟨_, ha, Rep.weak (fun c z => ⟨lv c z, lva ⟨_, rfl⟩ c z⟩) r⟩
    · obtain ⟨v, e1, r⟩ := R.dat j d e
      exact ⟨v, e1, Rep.keep kp (fun c z => .inl (lv c z)) d v r⟩
  · rcases getset e with ⟨rfl, e3, _⟩ | ⟨ne, e⟩
    · rcases hs with ⟨b2, es2, vs, rfl, h1, r⟩ | ⟨d', rfl, r⟩
      · cases e3
        exact ⟨a, vs, ha, h1, n0, Reps.weak lv r⟩
      · cases e3
    · obtain ⟨a2, vs, e1, h1, n1, r⟩ := R.own j b' es e
      have ne2 : a2 ≠ a := fun q => by subst q; exact ne (R.inj _ _ _ _ _ _ _ hi e ha e1)
      exact ⟨a2, vs, e1, hH _ _ h1 ne2, n1, Reps.keep kp (fun c z => .inl (lv c z)) es vs r⟩
  · rcases getset e1 with ⟨rfl, _, _⟩ | ⟨_, e1⟩
    · rcases getset e2 with ⟨rfl, _, _⟩ | ⟨_, e2⟩
      · rfl
      · exact R.inj _ _ _ _ _ _ _ hi e2 e3 e4
    · rcases getset e2 with ⟨rfl, _, _⟩ | ⟨_, e2⟩
      · exact R.inj _ _ _ _ _ _ _ e1 hi e3 e4
      · exact R.inj _ _ _ _ _ _ _ e1 e2 e3 e4
  · rcases getset e with ⟨rfl, e3, _⟩ | ⟨ne, e⟩
    · rcases hs with ⟨_, _, _, rfl, _⟩ | ⟨d', rfl, r⟩ <;> cases e3
    · obtain ⟨a2, e1, h1⟩ := R.scr j ns e
      exact ⟨a2, e1, h1.keep kp fun c z => .inl (lv c z)⟩
theorem own_set {i : Nat} {b : Bool} {ds : List D} {s : Slot} (hi : loc[i]? = some (.own b ds)) : ∀ c, OwnAt (loc.set i s) σ c → OwnAt loc σ c := fun c z => by
  obtain ⟨j, b', es, e1, e2⟩ := z
  rcases getset e1 with ⟨rfl, rfl, _⟩ | ⟨_, e1⟩
  · exact ⟨i, b, ds, hi, e2⟩
  · exact ⟨j, b', es, e1, e2⟩
/-- an own list gets other items in the heap -/
theorem EvPost.mut {i : Nat} {b : Bool} {ds es : List D} {a : Addr} {vs : List V} {r : R} {v : V} (R : Rel P L0 loc σ H) (hi : loc[i]? = some (.own b ds)) (ha : σ[i]? = some (some (.ref a))) (hr : Reps P (Lv L0 loc σ) H es vs)
    (hv : ∀ d, r = .val d → Rep P (Lv L0 loc σ) H d v) (hn : ∃ d, r = .val d) : EvPost P L0 loc σ H (loc.set i (.own b es)) r v (upd H a (.lst vs)) := by
  obtain ⟨a', vs0, ea, h0, n0, r0⟩ := R.own _ _ _ hi
  rw [ha] at ea; cases ea
  have La : Lv L0 loc σ a := .inr ⟨i, b, ds, hi, ha⟩
  have kp : ∀ c o, H c = some o → ¬ Lv L0 loc σ c → (upd H a (.lst vs)) c = some o := fun c o e n => by
    rw [upd_ne (fun z => n (by rw [z]; exact La))]; exact e
  have rel := R.change (s := .own b es) (H' := upd H a (.lst vs)) hi ha (fun c o e n => by rw [upd_ne n]; exact e) (.inl ⟨b, es, vs, rfl, upd_same, Reps.keep kp (fun c z => .inl z) _ _ hr⟩)
  obtain ⟨d, rfl⟩ := hn
  refine ⟨rel, fun c o e n => ?_, own_set hi, ?_, fun c o e => ?_, (fun _ _ e => nomatch e), fun j es' e => ?_, fun j s e n => by
    by_cases z : i = j
    · subst z; rw [hi] at e; cases e; exact absurd rfl (n _ _)
    · rw [List.getElem?_set_ne z]; exact e⟩
  · rw [upd_ne (fun z => n (by rw [z]; exact ⟨i, b, ds, hi, ha⟩))]; exact e
  · exact Rep.keep kp (fun c z => .inl (z.imp id (own_set hi c))) d v (hv d rfl)
  · by_cases z : c = a
    · subst z; exact ⟨_, upd_same⟩
    · exact ⟨o, by rw [upd_ne z]; exact e⟩
  · by_cases z : i = j
    · subst z
      rw [hi] at e; cases e
      exact ⟨es, List.getElem?_set_self (lt_of_get hi)⟩
    · exact ⟨es', by rw [List.getElem?_set_ne z]; exact e⟩
theorem fz_post {i : Nat} {ds : List D} (R : Rel P L0 loc σ H) (hi : loc[i]? = some (.own false ds)) : ∃ v, σ[i]? = some (some v) ∧ EvPost P L0 loc σ H (loc.set i (.dat (.lst ds))) (.val (.lst ds)) v H := by
  obtain ⟨a, vs, ea, h0, n0, r0⟩ := R.own _ _ _ hi
  have rep : Rep P (fun c => Lv L0 loc σ c ∧ c ≠ a) H (.lst ds) (.ref a) := by
    unfold Rep
    exact ⟨a, vs, rfl, h0, fun z => z.2 rfl, Reps.weak (fun c z => z.1) r0⟩
  have rel := R.change (s := .dat (.lst ds)) (H' := H) hi ea (fun c o e _ => e) (.inr ⟨_, rfl, rep⟩)
  refine ⟨_, ea, rel, fun c o e _ => e, own_set hi, ?_, fun c o e => ⟨o, e⟩, (fun _ _ e => nomatch e), fun j es' e => ?_, fun j s e n => by
    by_cases z : i = j
    · subst z; rw [hi] at e; cases e; exact absurd rfl (n _ _)
    · rw [List.getElem?_set_ne z]; exact e⟩
  rotate_left
  · by_cases z : i = j
    · subst z; rw [hi] at e; cases e
    · exact ⟨es', by rw [List.getElem?_set_ne z]; exact e⟩
  obtain ⟨v, e1, r⟩ := rel.dat i (.lst ds) (List.getElem?_set_self (lt_of_get hi))
  rw [ea] at e1; cases e1
  exact r
end MP

namespace MP
open PySem PySem.Spec PyProof.Rows L2
variable {P : RP} {L L' : Addr → Prop} {H H' : Hp} {L0 : Addr → Prop} {loc loc' : Loc} {σ σ' : Sg}

/-! ### argument lists -/
def RepRs (P : RP) (L0 : Addr → Prop) (loc : Loc) (σ : Sg) (H : Hp) : List R → List V → Prop
  | [], vs => vs = []
  | r :: rs, vs => ∃ v w, vs = v :: w ∧ RepR P L0 loc σ H (sett r) v ∧ RepRs P L0 loc σ H rs w
theorem RepRs.length : ∀ {rs : List R} {vs : List V}, RepRs P L0 loc σ H rs vs → rs.length = vs.length
  | [], _, h => by subst h; rfl
  | r :: rs, vs, h => by
    obtain ⟨v, w, rfl, _, h2⟩ := h
    simp [RepRs.length h2]
theorem RepRs.get : ∀ {rs : List R} {vs : List V} {k : Nat} {r : R}, RepRs P L0 loc σ H rs vs → rs[k]? = some r → ∃ v, vs[k]? = some v ∧ RepR P L0 loc σ H (sett r) v
  | [], _, k, r, h, e => by simp at e
  | r' :: rs, vs, k, r, h, e => by
    obtain ⟨v, w, rfl, h1, h2⟩ := h
    cases k with
    | zero => simp at e; subst e; exact ⟨v, by simp, h1⟩
    | succ k =>
      obtain ⟨u, e2, h3⟩ := RepRs.get (k := k) h2 (by simpa using e)
      exact ⟨u, by simpa using e2, h3⟩
theorem RepRs.after {r : R} {v : V} : ∀ {rs : List R} {vs : List V}, RepRs P L0 loc σ H rs vs → EvPost P L0 loc σ H loc' r v H' → RepRs P L0 loc' σ H' rs vs
  | [], _, h, _ => h
  | r' :: rs, vs, h, p => by
    obtain ⟨v, w, rfl, h1, h2⟩ := h
    exact ⟨v, w, rfl, h1.after p, RepRs.after h2 p⟩
theorem RepRs.append : ∀ {rs ss : List R} {vs ws : List V}, RepRs P L0 loc σ H rs vs → RepRs P L0 loc σ H ss ws → RepRs P L0 loc σ H (rs ++ ss) (vs ++ ws)
  | [], _, _, _, h, h' => by subst h; exact h'
  | r' :: rs, ss, vs, ws, h, h' => by
    obtain ⟨v, w, rfl, h1, h2⟩ := h
    exact ⟨v, w ++ ws, rfl, h1, RepRs.append h2 h'⟩
theorem RepRs.toVals : ∀ {rs : List R} {vs : List V} {ds : List D}, RepRs P L0 loc σ H rs vs → rs.mapM toVal = some ds → Reps P (Lv L0 loc σ) H ds vs
  | [], _, ds, h, e => by
    subst h
    rw [List.mapM_nil] at e
    cases e
    exact Reps.nil
  | r :: rs, vs, ds, h, e => by
    obtain ⟨v, w, rfl, h1, h2⟩ := h
    rw [List.mapM_cons] at e
    cases e1 : toVal r with
    | none => rw [e1] at e; cases e
    | some d =>
      cases e2 : rs.mapM toVal with
      | none => rw [e1, e2] at e; cases e
      | some ds' =>
        rw [e1, e2] at e
        cases e
        rw [tval_sett e1] at h1
        exact Reps.cons h1 (RepRs.toVals h2 e2)
/-- the reading of arguments -/
def tA (P : RP) (g : Loc → Option (List R × Loc)) : TA := fun σ H Q => ∃ L0 loc rs loc', Rel P L0 loc σ H ∧ g loc = some (rs, loc') ∧ ∀ vs H', EvPost P L0 loc σ H loc' (.val .non) .non H' → RepRs P L0 loc' σ H' rs vs → Q vs H'
theorem repR_non : RepR P L0 loc σ H (.val .non) .non := by
  show Rep P (Lv L0 loc σ) H .non .non
  unfold Rep
  rfl
theorem EvPost.blank {r : R} {v : V} (p : EvPost P L0 loc σ H loc' r v H') : EvPost P L0 loc σ H loc' (.val .non) .non H' := ⟨p.rel, p.keep, p.own, repR_non, p.there, (fun _ _ e => nomatch e), p.pin, p.fix⟩
theorem EvPost.none0 (R : Rel P L0 loc σ H) : EvPost P L0 loc σ H loc (.val .non) .non H := .refl R repR_non
/-- an earlier step, then one with a result -/
theorem EvPost.to {H1 : Hp} {loc1 : Loc} {r r' : R} {v v' : V} (p : EvPost P L0 loc σ H loc1 r v H1) (q : EvPost P L0 loc1 σ H1 loc' r' v' H') : EvPost P L0 loc σ H loc' r' v' H' := p.trans q
theorem a_nil {gs : Loc → Option (List R × Loc)} (hg : ∀ loc rs loc', gs loc = some (rs, loc') → rs = [] ∧ loc' = loc) {Q : List V → Hp → Prop} (h : tA P gs σ H Q) : tNil σ H Q := by
  obtain ⟨L0, loc, rs, loc', R, e, k⟩ := h
  obtain ⟨rfl, rfl⟩ := hg _ _ _ e
  exact k [] H (.none0 R) rfl
theorem a_cons {g : Loc → Option (R × Loc)} {gr gs : Loc → Option (List R × Loc)}
    (hg : ∀ loc rs loc', gs loc = some (rs, loc') → ∃ r l1 rs', g loc = some (r, l1) ∧ gr l1 = some (rs', loc') ∧ rs = sett r :: rs') {Q : List V → Hp → Prop} (h : tA P gs σ H Q) : tCons (tE P g) (tA P gr) σ H Q := by
  obtain ⟨L0, loc, rs, loc', R, e, k⟩ := h
  obtain ⟨r, l1, rs', h1, h2, rfl⟩ := hg _ _ _ e
  refine ⟨L0, loc, r, l1, R, h1, fun x H1 p1 => ⟨L0, l1, rs', loc', p1.rel, h2, fun vs H2 p2 q2 => ?_⟩⟩
  refine k (x :: vs) H2 (p1.blank.trans p2) ⟨x, vs, rfl, ?_, q2⟩
  have h := p1.rep.sett.after p2
  have e : sett (sett r) = sett r := by cases r <;> rfl
  rw [e]; exact h

/-! ### a call -/
/-- what a def promises by an evaluator -/
def spOf (P : RP) (g : Loc → Option (R × Loc)) (ar : Nat) : Sp := fun vs H Q _ => vs.length = ar ∧ ∃ L0 a r a', Rel P L0 a (vs.map some) H ∧ g a = some (r, a') ∧ (∀ i, r ≠ .ref i) ∧ ∀ v H', EvPost P L0 a (vs.map some) H a' r v H' → Q v H'

theorem argsOf_len : ∀ {rs : List R} {a : Loc}, argsOf loc rs = some a → rs.length = a.length
  | [], a, h => by cases h; rfl
  | r :: rs, a, h => by
    unfold argsOf at h
    split at h
    · rename_i s l h1 h2
      cases h
      simp [argsOf_len h2]
    · cases h
theorem argsOf_get : ∀ {rs : List R} {a : Loc} {k : Nat} {s : Slot}, argsOf loc rs = some a → a[k]? = some s → ∃ r, rs[k]? = some r ∧ argOf loc r = some s
  | [], a, k, s, h, e => by cases h; simp at e
  | r :: rs, a, k, s, h, e => by
    unfold argsOf at h
    split at h
    · rename_i s' l h1 h2
      cases h
      cases k with
      | zero => simp at e; subst e; exact ⟨r, by simp, h1⟩
      | succ k =>
        obtain ⟨r', e1, e2⟩ := argsOf_get (k := k) h2 (by simpa using e)
        exact ⟨r', by simpa using e1, e2⟩
    · cases h
theorem argsOf_getR : ∀ {rs : List R} {a : Loc} {k : Nat} {r : R}, argsOf loc rs = some a → rs[k]? = some r → ∃ s, a[k]? = some s ∧ argOf loc r = some s
  | [], a, k, s, h, e => by simp at e
  | r' :: rs, a, k, r, h, e => by
    unfold argsOf at h
    split at h
    · rename_i s' l h1 h2
      cases h
      cases k with
      | zero => simp at e; subst e; exact ⟨s', by simp, h1⟩
      | succ k =>
        obtain ⟨r', e1, e2⟩ := argsOf_getR (k := k) h2 (by simpa using e)
        exact ⟨r', by simpa using e1, e2⟩
    · cases h
theorem refs_mem : ∀ {rs : List R} {k i : Nat}, rs[k]? = some (.ref i) → i ∈ refs rs
  | [], k, i, e => by simp at e
  | r :: rs, k, i, e => by
    cases k with
    | zero => simp at e; subst e; simp [refs]
    | succ k =>
      have := refs_mem (rs := rs) (k := k) (by simpa using e)
      cases r <;> simp [refs, this]
theorem refs_inj : ∀ {rs : List R} {k l i : Nat}, nodupB (refs rs) = true → rs[k]? = some (.ref i) → rs[l]? = some (.ref i) → k = l
  | [], k, l, i, _, e, _ => by simp at e
  | r :: rs, k, l, i, h, e1, e2 => by
    cases k with
    | zero =>
      simp at e1; subst e1
      cases l with
      | zero => rfl
      | succ l =>
        have := refs_mem (rs := rs) (k := l) (by simpa using e2)
        simp [refs, nodupB, this] at h
    | succ k =>
      cases l with
      | zero =>
        simp at e2; subst e2
        have := refs_mem (rs := rs) (k := k) (by simpa using e1)
        simp [refs, nodupB, this] at h
      | succ l =>
        have h' : nodupB (refs rs) = true := by
          cases r <;> simp_all [refs, nodupB]
        have := refs_inj (rs := rs) (k := k) (l := l) (i := i) h' (by simpa using e1) (by simpa using e2)
        rw [this]
theorem given_spec : ∀ {rs : List R} {a : Loc} {l l' : Loc}, nodupB (refs rs) = true → given rs a l = some l' →
    l'.length = l.length ∧
    (∀ (j : Nat) (s : Slot), l'[j]? = some s → (∃ (k : Nat) (b' b : Bool) (ds ds0 : List D), rs[k]? = some (R.ref j) ∧ a[k]? = some (.own b' ds) ∧ l[j]? = some (.own b ds0) ∧ s = .own b ds) ∨
      (l[j]? = some s ∧ ∀ (k : Nat), rs[k]? = some (R.ref j) → ∃ ns, s = .scr ns)) ∧
    (∀ (k j : Nat) (b : Bool) (ds0 : List D), rs[k]? = some (.ref j) → l[j]? = some (.own b ds0) → ∃ b' ds, a[k]? = some (.own b' ds))
  | [], a, l, l', _, h => by
    cases h
    exact ⟨rfl, fun j s e => .inr ⟨e, fun k e => by simp at e⟩, fun k j b ds0 e => by simp at e⟩
  | .val d :: rs, a, l, l', hn, h => by
    unfold given at h
    cases a with
    | nil => cases h
    | cons s0 a =>
      obtain ⟨h1, h2, h3⟩ := given_spec (rs := rs) (by simpa [refs] using hn) h
      refine ⟨h1, fun j s e => ?_, fun k j b ds0 e1 e2 => ?_⟩
      · rcases h2 j s e with ⟨k, b', b, ds, ds0, q1, q2, q3, q4⟩ | ⟨q1, q2⟩
        · exact .inl ⟨k + 1, b', b, ds, ds0, by simpa using q1, by simpa using q2, q3, q4⟩
        · refine .inr ⟨q1, fun k e => ?_⟩
          cases k with
          | zero => simp at e
          | succ k => exact q2 k (by simpa using e)
      · cases k with
        | zero => simp at e1
        | succ k =>
          obtain ⟨b', ds, q⟩ := h3 k j b ds0 (by simpa using e1) e2
          exact ⟨b', ds, by simpa using q⟩
  | .new d :: rs, a, l, l', hn, h => by
    unfold given at h
    cases a with
    | nil => cases h
    | cons s0 a =>
      obtain ⟨h1, h2, h3⟩ := given_spec (rs := rs) (by simpa [refs] using hn) h
      refine ⟨h1, fun j s e => ?_, fun k j b ds0 e1 e2 => ?_⟩
      · rcases h2 j s e with ⟨k, b', b, ds, ds0, q1, q2, q3, q4⟩ | ⟨q1, q2⟩
        · exact .inl ⟨k + 1, b', b, ds, ds0, by simpa using q1, by simpa using q2, q3, q4⟩
        · refine .inr ⟨q1, fun k e => ?_⟩
          cases k with
          | zero => simp at e
          | succ k => exact q2 k (by simpa using e)
      · cases k with
        | zero => simp at e1
        | succ k =>
          obtain ⟨b', ds, q⟩ := h3 k j b ds0 (by simpa using e1) e2
          exact ⟨b', ds, by simpa using q⟩
  | .ref i :: rs, a, l, l', hn, h => by
    have hn' : i ∉ refs rs ∧ nodupB (refs rs) = true := by simpa [refs, nodupB] using hn
    simp only [given] at h
    split at h
    · rename_i bb ds a'
      split at h
      · rename_i b ds0 hl
        obtain ⟨h1, h2, h3⟩ := given_spec (rs := rs) hn'.2 h
        have hil := lt_of_get hl
        refine ⟨by rw [h1, List.length_set], fun j s e => ?_, fun k j b2 ds2 e1 e2 => ?_⟩
        · rcases h2 j s e with ⟨k, b', b2, ds2, ds3, q1, q2, q3, q4⟩ | ⟨q1, q2⟩
          · have ne : i ≠ j := fun z => hn'.1 (z ▸ refs_mem q1)
            rw [List.getElem?_set_ne ne] at q3
            exact .inl ⟨k + 1, b', b2, ds2, ds3, by simpa using q1, by simpa using q2, q3, q4⟩
          · rcases getset q1 with ⟨rfl, rfl, _⟩ | ⟨ne, q1⟩
            · exact .inl ⟨0, bb, b, ds, ds0, by simp, by simp, hl, rfl⟩
            · refine .inr ⟨q1, fun k e => ?_⟩
              cases k with
              | zero => simp at e; exact absurd e ne
              | succ k => exact q2 k (by simpa using e)
        · cases k with
          | zero => exact ⟨bb, ds, by simp⟩
          | succ k =>
            have e1' : rs[k]? = some (.ref j) := by simpa using e1
            have ne : i ≠ j := fun z => hn'.1 (z ▸ refs_mem e1')
            obtain ⟨b', ds, q⟩ := h3 k j b2 ds2 e1' (by rw [List.getElem?_set_ne ne]; exact e2)
            exact ⟨b', ds, by simpa using q⟩
      · cases h
    · rename_i ns a'
      split at h
      · rename_i ns' hl
        obtain ⟨h1, h2, h3⟩ := given_spec (rs := rs) hn'.2 h
        refine ⟨h1, fun j s e => ?_, fun k j b2 ds2 e1 e2 => ?_⟩
        · rcases h2 j s e with ⟨k, b', b2, ds2, ds3, q1, q2, q3, q4⟩ | ⟨q1, q2⟩
          · exact .inl ⟨k + 1, b', b2, ds2, ds3, by simpa using q1, by simpa using q2, q3, q4⟩
          · refine .inr ⟨q1, fun k e => ?_⟩
            cases k with
            | zero =>
              simp at e; subst e
              rw [hl] at q1; cases q1
              exact ⟨ns', rfl⟩
            | succ k => exact q2 k (by simpa using e)
        · cases k with
          | zero =>
            simp at e1; subst e1
            rw [hl] at e2; cases e2
          | succ k =>
            obtain ⟨b', ds, q⟩ := h3 k j b2 ds2 (by simpa using e1) e2
            exact ⟨b', ds, by simpa using q⟩
      · cases h
    · cases h
theorem map_some_get {vs : List V} {k : Nat} {v : V} (h : (vs.map some)[k]? = some (some v)) : vs[k]? = some v := by
  rw [List.getElem?_map] at h
  cases e : vs[k]? with
  | none => rw [e] at h; cases h
  | some w => rw [e] at h; cases h; rfl
theorem get_map_some {vs : List V} {k : Nat} {v : V} (h : vs[k]? = some v) : (vs.map some)[k]? = some (some v) := by
  rw [List.getElem?_map, h]; rfl

section
variable {rs : List R} {vs : List V} {a : Loc}
/-- the callee's live lists: the caller's but those lent -/
def Lc (L0 : Addr → Prop) (loc : Loc) (σ : Sg) (a : Loc) (vs : List V) (c : Addr) : Prop := Lv L0 loc σ c ∧ ¬ OwnAt a (vs.map some) c
theorem arg_own (R : Rel P L0 loc σ H) (rr : RepRs P L0 loc σ H rs vs) (ha : argsOf loc rs = some a) {k : Nat} {b : Bool} {ds : List D} (e : a[k]? = some (.own b ds)) :
    ∃ (j : Nat) (b' : Bool) (c : Addr) (ws : List V), rs[k]? = some (.ref j) ∧ loc[j]? = some (.own b' ds) ∧ σ[j]? = some (some (.ref c)) ∧ vs[k]? = some (.ref c) ∧ H c = some (.lst ws) ∧ ¬ L0 c ∧ Reps P (Lv L0 loc σ) H ds ws ∧ b = true := by
  obtain ⟨r, e1, e2⟩ := argsOf_get ha e
  obtain ⟨v, e3, e4⟩ := rr.get e1
  cases r with
  | val d => cases e2
  | new d => cases e2
  | ref j =>
    simp only [argOf] at e2
    split at e2
    · rename_i b' ds' hl
      cases e2
      obtain ⟨c, ws, q1, q2, q3, q4⟩ := R.own _ _ _ hl
      have e4' : σ[j]? = some (some v) := e4
      rw [q1] at e4'; cases e4'
      exact ⟨j, b', c, ws, e1, hl, q1, e3, q2, q3, q4, rfl⟩
    · cases e2
    · cases e2
theorem lc_le (R : Rel P L0 loc σ H) (rr : RepRs P L0 loc σ H rs vs) (ha : argsOf loc rs = some a) : ∀ c, Lv (Lc L0 loc σ a vs) a (vs.map some) c → Lv L0 loc σ c := fun c z => by
  rcases z with z | ⟨k, b, ds, e1, e2⟩
  · exact z.1
  · obtain ⟨j, b', c', ws, q1, q2, q3, q4, _⟩ := arg_own R rr ha e1
    rw [map_some_get e2] at q4; cases q4
    exact .inr ⟨j, b', ds, q2, q3⟩
theorem lc_ge : ∀ c, Lv L0 loc σ c → Lv (Lc L0 loc σ a vs) a (vs.map some) c := fun c z => by
  by_cases h : OwnAt a (vs.map some) c
  · exact .inr h
  · exact .inl ⟨z, h⟩
/-- the callee's arguments -/
theorem args_rel (R : Rel P L0 loc σ H) (rr : RepRs P L0 loc σ H rs vs) (ha : argsOf loc rs = some a) (hn : nodupB (refs rs) = true) : Rel P (Lc L0 loc σ a vs) a (vs.map some) H := by
  have le := lc_le R rr ha
  refine ⟨by rw [← argsOf_len ha, rr.length, List.length_map], fun c z => R.lv z.1, fun k d e => ?_, fun k b ds e => ?_, fun i j b c ds es w e1 e2 e3 e4 => ?_, fun k ns e => ?_⟩
  · obtain ⟨r, e1, e2⟩ := argsOf_get ha e
    obtain ⟨v, e3, e4⟩ := rr.get e1
    refine ⟨v, get_map_some e3, ?_⟩
    cases r with
    | val d' => cases e2; exact Rep.weak le e4
    | new d' => cases e2; exact Rep.weak le e4
    | ref j =>
      simp only [argOf] at e2
      split at e2 <;> cases e2
  · obtain ⟨j, b', c, ws, q1, q2, q3, q4, q5, q6, q7, _⟩ := arg_own R rr ha e
    exact ⟨c, ws, get_map_some q4, q5, fun z => z.2 ⟨k, b, ds, e, get_map_some q4⟩, Reps.weak le q7⟩
  · obtain ⟨j1, b1, c1, w1, q1, q2, q3, q4, _⟩ := arg_own R rr ha e1
    obtain ⟨j2, b2, c2, w2, p1, p2, p3, p4, _⟩ := arg_own R rr ha e2
    rw [map_some_get e3] at q4; cases q4
    rw [map_some_get e4] at p4; cases p4
    have := R.inj _ _ _ _ _ _ _ q2 p2 q3 p3
    subst this
    exact refs_inj hn q1 p1
  · obtain ⟨r, e1, e2⟩ := argsOf_get ha e
    obtain ⟨v, e3, e4⟩ := rr.get e1
    cases r with
    | val d' => cases e2
    | new d' => cases e2
    | ref j =>
      simp only [argOf] at e2
      split at e2
      · cases e2
      · rename_i ns' hl
        cases e2
        obtain ⟨c, q1, q2⟩ := R.scr _ _ hl
        have e4' : σ[j]? = some (some v) := e4
        rw [q1] at e4'; cases e4'
        exact ⟨c, get_map_some e3, q2.keep (fun _ _ z _ => z) fun c z => .inl (le c z)⟩
      · cases e2
/-- behind the call -/
theorem call_post {a' : Loc} {r : R} {v : V} (R : Rel P L0 loc σ H) (rr : RepRs P L0 loc σ H rs vs) (ha : argsOf loc rs = some a) (hn : nodupB (refs rs) = true) (hg : given rs a' loc = some loc') (hr : ∀ i, r ≠ .ref i)
    (p : EvPost P (Lc L0 loc σ a vs) a (vs.map some) H a' r v H') : EvPost P L0 loc σ H loc' r v H' := by
  have le := lc_le R rr ha
  obtain ⟨g1, g2, g3⟩ := given_spec hn hg
  have keep : ∀ c o, H c = some o → ¬ OwnAt loc σ c → H' c = some o := fun c o e n => p.keep c o e fun ⟨k, b, ds, e1, e2⟩ => by
    obtain ⟨j, b', c', ws, q1, q2, q3, q4, _⟩ := arg_own R rr ha e1
    rw [map_some_get e2] at q4; cases q4
    exact n ⟨j, b', ds, q2, q3⟩
  have kp : ∀ c o, H c = some o → ¬ Lv L0 loc σ c → H' c = some o := fun c o e n => keep c o e fun z => n (.inr z)
  have own : ∀ c, OwnAt loc' σ c → OwnAt loc σ c := fun c ⟨j, b, ds, e1, e2⟩ => by
    rcases g2 j _ e1 with ⟨k, b', b2, ds2, ds0, q1, q2, q3, q4⟩ | ⟨q1, q2⟩
    · exact ⟨j, b2, ds0, q3, e2⟩
    · exact ⟨j, b, ds, q1, e2⟩
  -- what is live for the caller behind the call is live for the callee behind it
  have ge : ∀ c, Lv L0 loc' σ c → Lv (Lc L0 loc σ a vs) a' (vs.map some) c := fun c z => by
    have z' : Lv L0 loc σ c := z.imp id (own c)
    by_cases h : OwnAt a (vs.map some) c
    · obtain ⟨k, b, ds, e1, e2⟩ := h
      obtain ⟨j, b', c', ws, q1, q2, q3, q4, _⟩ := arg_own R rr ha e1
      obtain ⟨b3, ds3, q5⟩ := g3 k j b' ds q1 q2
      exact .inr ⟨k, b3, ds3, q5, e2⟩
    · exact .inl ⟨z', h⟩
  -- the caller's relation, with more that is live and new
  have main : ∀ E : Addr → Prop, (∀ c, E c → H c = none ∧ ∃ o, H' c = some o) → Rel P (fun c => Lc L0 loc σ a vs c ∨ E c) a' (vs.map some) H' → Rel P (fun c => L0 c ∨ E c) loc' σ H' := fun E hE R' => by
    have lE : ∀ c, Lv (fun c => L0 c ∨ E c) loc' σ c → Lv L0 loc σ c ∨ H c = none := fun c z => by
      rcases z with (z | z) | z
      · exact .inl (.inl z)
      · exact .inr (hE c z).1
      · exact .inl (.inr (own c z))
    have gE : ∀ c, Lv (fun c => L0 c ∨ E c) loc' σ c → Lv (fun c => Lc L0 loc σ a vs c ∨ E c) a' (vs.map some) c := fun c z => by
      rcases z with (z | z) | z
      · rcases ge c (.inl z) with y | y
        · exact .inl (.inl y)
        · exact .inr y
      · exact .inl (.inr z)
      · rcases ge c (.inr z) with y | y
        · exact .inl (.inl y)
        · exact .inr y
    refine ⟨by rw [g1]; exact R.len, fun c z => ?_, fun j d e => ?_, fun j b ds e => ?_, fun i j b c ds es w e1 e2 e3 e4 => ?_, fun j ns e => ?_⟩
    · rcases z with z | z
      · obtain ⟨o, e⟩ := R.l0 c z
        exact p.there c o e
      · exact (hE c z).2
    · rcases g2 j _ e with ⟨k, b', b2, ds2, ds0, q1, q2, q3, q4⟩ | ⟨q1, q2⟩
      · cases q4
      · obtain ⟨v, e1, rp⟩ := R.dat j d q1
        exact ⟨v, e1, Rep.keep kp lE d v rp⟩
    · rcases g2 j _ e with ⟨k, b', b2, ds2, ds0, q1, q2, q3, q4⟩ | ⟨q1, q2⟩
      · cases q4
        obtain ⟨c, ws, u1, u2, u3, u4⟩ := R'.own _ _ _ q2
        obtain ⟨c', ws', w1, w2, w3, w4⟩ := R.own _ _ _ q3
        obtain ⟨v, e3, e4⟩ := rr.get q1
        have e4' : σ[j]? = some (some v) := e4
        rw [w1] at e4'; cases e4'
        rw [map_some_get u1] at e3; cases e3
        refine ⟨c, ws, w1, u2, fun z => ?_, Reps.weak gE u4⟩
        rcases z with z | z
        · exact w3 z
        · rw [(hE c z).1] at w2; cases w2
      · obtain ⟨c, ws, w1, w2, w3, w4⟩ := R.own _ _ _ q1
        have nc : ¬ OwnAt a (vs.map some) c := fun ⟨k, b3, ds3, y1, y2⟩ => by
          obtain ⟨j', b', c', ws', x1, x2, x3, x4, _⟩ := arg_own R rr ha y1
          rw [map_some_get y2] at x4; cases x4
          have := R.inj _ _ _ _ _ _ _ q1 x2 w1 x3
          subst this
          obtain ⟨ns, hns⟩ := q2 k x1
          cases hns
        refine ⟨c, ws, w1, p.keep c _ w2 nc, fun z => ?_, Reps.keep kp lE ds ws w4⟩
        rcases z with z | z
        · exact w3 z
        · rw [(hE c z).1] at w2; cases w2
    · have o1 : ∃ (b' : Bool) (es' : List D), loc[i]? = some (.own b' es') := by
        rcases g2 i _ e1 with ⟨k, b', b2, ds2, ds0, q1, q2, q3, q4⟩ | ⟨q1, q2⟩
        · exact ⟨_, _, q3⟩
        · exact ⟨_, _, q1⟩
      have o2 : ∃ (b' : Bool) (es' : List D), loc[j]? = some (.own b' es') := by
        rcases g2 j _ e2 with ⟨k, b', b2, ds2, ds0, q1, q2, q3, q4⟩ | ⟨q1, q2⟩
        · exact ⟨_, _, q3⟩
        · exact ⟨_, _, q1⟩
      obtain ⟨b1, x1, o1⟩ := o1
      obtain ⟨b2, x2, o2⟩ := o2
      exact R.inj _ _ _ _ _ _ _ o1 o2 e3 e4
    · rcases g2 j _ e with ⟨k, b', b2, ds2, ds0, q1, q2, q3, q4⟩ | ⟨q1, q2⟩
      · cases q4
      · obtain ⟨c, e1, h1⟩ := R.scr j ns q1
        exact ⟨c, e1, h1.keep kp lE⟩
  have noE : ∀ {L1 : Addr → Prop} {l1 : Loc} {s1 : Sg} {h1 : Hp}, Rel P (fun c => L1 c ∨ False) l1 s1 h1 → Rel P L1 l1 s1 h1 := fun {L1 l1 s1 h1} R1 => by
    have : (fun c => L1 c ∨ False) = L1 := by funext c; simp
    rwa [this] at R1
  have toE : ∀ {L1 : Addr → Prop} {l1 : Loc} {s1 : Sg} {h1 : Hp}, Rel P L1 l1 s1 h1 → Rel P (fun c => L1 c ∨ False) l1 s1 h1 := fun {L1 l1 s1 h1} R1 => by
    have : (fun c => L1 c ∨ False) = L1 := by funext c; simp
    rw [this]; exact R1
  refine ⟨noE (main (fun _ => False) (fun _ z => z.elim) (toE p.rel)), keep, own, ?_, p.there, p.fresh, fun i ds e => ?_, fun i s e n => ?_⟩
  · cases r with
    | val d => exact Rep.weak ge p.rep
    | ref i => exact absurd rfl (hr i)
    | new ds =>
      obtain ⟨c, ws, rfl, q1, q2, q3, q4⟩ := p.rep
      have hf := p.fresh ds c rfl rfl
      refine ⟨c, ws, rfl, q1, fun z => q2 (ge c z), Reps.weak (fun b z => z.imp (ge b) id) q3, main (fun b => b = c) (fun b z => ?_) q4⟩
      subst z; exact ⟨hf, _, q1⟩
  · have hl : i < loc'.length := by rw [g1]; exact lt_of_get e
    have e' := List.getElem?_eq_getElem hl
    rcases g2 i _ e' with ⟨k, b', b2, ds2, ds0, q1, q2, q3, q4⟩ | ⟨q1, q2⟩
    · rw [e] at q3; cases q3
      rw [q4] at e'
      exact ⟨_, e'⟩
    · rw [e] at q1
      exact ⟨ds, by rw [e', ← q1]⟩
  · have hl : i < loc'.length := by rw [g1]; exact lt_of_get e
    have e' := List.getElem?_eq_getElem hl
    rcases g2 i _ e' with ⟨k, b', b2, ds2, ds0, q1, q2, q3, q4⟩ | ⟨q1, q2⟩
    · rw [e] at q3; cases q3; exact absurd rfl (n _ _)
    · rw [e] at q1
      rw [e', ← q1]
end
/-- a call's reading, from its arguments' -/
theorem call_read {C : Loc → Option (R × Loc)} {ar : Nat} {gs : Loc → Option (List R × Loc)} {g : Loc → Option (R × Loc)} {E : XK} (hC : ∀ a r a', C a = some (r, a') → a.length = ar ∧ ∀ i, r ≠ .ref i)
    (hg : ∀ loc r loc', g loc = some (r, loc') → ∃ rs l1 a a', gs loc = some (rs, l1) ∧ nodupB (refs rs) = true ∧ argsOf l1 rs = some a ∧ C a = some (r, a') ∧ given rs a' l1 = some loc')
    {Q : VK} (h : tE P g σ H Q) : tA P gs σ H fun vs H1 => spOf P C ar vs H1 Q E := by
  obtain ⟨L0, loc, r, loc', R, e, k⟩ := h
  obtain ⟨rs, l1, a, a', h1, h2, h3, h4, h5⟩ := hg _ _ _ e
  obtain ⟨hl, hr⟩ := hC _ _ _ h4
  refine ⟨L0, loc, rs, l1, R, h1, fun vs H1 p1 rr => ⟨?_, Lc L0 l1 σ a vs, a, r, a', args_rel p1.rel rr h3 h2, h4, hr, fun v H2 p2 => ?_⟩⟩
  · rw [← rr.length, argsOf_len h3, hl]
  · exact k v H2 (p1.trans (call_post p1.rel rr h3 h2 h5 hr p2))
end MP

namespace MP
open PySem PySem.Spec PyProof.Rows L2
variable {P : RP} {L L' : Addr → Prop} {H H' : Hp} {L0 : Addr → Prop} {loc loc' : Loc} {σ σ' : Sg}

/-- behind a statement -/
structure StPost (P : RP) (L0 : Addr → Prop) (loc : Loc) (σ : Sg) (H : Hp) (loc' : Loc) (σ' : Sg) (H' : Hp) : Prop where
  rel : Rel P L0 loc' σ' H'
  keep : ∀ b o, H b = some o → ¬ OwnAt loc σ b → H' b = some o
  own : ∀ b, OwnAt loc' σ' b → OwnAt loc σ b ∨ H b = none
  there : ∀ b o, H b = some o → ∃ o', H' b = some o'
  pin : ∀ (i : Nat) (ds : List D), loc[i]? = some (.own true ds) → ∃ ds', loc'[i]? = some (.own true ds') ∧ σ'[i]? = σ[i]?
  hid : ∀ (i : Nat), loc[i]? = some .hid → loc'[i]? = some .hid ∧ σ'[i]? = σ[i]?
theorem StPost.refl (R : Rel P L0 loc σ H) : StPost P L0 loc σ H loc σ H := ⟨R, fun _ _ e _ => e, fun _ z => .inl z, fun _ o e => ⟨o, e⟩, fun _ ds e => ⟨ds, e, rfl⟩, fun _ e => ⟨e, rfl⟩⟩
theorem StPost.gone {b : Addr} (p : StPost P L0 loc σ H loc' σ' H') (h : H' b = none) : H b = none := by
  cases e : H b with
  | none => rfl
  | some o => obtain ⟨o', e'⟩ := p.there b o e; rw [h] at e'; cases e'
theorem StPost.trans {loc1 : Loc} {σ1 : Sg} {H1 : Hp} (p : StPost P L0 loc σ H loc1 σ1 H1) (q : StPost P L0 loc1 σ1 H1 loc' σ' H') : StPost P L0 loc σ H loc' σ' H' := by
  refine ⟨q.rel, fun b o e n => q.keep b o (p.keep b o e n) fun z => ?_, fun b z => ?_, fun b o e => ?_, fun i ds e => ?_, fun i e => ⟨(q.hid i (p.hid i e).1).1, (q.hid i (p.hid i e).1).2.trans (p.hid i e).2⟩⟩
  · rcases p.own b z with z | z
    · exact n z
    · rw [e] at z; cases z
  · rcases q.own b z with z | z
    · exact p.own b z
    · exact .inr (p.gone z)
  · obtain ⟨o', e'⟩ := p.there b o e
    exact q.there b o' e'
  · obtain ⟨ds1, e1, s1⟩ := p.pin i ds e
    obtain ⟨ds2, e2, s2⟩ := q.pin i ds1 e1
    exact ⟨ds2, e2, s2.trans s1⟩
theorem EvPost.st {r : R} {v : V} (p : EvPost P L0 loc σ H loc' r v H') : StPost P L0 loc σ H loc' σ H' :=
  ⟨p.rel, p.keep, fun b z => .inl (p.own b z), p.there, fun i ds e => by obtain ⟨ds', e'⟩ := p.pin i ds e; exact ⟨ds', e', rfl⟩, fun i e => ⟨p.fix i _ e (fun _ _ z => nomatch z), rfl⟩⟩
theorem StPost.lv (p : StPost P L0 loc σ H loc' σ' H') : ∀ b, Lv L0 loc' σ' b → Lv L0 loc σ b ∨ H b = none := fun b z => by
  rcases z with z | z
  · exact .inl (.inl z)
  · rcases p.own b z with z | z
    · exact .inl (.inr z)
    · exact .inr z
theorem StPost.kp (p : StPost P L0 loc σ H loc' σ' H') : ∀ b o, H b = some o → ¬ Lv L0 loc σ b → H' b = some o := fun b o e n => p.keep b o e fun z => n (.inr z)
/-- the heap grew -/
theorem StPost.grew (R : Rel P L0 loc σ H) (s : Same H H') : StPost P L0 loc σ H loc σ H' :=
  ⟨R.grow s (fun b z => .inl z) fun b z => by obtain ⟨o, e⟩ := R.l0 b z; exact ⟨o, s _ _ e⟩, fun b o e _ => s b o e, fun b z => .inl z, fun b o e => ⟨o, s b o e⟩, fun i ds e => ⟨ds, e, rfl⟩, fun i e => ⟨e, rfl⟩⟩

theorem getsetS {σ : Sg} {i j : Nat} {s t : Option V} (h : (σ.set i s)[j]? = some t) : (i = j ∧ t = s) ∨ (i ≠ j ∧ σ[j]? = some t) := by
  by_cases e : i = j
  · subst e
    by_cases hl : i < σ.length
    · rw [List.getElem?_set_self hl] at h; cases h; exact .inl ⟨rfl, rfl⟩
    · rw [List.getElem?_eq_none (by simpa using hl)] at h; cases h
  · rw [List.getElem?_set_ne e] at h; exact .inr ⟨e, h⟩
theorem free_spec {i : Nat} (h : free loc i = true) : i < loc.length ∧ (∀ ds, loc[i]? ≠ some (.own true ds)) ∧ (∀ ns, loc[i]? ≠ some (.scr ns)) := by
  unfold free at h
  split at h
  · rename_i e; exact ⟨lt_of_get e, fun ds z => (by rw [e] at z; cases z), fun ns z => (by rw [e] at z; cases z)⟩
  · rename_i e; exact ⟨lt_of_get e, fun ds z => (by rw [e] at z; cases z), fun ns z => (by rw [e] at z; cases z)⟩
  · rename_i b ds e
    refine ⟨lt_of_get e, fun ds z => ?_, fun ns z => (by rw [e] at z; cases z)⟩
    rw [e] at z; cases z; cases h
  · cases h
  · cases h
  · cases h
theorem free_hid {i : Nat} (h : free loc i = true) : loc[i]? ≠ some .hid := fun z => by
  unfold free at h
  rw [z] at h
  cases h
/-- a slot is stored to -/
theorem put_dat {i : Nat} {d : D} {v : V} (R : Rel P L0 loc σ H) (h : put loc i (.dat d) = some loc') (hr : Rep P (Lv L0 loc σ) H d v) : StPost P L0 loc σ H loc' (σ.set i (some v)) H := by
  unfold put at h
  split at h
  · rename_i hf
    cases h
    obtain ⟨hl, nb, ns⟩ := free_spec hf
    have hσ : i < σ.length := R.len ▸ hl
    have own : ∀ b, OwnAt (loc.set i (.dat d)) (σ.set i (some v)) b → OwnAt loc σ b := fun b ⟨j, b', es, e1, e2⟩ => by
      rcases getset e1 with ⟨_, e3, _⟩ | ⟨ne, e1⟩
      · cases e3
      · rw [List.getElem?_set_ne ne] at e2
        exact ⟨j, b', es, e1, e2⟩
    have lv : ∀ b, Lv L0 (loc.set i (.dat d)) (σ.set i (some v)) b → Lv L0 loc σ b := fun b z => z.imp id (own b)
    refine ⟨⟨by simp [R.len], R.l0, fun j d' e => ?_, fun j b ds e => ?_, fun j k b c ds es w e1 e2 e3 e4 => ?_, fun j ns e => ?_⟩, fun _ _ e _ => e, fun b z => .inl (own b z), fun _ o e => ⟨o, e⟩, fun j ds e => ?_, fun j e => ?_⟩
    · rcases getset e with ⟨rfl, e3, _⟩ | ⟨ne, e⟩
      · cases e3
        exact ⟨v, List.getElem?_set_self hσ, Rep.weak lv hr⟩
      · obtain ⟨w, e1, r⟩ := R.dat j d' e
        exact ⟨w, by rw [List.getElem?_set_ne ne]; exact e1, Rep.weak lv r⟩
    · rcases getset e with ⟨rfl, e3, _⟩ | ⟨ne, e⟩
      · cases e3
      · obtain ⟨a, vs, e1, h1, n1, r⟩ := R.own j b ds e
        exact ⟨a, vs, by rw [List.getElem?_set_ne ne]; exact e1, h1, n1, Reps.weak lv r⟩
    · rcases getset e1 with ⟨_, z, _⟩ | ⟨n1, e1⟩
      · cases z
      rcases getset e2 with ⟨_, z, _⟩ | ⟨n2, e2⟩
      · cases z
      rw [List.getElem?_set_ne n1] at e3
      rw [List.getElem?_set_ne n2] at e4
      exact R.inj _ _ _ _ _ _ _ e1 e2 e3 e4
    · rcases getset e with ⟨rfl, e3, _⟩ | ⟨ne, e⟩
      · cases e3
      · obtain ⟨a, e1, h1⟩ := R.scr j ns e
        exact ⟨a, by rw [List.getElem?_set_ne ne]; exact e1, h1.keep (fun _ _ z _ => z) fun b z => .inl (lv b z)⟩
    · have ne : i ≠ j := fun z => by subst z; exact nb ds e
      exact ⟨ds, by rw [List.getElem?_set_ne ne]; exact e, by rw [List.getElem?_set_ne ne]⟩
    · have ne : i ≠ j := fun z => by subst z; exact free_hid hf e
      exact ⟨by rw [List.getElem?_set_ne ne]; exact e, by rw [List.getElem?_set_ne ne]⟩
  · cases h
theorem put_own {loc1 : Loc} {H1 : Hp} {i : Nat} {ds : List D} {v : V} (p : EvPost P L0 loc σ H loc1 (.new ds) v H1) (h : put loc1 i (.own false ds) = some loc') : StPost P L0 loc σ H loc' (σ.set i (some v)) H1 := by
  unfold put at h
  split at h
  · rename_i hf
    cases h
    obtain ⟨hl, nb, ns⟩ := free_spec hf
    obtain ⟨a, vs, rfl, h1, h2, h3, R⟩ := p.rep
    have hσ : i < σ.length := R.len ▸ hl
    have na : ¬ OwnAt loc1 σ a := fun z => h2 (.inr z)
    have own : ∀ b, OwnAt (loc1.set i (.own false ds)) (σ.set i (some (.ref a))) b → OwnAt loc1 σ b ∨ b = a := fun b ⟨j, b', es, e1, e2⟩ => by
      rcases getset e1 with ⟨rfl, e3, _⟩ | ⟨ne, e1⟩
      · rw [List.getElem?_set_self hσ] at e2
        cases e2; exact .inr rfl
      · rw [List.getElem?_set_ne ne] at e2
        exact .inl ⟨j, b', es, e1, e2⟩
    have lv : ∀ b, Lv L0 (loc1.set i (.own false ds)) (σ.set i (some (.ref a))) b → Lv (fun b => L0 b ∨ b = a) loc1 σ b := fun b z => by
      rcases z with z | z
      · exact .inl (.inl z)
      · rcases own b z with z | z
        · exact .inr z
        · exact .inl (.inr z)
    have lv2 : ∀ b, Lv L0 (loc1.set i (.own false ds)) (σ.set i (some (.ref a))) b → Lv L0 loc1 σ b ∨ b = a := fun b z => by
      rcases z with z | z
      · exact .inl (.inl z)
      · rcases own b z with z | z
        · exact .inl (.inr z)
        · exact .inr z
    refine ⟨⟨by simp [R.len], p.rel.l0, fun j d' e => ?_, fun j b es e => ?_, fun j k b c es fs w e1 e2 e3 e4 => ?_, fun j ns e => ?_⟩, p.keep, fun b z => ?_, p.there, fun j es e => ?_, fun j e => ?_⟩
    · rcases getset e with ⟨rfl, e3, _⟩ | ⟨ne, e⟩
      · cases e3
      · obtain ⟨w, e1, r⟩ := R.dat j d' e
        exact ⟨w, by rw [List.getElem?_set_ne ne]; exact e1, Rep.weak lv r⟩
    · rcases getset e with ⟨rfl, e3, _⟩ | ⟨ne, e⟩
      · cases e3
        exact ⟨a, vs, List.getElem?_set_self hσ, h1, fun z => h2 (.inl z), Reps.weak lv2 h3⟩
      · obtain ⟨a', vs', e1, h1', n1, r⟩ := R.own j b es e
        exact ⟨a', vs', by rw [List.getElem?_set_ne ne]; exact e1, h1', fun z => n1 (.inl z), Reps.weak lv r⟩
    · rcases getset e1 with ⟨rfl, z, _⟩ | ⟨n1, e1⟩
      · rw [List.getElem?_set_self hσ] at e3; cases e3
        rcases getset e2 with ⟨rfl, z2, _⟩ | ⟨n2, e2⟩
        · rfl
        · rw [List.getElem?_set_ne n2] at e4
          exact absurd ⟨_, _, _, e2, e4⟩ na
      · rw [List.getElem?_set_ne n1] at e3
        rcases getset e2 with ⟨rfl, z2, _⟩ | ⟨n2, e2⟩
        · rw [List.getElem?_set_self hσ] at e4; cases e4
          exact absurd ⟨_, _, _, e1, e3⟩ na
        · rw [List.getElem?_set_ne n2] at e4
          exact R.inj _ _ _ _ _ _ _ e1 e2 e3 e4
    · rcases getset e with ⟨rfl, e3, _⟩ | ⟨ne, e⟩
      · cases e3
      · obtain ⟨a', e1, h1'⟩ := R.scr j ns e
        exact ⟨a', by rw [List.getElem?_set_ne ne]; exact e1, h1'.keep (fun _ _ z _ => z) fun b z => .inl (lv b z)⟩
    · rcases own b z with z | rfl
      · exact .inl (p.own b z)
      · exact .inr (p.fresh ds b rfl rfl)
    · obtain ⟨es', e'⟩ := p.pin j es e
      have ne : i ≠ j := fun z => by subst z; exact nb es' e'
      exact ⟨es', by rw [List.getElem?_set_ne ne]; exact e', by rw [List.getElem?_set_ne ne]⟩
    · have e' := p.fix j _ e (fun _ _ z => nomatch z)
      have ne : i ≠ j := fun z => by subst z; exact free_hid hf e'
      exact ⟨by rw [List.getElem?_set_ne ne]; exact e', by rw [List.getElem?_set_ne ne]⟩
  · cases h

theorem own_before {i : Nat} {b : Bool} {ds : List D} {r : R} {v : V} {R0 : Rel P L0 loc σ H} (p : EvPost P L0 loc σ H loc' r v H') (h : loc'[i]? = some (.own b ds)) : ∃ b' ds', loc[i]? = some (.own b' ds') := by
  have hl : i < loc.length := by
    have h1 := lt_of_get h
    rw [p.rel.len, ← R0.len] at h1
    exact h1
  have e := List.getElem?_eq_getElem hl
  cases hs : loc[i] with
  | own b' ds' => rw [hs] at e; exact ⟨b', ds', e⟩
  | none =>
    rw [hs] at e
    have := p.fix i _ e (fun _ _ z => nomatch z)
    rw [h] at this; cases this
  | dat d =>
    rw [hs] at e
    have := p.fix i _ e (fun _ _ z => nomatch z)
    rw [h] at this; cases this
  | scr ns =>
    rw [hs] at e
    have := p.fix i _ e (fun _ _ z => nomatch z)
    rw [h] at this; cases this
  | hid =>
    rw [hs] at e
    have := p.fix i _ e (fun _ _ z => nomatch z)
    rw [h] at this; cases this

/-! ### what follows a statement -/
/-- an address that an own slot of the body's holds -/
def OwnF (loc : Loc) (σ : Sg) (p : Addr) : Prop := ∃ (i : Nat) (ds : List D), loc[i]? = some (.own false ds) ∧ σ[i]? = some (some (.ref p))
theorem StPost.ownF {p : Addr} (q : StPost P L0 loc σ H loc' σ' H') (h : OwnF loc' σ' p) : H p = none ∨ OwnF loc σ p := by
  obtain ⟨i, ds, e1, e2⟩ := h
  rcases q.own p ⟨i, false, ds, e1, e2⟩ with ⟨j, b, es, e3, e4⟩ | z
  · cases b with
    | false => exact .inr ⟨j, es, e3, e4⟩
    | true =>
      obtain ⟨fs, e5, e6⟩ := q.pin j es e3
      have := q.rel.inj _ _ _ _ _ _ _ e1 e5 e2 (e6.trans e4)
      subst this
      rw [e1] at e5; cases e5
  · exact .inl z
def Good (P : RP) (L0 : Addr → Prop) (loc : Loc) (σ : Sg) (H : Hp) (D : Ends) : Out → Prop
  | .nx l => ∀ σ' H', StPost P L0 loc σ H l σ' H' → D.nx σ' H'
  | .bk l => ∀ σ' H', StPost P L0 loc σ H l σ' H' → D.bk σ' H'
  | .ct l => ∀ σ' H', StPost P L0 loc σ H l σ' H' → D.ct σ' H'
  | .rt r l => (∀ i, r ≠ .ref i) ∧ ∀ v σ' H', StPost P L0 loc σ H l σ' H' → RepR P L0 l σ' H' r v → (∀ ds p, r = .new ds → v = .ref p → H p = none ∨ OwnF loc σ p) → D.rt v H'
theorem Good.step {D : Ends} {o : Out} {loc1 : Loc} {σ1 : Sg} {H1 : Hp} (g : Good P L0 loc σ H D o) (p : StPost P L0 loc σ H loc1 σ1 H1) : Good P L0 loc1 σ1 H1 D o := by
  cases o with
  | nx l => exact fun σ' H' q => g σ' H' (p.trans q)
  | bk l => exact fun σ' H' q => g σ' H' (p.trans q)
  | ct l => exact fun σ' H' q => g σ' H' (p.trans q)
  | rt r l => exact ⟨g.1, fun v σ' H' q rr fr => g.2 v σ' H' (p.trans q) rr fun ds c e1 e2 => (fr ds c e1 e2).elim (fun z => .inl (p.gone z)) p.ownF⟩
def tS (P : RP) (g : Loc → Option Out) : TS := fun D σ H => ∃ L0 loc out, Rel P L0 loc σ H ∧ g loc = some out ∧ Good P L0 loc σ H D out

theorem s_nil {D : Ends} {g : Loc → Option Out} (hg : ∀ loc, g loc = some (.nx loc)) (h : tS P g D σ H) : tNext D σ H := by
  obtain ⟨L0, loc, out, R, e, k⟩ := h
  rw [hg] at e; cases e
  exact k σ H (.refl R)
theorem s_seq {D : Ends} {g g1 g2 : Loc → Option Out} (hg : ∀ loc o, g loc = some o → (∃ l1, g1 loc = some (.nx l1) ∧ g2 l1 = some o) ∨ (g1 loc = some o ∧ ∀ l, o ≠ .nx l)) (h : tS P g D σ H) : tSeq (tS P g1) (tS P g2) D σ H := by
  obtain ⟨L0, loc, out, R, e, k⟩ := h
  rcases hg _ _ e with ⟨l1, h1, h2⟩ | ⟨h1, h2⟩
  · exact ⟨L0, loc, _, R, h1, fun σ1 H1 p => ⟨L0, l1, out, p.rel, h2, k.step p⟩⟩
  · refine ⟨L0, loc, out, R, h1, ?_⟩
    cases out with
    | nx l => exact absurd rfl (h2 l)
    | bk l => exact k
    | ct l => exact k
    | rt r l => exact k

/-! ### targets -/
def pslots : Pat → List Nat
  | .v i => [i]
  | .tup is => is
def tG (P : RP) (p : Pat) : TG := fun v σ H Q => ∃ L0 loc d loc', Rel P L0 loc σ H ∧ Rep P (Lv L0 loc σ) H d v ∧ bindP p d loc = some loc' ∧ ∀ σ', StPost P L0 loc σ H loc' σ' H → σ'.length = σ.length → (∀ i, i ∉ pslots p → σ'[i]? = σ[i]?) → Q σ' H
def gsOf : List Nat → TGs
  | [] => gNil
  | i :: is => gCons (gName i) (gsOf is)
theorem g_name {i : Nat} {v : V} {Q : Sg → Hp → Prop} (h : tG P (.v i) v σ H Q) : gName i v σ H Q := by
  obtain ⟨L0, loc, d, loc', R, rp, e, k⟩ := h
  exact k _ (put_dat R e rp) (by simp) fun j hj => by
    have : i ≠ j := fun z => hj (by simp [pslots, z])
    rw [List.getElem?_set_ne this]
theorem g_names : ∀ {is : List Nat} {ds : List D} {vs : List V} {loc loc' : Loc} {σ : Sg} {Q : Sg → Hp → Prop}, Rel P L0 loc σ H → Reps P (Lv L0 loc σ) H ds vs → puts is ds loc = some loc' → (∀ σ', StPost P L0 loc σ H loc' σ' H → σ'.length = σ.length → (∀ i, i ∉ is → σ'[i]? = σ[i]?) → Q σ' H) → gsOf is vs σ H Q
  | [], ds, vs, loc, loc', σ, Q, R, r, e, k => by
    cases ds with
    | nil =>
      unfold Reps at r
      simp only [puts] at e
      cases e
      exact ⟨r, k σ (.refl R) rfl fun _ _ => rfl⟩
    | cons _ _ => simp only [puts] at e; cases e
  | i :: is, ds, vs, loc, loc', σ, Q, R, r, e, k => by
    cases ds with
    | nil => simp only [puts] at e; cases e
    | cons d ds =>
      unfold Reps at r
      obtain ⟨v, w, rfl, r1, r2⟩ := r
      simp only [puts] at e
      split at e
      · rename_i l1 e1
        have p := put_dat R e1 r1
        refine ⟨v, w, rfl, ?_⟩
        exact g_names p.rel (Reps.keep p.kp p.lv _ _ r2) e fun σ' q hl hi => k σ' (p.trans q) (by rw [hl]; simp) fun j hj => by
          simp only [List.mem_cons, not_or] at hj
          rw [hi j hj.2, List.getElem?_set_ne (Ne.symm hj.1)]
      · cases e
theorem puts_len : ∀ {is : List Nat} {ds : List D} {loc loc' : Loc}, puts is ds loc = some loc' → ds.length = is.length
  | [], ds, loc, loc', e => by
    cases ds with
    | nil => rfl
    | cons _ _ => simp only [puts] at e; cases e
  | i :: is, ds, loc, loc', e => by
    cases ds with
    | nil => simp only [puts] at e; cases e
    | cons d ds =>
      simp only [puts] at e
      split at e
      · simp [puts_len e]
      · cases e
theorem g_tup {K : PySem.W.Frag} (hK : P.K = K) {is : List Nat} {v : V} {Q : Sg → Hp → Prop} (h : tG P (.tup is) v σ H Q) : gTup K is.length (gsOf is) v σ H Q := by
  obtain ⟨L0, loc, d, loc', R, rp, e, k⟩ := h
  cases d with
  | tup ds =>
    unfold Rep at rp
    obtain ⟨a, vs, rfl, t, r⟩ := rp
    simp only [bindP] at e
    exact ⟨a, vs, rfl, hK ▸ t.sq, by rw [← r.length, puts_len e], g_names R r e k⟩
  | _ => simp only [bindP] at e; cases e

/-! ### what is walked -/
def ItOk (P : RP) (L1 : Addr → Prop) (H1 : Hp) (J : It) (items : List D) : Prop := ∀ H2, (∀ c o, H1 c = some o → ¬ L1 c → H2 c = some o) → ∀ i,
  (i < items.length → J.go i H2 ∧ ∀ x H3, J.yld i H2 x H3 → Same H2 H3 ∧ ∃ d, items[i]? = some d ∧ ∀ L2 : Addr → Prop, (∀ b, L2 b → L1 b ∨ H1 b = none) → (∀ b, L2 b → ∃ o, H2 b = some o) → Rep P L2 H3 d x) ∧ (items.length ≤ i → J.stop i H2)
def tI (P : RP) (gi : Loc → Option (List D × Loc)) : TI := fun σ H R => ∃ L0 loc items loc', Rel P L0 loc σ H ∧ gi loc = some (items, loc') ∧ ∀ J H', EvPost P L0 loc σ H loc' (.val .non) .non H' → ItOk P (Lv L0 loc' σ) H' J items → R J H'
theorem _root_.L2.PI.imp {X : Cx} {tg e : Expr} {t t' : TI} (h : PI X tg e t) (w : ∀ σ H Q, t' σ H Q → t σ H Q) : PI X tg e t' := ⟨fun pins s σ H Q I q => h.run pins s σ H Q I (w σ H Q q)⟩

/-- for -/
theorem s_loop {D : Ends} {gi : Loc → Option (List MP.D × Loc)} {body : Loc → Option Out} {p : Pat} {g : Loc → Option Out} (hg : ∀ loc o, g loc = some o → ∃ items l1, gi loc = some (items, l1) ∧ forRun p body items l1 = some o)
    (h : tS P g D σ H) : tFor (tI P gi) (tG P p) (tS P body) D σ H := by
  obtain ⟨L0, loc, out, R, e, k⟩ := h
  obtain ⟨items, l1, e1, e2⟩ := hg _ _ e
  refine ⟨L0, loc, items, l1, R, e1, fun J H1 p1 ok => ?_⟩
  refine ⟨fun i m σ2 H2 => m = items.length - i ∧ i ≤ items.length ∧ ∃ l2 o, StPost P L0 l1 σ H1 l2 σ2 H2 ∧ forRun p body (items.drop i) l2 = some o ∧ Good P L0 l2 σ2 H2 D o,
    ⟨_, rfl, Nat.zero_le _, l1, out, .refl p1.rel, by rw [List.drop_zero]; exact e2, k.step p1.st⟩, ?_⟩
  rintro i m σ2 H2 ⟨rfl, hi, l2, o, sp, e3, gd⟩
  have ok2 := ok H2 sp.kp i
  by_cases hlt : i < items.length
  · obtain ⟨go, yld⟩ := ok2.1 hlt
    refine .inr ⟨go, fun σ' H' => ∃ l' o', StPost P L0 l1 σ H1 l' σ' H' ∧ forRun p body (items.drop (i + 1)) l' = some o' ∧ Good P L0 l' σ' H' D o', fun σ' H' ⟨l', o', q1, q2, q3⟩ => ⟨_, by omega, rfl, hlt, l', o', q1, q2, q3⟩, fun x H3 y => ?_⟩
    obtain ⟨sm, d, ed, rp⟩ := yld x H3 y
    have hd : items.drop i = d :: items.drop (i + 1) := by
      have := List.drop_eq_getElem_cons hlt
      rw [List.getElem?_eq_getElem hlt] at ed
      cases ed
      exact this
    rw [hd] at e3
    simp only [forRun] at e3
    split at e3
    · cases e3
    · rename_i l3 e4
      have g3 := StPost.grew sp.rel sm
      refine ⟨L0, l2, d, l3, g3.rel, rp _ sp.lv (fun b z => sp.rel.lv z), e4, fun σ4 p4 _ _ => ?_⟩
      have p5 := g3.trans p4
      have gd5 := gd.step p5
      have sp5 := sp.trans p5
      split at e3
      · rename_i l6 e5
        exact ⟨L0, l3, _, p5.rel, e5, fun σ7 H7 p7 => ⟨l6, o, sp5.trans p7, e3, gd5.step p7⟩⟩
      · rename_i l6 e5
        exact ⟨L0, l3, _, p5.rel, e5, fun σ7 H7 p7 => ⟨l6, o, sp5.trans p7, e3, gd5.step p7⟩⟩
      · rename_i l6 e5
        cases e3
        exact ⟨L0, l3, _, p5.rel, e5, gd5⟩
      · rename_i r l6 e5
        cases e3
        exact ⟨L0, l3, _, p5.rel, e5, gd5⟩
      · cases e3
  · have hx : i = items.length := by omega
    subst hx
    rw [List.drop_length] at e3
    cases e3
    exact .inl ⟨ok2.2 (Nat.le_refl _), gd σ2 H2 (.refl sp.rel)⟩
/-- a test's reading -/
def tT (P : RP) (g : Loc → Option (Bool × Loc)) : TT := fun σ H Q => ∃ L0 loc k loc', Rel P L0 loc σ H ∧ g loc = some (k, loc') ∧ ∀ H', EvPost P L0 loc σ H loc' (.val .non) .non H' → Q k H'
theorem s_while {D : Ends} {c : Loc → Option (Bool × Loc)} {body : Loc → Option Out} {n : Nat} {g : Loc → Option Out} (hg : ∀ loc o, g loc = some o → whRun c body n loc = some o)
    (h : tS P g D σ H) : tWhile (tT P c) (tS P body) D σ H := by
  obtain ⟨L0, loc, out, R, e, k⟩ := h
  have e2 := hg _ _ e
  refine ⟨fun m σ2 H2 => ∃ l2 o, Rel P L0 l2 σ2 H2 ∧ whRun c body m l2 = some o ∧ Good P L0 l2 σ2 H2 D o, ⟨n, loc, out, R, e2, k⟩, ?_⟩
  rintro m σ2 H2 ⟨l2, o, R2, e3, gd⟩
  cases m with
  | zero => simp only [whRun] at e3; cases e3
  | succ m =>
    simp only [whRun] at e3
    split at e3
    · rename_i l3 e4
      refine ⟨L0, l2, true, l3, R2, e4, fun H3 p3 => ?_⟩
      refine iteT ?_
      have gd3 := gd.step p3.st
      refine ⟨fun σ' H' => ∃ l' o', Rel P L0 l' σ' H' ∧ whRun c body m l' = some o' ∧ Good P L0 l' σ' H' D o', fun σ' H' q => ⟨m, Nat.lt_succ_self _, q⟩, ?_⟩
      split at e3
      · rename_i l6 e5
        exact ⟨L0, l3, _, p3.rel, e5, fun σ7 H7 p7 => ⟨l6, o, p7.rel, e3, gd3.step p7⟩⟩
      · rename_i l6 e5
        exact ⟨L0, l3, _, p3.rel, e5, fun σ7 H7 p7 => ⟨l6, o, p7.rel, e3, gd3.step p7⟩⟩
      · rename_i l6 e5
        cases e3
        exact ⟨L0, l3, _, p3.rel, e5, gd3⟩
      · rename_i r l6 e5
        cases e3
        exact ⟨L0, l3, _, p3.rel, e5, gd3⟩
      · cases e3
    · rename_i l3 e4
      cases e3
      refine ⟨L0, l2, false, l3, R2, e4, fun H3 p3 => ?_⟩
      exact iteF (gd σ2 H3 p3.st)
    · cases e3
/-- assignments -/
theorem s_set {D : Ends} {p : Pat} {ge : Loc → Option (R × Loc)} {g : Loc → Option Out} (hg : ∀ loc o, g loc = some o → ∃ r l1 d l2, ge loc = some (r, l1) ∧ toVal r = some d ∧ bindP p d l1 = some l2 ∧ o = .nx l2)
    (h : tS P g D σ H) : tAsg (tE P ge) (tG P p) D σ H := by
  obtain ⟨L0, loc, out, R, e, k⟩ := h
  obtain ⟨r, l1, d, l2, h1, h2, h3, rfl⟩ := hg _ _ e
  refine ⟨L0, loc, r, l1, R, h1, fun v H1 p1 => ⟨L0, l1, d, l2, p1.rel, toVal_rep p1.rep h2, h3, fun σ2 p2 _ _ => ?_⟩⟩
  exact k σ2 H1 (p1.st.trans p2)
theorem s_own {D : Ends} {i : Nat} {ge : Loc → Option (R × Loc)} {g : Loc → Option Out} (hg : ∀ loc o, g loc = some o → ∃ ds l1 l2, ge loc = some (.new ds, l1) ∧ put l1 i (.own false ds) = some l2 ∧ o = .nx l2)
    (h : tS P g D σ H) : tAsg (tE P ge) (gName i) D σ H := by
  obtain ⟨L0, loc, out, R, e, k⟩ := h
  obtain ⟨ds, l1, l2, h1, h2, rfl⟩ := hg _ _ e
  exact ⟨L0, loc, .new ds, l1, R, h1, fun v H1 p1 => k _ H1 (put_own p1 h2)⟩
theorem s_ex {D : Ends} {ge : Loc → Option (R × Loc)} {g : Loc → Option Out} (hg : ∀ loc o, g loc = some o → ∃ r l1, ge loc = some (r, l1) ∧ o = .nx l1) (h : tS P g D σ H) : tDrop (tE P ge) D σ H := by
  obtain ⟨L0, loc, out, R, e, k⟩ := h
  obtain ⟨r, l1, h1, rfl⟩ := hg _ _ e
  exact ⟨L0, loc, r, l1, R, h1, fun v H1 p1 => k σ H1 p1.st⟩
theorem s_ret {D : Ends} {ge : Loc → Option (R × Loc)} {g : Loc → Option Out} (hg : ∀ loc o, g loc = some o → ∃ r l1, ge loc = some (r, l1) ∧ o = .rt r l1) (h : tS P g D σ H) : tRet (tE P ge) D σ H := by
  obtain ⟨L0, loc, out, R, e, k⟩ := h
  obtain ⟨r, l1, h1, rfl⟩ := hg _ _ e
  exact ⟨L0, loc, r, l1, R, h1, fun v H1 p1 => k.2 v σ H1 p1.st p1.rep fun ds p e1 e2 => .inl (p1.fresh ds p e1 e2)⟩
/-- an own list leaves its slot -/
theorem drop_rel {i : Nat} {ds : List D} {a : Addr} (R : Rel P L0 loc σ H) (hi : loc[i]? = some (.own false ds)) (ha : σ[i]? = some (some (.ref a))) (E : Addr → Prop) (hE : ∀ b, E b → b = a) : Rel P (fun b => L0 b ∨ E b) (loc.set i .none) σ H := by
  obtain ⟨a', vs, ea, h0, n0, r0⟩ := R.own _ _ _ hi
  rw [ha] at ea; cases ea
  have own : ∀ b, OwnAt (loc.set i .none) σ b → OwnAt loc σ b := own_set hi
  have lv : ∀ b, Lv (fun b => L0 b ∨ E b) (loc.set i .none) σ b → Lv L0 loc σ b := fun b z => by
    rcases z with (z | z) | z
    · exact .inl z
    · exact .inr (hE b z ▸ ⟨i, false, ds, hi, ha⟩)
    · exact .inr (own b z)
  refine ⟨by rw [List.length_set]; exact R.len, fun b z => ?_, fun j d e => ?_, fun j b es e => ?_, fun j k b c es fs w e1 e2 e3 e4 => ?_, fun j ns e => ?_⟩
  · rcases z with z | z
    · exact R.l0 b z
    · rw [hE b z]; exact ⟨_, h0⟩
  · rcases getset e with ⟨_, z, _⟩ | ⟨_, e⟩
    · cases z
    · obtain ⟨v, e1, r⟩ := R.dat j d e
      exact ⟨v, e1, Rep.weak lv r⟩
  · rcases getset e with ⟨_, z, _⟩ | ⟨ne, e⟩
    · cases z
    · obtain ⟨c, ws, e1, h1, n1, r⟩ := R.own j b es e
      refine ⟨c, ws, e1, h1, fun z => ?_, Reps.weak lv r⟩
      rcases z with z | z
      · exact n1 z
      · have z := hE c z
        subst z
        exact ne (R.inj _ _ _ _ _ _ _ hi e ha e1)
  · rcases getset e1 with ⟨_, z, _⟩ | ⟨_, e1⟩
    · cases z
    rcases getset e2 with ⟨_, z, _⟩ | ⟨_, e2⟩
    · cases z
    exact R.inj _ _ _ _ _ _ _ e1 e2 e3 e4
  · rcases getset e with ⟨_, z, _⟩ | ⟨_, e⟩
    · cases z
    · obtain ⟨c, e1, h1⟩ := R.scr j ns e
      exact ⟨c, e1, h1.keep (fun _ _ z _ => z) fun b z => .inl (lv b z)⟩
theorem s_retO {D' : Ends} {i : Nat} {g : Loc → Option Out} (hg : ∀ loc o, g loc = some o → (∃ ds, loc[i]? = some (.own false ds) ∧ o = .rt (.new ds) (loc.set i .none)) ∨ ∃ d, loc[i]? = some (.dat d) ∧ o = .rt (.val d) loc) (h : tS P g D' σ H) : tRet (tVar i) D' σ H := by
  obtain ⟨L0, loc, out, R, e, k⟩ := h
  rcases hg _ _ e with ⟨ds, h1, rfl⟩ | ⟨d, h1, rfl⟩
  · obtain ⟨a, vs, ea, h0, n0, r0⟩ := R.own _ _ _ h1
    have fE : (fun c => L0 c ∨ False) = L0 := by funext c; simp
    have R0 : Rel P L0 (loc.set i .none) σ H := by
      have := drop_rel R h1 ea (fun _ => False) (fun _ z => z.elim)
      rw [fE] at this; exact this
    have na : ¬ Lv L0 (loc.set i .none) σ a := fun z => by
      rcases z with z | ⟨j, b, es, e1, e2⟩
      · exact n0 z
      · rcases getset e1 with ⟨_, z, _⟩ | ⟨ne, e1⟩
        · cases z
        · exact ne (R.inj _ _ _ _ _ _ _ h1 e1 ea e2)
    have own : ∀ b, OwnAt (loc.set i .none) σ b → OwnAt loc σ b := own_set h1
    refine ⟨_, ea, k.2 _ σ H ⟨R0, fun _ _ e _ => e, fun b z => .inl (own b z), fun _ o e => ⟨o, e⟩, fun j es e => ?_, fun j e => ?_⟩ ⟨a, vs, rfl, h0, na, Reps.weak (fun b z => ?_) r0, drop_rel R h1 ea (fun b => b = a) (fun _ z => z)⟩ fun es p e1 e2 => ?_⟩
    · have ne : i ≠ j := fun z => by subst z; rw [h1] at e; cases e
      exact ⟨es, by rw [List.getElem?_set_ne ne]; exact e, rfl⟩
    · have ne : i ≠ j := fun z => by subst z; rw [h1] at e; cases e
      exact ⟨by rw [List.getElem?_set_ne ne]; exact e, rfl⟩
    · rcases z with z | z
      · exact z.imp id (own b)
      · subst z; exact .inr ⟨i, false, ds, h1, ea⟩
    · cases e2
      exact .inr ⟨i, ds, h1, ea⟩
  · obtain ⟨v, e1, r⟩ := R.dat i d h1
    exact ⟨v, e1, k.2 v σ H (.refl R) r (fun _ _ z => nomatch z)⟩
theorem s_retN {D : Ends} {g : Loc → Option Out} (hg : ∀ loc o, g loc = some o → o = .rt (.val .non) loc) (h : tS P g D σ H) : tRetN D σ H := by
  obtain ⟨L0, loc, out, R, e, k⟩ := h
  obtain rfl := hg _ _ e
  exact k.2 .non σ H (.refl R) repR_non (fun _ _ z => nomatch z)
theorem s_if {D : Ends} {c : Loc → Option (Bool × Loc)} {gt gf g : Loc → Option Out} (hg : ∀ loc o, g loc = some o → ∃ k l1, c loc = some (k, l1) ∧ (if k = true then gt l1 else gf l1) = some o) (h : tS P g D σ H) : tIfS (tT P c) (tS P gt) (tS P gf) D σ H := by
  obtain ⟨L0, loc, out, R, e, k⟩ := h
  obtain ⟨b, l1, h1, h2⟩ := hg _ _ e
  refine ⟨L0, loc, b, l1, R, h1, fun H1 p1 => ?_⟩
  cases b with
  | true => exact ⟨L0, l1, out, p1.rel, h2, k.step p1.st⟩
  | false => exact ⟨L0, l1, out, p1.rel, h2, k.step p1.st⟩
theorem s_bk {D : Ends} {g : Loc → Option Out} (hg : ∀ loc o, g loc = some o → o = .bk loc) (h : tS P g D σ H) : tBreak D σ H := by
  obtain ⟨L0, loc, out, R, e, k⟩ := h
  obtain rfl := hg _ _ e
  exact k σ H (.refl R)
theorem s_ct {D : Ends} {g : Loc → Option Out} (hg : ∀ loc o, g loc = some o → o = .ct loc) (h : tS P g D σ H) : tCont D σ H := by
  obtain ⟨L0, loc, out, R, e, k⟩ := h
  obtain rfl := hg _ _ e
  exact k σ H (.refl R)
/-- x[k] = e, x an own list -/
theorem s_put {D : Ends} {i : Nat} {ge gk : Loc → Option (R × Loc)} {g : Loc → Option Out}
    (hg : ∀ loc o, g loc = some o → ∃ r l1 n l2 d b ds b0 ds0, ge loc = some (r, l1) ∧ l1[i]? = some (.own b0 ds0) ∧ gk l1 = some (.val (.int n), l2) ∧ toVal r = some d ∧ l2[i]? = some (.own b ds) ∧ 0 ≤ n ∧ n < ds.length ∧ o = .nx (l2.set i (.own b (ds.set n.toNat d))))
    (h : tS P g D σ H) : tAsg (tE P ge) (gSub (tVar i) (tE P gk) rSetL) D σ H := by
  obtain ⟨L0, loc, out, R, e, k⟩ := h
  obtain ⟨r, l1, n, l2, d, b, ds, b0, ds0, h1, h0, h2, h3, h4, h5, h6, rfl⟩ := hg _ _ e
  refine ⟨L0, loc, r, l1, R, h1, fun v H1 p1 => ?_⟩
  obtain ⟨a, vs0, e1, e2, _⟩ := p1.rel.own _ _ _ h0
  refine ⟨_, e1, L0, l1, _, l2, p1.rel, h2, fun y H2 p2 => ?_⟩
  obtain ⟨a2, vs, e3, e4, e5, e6⟩ := p2.rel.own _ _ _ h4
  rw [e1] at e3; cases e3
  have hy : y = .int n := by
    have := p2.rep
    have h' : Rep P (Lv L0 l2 σ) H2 (.int n) y := this
    unfold Rep at h'; exact h'
  subst hy
  have hl := e6.length
  have rv : Rep P (Lv L0 l2 σ) H2 d v := by
    have := (p1.rep.sett).after p2
    rw [tval_sett h3] at this
    exact this
  refine ⟨a, vs, n, n.toNat, rfl, rfl, e4, ?_, ?_⟩
  · unfold ixN
    rw [if_pos h5, if_pos (by omega)]
  · exact k σ _ ((p1.trans p2).trans (EvPost.mut (r := .val .non) (v := .non) p2.rel h4 e1 (Reps.set n.toNat rv e6) (fun d e => by cases e; unfold Rep; rfl) ⟨_, rfl⟩)).st
/-- what a slot holds is forgotten -/
theorem forget1 {i : Nat} (R : Rel P L0 loc σ H) (hf : free loc i = true) : StPost P L0 loc σ H (loc.set i .none) σ H := by
  obtain ⟨hl, nb, ns⟩ := free_spec hf
  have own : ∀ b, OwnAt (loc.set i .none) σ b → OwnAt loc σ b := fun b ⟨j, b', es, e1, e2⟩ => by
    rcases getset e1 with ⟨_, e3, _⟩ | ⟨ne, e1⟩
    · cases e3
    · exact ⟨j, b', es, e1, e2⟩
  have lv : ∀ b, Lv L0 (loc.set i .none) σ b → Lv L0 loc σ b := fun b z => z.imp id (own b)
  refine ⟨⟨by simp [R.len], R.l0, fun j d' e => ?_, fun j b ds e => ?_, fun j k b c ds es w e1 e2 e3 e4 => ?_, fun j ns e => ?_⟩, fun _ _ e _ => e, fun b z => .inl (own b z), fun _ o e => ⟨o, e⟩, fun j ds e => ?_, fun j e => ?_⟩
  · rcases getset e with ⟨rfl, e3, _⟩ | ⟨ne, e⟩
    · cases e3
    · obtain ⟨w, e1, r⟩ := R.dat j d' e
      exact ⟨w, e1, Rep.weak lv r⟩
  · rcases getset e with ⟨rfl, e3, _⟩ | ⟨ne, e⟩
    · cases e3
    · obtain ⟨a, vs, e1, h1, n1, r⟩ := R.own j b ds e
      exact ⟨a, vs, e1, h1, n1, Reps.weak lv r⟩
  · rcases getset e1 with ⟨_, z, _⟩ | ⟨n1, e1⟩
    · cases z
    rcases getset e2 with ⟨_, z, _⟩ | ⟨n2, e2⟩
    · cases z
    exact R.inj _ _ _ _ _ _ _ e1 e2 e3 e4
  · rcases getset e with ⟨rfl, e3, _⟩ | ⟨ne, e⟩
    · cases e3
    · obtain ⟨a, e1, h1⟩ := R.scr j ns e
      exact ⟨a, e1, h1.keep (fun _ _ z _ => z) fun b z => .inl (lv b z)⟩
  · have ne : i ≠ j := fun z => by subst z; exact nb ds e
    exact ⟨ds, by rw [List.getElem?_set_ne ne]; exact e, rfl⟩
  · have ne : i ≠ j := fun z => by subst z; exact free_hid hf e
    exact ⟨by rw [List.getElem?_set_ne ne]; exact e, rfl⟩
theorem free_set {i j : Nat} (h : free loc i = true) : free (loc.set j .none) i = true := by
  by_cases e : j = i
  · subst e
    unfold free
    rw [List.getElem?_set_self (free_spec h).1]
  · unfold free at h ⊢
    rw [List.getElem?_set_ne e]
    exact h
theorem free_wipe {i : Nat} (h : free loc i = true) : ∀ is : List Nat, free (wipeL loc is) i = true
  | [] => h
  | j :: js => by
    unfold wipeL
    exact free_set (free_wipe h js)
theorem forget_all (R : Rel P L0 loc σ H) : ∀ is : List Nat, is.all (free loc) = true → StPost P L0 loc σ H (wipeL loc is) σ H
  | [], _ => .refl R
  | i :: is, h => by
    simp only [List.all_cons, Bool.and_eq_true] at h
    have p := forget_all R is h.2
    unfold wipeL
    exact p.trans (forget1 p.rel (free_wipe h.1 is))
/-- xs += e, xs an own list -/
theorem s_augL {D : Ends} {i : Nat} {ge : Loc → Option (R × Loc)} {g : Loc → Option Out}
    (hg : ∀ loc o, g loc = some o → ∃ b0 ds0 r l1 es b ds, loc[i]? = some (.own b0 ds0) ∧ ge loc = some (r, l1) ∧ toVal r = some (.lst es) ∧ l1[i]? = some (.own b ds) ∧ ds.length + es.length ≤ big ∧ o = .nx (l1.set i (.own b (ds ++ es))))
    (h : tS P g D σ H) : tAug i (tE P ge) rExt2 D σ H := by
  obtain ⟨L0, loc, out, R, e, k⟩ := h
  obtain ⟨b0, ds0, r, l1, es, b, ds, h0, h1, h2, h3, h4, rfl⟩ := hg _ _ e
  obtain ⟨a, vs0, e1, e2, _⟩ := R.own _ _ _ h0
  refine ⟨_, e1, L0, loc, r, l1, R, h1, fun y H1 p1 => ?_⟩
  obtain ⟨a2, vs, e3, e4, e5, e6⟩ := p1.rel.own _ _ _ h3
  rw [e1] at e3; cases e3
  have ry := toVal_rep p1.rep h2
  unfold Rep at ry
  obtain ⟨c, ws, rfl, f1, f2, f3⟩ := ry
  have hs : σ.set i (some (.ref a)) = σ := by
    apply List.ext_getElem?
    intro j
    by_cases z : i = j
    · subst z
      rw [List.getElem?_set_self (lt_of_get e1), e1]
    · rw [List.getElem?_set_ne z]
  refine ⟨a, c, vs, ws, rfl, rfl, e4, f1, big_line (by rw [← e6.length, ← f3.length]; exact h4), ?_⟩
  show D.nx (σ.set i (some (.ref a))) _
  rw [hs]
  exact k σ _ (p1.trans (EvPost.mut (r := .val .non) (v := .non) p1.rel h3 e1 (e6.append f3) (fun d e => by cases e; unfold Rep; rfl) ⟨_, rfl⟩)).st
end MP

namespace MP
open PySem PySem.Spec PyProof.Rows L2
variable {P : RP} {L L' : Addr → Prop} {H H' : Hp} {L0 : Addr → Prop} {loc loc' : Loc} {σ σ' : Sg}

/-! ### slots forgotten -/
theorem freeD_spec {i : Nat} (h : freeD loc i = true) : i < loc.length ∧ (∀ b ds, loc[i]? ≠ some (.own b ds)) ∧ (∀ ns, loc[i]? ≠ some (.scr ns)) := by
  unfold freeD at h
  split at h
  · rename_i e; exact ⟨lt_of_get e, fun b ds z => (by rw [e] at z; cases z), fun ns z => (by rw [e] at z; cases z)⟩
  · rename_i e; exact ⟨lt_of_get e, fun b ds z => (by rw [e] at z; cases z), fun ns z => (by rw [e] at z; cases z)⟩
  · cases h
theorem wipeL_len (loc : Loc) : ∀ vs : List Nat, (wipeL loc vs).length = loc.length
  | [] => rfl
  | v :: vs => by unfold wipeL; rw [List.length_set, wipeL_len loc vs]
theorem wipeL_out {i : Nat} : ∀ {vs : List Nat}, i ∉ vs → (wipeL loc vs)[i]? = loc[i]?
  | [], _ => rfl
  | v :: vs, h => by
    simp only [List.mem_cons, not_or] at h
    unfold wipeL
    rw [List.getElem?_set_ne (Ne.symm h.1)]
    exact wipeL_out h.2
theorem wipeL_in {i : Nat} : ∀ {vs : List Nat}, i ∈ vs → i < loc.length → (wipeL loc vs)[i]? = some .none
  | [], h, _ => by cases h
  | v :: vs, h, hl => by
    unfold wipeL
    by_cases e : v = i
    · subst e
      exact List.getElem?_set_self (by rw [wipeL_len]; exact hl)
    · rw [List.getElem?_set_ne e]
      exact wipeL_in ((List.mem_cons.mp h).resolve_left (Ne.symm e)) hl
theorem wipe_out' {i : Nat} : ∀ {vs : List Nat}, i ∉ vs → (wipe σ vs)[i]? = σ[i]?
  | [], _ => rfl
  | v :: vs, h => by
    simp only [List.mem_cons, not_or] at h
    unfold wipe
    rw [List.getElem?_set_ne (Ne.symm h.1)]
    exact wipe_out' h.2
theorem wipe_in {i : Nat} : ∀ {vs : List Nat}, i ∈ vs → i < σ.length → (wipe σ vs)[i]? = some none
  | [], h, _ => by cases h
  | v :: vs, h, hl => by
    unfold wipe
    by_cases e : v = i
    · subst e
      exact List.getElem?_set_self (by rw [wipe_length]; exact hl)
    · rw [List.getElem?_set_ne e]
      exact wipe_in ((List.mem_cons.mp h).resolve_left (Ne.symm e)) hl
theorem wipe_eq {vs : List Nat} (hl : σ'.length = σ.length) (h : ∀ i, i ∉ vs → σ'[i]? = σ[i]?) : wipe σ' vs = wipe σ vs := by
  apply List.ext_getElem?
  intro i
  by_cases e : i ∈ vs
  · by_cases hi : i < σ.length
    · rw [wipe_in e hi, wipe_in e (hl ▸ hi)]
    · rw [List.getElem?_eq_none (by rw [wipe_length]; omega), List.getElem?_eq_none (by rw [wipe_length]; omega)]
  · rw [wipe_out' e, wipe_out' e, h i e]
theorem wipe_wipe {vs : List Nat} : wipe (wipe σ vs) vs = wipe σ vs := wipe_eq (wipe_length σ vs) fun i h => wipe_out' h
theorem back_len (l0 l1 : Loc) : ∀ vs : List Nat, (back l0 l1 vs).length = l1.length
  | [] => rfl
  | v :: vs => by unfold back; rw [List.length_set, back_len l0 l1 vs]
theorem back_out {l0 l1 : Loc} {i : Nat} : ∀ {vs : List Nat}, i ∉ vs → (back l0 l1 vs)[i]? = l1[i]?
  | [], _ => rfl
  | v :: vs, h => by
    simp only [List.mem_cons, not_or] at h
    unfold back
    rw [List.getElem?_set_ne (Ne.symm h.1)]
    exact back_out h.2
theorem back_in {l0 l1 : Loc} {i : Nat} (hl : l1.length = l0.length) : ∀ {vs : List Nat}, i ∈ vs → i < l0.length → (back l0 l1 vs)[i]? = l0[i]?
  | [], h, _ => by cases h
  | v :: vs, h, hi => by
    unfold back
    by_cases e : v = i
    · subst e
      rw [List.getElem?_set_self (by rw [back_len]; omega), List.getElem?_eq_getElem hi]
      simp [List.getD, List.getElem?_eq_getElem hi]
    · rw [List.getElem?_set_ne e]
      exact back_in hl ((List.mem_cons.mp h).resolve_left (Ne.symm e)) hi
theorem own_wipe {vs : List Nat} (hf : ∀ i ∈ vs, freeD loc i = true) : ∀ c, OwnAt (wipeL loc vs) (wipe σ vs) c ↔ OwnAt loc σ c := fun c => by
  constructor
  · rintro ⟨i, b, ds, e1, e2⟩
    by_cases h : i ∈ vs
    · rw [wipeL_in h (by have := lt_of_get e1; rwa [wipeL_len] at this)] at e1; cases e1
    · rw [wipeL_out h] at e1
      rw [wipe_out' h] at e2
      exact ⟨i, b, ds, e1, e2⟩
  · rintro ⟨i, b, ds, e1, e2⟩
    have h : i ∉ vs := fun z => (freeD_spec (hf i z)).2.1 b ds e1
    exact ⟨i, b, ds, by rw [wipeL_out h]; exact e1, by rw [wipe_out' h]; exact e2⟩
theorem Rel.wiped {vs : List Nat} (R : Rel P L0 loc σ H) (hf : ∀ i ∈ vs, freeD loc i = true) : Rel P L0 (wipeL loc vs) (wipe σ vs) H := by
  have ow := own_wipe (σ := σ) hf
  have lv : ∀ c, Lv L0 (wipeL loc vs) (wipe σ vs) c → Lv L0 loc σ c := fun c z => z.imp id (ow c).mp
  have out : ∀ {i : Nat} {s : Slot}, (wipeL loc vs)[i]? = some s → s ≠ .none → i ∉ vs := fun {i s} e n h => by
    rw [wipeL_in h (by have := lt_of_get e; rwa [wipeL_len] at this)] at e
    cases e; exact n rfl
  refine ⟨by rw [wipeL_len, wipe_length]; exact R.len, R.l0, fun i d e => ?_, fun i b ds e => ?_, fun i j b c ds es a e1 e2 e3 e4 => ?_, fun i ns e => ?_⟩
  · have h := out e (fun z => nomatch z)
    rw [wipeL_out h] at e
    obtain ⟨v, e1, r⟩ := R.dat i d e
    exact ⟨v, by rw [wipe_out' h]; exact e1, Rep.weak lv r⟩
  · have h := out e (fun z => nomatch z)
    rw [wipeL_out h] at e
    obtain ⟨a, ws, e1, h1, n1, r⟩ := R.own i b ds e
    exact ⟨a, ws, by rw [wipe_out' h]; exact e1, h1, n1, Reps.weak lv r⟩
  · have h1 := out e1 (fun z => nomatch z)
    have h2 := out e2 (fun z => nomatch z)
    rw [wipeL_out h1] at e1
    rw [wipeL_out h2] at e2
    rw [wipe_out' h1] at e3
    rw [wipe_out' h2] at e4
    exact R.inj _ _ _ _ _ _ _ e1 e2 e3 e4
  · have h := out e (fun z => nomatch z)
    rw [wipeL_out h] at e
    obtain ⟨a, e1, h1⟩ := R.scr i ns e
    exact ⟨a, by rw [wipe_out' h]; exact e1, h1.keep (fun _ _ z _ => z) fun b z => .inl (lv b z)⟩
theorem Rel.less {L0' : Addr → Prop} (R : Rel P L0 loc σ H) (h : ∀ b, L0' b → L0 b) : Rel P L0' loc σ H := by
  have lv : ∀ c, Lv L0' loc σ c → Lv L0 loc σ c := fun c z => z.imp (h c) id
  refine ⟨R.len, fun b z => R.l0 b (h b z), fun i d e => ?_, fun i b ds e => ?_, R.inj, fun i ns e => ?_⟩
  · obtain ⟨v, e1, r⟩ := R.dat i d e
    exact ⟨v, e1, Rep.weak lv r⟩
  · obtain ⟨a, ws, e1, h1, n1, r⟩ := R.own i b ds e
    exact ⟨a, ws, e1, h1, fun z => n1 (h a z), Reps.weak lv r⟩
  · obtain ⟨a, e1, h1⟩ := R.scr i ns e
    exact ⟨a, e1, h1.keep (fun _ _ z _ => z) fun b z => .inl (lv b z)⟩
/-- a live list that no local has gets other items -/
theorem Rel.other {a : Addr} {o : HO} (R : Rel P L0 loc σ H) (ha : L0 a) : Rel P L0 loc σ (upd H a o) := by
  have kp : ∀ b o', H b = some o' → ¬ Lv L0 loc σ b → (upd H a o) b = some o' := fun b o' e n => by
    rw [upd_ne (fun z => n (by rw [z]; exact .inl ha))]; exact e
  refine ⟨R.len, fun b z => ?_, fun i d e => ?_, fun i b ds e => ?_, R.inj, fun i ns e => ?_⟩
  · by_cases h : b = a
    · subst h; exact ⟨_, upd_same⟩
    · rw [upd_ne h]; exact R.l0 b z
  · obtain ⟨v, e1, r⟩ := R.dat i d e
    exact ⟨v, e1, Rep.keep kp (fun b z => .inl z) d v r⟩
  · obtain ⟨c, ws, e1, h1, n1, r⟩ := R.own i b ds e
    have : c ≠ a := fun z => n1 (by rw [z]; exact ha)
    exact ⟨c, ws, e1, by rw [upd_ne this]; exact h1, n1, Reps.keep kp (fun b z => .inl z) ds ws r⟩
  · obtain ⟨c, e1, h1⟩ := R.scr i ns e
    exact ⟨c, e1, h1.keep kp fun b z => .inl z⟩
theorem put_slots {i j : Nat} {s : Slot} (h : put loc i s = some loc') : loc'.length = loc.length ∧ (i ≠ j → loc'[j]? = loc[j]?) := by
  unfold put at h
  split at h
  · cases h; exact ⟨List.length_set, fun e => List.getElem?_set_ne e⟩
  · cases h
theorem put_free {i j : Nat} {d : D} (h : put loc i (.dat d) = some loc') (hf : freeD loc j = true) : freeD loc' j = true := by
  unfold put at h
  split at h
  · rename_i hq
    cases h
    by_cases e : i = j
    · subst e
      unfold freeD
      rw [List.getElem?_set_self (free_spec hq).1]
    · unfold freeD at hf ⊢
      rw [List.getElem?_set_ne e]; exact hf
  · cases h
theorem puts_slots : ∀ {is : List Nat} {ds : List D} {loc loc' : Loc}, puts is ds loc = some loc' → loc'.length = loc.length ∧ (∀ j, j ∉ is → loc'[j]? = loc[j]?) ∧ ∀ j, freeD loc j = true → freeD loc' j = true
  | [], ds, loc, loc', e => by
    cases ds with
    | nil => simp only [puts] at e; cases e; exact ⟨rfl, fun _ _ => rfl, fun _ h => h⟩
    | cons _ _ => simp only [puts] at e; cases e
  | i :: is, ds, loc, loc', e => by
    cases ds with
    | nil => simp only [puts] at e; cases e
    | cons d ds =>
      simp only [puts] at e
      split at e
      · rename_i l1 e1
        obtain ⟨h1, h2, h3⟩ := puts_slots e
        refine ⟨h1.trans (put_slots (j := 0) e1).1, fun j hj => ?_, fun j hj => h3 j (put_free e1 hj)⟩
        simp only [List.mem_cons, not_or] at hj
        rw [h2 j hj.2, (put_slots e1).2 (Ne.symm hj.1)]
      · cases e
theorem bind_slots {p : Pat} {d : D} (h : bindP p d loc = some loc') : loc'.length = loc.length ∧ (∀ j, j ∉ pslots p → loc'[j]? = loc[j]?) ∧ ∀ j, freeD loc j = true → freeD loc' j = true := by
  cases p with
  | v i =>
    have h : put loc i (.dat d) = some loc' := h
    exact ⟨(put_slots (j := 0) h).1, fun j hj => (put_slots h).2 (by simp only [pslots, List.mem_singleton] at hj; exact Ne.symm hj), fun j hj => put_free h hj⟩
  | tup is =>
    cases d with
    | tup ds =>
      have h : puts is ds loc = some loc' := h
      exact puts_slots h
    | _ => simp only [bindP] at h; cases h
theorem EvPost.frD {r : R} {v : V} (p : EvPost P L0 loc σ H loc' r v H') {i : Nat} (h : freeD loc i = true) : freeD loc' i = true := by
  obtain ⟨hl, h1, h2⟩ := freeD_spec h
  have e := List.getElem?_eq_getElem hl
  have e' := p.fix i _ e fun b ds z => h1 b ds (by rw [e, z])
  unfold freeD at h ⊢
  rw [e] at h
  rw [e']
  exact h

/-! ### comprehensions -/
structure LcP (P : RP) (L0 : Addr → Prop) (ow : List Nat) (loc : Loc) (σ : Sg) (H : Hp) (A : Addr) (loc' : Loc) (H' : Hp) : Prop where
  rel : Rel P L0 loc' σ H'
  keep : ∀ b o, H b = some o → ¬ OwnAt loc σ b → b ≠ A → H' b = some o
  own : ∀ b, OwnAt loc' σ b → OwnAt loc σ b
  there : ∀ b o, H b = some o → ∃ o', H' b = some o'
  pin : ∀ (i : Nat) (ds : List D), loc[i]? = some (.own true ds) → ∃ ds', loc'[i]? = some (.own true ds')
  fix : ∀ (i : Nat) (s : Slot), i ∉ ow → loc[i]? = some s → (∀ b ds, s ≠ .own b ds) → loc'[i]? = some s
  fr : ∀ i ∈ ow, freeD loc' i = true
theorem lc_read {gi : Loc → Option (List D × Loc)} {p : Pat} {gc : Loc → Option (Bool × Loc)} {ge g : Loc → Option (R × Loc)} {own : List Nat} (hp : ∀ i ∈ pslots p, i ∈ own)
    (hg : ∀ loc r loc', g loc = some (r, loc') → ∃ items l1 ds l2, gi loc = some (items, l1) ∧ (∀ i ∈ own, freeD l1 i = true) ∧ items.length ≤ big ∧ lcRun own p gc ge items (wipeL l1 own) = some (ds, l2) ∧ r = .new ds ∧ loc' = back l1 l2 own)
    {Q : VK} (h : tE P g σ H Q) : tLc (tI P gi) (tG P p) (tT P gc) (tE P ge) own σ H Q := by
  obtain ⟨L0, loc, r, loc', R, e, k⟩ := h
  obtain ⟨items, l1, ds, lf, e1, hf, hbig, e2, rfl, rfl⟩ := hg _ _ _ e
  refine ⟨L0, loc, items, l1, R, e1, fun J H1 p1 ok A hA => ?_⟩
  have sA : Same H1 (upd H1 A (.lst [])) := same_upd hA
  have RA : Rel P (fun b => L0 b ∨ b = A) l1 σ (upd H1 A (.lst [])) := by
    refine p1.rel.grow sA (fun b z => ?_) fun b z => ?_
    · rcases z with z | rfl
      · exact .inl z
      · exact .inr hA
    · rcases z with z | rfl
      · obtain ⟨o, e⟩ := p1.rel.l0 b z; exact ⟨o, sA _ _ e⟩
      · exact ⟨_, upd_same⟩
  have Rw := RA.wiped (vs := own) hf
  have ow := own_wipe (σ := σ) hf
  have len1 : l1.length = σ.length := p1.rel.len
  have frw : ∀ i ∈ own, freeD (wipeL l1 own) i = true := fun i hi => by
    unfold freeD
    rw [wipeL_in hi (freeD_spec (hf i hi)).1]
  have nA1 : ¬ Lv L0 l1 σ A := fun z => by obtain ⟨o, e⟩ := p1.rel.lv z; rw [hA] at e; cases e
  refine ⟨fun i m H2 => m = items.length - i ∧ i ≤ items.length ∧ ∃ l2 dn vs rest, LcP P (fun b => L0 b ∨ b = A) own (wipeL l1 own) (wipe σ own) (upd H1 A (.lst [])) A l2 H2 ∧ H2 A = some (.lst vs) ∧
      Reps P (Lv (fun b => L0 b ∨ b = A) l2 (wipe σ own)) H2 dn vs ∧ lcRun own p gc ge (items.drop i) l2 = some (rest, lf) ∧ ds = dn ++ rest ∧ dn.length ≤ i,
    ⟨_, rfl, Nat.zero_le _, wipeL l1 own, [], [], ds, ⟨Rw, fun _ _ e _ _ => e, fun _ z => z, fun _ o e => ⟨o, e⟩, fun _ ds e => ⟨ds, e⟩, fun _ _ _ e _ => e, frw⟩, upd_same, Reps.nil, by rw [List.drop_zero]; exact e2, rfl, Nat.le_refl _⟩, ?_⟩
  rintro i m H2 ⟨rfl, hi, l2, dn, vs, rest, lp, eA, rd, e3, ed, hlen⟩
  -- from the heap ahead of the new list
  have kp1 : ∀ c o, H1 c = some o → ¬ OwnAt l1 σ c → H2 c = some o := fun c o e n => by
    have hc : c ≠ A := fun z => by rw [z, hA] at e; cases e
    exact lp.keep c o (sA _ _ e) (fun z => n ((ow c).mp z)) hc
  have th1 : ∀ c o, H1 c = some o → ∃ o', H2 c = some o' := fun c o e => lp.there c o (sA _ _ e)
  have own1 : ∀ c, OwnAt l2 (wipe σ own) c → OwnAt l1 σ c := fun c z => (ow c).mp (lp.own c z)
  have ok2 := ok H2 (fun c o e n => kp1 c o e fun z => n (.inr z)) i
  have lvl : ∀ b, Lv (fun b => L0 b ∨ b = A) l2 (wipe σ own) b → Lv L0 l1 σ b ∨ H1 b = none := fun b z => by
    rcases z with (z | rfl) | z
    · exact .inl (.inl z)
    · exact .inr hA
    · exact .inl (.inr (own1 b z))
  by_cases hlt : i < items.length
  · obtain ⟨go, yld⟩ := ok2.1 hlt
    refine .inr ⟨go, fun H' => ∃ l' dn' vs' rest', LcP P (fun b => L0 b ∨ b = A) own (wipeL l1 own) (wipe σ own) (upd H1 A (.lst [])) A l' H' ∧ H' A = some (.lst vs') ∧
      Reps P (Lv (fun b => L0 b ∨ b = A) l' (wipe σ own)) H' dn' vs' ∧ lcRun own p gc ge (items.drop (i + 1)) l' = some (rest', lf) ∧ ds = dn' ++ rest' ∧ dn'.length ≤ i + 1, fun H' q => ⟨_, by omega, rfl, hlt, q⟩, fun x H3 y => ?_⟩
    obtain ⟨sm, d, edd, rp⟩ := yld x H3 y
    have hd : items.drop i = d :: items.drop (i + 1) := by
      have := List.drop_eq_getElem_cons hlt
      rw [List.getElem?_eq_getElem hlt] at edd
      cases edd
      exact this
    rw [hd] at e3
    simp only [lcRun] at e3
    split at e3
    · cases e3
    · rename_i l3 e4
      have g3 := StPost.grew lp.rel sm
      obtain ⟨bl, bo, bf⟩ := bind_slots e4
      refine ⟨_, l2, d, l3, g3.rel, rp _ lvl (fun b z => lp.rel.lv z), e4, fun σ4 p4 hl4 ho4 => ?_⟩
      have p5 := g3.trans p4
      have ew : wipe σ4 own = wipe σ own := (wipe_eq hl4 fun i hi => ho4 i fun z => hi (hp i z)).trans wipe_wipe
      refine ⟨ew, ?_⟩
      have own4 : ∀ b, OwnAt l3 σ4 b → OwnAt l2 (wipe σ own) b := fun b z => by
        rcases p4.own b z with y | y
        · exact y
        · obtain ⟨o, e⟩ := p4.rel.lv (.inr z)
          rw [y] at e; cases e
      -- a step's end, from the state ahead of it
      have fin : ∀ {l6 : Loc} {H6 : Hp} {r : MP.R} {v : V}, EvPost P (fun b => L0 b ∨ b = A) l3 σ4 H3 l6 r v H6 →
          LcP P (fun b => L0 b ∨ b = A) own (wipeL l1 own) (wipe σ own) (upd H1 A (.lst [])) A (wipeL l6 own) H6 ∧ (∀ b, Lv (fun b => L0 b ∨ b = A) (wipeL l6 own) (wipe σ own) b → Lv (fun b => L0 b ∨ b = A) l6 σ4 b) := fun {l6 H6 r v} q => by
        have hf6 : ∀ j ∈ own, freeD l6 j = true := fun j hj => q.frD (bf j (lp.fr j hj))
        have R6 := q.rel.wiped (vs := own) hf6
        rw [ew] at R6
        have ow6 := own_wipe (loc := l6) (σ := σ4) hf6
        rw [ew] at ow6
        have q5 := p5.trans q.st
        refine ⟨⟨R6, fun b o e n nb => ?_, fun b z => ?_, fun b o e => ?_, fun j es e => ?_, fun j s hj e ns => ?_, fun j hj => ?_⟩, fun b z => z.imp id (ow6 b).mp⟩
        · exact q5.keep b o (lp.keep b o e n nb) fun z => n (lp.own b z)
        · exact lp.own b (own4 b (q.own b ((ow6 b).mp z)))
        · obtain ⟨o', e'⟩ := lp.there b o e
          exact q5.there b o' e'
        · obtain ⟨es', e'⟩ := lp.pin j es e
          obtain ⟨es2, e2', _⟩ := q5.pin j es' e'
          have hj : j ∉ own := fun z => (freeD_spec (hf6 j z)).2.1 _ _ e2'
          exact ⟨es2, by rw [wipeL_out hj]; exact e2'⟩
        · rw [wipeL_out hj]
          refine q.fix j s ?_ ns
          rw [bo j fun z => hj (hp j z)]
          exact lp.fix j s hj e ns
        · unfold freeD
          rw [wipeL_in hj (freeD_spec (hf6 j hj)).1]
      -- the new list's items so far, behind a step
      have kept : ∀ {l6 : Loc} {H6 : Hp} {r : MP.R} {v : V}, EvPost P (fun b => L0 b ∨ b = A) l3 σ4 H3 l6 r v H6 → H6 A = some (.lst vs) ∧ Reps P (Lv (fun b => L0 b ∨ b = A) l6 σ4) H6 dn vs := fun {l6 H6 r v} q => by
        have q5 := p5.trans q.st
        refine ⟨q5.keep A _ eA fun z => ?_, Reps.keep q5.kp q5.lv _ _ rd⟩
        obtain ⟨i', b', es', f1, f2⟩ := z
        obtain ⟨a, ws, g1, g2, g3, _⟩ := lp.rel.own _ _ _ f1
        rw [f2] at g1; cases g1
        exact g3 (.inr rfl)
      split at e3
      · cases e3
      · rename_i l4 e5
        refine ⟨_, l3, true, l4, p5.rel, e5, fun H5 q5 => ?_⟩
        refine iteT ?_
        split at e3
        · cases e3
        · rename_i r l5 e6
          split at e3
          · cases e3
          · rename_i d' e7
            split at e3
            · cases e3
            · rename_i es l6 e8
              cases e3
              refine ⟨_, l4, r, l5, q5.rel, e6, fun y H6 q6 => ?_⟩
              have q7 := q5.trans q6
              obtain ⟨k1, k2⟩ := kept q7
              obtain ⟨f1, f2⟩ := fin q7
              have hl := k2.length
              refine ⟨vs, k1, big_lt (by omega), wipeL l5 own, dn ++ [d'], vs ++ [y], es, ⟨f1.rel.other (.inr rfl), fun b o e n nb => by rw [upd_ne nb]; exact f1.keep b o e n nb, f1.own, fun b o e => ?_, f1.pin, f1.fix, f1.fr⟩, upd_same, ?_, e8, by rw [ed]; simp, by simp; omega⟩
              · by_cases z : b = A
                · subst z; exact ⟨_, upd_same⟩
                · rw [upd_ne z]; exact f1.there b o e
              · have rr : Reps P (Lv (fun b => L0 b ∨ b = A) l5 σ4) H6 (dn ++ [d']) (vs ++ [y]) := k2.append (Reps.cons (toVal_rep q6.rep e7) Reps.nil)
                refine Reps.keep (fun b o e n => ?_) (fun b z => .inl (f2 b z)) _ _ rr
                rw [upd_ne (fun z => n (.inl (.inr z)))]; exact e
      · rename_i l4 e5
        refine ⟨_, l3, false, l4, p5.rel, e5, fun H5 q5 => ?_⟩
        refine iteF ?_
        obtain ⟨k1, k2⟩ := kept q5
        obtain ⟨f1, f2⟩ := fin q5
        exact ⟨wipeL l4 own, dn, vs, rest, f1, k1, Reps.weak f2 k2, e3, ed, by omega⟩
  · have hx : i = items.length := by omega
    subst hx
    rw [List.drop_length] at e3
    cases e3
    rw [List.append_nil] at ed
    subst ed
    have lenf : lf.length = l1.length := by have := lp.rel.len; rw [wipe_length] at this; omega
    have lb : ∀ {i : Nat} {s : Slot}, (back l1 lf own)[i]? = some s → (∀ b ds, s ≠ .own b ds) ∨ (i ∉ own ∧ lf[i]? = some s ∧ (wipe σ own)[i]? = σ[i]?) := fun {i s} e => by
      by_cases h : i ∈ own
      · have hl : i < l1.length := (freeD_spec (hf i h)).1
        rw [back_in lenf h hl] at e
        exact .inl fun b ds z => (freeD_spec (hf i h)).2.1 b ds (by rw [e, z])
      · rw [back_out h] at e
        exact .inr ⟨h, e, wipe_out' h⟩
    have ob : ∀ c, OwnAt (back l1 lf own) σ c → OwnAt lf (wipe σ own) c := fun c ⟨i, b, ds, f1, f2⟩ => by
      rcases lb f1 with z | ⟨z1, z2, z3⟩
      · exact absurd rfl (z b ds)
      · exact ⟨i, b, ds, z2, by rw [z3]; exact f2⟩
    have lvb : ∀ c, Lv (fun b => L0 b ∨ b = A) (back l1 lf own) σ c → Lv (fun b => L0 b ∨ b = A) lf (wipe σ own) c := fun c z => z.imp id (ob c)
    have Rb : Rel P (fun b => L0 b ∨ b = A) (back l1 lf own) σ H2 := by
      refine ⟨by rw [back_len]; omega, lp.rel.l0, fun i d e => ?_, fun i b ds e => ?_, fun i j b c ds es a f1 f2 f3 f4 => ?_, fun i ns e => ?_⟩
      · by_cases h : i ∈ own
        · have hl : i < l1.length := (freeD_spec (hf i h)).1
          rw [back_in lenf h hl] at e
          obtain ⟨v, g1, r⟩ := p1.rel.dat i d e
          exact ⟨v, g1, Rep.keep (fun c o e n => kp1 c o e fun z => n (.inr z)) (fun c z => lvl c (lvb c z)) d v r⟩
        · rw [back_out h] at e
          obtain ⟨v, g1, r⟩ := lp.rel.dat i d e
          exact ⟨v, by rw [← wipe_out' h]; exact g1, Rep.weak lvb r⟩
      · rcases lb e with z | ⟨z1, z2, z3⟩
        · exact absurd rfl (z b ds)
        · obtain ⟨a, ws, g1, g2, g3, g4⟩ := lp.rel.own i b ds z2
          exact ⟨a, ws, by rw [← z3]; exact g1, g2, g3, Reps.weak lvb g4⟩
      · rcases lb f1 with z | ⟨z1, z2, z3⟩
        · exact absurd rfl (z _ _)
        rcases lb f2 with z | ⟨y1, y2, y3⟩
        · exact absurd rfl (z _ _)
        exact lp.rel.inj _ _ _ _ _ _ _ z2 y2 (by rw [z3]; exact f3) (by rw [y3]; exact f4)
      · by_cases h : i ∈ own
        · have hl : i < l1.length := (freeD_spec (hf i h)).1
          rw [back_in lenf h hl] at e
          exact absurd e ((freeD_spec (hf i h)).2.2 ns)
        · rw [back_out h] at e
          obtain ⟨a, g1, h1⟩ := lp.rel.scr i ns e
          exact ⟨a, by rw [← wipe_out' h]; exact g1, h1.keep (fun _ _ z _ => z) fun b z => .inl (lvb b z)⟩
    refine .inl ⟨ok2.2 (Nat.le_refl _), k _ _ (p1.trans ⟨Rb.less fun b z => .inl z, kp1, fun c z => own1 c (ob c z), ⟨A, vs, rfl, eA, fun z => ?_, ?_, Rb⟩, th1, fun _ c _ e => by cases e; exact hA, fun j es e => ?_, fun j s e ns => ?_⟩)⟩
    · rcases z with z | z
      · exact nA1 (.inl z)
      · exact nA1 (.inr (own1 A (ob A z)))
    · refine Reps.weak (fun c z => ?_) rd
      rcases z with z | rfl
      · exact lvb c (z.imp .inl id)
      · exact .inl (.inr rfl)
    · have hj : j ∉ own := fun z => (freeD_spec (hf j z)).2.1 _ _ e
      obtain ⟨es', e'⟩ := lp.pin j es (by rw [wipeL_out hj]; exact e)
      exact ⟨es', by rw [back_out hj]; exact e'⟩
    · by_cases hj : j ∈ own
      · rw [back_in lenf hj (freeD_spec (hf j hj)).1]; exact e
      · rw [back_out hj]
        exact lp.fix j s hj (by rw [wipeL_out hj]; exact e) ns
end MP
namespace MP
open PySem PySem.Spec PyProof.Rows L2
variable {P : RP} {L L' : Addr → Prop} {H H' : Hp} {L0 : Addr → Prop} {loc loc' : Loc} {σ σ' : Sg}
theorem LcP.frD {own : List Nat} {A : Addr} (q : LcP P L0 own (wipeL loc own) σ H A loc' H') {i : Nat} (h : freeD loc i = true) : freeD loc' i = true := by
  by_cases hi : i ∈ own
  · exact q.fr i hi
  · obtain ⟨hl, h1, h2⟩ := freeD_spec h
    have e := List.getElem?_eq_getElem hl
    have e' := q.fix i _ hi (by rw [wipeL_out hi]; exact e) fun b ds z => h1 b ds (by rw [e, z])
    unfold freeD at h ⊢
    rw [e] at h
    rw [e']
    exact h
/-- the inner loop of a comprehension with two sources: more items to a list that is there -/
theorem lc_inner {gi : Loc → Option (List D × Loc)} {p : Pat} {gc : Loc → Option (Bool × Loc)} {ge : Loc → Option (R × Loc)} {own : List Nat} (hp : ∀ i ∈ pslots p, i ∈ own) {l l1 lf : Loc} {items dn es : List D} {vs : List V} {A : Addr} {Nx : Hp → Prop}
    (hA : L0 A) (R : Rel P L0 l σ H) (eA : H A = some (.lst vs)) (rd : Reps P (Lv L0 l σ) H dn vs) (e1 : gi l = some (items, l1)) (hf : ∀ i ∈ own, freeD l1 i = true) (hbig : items.length ≤ big) (run : lcRun own p gc ge items (wipeL l1 own) = some (es, lf)) (hlen : dn.length + es.length ≤ big)
    (k : ∀ H1 H' vs', EvPost P L0 l σ H l1 (.val .non) .non H1 → LcP P L0 own (wipeL l1 own) (wipe σ own) H1 A lf H' → H' A = some (.lst vs') → Reps P (Lv L0 lf (wipe σ own)) H' (dn ++ es) vs' → Nx H') :
    tI P gi σ H fun J H1 => ∃ W : Nat → Nat → Hp → Prop, (∃ m, W 0 m H1) ∧ ∀ i m H, W i m H → (J.stop i H ∧ Nx H) ∨ (J.go i H ∧ ∃ Nx1 : Hp → Prop, (∀ H', Nx1 H' → ∃ m', m' < m ∧ W (i + 1) m' H') ∧ ∀ x H', J.yld i H x H' → tG P p x (wipe σ own) H' fun σ2 H2 => wipe σ2 own = wipe σ own ∧ tT P gc σ2 H2 fun b H3 =>
      if b = true then tE P ge σ2 H3 fun y H4 => ∃ acc, H4 A = some (.lst acc) ∧ acc.length < sizeLine ∧ Nx1 (upd H4 A (.lst (acc ++ [y]))) else Nx1 H3) := by
  refine ⟨L0, l, items, l1, R, e1, fun J H1 p1 ok => ?_⟩
  have Rw := p1.rel.wiped (vs := own) hf
  have ow := own_wipe (σ := σ) hf
  have nA : ∀ {l2 : Loc} {s2 : Sg} {h2 : Hp}, Rel P L0 l2 s2 h2 → ¬ OwnAt l2 s2 A := fun {l2 s2 h2} R2 z => by
    obtain ⟨i', b', es', f1, f2⟩ := z
    obtain ⟨a, ws, g1, g2, g3, _⟩ := R2.own _ _ _ f1
    rw [f2] at g1; cases g1
    exact g3 hA
  have frw : ∀ i ∈ own, freeD (wipeL l1 own) i = true := fun i hi => by
    unfold freeD
    rw [wipeL_in hi (freeD_spec (hf i hi)).1]
  have k1 : LcP P L0 own (wipeL l1 own) (wipe σ own) H1 A (wipeL l1 own) H1 := ⟨Rw, fun _ _ e _ _ => e, fun _ z => z, fun _ o e => ⟨o, e⟩, fun _ ds e => ⟨ds, e⟩, fun _ _ _ e _ => e, frw⟩
  have eA1 : H1 A = some (.lst vs) := p1.keep A _ eA (nA R)
  have rd1 : Reps P (Lv L0 (wipeL l1 own) (wipe σ own)) H1 dn vs := by
    refine Reps.keep p1.kp (fun b z => ?_) _ _ rd
    rcases z with z | z
    · exact .inl (.inl z)
    · exact .inl (.inr (p1.own b ((ow b).mp z)))
  refine ⟨fun i m H2 => m = items.length - i ∧ i ≤ items.length ∧ ∃ l2 dn' vs' rest, LcP P L0 own (wipeL l1 own) (wipe σ own) H1 A l2 H2 ∧ H2 A = some (.lst vs') ∧ Reps P (Lv L0 l2 (wipe σ own)) H2 dn' vs' ∧
      lcRun own p gc ge (items.drop i) l2 = some (rest, lf) ∧ dn ++ es = dn' ++ rest, ⟨_, rfl, Nat.zero_le _, wipeL l1 own, dn, vs, es, k1, eA1, rd1, by rw [List.drop_zero]; exact run, rfl⟩, ?_⟩
  rintro i m H2 ⟨rfl, hi, l2, dn', vs', rest, lp, eA2, rd2, e3, ed⟩
  have lenb : dn'.length + rest.length ≤ big := by
    have := congrArg List.length ed
    rw [List.length_append, List.length_append] at this
    omega
  have ok2 := ok H2 (fun c o e n => lp.keep c o e (fun z => n (.inr ((ow c).mp z))) fun z => n (.inl (z ▸ hA))) i
  have lvl : ∀ b, Lv L0 l2 (wipe σ own) b → Lv L0 l1 σ b ∨ H1 b = none := fun b z => by
    rcases z with z | z
    · exact .inl (.inl z)
    · exact .inl (.inr ((ow b).mp (lp.own b z)))
  by_cases hlt : i < items.length
  · obtain ⟨go, yld⟩ := ok2.1 hlt
    refine .inr ⟨go, fun H' => ∃ l' dn'' vs'' rest', LcP P L0 own (wipeL l1 own) (wipe σ own) H1 A l' H' ∧ H' A = some (.lst vs'') ∧ Reps P (Lv L0 l' (wipe σ own)) H' dn'' vs'' ∧
      lcRun own p gc ge (items.drop (i + 1)) l' = some (rest', lf) ∧ dn ++ es = dn'' ++ rest', fun H' q => ⟨_, by omega, rfl, hlt, q⟩, fun x H3 y => ?_⟩
    obtain ⟨sm, d, edd, rp⟩ := yld x H3 y
    have hd : items.drop i = d :: items.drop (i + 1) := by
      have := List.drop_eq_getElem_cons hlt
      rw [List.getElem?_eq_getElem hlt] at edd
      cases edd
      exact this
    rw [hd] at e3
    simp only [lcRun] at e3
    split at e3
    · cases e3
    · rename_i l3 e4
      have g3 := StPost.grew lp.rel sm
      obtain ⟨bl, bo, bf⟩ := bind_slots e4
      refine ⟨_, l2, d, l3, g3.rel, rp _ lvl (fun b z => lp.rel.lv z), e4, fun σ4 p4 hl4 ho4 => ?_⟩
      have p5 := g3.trans p4
      have ew : wipe σ4 own = wipe σ own := (wipe_eq hl4 fun i hi => ho4 i fun z => hi (hp i z)).trans wipe_wipe
      refine ⟨ew, ?_⟩
      have own4 : ∀ b, OwnAt l3 σ4 b → OwnAt l2 (wipe σ own) b := fun b z => by
        rcases p4.own b z with y | y
        · exact y
        · obtain ⟨o, e⟩ := p4.rel.lv (.inr z)
          rw [y] at e; cases e
      have fin : ∀ {l6 : Loc} {H6 : Hp} {r : MP.R} {v : V}, EvPost P L0 l3 σ4 H3 l6 r v H6 →
          LcP P L0 own (wipeL l1 own) (wipe σ own) H1 A (wipeL l6 own) H6 ∧ (∀ b, Lv L0 (wipeL l6 own) (wipe σ own) b → Lv L0 l6 σ4 b) := fun {l6 H6 r v} q => by
        have hf6 : ∀ j ∈ own, freeD l6 j = true := fun j hj => q.frD (bf j (lp.fr j hj))
        have R6 := q.rel.wiped (vs := own) hf6
        rw [ew] at R6
        have ow6 := own_wipe (loc := l6) (σ := σ4) hf6
        rw [ew] at ow6
        have q5 := p5.trans q.st
        refine ⟨⟨R6, fun b o e n nb => ?_, fun b z => ?_, fun b o e => ?_, fun j es e => ?_, fun j s hj e ns => ?_, fun j hj => ?_⟩, fun b z => z.imp id (ow6 b).mp⟩
        · exact q5.keep b o (lp.keep b o e n nb) fun z => n (lp.own b z)
        · exact lp.own b (own4 b (q.own b ((ow6 b).mp z)))
        · obtain ⟨o', e'⟩ := lp.there b o e
          exact q5.there b o' e'
        · obtain ⟨es', e'⟩ := lp.pin j es e
          obtain ⟨es2, e2', _⟩ := q5.pin j es' e'
          have hj : j ∉ own := fun z => (freeD_spec (hf6 j z)).2.1 _ _ e2'
          exact ⟨es2, by rw [wipeL_out hj]; exact e2'⟩
        · rw [wipeL_out hj]
          refine q.fix j s ?_ ns
          rw [bo j fun z => hj (hp j z)]
          exact lp.fix j s hj e ns
        · unfold freeD
          rw [wipeL_in hj (freeD_spec (hf6 j hj)).1]
      have kept : ∀ {l6 : Loc} {H6 : Hp} {r : MP.R} {v : V}, EvPost P L0 l3 σ4 H3 l6 r v H6 → H6 A = some (.lst vs') ∧ Reps P (Lv L0 l6 σ4) H6 dn' vs' := fun {l6 H6 r v} q => by
        have q5 := p5.trans q.st
        exact ⟨q5.keep A _ eA2 (nA lp.rel), Reps.keep q5.kp q5.lv _ _ rd2⟩
      split at e3
      · cases e3
      · rename_i l4 e5
        refine ⟨_, l3, true, l4, p5.rel, e5, fun H5 q5 => ?_⟩
        refine iteT ?_
        split at e3
        · cases e3
        · rename_i r l5 e6
          split at e3
          · cases e3
          · rename_i d' e7
            split at e3
            · cases e3
            · rename_i es' l6 e8
              cases e3
              refine ⟨_, l4, r, l5, q5.rel, e6, fun y H6 q6 => ?_⟩
              have q7 := q5.trans q6
              obtain ⟨k1, k2⟩ := kept q7
              obtain ⟨f1, f2⟩ := fin q7
              have hl := k2.length
              refine ⟨vs', k1, big_lt (by simp at lenb; omega), wipeL l5 own, dn' ++ [d'], vs' ++ [y], es', ⟨f1.rel.other hA, fun b o e n nb => by rw [upd_ne nb]; exact f1.keep b o e n nb, f1.own, fun b o e => ?_, f1.pin, f1.fix, f1.fr⟩, upd_same, ?_, e8, by rw [ed]; simp⟩
              · by_cases z : b = A
                · subst z; exact ⟨_, upd_same⟩
                · rw [upd_ne z]; exact f1.there b o e
              · have rr : Reps P (Lv L0 l5 σ4) H6 (dn' ++ [d']) (vs' ++ [y]) := k2.append (Reps.cons (toVal_rep q6.rep e7) Reps.nil)
                refine Reps.keep (fun b o e n => ?_) (fun b z => .inl (f2 b z)) _ _ rr
                rw [upd_ne (fun z => n (.inl (by rw [z]; exact hA)))]; exact e
      · rename_i l4 e5
        refine ⟨_, l3, false, l4, p5.rel, e5, fun H5 q5 => ?_⟩
        refine iteF ?_
        obtain ⟨k1, k2⟩ := kept q5
        obtain ⟨f1, f2⟩ := fin q5
        exact ⟨wipeL l4 own, dn', vs', rest, f1, k1, Reps.weak f2 k2, e3, ed⟩
  · have hx : i = items.length := by omega
    subst hx
    rw [List.drop_length] at e3
    cases e3
    rw [List.append_nil] at ed
    subst ed
    exact .inl ⟨ok2.2 (Nat.le_refl _), k H1 H2 vs' p1 lp eA2 rd2⟩
theorem lc2_read {gi gi1 : Loc → Option (List D × Loc)} {p p' : Pat} {gc gc1 : Loc → Option (Bool × Loc)} {ge g : Loc → Option (R × Loc)} {own own1 : List Nat} (hp : ∀ i ∈ pslots p, i ∈ own) (hp1 : ∀ i ∈ pslots p', i ∈ own1) (hs : ∀ i ∈ own1, i ∈ own)
    (hg : ∀ loc r loc', g loc = some (r, loc') → ∃ items l1 ds l2, gi loc = some (items, l1) ∧ (∀ i ∈ own, freeD l1 i = true) ∧ items.length ≤ big ∧ ds.length ≤ big ∧ lc2Run own p gc own1 gi1 p' gc1 ge items (wipeL l1 own) = some (ds, l2) ∧ r = .new ds ∧ loc' = back l1 l2 own)
    {Q : VK} (h : tE P g σ H Q) : tLc2 (tI P gi) (tG P p) (tT P gc) (tI P gi1) (tG P p') (tT P gc1) (tE P ge) own own1 σ H Q := by
  obtain ⟨L0, loc, r, loc', R, e, k⟩ := h
  obtain ⟨items, l1, ds, lf, e1, hf, hbig, hbds, e2, rfl, rfl⟩ := hg _ _ _ e
  refine ⟨L0, loc, items, l1, R, e1, fun J H1 p1 ok A hA => ?_⟩
  have sA : Same H1 (upd H1 A (.lst [])) := same_upd hA
  have RA : Rel P (fun b => L0 b ∨ b = A) l1 σ (upd H1 A (.lst [])) := by
    refine p1.rel.grow sA (fun b z => ?_) fun b z => ?_
    · rcases z with z | rfl
      · exact .inl z
      · exact .inr hA
    · rcases z with z | rfl
      · obtain ⟨o, e⟩ := p1.rel.l0 b z; exact ⟨o, sA _ _ e⟩
      · exact ⟨_, upd_same⟩
  have Rw := RA.wiped (vs := own) hf
  have ow := own_wipe (σ := σ) hf
  have len1 : l1.length = σ.length := p1.rel.len
  have frw : ∀ i ∈ own, freeD (wipeL l1 own) i = true := fun i hi => by
    unfold freeD
    rw [wipeL_in hi (freeD_spec (hf i hi)).1]
  have nA1 : ¬ Lv L0 l1 σ A := fun z => by obtain ⟨o, e⟩ := p1.rel.lv z; rw [hA] at e; cases e
  refine ⟨fun i m H2 => m = items.length - i ∧ i ≤ items.length ∧ ∃ l2 dn vs rest, LcP P (fun b => L0 b ∨ b = A) own (wipeL l1 own) (wipe σ own) (upd H1 A (.lst [])) A l2 H2 ∧ H2 A = some (.lst vs) ∧
      Reps P (Lv (fun b => L0 b ∨ b = A) l2 (wipe σ own)) H2 dn vs ∧ lc2Run own p gc own1 gi1 p' gc1 ge (items.drop i) l2 = some (rest, lf) ∧ ds = dn ++ rest,
    ⟨_, rfl, Nat.zero_le _, wipeL l1 own, [], [], ds, ⟨Rw, fun _ _ e _ _ => e, fun _ z => z, fun _ o e => ⟨o, e⟩, fun _ ds e => ⟨ds, e⟩, fun _ _ _ e _ => e, frw⟩, upd_same, Reps.nil, by rw [List.drop_zero]; exact e2, rfl⟩, ?_⟩
  rintro i m H2 ⟨rfl, hi, l2, dn, vs, rest, lp, eA, rd, e3, ed⟩
  -- from the heap ahead of the new list
  have kp1 : ∀ c o, H1 c = some o → ¬ OwnAt l1 σ c → H2 c = some o := fun c o e n => by
    have hc : c ≠ A := fun z => by rw [z, hA] at e; cases e
    exact lp.keep c o (sA _ _ e) (fun z => n ((ow c).mp z)) hc
  have th1 : ∀ c o, H1 c = some o → ∃ o', H2 c = some o' := fun c o e => lp.there c o (sA _ _ e)
  have ownC : ∀ c, OwnAt l2 (wipe σ own) c → OwnAt l1 σ c := fun c z => (ow c).mp (lp.own c z)
  have ok2 := ok H2 (fun c o e n => kp1 c o e fun z => n (.inr z)) i
  have lvl : ∀ b, Lv (fun b => L0 b ∨ b = A) l2 (wipe σ own) b → Lv L0 l1 σ b ∨ H1 b = none := fun b z => by
    rcases z with (z | rfl) | z
    · exact .inl (.inl z)
    · exact .inr hA
    · exact .inl (.inr (ownC b z))
  by_cases hlt : i < items.length
  · obtain ⟨go, yld⟩ := ok2.1 hlt
    refine .inr ⟨go, fun H' => ∃ l' dn' vs' rest', LcP P (fun b => L0 b ∨ b = A) own (wipeL l1 own) (wipe σ own) (upd H1 A (.lst [])) A l' H' ∧ H' A = some (.lst vs') ∧
      Reps P (Lv (fun b => L0 b ∨ b = A) l' (wipe σ own)) H' dn' vs' ∧ lc2Run own p gc own1 gi1 p' gc1 ge (items.drop (i + 1)) l' = some (rest', lf) ∧ ds = dn' ++ rest', fun H' q => ⟨_, by omega, rfl, hlt, q⟩, fun x H3 y => ?_⟩
    obtain ⟨sm, d, edd, rp⟩ := yld x H3 y
    have hd : items.drop i = d :: items.drop (i + 1) := by
      have := List.drop_eq_getElem_cons hlt
      rw [List.getElem?_eq_getElem hlt] at edd
      cases edd
      exact this
    rw [hd] at e3
    simp only [lc2Run] at e3
    split at e3
    · cases e3
    · rename_i l3 e4
      have g3 := StPost.grew lp.rel sm
      obtain ⟨bl, bo, bf⟩ := bind_slots e4
      refine ⟨_, l2, d, l3, g3.rel, rp _ lvl (fun b z => lp.rel.lv z), e4, fun σ4 p4 hl4 ho4 => ?_⟩
      have p5 := g3.trans p4
      have ew : wipe σ4 own = wipe σ own := (wipe_eq hl4 fun i hi => ho4 i fun z => hi (hp i z)).trans wipe_wipe
      refine ⟨ew, ?_⟩
      have own4 : ∀ b, OwnAt l3 σ4 b → OwnAt l2 (wipe σ own) b := fun b z => by
        rcases p4.own b z with y | y
        · exact y
        · obtain ⟨o, e⟩ := p4.rel.lv (.inr z)
          rw [y] at e; cases e
      -- a step's end, from the state ahead of it
      have fin : ∀ {l6 : Loc} {H6 : Hp} {r : MP.R} {v : V}, EvPost P (fun b => L0 b ∨ b = A) l3 σ4 H3 l6 r v H6 →
          LcP P (fun b => L0 b ∨ b = A) own (wipeL l1 own) (wipe σ own) (upd H1 A (.lst [])) A (wipeL l6 own) H6 ∧ (∀ b, Lv (fun b => L0 b ∨ b = A) (wipeL l6 own) (wipe σ own) b → Lv (fun b => L0 b ∨ b = A) l6 σ4 b) := fun {l6 H6 r v} q => by
        have hf6 : ∀ j ∈ own, freeD l6 j = true := fun j hj => q.frD (bf j (lp.fr j hj))
        have R6 := q.rel.wiped (vs := own) hf6
        rw [ew] at R6
        have ow6 := own_wipe (loc := l6) (σ := σ4) hf6
        rw [ew] at ow6
        have q5 := p5.trans q.st
        refine ⟨⟨R6, fun b o e n nb => ?_, fun b z => ?_, fun b o e => ?_, fun j es e => ?_, fun j s hj e ns => ?_, fun j hj => ?_⟩, fun b z => z.imp id (ow6 b).mp⟩
        · exact q5.keep b o (lp.keep b o e n nb) fun z => n (lp.own b z)
        · exact lp.own b (own4 b (q.own b ((ow6 b).mp z)))
        · obtain ⟨o', e'⟩ := lp.there b o e
          exact q5.there b o' e'
        · obtain ⟨es', e'⟩ := lp.pin j es e
          obtain ⟨es2, e2', _⟩ := q5.pin j es' e'
          have hj : j ∉ own := fun z => (freeD_spec (hf6 j z)).2.1 _ _ e2'
          exact ⟨es2, by rw [wipeL_out hj]; exact e2'⟩
        · rw [wipeL_out hj]
          refine q.fix j s ?_ ns
          rw [bo j fun z => hj (hp j z)]
          exact lp.fix j s hj e ns
        · unfold freeD
          rw [wipeL_in hj (freeD_spec (hf6 j hj)).1]
      -- the new list's items so far, behind a step
      have kept : ∀ {l6 : Loc} {H6 : Hp} {r : MP.R} {v : V}, EvPost P (fun b => L0 b ∨ b = A) l3 σ4 H3 l6 r v H6 → H6 A = some (.lst vs) ∧ Reps P (Lv (fun b => L0 b ∨ b = A) l6 σ4) H6 dn vs := fun {l6 H6 r v} q => by
        have q5 := p5.trans q.st
        refine ⟨q5.keep A _ eA fun z => ?_, Reps.keep q5.kp q5.lv _ _ rd⟩
        obtain ⟨i', b', es', f1, f2⟩ := z
        obtain ⟨a, ws, g1, g2, g3, _⟩ := lp.rel.own _ _ _ f1
        rw [f2] at g1; cases g1
        exact g3 (.inr rfl)
      split at e3
      · cases e3
      · rename_i l4 e5
        refine ⟨_, l3, true, l4, p5.rel, e5, fun H5 q5 => ?_⟩
        refine iteT ?_
        split at e3
        · cases e3
        · rename_i items1 l5 e6
          split at e3
          · rename_i hc1
            simp only [Bool.and_eq_true, List.all_eq_true, decide_eq_true_eq] at hc1
            split at e3
            · cases e3
            · rename_i es l6 e7
              split at e3
              · cases e3
              · rename_i es' l7 e8
                cases e3
                obtain ⟨k1, k2⟩ := kept q5
                have hdl := congrArg List.length ed
                rw [List.length_append, List.length_append] at hdl
                refine lc_inner (L0 := fun b => L0 b ∨ b = A) (A := A) hp1 (.inr rfl) q5.rel k1 k2 e6 hc1.1 hc1.2 e7 (by omega) fun Ha H' vs' pa lq eA' rd' => ?_
                have q6 := q5.trans pa
                have hf6 : ∀ j ∈ own, freeD l6 j = true := fun j hj => lq.frD (q6.frD (bf j (lp.fr j hj)))
                have R6 := lq.rel.wiped (vs := own) hf6
                have ww : wipe (wipe σ4 own1) own = wipe σ own := by
                  rw [← ew]
                  refine wipe_eq (wipe_length σ4 own1) fun i hi => wipe_out' fun z => hi (hs i z)
                rw [ww] at R6
                have ow5 := own_wipe (loc := l5) (σ := σ4) (vs := own1) hc1.1
                have ow6 := own_wipe (loc := l6) (σ := wipe σ4 own1) hf6
                rw [ww] at ow6
                have q7 := p5.trans q6.st
                refine ⟨wipeL l6 own, dn ++ es, vs', es', ⟨R6, fun b o e n nb => ?_, fun b z => ?_, fun b o e => ?_, fun j es e => ?_, fun j s hj e ns => ?_, fun j hj => ?_⟩, eA', Reps.weak (fun b z => z.imp id (ow6 b).mp) rd', e8, by rw [ed, List.append_assoc]⟩
                · refine lq.keep b o (q7.keep b o (lp.keep b o e n nb) fun z => n (lp.own b z)) (fun z => n (lp.own b (own4 b (q6.own b ((ow5 b).mp z))))) nb
                · exact lp.own b (own4 b (q6.own b ((ow5 b).mp (lq.own b ((ow6 b).mp z)))))
                · obtain ⟨o', e'⟩ := lp.there b o e
                  obtain ⟨o2, e2'⟩ := q7.there b o' e'
                  exact lq.there b o2 e2'
                · obtain ⟨es1, e1'⟩ := lp.pin j es e
                  obtain ⟨es2, e2', _⟩ := q7.pin j es1 e1'
                  have hj5 : j ∉ own1 := fun z => (freeD_spec (hc1.1 j z)).2.1 _ _ e2'
                  obtain ⟨es3, e3'⟩ := lq.pin j es2 (by rw [wipeL_out hj5]; exact e2')
                  have hj : j ∉ own := fun z => (freeD_spec (hf6 j z)).2.1 _ _ e3'
                  exact ⟨es3, by rw [wipeL_out hj]; exact e3'⟩
                · rw [wipeL_out hj]
                  have hj1 : j ∉ own1 := fun z => hj (hs j z)
                  refine lq.fix j s hj1 ?_ ns
                  rw [wipeL_out hj1]
                  refine q6.fix j s ?_ ns
                  rw [bo j fun z => hj (hp j z)]
                  exact lp.fix j s hj e ns
                · unfold freeD
                  rw [wipeL_in hj (freeD_spec (hf6 j hj)).1]
          · cases e3
      · rename_i l4 e5
        refine ⟨_, l3, false, l4, p5.rel, e5, fun H5 q5 => ?_⟩
        refine iteF ?_
        obtain ⟨k1, k2⟩ := kept q5
        obtain ⟨f1, f2⟩ := fin q5
        exact ⟨wipeL l4 own, dn, vs, rest, f1, k1, Reps.weak f2 k2, e3, ed⟩
  · have hx : i = items.length := by omega
    subst hx
    rw [List.drop_length] at e3
    cases e3
    rw [List.append_nil] at ed
    subst ed
    have lenf : lf.length = l1.length := by have := lp.rel.len; rw [wipe_length] at this; omega
    have lb : ∀ {i : Nat} {s : Slot}, (back l1 lf own)[i]? = some s → (∀ b ds, s ≠ .own b ds) ∨ (i ∉ own ∧ lf[i]? = some s ∧ (wipe σ own)[i]? = σ[i]?) := fun {i s} e => by
      by_cases h : i ∈ own
      · have hl : i < l1.length := (freeD_spec (hf i h)).1
        rw [back_in lenf h hl] at e
        exact .inl fun b ds z => (freeD_spec (hf i h)).2.1 b ds (by rw [e, z])
      · rw [back_out h] at e
        exact .inr ⟨h, e, wipe_out' h⟩
    have ob : ∀ c, OwnAt (back l1 lf own) σ c → OwnAt lf (wipe σ own) c := fun c ⟨i, b, ds, f1, f2⟩ => by
      rcases lb f1 with z | ⟨z1, z2, z3⟩
      · exact absurd rfl (z b ds)
      · exact ⟨i, b, ds, z2, by rw [z3]; exact f2⟩
    have lvb : ∀ c, Lv (fun b => L0 b ∨ b = A) (back l1 lf own) σ c → Lv (fun b => L0 b ∨ b = A) lf (wipe σ own) c := fun c z => z.imp id (ob c)
    have Rb : Rel P (fun b => L0 b ∨ b = A) (back l1 lf own) σ H2 := by
      refine ⟨by rw [back_len]; omega, lp.rel.l0, fun i d e => ?_, fun i b ds e => ?_, fun i j b c ds es a f1 f2 f3 f4 => ?_, fun i ns e => ?_⟩
      · by_cases h : i ∈ own
        · have hl : i < l1.length := (freeD_spec (hf i h)).1
          rw [back_in lenf h hl] at e
          obtain ⟨v, g1, r⟩ := p1.rel.dat i d e
          exact ⟨v, g1, Rep.keep (fun c o e n => kp1 c o e fun z => n (.inr z)) (fun c z => lvl c (lvb c z)) d v r⟩
        · rw [back_out h] at e
          obtain ⟨v, g1, r⟩ := lp.rel.dat i d e
          exact ⟨v, by rw [← wipe_out' h]; exact g1, Rep.weak lvb r⟩
      · rcases lb e with z | ⟨z1, z2, z3⟩
        · exact absurd rfl (z b ds)
        · obtain ⟨a, ws, g1, g2, g3, g4⟩ := lp.rel.own i b ds z2
          exact ⟨a, ws, by rw [← z3]; exact g1, g2, g3, Reps.weak lvb g4⟩
      · rcases lb f1 with z | ⟨z1, z2, z3⟩
        · exact absurd rfl (z _ _)
        rcases lb f2 with z | ⟨y1, y2, y3⟩
        · exact absurd rfl (z _ _)
        exact lp.rel.inj _ _ _ _ _ _ _ z2 y2 (by rw [z3]; exact f3) (by rw [y3]; exact f4)
      · by_cases h : i ∈ own
        · have hl : i < l1.length := (freeD_spec (hf i h)).1
          rw [back_in lenf h hl] at e
          exact absurd e ((freeD_spec (hf i h)).2.2 ns)
        · rw [back_out h] at e
          obtain ⟨a, g1, h1⟩ := lp.rel.scr i ns e
          exact ⟨a, by rw [← wipe_out' h]; exact g1, h1.keep (fun _ _ z _ => z) fun b z => .inl (lvb b z)⟩
    refine .inl ⟨ok2.2 (Nat.le_refl _), k _ _ (p1.trans ⟨Rb.less fun b z => .inl z, kp1, fun c z => ownC c (ob c z), ⟨A, vs, rfl, eA, fun z => ?_, ?_, Rb⟩, th1, fun _ c _ e => by cases e; exact hA, fun j es e => ?_, fun j s e ns => ?_⟩)⟩
    · rcases z with z | z
      · exact nA1 (.inl z)
      · exact nA1 (.inr (ownC A (ob A z)))
    · refine Reps.weak (fun c z => ?_) rd
      rcases z with z | rfl
      · exact lvb c (z.imp .inl id)
      · exact .inl (.inr rfl)
    · have hj : j ∉ own := fun z => (freeD_spec (hf j z)).2.1 _ _ e
      obtain ⟨es', e'⟩ := lp.pin j es (by rw [wipeL_out hj]; exact e)
      exact ⟨es', by rw [back_out hj]; exact e'⟩
    · by_cases hj : j ∈ own
      · rw [back_in lenf hj (freeD_spec (hf j hj)).1]; exact e
      · rw [back_out hj]
        exact lp.fix j s hj (by rw [wipeL_out hj]; exact e) ns
end MP

namespace MP
open PySem PySem.Spec PyProof.Rows L2
/-! data without a list in it: more live lists do not touch it (a part of the way to borrowing) -/
variable {P : RP} {L L' : Addr → Prop} {H : Hp}
mutual
theorem Rep.ext (l : ∀ c, L' c → L c ∨ ∃ ws, H c = some (.lst ws)) : ∀ (d : D) (v : V), noLst d = true → Rep P L H d v → Rep P L' H d v
  | .non, _, _, h => by unfold Rep at h ⊢; exact h
  | .bl _, _, _, h => by unfold Rep at h ⊢; exact h
  | .int _, _, _, h => by unfold Rep at h ⊢; exact h
  | .str _, _, _, h => by unfold Rep at h ⊢; exact h
  | .lst _, _, n, _ => by simp [noLst] at n
  | .ins c fs, v, n, h => by
    unfold Rep at h ⊢
    obtain ⟨a, dx, vs, e, t, nL, hl, r⟩ := h
    refine ⟨a, dx, vs, e, t, fun z => ?_, hl, Reps.ext l fs vs (by simpa [noLst] using n) r⟩
    rcases l a z with z | ⟨ws, z⟩
    · exact nL z
    · rw [t] at z; cases z
  | .tup ds, v, n, h => by
    unfold Rep at h ⊢
    obtain ⟨a, vs, e, t, r⟩ := h
    refine ⟨a, vs, e, ?_, Reps.ext l ds vs (by simpa [noLst] using n) r⟩
    rcases t with ⟨t1, t2⟩ | t
    · refine .inl ⟨t1, fun z => ?_⟩
      rcases l a z with z | ⟨ws, z⟩
      · exact t2 z
      · rw [t1] at z; cases z
    · exact .inr t
theorem Reps.ext (l : ∀ c, L' c → L c ∨ ∃ ws, H c = some (.lst ws)) : ∀ (ds : List D) (vs : List V), noLsts ds = true → Reps P L H ds vs → Reps P L' H ds vs
  | [], _, _, h => by unfold Reps at h ⊢; exact h
  | d :: ds, vs, n, h => by
    have n' : noLst d = true ∧ noLsts ds = true := by simpa [noLsts] using n
    unfold Reps at h ⊢
    obtain ⟨v, r, e, h1, h2⟩ := h
    exact ⟨v, r, e, Rep.ext l d v n'.1 h1, Reps.ext l ds r n'.2 h2⟩
end

/-- the looks ahead of a thaw -/
def thawOk (i : Nat) (loc l2 : Loc) : Prop := ∀ j, j ≠ i → (∀ b es, l2[j]? = some (.own b es) → noLsts es = true) ∧ (∀ d, l2[j]? = some (.dat d) → loc[j]? = some (.dat d) ∨ noLst d = true) ∧ ∀ ns, l2[j]? = some (.scr ns) → loc[j]? = some (.scr ns)
theorem thaw_rel {L0 M0 : Addr → Prop} {loc l2 : Loc} {σ : Sg} {H H' : Hp} {i : Nat} {a : Addr} {ds : List D} {vs : List V} (R : Rel P L0 loc σ H) (R2 : Rel P M0 l2 σ H') (hi : i < l2.length) (ha : σ[i]? = some (some (.ref a))) (h1 : H' a = some (.lst vs)) (nM : ¬ M0 a) (nO : ¬ OwnAt l2 σ a)
    (rd : Reps P (Lv M0 l2 σ) H' ds vs) (nl : noLsts ds = true) (ok : thawOk i loc l2) (kp : ∀ b o, H b = some o → ¬ Lv L0 loc σ b → H' b = some o) (hl : ∀ b, Lv M0 (l2.set i (.own false ds)) σ b → Lv L0 loc σ b ∨ H b = none) : Rel P M0 (l2.set i (.own false ds)) σ H' := by
  have own : ∀ b, OwnAt (l2.set i (.own false ds)) σ b → OwnAt l2 σ b ∨ b = a := fun b ⟨j, b', es, e1, e2⟩ => by
    rcases getset e1 with ⟨rfl, _, _⟩ | ⟨_, e1⟩
    · rw [ha] at e2; cases e2; exact .inr rfl
    · exact .inl ⟨j, b', es, e1, e2⟩
  have lx : ∀ c, Lv M0 (l2.set i (.own false ds)) σ c → Lv M0 l2 σ c ∨ ∃ ws, H' c = some (.lst ws) := fun c z => by
    rcases z with z | z
    · exact .inl (.inl z)
    · rcases own c z with z | z
      · exact .inl (.inr z)
      · subst z; exact .inr ⟨_, h1⟩
  refine ⟨by rw [List.length_set]; exact R2.len, R2.l0, fun j d e => ?_, fun j b es e => ?_, fun j k b c es fs w e1 e2 e3 e4 => ?_, fun j ns e => ?_⟩
  · rcases getset e with ⟨_, z, _⟩ | ⟨ne, e⟩
    · cases z
    · rcases (ok j (Ne.symm ne)).2.1 d e with q | q
      · obtain ⟨v, g1, r⟩ := R.dat j d q
        exact ⟨v, g1, Rep.keep kp hl d v r⟩
      · obtain ⟨v, g1, r⟩ := R2.dat j d e
        exact ⟨v, g1, Rep.ext lx d v q r⟩
  · rcases getset e with ⟨rfl, z, _⟩ | ⟨ne, e⟩
    · cases z
      exact ⟨a, vs, ha, h1, nM, Reps.ext lx ds vs nl rd⟩
    · obtain ⟨c, ws, g1, g2, g3, g4⟩ := R2.own j b es e
      exact ⟨c, ws, g1, g2, g3, Reps.ext lx es ws ((ok j (Ne.symm ne)).1 b es e) g4⟩
  · rcases getset e1 with ⟨q1, _, _⟩ | ⟨n1, e1⟩ <;> rcases getset e2 with ⟨q2, _, _⟩ | ⟨n2, e2⟩
    · rw [← q1, ← q2]
    · subst q1
      rw [ha] at e3; cases e3
      exact absurd ⟨k, c, fs, e2, e4⟩ nO
    · subst q2
      rw [ha] at e4; cases e4
      exact absurd ⟨j, b, es, e1, e3⟩ nO
    · exact R2.inj _ _ _ _ _ _ _ e1 e2 e3 e4
  · rcases getset e with ⟨_, z, _⟩ | ⟨ne, e⟩
    · cases z
    · obtain ⟨c, g1, g2⟩ := R.scr j ns ((ok j (Ne.symm ne)).2.2 ns e)
      exact ⟨c, g1, g2.keep kp hl⟩

/-- a list that was handed in as plain data is the caller's own again -/
theorem thaw_post {L0 : Addr → Prop} {loc l2 : Loc} {σ : Sg} {H H' : Hp} {i : Nat} {ds0 ds : List D} {r : R} {v : V} (R : Rel P L0 loc σ H) (p : EvPost P L0 loc σ H l2 r v H') (hi : loc[i]? = some (.own false ds0)) (h2 : l2[i]? = some (.dat (.lst ds))) (nl : noLsts ds = true) (hr : thawR r = true) (ok : thawOk i loc l2) :
    EvPost P L0 loc σ H (l2.set i (.own false ds)) r v H' := by
  obtain ⟨a, vs0, ha, h0, n0, _⟩ := R.own _ _ _ hi
  obtain ⟨v', ha', rp⟩ := p.rel.dat i _ h2
  rw [ha] at ha'; cases ha'
  unfold Rep at rp
  obtain ⟨a', vs, ea, h1, nL, rd⟩ := rp
  cases ea
  have hl2 := lt_of_get h2
  have own : ∀ b, OwnAt (l2.set i (.own false ds)) σ b → OwnAt l2 σ b ∨ b = a := fun b ⟨j, b', es, e1, e2⟩ => by
    rcases getset e1 with ⟨rfl, _, _⟩ | ⟨_, e1⟩
    · rw [ha] at e2; cases e2; exact .inr rfl
    · exact .inl ⟨j, b', es, e1, e2⟩
  have own0 : ∀ b, OwnAt (l2.set i (.own false ds)) σ b → OwnAt loc σ b := fun b z => by
    rcases own b z with z | z
    · exact p.own b z
    · subst z; exact ⟨i, false, ds0, hi, ha⟩
  have nO : ¬ OwnAt l2 σ a := fun z => nL (.inr z)
  have lx : ∀ {M0 : Addr → Prop} (c), Lv M0 (l2.set i (.own false ds)) σ c → Lv M0 l2 σ c ∨ ∃ ws, H' c = some (.lst ws) := fun {M0} c z => by
    rcases z with z | z
    · exact .inl (.inl z)
    · rcases own c z with z | z
      · exact .inl (.inr z)
      · subst z; exact .inr ⟨_, h1⟩
  have rel := thaw_rel R p.rel hl2 ha h1 n0 nO rd nl ok p.kp (fun b z => .inl (z.imp id (own0 b)))
  refine ⟨rel, p.keep, own0, ?_, p.there, p.fresh, fun j es e => ?_, fun j s e ns => ?_⟩
  · cases r with
    | ref k => cases hr
    | val d => exact Rep.ext lx d v hr p.rep
    | new es =>
      obtain ⟨c, ws, rfl, g1, g2, g3, g4⟩ := p.rep
      have hc := p.fresh es c rfl rfl
      have ca : c ≠ a := fun z => by rw [z, h0] at hc; cases hc
      have lxe : ∀ b, (Lv L0 (l2.set i (.own false ds)) σ b ∨ b = c) → (Lv L0 l2 σ b ∨ b = c) ∨ ∃ ws, H' b = some (.lst ws) := fun b z => by
        rcases z with z | z
        · exact (lx b z).imp .inl id
        · exact .inl (.inr z)
      refine ⟨c, ws, rfl, g1, fun z => ?_, Reps.ext lxe es ws hr g3, ?_⟩
      · rcases z with z | z
        · exact g2 (.inl z)
        · rcases own c z with z | z
          · exact g2 (.inr z)
          · exact ca z
      · refine thaw_rel R g4 hl2 ha h1 (fun z => z.elim n0 fun q => ca q.symm) nO (Reps.ext (fun b z => ?_) ds vs nl rd) nl ok p.kp fun b z => ?_
        · rcases z with (z | z) | z
          · exact .inl (.inl z)
          · subst z; exact .inr ⟨_, g1⟩
          · exact .inl (.inr z)
        · rcases z with (z | z) | z
          · exact .inl (.inl z)
          · subst z; exact .inr hc
          · exact .inl (.inr (own0 b z))
  · obtain ⟨es', e'⟩ := p.pin j es e
    have ne : i ≠ j := fun z => by subst z; rw [hi] at e; cases e
    exact ⟨es', by rw [List.getElem?_set_ne ne]; exact e'⟩
  · have ne : i ≠ j := fun z => by subst z; rw [hi] at e; cases e; exact ns _ _ rfl
    rw [List.getElem?_set_ne ne]
    exact p.fix j s e ns
theorem thawB_spec {i : Nat} : ∀ {k : Nat} {a b : Loc}, thawB i k a b = true → ∀ (j : Nat) (t : Slot), b[j]? = some t → k + j ≠ i → ∃ s, a[j]? = some s ∧ slotOk s t = true
  | k, a, [], h, j, t, e, _ => by simp at e
  | k, [], t0 :: b, h, j, t, e, _ => by simp [thawB] at h
  | k, s :: a, t0 :: b, h, j, t, e, n => by
    rw [thawB] at h
    simp only [Bool.and_eq_true, Bool.or_eq_true, beq_iff_eq] at h
    cases j with
    | zero =>
      simp at e; subst e
      exact ⟨s, rfl, h.1.resolve_left (by omega)⟩
    | succ j =>
      obtain ⟨s', e1, e2⟩ := thawB_spec h.2 j t (by simpa using e) (by omega)
      exact ⟨s', by simpa using e1, e2⟩
theorem thaw_ok {L0 : Addr → Prop} {loc l2 : Loc} {σ : Sg} {H H' : Hp} {i : Nat} {r : R} {v : V} (p : EvPost P L0 loc σ H l2 r v H') (h : thawB i 0 loc l2 = true) : thawOk i loc l2 := fun j ne => by
  refine ⟨fun b es e => ?_, fun d e => ?_, fun ns e => ?_⟩
  · obtain ⟨s, e1, e2⟩ := thawB_spec h j _ e (by omega)
    exact e2
  · obtain ⟨s, e1, e2⟩ := thawB_spec h j _ e (by omega)
    cases s with
    | dat d' =>
      have := p.fix j _ e1 (fun _ _ z => by cases z)
      rw [e] at this; cases this
      exact .inl e1
    | none => exact .inr e2
    | own b es => exact .inr e2
    | scr ns => exact .inr e2
    | hid => exact .inr e2
  · obtain ⟨s, e1, e2⟩ := thawB_spec h j _ e (by omega)
    cases s with
    | scr ns' =>
      have := p.fix j _ e1 (fun _ _ z => by cases z)
      rw [e] at this; cases this
      exact e1
    | none => cases e2
    | own b es => cases e2
    | dat d => cases e2
    | hid => cases e2
theorem e_thaw {i : Nat} {ga g : Loc → Option (R × Loc)} {σ : Sg} {Q : VK} (hg : ∀ loc r loc', g loc = some (r, loc') → ∃ l2 ds0 ds, ga loc = some (r, l2) ∧ loc[i]? = some (.own false ds0) ∧ l2[i]? = some (.dat (.lst ds)) ∧ noLsts ds = true ∧ thawR r = true ∧ thawB i 0 loc l2 = true ∧ loc' = l2.set i (.own false ds)) (h : tE P g σ H Q) : tE P ga σ H Q := by
  obtain ⟨L0, loc, r, loc', R, e, k⟩ := h
  obtain ⟨l2, ds0, ds, h1, h2, h3, h4, h5, h6, rfl⟩ := hg _ _ _ e
  exact ⟨L0, loc, r, l2, R, h1, fun v H' p => k v H' (thaw_post R p h2 h3 h4 h5 (thaw_ok p h6))⟩
end MP

namespace MP
open PySem PySem.Spec PyProof.Rows L2
variable {P : RP} {L L' : Addr → Prop} {H H' : Hp} {L0 : Addr → Prop} {loc loc' : Loc} {σ σ' : Sg}

/-! ### leaves -/
theorem e_c {d : D} {v : V} (hd : ∀ L H, Rep P L H d v) {g : Loc → Option (R × Loc)} (hg : ∀ loc r loc', g loc = some (r, loc') → r = .val d ∧ loc' = loc) {Q : VK} (h : tE P g σ H Q) : tC v σ H Q := by
  obtain ⟨L0, loc, r, loc', R, e, k⟩ := h
  obtain ⟨rfl, rfl⟩ := hg _ _ _ e
  exact k v H (.refl R (hd _ _))
theorem e_v {i : Nat} {g : Loc → Option (R × Loc)} (hg : ∀ loc r loc', g loc = some (r, loc') → ∃ d, loc[i]? = some (.dat d) ∧ r = .val d ∧ loc' = loc) {Q : VK} (h : tE P g σ H Q) : tVar i σ H Q := by
  obtain ⟨L0, loc, r, loc', R, e, k⟩ := h
  obtain ⟨d, h1, rfl, rfl⟩ := hg _ _ _ e
  obtain ⟨v, e1, rp⟩ := R.dat i d h1
  exact ⟨v, e1, k v H (.refl R rp)⟩
theorem e_r {i : Nat} {g : Loc → Option (R × Loc)} (hg : ∀ loc r loc', g loc = some (r, loc') → (((∃ b ds, loc[i]? = some (.own b ds)) ∨ ∃ ns, loc[i]? = some (.scr ns)) ∧ r = .ref i ∧ loc' = loc) ∨ ∃ d, loc[i]? = some (.dat d) ∧ r = .val d ∧ loc' = loc) {Q : VK} (h : tE P g σ H Q) : tVar i σ H Q := by
  obtain ⟨L0, loc, r, loc', R, e, k⟩ := h
  rcases hg _ _ _ e with ⟨h1, rfl, rfl⟩ | ⟨d, h1, rfl, rfl⟩
  rcases h1 with ⟨b, ds, h1⟩ | ⟨ns, h1⟩
  · obtain ⟨a, vs, e1, _⟩ := R.own i b ds h1
    exact ⟨_, e1, k _ H (.reflR R e1)⟩
  · obtain ⟨a, e1, _⟩ := R.scr i ns h1
    exact ⟨_, e1, k _ H (.reflR R e1)⟩
  · obtain ⟨v, e1, rp⟩ := R.dat i d h1
    exact ⟨v, e1, k v H (.refl R rp)⟩
theorem e_fz {i : Nat} {g : Loc → Option (R × Loc)} (hg : ∀ loc r loc', g loc = some (r, loc') → (∃ ds, loc[i]? = some (.own false ds) ∧ r = .val (.lst ds) ∧ loc' = loc.set i (.dat (.lst ds))) ∨ ∃ d, loc[i]? = some (.dat d) ∧ r = .val d ∧ loc' = loc) {Q : VK} (h : tE P g σ H Q) : tVar i σ H Q := by
  obtain ⟨L0, loc, r, loc', R, e, k⟩ := h
  rcases hg _ _ _ e with ⟨ds, h1, rfl, rfl⟩ | ⟨d, h1, rfl, rfl⟩
  · obtain ⟨v, e1, p⟩ := fz_post R h1
    exact ⟨v, e1, k v H p⟩
  · obtain ⟨v, e1, rp⟩ := R.dat i d h1
    exact ⟨v, e1, k v H (.refl R rp)⟩
theorem e_tup {gs : Loc → Option (List R × Loc)} {g : Loc → Option (R × Loc)} (hg : ∀ loc r loc', g loc = some (r, loc') → ∃ rs ds, gs loc = some (rs, loc') ∧ rs.mapM toVal = some ds ∧ ds.length ≤ big ∧ r = .val (.tup ds)) {Q : VK} (h : tE P g σ H Q) : tTup (tA P gs) σ H Q := by
  obtain ⟨L0, loc, r, loc', R, e, k⟩ := h
  obtain ⟨rs, ds, h1, h2, h3, rfl⟩ := hg _ _ _ e
  refine ⟨L0, loc, rs, loc', R, h1, fun vs H1 p1 rr => ?_⟩
  have rp := rr.toVals h2
  refine ⟨big_line (by rw [← rp.length]; exact h3), fun p hp => k _ _ (p1.trans (EvPost.op p1.rel (.tup (fun b z => p1.rel.lv z) hp rp)))⟩
theorem e_lst {gs : Loc → Option (List R × Loc)} {g : Loc → Option (R × Loc)} (hg : ∀ loc r loc', g loc = some (r, loc') → ∃ rs ds, gs loc = some (rs, loc') ∧ rs.mapM toVal = some ds ∧ ds.length ≤ big ∧ r = .new ds) {Q : VK} (h : tE P g σ H Q) : tLst (tA P gs) σ H Q := by
  obtain ⟨L0, loc, r, loc', R, e, k⟩ := h
  obtain ⟨rs, ds, h1, h2, h3, rfl⟩ := hg _ _ _ e
  refine ⟨L0, loc, rs, loc', R, h1, fun vs H1 p1 rr => ?_⟩
  have rp := rr.toVals h2
  refine ⟨big_line (by rw [← rp.length]; exact h3), fun p hp => k _ _ (p1.trans (EvPost.op p1.rel (.lst hp rp)))⟩
/-! list(range(..)) -/
theorem rng_reps {L : Addr → Prop} : ∀ (n : Nat) (lo : Int), Reps P L H (rngL lo n) ((List.range n).map fun i : Nat => V.int (lo + (i : Int)))
  | 0, _ => Reps.nil
  | n + 1, lo => by
    rw [rngL, List.range_succ_eq_map, List.map_cons, List.map_map]
    refine Reps.cons ?_ ?_
    · show Rep P L H (.int lo) (.int (lo + ((0 : Nat) : Int)))
      unfold Rep
      simp
    · have := rng_reps (L := L) n (lo + 1)
      have e : (List.range n).map ((fun i : Nat => V.int (lo + (i : Int))) ∘ Nat.succ) = (List.range n).map fun i : Nat => V.int (lo + 1 + (i : Int)) := by
        apply List.map_congr_left
        intro i _
        simp only [Function.comp_apply]
        congr 1
        omega
      rw [e]; exact this
theorem rng_len : ∀ (n : Nat) (lo : Int), (rngL lo n).length = n
  | 0, _ => rfl
  | n + 1, lo => by rw [rngL, List.length_cons, rng_len n]
theorem rg_small {i j : Int} (h1 : small i = true) (h2 : small j = true) (h3 : (j - i).toNat ≤ big) : RgOk i j := by
  unfold small at h1 h2
  simp only [Bool.and_eq_true, decide_eq_true_eq] at h1 h2
  have hb : big ≤ 2 ^ 24 := by decide
  exact ⟨h1.1, h1.2, h2.1, h2.2, Nat.le_trans h3 hb⟩
theorem e_lrng1 {ga g : Loc → Option (R × Loc)} (hg : ∀ loc r loc', g loc = some (r, loc') → ∃ n, ga loc = some (.val (.int n), loc') ∧ small n = true ∧ n.toNat ≤ big ∧ r = .new (rngL 0 n.toNat)) {Q : VK} (h : tE P g σ H Q) : tLstRg (tRg1 (tE P ga)) σ H Q := by
  obtain ⟨L0, loc, r, loc', R, e, k⟩ := h
  obtain ⟨n, h1, h2, h3, rfl⟩ := hg _ _ _ e
  refine ⟨L0, loc, _, loc', R, h1, fun x H1 p1 => ?_⟩
  have hx : x = .int n := int_of (L := Lv L0 loc' σ) p1.rep
  refine ⟨n, hx, rg_small (by decide) h2 (by rw [Int.sub_zero]; exact h3), fun q hq => k _ _ (p1.trans (EvPost.op p1.rel (.lst hq ?_)))⟩
  unfold rgV
  rw [Int.sub_zero]
  exact rng_reps _ _
theorem e_lrng2 {ga gb g : Loc → Option (R × Loc)} (hg : ∀ loc r loc', g loc = some (r, loc') → ∃ m l1 n, ga loc = some (.val (.int m), l1) ∧ gb l1 = some (.val (.int n), loc') ∧ small m = true ∧ small n = true ∧ (n - m).toNat ≤ big ∧ r = .new (rngL m (n - m).toNat)) {Q : VK} (h : tE P g σ H Q) : tLstRg (tRg2 (tE P ga) (tE P gb)) σ H Q := by
  obtain ⟨L0, loc, r, loc', R, e, k⟩ := h
  obtain ⟨m, l1, n, h1, h1', h2, h2', h3, rfl⟩ := hg _ _ _ e
  refine ⟨L0, loc, _, l1, R, h1, fun x H1 p1 => ⟨L0, l1, _, loc', p1.rel, h1', fun y H2 p2 => ?_⟩⟩
  have hx : x = .int m := int_of (L := Lv L0 l1 σ) p1.rep
  have hy : y = .int n := int_of (L := Lv L0 loc' σ) p2.rep
  exact ⟨m, n, hx, hy, rg_small h2 h2' h3, fun q hq => k _ _ (p1.trans (p2.trans (EvPost.op p2.rel (.lst hq (rng_reps _ _)))))⟩
theorem seqInts_spec {K : PySem.W.Frag} {L : Addr → Prop} (hK : P.K = K) {x : D} {v : V} {ns : List Int} (h : seqInts x = some ns) (r : RepW P L H x v) : ∃ a, v = .ref a ∧ (SqT K H a (ns.map V.int) ∨ SqL K H a (ns.map V.int)) := by
  cases x <;> first | (exfalso; revert h; simp [seqInts]; done) | skip
  · obtain ⟨a, vs, rfl, t, rr⟩ := tup_of r
    obtain rfl := ints_spec (show ints? _ = some ns from h)
    obtain rfl := rr.ints
    exact ⟨a, rfl, .inl (hK ▸ t.sq)⟩
  · obtain ⟨a, vs, rfl, t, rr⟩ := r
    obtain rfl := ints_spec (show ints? _ = some ns from h)
    obtain rfl := rr.ints
    exact ⟨a, rfl, .inr (SqL.of t)⟩
theorem e_mx {K : PySem.W.Frag} (hK : P.K = K) {mx : Bool} {ga g : Loc → Option (R × Loc)} {gd : Loc → Option (List R × Loc)}
    (hg : ∀ loc r loc', g loc = some (r, loc') → ∃ ra l1 rd x y ns, ga loc = some (ra, l1) ∧ gd l1 = some ([sett rd], loc') ∧ res loc' (sett ra) = some x ∧ toVal rd = some y ∧ seqInts x = some ns ∧ (ns = [] → r = .val y) ∧ ∀ n ms, ns = n :: ms → r = .val (.int (mxI mx n ms)))
    {Q : VK} (h : tE P g σ H Q) : tCKw (rMx K mx) (tCons (tE P ga) tNil) (tA P gd) σ H Q := by
  obtain ⟨L0, loc, r, loc', R, e, k⟩ := h
  obtain ⟨ra, l1, rd, x, y, ns, h1, h2, h3, h4, h5, h6, h7⟩ := hg _ _ _ e
  refine ⟨L0, loc, ra, l1, R, h1, fun v H1 p1 => ⟨L0, l1, [sett rd], loc', p1.rel, h2, fun zs H2 p2 rr => ?_⟩⟩
  obtain ⟨z, w, rfl, rz, rw'⟩ := rr
  have hw : w = [] := rw'
  subst hw
  have ss : sett (sett ra) = sett ra := by cases ra <;> rfl
  have rv : RepR P L0 loc' σ H2 (sett ra) v := by
    have := p1.rep.sett.after p2
    first | exact this | (rw [ss] at this; exact this)
  obtain ⟨a, rfl, hs⟩ := seqInts_spec hK h5 (res_w p2.rel rv h3)
  have pp := p1.blank.trans p2
  have rz' : Rep P (Lv L0 loc' σ) H2 y z := by
    have e2 : sett (sett rd) = sett rd := by cases rd <;> rfl
    rw [e2, tval_sett h4] at rz
    exact rz
  refine ⟨a, z, ns, rfl, rfl, hs, fun e0 => ?_, fun n ms e0 => ?_⟩
  · have := h6 e0
    subst this
    exact k z H2 ⟨pp.rel, pp.keep, pp.own, rz', pp.there, (fun _ _ e => nomatch e), pp.pin, pp.fix⟩
  · have := h7 n ms e0
    subst this
    exact k _ H2 ⟨pp.rel, pp.keep, pp.own, (rep_int : Rep P (Lv L0 loc' σ) H2 (.int (mxI mx n ms)) _), pp.there, (fun _ _ e => nomatch e), pp.pin, pp.fix⟩
/-- one argument -/
theorem one_arg {ga : Loc → Option (R × Loc)} {Q : List V → Hp → Prop} (h : tE P ga σ H fun x H1 => Q [x] H1) : tCons (tE P ga) tNil σ H Q := h

/-! ### truth and tests -/
theorem t_of {ga : Loc → Option (R × Loc)} {g : Loc → Option (Bool × Loc)} {K : PySem.W.Frag} (hK : P.K = K) (hg : ∀ loc k loc', g loc = some (k, loc') → ∃ r d, ga loc = some (r, loc') ∧ res loc' r = some d ∧ truth d = some k) {Q : Bool → Hp → Prop} (h : tT P g σ H Q) :
    tE P ga σ H fun x H1 => ∃ k, TruV K x H1 k ∧ Q k H1 := by
  obtain ⟨L0, loc, b, loc', R, e, k⟩ := h
  obtain ⟨r, d, h1, h2, h3⟩ := hg _ _ _ e
  have hC : ∀ {X : Cx}, X.K = K → ∀ {x : V} {H1 : Hp}, RepW P (Lv L0 loc' σ) H1 d x → TruV K x H1 b := fun {X} hX {x H1} q => hX ▸ truth_V (X := X) (hK.trans hX.symm) q h3
  refine ⟨L0, loc, r, loc', R, h1, fun x H1 p1 => ⟨b, ?_, k H1 p1.blank⟩⟩
  have q := res_w p1.rel p1.rep h2
  revert q
  intro q
  cases d <;> simp only [truth, reduceCtorEq, Option.some.injEq] at h3
  · rw [non_of q]; exact h3.symm
  · rw [bl_of q]; exact h3.symm
  · rw [int_of q]; exact h3.symm
  · obtain ⟨a, vs, rfl, t, rr⟩ := tup_of q
    refine .inr (.inl ⟨vs, hK ▸ t.sq, ?_⟩)
    rw [← h3]
    have := rr.length
    cases vs <;> cases ‹List D› <;> simp_all
  · obtain ⟨a, vs, rfl, t, rr⟩ := q
    refine .inl ⟨vs, SqL.of t, ?_⟩
    rw [← h3]
    have := rr.length
    cases vs <;> cases ‹List D› <;> simp_all
/-- the same of a value's reading, going on by the answer -/
theorem v_of {ga : Loc → Option (R × Loc)} {K : PySem.W.Frag} (hK : P.K = K) {L0 : Addr → Prop} {loc l1 : Loc} {r : R} {d : D} {b : Bool} {Q : V → Bool → Hp → Prop} (R : Rel P L0 loc σ H) (h1 : ga loc = some (r, l1)) (h2 : res l1 r = some d) (h3 : truth d = some b)
    (k : ∀ x H1, EvPost P L0 loc σ H l1 r x H1 → Q x b H1) : tE P ga σ H fun x H1 => ∃ k, TruV K x H1 k ∧ Q x k H1 := by
  refine ⟨L0, loc, r, l1, R, h1, fun x H1 p1 => ⟨b, ?_, k x H1 p1⟩⟩
  have q := res_w p1.rel p1.rep h2
  cases d <;> simp only [truth, reduceCtorEq, Option.some.injEq] at h3
  · rw [non_of q]; exact h3.symm
  · rw [bl_of q]; exact h3.symm
  · rw [int_of q]; exact h3.symm
  · obtain ⟨a, vs, rfl, t, rr⟩ := tup_of q
    refine .inr (.inl ⟨vs, hK ▸ t.sq, ?_⟩)
    rw [← h3]
    have := rr.length
    cases vs <;> cases ‹List D› <;> simp_all
  · obtain ⟨a, vs, rfl, t, rr⟩ := q
    refine .inl ⟨vs, SqL.of t, ?_⟩
    rw [← h3]
    have := rr.length
    cases vs <;> cases ‹List D› <;> simp_all
theorem EvPost.settled {r : R} {v : V} (p : EvPost P L0 loc σ H loc' r v H') : EvPost P L0 loc σ H loc' (sett r) v H' :=
  ⟨p.rel, p.keep, p.own, p.rep.sett, p.there, (fun ds c e => by cases r <;> cases e), p.pin, p.fix⟩
theorem e_and {ga gb g : Loc → Option (R × Loc)} {K : PySem.W.Frag} (hK : P.K = K)
    (hg : ∀ loc r loc', g loc = some (r, loc') → ∃ ra l1 d, ga loc = some (ra, l1) ∧ res l1 ra = some d ∧ ((truth d = some true ∧ gb l1 = some (r, loc')) ∨ (truth d = some false ∧ r = sett ra ∧ loc' = l1))) {Q : VK} (h : tE P g σ H Q) : tAndT K (tE P ga) (tE P gb) σ H Q := by
  obtain ⟨L0, loc, r, loc', R, e, k⟩ := h
  obtain ⟨ra, l1, d, h1, h2, h3⟩ := hg _ _ _ e
  rcases h3 with ⟨h3, h4⟩ | ⟨h3, rfl, rfl⟩
  · exact v_of (Q := fun x b H1 => if b = true then tE P gb σ H1 Q else Q x H1) hK R h1 h2 h3 fun x H1 p1 => iteT ⟨L0, l1, r, loc', p1.rel, h4, fun v H2 p2 => k v H2 (p1.trans p2)⟩
  · exact v_of (Q := fun x b H1 => if b = true then tE P gb σ H1 Q else Q x H1) hK R h1 h2 h3 fun x H1 p1 => iteF (k x H1 p1.settled)
theorem e_or {ga gb g : Loc → Option (R × Loc)} {K : PySem.W.Frag} (hK : P.K = K)
    (hg : ∀ loc r loc', g loc = some (r, loc') → ∃ ra l1 d, ga loc = some (ra, l1) ∧ res l1 ra = some d ∧ ((truth d = some false ∧ gb l1 = some (r, loc')) ∨ (truth d = some true ∧ r = sett ra ∧ loc' = l1))) {Q : VK} (h : tE P g σ H Q) : tOrT K (tE P ga) (tE P gb) σ H Q := by
  obtain ⟨L0, loc, r, loc', R, e, k⟩ := h
  obtain ⟨ra, l1, d, h1, h2, h3⟩ := hg _ _ _ e
  rcases h3 with ⟨h3, h4⟩ | ⟨h3, rfl, rfl⟩
  · exact v_of (Q := fun x b H1 => if b = true then Q x H1 else tE P gb σ H1 Q) hK R h1 h2 h3 fun x H1 p1 => iteF ⟨L0, l1, r, loc', p1.rel, h4, fun v H2 p2 => k v H2 (p1.trans p2)⟩
  · exact v_of (Q := fun x b H1 => if b = true then Q x H1 else tE P gb σ H1 Q) hK R h1 h2 h3 fun x H1 p1 => iteT (k x H1 p1.settled)
theorem e_not {ga g : Loc → Option (R × Loc)} {K : PySem.W.Frag} (hK : P.K = K)
    (hg : ∀ loc r loc', g loc = some (r, loc') → ∃ ra d b, ga loc = some (ra, loc') ∧ res loc' ra = some d ∧ truth d = some b ∧ r = .val (.bl (!b))) {Q : VK} (h : tE P g σ H Q) : tNotT K (tE P ga) σ H Q := by
  obtain ⟨L0, loc, r, loc', R, e, k⟩ := h
  obtain ⟨ra, d, b, h1, h2, h3, rfl⟩ := hg _ _ _ e
  exact v_of (Q := fun x b H1 => Q (.bl (!b)) H1) hK R h1 h2 h3 fun x H1 p1 => k _ H1 (p1.trans (EvPost.refl p1.rel (by unfold RepR Rep; rfl)))
theorem e_ite {gc : Loc → Option (Bool × Loc)} {ga gb g : Loc → Option (R × Loc)}
    (hg : ∀ loc r loc', g loc = some (r, loc') → ∃ b l1, gc loc = some (b, l1) ∧ (if b = true then ga l1 else gb l1) = some (r, loc')) {Q : VK} (h : tE P g σ H Q) : tIf (tT P gc) (tE P ga) (tE P gb) σ H Q := by
  obtain ⟨L0, loc, r, loc', R, e, k⟩ := h
  obtain ⟨b, l1, h1, h2⟩ := hg _ _ _ e
  refine ⟨L0, loc, b, l1, R, h1, fun H1 p1 => ?_⟩
  cases b with
  | true => exact ⟨L0, l1, r, loc', p1.rel, h2, fun v H2 p2 => k v H2 (p1.trans p2)⟩
  | false => exact ⟨L0, l1, r, loc', p1.rel, h2, fun v H2 p2 => k v H2 (p1.trans p2)⟩
theorem t_and {ga gb g : Loc → Option (Bool × Loc)} (hg : ∀ loc k loc', g loc = some (k, loc') → ∃ b l1, ga loc = some (b, l1) ∧ ((b = true ∧ gb l1 = some (k, loc')) ∨ (b = false ∧ k = false ∧ loc' = l1))) {Q : Bool → Hp → Prop} (h : tT P g σ H Q) : tAnd (tT P ga) (tT P gb) σ H Q := by
  obtain ⟨L0, loc, b, loc', R, e, k⟩ := h
  obtain ⟨c, l1, h1, h2⟩ := hg _ _ _ e
  refine ⟨L0, loc, c, l1, R, h1, fun H1 p1 => ?_⟩
  rcases h2 with ⟨rfl, h2⟩ | ⟨rfl, rfl, rfl⟩
  · exact iteT ⟨L0, l1, b, loc', p1.rel, h2, fun H2 p2 => k H2 (p1.trans p2)⟩
  · exact iteF (k H1 p1)
theorem t_or {ga gb g : Loc → Option (Bool × Loc)} (hg : ∀ loc k loc', g loc = some (k, loc') → ∃ b l1, ga loc = some (b, l1) ∧ ((b = false ∧ gb l1 = some (k, loc')) ∨ (b = true ∧ k = true ∧ loc' = l1))) {Q : Bool → Hp → Prop} (h : tT P g σ H Q) : tOr (tT P ga) (tT P gb) σ H Q := by
  obtain ⟨L0, loc, b, loc', R, e, k⟩ := h
  obtain ⟨c, l1, h1, h2⟩ := hg _ _ _ e
  refine ⟨L0, loc, c, l1, R, h1, fun H1 p1 => ?_⟩
  rcases h2 with ⟨rfl, h2⟩ | ⟨rfl, rfl, rfl⟩
  · exact iteF ⟨L0, l1, b, loc', p1.rel, h2, fun H2 p2 => k H2 (p1.trans p2)⟩
  · exact iteT (k H1 p1)
theorem t_not {ga g : Loc → Option (Bool × Loc)} (hg : ∀ loc k loc', g loc = some (k, loc') → ∃ b, ga loc = some (b, loc') ∧ k = !b) {Q : Bool → Hp → Prop} (h : tT P g σ H Q) : tNot (tT P ga) σ H Q := by
  obtain ⟨L0, loc, b, loc', R, e, k⟩ := h
  obtain ⟨c, h1, rfl⟩ := hg _ _ _ e
  exact ⟨L0, loc, c, loc', R, h1, fun H1 p1 => k H1 p1⟩
/-- a comparison as a test -/
theorem t_bl {ga : Loc → Option (R × Loc)} {g : Loc → Option (Bool × Loc)} (hg : ∀ loc k loc', g loc = some (k, loc') → ga loc = some (.val (.bl k), loc')) {Q : Bool → Hp → Prop} (h : tT P g σ H Q) : tE P ga σ H fun x H1 => ∃ k, x = .bl k ∧ Q k H1 := by
  obtain ⟨L0, loc, b, loc', R, e, k⟩ := h
  have h1 := hg _ _ _ e
  refine ⟨L0, loc, _, loc', R, h1, fun x H1 p1 => ⟨b, ?_, k H1 p1.blank⟩⟩
  have : Rep P (Lv L0 loc' σ) H1 (.bl b) x := p1.rep
  unfold Rep at this; exact this
/-- a < b < c -/
theorem e_ch {f f' : D → D → Option R} {ga gb gc g : Loc → Option (R × Loc)}
    (hg : ∀ loc r loc', g loc = some (r, loc') → ∃ ra l1 rb l2 d e, ga loc = some (ra, l1) ∧ gb l1 = some (rb, l2) ∧ res l2 (sett ra) = some d ∧ res l2 rb = some e ∧
      ((f d e = some (.val (.bl true)) ∧ ∃ rc e' f1 k, gc l2 = some (rc, loc') ∧ res loc' (sett rb) = some e' ∧ res loc' rc = some f1 ∧ f' e' f1 = some (.val (.bl k)) ∧ r = .val (.bl k)) ∨ (f d e = some (.val (.bl false)) ∧ r = .val (.bl false) ∧ loc' = l2)))
    {Q : VK} (h : tE P g σ H Q) : tE P ga σ H fun x H1 => tE P gb σ H1 fun y H2 => rD2 P f x y H2 fun z H3 => ∃ k, z = .bl k ∧ if k = true then tE P gc σ H3 fun z' H4 => rD2 P f' y z' H4 Q else Q (.bl false) H3 := by
  obtain ⟨L0, loc, r, loc', R, e, k⟩ := h
  obtain ⟨ra, l1, rb, l2, d, e', h1, h2, h3, h4, h5⟩ := hg _ _ _ e
  refine ⟨L0, loc, ra, l1, R, h1, fun x H1 p1 => ⟨L0, l1, rb, l2, p1.rel, h2, fun y H2 p2 => ?_⟩⟩
  have w1 := res_w p2.rel (p1.rep.sett.after p2) h3
  have w2 := res_w p2.rel p2.rep h4
  rcases h5 with ⟨h5, rc, e2, f1, k2, h6, h7, h8, h9, rfl⟩ | ⟨h5, rfl, rfl⟩
  · refine ⟨Lv L0 l2 σ, d, e', _, fun b z => p2.rel.lv z, w1, w2, h5, fun v H3 ⟨s3, hv⟩ => ?_⟩
    unfold Rep at hv
    refine ⟨true, hv, iteT ?_⟩
    have p3 : EvPost P L0 l2 σ H2 l2 (.val (.bl true)) v H3 := EvPost.op p2.rel ⟨s3, by unfold Rep; exact hv⟩
    refine ⟨L0, l2, rc, loc', p3.rel, h6, fun z' H4 p4 => ?_⟩
    have y4 := ((p2.rep.sett).after p3).after p4
    refine ⟨Lv L0 loc' σ, e2, f1, _, fun b z => p4.rel.lv z, res_w p4.rel y4 h7, res_w p4.rel p4.rep h8, h9, fun v5 H5 hp => ?_⟩
    exact k v5 H5 ((((p1.trans p2).trans p3).trans p4).trans (EvPost.op p4.rel hp))
  · refine ⟨_, d, e', _, fun b z => p2.rel.lv z, w1, w2, h5, fun v H3 hp => ?_⟩
    obtain ⟨s3, hv⟩ := hp
    have hv' := hv
    unfold Rep at hv
    refine ⟨false, hv, iteF ?_⟩
    subst hv
    exact k _ H3 ((p1.trans p2).trans (EvPost.op p2.rel ⟨s3, hv'⟩))

/-! ### slices -/
def tO (P : RP) (g : Loc → Option (Option Int × Loc)) : TO := fun σ H Q => ∃ L0 loc o loc', Rel P L0 loc σ H ∧ g loc = some (o, loc') ∧ ∀ H', EvPost P L0 loc σ H loc' (.val .non) .non H' → Q o H'
theorem o_none {g : Loc → Option (Option Int × Loc)} (hg : ∀ loc o loc', g loc = some (o, loc') → o = none ∧ loc' = loc) {Q : Option Int → Hp → Prop} (h : tO P g σ H Q) : tNoPart σ H Q := by
  obtain ⟨L0, loc, o, loc', R, e, k⟩ := h
  obtain ⟨rfl, rfl⟩ := hg _ _ _ e
  exact k H (.none0 R)
theorem o_some {ge : Loc → Option (R × Loc)} {g : Loc → Option (Option Int × Loc)} (hg : ∀ loc o loc', g loc = some (o, loc') → ∃ i, ge loc = some (.val (.int i), loc') ∧ o = some i) {Q : Option Int → Hp → Prop} (h : tO P g σ H Q) : tPart (tE P ge) σ H Q := by
  obtain ⟨L0, loc, o, loc', R, e, k⟩ := h
  obtain ⟨i, h1, rfl⟩ := hg _ _ _ e
  refine ⟨L0, loc, _, loc', R, h1, fun x H1 p1 => ⟨i, ?_, k H1 p1.blank⟩⟩
  have : Rep P (Lv L0 loc' σ) H1 (.int i) x := p1.rep
  unfold Rep at this; exact this
theorem e_sl {ga g : Loc → Option (R × Loc)} {gl gh : Loc → Option (Option Int × Loc)}
    (hg : ∀ loc r loc', g loc = some (r, loc') → ∃ ra l1 x l2 y d, ga loc = some (ra, l1) ∧ gl l1 = some (x, l2) ∧ gh l2 = some (y, loc') ∧ res loc' (sett ra) = some d ∧ apSl d x y = some r)
    {Q : VK} (h : tE P g σ H Q) : tSl (rSlD P) (tE P ga) (tO P gl) (tO P gh) σ H Q := by
  obtain ⟨L0, loc, r, loc', R, e, k⟩ := h
  obtain ⟨ra, l1, x, l2, y, d, h1, h2, h3, h4, h5⟩ := hg _ _ _ e
  refine ⟨L0, loc, ra, l1, R, h1, fun v H1 p1 => ⟨L0, l1, x, l2, p1.rel, h2, fun H2 p2 => ⟨L0, l2, y, loc', p2.rel, h3, fun H3 p3 => ?_⟩⟩⟩
  refine ⟨Lv L0 loc' σ, d, r, fun b z => p3.rel.lv z, res_w p3.rel ((p1.rep.sett.after p2).after p3) h4, h5, fun w H4 hp => ?_⟩
  exact k w H4 (((p1.trans p2).trans p3).trans (EvPost.op p3.rel hp))

/-! ### methods of an own list -/
theorem m_arg {i : Nat} {T : V → List V → Hp → VK → Prop} {ge g : Loc → Option (R × Loc)} {K : PySem.W.Frag}
    (hg : ∀ loc r loc', g loc = some (r, loc') → ∃ b0 ds0 re l1 b ds es d, loc[i]? = some (.own b0 ds0) ∧ ge loc = some (re, l1) ∧ l1[i]? = some (.own b ds) ∧ r = .val d ∧ loc' = l1.set i (.own b es) ∧
      ∀ (L1 : Addr → Prop) (a : Addr) (x : V) (vs : List V) (H1 : Hp) (Q : VK), H1 a = some (.lst vs) → Reps P L1 H1 ds vs → (∀ e, toVal re = some e → Rep P L1 H1 e x) → (∀ ws v, Reps P L1 H1 es ws → Rep P L1 H1 d v → Q v (upd H1 a (.lst ws))) → T (.ref a) [x] H1 Q)
    {Q : VK} (h : tE P g σ H Q) : tBM K "list" T (tVar i) (tCons (tE P ge) tNil) σ H Q := by
  obtain ⟨L0, loc, r, loc', R, e, k⟩ := h
  obtain ⟨b0, ds0, re, l1, b, ds, es, d, h0, h1, h2, rfl, rfl, h3⟩ := hg _ _ _ e
  obtain ⟨a, vs0, e1, e2, _⟩ := R.own i b0 ds0 h0
  refine ⟨.ref a, e1, .inl ⟨rfl, vs0, SqL.of e2⟩, L0, loc, re, l1, R, h1, fun x H1 p1 => ?_⟩
  obtain ⟨a', vs, f1, f2, f3, f4⟩ := p1.rel.own i b ds h2
  rw [e1] at f1; cases f1
  refine h3 _ a x vs H1 Q f2 f4 (fun e he => toVal_rep p1.rep he) fun ws v hw hv => ?_
  exact k v _ (p1.trans (EvPost.mut p1.rel h2 e1 hw (fun d' e => by cases e; exact hv) ⟨d, rfl⟩))
theorem m_no {i : Nat} {T : V → List V → Hp → VK → Prop} {g : Loc → Option (R × Loc)} {K : PySem.W.Frag}
    (hg : ∀ loc r loc', g loc = some (r, loc') → ∃ b ds es d, loc[i]? = some (.own b ds) ∧ r = .val d ∧ loc' = loc.set i (.own b es) ∧
      ∀ (L1 : Addr → Prop) (a : Addr) (vs : List V) (H1 : Hp) (Q : VK), H1 a = some (.lst vs) → Reps P L1 H1 ds vs → (∀ ws v, Reps P L1 H1 es ws → Rep P L1 H1 d v → Q v (upd H1 a (.lst ws))) → T (.ref a) [] H1 Q)
    {Q : VK} (h : tE P g σ H Q) : tBM0 K "list" T (tVar i) σ H Q := by
  obtain ⟨L0, loc, r, loc', R, e, k⟩ := h
  obtain ⟨b, ds, es, d, h0, rfl, rfl, h3⟩ := hg _ _ _ e
  obtain ⟨a, vs, e1, e2, e3, e4⟩ := R.own i b ds h0
  refine ⟨.ref a, e1, .inl ⟨rfl, vs, SqL.of e2⟩, ?_⟩
  refine h3 _ a vs H Q e2 e4 fun ws v hw hv => ?_
  exact k v _ (EvPost.mut R h0 e1 hw (fun d' e => by cases e; exact hv) ⟨d, rfl⟩)
theorem ap_app {L1 : Addr → Prop} {a : Addr} {x : V} {vs : List V} {H1 : Hp} {Q : VK} {ds : List D} {d : D} (h : H1 a = some (.lst vs)) (r : Reps P L1 H1 ds vs) (rx : Rep P L1 H1 d x) (hl : ds.length < big)
    (k : ∀ ws v, Reps P L1 H1 (ds ++ [d]) ws → Rep P L1 H1 .non v → Q v (upd H1 a (.lst ws))) : rAppend (.ref a) [x] H1 Q :=
  ⟨a, vs, x, rfl, rfl, h, big_lt (by rw [← r.length]; exact hl), k _ _ (r.append (Reps.cons rx Reps.nil)) rep_non⟩
theorem ap_ext {L1 : Addr → Prop} {a : Addr} {x : V} {vs : List V} {H1 : Hp} {Q : VK} {ds es : List D} (h : H1 a = some (.lst vs)) (r : Reps P L1 H1 ds vs) (rx : Rep P L1 H1 (.lst es) x) (hl : ds.length + es.length ≤ big)
    (k : ∀ ws v, Reps P L1 H1 (ds ++ es) ws → Rep P L1 H1 .non v → Q v (upd H1 a (.lst ws))) : rExtend (.ref a) [x] H1 Q := by
  unfold Rep at rx
  obtain ⟨b, ws, rfl, hb, _, rb⟩ := rx
  exact ⟨a, b, vs, ws, rfl, rfl, h, hb, big_line (by rw [← r.length, ← rb.length]; exact hl), k _ _ (r.append rb) rep_non⟩
theorem Reps.dropLast {L1 : Addr → Prop} {H1 : Hp} {ds : List D} {vs : List V} (r : Reps P L1 H1 ds vs) : Reps P L1 H1 ds.dropLast vs.dropLast := by
  rw [List.dropLast_eq_take, List.dropLast_eq_take, r.length]
  exact r.take _
theorem ap_pop {L1 : Addr → Prop} {a : Addr} {vs : List V} {H1 : Hp} {Q : VK} {ds : List D} {d : D} (h : H1 a = some (.lst vs)) (r : Reps P L1 H1 ds vs) (hd : ds.getLast? = some d)
    (k : ∀ ws v, Reps P L1 H1 ds.dropLast ws → Rep P L1 H1 d v → Q v (upd H1 a (.lst ws))) : rPop (.ref a) [] H1 Q := by
  rw [List.getLast?_eq_getElem?] at hd
  obtain ⟨v, e, rv⟩ := r.get hd
  rw [r.length] at e
  exact ⟨a, vs, v, rfl, rfl, h, e, k _ _ r.dropLast rv⟩
theorem ap_popAt {L1 : Addr → Prop} {a : Addr} {x : V} {vs : List V} {H1 : Hp} {Q : VK} {ds : List D} {d : D} {n : Int} (h : H1 a = some (.lst vs)) (r : Reps P L1 H1 ds vs) (rx : Rep P L1 H1 (.int n) x) (h0 : 0 ≤ n) (h1 : n < 2 ^ 62) (hd : ds[n.toNat]? = some d)
    (k : ∀ ws v, Reps P L1 H1 (ds.eraseIdx n.toNat) ws → Rep P L1 H1 d v → Q v (upd H1 a (.lst ws))) : rPopAt (.ref a) [x] H1 Q := by
  unfold Rep at rx
  subst rx
  obtain ⟨v, e, rv⟩ := r.get hd
  have hl := lt_of_get e
  refine ⟨a, vs, n, n.toNat, v, rfl, rfl, h, by omega, by omega, ?_, e, k _ _ (r.eraseIdx _) rv⟩
  have hx : ixN vs.length n = some n.toNat := by
    unfold ixN
    rw [if_pos h0, if_pos (by omega)]
  exact (ixN_seq hx).1
theorem ap_clear {L1 : Addr → Prop} {a : Addr} {vs : List V} {H1 : Hp} {Q : VK} (h : H1 a = some (.lst vs)) (k : ∀ ws v, Reps P L1 H1 [] ws → Rep P L1 H1 .non v → Q v (upd H1 a (.lst ws))) : rClear (.ref a) [] H1 Q :=
  ⟨a, vs, rfl, rfl, h, k _ _ Reps.nil rep_non⟩

/-! ### the script -/
theorem x_len {i : Nat} {g : Loc → Option (R × Loc)} {K : PySem.W.Frag} (hK : P.K = K) (hg : ∀ loc r loc', g loc = some (r, loc') → ∃ ns, loc[i]? = some (.scr ns) ∧ r = .val (.int ns.length) ∧ loc' = loc) {Q : VK} (h : tE P g σ H Q) :
    tVar i σ H fun x H1 => ∃ p ys, [x] = [V.ref p] ∧ (SqL K H1 p ys ∨ SqT K H1 p ys) ∧ Q (.int ys.length) H1 := by
  obtain ⟨L0, loc, r, loc', R, e, k⟩ := h
  obtain ⟨ns, h1, rfl, rfl⟩ := hg _ _ _ e
  obtain ⟨a, e1, e2⟩ := R.scr i ns h1
  refine ⟨_, e1, a, _, rfl, .inl (hK ▸ e2.sq), ?_⟩
  rw [List.length_map]
  exact k _ H (.refl R (by unfold RepR Rep; rfl))
theorem x_ix {i : Nat} {ge g : Loc → Option (R × Loc)} {K : PySem.W.Frag} (hK : P.K = K) (hg : ∀ loc r loc', g loc = some (r, loc') → ∃ ns n m, loc[i]? = some (.scr ns) ∧ ge loc = some (.val (.int n), loc') ∧ 0 ≤ n ∧ ns[n.toNat]? = some m ∧ r = .val (.int m)) {Q : VK} (h : tE P g σ H Q) :
    tOp (rIxL K) (tVar i) (tE P ge) σ H Q := by
  obtain ⟨L0, loc, r, loc', R, e, k⟩ := h
  obtain ⟨ns, n, m, h1, h2, h3, h4, rfl⟩ := hg _ _ _ e
  obtain ⟨a, e1, e2⟩ := R.scr i ns h1
  refine ⟨_, e1, L0, loc, _, loc', R, h2, fun y H1 p1 => ?_⟩
  have hy : Rep P (Lv L0 loc' σ) H1 (.int n) y := p1.rep
  unfold Rep at hy
  have h5 := p1.fix i _ h1 (fun _ _ z => nomatch z)
  obtain ⟨a', f1, f2⟩ := p1.rel.scr i ns h5
  rw [e1] at f1; cases f1
  refine ⟨a, _, n, .int m, rfl, hy, hK ▸ f2.sq, ?_, k _ H1 (p1.trans (EvPost.refl p1.rel (by unfold RepR Rep; rfl)))⟩
  have := atI_nat (xs := ns.map V.int) (j := n.toNat) (v := .int m) (by rw [List.getElem?_map, h4]; rfl)
  rwa [Int.toNat_of_nonneg h3] at this
theorem x_sl {i : Nat} {g : Loc → Option (R × Loc)} {gl gh : Loc → Option (Option Int × Loc)} {K : PySem.W.Frag} (hK : P.K = K)
    (hg : ∀ loc r loc', g loc = some (r, loc') → ∃ ns x l1 y, loc[i]? = some (.scr ns) ∧ gl loc = some (x, l1) ∧ gh l1 = some (y, loc') ∧ r = .new (cutD (ns.map D.int) x y))
    {Q : VK} (h : tE P g σ H Q) : tSl (rSlL K) (tVar i) (tO P gl) (tO P gh) σ H Q := by
  obtain ⟨L0, loc, r, loc', R, e, k⟩ := h
  obtain ⟨ns, x, l1, y, h1, h2, h3, rfl⟩ := hg _ _ _ e
  obtain ⟨a, e1, e2⟩ := R.scr i ns h1
  refine ⟨_, e1, L0, loc, x, l1, R, h2, fun H1 p1 => ⟨L0, l1, y, loc', p1.rel, h3, fun H2 p2 => ?_⟩⟩
  have h5 := (p1.trans p2).fix i _ h1 (fun _ _ z => nomatch z)
  obtain ⟨a', f1, f2⟩ := p2.rel.scr i ns h5
  rw [e1] at f1; cases f1
  exact ⟨a, _, rfl, hK ▸ f2.sq, fun p hp => k _ _ ((p1.trans p2).trans (EvPost.op p2.rel (.lst hp (cutD_V (Reps.of_ints ns) x y))))⟩

/-! ### what is walked -/
theorem rngL_len : ∀ (n : Nat) (lo : Int), (rngL lo n).length = n
  | 0, _ => rfl
  | n + 1, lo => by simp [rngL, rngL_len n]
theorem rngL_get : ∀ (n : Nat) (lo : Int) (i : Nat), i < n → (rngL lo n)[i]? = some (.int (lo + i))
  | 0, _, i, h => absurd h (by omega)
  | n + 1, lo, 0, _ => by simp [rngL]
  | n + 1, lo, i + 1, h => by
    simp only [rngL, List.getElem?_cons_succ]
    rw [rngL_get n (lo + 1) i (by omega)]
    congr 2
    push_cast
    omega
theorem ok_rng {L1 : Addr → Prop} {H1 : Hp} (lo : Int) (n : Nat) : ItOk P L1 H1 (Itr lo n) (rngL lo n) := fun H2 _ i => by
  refine ⟨fun h => ?_, fun h => ?_⟩
  · rw [rngL_len] at h
    refine ⟨h, fun x H3 y => ?_⟩
    obtain ⟨rfl, rfl⟩ := y
    exact ⟨Same.refl _, _, rngL_get n lo i h, fun L2 _ _ => rep_int⟩
  · rw [rngL_len] at h; exact h
theorem ok_lst {L1 : Addr → Prop} {H1 : Hp} {K : PySem.W.Frag} {a : Addr} {vs : List V} {ds : List D} (h1 : H1 a = some (.lst vs)) (n1 : ¬ L1 a) (r : Reps P L1 H1 ds vs) : ItOk P L1 H1 (Itl K a) ds := fun H2 kp i => by
  have h2 := kp _ _ h1 n1
  refine ⟨fun h => ?_, fun h => ?_⟩
  · obtain ⟨v, e, rv⟩ := r.get (List.getElem?_eq_getElem h)
    refine ⟨⟨vs, v, SqL.of h2, e⟩, fun x H3 y => ?_⟩
    obtain ⟨rfl, y⟩ := y
    have ex := y vs (SqL.of h2)
    rw [e] at ex; cases ex
    exact ⟨Same.refl _, _, List.getElem?_eq_getElem h, fun L2 l _ => Rep.keep kp l _ _ rv⟩
  · exact ⟨vs, SqL.of h2, by rw [← r.length]; exact h⟩
theorem ok_tup {L1 : Addr → Prop} {H1 : Hp} {K : PySem.W.Frag} (hK : P.K = K) (hI : ∀ {H2 : Hp} {a : Addr} {xs ys : List V}, SqT K H2 a xs → SqT K H2 a ys → True) {a : Addr} {vs : List V} {ds : List D} (h1 : H1 a = some (.tup vs)) (n1 : ¬ L1 a) (r : Reps P L1 H1 ds vs) : ItOk P L1 H1 (Itt K a) ds := fun H2 kp i => by
  have h2 := kp _ _ h1 n1
  refine ⟨fun h => ?_, fun h => ?_⟩
  · obtain ⟨v, e, rv⟩ := r.get (List.getElem?_eq_getElem h)
    refine ⟨⟨vs, v, SqT.of h2, e⟩, fun x H3 y => ?_⟩
    obtain ⟨rfl, y⟩ := y
    have ex := y vs (SqT.of h2)
    rw [e] at ex; cases ex
    exact ⟨Same.refl _, _, List.getElem?_eq_getElem h, fun L2 l _ => Rep.keep kp l _ _ rv⟩
  · exact ⟨vs, SqT.of h2, by rw [← r.length]; exact h⟩
/-- a tuple, tracked or written -/
theorem ok_tupA {L1 : Addr → Prop} {H1 : Hp} {K : PySem.W.Frag} (hK : P.K = K) {a : Addr} {vs : List V} {ds : List D} (t : TupAt P.K L1 H1 a vs) (r : Reps P L1 H1 ds vs) : ItOk P L1 H1 (Itt K a) ds := fun H2 kp i => by
  have h2 : SqT K H2 a vs := hK ▸ (t.keep (L' := fun _ => False) kp (fun _ z => z.elim)).sq
  refine ⟨fun h => ?_, fun h => ?_⟩
  · obtain ⟨v, e, rv⟩ := r.get (List.getElem?_eq_getElem h)
    refine ⟨⟨vs, v, h2, e⟩, fun x H3 y => ?_⟩
    obtain ⟨rfl, y⟩ := y
    have ex := y vs h2
    rw [e] at ex; cases ex
    exact ⟨Same.refl _, _, List.getElem?_eq_getElem h, fun L2 l _ => Rep.keep kp l _ _ rv⟩
  · exact ⟨vs, h2, by rw [← r.length]; exact h⟩
theorem enumL_len : ∀ (ds : List D) (k : Int), (enumL k ds).length = ds.length
  | [], _ => rfl
  | d :: ds, k => by simp [enumL, enumL_len ds]
theorem enumL_get : ∀ (ds : List D) (k : Int) (i : Nat) (d : D), ds[i]? = some d → (enumL k ds)[i]? = some (.tup [.int (k + i), d])
  | [], _, i, d, h => by simp at h
  | d :: ds, k, 0, d', h => by simp at h; subst h; simp [enumL]
  | d :: ds, k, i + 1, d', h => by
    simp only [enumL, List.getElem?_cons_succ]
    rw [enumL_get ds (k + 1) i d' (by simpa using h)]
    congr 4
    push_cast
    omega
theorem ok_enum {L1 : Addr → Prop} {H1 : Hp} {K : PySem.W.Frag} {a : Addr} {vs : List V} {ds : List D} (h1 : H1 a = some (.lst vs)) (n1 : ¬ L1 a) (r : Reps P L1 H1 ds vs) : ItOk P L1 H1 (Ite K a) (enumL 0 ds) := fun H2 kp i => by
  have h2 := kp _ _ h1 n1
  refine ⟨fun h => ?_, fun h => ?_⟩
  · rw [enumL_len] at h
    obtain ⟨v, e, rv⟩ := r.get (List.getElem?_eq_getElem h)
    refine ⟨⟨vs, v, SqL.of h2, e⟩, fun x H3 y => ?_⟩
    obtain ⟨T, x', rfl, nT, rfl, y⟩ := y
    have ex := y vs (SqL.of h2)
    rw [e] at ex; cases ex
    refine ⟨same_upd nT, _, enumL_get ds 0 i _ (List.getElem?_eq_getElem h), fun L2 l t2 => ?_⟩
    unfold Rep
    refine ⟨T, _, rfl, .inl ⟨upd_same, fun z => ?_⟩, Reps.cons (by unfold Rep; congr 1; omega) (Reps.cons (Rep.same (same_upd nT) (Rep.keep kp l _ _ rv)) Reps.nil)⟩
    obtain ⟨o, eo⟩ := t2 T z
    rw [nT] at eo; cases eo
  · rw [enumL_len] at h
    exact ⟨vs, SqL.of h2, by rw [← r.length]; exact h⟩
theorem zipL_get : ∀ (ds es : List D) (i : Nat), i < (zipL ds es).length → ∃ d e, ds[i]? = some d ∧ es[i]? = some e ∧ (zipL ds es)[i]? = some (.tup [d, e])
  | [], es, i, h => by simp [zipL] at h
  | d :: ds, [], i, h => by simp [zipL] at h
  | d :: ds, e :: es, 0, h => ⟨d, e, by simp, by simp, by simp [zipL]⟩
  | d :: ds, e :: es, i + 1, h => by
    obtain ⟨d', e', h1, h2, h3⟩ := zipL_get ds es i (by simpa [zipL] using h)
    exact ⟨d', e', by simpa using h1, by simpa using h2, by simpa [zipL] using h3⟩
theorem zipL_len : ∀ (ds es : List D), (zipL ds es).length = min ds.length es.length
  | [], es => by simp [zipL]
  | d :: ds, [] => by simp [zipL]
  | d :: ds, e :: es => by simp [zipL, zipL_len ds es]
theorem ok_zip {L1 : Addr → Prop} {H1 : Hp} {K : PySem.W.Frag} {a b : Addr} {vs ws : List V} {ds es : List D} (h1 : H1 a = some (.lst vs)) (n1 : ¬ L1 a) (r : Reps P L1 H1 ds vs) (g1 : H1 b = some (.lst ws)) (m1 : ¬ L1 b) (q : Reps P L1 H1 es ws) : ItOk P L1 H1 (Itz K a b) (zipL ds es) := fun H2 kp i => by
  have h2 := kp _ _ h1 n1
  have g2 := kp _ _ g1 m1
  refine ⟨fun h => ?_, fun h => ?_⟩
  · obtain ⟨d, e, hd, he, hz⟩ := zipL_get ds es i h
    obtain ⟨v, ev, rv⟩ := r.get hd
    obtain ⟨w, ew, rw'⟩ := q.get he
    refine ⟨⟨vs, ws, v, w, SqL.of h2, SqL.of g2, ev, ew⟩, fun x H3 y => ?_⟩
    obtain ⟨T, x', y', rfl, nT, rfl, y1, y2⟩ := y
    have ex := y1 vs (SqL.of h2)
    have ey := y2 ws (SqL.of g2)
    rw [ev] at ex; cases ex
    rw [ew] at ey; cases ey
    refine ⟨same_upd nT, _, hz, fun L2 l t2 => ?_⟩
    unfold Rep
    refine ⟨T, _, rfl, .inl ⟨upd_same, fun z => ?_⟩, Reps.cons (Rep.same (same_upd nT) (Rep.keep kp l _ _ rv)) (Reps.cons (Rep.same (same_upd nT) (Rep.keep kp l _ _ rw')) Reps.nil)⟩
    obtain ⟨o, eo⟩ := t2 T z
    rw [nT] at eo; cases eo
  · rw [zipL_len, r.length, q.length] at h
    exact ⟨vs, ws, SqL.of h2, SqL.of g2, by omega⟩
theorem ok_zipT {L1 : Addr → Prop} {H1 : Hp} {a b : Addr} {vs ws : List V} {ds es : List D} (h1 : TupAt P.K L1 H1 a vs) (r : Reps P L1 H1 ds vs) (g1 : TupAt P.K L1 H1 b ws) (q : Reps P L1 H1 es ws) : ItOk P L1 H1 (RZ.ItzT P.K a b) (zipL ds es) := fun H2 kp i => by
  have h2 : SqT P.K H2 a vs := (TupAt.keep (L' := fun _ => False) kp (fun _ z => z.elim) h1).sq
  have g2 : SqT P.K H2 b ws := (TupAt.keep (L' := fun _ => False) kp (fun _ z => z.elim) g1).sq
  refine ⟨fun h => ?_, fun h => ?_⟩
  · obtain ⟨d, e, hd, he, hz⟩ := zipL_get ds es i h
    obtain ⟨v, ev, rv⟩ := r.get hd
    obtain ⟨w, ew, rw'⟩ := q.get he
    refine ⟨⟨vs, ws, v, w, h2, g2, ev, ew⟩, fun x H3 y => ?_⟩
    obtain ⟨T, x', y', rfl, nT, rfl, y1, y2⟩ := y
    have ex := y1 vs h2
    have ey := y2 ws g2
    rw [ev] at ex; cases ex
    rw [ew] at ey; cases ey
    refine ⟨same_upd nT, _, hz, fun L2 l t2 => ?_⟩
    unfold Rep
    refine ⟨T, _, rfl, .inl ⟨upd_same, fun z => ?_⟩, Reps.cons (Rep.same (same_upd nT) (Rep.keep kp l _ _ rv)) (Reps.cons (Rep.same (same_upd nT) (Rep.keep kp l _ _ rw')) Reps.nil)⟩
    obtain ⟨o, eo⟩ := t2 T z
    rw [nT] at eo; cases eo
  · rw [zipL_len, r.length, q.length] at h
    exact ⟨vs, ws, h2, g2, by omega⟩
theorem i_seq {ga : Loc → Option (R × Loc)} {gi : Loc → Option (List D × Loc)} {K : PySem.W.Frag} (hg : ∀ loc items loc', gi loc = some (items, loc') → ∃ r, ga loc = some (r, loc') ∧ toVal r = some (.lst items)) {R' : It → Hp → Prop} (h : tI P gi σ H R') : iList K (tE P ga) σ H R' := by
  obtain ⟨L0, loc, items, loc', R, e, k⟩ := h
  obtain ⟨r, h1, h2⟩ := hg _ _ _ e
  refine ⟨L0, loc, r, loc', R, h1, fun x H1 p1 => ?_⟩
  have rp := toVal_rep p1.rep h2
  unfold Rep at rp
  obtain ⟨a, vs, rfl, e1, n1, rr⟩ := rp
  exact ⟨a, rfl, ⟨vs, SqL.of e1⟩, k _ _ p1.blank (ok_lst e1 n1 rr)⟩
theorem i_tpl {ga : Loc → Option (R × Loc)} {gi : Loc → Option (List D × Loc)} {K : PySem.W.Frag} (hK : P.K = K) (hg : ∀ loc items loc', gi loc = some (items, loc') → ∃ r, ga loc = some (r, loc') ∧ toVal r = some (.tup items)) {R' : It → Hp → Prop} (h : tI P gi σ H R') : iTup K (tE P ga) σ H R' := by
  obtain ⟨L0, loc, items, loc', R, e, k⟩ := h
  obtain ⟨r, h1, h2⟩ := hg _ _ _ e
  refine ⟨L0, loc, r, loc', R, h1, fun x H1 p1 => ?_⟩
  have rp := toVal_rep p1.rep h2
  unfold Rep at rp
  obtain ⟨a, vs, rfl, t, rr⟩ := rp
  exact ⟨a, rfl, ⟨vs, hK ▸ t.sq⟩, k _ _ p1.blank (ok_tupA hK t rr)⟩
theorem small_spec {n : Int} (h : small n = true) : -(2 ^ 62) ≤ n ∧ n < 2 ^ 62 := by
  unfold small at h
  simpa only [Bool.and_eq_true, decide_eq_true_eq] using h
theorem val_int {v : V} {n : Int} {r : R} (h : RepR P L0 loc σ H r v) (e : r = .val (.int n)) : v = .int n := by
  subst e
  have : Rep P (Lv L0 loc σ) H (.int n) v := h
  unfold Rep at this; exact this
theorem i_rng1 {ga : Loc → Option (R × Loc)} {gi : Loc → Option (List D × Loc)} (hg : ∀ loc items loc', gi loc = some (items, loc') → ∃ n, ga loc = some (.val (.int n), loc') ∧ small n = true ∧ items = rngL 0 n.toNat) {R' : It → Hp → Prop} (h : tI P gi σ H R') : iRng1 (tCons (tE P ga) tNil) σ H R' := by
  obtain ⟨L0, loc, items, loc', R, e, k⟩ := h
  obtain ⟨n, h1, h2, rfl⟩ := hg _ _ _ e
  have hs := small_spec h2
  exact ⟨L0, loc, _, loc', R, h1, fun x H1 p1 => ⟨n, by rw [val_int p1.rep rfl], hs.1, hs.2, k _ _ p1.blank (ok_rng 0 _)⟩⟩
theorem i_rng2 {ga gb : Loc → Option (R × Loc)} {gi : Loc → Option (List D × Loc)} (hg : ∀ loc items loc', gi loc = some (items, loc') → ∃ m l1 n, ga loc = some (.val (.int m), l1) ∧ gb l1 = some (.val (.int n), loc') ∧ small m = true ∧ small n = true ∧ items = rngL m (n - m).toNat) {R' : It → Hp → Prop} (h : tI P gi σ H R') :
    iRng2 (tCons (tE P ga) (tCons (tE P gb) tNil)) σ H R' := by
  obtain ⟨L0, loc, items, loc', R, e, k⟩ := h
  obtain ⟨m, l1, n, h1, h2, h3, h4, rfl⟩ := hg _ _ _ e
  have hs := small_spec h3
  have ht := small_spec h4
  refine ⟨L0, loc, _, l1, R, h1, fun x H1 p1 => ⟨L0, l1, _, loc', p1.rel, h2, fun y H2 p2 => ⟨m, n, by rw [val_int p1.rep rfl, val_int p2.rep rfl], ⟨hs.1, hs.2, ht.1, ht.2⟩, k _ _ (p1.blank.trans p2.blank) (ok_rng m _)⟩⟩⟩
theorem i_enum {ga : Loc → Option (R × Loc)} {gi : Loc → Option (List D × Loc)} {K : PySem.W.Frag} (hg : ∀ loc items loc', gi loc = some (items, loc') → ∃ r ds, ga loc = some (r, loc') ∧ toVal r = some (.lst ds) ∧ items = enumL 0 ds) {R' : It → Hp → Prop} (h : tI P gi σ H R') : iEnum K (tCons (tE P ga) tNil) σ H R' := by
  obtain ⟨L0, loc, items, loc', R, e, k⟩ := h
  obtain ⟨r, ds, h1, h2, rfl⟩ := hg _ _ _ e
  refine ⟨L0, loc, r, loc', R, h1, fun x H1 p1 => ?_⟩
  have rp := toVal_rep p1.rep h2
  unfold Rep at rp
  obtain ⟨a, vs, rfl, e1, n1, rr⟩ := rp
  exact ⟨a, vs, rfl, SqL.of e1, k _ _ p1.blank (ok_enum e1 n1 rr)⟩
theorem i_zip {ga gb : Loc → Option (R × Loc)} {gi : Loc → Option (List D × Loc)} {K : PySem.W.Frag} (hK : P.K = K) (hg : ∀ loc items loc', gi loc = some (items, loc') → ∃ r l1 r' ds es, ga loc = some (r, l1) ∧ gb l1 = some (r', loc') ∧ ((toVal r = some (.lst ds) ∧ toVal r' = some (.lst es)) ∨ (toVal r = some (.tup ds) ∧ toVal r' = some (.tup es))) ∧ items = zipL ds es) {R' : It → Hp → Prop} (h : tI P gi σ H R') :
    RZ.iZipA K (tCons (tE P ga) (tCons (tE P gb) tNil)) σ H R' := by
  obtain ⟨L0, loc, items, loc', R, e, k⟩ := h
  obtain ⟨r, l1, r', ds, es, h1, h2, h34, rfl⟩ := hg _ _ _ e
  refine ⟨L0, loc, r, l1, R, h1, fun x H1 p1 => ⟨L0, l1, r', loc', p1.rel, h2, fun y H2 p2 => ?_⟩⟩
  have rp := (p1.rep.sett).after p2
  rcases h34 with ⟨h3, h4⟩ | ⟨h3, h4⟩
  · rw [tval_sett h3] at rp
    have rq := toVal_rep p2.rep h4
    have rp' : Rep P (Lv L0 loc' σ) H2 (.lst ds) x := rp
    unfold Rep at rp' rq
    obtain ⟨a, vs, rfl, e1, n1, rr⟩ := rp'
    obtain ⟨b, ws, rfl, f1, m1, rs⟩ := rq
    exact ⟨a, b, vs, ws, rfl, .inl ⟨SqL.of e1, SqL.of f1, k _ _ (p1.blank.trans p2.blank) (ok_zip e1 n1 rr f1 m1 rs)⟩⟩
  · rw [tval_sett h3] at rp
    have rq := toVal_rep p2.rep h4
    have rp' : Rep P (Lv L0 loc' σ) H2 (.tup ds) x := rp
    unfold Rep at rp' rq
    obtain ⟨a, vs, rfl, e1, rr⟩ := rp'
    obtain ⟨b, ws, rfl, f1, rs⟩ := rq
    subst hK
    exact ⟨a, b, vs, ws, rfl, .inr ⟨e1.sq, f1.sq, k _ _ (p1.blank.trans p2.blank) (ok_zipT e1 rr f1 rs)⟩⟩
end MP

/-! instances: fields, methods, new ones; chains of four; sums of ranges -/
namespace MP
open PySem PySem.Spec PyProof.Rows L2
variable {P : RP} {L L' : Addr → Prop} {H H' : Hp} {L0 : Addr → Prop} {loc loc' : Loc} {σ σ' : Sg}
theorem ins_of {v : V} {c : Nat} {fs : List D} (h : Rep P L H (.ins c fs) v) : ∃ a dx vs, v = .ref a ∧ H a = some (.ins (P.ca c) dx ((P.fl c).zip vs)) ∧ ¬ L a ∧ vs.length ≤ (P.fl c).length ∧ Reps P L H fs vs := by
  unfold Rep at h; exact h
theorem lookup_zip_none {m : Str} : ∀ {fl : List Str} {vs : List V}, m ∉ fl → (fl.zip vs).lookup m = none
  | [], _, _ => rfl
  | _ :: _, [], _ => rfl
  | f :: fl, v :: vs, h => by
    simp only [List.mem_cons, not_or] at h
    rw [List.zip_cons_cons, List.lookup_cons]
    have : (m == f) = false := by rw [beq_eq_false_iff_ne]; exact h.1
    rw [this]
    exact lookup_zip_none h.2
theorem lookup_zip {f : Str} : ∀ {fl : List Str} {vs : List V} {k : Nat} {v : V}, fl.Nodup → fl[k]? = some f → vs[k]? = some v → (fl.zip vs).lookup f = some v
  | [], _, _, _, _, h, _ => by simp at h
  | _ :: _, [], _, _, _, _, h => by simp at h
  | g :: fl, w :: vs, 0, v, nd, h1, h2 => by
    simp at h1 h2
    subst h1; subst h2
    rw [List.zip_cons_cons, List.lookup_cons]
    simp
  | g :: fl, w :: vs, k + 1, v, nd, h1, h2 => by
    rw [List.nodup_cons] at nd
    have h1 : fl[k]? = some f := by simpa using h1
    have h2 : vs[k]? = some v := by simpa using h2
    have : (f == g) = false := by
      rw [beq_eq_false_iff_ne]
      intro e
      subst e
      exact nd.1 (List.mem_of_getElem? h1)
    rw [List.zip_cons_cons, List.lookup_cons, this]
    exact lookup_zip nd.2 h1 h2
theorem e_fld {K : PySem.W.Frag} {f : Str} {tb : List (Nat × Nat)} {ga g : Loc → Option (R × Loc)}
    (hg : ∀ loc r loc', g loc = some (r, loc') → ∃ c fs k d, ga loc = some (.val (.ins c fs), loc') ∧ tb.lookup c = some k ∧ fs[k]? = some d ∧ r = .val d)
    (hcl : ∀ c k, tb.lookup c = some k → Cls K (P.ca c) ∧ NoAttr K (P.ca c) f ∧ (P.fl c)[k]? = some f ∧ (P.fl c).Nodup)
    {Q : VK} (h : tE P g σ H Q) : tFld K (tE P ga) f σ H Q := by
  obtain ⟨L0, loc, r, loc', R, e, k⟩ := h
  obtain ⟨c, fs, i, d, h1, h2, h3, rfl⟩ := hg _ _ _ e
  obtain ⟨q1, q2, q3, q4⟩ := hcl c i h2
  refine ⟨L0, loc, _, loc', R, h1, fun x H1 p1 => ?_⟩
  obtain ⟨a, dx, vs, rfl, ha, _, _, rr⟩ := ins_of p1.rep
  obtain ⟨v, ev, rv⟩ := rr.get h3
  exact ⟨a, P.ca c, dx, _, v, rfl, ha, q1, q2, lookup_zip q4 q3 ev, k v H1 (p1.trans (EvPost.refl p1.rel rv))⟩
/-- how a class has a method, at a level -/
def MethOk (X : Cx) (P : RP) (C : CallS) (kk : Nat) (c : Nat) (m : Str) (f : Nat) : Prop := ∃ (k : Nat) (fA : Addr) (fd : FuncData) (ps : List Str), k ≤ kk ∧ Meth X.K (P.ca c) m fA ∧
  GFn X.prog X.w X.K X.mg X.base CX0 k fA fd ps (spOf P (C f) ps.length) ∧ Binds X.K fd ps [] ∧ ∀ a r a', C f a = some (r, a') → a.length = ps.length
theorem meth_go {C : CallS} {c f : Nat} {fs : List D} {x : V} {H1 : Hp} {l1 l2 : Loc} {gs : Loc → Option (List R × Loc)} {rs : List R} {a a' : Loc} {r : R} {loc0 : Loc} {H0 : Hp} {Q : VK}
    (p1 : EvPost P L0 loc0 σ H0 l1 (.val (.ins c fs)) x H1) (h2 : gs l1 = some (rs, l2)) (hn : nodupB (refs (R.val (.ins c fs) :: rs)) = true) (ha : argsOf l2 (R.val (.ins c fs) :: rs) = some a) (hC : C f a = some (r, a')) (hr : ∀ i, r ≠ .ref i)
    (hgv : given (R.val (.ins c fs) :: rs) a' l2 = some loc') (ar : Nat) (hl : a.length = ar) (k : ∀ v H', EvPost P L0 loc0 σ H0 loc' r v H' → Q v H') {E : XK} : tA P gs σ H1 fun vs H2 => spOf P (C f) ar (x :: vs) H2 Q E := by
  refine ⟨L0, l1, rs, l2, p1.rel, h2, fun vs H2 p2 rr => ?_⟩
  have rr' : RepRs P L0 l2 σ H2 (R.val (.ins c fs) :: rs) (x :: vs) := ⟨x, vs, rfl, p1.rep.sett.after p2, rr⟩
  refine ⟨?_, Lc L0 l2 σ a (x :: vs), a, r, a', args_rel p2.rel rr' ha hn, hC, hr, fun v H3 p3 => ?_⟩
  · rw [← rr'.length, argsOf_len ha, hl]
  · exact k v H3 ((p1.trans p2).trans (call_post p2.rel rr' ha hn hgv hr p3))
theorem e_meth {X : Cx} {C : CallS} {kk : Nat} {m : Str} {tb : List (Nat × Nat)} {ga g : Loc → Option (R × Loc)} {gs : Loc → Option (List R × Loc)} {t : TA}
    (hg : ∀ loc r loc', g loc = some (r, loc') → ∃ c fs f l1 rs l2 a a', ga loc = some (.val (.ins c fs), l1) ∧ tb.lookup c = some f ∧ gs l1 = some (rs, l2) ∧ nodupB (refs (R.val (.ins c fs) :: rs)) = true ∧ argsOf l2 (R.val (.ins c fs) :: rs) = some a ∧ C f a = some (r, a') ∧ given (R.val (.ins c fs) :: rs) a' l2 = some loc')
    (hC : ∀ j a r a', C j a = some (r, a') → ∀ i, r ≠ .ref i) (hroom : Room kk X.A) (hxe : X.xe = fun _ _ => False)
    (hm : ∀ c f, tb.lookup c = some f → Cls X.K (P.ca c) ∧ m ∉ P.fl c ∧ MethOk X P C kk c m f)
    (ht : ∀ (σ : Sg) (H : Hp) (Q : List V → Hp → Prop), tA P gs σ H Q → t σ H Q) {Q : VK} (h : tE P g σ H Q) : tMethG X CX0 m (tE P ga) t σ H Q := by
  obtain ⟨L0, loc, r, loc', R, e, k⟩ := h
  obtain ⟨c, fs, f, l1, rs, l2, a, a', h1, h2, h3, h4, h5, h6, h7⟩ := hg _ _ _ e
  obtain ⟨q1, q2, k', fA, fd, ps, hk, q3, q4, q5, q6⟩ := hm c f h2
  refine ⟨L0, loc, _, l1, R, h1, fun x H1 p1 => ?_⟩
  obtain ⟨b, dx, vs, rfl, hb, _, _, _⟩ := ins_of p1.rep
  refine ⟨b, P.ca c, dx, _, k', fA, fd, ps, _, (fun _ _ _ => False), rfl, hb, lookup_zip_none q2, q1, q3, q4, hroom.mono hk, q5, pass0, ht _ _ _ ?_⟩
  exact meth_go p1 h3 h4 h5 h6 (hC _ _ _ _ h6) h7 _ (q6 _ _ _ h6) k
/-- what an __init__ promises -/
def spI (P : RP) (g : Loc → Option (R × Loc)) (c n : Nat) : Sp := fun vs H Q _ => vs.length = n + 1 ∧ ∃ (x dx : Addr) (ws : List V) (L0 : Addr → Prop) (a : Loc) (ds : List D) (a' : Loc), vs = .ref x :: ws ∧ H x = some (.ins (P.ca c) dx []) ∧ L0 x ∧ Rel P L0 a (ws.map some) H ∧
  g a = some (.val (.ins c ds), a') ∧ ∀ H', (∀ b o, H b = some o → b ≠ x → H' b = some o) → Rep P (fun b => L0 b ∧ b ≠ x) H' (.ins c ds) (.ref x) → Q .non H'
theorem allDat_own {a : Loc} {s : Sg} {b : Addr} (h : allDat a = true) : ¬ OwnAt a s b := fun ⟨i, k, ds, e, _⟩ => by
  have := List.all_eq_true.mp h _ (List.mem_of_getElem? e)
  cases this
theorem allDat_refs : ∀ {rs : List R} {a l : Loc}, argsOf l rs = some a → allDat a = true → refs rs = []
  | [], a, l, h, q => rfl
  | r :: rs, a, l, h, q => by
    unfold argsOf at h
    split at h
    · rename_i s l' h1 h2
      cases h
      unfold allDat at q
      simp only [List.all_cons, Bool.and_eq_true] at q
      have ih := allDat_refs h2 q.2
      cases r with
      | val d => exact ih
      | new d => exact ih
      | ref j =>
        simp only [argOf] at h1
        split at h1 <;> cases h1
        · cases q.1
        · cases q.1
    · cases h
theorem make_go {C : Loc → Option (R × Loc)} {c n : Nat} {rs : List R} {a a' : Loc} {ds : List D} {l1 loc0 : Loc} {H1 H0 : Hp} {vs : List V} {Q : VK} {E : XK} {C' : Addr} (hC' : C' = P.ca c)
    (p1 : EvPost P L0 loc0 σ H0 l1 (.val .non) .non H1) (rr : RepRs P L0 l1 σ H1 rs vs) (ha : argsOf l1 rs = some a) (hd : allDat a = true) (hC : C a = some (.val (.ins c ds), a')) (hl : a.length = n)
    (k : ∀ v H', EvPost P L0 loc0 σ H0 l1 (.val (.ins c ds)) v H' → Q v H') :
    ∀ x dx, H1 x = none → H1 dx = none → dx ≠ x → spI P C c n (.ref x :: (vs ++ [])) (upd (upd H1 dx (.own x)) x (.ins C' dx [])) (fun v H2 => v = .non ∧ Q (.ref x) H2) E := by
  intro x dx hx hdx ne
  subst hC'
  rw [List.append_nil]
  have hn : nodupB (refs rs) = true := by rw [allDat_refs ha hd]; rfl
  have R1 := args_rel p1.rel rr ha hn
  have sm : Same H1 (upd (upd H1 dx (.own x)) x (.ins (P.ca c) dx [])) := fun b o e => by
    rw [upd_ne (ne_of_none e hx), upd_ne (ne_of_none e hdx)]; exact e
  have hxs : (upd (upd H1 dx (.own x)) x (.ins (P.ca c) dx [])) x = some (.ins (P.ca c) dx []) := upd_same
  refine ⟨by rw [List.length_cons, ← rr.length, argsOf_len ha, hl], x, dx, vs, fun b => Lc L0 l1 σ a vs b ∨ b = x, a, ds, a', rfl, hxs, .inr rfl, ?_, hC, fun H' kp rep => ⟨rfl, k _ _ ?_⟩⟩
  · refine R1.grow sm (fun b z => ?_) fun b z => ?_
    · rcases z with z | z
      · exact .inl z
      · subst z; exact .inr hx
    · rcases z with z | z
      · obtain ⟨o, e⟩ := R1.l0 b z
        exact ⟨o, sm b o e⟩
      · subst z; exact ⟨_, hxs⟩
  · have s13 : Same H1 H' := fun b o e => kp b o (sm b o e) (ne_of_none e hx)
    refine p1.trans (EvPost.op (r := .val (.ins c ds)) p1.rel ⟨s13, Rep.weak (fun b z => ?_) rep⟩)
    have bx : b ≠ x := fun q => by
      subst q
      obtain ⟨o, e⟩ := p1.rel.lv z
      rw [hx] at e; cases e
    refine ⟨.inl ⟨z, allDat_own hd⟩, bx⟩
theorem e_make {C : CallS} {c f n : Nat} {C' : Addr} {g : Loc → Option (R × Loc)} {gs : Loc → Option (List R × Loc)} (hC' : C' = P.ca c)
    (hg : ∀ loc r loc', g loc = some (r, loc') → ∃ rs a ds a', gs loc = some (rs, loc') ∧ argsOf loc' rs = some a ∧ allDat a = true ∧ C f a = some (.val (.ins c ds), a') ∧ r = .val (.ins c ds))
    (hl : ∀ a r a', C f a = some (r, a') → a.length = n) {E : XK} {Q : VK} (h : tE P g σ H Q) : tMake C' (spI P (C f) c n) [] E (tA P gs) σ H Q := by
  obtain ⟨L0, loc, r, loc', R, e, k⟩ := h
  obtain ⟨rs, a, ds, a', h1, h2, h3, h4, rfl⟩ := hg _ _ _ e
  exact ⟨L0, loc, rs, loc', R, h1, fun vs H1 p1 rr => make_go hC' p1 rr h2 h3 h4 (hl _ _ _ h4) k⟩
/-- the heap changes at a live place that is no own list -/
theorem Rel.touch {x : Addr} {o : HO} (R : Rel P L0 loc σ H) (hx : L0 x) : Rel P L0 loc σ (upd H x o) := by
  have kp : ∀ b q, H b = some q → ¬ Lv L0 loc σ b → (upd H x o) b = some q := fun b q e n => by
    rw [upd_ne (fun z => n (by rw [z]; exact .inl hx))]; exact e
  refine ⟨R.len, fun b z => ?_, fun j d e => ?_, fun j b ds e => ?_, R.inj, fun j ns e => ?_⟩
  · obtain ⟨q, e⟩ := R.l0 b z
    by_cases h : b = x
    · subst h; exact ⟨_, upd_same⟩
    · exact ⟨q, by rw [upd_ne h]; exact e⟩
  · obtain ⟨v, e1, r⟩ := R.dat j d e
    exact ⟨v, e1, Rep.keep kp (fun b z => .inl z) d v r⟩
  · obtain ⟨a, vs, e1, h1, n1, r⟩ := R.own j b ds e
    have ne : a ≠ x := fun z => n1 (by rw [z]; exact hx)
    exact ⟨a, vs, e1, by rw [upd_ne ne]; exact h1, n1, Reps.keep kp (fun b z => .inl z) ds vs r⟩
  · obtain ⟨a, e1, h1⟩ := R.scr j ns e
    exact ⟨a, e1, h1.keep kp fun b z => .inl z⟩
/-- an instance that is made becomes data in a slot -/
theorem Rel.made {x : Addr} {d : D} {i : Nat} (R : Rel P L0 loc σ H) (hi : loc[i]? = some .hid) (ha : σ[i]? = some (some (.ref x))) (hr : Rep P (fun b => Lv L0 loc σ b ∧ b ≠ x) H d (.ref x)) (hno : ¬ OwnAt loc σ x) :
    Rel P (fun b => L0 b ∧ b ≠ x) (loc.set i (.dat d)) σ H := by
  have own : ∀ b, OwnAt (loc.set i (.dat d)) σ b → OwnAt loc σ b := fun b ⟨j, b', es, e1, e2⟩ => by
    rcases getset e1 with ⟨_, e3, _⟩ | ⟨ne, e1⟩
    · cases e3
    · exact ⟨j, b', es, e1, e2⟩
  have lv : ∀ b, Lv (fun b => L0 b ∧ b ≠ x) (loc.set i (.dat d)) σ b → Lv L0 loc σ b ∧ b ≠ x := fun b z => by
    rcases z with z | z
    · exact ⟨.inl z.1, z.2⟩
    · refine ⟨.inr (own b z), fun q => ?_⟩
      subst q
      exact hno (own _ z)
  refine ⟨by rw [List.length_set]; exact R.len, fun b z => R.l0 b z.1, fun j d' e => ?_, fun j b ds e => ?_, fun j k b c ds es w e1 e2 e3 e4 => ?_, fun j ns e => ?_⟩
  · rcases getset e with ⟨rfl, e3, _⟩ | ⟨ne, e⟩
    · cases e3
      exact ⟨_, ha, Rep.weak lv hr⟩
    · obtain ⟨w, e1, r⟩ := R.dat j d' e
      exact ⟨w, e1, Rep.weak (fun b z => (lv b z).1) r⟩
  · rcases getset e with ⟨rfl, e3, _⟩ | ⟨ne, e⟩
    · cases e3
    · obtain ⟨a, vs, e1, h1, n1, r⟩ := R.own j b ds e
      exact ⟨a, vs, e1, h1, fun z => n1 z.1, Reps.weak (fun b z => (lv b z).1) r⟩
  · rcases getset e1 with ⟨_, z, _⟩ | ⟨n1, e1⟩
    · cases z
    rcases getset e2 with ⟨_, z, _⟩ | ⟨n2, e2⟩
    · cases z
    exact R.inj _ _ _ _ _ _ _ e1 e2 e3 e4
  · rcases getset e with ⟨rfl, e3, _⟩ | ⟨ne, e⟩
    · cases e3
    · obtain ⟨a, e1, h1⟩ := R.scr j ns e
      exact ⟨a, e1, h1.keep (fun _ _ z _ => z) fun b z => .inl (lv b z).1⟩
theorem putF_zip {f : Str} {v : V} : ∀ {fl : List Str} {vs : List V}, fl.Nodup → fl[vs.length]? = some f → putF f v (fl.zip vs) = fl.zip (vs ++ [v])
  | [], vs, _, h => by simp at h
  | g :: fl, [], nd, h => by
    simp at h; subst h
    cases fl <;> rfl
  | g :: fl, w :: vs, nd, h => by
    rw [List.nodup_cons] at nd
    have h : fl[vs.length]? = some f := by simpa using h
    have ne : g ≠ f := fun e => by subst e; exact nd.1 (List.mem_of_getElem? h)
    have ih := putF_zip (v := v) nd.2 h
    rw [List.zip_cons_cons, List.cons_append, List.zip_cons_cons, ← ih]
    show (if g = f then (g, v) :: fl.zip vs else (g, w) :: putF f v (fl.zip vs)) = _
    rw [if_neg ne]
/-! chains of four -/
theorem e_ch3 {f f' f'' : D → D → Option R} {ga gb gc gd g : Loc → Option (R × Loc)}
    (hg : ∀ loc r loc', g loc = some (r, loc') → ∃ ra l1 rb l2 d e, ga loc = some (ra, l1) ∧ gb l1 = some (rb, l2) ∧ res l2 (sett ra) = some d ∧ res l2 rb = some e ∧
      ((f d e = some (.val (.bl true)) ∧ ∃ rc l3 e' f1, gc l2 = some (rc, l3) ∧ res l3 (sett rb) = some e' ∧ res l3 rc = some f1 ∧
          ((f' e' f1 = some (.val (.bl true)) ∧ ∃ rd f2 g1 k, gd l3 = some (rd, loc') ∧ res loc' (sett rc) = some f2 ∧ res loc' rd = some g1 ∧ f'' f2 g1 = some (.val (.bl k)) ∧ r = .val (.bl k)) ∨ (f' e' f1 = some (.val (.bl false)) ∧ r = .val (.bl false) ∧ loc' = l3))) ∨
        (f d e = some (.val (.bl false)) ∧ r = .val (.bl false) ∧ loc' = l2)))
    {Q : VK} (h : tE P g σ H Q) : tChain3 (rD2 P f) (rD2 P f') (rD2 P f'') (tE P ga) (tE P gb) (tE P gc) (tE P gd) σ H Q := by
  obtain ⟨L0, loc, r, loc', R, e, k⟩ := h
  obtain ⟨ra, l1, rb, l2, d, e', h1, h2, h3, h4, h5⟩ := hg _ _ _ e
  refine ⟨L0, loc, ra, l1, R, h1, fun x H1 p1 => ⟨L0, l1, rb, l2, p1.rel, h2, fun y H2 p2 => ?_⟩⟩
  have w1 := res_w p2.rel (p1.rep.sett.after p2) h3
  have w2 := res_w p2.rel p2.rep h4
  rcases h5 with ⟨h5, rc, l3, e2, f1, h6, h7, h8, h9⟩ | ⟨h5, rfl, rfl⟩
  · refine ⟨Lv L0 l2 σ, d, e', _, fun b z => p2.rel.lv z, w1, w2, h5, fun v H3 ⟨s3, hv⟩ => ?_⟩
    unfold Rep at hv
    refine ⟨true, hv, iteT ?_⟩
    have p3 : EvPost P L0 l2 σ H2 l2 (.val (.bl true)) v H3 := EvPost.op p2.rel ⟨s3, by unfold Rep; exact hv⟩
    refine ⟨L0, l2, rc, l3, p3.rel, h6, fun z' H4 p4 => ?_⟩
    have y4 := ((p2.rep.sett).after p3).after p4
    have v1 := res_w p4.rel y4 h7
    have v2 := res_w p4.rel p4.rep h8
    have pp := ((p1.trans p2).trans p3).trans p4
    rcases h9 with ⟨h9, rd, f2, g1, k2, h10, h11, h12, h13, rfl⟩ | ⟨h9, rfl, rfl⟩
    · refine ⟨Lv L0 l3 σ, e2, f1, _, fun b z => p4.rel.lv z, v1, v2, h9, fun v5 H5 ⟨s5, hv5⟩ => ?_⟩
      unfold Rep at hv5
      refine ⟨true, hv5, iteT ?_⟩
      have p5 : EvPost P L0 l3 σ H4 l3 (.val (.bl true)) v5 H5 := EvPost.op p4.rel ⟨s5, by unfold Rep; exact hv5⟩
      refine ⟨L0, l3, rd, loc', p5.rel, h10, fun z2 H6 p6 => ?_⟩
      have z6 := ((p4.rep.sett).after p5).after p6
      refine ⟨Lv L0 loc' σ, f2, g1, _, fun b z => p6.rel.lv z, res_w p6.rel z6 h11, res_w p6.rel p6.rep h12, h13, fun v7 H7 hp => ?_⟩
      exact k v7 H7 ((pp.trans (p5.trans p6)).trans (EvPost.op p6.rel hp))
    · refine ⟨Lv L0 loc' σ, e2, f1, _, fun b z => p4.rel.lv z, v1, v2, h9, fun v5 H5 hp => ?_⟩
      obtain ⟨s5, hv⟩ := hp
      have hv' := hv
      unfold Rep at hv
      refine ⟨false, hv, iteF ?_⟩
      subst hv
      exact k _ H5 (pp.trans (EvPost.op p4.rel ⟨s5, hv'⟩))
  · refine ⟨_, d, e', _, fun b z => p2.rel.lv z, w1, w2, h5, fun v H3 hp => ?_⟩
    obtain ⟨s3, hv⟩ := hp
    have hv' := hv
    unfold Rep at hv
    refine ⟨false, hv, iteF ?_⟩
    subst hv
    exact k _ H3 ((p1.trans p2).trans (EvPost.op p2.rel ⟨s3, hv'⟩))
theorem e_sumR {ga g : Loc → Option (R × Loc)} (hg : ∀ loc r loc', g loc = some (r, loc') → ∃ n, ga loc = some (.val (.int n), loc') ∧ small n = true ∧ n.toNat ≤ big ∧ r = .val (.int (rsum 0 n.toNat))) {Q : VK} (h : tE P g σ H Q) : tSumRg (tRg1 (tE P ga)) σ H Q := by
  obtain ⟨L0, loc, r, loc', R, e, k⟩ := h
  obtain ⟨n, h1, h2, h3, rfl⟩ := hg _ _ _ e
  refine ⟨L0, loc, _, loc', R, h1, fun x H1 p1 => ?_⟩
  have hx : x = .int n := int_of (L := Lv L0 loc' σ) p1.rep
  refine ⟨n, hx, rg_small (by decide) h2 (by rw [Int.sub_zero]; exact h3), ?_⟩
  rw [Int.sub_zero]
  exact k _ H1 (p1.trans (EvPost.refl p1.rel (by unfold RepR; exact rep_int)))
/-- xs[::-1] -/
theorem e_rev {K : PySem.W.Frag} {ga g : Loc → Option (R × Loc)} (hg : ∀ loc r loc', g loc = some (r, loc') → ∃ ra xs, ga loc = some (ra, loc') ∧ res loc' ra = some (.lst xs) ∧ r = .new xs.reverse) {Q : VK} (h : tE P g σ H Q) : tRevL K (tE P ga) σ H Q := by
  obtain ⟨L0, loc, r, loc', R, e, k⟩ := h
  obtain ⟨ra, xs, h1, h2, rfl⟩ := hg _ _ _ e
  refine ⟨L0, loc, ra, loc', R, h1, fun x H1 p1 => ?_⟩
  obtain ⟨a, vs, rfl, t, rr⟩ := res_w p1.rel p1.rep h2
  exact ⟨a, vs, rfl, SqL.of t, fun p hp => k _ _ (p1.trans (EvPost.op p1.rel (.lst hp rr.reverse)))⟩
theorem rows_ks {K : PySem.W.Frag} (hK : P.K = K) : ∀ {ts : List (List Int)} {vs : List V}, Reps P L H (ts.map tupD) vs → ∃ ks : List (Addr × List Int), vs = ks.map (fun p => V.ref p.1) ∧ ks.map (·.2) = ts ∧ ∀ p ∈ ks, SqT K H p.1 (p.2.map V.int)
  | [], vs, r => by
    have : vs = [] := by have := r.length; simpa using this.symm
    subst this
    exact ⟨[], rfl, rfl, fun p hp => by simp at hp⟩
  | t :: ts, vs, r => by
    rw [List.map_cons] at r
    unfold Reps at r
    obtain ⟨v, w, rfl, h1, h2⟩ := r
    obtain ⟨ks, rfl, e2, e3⟩ := rows_ks hK h2
    obtain ⟨a, ws, rfl, t1, t2⟩ := tup_of (Rep.w h1)
    have := t2.ints
    subst this
    refine ⟨(a, t) :: ks, rfl, by rw [List.map_cons, e2], fun p hp => ?_⟩
    rcases List.mem_cons.mp hp with rfl | hp
    · exact hK ▸ t1.sq
    · exact e3 p hp
theorem e_lenSet {K : PySem.W.Frag} (hK : P.K = K) {ga g : Loc → Option (R × Loc)} (hg : ∀ loc r loc', g loc = some (r, loc') → ∃ ra xs ts, ga loc = some (ra, loc') ∧ res loc' ra = some (.lst xs) ∧ itups? xs = some ts ∧ ts.length < 64 ∧ r = .val (.int (dd ts).length)) {Q : VK} (h : tE P g σ H Q) : tLenSetT K (tE P ga) σ H Q := by
  obtain ⟨L0, loc, r, loc', R, e, k⟩ := h
  obtain ⟨ra, xs, ts, h1, h2, h3, h4, rfl⟩ := hg _ _ _ e
  refine ⟨L0, loc, ra, loc', R, h1, fun x H1 p1 => ?_⟩
  obtain ⟨a, vs, rfl, t, rr⟩ := res_w p1.rel p1.rep h2
  obtain rfl := itups_spec h3
  obtain ⟨ks, rfl, e2, e3⟩ := rows_ks hK rr
  refine ⟨a, ks, rfl, SqL.of t, e3, by rw [← e2, List.length_map] at h4; exact h4, ?_⟩
  rw [e2]
  exact k _ H1 (p1.trans (EvPost.refl p1.rel (by unfold RepR; exact rep_int)))
end MP

namespace MP
open PySem PySem.Spec PyProof.Rows L2

/-! ### the look: this term is that expression -/
structure KwSh where
  x : Str
  f : Nat
  ks : List Str
  np : Nat
  perm : List Nat
structure CK where
  N : List Str
  bl : List Str
  gl : List (Str × Nat)
  fn : List (Str × Nat)
  kw : List KwSh
  fl : List (List Str)
  mt : List (Nat × Str × Nat)
  ct : List (Str × Nat × Nat)
def vis (sc : Scope) (x : Str) : Bool := match sc.names.lookup x with
  | some .local => true
  | some .cell => true
  | some .free => true
  | _ => false
def kV (c : CK) (sc : Scope) (x : Str) (i : Nat) : Bool := decide (c.N[i]? = some x) && vis sc x && !(x == ("__debug__" : Str)) && !(x == ("__classdict__" : Str))
def kGl (sc : Scope) (x : Str) : Bool := decide (sc.names.lookup x = some .globalImplicit)
def kB (c : CK) (sc : Scope) (x y : Str) : Bool := decide (x = y) && decide (y ∈ c.bl) && kGl sc y
/-- a name that may be stored to -/
def kT (c : CK) (ow : Str → Bool) (sc : Scope) (x : Str) (i : Nat) : Bool := decide (c.N[i]? = some x) && (match sc.names.lookup x with
  | some .local => true
  | some .cell => ow x
  | _ => false)
def kTs (c : CK) (ow : Str → Bool) (sc : Scope) : List Expr → List Nat → Bool
  | [], is => match is with | [] => true | _ => false
  | e :: es, is => match e, is with
    | .Name x _, i :: is => kT c ow sc x i && kTs c ow sc es is
    | _, _ => false
def kP (c : CK) (ow : Str → Bool) (sc : Scope) (e : Expr) : Pat → Bool
  | .v i => match e with
    | .Name x _ => kT c ow sc x i
    | _ => false
  | .tup is => match e with
    | .Tuple es _ _ => kTs c ow sc es is
    | _ => false
def notStar : Expr → Bool
  | .Starred _ _ => false
  | _ => true
def notComp : Expr → Bool
  | .ListComp _ _ _ _ => false
  | .SetComp _ _ _ _ => false
  | .DictComp _ _ _ _ _ => false
  | _ => true
def notSlice : Expr → Bool
  | .Slice _ _ _ _ => false
  | _ => true
def notSet : Expr → Bool
  | .Set _ _ _ => false
  | _ => true
def plainTest : Expr → Bool
  | .UnaryOp .Not _ _ => false
  | .BoolOp _ _ _ => false
  | .IfExp _ _ _ _ => false
  | .Compare _ _ _ _ => false
  | _ => true
def nameO1 : O1 → Str
  | .len => "len" | .int => "int" | .list => "list" | .tuple => "tuple" | .sorted => "sorted" | .all => "all" | .any => "any" | .sum => "sum" | .abs => "abs" | .bool => "bool" | .repr => "repr"
  | .neg => "" | .isi _ => "" | .rev => "" | .lenSet => ""
def nameO2 : O2 → Str
  | .max2 => "max" | .min2 => "min" | .dmod => "divmod"
  | _ => ""
def isO2 : O2 → Bool
  | .max2 => true | .min2 => true | .dmod => true
  | _ => false
/-- a field's place in the classes told -/
def kFl (c : CK) (f : Str) (tb : List (Nat × Nat)) : Bool := tb.all fun p => match c.fl[p.1]? with
  | some fs => decide (fs[p.2]? = some f)
  | none => false
/-- a method's def in the classes told -/
def kMt (c : CK) (m : Str) (tb : List (Nat × Nat)) : Bool := tb.all fun p => decide ((p.1, m, p.2) ∈ c.mt) && match c.fl[p.1]? with
  | some fs => decide (m ∉ fs)
  | none => false
def tyS : Ty → Str
  | .int => "int" | .bool => "bool" | .list => "list" | .tuple => "tuple" | .str => "str"
def ownP (c : CK) (own : List Nat) : List (Str × Nat) := own.map fun i => (c.N.getD i "", i)
def blkOw (scope : Scope) : Str → Bool := fun x => scope.names.lookup x == some .cell

mutual
def mE : Nat → CK → (Str → Bool) → Scope → Expr → ME → Bool
  | 0, _, _, _, _, _ => false
  | n + 1, c, ow, sc, e, m => match m with
    | .c d => match e with
      | .Constant k _ _ => (match k, d with
        | .int i, .int j => decide (i = j)
        | .bool i, .bl j => decide (i = j)
        | .none, .non => true
        | .str i, .str j => decide (i = j)
        | _, _ => false)
      | _ => false
    | .g k => match e with
      | .Name x _ => decide ((x, k) ∈ c.gl) && kGl sc x && !(x == ("__debug__" : Str))
      | _ => false
    | .v i => match e with
      | .Name x _ => kV c sc x i
      | _ => false
    | .r i => match e with
      | .Name x _ => kV c sc x i
      | _ => false
    | .fz i => match e with
      | .Name x _ => kV c sc x i
      | _ => false
    | .tup es => match e with
      | .Tuple xs _ _ => mEs n c ow sc xs es && decide (es.length ≤ 1000)
      | _ => false
    | .lst es => match e with
      | .List xs _ => mEs n c ow sc xs es && decide (es.length ≤ 1000)
      | _ => false
    | .o1 o a => match o with
      | .neg => match e with
        | .UnaryOp .USub x _ => mE n c ow sc x a
        | _ => false
      | .isi t => match e with
        | .Call (.Name f _) [x, .Name tn _] [] _ => kB c sc f "isinstance" && kB c sc tn (tyS t) && notStar x && mE n c ow sc x a
        | _ => false
      | .rev => match e with
        | .Subscript x (.Slice none none (some (.UnaryOp .USub (.Constant (.int i) _ _) _)) _) _ => decide (i = 1) && mE n c ow sc x a
        | _ => false
      | .lenSet => match e with
        | .Call (.Name f _) [.Call (.Name g _) [x] [] _] [] _ => kB c sc f "len" && kB c sc g "set" && notStar x && mE n c ow sc x a
        | _ => false
      | o => match e with
        | .Call (.Name f _) [x] [] _ => kB c sc f (nameO1 o) && notStar x && mE n c ow sc x a
        | _ => false
    | .o2 o a b => match e with
      | .BinOp x op y _ => decide (binOf o = some op) && mE n c ow sc x a && mE n c ow sc y b
      | .Compare x [op] [y] _ => decide (cmpOf o = some op) && notSet y && mE n c ow sc x a && mE n c ow sc y b
      | .Subscript x y _ => decide (o = .ix) && notSlice y && mE n c ow sc x a && mE n c ow sc y b
      | .Call (.Name f _) [x, y] [] _ => isO2 o && kB c sc f (nameO2 o) && notStar x && notStar y && mE n c ow sc x a && mE n c ow sc y b
      | _ => false
    | .ch o o' a b d => match e with
      | .Compare x [op, op'] [y, z] _ => decide (cmpOf o = some op) && decide (cmpOf o' = some op') && notSet y && notSet z && mE n c ow sc x a && mE n c ow sc y b && mE n c ow sc z d
      | _ => false
    | .sl a lo hi => match e with
      | .Subscript x (.Slice l h none _) _ => mE n c ow sc x a && mO n c ow sc l lo && mO n c ow sc h hi
      | _ => false
    | .and a b => match e with
      | .BoolOp .And [x, y] _ => mE n c ow sc x a && mE n c ow sc y b
      | .BoolOp .And (x :: y :: z :: r) p => mE n c ow sc x a && mE n c ow sc (.BoolOp .And (y :: z :: r) p) b
      | _ => false
    | .or a b => match e with
      | .BoolOp .Or [x, y] _ => mE n c ow sc x a && mE n c ow sc y b
      | .BoolOp .Or (x :: y :: z :: r) p => mE n c ow sc x a && mE n c ow sc (.BoolOp .Or (y :: z :: r) p) b
      | _ => false
    | .not a => match e with
      | .UnaryOp .Not x _ => mE n c ow sc x a
      | _ => false
    | .ite t a b => match e with
      | .IfExp x y z _ => mT n c ow sc x t && mE n c ow sc y a && mE n c ow sc z b
      | _ => false
    | .call f as => match e with
      | .Call (.Name x _) [] [] _ => decide ((x, f) ∈ c.fn) && kGl sc x && !(x == ("__debug__" : Str)) && as.isEmpty
      | .Call (.Name x _) (y :: ys) [] _ => decide ((x, f) ∈ c.fn) && kGl sc x && !(x == ("__debug__" : Str)) && (y :: ys).all notStar && mEs n c ow sc (y :: ys) as
      | _ => false
    | .callK f as ks p => match e with
      | .Call (.Name x _) (y :: ys) kws _ => (c.kw.any fun q => decide (q.x = x) && decide (q.f = f) && decide (q.ks.map some = kws.map (·.arg)) && decide (q.np = as.length) && decide (q.perm = p)) && kGl sc x && !(x == ("__debug__" : Str)) && (y :: ys).all notStar && mEs n c ow sc (y :: ys) as && mEs n c ow sc (kws.map (·.value)) ks
      | _ => false
    | .lc own p it cs elt => match e with
      | .ListComp el [⟨tg, iter, ifs, as⟩] scope _ => decide (as = 0) && blkC c.N sc scope (ownP c own) && (pslots p).all (fun i => own.contains i) && kP c (blkOw scope) (relS scope sc) tg p && (notSet iter) && mI n c ow sc tg iter it && mC n c (blkOw scope) (relS scope sc) ifs cs && mE n c (blkOw scope) (relS scope sc) el elt
      | _ => false
    | .app i a => match e with
      | .Call (.Attribute (.Name x _) at_ ap) [y] [] cp => decide (at_ = "append") && kV c sc x i && (ap.endLine == cp.line) && notStar y && mE n c ow sc y a
      | _ => false
    | .pop i => match e with
      | .Call (.Attribute (.Name x _) at_ ap) [] [] cp => decide (at_ = "pop") && kV c sc x i && (ap.endLine == cp.line)
      | _ => false
    | .popAt i a => match e with
      | .Call (.Attribute (.Name x _) at_ ap) [y] [] cp => decide (at_ = "pop") && kV c sc x i && (ap.endLine == cp.line) && notStar y && mE n c ow sc y a
      | _ => false
    | .clear i => match e with
      | .Call (.Attribute (.Name x _) at_ ap) [] [] cp => decide (at_ = "clear") && kV c sc x i && (ap.endLine == cp.line)
      | _ => false
    | .ext i a => match e with
      | .Call (.Attribute (.Name x _) at_ ap) [y] [] cp => decide (at_ = "extend") && kV c sc x i && (ap.endLine == cp.line) && notStar y && mE n c ow sc y a
      | _ => false
    | .sIx i a => match e with
      | .Subscript (.Name x _) y _ => kV c sc x i && notSlice y && mE n c ow sc y a
      | _ => false
    | .sLen i => match e with
      | .Call (.Name f _) [.Name x _] [] _ => kB c sc f "len" && kV c sc x i
      | _ => false
    | .sSl i lo hi => match e with
      | .Subscript (.Name x _) (.Slice l h none _) _ => kV c sc x i && mO n c ow sc l lo && mO n c ow sc h hi
      | _ => false
    | .lc2 own p it cs own1 p1 it1 cs1 elt => match e with
      | .ListComp el [⟨tg, iter, ifs, as⟩, ⟨tg1, iter1, ifs1, as1⟩] scope _ => decide (as = 0) && decide (as1 = 0) && blkC c.N sc scope (ownP c own) && ((pslots p).all (fun i => own.contains i) && ((pslots p1).all (fun i => own1.contains i) && own1.all (fun i => own.contains i))) && kP c (blkOw scope) (relS scope sc) tg p && notSet iter && mI n c ow sc tg iter it && mC n c (blkOw scope) (relS scope sc) ifs cs &&
          kP c (blkOw scope) (relS scope sc) tg1 p1 && notSet iter1 && mI n c (blkOw scope) (relS scope sc) tg1 iter1 it1 && mC n c (blkOw scope) (relS scope sc) ifs1 cs1 && mE n c (blkOw scope) (relS scope sc) el elt
      | _ => false
    | .mxD mx a d => match e with
      | .Call (.Name f _) [x] kws _ => kB c sc f (if mx then "max" else "min") && decide (kws.map (·.arg) = [some ("default" : Str)]) && notStar x && mE n c ow sc x a && mEs n c ow sc (kws.map (·.value)) [d]
      | _ => false
    | .thaw i a => notComp e && mE n c ow sc e a
    | .fld tb a => match e with
      | .Attribute x f _ => notSuper x && kFl c f tb && mE n c ow sc x a
      | _ => false
    | .meth tb a as => match e with
      | .Call (.Attribute x m ap) ys [] cp => notSuper x && ys.all noStar && decide (ys.length < 30) && (ap.endLine == cp.line) && kMt c m tb && mE n c ow sc x a && mEs n c ow sc ys as
      | _ => false
    | .make k f as => match e with
      | .Call (.Name x _) (y :: ys) [] _ => decide ((x, k, f) ∈ c.ct) && kGl sc x && !(x == ("__debug__" : Str)) && (y :: ys).all noStar && mEs n c ow sc (y :: ys) as
      | _ => false
    | .sumR it => match it with
      | .rng1 a => match e with
        | .Call (.Name f _) [.Call (.Name g _) [x] [] _] [] _ => kB c sc f "sum" && kB c sc g "range" && notStar x && mE n c ow sc x a
        | _ => false
      | _ => false
    | .ch3 o o' o'' a b d g => match e with
      | .Compare x [op, op', op''] [y, z, w] _ => decide (cmpOf o = some op) && decide (cmpOf o' = some op') && decide (cmpOf o'' = some op'') && notSet w && mE n c ow sc x a && mE n c ow sc y b && mE n c ow sc z d && mE n c ow sc w g
      | _ => false
    | .bad => true
    | .lrng it => match it with
      | .rng1 a => match e with
        | .Call (.Name f _) [.Call (.Name g _) [x] [] _] [] _ => kB c sc f "list" && kB c sc g "range" && notStar x && mE n c ow sc x a
        | _ => false
      | .rng2 a b => match e with
        | .Call (.Name f _) [.Call (.Name g _) [x, y] [] _] [] _ => kB c sc f "list" && kB c sc g "range" && notStar x && notStar y && mE n c ow sc x a && mE n c ow sc y b
        | _ => false
      | _ => false
def mEs : Nat → CK → (Str → Bool) → Scope → List Expr → List ME → Bool
  | 0, _, _, _, _, _ => false
  | n + 1, c, ow, sc, es, ms => match es, ms with
    | [], [] => true
    | e :: es, m :: ms => notStar e && mE n c ow sc e m && mEs n c ow sc es ms
    | _, _ => false
def mO : Nat → CK → (Str → Bool) → Scope → Option Expr → Option ME → Bool
  | 0, _, _, _, _, _ => false
  | n + 1, c, ow, sc, e, m => match e, m with
    | none, none => true
    | some e, some m => mE n c ow sc e m
    | _, _ => false
def mT : Nat → CK → (Str → Bool) → Scope → Expr → ME → Bool
  | 0, _, _, _, _, _ => false
  | n + 1, c, ow, sc, e, m => match e with
    | .UnaryOp .Not x _ => match m with
      | .not a => mT n c ow sc x a
      | _ => false
    | .BoolOp .And [x, y] _ => match m with
      | .and a b => mT n c ow sc x a && mT n c ow sc y b
      | _ => false
    | .BoolOp .And (x :: y :: z :: r) p => match m with
      | .and a b => mT n c ow sc x a && mT n c ow sc (.BoolOp .And (y :: z :: r) p) b
      | _ => false
    | .BoolOp .Or [x, y] _ => match m with
      | .or a b => mT n c ow sc x a && mT n c ow sc y b
      | _ => false
    | .BoolOp .Or (x :: y :: z :: r) p => match m with
      | .or a b => mT n c ow sc x a && mT n c ow sc (.BoolOp .Or (y :: z :: r) p) b
      | _ => false
    | .Compare x [op] [y] _ => match m with
      | .o2 o a b => decide (cmpOf o = some op) && notSet y && mE n c ow sc x a && mE n c ow sc y b
      | _ => false
    | .Compare x [op, op'] [y, z] _ => match m with
      | .ch o o' a b d => decide (cmpOf o = some op) && decide (cmpOf o' = some op') && notSet y && notSet z && mE n c ow sc x a && mE n c ow sc y b && mE n c ow sc z d
      | _ => false
    | .Compare x [op, op', op''] [y, z, w] _ => match m with
      | .ch3 o o' o'' a b d g => decide (cmpOf o = some op) && decide (cmpOf o' = some op') && decide (cmpOf o'' = some op'') && notSet w && mE n c ow sc x a && mE n c ow sc y b && mE n c ow sc z d && mE n c ow sc w g
      | _ => false
    | e => plainTest e && mE n c ow sc e m
def mC : Nat → CK → (Str → Bool) → Scope → List Expr → List ME → Bool
  | 0, _, _, _, _, _ => false
  | n + 1, c, ow, sc, es, ms => match es, ms with
    | [], [] => true
    | [e], [m] => mT n c ow sc e m
    | _, _ => false
def mI : Nat → CK → (Str → Bool) → Scope → Expr → Expr → IT → Bool
  | 0, _, _, _, _, _, _ => false
  | n + 1, c, ow, sc, tg, e, it => match it with
    | .seq a => mE n c ow sc e a
    | .tpl a => mE n c ow sc e a
    | .rng1 a => match e with
      | .Call (.Name f _) [x] [] _ => kB c sc f "range" && notStar x && mE n c ow sc x a
      | _ => false
    | .rng2 a b => match e with
      | .Call (.Name f _) [x, y] [] _ => kB c sc f "range" && notStar x && notStar y && mE n c ow sc x a && mE n c ow sc y b
      | _ => false
    | .enum a => match e, tg with
      | .Call (.Name f _) [x] [] _, .Tuple _ _ _ => kB c sc f "enumerate" && notStar x && mE n c ow sc x a
      | _, _ => false
    | .zip a b => match e, tg with
      | .Call (.Name f _) [x, y] [] _, .Tuple _ _ _ => kB c sc f "zip" && notStar x && notStar y && mE n c ow sc x a && mE n c ow sc y b
      | _, _ => false
end

/-! ### a context where the look holds -/
def permV (p : List Nat) (l : List V) : List V := p.filterMap fun i => l[i]?
/-- how an instance is made, at a level -/
def CtOk (X : Cx) (P : RP) (C : CallS) (kk : Nat) (c f : Nat) : Prop := (∀ a, C f a = none) ∨ ∃ (k : Nat) (fI : Addr) (fd : FuncData) (ps : List Str), k + 1 ≤ kk ∧ Mk X.K (P.ca c) fI ∧
  GFn X.prog X.w X.K X.mg X.base CX0 k fI fd ps (spI P (C f) c (ps.length - 1)) ∧ Binds X.K fd ps [] ∧ ∀ a r a', C f a = some (r, a') → a.length = ps.length - 1
structure Ctx (P : RP) (G : Nat → D) (C : CallS) (c : CK) (ow : Str → Bool) (sc : Scope) (kk : Nat) (X : Cx) : Prop where
  hN : X.N = c.N
  nd : c.N.Nodup
  hsc : X.env.scope = sc
  kind : sc.kind = .function
  hK : P.K = X.K
  calm : X.calm = true
  xe : X.xe = fun _ _ => False
  room : Room kk X.A
  gd : X.A.guards = some []
  bl : ∀ x ∈ c.bl, X.mg x = none
  gl : ∀ p ∈ c.gl, ∃ u v, X.mg p.1 = some u ∧ RelV v u ∧ ∀ L H, Rep P L H (G p.2) v
  fn : ∀ p ∈ c.fn, ∃ f fd ps, GFn X.prog X.w X.K X.mg X.base CX0 kk f fd ps (spOf P (C p.2) ps.length) ∧ X.mg p.1 = some (.ref f) ∧ PySem.W.keepIn X.K (.ref f) = true ∧ Binds X.K fd ps [] ∧ ∀ a r a', C p.2 a = some (r, a') → a.length = ps.length
  kw : ∀ q ∈ c.kw, ∃ f fd ps g gV, GFn X.prog X.w X.K X.mg X.base CX0 kk f fd ps (spOf P (C q.f) ps.length) ∧ X.mg q.x = some (.ref f) ∧ PySem.W.keepIn X.K (.ref f) = true ∧ KBinds X.K fd ps q.ks g gV ∧
    (∀ vs zs : List V, vs.length = q.np → zs.length = q.ks.length → gV vs zs = permV q.perm (vs ++ zs)) ∧ ∀ a r a', C q.f a = some (r, a') → a.length = ps.length
  hC : ∀ j a r a', C j a = some (r, a') → ∀ i, r ≠ .ref i
  fnok : ∀ x, ow x = true → X.fn x = true
  cl : ∀ (k : Nat) (fs : List Str), c.fl[k]? = some fs → P.fl k = fs ∧ fs.Nodup ∧ Cls X.K (P.ca k) ∧ ∀ f ∈ fs, NoAttr X.K (P.ca k) f
  mt : ∀ q ∈ c.mt, MethOk X P C kk q.1 q.2.1 q.2.2
  ct : ∀ q ∈ c.ct, X.mg q.1 = some (.ref (P.ca q.2.1)) ∧ CtOk X P C kk q.2.1 q.2.2

section
variable {P : RP} {G : Nat → D} {C : CallS} {c : CK} {ow : Str → Bool} {sc : Scope} {kk : Nat} {X : Cx}
theorem Ctx.units (h : Ctx P G C c ow sc kk X) : X.A.units + 65 < cLine := by have := h.room.un; omega
theorem Ctx.glb (h : Ctx P G C c ow sc kk X) {x : Str} (e : kGl sc x = true) : Gl X x := by
  unfold kGl at e
  show X.env.scope.names.lookup x = _
  rw [h.hsc]; exact of_decide_eq_true e
theorem kB_spec {x y : Str} (h : Ctx P G C c ow sc kk X) (e : kB c sc x y = true) : x = y ∧ Gl X x ∧ X.mg x = none := by
  unfold kB at e
  simp only [Bool.and_eq_true, decide_eq_true_eq] at e
  obtain ⟨⟨rfl, h2⟩, h3⟩ := e
  exact ⟨rfl, h.glb h3, h.bl _ h2⟩
theorem kV_spec {x : Str} {i : Nat} {pos : Pos} (h : Ctx P G C c ow sc kk X) (e : kV c sc x i = true) : PE X (.Name x pos) (tVar i) := by
  unfold kV at e
  simp only [Bool.and_eq_true, decide_eq_true_eq, Bool.not_eq_true'] at e
  obtain ⟨⟨⟨h1, h2⟩, h3⟩, h4⟩ := e
  refine pe_var (by rw [h.hN]; exact h1) ?_ h3 h4
  unfold vis at h2
  unfold Vis
  rw [h.hsc]
  split at h2
  · exact .inl (by assumption)
  · exact .inr (.inl (by assumption))
  · exact .inr (.inr (by assumption))
  · cases h2
theorem star_ok {e : Expr} {es : List Expr} {env : Env} (h : notStar e = true) : starEach (e :: es) env = (false, eval e env) :: starEach es env := by
  cases e <;> first | rfl | cases h
theorem star_any {pos : Pos} {env : Env} : ∀ {es : List Expr}, es.all notStar = true → (backTo pos (starEach es env)).any (·.1) = false
  | [], _ => rfl
  | e :: es, h => by
    simp only [List.all_cons, Bool.and_eq_true] at h
    rw [star_ok h.1]
    show (false || (backTo pos (starEach es env)).any (·.1)) = false
    rw [star_any h.2]; rfl
theorem plain_ok {e : Expr} {env : Env} (h : plainTest e = true) : ∀ whole, isTrue e env whole = (do let v ← whole; standAt e.pos; holding [v] (truthy v)) := by
  intro whole
  cases e <;> first | rfl | (exfalso; simp [plainTest] at h; done) | skip
  rename_i op x p
  cases op <;> first | rfl | (exfalso; simp [plainTest] at h; done)
theorem slice_ok {e : Expr} (h : notSlice e = true) : PlainIx e := by
  intro o i
  cases e <;> first | rfl | cases h
theorem comp_ok {e : Expr} {t : Option Expr} {l : Nat} {env : Env} (h : notComp e = true) : swapsWith e t l env = pure false := by
  cases e <;> first | rfl | cases h
theorem set_ok {e : Expr} {op : CmpOp} (h : notSet e = true) : behindInMarks op e = false := by
  cases e <;> first | rfl | cases h
theorem fold_ok {e : Expr} {env : Env} (h : notSet e = true) : ∀ x, foldedSetIterable e env x = pure x := by
  intro x
  cases e <;> first | rfl | cases h
end
end MP

namespace MP
open PySem PySem.Spec PyProof.Rows L2
section
variable {P : RP} {G : Nat → D} {C : CallS} {c : CK} {ow : Str → Bool} {sc : Scope} {kk : Nat} {X : Cx}
theorem lookup_mem {tb : List (Nat × Nat)} {k f : Nat} (h : tb.lookup k = some f) : (k, f) ∈ tb := by
  induction tb with
  | nil => cases h
  | cons p tb ih =>
    obtain ⟨a, b⟩ := p
    rw [List.lookup_cons] at h
    split at h
    · rename_i e
      cases h
      rw [beq_iff_eq] at e
      subst e
      exact List.mem_cons_self
    · exact List.mem_cons_of_mem _ (ih h)
theorem evs_len : ∀ {ms : List ME} {loc loc' : Loc} {rs : List R}, evs G C ms loc = some (rs, loc') → rs.length = ms.length
  | [], loc, loc', rs, h => by simp only [evs, Option.some.injEq, Prod.mk.injEq] at h; rw [← h.1]; rfl
  | m :: ms, loc, loc', rs, h => by
    simp only [evs] at h
    split at h
    · split at h
      · rename_i r l1 h1 rs' l2 h2
        simp only [Option.some.injEq, Prod.mk.injEq] at h
        rw [← h.1]
        simp [evs_len h2]
      · cases h
    · cases h
theorem mapM_len : ∀ {rs : List R} {ds : List D}, rs.mapM toVal = some ds → ds.length = rs.length
  | [], ds, h => by rw [List.mapM_nil] at h; cases h; rfl
  | r :: rs, ds, h => by
    rw [List.mapM_cons] at h
    cases e1 : toVal r with
    | none => rw [e1] at h; cases h
    | some d =>
      cases e2 : rs.mapM toVal with
      | none => rw [e1, e2] at h; cases h
      | some ds' =>
        rw [e1, e2] at h
        cases h
        simp [mapM_len e2]
theorem mEs_len : ∀ {n : Nat} {es : List Expr} {ms : List ME}, mEs n c ow sc es ms = true → es.length = ms.length
  | 0, _, _, h => by simp [mEs] at h
  | n + 1, es, ms, h => by
    simp only [mEs] at h
    split at h
    · rfl
    · simp only [Bool.and_eq_true] at h
      simp [mEs_len h.2]
    · cases h
theorem perm_rep {L0 : Addr → Prop} {loc : Loc} {σ : Sg} {H : Hp} {rs : List R} {vs : List V} (h : RepRs P L0 loc σ H rs vs) : ∀ {p : List Nat} {ts : List R}, p.mapM (fun i => rs[i]?) = some ts → RepRs P L0 loc σ H ts (permV p vs)
  | [], ts, e => by rw [List.mapM_nil] at e; cases e; rfl
  | i :: p, ts, e => by
    rw [List.mapM_cons] at e
    cases e1 : rs[i]? with
    | none => rw [e1] at e; cases e
    | some r =>
      cases e2 : p.mapM (fun i => rs[i]?) with
      | none => rw [e1, e2] at e; cases e
      | some ts' =>
        rw [e1, e2] at e
        cases e
        obtain ⟨v, e3, e4⟩ := h.get e1
        exact ⟨v, permV p vs, by unfold permV; rw [List.filterMap_cons, e3], e4, perm_rep h e2⟩
/-- what the look gives, at a fuel -/
structure Snd (P : RP) (G : Nat → D) (C : CallS) (c : CK) (kk : Nat) (n : Nat) : Prop where
  E : ∀ {ow : Str → Bool} {sc : Scope} {X : Cx} {e : Expr} {m : ME}, Ctx P G C c ow sc kk X → mE n c ow sc e m = true → PE X e (tE P (ev G C m))
  Es : ∀ {ow : Str → Bool} {sc : Scope} {X : Cx} {es : List Expr} {ms : List ME}, Ctx P G C c ow sc kk X → mEs n c ow sc es ms = true → PA X es (tA P (evs G C ms))
  Ks : ∀ {ow : Str → Bool} {sc : Scope} {X : Cx} {ks : List Keyword} {ms : List ME}, Ctx P G C c ow sc kk X → mEs n c ow sc (ks.map (·.value)) ms = true → PK X ks (tA P (evs G C ms))
  O : ∀ {ow : Str → Bool} {sc : Scope} {X : Cx} {e : Option Expr} {m : Option ME}, Ctx P G C c ow sc kk X → mO n c ow sc e m = true → PO X e (tO P (evo G C m))
  T : ∀ {ow : Str → Bool} {sc : Scope} {X : Cx} {e : Expr} {m : ME}, Ctx P G C c ow sc kk X → mT n c ow sc e m = true → PT X e (tT P (evT G C m))
  W : ∀ {ow : Str → Bool} {sc : Scope} {X : Cx} {op : BoolOp} {vs : List Expr} {p : Pos} {m : ME}, Ctx P G C c ow sc kk X → mT n c ow sc (.BoolOp op vs p) m = true → PW X (.BoolOp op vs p) (tT P (evT G C m))
  Cs : ∀ {ow : Str → Bool} {sc : Scope} {X : Cx} {es : List Expr} {ms : List ME}, Ctx P G C c ow sc kk X → mC n c ow sc es ms = true → PTs X es (tT P (evC G C ms))
  I : ∀ {ow : Str → Bool} {sc : Scope} {X : Cx} {tg e : Expr} {it : IT}, Ctx P G C c ow sc kk X → mI n c ow sc tg e it = true → PI X tg e (tI P (evI G C it))
theorem snd_zero : Snd P G C c kk 0 :=
  ⟨fun _ h => (by simp [mE] at h), fun _ h => (by simp [mEs] at h), fun _ h => (by simp [mEs] at h), fun _ h => (by simp [mO] at h), fun _ h => (by simp [mT] at h), fun _ h => (by simp [mT] at h), fun _ h => (by simp [mC] at h), fun _ h => (by simp [mI] at h)⟩
variable {n : Nat}
theorem evT_spec {m : ME} {loc loc' : Loc} {k : Bool} (h : evT G C m loc = some (k, loc')) : ∃ r d, ev G C m loc = some (r, loc') ∧ res loc' r = some d ∧ truth d = some k := by
  unfold evT at h
  split at h
  · rename_i r l1 h1
    split at h
    · rename_i d h2
      split at h
      · rename_i k' h3
        simp only [Option.some.injEq, Prod.mk.injEq] at h
        obtain ⟨rfl, rfl⟩ := h
        exact ⟨r, d, h1, h2, h3⟩
      · cases h
    · cases h
  · cases h
theorem evT_of {m : ME} {loc loc' : Loc} {k : Bool} {r : R} {d : D} (h1 : ev G C m loc = some (r, loc')) (h2 : res loc' r = some d) (h3 : truth d = some k) : evT G C m loc = some (k, loc') := by
  unfold evT
  rw [h1]
  simp only [h2, h3]
/-- leaves -/
theorem S_c (S : Snd P G C c kk n) (hx : Ctx P G C c ow sc kk X) {e : Expr} {d : D} (h : mE (n + 1) c ow sc e (.c d) = true) : PE X e (tE P (ev G C (.c d))) := by
  have hg : ∀ loc r loc', ev G C (.c d) loc = some (r, loc') → r = .val d ∧ loc' = loc := fun loc r loc' e => by
    simp only [ev, Option.some.injEq, Prod.mk.injEq] at e
    exact ⟨e.1.symm, e.2.symm⟩
  simp only [mE] at h
  split at h
  · split at h
    · cases of_decide_eq_true h
      exact pe_int.imp fun σ H Q q => e_c (fun _ _ => rep_int) hg q
    · cases of_decide_eq_true h
      exact pe_bl.imp fun σ H Q q => e_c (fun _ _ => rep_bl) hg q
    · exact pe_non.imp fun σ H Q q => e_c (fun _ _ => rep_non) hg q
    · cases of_decide_eq_true h
      exact pe_str.imp fun σ H Q q => e_c (fun _ _ => by unfold Rep; rfl) hg q
    · cases h
  · cases h
theorem S_g (S : Snd P G C c kk n) (hx : Ctx P G C c ow sc kk X) {e : Expr} {k : Nat} (h : mE (n + 1) c ow sc e (.g k) = true) : PE X e (tE P (ev G C (.g k))) := by
  have hg : ∀ loc r loc', ev G C (.g k) loc = some (r, loc') → r = .val (G k) ∧ loc' = loc := fun loc r loc' e => by
    simp only [ev, Option.some.injEq, Prod.mk.injEq] at e
    exact ⟨e.1.symm, e.2.symm⟩
  simp only [mE] at h
  split at h
  · simp only [Bool.and_eq_true, decide_eq_true_eq, Bool.not_eq_true'] at h
    obtain ⟨⟨h1, h2⟩, h3⟩ := h
    obtain ⟨u, v, e1, e2, e3⟩ := hx.gl _ h1
    exact (pe_glob (hx.glb h2) e1 e2 h3).imp fun σ H Q q => e_c e3 hg q
  · cases h
theorem S_v (S : Snd P G C c kk n) (hx : Ctx P G C c ow sc kk X) {e : Expr} {i : Nat} (h : mE (n + 1) c ow sc e (.v i) = true) : PE X e (tE P (ev G C (.v i))) := by
  simp only [mE] at h
  split at h
  · refine (kV_spec hx h).imp fun σ H Q q => e_v (fun loc r loc' e => ?_) q
    simp only [ev] at e
    split at e
    · rename_i d hd
      simp only [Option.some.injEq, Prod.mk.injEq] at e
      exact ⟨d, hd, e.1.symm, e.2.symm⟩
    · cases e
  · cases h
theorem S_r (S : Snd P G C c kk n) (hx : Ctx P G C c ow sc kk X) {e : Expr} {i : Nat} (h : mE (n + 1) c ow sc e (.r i) = true) : PE X e (tE P (ev G C (.r i))) := by
  simp only [mE] at h
  split at h
  · refine (kV_spec hx h).imp fun σ H Q q => e_r (fun loc r loc' e => ?_) q
    simp only [ev] at e
    split at e
    · rename_i b ds hd
      simp only [Option.some.injEq, Prod.mk.injEq] at e
      exact .inl ⟨.inl ⟨b, ds, hd⟩, e.1.symm, e.2.symm⟩
    · rename_i ns hd
      simp only [Option.some.injEq, Prod.mk.injEq] at e
      exact .inl ⟨.inr ⟨ns, hd⟩, e.1.symm, e.2.symm⟩
    · rename_i d hd
      simp only [Option.some.injEq, Prod.mk.injEq] at e
      exact .inr ⟨d, hd, e.1.symm, e.2.symm⟩
    · cases e
  · cases h
theorem S_fz (S : Snd P G C c kk n) (hx : Ctx P G C c ow sc kk X) {e : Expr} {i : Nat} (h : mE (n + 1) c ow sc e (.fz i) = true) : PE X e (tE P (ev G C (.fz i))) := by
  simp only [mE] at h
  split at h
  · refine (kV_spec hx h).imp fun σ H Q q => e_fz (fun loc r loc' e => ?_) q
    simp only [ev] at e
    split at e
    · rename_i ds hd
      simp only [Option.some.injEq, Prod.mk.injEq] at e
      exact .inl ⟨ds, hd, e.1.symm, e.2.symm⟩
    · rename_i d hd
      simp only [Option.some.injEq, Prod.mk.injEq] at e
      exact .inr ⟨d, hd, e.1.symm, e.2.symm⟩
    · cases e
  · cases h
theorem S_tup (S : Snd P G C c kk n) (hx : Ctx P G C c ow sc kk X) {e : Expr} {es : List ME} (h : mE (n + 1) c ow sc e (.tup es) = true) : PE X e (tE P (ev G C (.tup es))) := by
  simp only [mE] at h
  split at h
  · simp only [Bool.and_eq_true, decide_eq_true_eq] at h
    refine (pe_tup (S.Es hx h.1)).imp fun σ H Q q => e_tup (fun loc r loc' e => ?_) q
    simp only [ev] at e
    split at e
    · rename_i rs l1 h1
      split at e
      · rename_i ds h2
        simp only [Option.some.injEq, Prod.mk.injEq] at e
        obtain ⟨e1, rfl⟩ := e
        refine ⟨rs, ds, h1, h2, ?_, e1.symm⟩
        rw [mapM_len h2, evs_len h1]
        exact Nat.le_trans h.2 (by decide)
      · cases e
    · cases e
  · cases h
theorem S_lst (S : Snd P G C c kk n) (hx : Ctx P G C c ow sc kk X) {e : Expr} {es : List ME} (h : mE (n + 1) c ow sc e (.lst es) = true) : PE X e (tE P (ev G C (.lst es))) := by
  simp only [mE] at h
  split at h
  · simp only [Bool.and_eq_true, decide_eq_true_eq] at h
    refine (pe_lst (S.Es hx h.1)).imp fun σ H Q q => e_lst (fun loc r loc' e => ?_) q
    simp only [ev] at e
    split at e
    · rename_i rs l1 h1
      split at e
      · rename_i ds h2
        simp only [Option.some.injEq, Prod.mk.injEq] at e
        obtain ⟨e1, rfl⟩ := e
        refine ⟨rs, ds, h1, h2, ?_, e1.symm⟩
        rw [mapM_len h2, evs_len h1]
        exact Nat.le_trans h.2 (by decide)
      · cases e
    · cases e
  · cases h
theorem o1_spec {o : O1} {a : ME} : ∀ loc r loc', ev G C (.o1 o a) loc = some (r, loc') → ∃ ra d, ev G C a loc = some (ra, loc') ∧ res loc' ra = some d ∧ ap1 o d = some r := fun loc r loc' e => by
  simp only [ev] at e
  split at e
  · rename_i ra l1 h1
    split at e
    · rename_i d h2
      split at e
      · rename_i r' h3
        simp only [Option.some.injEq, Prod.mk.injEq] at e
        obtain ⟨rfl, rfl⟩ := e
        exact ⟨ra, d, h1, h2, h3⟩
      · cases e
    · cases e
  · cases e
theorem callO1 (hx : Ctx P G C c ow sc kk X) {o : O1} {a : ME} {x : Expr} {f : Str} {p pos : Pos} (hk : kB c sc f (nameO1 o) = true) (hs : notStar x = true) (he : PE X x (tE P (ev G C a)))
    (hn : (match o with | .neg => false | .isi _ => false | .rev => false | .lenSet => false | _ => true) = true) : PE X (.Call (.Name f p) [x] [] pos) (tE P (ev G C (.o1 o a))) := by
  obtain ⟨rfl, hg, hm⟩ := kB_spec hx hk
  have ha : PA X [x] (tCons (tE P (ev G C a)) tNil) := pa_cons he pa_nil (star_ok hs)
  have rd : ∀ σ H Q, tE P (ev G C (.o1 o a)) σ H Q → tCB (r1 P (ap1 o)) (tCons (tE P (ev G C a)) tNil) σ H Q := fun σ H Q q => by
    obtain ⟨L0, loc, r, loc', R, e, k⟩ := o1_read (f := ap1 o) o1_spec q
    exact ⟨L0, loc, r, loc', R, e, fun v H' p => ⟨v, rfl, k v H' p⟩⟩
  cases o with
  | neg => cases hn
  | isi t => cases hn
  | rev => cases hn
  | lenSet => cases hn
  | len => exact (pe_callB (c_len hx.hK) hg hm (by decide +kernel) ha (by decide +kernel) (by decide +kernel) (star_ok hs) rfl).imp rd
  | int => exact (pe_callTy c_int hg hm (by decide +kernel) ha (by decide +kernel) (by decide +kernel) (star_ok hs) rfl).imp rd
  | list => exact (pe_callTy (c_list hx.hK) hg hm (by decide +kernel) ha (by decide +kernel) (by decide +kernel) (star_ok hs) rfl).imp rd
  | tuple => exact (pe_callTy (c_tuple hx.hK) hg hm (by decide +kernel) ha (by decide +kernel) (by decide +kernel) (star_ok hs) rfl).imp rd
  | sorted => exact (pe_callB (c_sorted hx.hK hx.units) hg hm (by decide +kernel) ha (by decide +kernel) (by decide +kernel) (star_ok hs) rfl).imp rd
  | all => exact (pe_callB (c_all hx.calm) hg hm (by decide +kernel) ha (by decide +kernel) (by decide +kernel) (star_ok hs) rfl).imp rd
  | any => exact (pe_callB (c_any hx.calm) hg hm (by decide +kernel) ha (by decide +kernel) (by decide +kernel) (star_ok hs) rfl).imp rd
  | sum => exact (pe_callB (c_sum hx.hK hx.calm) hg hm (by decide +kernel) ha (by decide +kernel) (by decide +kernel) (star_ok hs) rfl).imp rd
  | abs => exact (pe_callB c_abs hg hm (by decide +kernel) ha (by decide +kernel) (by decide +kernel) (star_ok hs) rfl).imp rd
  | repr => exact (pe_callB (c_repr hx.hK hx.gd hx.units) hg hm (by decide +kernel) ha (by decide +kernel) (by decide +kernel) (star_ok hs) rfl).imp rd
  | bool => exact (pe_callTy c_bool hg hm (by decide +kernel) ha (by decide +kernel) (by decide +kernel) (star_ok hs) rfl).imp rd
theorem S_isi (S : Snd P G C c kk n) (hx : Ctx P G C c ow sc kk X) {t : Ty} {a : ME} {x : Expr} {f tn : Str} {p p2 pos : Pos} (h1 : kB c sc f "isinstance" = true) (h2 : kB c sc tn (tyS t) = true) (hs : notStar x = true) (he : PE X x (tE P (ev G C a))) :
    PE X (.Call (.Name f p) [x, .Name tn p2] [] pos) (tE P (ev G C (.o1 (.isi t) a))) := by
  obtain ⟨rfl, hg, hm⟩ := kB_spec hx h1
  obtain ⟨rfl, hg2, hm2⟩ := kB_spec hx h2
  have hty : PE X (.Name (tyS t) p2) (tC (.ty (tyN t))) := by
    cases t <;> exact pe_bltn hg2 hm2 (by decide +kernel) rfl (by decide +kernel) (by decide +kernel)
  have ha : PA X [x, .Name (tyS t) p2] (tCons (tE P (ev G C a)) (tCons (tC (.ty (tyN t))) tNil)) := pa_cons he (pa_cons hty pa_nil rfl) (star_ok hs)
  refine (pe_callB (c_isi hx.hK t) hg hm (by decide +kernel) ha (by decide +kernel) (by decide +kernel) (star_ok hs) rfl).imp fun σ H Q q => ?_
  obtain ⟨L0, loc, r, loc', R, e, k⟩ := o1_read (f := ap1 (.isi t)) o1_spec q
  exact ⟨L0, loc, r, loc', R, e, fun v H' p => ⟨v, rfl, k v H' p⟩⟩
theorem S_o1 (S : Snd P G C c kk n) (hx : Ctx P G C c ow sc kk X) {e : Expr} {o : O1} {a : ME} (h : mE (n + 1) c ow sc e (.o1 o a) = true) : PE X e (tE P (ev G C (.o1 o a))) := by
  simp only [mE] at h
  split at h
  · split at h
    · exact (pe_un u_neg (S.E hx h)).imp fun σ H Q q => o1_read o1_spec q
    · cases h
  · split at h
    · simp only [Bool.and_eq_true] at h
      exact S_isi S hx h.1.1.1 h.1.1.2 h.1.2 (S.E hx h.2)
    · cases h
  · split at h
    · simp only [Bool.and_eq_true, decide_eq_true_eq] at h
      obtain ⟨rfl, h2⟩ := h
      refine (pe_revL (S.E hx h2)).imp fun σ H Q q => e_rev (fun loc r loc' e => ?_) q
      obtain ⟨ra, d, e1, e2, e3⟩ := o1_spec _ _ _ e
      simp only [ap1] at e3
      split at e3
      · cases e3
        exact ⟨ra, _, e1, e2, rfl⟩
      · cases e3
    · cases h
  · split at h
    · rename_i f p1 g p2 x p3 p4
      simp only [Bool.and_eq_true] at h
      obtain ⟨⟨⟨h1, h2⟩, h3⟩, h4⟩ := h
      obtain ⟨rfl, hg, hm⟩ := kB_spec hx h1
      obtain ⟨rfl, hg2, hm2⟩ := kB_spec hx h2
      refine (pe_lenSetT hx.calm (by have := hx.units; omega) hg hm hg2 hm2 (S.E hx h4) (star_ok h3)).imp fun σ H Q q => e_lenSet hx.hK (fun loc r loc' e => ?_) q
      obtain ⟨ra, d, e1, e2, e3⟩ := o1_spec _ _ _ e
      simp only [ap1] at e3
      split at e3
      · split at e3
        · rename_i ts h5
          split at e3
          · rename_i h6
            cases e3
            exact ⟨ra, _, ts, e1, e2, h5, h6, rfl⟩
          · cases e3
        · cases e3
      · cases e3
    · cases h
  · rename_i o' hn1 hn2 hn3 hn4
    split at h
    · simp only [Bool.and_eq_true] at h
      refine callO1 hx h.1.1 h.1.2 (S.E hx h.2) ?_
      cases o <;> first | rfl | exact absurd rfl hn1 | exact absurd rfl (hn2 _) | exact absurd rfl hn3 | exact absurd rfl hn4
    · cases h
theorem S_thaw (S : Snd P G C c kk n) (hx : Ctx P G C c ow sc kk X) {e : Expr} {i : Nat} {a : ME} (h : mE (n + 1) c ow sc e (.thaw i a) = true) : PE X e (tE P (ev G C (.thaw i a))) := by
  simp only [mE, Bool.and_eq_true] at h
  refine (S.E hx h.2).imp fun σ H Q q => e_thaw (i := i) (fun loc r loc' e => ?_) q
  simp only [ev] at e
  split at e
  · rename_i r1 l1 e1
    split at e
    · rename_i ds0 ds h1 h2
      split at e
      · rename_i hk
        simp only [Bool.and_eq_true] at hk
        simp only [Option.some.injEq, Prod.mk.injEq] at e
        obtain ⟨rfl, rfl⟩ := e
        exact ⟨l1, ds0, ds, e1, h1, h2, hk.1.1, hk.1.2, hk.2, rfl⟩
      · cases e
    · cases e
  · cases e
theorem S_fld (S : Snd P G C c kk n) (hx : Ctx P G C c ow sc kk X) {e : Expr} {tb : List (Nat × Nat)} {a : ME} (h : mE (n + 1) c ow sc e (.fld tb a) = true) : PE X e (tE P (ev G C (.fld tb a))) := by
  simp only [mE] at h
  split at h
  · rename_i x f pos
    simp only [Bool.and_eq_true] at h
    obtain ⟨⟨h1, h2⟩, h3⟩ := h
    refine (pe_fld (S.E hx h3) (base_ok h1)).imp fun σ H Q q => e_fld (tb := tb) (fun loc r loc' e => ?_) (fun k i hl => ?_) q
    · simp only [ev] at e
      split at e
      · rename_i k fs l1 e1
        split at e
        · rename_i i e2
          split at e
          · rename_i d e3
            simp only [Option.some.injEq, Prod.mk.injEq] at e
            obtain ⟨rfl, rfl⟩ := e
            exact ⟨k, fs, i, d, e1, e2, e3, rfl⟩
          · cases e
        · cases e
      · cases e
    · have hm := lookup_mem hl
      have := List.all_eq_true.mp h2 _ hm
      simp only at this
      split at this
      · rename_i fs hfs
        obtain ⟨q1, q2, q3, q4⟩ := hx.cl _ _ hfs
        have hf := of_decide_eq_true this
        exact ⟨q3, q4 _ (List.mem_of_getElem? hf), by rw [q1]; exact hf, by rw [q1]; exact q2⟩
      · cases this
  · cases h
theorem meth_spec {tb : List (Nat × Nat)} {a : ME} {as : List ME} : ∀ loc r loc', ev G C (.meth tb a as) loc = some (r, loc') → ∃ c fs f l1 rs l2 b b', ev G C a loc = some (.val (.ins c fs), l1) ∧ tb.lookup c = some f ∧ evs G C as l1 = some (rs, l2) ∧
    nodupB (refs (R.val (.ins c fs) :: rs)) = true ∧ argsOf l2 (R.val (.ins c fs) :: rs) = some b ∧ C f b = some (r, b') ∧ given (R.val (.ins c fs) :: rs) b' l2 = some loc' := fun loc r loc' e => by
  simp only [ev] at e
  split at e
  · rename_i k fs l1 e1
    split at e
    · rename_i f e2
      split at e
      · rename_i rs l2 e3
        unfold doCall at e
        split at e
        · rename_i e4
          split at e
          · rename_i b e5
            split at e
            · rename_i r' b' e6
              split at e
              · rename_i l3 e7
                simp only [Option.some.injEq, Prod.mk.injEq] at e
                obtain ⟨rfl, rfl⟩ := e
                exact ⟨k, fs, f, l1, rs, l2, b, b', e1, e2, e3, e4, e5, e6, e7⟩
              · cases e
            · cases e
          · cases e
        · cases e
      · cases e
    · cases e
  · cases e
theorem S_meth (S : Snd P G C c kk n) (hx : Ctx P G C c ow sc kk X) {e : Expr} {tb : List (Nat × Nat)} {a : ME} {as : List ME} (h : mE (n + 1) c ow sc e (.meth tb a as) = true) : PE X e (tE P (ev G C (.meth tb a as))) := by
  simp only [mE] at h
  split at h
  · rename_i x m ap ys cp
    simp only [Bool.and_eq_true, decide_eq_true_eq] at h
    obtain ⟨⟨⟨⟨⟨⟨h1, h2⟩, h3⟩, h4⟩, h5⟩, h6⟩, h7⟩ := h
    have hm : ∀ k f, tb.lookup k = some f → Cls X.K (P.ca k) ∧ m ∉ P.fl k ∧ MethOk X P C kk k m f := fun k f hl => by
      have := List.all_eq_true.mp h5 _ (lookup_mem hl)
      simp only [Bool.and_eq_true, decide_eq_true_eq] at this
      obtain ⟨z1, z2⟩ := this
      split at z2
      · rename_i fs hfs
        obtain ⟨q1, q2, q3, q4⟩ := hx.cl _ _ hfs
        exact ⟨q3, by rw [q1]; exact of_decide_eq_true z2, hx.mt _ z1⟩
      · cases z2
    cases ys with
    | nil =>
      refine (g_meth0 (CX := CX0) (m := m) hx.gd (S.E hx h6) h1 h4).imp fun σ H Q q => e_meth meth_spec hx.hC hx.room hx.xe hm (fun σ H Q q => ?_) q
      have : as = [] := by
        have := mEs_len h7
        cases as with
        | nil => rfl
        | cons _ _ => simp at this
      subst this
      exact a_nil (fun loc rs loc' e => by simp only [evs, Option.some.injEq, Prod.mk.injEq] at e; exact ⟨e.1.symm, e.2.symm⟩) q
    | cons y ys => exact (g_meth (CX := CX0) (m := m) hx.gd (S.E hx h6) (S.Es hx h7) h1 h2 h3 h4).imp fun σ H Q q => e_meth meth_spec hx.hC hx.room hx.xe hm (fun σ H Q q => q) q
  · cases h
theorem make_spec {k f : Nat} {as : List ME} : ∀ loc r loc', ev G C (.make k f as) loc = some (r, loc') → ∃ rs a ds a', evs G C as loc = some (rs, loc') ∧ argsOf loc' rs = some a ∧ allDat a = true ∧ C f a = some (.val (.ins k ds), a') ∧ r = .val (.ins k ds) := fun loc r loc' e => by
  simp only [ev] at e
  split at e
  · rename_i rs l1 e1
    split at e
    · rename_i a e2
      split at e
      · rename_i e3
        split at e
        · rename_i k' ds a' e4
          split at e
          · rename_i e5
            subst e5
            simp only [Option.some.injEq, Prod.mk.injEq] at e
            obtain ⟨rfl, rfl⟩ := e
            exact ⟨rs, a, ds, a', e1, e2, e3, e4, rfl⟩
          · cases e
        · cases e
      · cases e
    · cases e
  · cases e
theorem S_make (S : Snd P G C c kk n) (hx : Ctx P G C c ow sc kk X) {e : Expr} {k f : Nat} {as : List ME} (h : mE (n + 1) c ow sc e (.make k f as) = true) : PE X e (tE P (ev G C (.make k f as))) := by
  simp only [mE] at h
  split at h
  · rename_i x p y ys pos
    simp only [Bool.and_eq_true, decide_eq_true_eq, Bool.not_eq_true'] at h
    obtain ⟨⟨⟨⟨h1, h2⟩, h3⟩, h4⟩, h5⟩ := h
    obtain ⟨q1, q2⟩ := hx.ct _ h1
    rcases q2 with q2 | ⟨k', fI, fd, ps, hk, M, F, hb, hl⟩
    · refine ⟨fun pins s σ H Q I q => ?_⟩
      obtain ⟨L0, loc, r, loc', R, e, _⟩ := q
      obtain ⟨rs, a, ds, a', _, _, _, e4, _⟩ := make_spec _ _ _ e
      rw [q2] at e4
      cases e4
    · exact (g_make (CX := CX0) (E := fun _ _ _ => False) M F (hx.room.mono hk) hx.gd (hx.glb h2) q1 hb pass0 (S.Es hx h5) h3 h4).imp fun σ H Q q => e_make rfl make_spec hl q
  · cases h
theorem S_sumR (S : Snd P G C c kk n) (hx : Ctx P G C c ow sc kk X) {e : Expr} {it : IT} (h : mE (n + 1) c ow sc e (.sumR it) = true) : PE X e (tE P (ev G C (.sumR it))) := by
  simp only [mE] at h
  split at h
  · split at h
    · rename_i a _ f p1 g p2 x p3 p4
      simp only [Bool.and_eq_true] at h
      obtain ⟨⟨⟨h1, h2⟩, h3⟩, h4⟩ := h
      obtain ⟨rfl, hg, hm⟩ := kB_spec hx h1
      obtain ⟨rfl, hg2, hm2⟩ := kB_spec hx h2
      refine (pe_sumRg hx.calm hg hm (prg_1 hg2 hm2 (S.E hx h4) (star_ok h3)) rfl).imp fun σ H Q q => e_sumR (fun loc r loc' e => ?_) q
      simp only [ev] at e
      split at e
      · rename_i m l1 e1
        split at e
        · rename_i hs
          simp only [Bool.and_eq_true, decide_eq_true_eq] at hs
          simp only [Option.some.injEq, Prod.mk.injEq] at e
          obtain ⟨rfl, rfl⟩ := e
          exact ⟨m, e1, hs.1, hs.2, rfl⟩
        · cases e
      · cases e
    · cases h
  · cases h
theorem S_bad {e : Expr} : PE X e (tE P (ev G C .bad)) := by
  refine ⟨fun pins s σ H Q I h => ?_⟩
  obtain ⟨L0, loc, r, loc', R, e, k⟩ := h
  simp only [ev] at e
  cases e
theorem S_lrng (S : Snd P G C c kk n) (hx : Ctx P G C c ow sc kk X) {e : Expr} {it : IT} (h : mE (n + 1) c ow sc e (.lrng it) = true) : PE X e (tE P (ev G C (.lrng it))) := by
  simp only [mE] at h
  split at h
  · split at h
    · rename_i a _ f p1 g p2 x p3 p4
      simp only [Bool.and_eq_true] at h
      obtain ⟨⟨⟨h1, h2⟩, h3⟩, h4⟩ := h
      obtain ⟨rfl, hg, hm⟩ := kB_spec hx h1
      obtain ⟨rfl, hg2, hm2⟩ := kB_spec hx h2
      refine (pe_listRg hx.calm hg hm (prg_1 hg2 hm2 (S.E hx h4) (star_ok h3)) rfl).imp fun σ H Q q => e_lrng1 (fun loc r loc' e => ?_) q
      simp only [ev, evI] at e
      split at e
      · rename_i ds l1 e1
        split at e1
        · rename_i ra l2 e2
          split at e1
          · rename_i m
            split at e1
            · rename_i hs
              simp only [Option.some.injEq, Prod.mk.injEq] at e1
              obtain ⟨rfl, rfl⟩ := e1
              split at e
              · rename_i hb
                simp only [Option.some.injEq, Prod.mk.injEq] at e
                obtain ⟨rfl, rfl⟩ := e
                rw [rng_len] at hb
                exact ⟨m, e2, hs, hb, rfl⟩
              · cases e
            · cases e1
          · cases e1
        · cases e1
      · cases e
    · cases h
  · split at h
    · rename_i a b _ f p1 g p2 x y p3 p4
      simp only [Bool.and_eq_true] at h
      obtain ⟨⟨⟨⟨⟨h1, h2⟩, h3⟩, h3'⟩, h4⟩, h5⟩ := h
      obtain ⟨rfl, hg, hm⟩ := kB_spec hx h1
      obtain ⟨rfl, hg2, hm2⟩ := kB_spec hx h2
      refine (pe_listRg hx.calm hg hm (prg_2 hg2 hm2 (S.E hx h4) (S.E hx h5) (star_ok h3) (star_ok h3') (star_any (es := [y]) (by simp [h3']))) rfl).imp fun σ H Q q => e_lrng2 (fun loc r loc' e => ?_) q
      simp only [ev, evI] at e
      split at e
      · rename_i ds l1 e1
        split at e1
        · rename_i ra l2 e2
          split at e1
          · rename_i rb l3 e3
            split at e1
            · rename_i m n'
              split at e1
              · rename_i hs
                simp only [Option.some.injEq, Prod.mk.injEq] at e1
                obtain ⟨rfl, rfl⟩ := e1
                rw [Bool.and_eq_true] at hs
                split at e
                · rename_i hb
                  simp only [Option.some.injEq, Prod.mk.injEq] at e
                  obtain ⟨rfl, rfl⟩ := e
                  rw [rng_len] at hb
                  exact ⟨m, l2, n', e2, e3, hs.1, hs.2, hb, rfl⟩
                · cases e
              · cases e1
            · cases e1
          · cases e1
        · cases e1
      · cases e
    · cases h
  · cases h
theorem o2_spec {o : O2} {a b : ME} : ∀ loc r loc', ev G C (.o2 o a b) loc = some (r, loc') → ∃ ra l1 rb d e, ev G C a loc = some (ra, l1) ∧ ev G C b l1 = some (rb, loc') ∧ res loc' (sett ra) = some d ∧ res loc' rb = some e ∧ ap2 o d e = some r := fun loc r loc' e => by
  simp only [ev] at e
  split at e
  · rename_i ra l1 h1
    split at e
    · rename_i rb l2 h2
      split at e
      · rename_i d e' h3 h4
        split at e
        · rename_i r' h5
          simp only [Option.some.injEq, Prod.mk.injEq] at e
          obtain ⟨rfl, rfl⟩ := e
          exact ⟨ra, l1, rb, d, e', h1, h2, h3, h4, h5⟩
        · cases e
      · cases e
    · cases e
  · cases e
theorem S_call2 (hx : Ctx P G C c ow sc kk X) {o : O2} {a b : ME} {x y : Expr} {f : Str} {p pos : Pos} (h0 : isO2 o = true) (hk : kB c sc f (nameO2 o) = true) (hs : notStar x = true) (hs2 : notStar y = true) (he : PE X x (tE P (ev G C a))) (he2 : PE X y (tE P (ev G C b))) :
    PE X (.Call (.Name f p) [x, y] [] pos) (tE P (ev G C (.o2 o a b))) := by
  obtain ⟨rfl, hg, hm⟩ := kB_spec hx hk
  have ha : PA X [x, y] (tCons (tE P (ev G C a)) (tCons (tE P (ev G C b)) tNil)) := pa_cons he (pa_cons he2 pa_nil (star_ok hs2)) (star_ok hs)
  have rd : ∀ σ H Q, tE P (ev G C (.o2 o a b)) σ H Q → tCB (r2c P (ap2 o)) (tCons (tE P (ev G C a)) (tCons (tE P (ev G C b)) tNil)) σ H Q := fun σ H Q q => by
    obtain ⟨L0, loc, ra, l1, R, e, k⟩ := o2_read (f := ap2 o) o2_spec q
    refine ⟨L0, loc, ra, l1, R, e, fun v H1 p1 => ?_⟩
    obtain ⟨L1, l2, rb, l3, R2, e2, k2⟩ := k v H1 p1
    exact ⟨L1, l2, rb, l3, R2, e2, fun w H2 p2 => ⟨v, w, rfl, k2 w H2 p2⟩⟩
  have st : ∀ pos, (backTo pos (starEach [y] X.env)).any (·.1) = false := fun pos => star_any (es := [y]) (by simp [hs2])
  cases o <;> first | (cases h0; done) | skip
  · exact (pe_callB (c_max2 hx.calm) hg hm (by decide +kernel) ha (by decide +kernel) (by decide +kernel) (star_ok hs) (st _)).imp rd
  · exact (pe_callB (c_min2 hx.calm) hg hm (by decide +kernel) ha (by decide +kernel) (by decide +kernel) (star_ok hs) (st _)).imp rd
  · exact (pe_callB c_dmod hg hm (by decide +kernel) ha (by decide +kernel) (by decide +kernel) (star_ok hs) (st _)).imp rd
theorem S_o2 (S : Snd P G C c kk n) (hx : Ctx P G C c ow sc kk X) {e : Expr} {o : O2} {a b : ME} (h : mE (n + 1) c ow sc e (.o2 o a b) = true) : PE X e (tE P (ev G C (.o2 o a b))) := by
  simp only [mE] at h
  split at h
  · simp only [Bool.and_eq_true, decide_eq_true_eq] at h
    exact (pe_op (d_bin hx.hK h.1.1) (S.E hx h.1.2) (S.E hx h.2)).imp fun σ H Q q => o2_read o2_spec q
  · simp only [Bool.and_eq_true, decide_eq_true_eq] at h
    exact (pe_cmpR (d_cmp hx.hK hx.units h.1.1.1) (S.E hx h.1.2) (S.E hx h.2) (set_ok h.1.1.2)).imp fun σ H Q q => o2_read o2_spec q
  · simp only [Bool.and_eq_true, decide_eq_true_eq] at h
    obtain ⟨⟨⟨rfl, h2⟩, h3⟩, h4⟩ := h
    exact (pe_ix (d_ix hx.hK) (S.E hx h3) (S.E hx h4) (slice_ok h2)).imp fun σ H Q q => o2_read o2_spec q
  · simp only [Bool.and_eq_true] at h
    obtain ⟨⟨⟨⟨⟨h0, h1⟩, h2⟩, h3⟩, h4⟩, h5⟩ := h
    exact S_call2 hx h0 h1 h2 h3 (S.E hx h4) (S.E hx h5)
  · cases h
theorem ch_spec {o o' : O2} {a b d : ME} : ∀ loc r loc', ev G C (.ch o o' a b d) loc = some (r, loc') → ∃ ra l1 rb l2 x y, ev G C a loc = some (ra, l1) ∧ ev G C b l1 = some (rb, l2) ∧ res l2 (sett ra) = some x ∧ res l2 rb = some y ∧
      ((ap2 o x y = some (.val (.bl true)) ∧ ∃ rc e' f1 k, ev G C d l2 = some (rc, loc') ∧ res loc' (sett rb) = some e' ∧ res loc' rc = some f1 ∧ ap2 o' e' f1 = some (.val (.bl k)) ∧ r = .val (.bl k)) ∨ (ap2 o x y = some (.val (.bl false)) ∧ r = .val (.bl false) ∧ loc' = l2)) := fun loc r loc' e => by
  simp only [ev] at e
  split at e
  · rename_i ra l1 h1
    split at e
    · rename_i rb l2 h2
      split at e
      · rename_i x y h3 h4
        split at e
        · rename_i h5
          split at e
          · rename_i rc l3 h6
            split at e
            · rename_i e' f1 h7 h8
              split at e
              · rename_i k h9
                simp only [Option.some.injEq, Prod.mk.injEq] at e
                obtain ⟨rfl, rfl⟩ := e
                exact ⟨ra, l1, rb, l2, x, y, h1, h2, h3, h4, .inl ⟨h5, rc, e', f1, k, h6, h7, h8, h9, rfl⟩⟩
              · cases e
            · cases e
          · cases e
        · rename_i h5
          simp only [Option.some.injEq, Prod.mk.injEq] at e
          obtain ⟨rfl, rfl⟩ := e
          exact ⟨ra, l1, rb, l2, x, y, h1, h2, h3, h4, .inr ⟨h5, rfl, rfl⟩⟩
        · cases e
      · cases e
    · cases e
  · cases e
theorem last_ok {op op' : CmpOp} {y z : Expr} (h : notSet z = true) : lastMarks [op, op'] [y, z] = false := by
  show behindInMarks op' z = false
  exact set_ok h
theorem S_ch (S : Snd P G C c kk n) (hx : Ctx P G C c ow sc kk X) {e : Expr} {o o' : O2} {a b d : ME} (h : mE (n + 1) c ow sc e (.ch o o' a b d) = true) : PE X e (tE P (ev G C (.ch o o' a b d))) := by
  simp only [mE] at h
  split at h
  · simp only [Bool.and_eq_true, decide_eq_true_eq] at h
    exact (pe_chain (d_cmp hx.hK hx.units h.1.1.1.1.1.1) (d_cmp hx.hK hx.units h.1.1.1.1.1.2) (S.E hx h.1.1.2) (S.E hx h.1.2) (S.E hx h.2) (last_ok h.1.1.1.2)).imp fun σ H Q q => e_ch ch_spec q
  · cases h
theorem ch3_spec {o o' o'' : O2} {a b d g : ME} : ∀ loc r loc', ev G C (.ch3 o o' o'' a b d g) loc = some (r, loc') → ∃ ra l1 rb l2 x y, ev G C a loc = some (ra, l1) ∧ ev G C b l1 = some (rb, l2) ∧ res l2 (sett ra) = some x ∧ res l2 rb = some y ∧
      ((ap2 o x y = some (.val (.bl true)) ∧ ∃ rc l3 e' f1, ev G C d l2 = some (rc, l3) ∧ res l3 (sett rb) = some e' ∧ res l3 rc = some f1 ∧
        ((ap2 o' e' f1 = some (.val (.bl true)) ∧ ∃ rd f2 g1 k, ev G C g l3 = some (rd, loc') ∧ res loc' (sett rc) = some f2 ∧ res loc' rd = some g1 ∧ ap2 o'' f2 g1 = some (.val (.bl k)) ∧ r = .val (.bl k)) ∨ (ap2 o' e' f1 = some (.val (.bl false)) ∧ r = .val (.bl false) ∧ loc' = l3))) ∨
      (ap2 o x y = some (.val (.bl false)) ∧ r = .val (.bl false) ∧ loc' = l2)) := fun loc r loc' e => by
  simp only [ev] at e
  split at e
  · rename_i ra l1 h1
    split at e
    · rename_i rb l2 h2
      split at e
      · rename_i x y h3 h4
        split at e
        · rename_i h5
          split at e
          · rename_i rc l3 h6
            split at e
            · rename_i e' f1 h7 h8
              split at e
              · rename_i h9
                split at e
                · rename_i rd l4 h10
                  split at e
                  · rename_i f2 g1 h11 h12
                    split at e
                    · rename_i k h13
                      simp only [Option.some.injEq, Prod.mk.injEq] at e
                      obtain ⟨rfl, rfl⟩ := e
                      exact ⟨ra, l1, rb, l2, x, y, h1, h2, h3, h4, .inl ⟨h5, rc, l3, e', f1, h6, h7, h8, .inl ⟨h9, rd, f2, g1, k, h10, h11, h12, h13, rfl⟩⟩⟩
                    · cases e
                  · cases e
                · cases e
              · rename_i h9
                simp only [Option.some.injEq, Prod.mk.injEq] at e
                obtain ⟨rfl, rfl⟩ := e
                exact ⟨ra, l1, rb, l2, x, y, h1, h2, h3, h4, .inl ⟨h5, rc, l3, e', f1, h6, h7, h8, .inr ⟨h9, rfl, rfl⟩⟩⟩
              · cases e
            · cases e
          · cases e
        · rename_i h5
          simp only [Option.some.injEq, Prod.mk.injEq] at e
          obtain ⟨rfl, rfl⟩ := e
          exact ⟨ra, l1, rb, l2, x, y, h1, h2, h3, h4, .inr ⟨h5, rfl, rfl⟩⟩
        · cases e
      · cases e
    · cases e
  · cases e
theorem last3_ok {op op' op'' : CmpOp} {y z w : Expr} (h : notSet w = true) : lastMarks [op, op', op''] [y, z, w] = false := by
  show behindInMarks op'' w = false
  exact set_ok h
theorem S_ch3 (S : Snd P G C c kk n) (hx : Ctx P G C c ow sc kk X) {e : Expr} {o o' o'' : O2} {a b d g : ME} (h : mE (n + 1) c ow sc e (.ch3 o o' o'' a b d g) = true) : PE X e (tE P (ev G C (.ch3 o o' o'' a b d g))) := by
  simp only [mE] at h
  split at h
  · simp only [Bool.and_eq_true, decide_eq_true_eq] at h
    obtain ⟨⟨⟨⟨⟨⟨⟨h1, h2⟩, h3⟩, h4⟩, h5⟩, h6⟩, h7⟩, h8⟩ := h
    exact (pe_chain3 (d_cmp hx.hK hx.units h1) (d_cmp hx.hK hx.units h2) (d_cmp hx.hK hx.units h3) (S.E hx h5) (S.E hx h6) (S.E hx h7) (S.E hx h8) (last3_ok h4)).imp fun σ H Q q => e_ch3 ch3_spec q
  · cases h
theorem S_sl (S : Snd P G C c kk n) (hx : Ctx P G C c ow sc kk X) {e : Expr} {a : ME} {lo hi : Option ME} (h : mE (n + 1) c ow sc e (.sl a lo hi) = true) : PE X e (tE P (ev G C (.sl a lo hi))) := by
  simp only [mE] at h
  split at h
  · simp only [Bool.and_eq_true] at h
    refine (pe_slice (d_sl hx.hK) (S.E hx h.1.1) (S.O hx h.1.2) (S.O hx h.2)).imp fun σ H Q q => e_sl (fun loc r loc' e => ?_) q
    simp only [ev] at e
    split at e
    · rename_i ra l1 h1
      split at e
      · rename_i x l2 h2
        split at e
        · rename_i y l3 h3
          split at e
          · rename_i d h4
            split at e
            · rename_i r' h5
              simp only [Option.some.injEq, Prod.mk.injEq] at e
              obtain ⟨rfl, rfl⟩ := e
              exact ⟨ra, l1, x, l2, y, d, h1, h2, h3, h4, h5⟩
            · cases e
          · cases e
        · cases e
      · cases e
    · cases e
  · cases h
theorem and_spec {a b : ME} : ∀ loc r loc', ev G C (.and a b) loc = some (r, loc') → ∃ ra l1 d, ev G C a loc = some (ra, l1) ∧ res l1 ra = some d ∧ ((truth d = some true ∧ ev G C b l1 = some (r, loc')) ∨ (truth d = some false ∧ r = sett ra ∧ loc' = l1)) := fun loc r loc' e => by
  simp only [ev] at e
  split at e
  · rename_i ra l1 h1
    split at e
    · rename_i d h2
      split at e
      · rename_i h3
        exact ⟨ra, l1, d, h1, h2, .inl ⟨h3, e⟩⟩
      · rename_i h3
        simp only [Option.some.injEq, Prod.mk.injEq] at e
        exact ⟨ra, l1, d, h1, h2, .inr ⟨h3, e.1.symm, e.2.symm⟩⟩
      · cases e
    · cases e
  · cases e
theorem or_spec {a b : ME} : ∀ loc r loc', ev G C (.or a b) loc = some (r, loc') → ∃ ra l1 d, ev G C a loc = some (ra, l1) ∧ res l1 ra = some d ∧ ((truth d = some false ∧ ev G C b l1 = some (r, loc')) ∨ (truth d = some true ∧ r = sett ra ∧ loc' = l1)) := fun loc r loc' e => by
  simp only [ev] at e
  split at e
  · rename_i ra l1 h1
    split at e
    · rename_i d h2
      split at e
      · rename_i h3
        simp only [Option.some.injEq, Prod.mk.injEq] at e
        exact ⟨ra, l1, d, h1, h2, .inr ⟨h3, e.1.symm, e.2.symm⟩⟩
      · rename_i h3
        exact ⟨ra, l1, d, h1, h2, .inl ⟨h3, e⟩⟩
      · cases e
    · cases e
  · cases e
theorem S_and (S : Snd P G C c kk n) (hx : Ctx P G C c ow sc kk X) {e : Expr} {a b : ME} (h : mE (n + 1) c ow sc e (.and a b) = true) : PE X e (tE P (ev G C (.and a b))) := by
  simp only [mE] at h
  split at h
  · simp only [Bool.and_eq_true] at h
    exact (pe_andT (S.E hx h.1) (pe_one (S.E hx h.2))).imp fun σ H Q q => e_and hx.hK and_spec q
  · simp only [Bool.and_eq_true] at h
    exact (pe_andT (S.E hx h.1) (S.E hx h.2)).imp fun σ H Q q => e_and hx.hK and_spec q
  · cases h
theorem S_or (S : Snd P G C c kk n) (hx : Ctx P G C c ow sc kk X) {e : Expr} {a b : ME} (h : mE (n + 1) c ow sc e (.or a b) = true) : PE X e (tE P (ev G C (.or a b))) := by
  simp only [mE] at h
  split at h
  · simp only [Bool.and_eq_true] at h
    exact (pe_orT (S.E hx h.1) (pe_one (S.E hx h.2))).imp fun σ H Q q => e_or hx.hK or_spec q
  · simp only [Bool.and_eq_true] at h
    exact (pe_orT (S.E hx h.1) (S.E hx h.2)).imp fun σ H Q q => e_or hx.hK or_spec q
  · cases h
theorem S_not (S : Snd P G C c kk n) (hx : Ctx P G C c ow sc kk X) {e : Expr} {a : ME} (h : mE (n + 1) c ow sc e (.not a) = true) : PE X e (tE P (ev G C (.not a))) := by
  simp only [mE] at h
  split at h
  · refine (pe_notT (S.E hx h)).imp fun σ H Q q => e_not hx.hK (fun loc r loc' e => ?_) q
    simp only [ev] at e
    split at e
    · rename_i ra l1 h1
      split at e
      · rename_i d h2
        split at e
        · rename_i k h3
          simp only [Option.some.injEq, Prod.mk.injEq] at e
          obtain ⟨e1, rfl⟩ := e
          exact ⟨ra, d, k, h1, h2, h3, e1.symm⟩
        · cases e
      · cases e
    · cases e
  · cases h
theorem S_ite (S : Snd P G C c kk n) (hx : Ctx P G C c ow sc kk X) {e : Expr} {t a b : ME} (h : mE (n + 1) c ow sc e (.ite t a b) = true) : PE X e (tE P (ev G C (.ite t a b))) := by
  simp only [mE] at h
  split at h
  · simp only [Bool.and_eq_true] at h
    refine (pe_ifExp (S.T hx h.1.1) (S.E hx h.1.2) (S.E hx h.2)).imp fun σ H Q q => e_ite (fun loc r loc' e => ?_) q
    simp only [ev] at e
    split at e
    · rename_i ra l1 h1
      split at e
      · rename_i d h2
        split at e
        · rename_i h3
          exact ⟨true, l1, evT_of h1 h2 h3, e⟩
        · rename_i h3
          exact ⟨false, l1, evT_of h1 h2 h3, e⟩
        · cases e
      · cases e
    · cases e
  · cases h
theorem doCall_spec {f : Nat} {rs : List R} {loc loc' : Loc} {r : R} (h : doCall C f rs loc = some (r, loc')) : ∃ a a', nodupB (refs rs) = true ∧ argsOf loc rs = some a ∧ C f a = some (r, a') ∧ given rs a' loc = some loc' := by
  unfold doCall at h
  split at h
  · rename_i hn
    split at h
    · rename_i a h1
      split at h
      · rename_i r' a' h2
        split at h
        · rename_i l h3
          simp only [Option.some.injEq, Prod.mk.injEq] at h
          obtain ⟨rfl, rfl⟩ := h
          exact ⟨a, a', hn, h1, h2, h3⟩
        · cases h
      · cases h
    · cases h
  · cases h
theorem S_call (S : Snd P G C c kk n) (hx : Ctx P G C c ow sc kk X) {e : Expr} {f : Nat} {as : List ME} (h : mE (n + 1) c ow sc e (.call f as) = true) : PE X e (tE P (ev G C (.call f as))) := by
  have hg : ∀ loc r loc', ev G C (.call f as) loc = some (r, loc') → ∃ rs l1 a a', evs G C as loc = some (rs, l1) ∧ nodupB (refs rs) = true ∧ argsOf l1 rs = some a ∧ C f a = some (r, a') ∧ given rs a' l1 = some loc' := fun loc r loc' e => by
    simp only [ev] at e
    split at e
    · rename_i rs l1 h1
      obtain ⟨a, a', h2, h3, h4, h5⟩ := doCall_spec e
      exact ⟨rs, l1, a, a', h1, h2, h3, h4, h5⟩
    · cases e
  simp only [mE] at h
  split at h
  · simp only [Bool.and_eq_true, decide_eq_true_eq, Bool.not_eq_true'] at h
    obtain ⟨⟨⟨h1, h2⟩, h3⟩, h4⟩ := h
    obtain ⟨g, fd, ps, F, hm, hk, hb, ar⟩ := hx.fn _ h1
    have has : as = [] := by cases as <;> simp_all
    subst has
    refine (g_call0 F hx.room hx.gd (hx.glb h2) hm hk hb .nil pass0 h3).imp fun σ H Q q => ?_
    have := call_read (C := C f) (ar := ps.length) (E := E0) (fun a r a' e => ⟨ar a r a' e, hx.hC f a r a' e⟩) hg q
    obtain ⟨L0, loc, rs, loc', R, e, k⟩ := this
    simp only [evs, Option.some.injEq, Prod.mk.injEq] at e
    obtain ⟨rfl, rfl⟩ := e
    exact k [] H (.none0 R) rfl
  · simp only [Bool.and_eq_true, decide_eq_true_eq, Bool.not_eq_true'] at h
    obtain ⟨⟨⟨⟨h1, h2⟩, h3⟩, h4⟩, h5⟩ := h
    obtain ⟨g, fd, ps, F, hm, hk, hb, ar⟩ := hx.fn _ h1
    rename_i y ys _
    have h4' : notStar y = true ∧ ys.all notStar = true := by simpa only [List.all_cons, Bool.and_eq_true] using h4
    refine (g_call F hx.room hx.gd (hx.glb h2) hm hk hb .nil pass0 (S.Es hx h5) h3 (star_ok h4'.1) (star_any h4'.2)).imp fun σ H Q q => ?_
    have := call_read (C := C f) (ar := ps.length) (E := E0) (fun a r a' e => ⟨ar a r a' e, hx.hC f a r a' e⟩) hg q
    obtain ⟨L0, loc, rs, loc', R, e, k⟩ := this
    exact ⟨L0, loc, rs, loc', R, e, fun vs H' p rr => by
      show spOf P (C f) ps.length (vs ++ []) H' Q E0
      rw [List.append_nil]
      exact k vs H' p rr⟩
  · cases h
theorem kw_some {pos : Pos} {env : Env} : ∀ {kws : List Keyword} {ks : List Str}, ks.map some = kws.map (·.arg) → (backToKw pos (keywordEach kws env)).all (·.1.isSome) = true ∧ (backToKw pos (keywordEach kws env)).filterMap (·.1) = ks ∧ (backToKw pos (keywordEach kws env)).any (·.1.isNone) = false
  | [], ks, h => by
    have : ks = [] := by cases ks <;> simp_all
    subst this
    exact ⟨rfl, rfl, rfl⟩
  | ⟨nm, v, p⟩ :: kws, ks, h => by
    cases ks with
    | nil => simp at h
    | cons k ks =>
      simp only [List.map_cons, List.cons.injEq] at h
      obtain ⟨h1, h2⟩ := h
      have h1 : some k = nm := h1
      subst h1
      obtain ⟨i1, i2, i3⟩ := kw_some (pos := pos) (env := env) h2
      refine ⟨?_, ?_, ?_⟩
      · show (true && _) = true
        rw [Bool.true_and]; exact i1
      · show (k :: List.filterMap _ _) = k :: ks
        exact congrArg (k :: ·) i2
      · show (false || _) = false
        rw [Bool.false_or]; exact i3
theorem S_callK (S : Snd P G C c kk n) (hx : Ctx P G C c ow sc kk X) {e : Expr} {f : Nat} {as ks : List ME} {p : List Nat} (h : mE (n + 1) c ow sc e (.callK f as ks p) = true) : PE X e (tE P (ev G C (.callK f as ks p))) := by
  simp only [mE] at h
  split at h
  · rename_i x px y ys kws pos
    simp only [Bool.and_eq_true, List.any_eq_true, decide_eq_true_eq, Bool.not_eq_true'] at h
    obtain ⟨⟨⟨⟨⟨⟨q, hq, ⟨⟨⟨rfl, rfl⟩, hks⟩, hnp⟩, rfl⟩, h2⟩, h3⟩, h4⟩, h5⟩, h6⟩ := h
    obtain ⟨g, fd, ps, gB, gV, F, hm, hk, hb, hV, ar⟩ := hx.kw _ hq
    have h4' : notStar y = true ∧ ys.all notStar = true := by simpa only [List.all_cons, Bool.and_eq_true] using h4
    obtain ⟨i1, i2, i3⟩ := kw_some (pos := pos) (env := X.env) hks
    have hpl : ((backTo pos (starEach (y :: ys) X.env)).any (·.1) || (backToKw pos (keywordEach kws X.env)).any (·.1.isNone)) = false := by
      rw [star_any h4, i3]; rfl
    refine (g_callK F hx.room hx.gd (hx.glb h2) hm hk hb pass0 (S.Es hx h5) (S.Ks hx h6) i1 i2 h3 (star_ok h4'.1) hpl).imp fun σ H Q qq => ?_
    obtain ⟨L0, loc, r, loc', R, e, k⟩ := qq
    simp only [ev] at e
    split at e
    · rename_i rs l1 e1
      split at e
      · rename_i ss l2 e2
        split at e
        · rename_i ts e3
          obtain ⟨a, a', d2, d3, d4, d5⟩ := doCall_spec e
          refine ⟨L0, loc, rs, l1, R, e1, fun vs H1 p1 rr => ⟨L0, l1, ss, l2, p1.rel, e2, fun zs H2 p2 rz => ?_⟩⟩
          have rr2 := rr.after p2
          have all := rr2.append rz
          have lv : vs.length = q.np := by rw [← rr.length, evs_len e1, hnp]
          have lz : zs.length = q.ks.length := by
            have h1 := congrArg List.length hks
            rw [← rz.length, evs_len e2, ← mEs_len h6]
            simpa using h1.symm
          show spOf P (C q.f) ps.length (gV vs zs) H2 Q E0
          rw [hV vs zs lv lz]
          have rt : RepRs P L0 l2 σ H2 ts (permV q.perm (vs ++ zs)) := perm_rep all e3
          refine ⟨?_, Lc L0 l2 σ a (permV q.perm (vs ++ zs)), a, r, a', args_rel p2.rel rt d3 d2, d4, hx.hC _ _ _ _ d4, fun v H3 p3 => ?_⟩
          · rw [← rt.length, argsOf_len d3, ar _ _ _ d4]
          · exact k v H3 ((p1.trans p2).trans (call_post p2.rel rt d3 d2 d5 (hx.hC _ _ _ _ d4) p3))
        · cases e
      · cases e
    · cases e
  · cases h
theorem S_mx (S : Snd P G C c kk n) (hx : Ctx P G C c ow sc kk X) {e : Expr} {mx : Bool} {a d : ME} (h : mE (n + 1) c ow sc e (.mxD mx a d) = true) : PE X e (tE P (ev G C (.mxD mx a d))) := by
  simp only [mE] at h
  split at h
  · rename_i f pf x kws pos
    simp only [Bool.and_eq_true, decide_eq_true_eq] at h
    obtain ⟨⟨⟨⟨h1, h2⟩, h3⟩, h4⟩, h5⟩ := h
    obtain ⟨rfl, hg, hm⟩ := kB_spec hx h1
    obtain ⟨i1, i2, i3⟩ := kw_some (ks := [("default" : Str)]) (pos := pos) (env := X.env) (kws := kws) h2.symm
    have hb : bootBuiltins (if mx = true then "max" else "min") = some (.builtin (if mx = true then "max" else "min")) := by cases mx <;> decide +kernel
    have hn : (if mx = true then ("max" : Str) else "min") ≠ "__name__" := by cases mx <;> decide +kernel
    have hd : ((if mx = true then ("max" : Str) else "min") == ("__debug__" : Str)) = false := by cases mx <;> decide +kernel
    have hpl : (backTo pos (starEach [x] X.env)).any (·.1) = false := star_any (es := [x]) (by simp [h3])
    refine (pe_callBK (cr_mx hx.calm hx.units mx) hg hm hb (pa_cons (S.E hx h4) pa_nil (star_ok h3)) (S.Ks hx h5) hn hd (by rw [star_ok h3]; rfl) hpl i1 i3 i2).imp fun σ H Q q => e_mx hx.hK (fun loc r loc' e => ?_) q
    simp only [ev] at e
    split at e
    · rename_i ra l1 e1
      split at e
      · rename_i rd l2 e2
        split at e
        · rename_i xx yy e3 e4
          have ed : evs G C [d] l1 = some ([sett rd], l2) := by simp only [evs, e2]
          split at e
          · rename_i e5
            simp only [Option.some.injEq, Prod.mk.injEq] at e
            obtain ⟨rfl, rfl⟩ := e
            exact ⟨ra, l1, rd, xx, yy, [], e1, ed, e3, e4, e5, (fun _ => rfl), (fun n ms z => nomatch z)⟩
          · rename_i n ms e5
            simp only [Option.some.injEq, Prod.mk.injEq] at e
            obtain ⟨rfl, rfl⟩ := e
            exact ⟨ra, l1, rd, xx, yy, n :: ms, e1, ed, e3, e4, e5, (fun z => nomatch z), fun n' ms' z => by cases z; rfl⟩
          · cases e
        · cases e
      · cases e
    · cases e
  · cases h
end
end MP

namespace MP
open PySem PySem.Spec PyProof.Rows L2
section
variable {P : RP} {G : Nat → D} {C : CallS} {c : CK} {ow : Str → Bool} {sc : Scope} {kk n : Nat} {X : Cx}
theorem kT_spec {x : Str} {i : Nat} {pos : Pos} (hx : Ctx P G C c ow sc kk X) (h : kT c ow sc x i = true) : PG X (.Name x pos) (gName i) ∧ X.N[i]? = some x ∧ L2.Loc X.env.scope x ∧ (X.fn x = true ∨ X.env.scope.names.lookup x = some .local) := by
  unfold kT at h
  simp only [Bool.and_eq_true, decide_eq_true_eq] at h
  obtain ⟨h1, h2⟩ := h
  have hi : X.N[i]? = some x := by rw [hx.hN]; exact h1
  have hl : L2.Loc X.env.scope x ∧ (X.fn x = true ∨ X.env.scope.names.lookup x = some .local) := by
    unfold L2.Loc
    rw [hx.hsc]
    split at h2
    · exact ⟨.inl (by assumption), .inr (by assumption)⟩
    · exact ⟨.inr (by assumption), .inl (hx.fnok _ h2)⟩
    · cases h2
  exact ⟨pg_name (by rw [hx.hN]; exact hx.nd) hi hl.1 hl.2, hi, hl.1, hl.2⟩
theorem kTs_spec (hx : Ctx P G C c ow sc kk X) : ∀ {es : List Expr} {is : List Nat}, kTs c ow sc es is = true → PGs X es (gsOf is) ∧ (assignEach es X.env).length = is.length ∧ (assignEach es X.env).findIdx? (·.1) = none
  | [], is, h => by
    cases is with
    | nil => exact ⟨pgs_nil, rfl, rfl⟩
    | cons _ _ => simp only [kTs] at h; cases h
  | e :: es, is, h => by
    simp only [kTs] at h
    split at h
    · rename_i x p i is'
      simp only [Bool.and_eq_true] at h
      obtain ⟨h1, h2, h3⟩ := kTs_spec hx h.2
      refine ⟨pgs_cons (kT_spec hx h.1).1 h1 rfl, ?_, ?_⟩
      · show (assignEach es X.env).length + 1 = is'.length + 1
        rw [h2]
      · show List.findIdx? (·.1) ((false, assign (.Name x p) X.env) :: assignEach es X.env) = none
        rw [List.findIdx?_cons]
        simp only [Bool.false_eq_true, if_false]
        rw [h3]; rfl
    · cases h
theorem kP_spec {tg : Expr} {p : Pat} (hx : Ctx P G C c ow sc kk X) (h : kP c ow sc tg p = true) : PG X tg (tG P p) := by
  cases p with
  | v i =>
    simp only [kP] at h
    split at h
    · exact (kT_spec hx h).1.imp fun v σ H Q q => g_name q
    · cases h
  | tup is =>
    simp only [kP] at h
    split at h
    · obtain ⟨h1, h2, h3⟩ := kTs_spec hx h
      exact (pg_tup hx.calm h1 h2 h3).imp fun v σ H Q q => g_tup hx.hK q
    · cases h
theorem ownP_snd {own : List Nat} : (ownP c own).map (·.2) = own := by
  unfold ownP
  rw [List.map_map]
  exact List.map_id _
/-- the block of a comprehension -/
theorem Ctx.blk (hx : Ctx P G C c ow sc kk X) {scope : Scope} (hk : scope.kind = .function) (s : Shared) (H : Hp) (C' : Addr) (cl : List (Str × Addr)) (fp : List Addr) :
    Ctx P G C c (blkOw scope) (relS scope sc) kk (X.blk s H scope (compEnvC scope cl C' X.env) fp) :=
  ⟨hx.hN, hx.nd, by rw [← hx.hsc]; rfl, hk, hx.hK, hx.calm, rfl, hx.room, hx.gd, hx.bl, hx.gl, hx.fn, hx.kw, hx.hC, fun x h => h, hx.cl, hx.mt, hx.ct⟩
theorem S_lc (S : Snd P G C c kk n) (hx : Ctx P G C c ow sc kk X) {e : Expr} {own : List Nat} {p : Pat} {it : IT} {cs : List ME} {elt : ME} (h : mE (n + 1) c ow sc e (.lc own p it cs elt) = true) :
    ∃ el tg iter ifs scope pos, e = .ListComp el [⟨tg, iter, ifs, 0⟩] scope pos ∧ ∃ wi g tt te, PI X tg iter wi ∧ BlkOk X.N X.env.scope scope (ownP c own) ∧
      (∀ (s : Shared) (H : Hp) (C : Addr) (cl : List (Str × Addr)) (fp : List Addr), PG (X.blk s H scope (compEnvC scope cl C X.env) fp) tg g) ∧ (∀ (s : Shared) (H : Hp) (C : Addr) (cl : List (Str × Addr)) (fp : List Addr), PTs (X.blk s H scope (compEnvC scope cl C X.env) fp) ifs tt) ∧
      (∀ (s : Shared) (H : Hp) (C : Addr) (cl : List (Str × Addr)) (fp : List Addr), PE (X.blk s H scope (compEnvC scope cl C X.env) fp) el te) ∧ (∀ x, foldedSetIterable iter X.env x = pure x) ∧
      ∀ σ H Q, tE P (ev G C (.lc own p it cs elt)) σ H Q → tLc wi g tt te ((ownP c own).map (·.2)) σ H Q := by
  simp only [mE] at h
  split at h
  · rename_i el tg iter ifs as scope pos
    simp only [Bool.and_eq_true, decide_eq_true_eq, List.all_eq_true] at h
    obtain ⟨⟨⟨⟨⟨⟨⟨h1, h2⟩, h3⟩, h4⟩, h5⟩, h6⟩, h7⟩, h8⟩ := h
    subst h1
    have hb := blkOk_by h2
    have hb' : BlkOk X.N X.env.scope scope (ownP c own) := by rw [hx.hN, hx.hsc]; exact hb
    refine ⟨el, tg, iter, ifs, scope, pos, rfl, _, _, _, _, S.I hx h6, hb', fun s H C' cl fp => kP_spec (hx.blk hb.kind s H C' cl fp) h4, fun s H C' cl fp => S.Cs (hx.blk hb.kind s H C' cl fp) h7, fun s H C' cl fp => S.E (hx.blk hb.kind s H C' cl fp) h8, fold_ok h5, fun σ H Q q => ?_⟩
    rw [ownP_snd]
    refine lc_read (fun i hi => by have := h3 i hi; simpa using this) (fun loc r loc' e => ?_) q
    simp only [ev] at e
    split at e
    · rename_i items l1 e1
      split at e
      · rename_i hc
        simp only [Bool.and_eq_true, List.all_eq_true, decide_eq_true_eq] at hc
        split at e
        · rename_i ds l2 e2
          simp only [Option.some.injEq, Prod.mk.injEq] at e
          exact ⟨items, l1, ds, l2, e1, hc.1, hc.2, e2, e.1.symm, e.2.symm⟩
        · cases e
      · cases e
    · cases e
  · cases h
theorem S_lcE (S : Snd P G C c kk n) (hx : Ctx P G C c ow sc kk X) {e : Expr} {own : List Nat} {p : Pat} {it : IT} {cs : List ME} {elt : ME} (h : mE (n + 1) c ow sc e (.lc own p it cs elt) = true) : PE X e (tE P (ev G C (.lc own p it cs elt))) := by
  obtain ⟨el, tg, iter, ifs, scope, pos, rfl, wi, g, tt, te, h1, h2, h3, h4, h5, h6, h7⟩ := S_lc S hx h
  exact (pe_lc hx.calm (by rw [hx.hN]; exact hx.nd) h1 h2 h3 h4 h5 h6).imp h7

theorem S_lc2 (S : Snd P G C c kk n) (hx : Ctx P G C c ow sc kk X) {e : Expr} {own own1 : List Nat} {p p1 : Pat} {it it1 : IT} {cs cs1 : List ME} {elt : ME} (h : mE (n + 1) c ow sc e (.lc2 own p it cs own1 p1 it1 cs1 elt) = true) :
    ∃ el tg iter ifs tg1 iter1 ifs1 scope pos, e = .ListComp el [⟨tg, iter, ifs, 0⟩, ⟨tg1, iter1, ifs1, 0⟩] scope pos ∧ ∃ wi g tt wi1 g1 tt1 te, PI X tg iter wi ∧ BlkOk X.N X.env.scope scope (ownP c own) ∧ (∀ i ∈ own1, i ∈ (ownP c own).map (·.2)) ∧
      (∀ (s : Shared) (H : Hp) (C : Addr) (cl : List (Str × Addr)) (fp : List Addr), PG (X.blk s H scope (compEnvC scope cl C X.env) fp) tg g) ∧ (∀ (s : Shared) (H : Hp) (C : Addr) (cl : List (Str × Addr)) (fp : List Addr), PTs (X.blk s H scope (compEnvC scope cl C X.env) fp) ifs tt) ∧
      (∀ (s : Shared) (H : Hp) (C : Addr) (cl : List (Str × Addr)) (fp : List Addr), PI (X.blk s H scope (compEnvC scope cl C X.env) fp) tg1 iter1 wi1) ∧
      (∀ (s : Shared) (H : Hp) (C : Addr) (cl : List (Str × Addr)) (fp : List Addr), PG (X.blk s H scope (compEnvC scope cl C X.env) fp) tg1 g1) ∧ (∀ (s : Shared) (H : Hp) (C : Addr) (cl : List (Str × Addr)) (fp : List Addr), PTs (X.blk s H scope (compEnvC scope cl C X.env) fp) ifs1 tt1) ∧
      (∀ (s : Shared) (H : Hp) (C : Addr) (cl : List (Str × Addr)) (fp : List Addr), PE (X.blk s H scope (compEnvC scope cl C X.env) fp) el te) ∧ (∀ x, foldedSetIterable iter X.env x = pure x) ∧ (∀ env x, foldedSetIterable iter1 env x = pure x) ∧
      ∀ σ H Q, tE P (ev G C (.lc2 own p it cs own1 p1 it1 cs1 elt)) σ H Q → tLc2 wi g tt wi1 g1 tt1 te ((ownP c own).map (·.2)) own1 σ H Q := by
  simp only [mE] at h
  split at h
  · rename_i el tg iter ifs as tg1 iter1 ifs1 as1 scope pos
    simp only [Bool.and_eq_true, decide_eq_true_eq, List.all_eq_true] at h
    obtain ⟨⟨⟨⟨⟨⟨⟨⟨⟨⟨⟨⟨h1, h1'⟩, h2⟩, h3, h3', h3''⟩, h4⟩, h5⟩, h6⟩, h7⟩, h8⟩, h9⟩, h10⟩, h11⟩, h12⟩ := h
    subst h1
    subst h1'
    have hb := blkOk_by h2
    have hb' : BlkOk X.N X.env.scope scope (ownP c own) := by rw [hx.hN, hx.hsc]; exact hb
    have o1 : ∀ i ∈ own1, i ∈ own := fun i hi => by have := h3'' i hi; simpa using this
    refine ⟨el, tg, iter, ifs, tg1, iter1, ifs1, scope, pos, rfl, _, _, _, _, _, _, _, S.I hx h6, hb', fun i hi => by rw [ownP_snd]; exact o1 i hi, fun s H C' cl fp => kP_spec (hx.blk hb.kind s H C' cl fp) h4, fun s H C' cl fp => S.Cs (hx.blk hb.kind s H C' cl fp) h7, fun s H C' cl fp => S.I (hx.blk hb.kind s H C' cl fp) h10,
      fun s H C' cl fp => kP_spec (hx.blk hb.kind s H C' cl fp) h8, fun s H C' cl fp => S.Cs (hx.blk hb.kind s H C' cl fp) h11, fun s H C' cl fp => S.E (hx.blk hb.kind s H C' cl fp) h12, fold_ok h5, fun env => fold_ok h9, fun σ H Q q => ?_⟩
    rw [ownP_snd]
    refine lc2_read (fun i hi => by have := h3 i hi; simpa using this) (fun i hi => by have := h3' i hi; simpa using this) o1 (fun loc r loc' e => ?_) q
    simp only [ev] at e
    split at e
    · rename_i items l1 e1
      split at e
      · rename_i hc
        simp only [Bool.and_eq_true, List.all_eq_true, decide_eq_true_eq] at hc
        split at e
        · rename_i ds l2 e2
          split at e
          · rename_i hl
            simp only [Option.some.injEq, Prod.mk.injEq] at e
            exact ⟨items, l1, ds, l2, e1, hc.1, hc.2, hl, e2, e.1.symm, e.2.symm⟩
          · cases e
        · cases e
      · cases e
    · cases e
  · cases h
theorem S_lc2E (S : Snd P G C c kk n) (hx : Ctx P G C c ow sc kk X) {e : Expr} {own own1 : List Nat} {p p1 : Pat} {it it1 : IT} {cs cs1 : List ME} {elt : ME} (h : mE (n + 1) c ow sc e (.lc2 own p it cs own1 p1 it1 cs1 elt) = true) : PE X e (tE P (ev G C (.lc2 own p it cs own1 p1 it1 cs1 elt))) := by
  obtain ⟨el, tg, iter, ifs, tg1, iter1, ifs1, scope, pos, rfl, wi, g, tt, wi1, g1, tt1, te, h1, h2, hv, h3, h4, h5, h6, h7, h8, h9, h10, h11⟩ := S_lc2 S hx h
  exact (pe_lc2 hx.calm (by rw [hx.hN]; exact hx.nd) h1 h2 hv h3 h4 h5 h6 h7 h8 h9 h10).imp h11

/-! methods -/
theorem few {cpos : Pos} {e : Expr} {env : Env} (h : notStar e = true) : ((backTo cpos (starEach [e] env)).all (fun x => !x.1) && (backToKw cpos (keywordEach [] env)).all (fun x => x.1.isSome) && decide ([e].length + ([] : List Keyword).length + (if ([] : List Keyword).isEmpty then 0 else 1) < 30)) = true := by
  rw [star_ok h]; rfl
theorem S_app (S : Snd P G C c kk n) (hx : Ctx P G C c ow sc kk X) {e : Expr} {i : Nat} {a : ME} (h : mE (n + 1) c ow sc e (.app i a) = true) : PE X e (tE P (ev G C (.app i a))) := by
  simp only [mE] at h
  split at h
  · simp only [Bool.and_eq_true, decide_eq_true_eq] at h
    obtain ⟨⟨⟨⟨rfl, h2⟩, h3⟩, h4⟩, h5⟩ := h
    have ha := pa_cons (S.E hx h5) pa_nil (star_ok h4)
    refine (pe_bm PySem.F.plainAttrs_list PySem.F.slot_list_append PySem.F.type_list_append mt_append (kV_spec hx h2) ha rfl (few h4) h3 (star_ok h4) rfl).imp fun σ H Q q => m_arg (fun loc r loc' e => ?_) q
    simp only [ev] at e
    split at e
    · rename_i b0 ds0 h0
      split at e
      · rename_i re l1 h1
        split at e
        · rename_i d b ds hd hl
          split at e
          · rename_i hb
            simp only [Option.some.injEq, Prod.mk.injEq] at e
            exact ⟨b0, ds0, re, l1, b, ds, ds ++ [d], .non, h0, h1, hl, e.1.symm, e.2.symm, fun L1 a x vs H1 Q f1 f2 f3 f4 => ap_app f1 f2 (f3 d hd) hb f4⟩
          · cases e
        · cases e
      · cases e
    · cases e
  · cases h
theorem S_ext (S : Snd P G C c kk n) (hx : Ctx P G C c ow sc kk X) {e : Expr} {i : Nat} {a : ME} (h : mE (n + 1) c ow sc e (.ext i a) = true) : PE X e (tE P (ev G C (.ext i a))) := by
  simp only [mE] at h
  split at h
  · simp only [Bool.and_eq_true, decide_eq_true_eq] at h
    obtain ⟨⟨⟨⟨rfl, h2⟩, h3⟩, h4⟩, h5⟩ := h
    have ha := pa_cons (S.E hx h5) pa_nil (star_ok h4)
    refine (pe_bm PySem.F.plainAttrs_list PySem.F.slot_list_extend PySem.F.type_list_extend mt_extend (kV_spec hx h2) ha rfl (few h4) h3 (star_ok h4) rfl).imp fun σ H Q q => m_arg (fun loc r loc' e => ?_) q
    simp only [ev] at e
    split at e
    · rename_i b0 ds0 h0
      split at e
      · rename_i re l1 h1
        split at e
        · rename_i es b ds hd hl
          split at e
          · rename_i hb
            simp only [Option.some.injEq, Prod.mk.injEq] at e
            exact ⟨b0, ds0, re, l1, b, ds, ds ++ es, .non, h0, h1, hl, e.1.symm, e.2.symm, fun L1 a x vs H1 Q f1 f2 f3 f4 => ap_ext f1 f2 (f3 _ hd) hb f4⟩
          · cases e
        · cases e
      · cases e
    · cases e
  · cases h
theorem S_popAt (S : Snd P G C c kk n) (hx : Ctx P G C c ow sc kk X) {e : Expr} {i : Nat} {a : ME} (h : mE (n + 1) c ow sc e (.popAt i a) = true) : PE X e (tE P (ev G C (.popAt i a))) := by
  simp only [mE] at h
  split at h
  · simp only [Bool.and_eq_true, decide_eq_true_eq] at h
    obtain ⟨⟨⟨⟨rfl, h2⟩, h3⟩, h4⟩, h5⟩ := h
    have ha := pa_cons (S.E hx h5) pa_nil (star_ok h4)
    refine (pe_bm PySem.F.plainAttrs_list PySem.F.slot_list_pop PySem.F.type_list_pop mt_popAt (kV_spec hx h2) ha rfl (few h4) h3 (star_ok h4) rfl).imp fun σ H Q q => m_arg (fun loc r loc' e => ?_) q
    simp only [ev] at e
    split at e
    · rename_i b0 ds0 h0
      split at e
      · rename_i k l1 h1
        split at e
        · rename_i b ds hl
          split at e
          · rename_i hb
            split at e
            · rename_i d hd
              simp only [Option.some.injEq, Prod.mk.injEq] at e
              exact ⟨b0, ds0, _, l1, b, ds, _, d, h0, h1, hl, e.1.symm, e.2.symm, fun L1 a x vs H1 Q f1 f2 f3 f4 => ap_popAt f1 f2 (f3 _ rfl) hb.1 hb.2 hd f4⟩
            · cases e
          · cases e
        · cases e
      · cases e
    · cases e
  · cases h
theorem S_pop (S : Snd P G C c kk n) (hx : Ctx P G C c ow sc kk X) {e : Expr} {i : Nat} (h : mE (n + 1) c ow sc e (.pop i) = true) : PE X e (tE P (ev G C (.pop i))) := by
  simp only [mE] at h
  split at h
  · simp only [Bool.and_eq_true, decide_eq_true_eq] at h
    obtain ⟨⟨rfl, h2⟩, h3⟩ := h
    refine (pe_bm0 PySem.F.plainAttrs_list PySem.F.slot_list_pop PySem.F.type_list_pop mt_pop (kV_spec hx h2) rfl h3).imp fun σ H Q q => m_no (fun loc r loc' e => ?_) q
    simp only [ev] at e
    split at e
    · rename_i b ds hl
      split at e
      · rename_i d hd
        simp only [Option.some.injEq, Prod.mk.injEq] at e
        exact ⟨b, ds, _, d, hl, e.1.symm, e.2.symm, fun L1 a vs H1 Q f1 f2 f4 => ap_pop f1 f2 hd f4⟩
      · cases e
    · cases e
  · cases h
theorem S_clear (S : Snd P G C c kk n) (hx : Ctx P G C c ow sc kk X) {e : Expr} {i : Nat} (h : mE (n + 1) c ow sc e (.clear i) = true) : PE X e (tE P (ev G C (.clear i))) := by
  simp only [mE] at h
  split at h
  · simp only [Bool.and_eq_true, decide_eq_true_eq] at h
    obtain ⟨⟨rfl, h2⟩, h3⟩ := h
    refine (pe_bm0 PySem.F.plainAttrs_list PySem.F.slot_list_clear PySem.F.type_list_clear mt_clear (kV_spec hx h2) rfl h3).imp fun σ H Q q => m_no (fun loc r loc' e => ?_) q
    simp only [ev] at e
    split at e
    · rename_i b ds hl
      simp only [Option.some.injEq, Prod.mk.injEq] at e
      exact ⟨b, ds, _, .non, hl, e.1.symm, e.2.symm, fun L1 a vs H1 Q f1 f2 f4 => ap_clear f1 f4⟩
    · cases e
  · cases h
/-! the script -/
theorem S_sIx (S : Snd P G C c kk n) (hx : Ctx P G C c ow sc kk X) {e : Expr} {i : Nat} {a : ME} (h : mE (n + 1) c ow sc e (.sIx i a) = true) : PE X e (tE P (ev G C (.sIx i a))) := by
  simp only [mE] at h
  split at h
  · simp only [Bool.and_eq_true] at h
    refine (pe_ix ix_list (kV_spec hx h.1.1) (S.E hx h.2) (slice_ok h.1.2)).imp fun σ H Q q => x_ix hx.hK (fun loc r loc' e => ?_) q
    simp only [ev] at e
    split at e
    · rename_i ns h0
      split at e
      · rename_i k l1 h1
        split at e
        · rename_i hk
          split at e
          · rename_i m hm
            simp only [Option.some.injEq, Prod.mk.injEq] at e
            obtain ⟨e1, rfl⟩ := e
            exact ⟨ns, k, m, h0, h1, hk, hm, e1.symm⟩
          · cases e
        · cases e
      · cases e
    · cases e
  · cases h
theorem S_sLen (S : Snd P G C c kk n) (hx : Ctx P G C c ow sc kk X) {e : Expr} {i : Nat} (h : mE (n + 1) c ow sc e (.sLen i) = true) : PE X e (tE P (ev G C (.sLen i))) := by
  simp only [mE] at h
  split at h
  · simp only [Bool.and_eq_true] at h
    obtain ⟨rfl, hg, hm⟩ := kB_spec hx h.1
    refine (pe_callB call_len_seq hg hm (by decide +kernel) (pa_cons (kV_spec hx h.2) pa_nil rfl) (by decide +kernel) (by decide +kernel) rfl rfl).imp fun σ H Q q => ?_
    refine x_len hx.hK (fun loc r loc' e => ?_) q
    simp only [ev] at e
    split at e
    · rename_i ns h0
      simp only [Option.some.injEq, Prod.mk.injEq] at e
      exact ⟨ns, h0, e.1.symm, e.2.symm⟩
    · cases e
  · cases h
theorem S_sSl (S : Snd P G C c kk n) (hx : Ctx P G C c ow sc kk X) {e : Expr} {i : Nat} {lo hi : Option ME} (h : mE (n + 1) c ow sc e (.sSl i lo hi) = true) : PE X e (tE P (ev G C (.sSl i lo hi))) := by
  simp only [mE] at h
  split at h
  · simp only [Bool.and_eq_true] at h
    refine (pe_slice sl_list (kV_spec hx h.1.1) (S.O hx h.1.2) (S.O hx h.2)).imp fun σ H Q q => x_sl hx.hK (fun loc r loc' e => ?_) q
    simp only [ev] at e
    split at e
    · rename_i ns h0
      split at e
      · rename_i x l1 h1
        split at e
        · rename_i y l2 h2
          simp only [Option.some.injEq, Prod.mk.injEq] at e
          obtain ⟨e1, rfl⟩ := e
          exact ⟨ns, x, l1, y, h0, h1, h2, e1.symm⟩
        · cases e
      · cases e
    · cases e
  · cases h
theorem S_E (S : Snd P G C c kk n) (hx : Ctx P G C c ow sc kk X) {e : Expr} {m : ME} (h : mE (n + 1) c ow sc e m = true) : PE X e (tE P (ev G C m)) := by
  cases m with
  | c d => exact S_c S hx h
  | g k => exact S_g S hx h
  | v i => exact S_v S hx h
  | r i => exact S_r S hx h
  | fz i => exact S_fz S hx h
  | tup es => exact S_tup S hx h
  | lst es => exact S_lst S hx h
  | o1 o a => exact S_o1 S hx h
  | o2 o a b => exact S_o2 S hx h
  | ch o o' a b d => exact S_ch S hx h
  | sl a lo hi => exact S_sl S hx h
  | and a b => exact S_and S hx h
  | or a b => exact S_or S hx h
  | not a => exact S_not S hx h
  | ite t a b => exact S_ite S hx h
  | call f as => exact S_call S hx h
  | callK f as ks p => exact S_callK S hx h
  | lc own p it cs elt => exact S_lcE S hx h
  | app i a => exact S_app S hx h
  | pop i => exact S_pop S hx h
  | popAt i a => exact S_popAt S hx h
  | clear i => exact S_clear S hx h
  | ext i a => exact S_ext S hx h
  | sIx i a => exact S_sIx S hx h
  | sLen i => exact S_sLen S hx h
  | sSl i lo hi => exact S_sSl S hx h
  | lc2 own p it cs own1 p1 it1 cs1 elt => exact S_lc2E S hx h
  | mxD mx a d => exact S_mx S hx h
  | thaw i a => exact S_thaw S hx h
  | bad => exact S_bad
  | fld tb a => exact S_fld S hx h
  | meth tb a as => exact S_meth S hx h
  | make k f as => exact S_make S hx h
  | sumR it => exact S_sumR S hx h
  | ch3 o o' o'' a b d g => exact S_ch3 S hx h
  | lrng it => exact S_lrng S hx h
theorem evs_nil {loc loc' : Loc} {rs : List R} (e : evs G C [] loc = some (rs, loc')) : rs = [] ∧ loc' = loc := by
  simp only [evs, Option.some.injEq, Prod.mk.injEq] at e
  exact ⟨e.1.symm, e.2.symm⟩
theorem evs_cons {m : ME} {ms : List ME} {loc loc' : Loc} {rs : List R} (e : evs G C (m :: ms) loc = some (rs, loc')) : ∃ r l1 rs', ev G C m loc = some (r, l1) ∧ evs G C ms l1 = some (rs', loc') ∧ rs = sett r :: rs' := by
  simp only [evs] at e
  split at e
  · rename_i r l1 h1
    split at e
    · rename_i rs' l2 h2
      simp only [Option.some.injEq, Prod.mk.injEq] at e
      obtain ⟨e1, rfl⟩ := e
      exact ⟨r, l1, rs', h1, h2, e1.symm⟩
    · cases e
  · cases e
theorem S_Es (S : Snd P G C c kk n) (hx : Ctx P G C c ow sc kk X) {es : List Expr} {ms : List ME} (h : mEs (n + 1) c ow sc es ms = true) : PA X es (tA P (evs G C ms)) := by
  simp only [mEs] at h
  split at h
  · exact pa_nil.imp fun σ H Q q => a_nil (fun loc rs loc' e => evs_nil e) q
  · simp only [Bool.and_eq_true] at h
    exact (pa_cons (S.E hx h.1.2) (S.Es hx h.2) (star_ok h.1.1)).imp fun σ H Q q => a_cons (fun loc rs loc' e => evs_cons e) q
  · cases h
theorem S_Ks (S : Snd P G C c kk n) (hx : Ctx P G C c ow sc kk X) {ks : List Keyword} {ms : List ME} (h : mEs (n + 1) c ow sc (ks.map (·.value)) ms = true) : PK X ks (tA P (evs G C ms)) := by
  cases ks with
  | nil =>
    cases ms with
    | nil => exact pk_nil.imp fun σ H Q q => a_nil (fun loc rs loc' e => evs_nil e) q
    | cons _ _ => simp [mEs] at h
  | cons k ks =>
    obtain ⟨karg, kval, kpos⟩ := k
    cases ms with
    | nil => simp [mEs] at h
    | cons m ms =>
      simp only [List.map_cons, mEs, Bool.and_eq_true] at h
      exact (pk_cons (S.E hx h.1.2) (S.Ks hx h.2)).imp fun σ H Q q => a_cons (fun loc rs loc' e => evs_cons e) q
theorem S_O (S : Snd P G C c kk n) (hx : Ctx P G C c ow sc kk X) {e : Option Expr} {m : Option ME} (h : mO (n + 1) c ow sc e m = true) : PO X e (tO P (evo G C m)) := by
  simp only [mO] at h
  split at h
  · refine po_none.imp fun σ H Q q => o_none (fun loc o loc' e => ?_) q
    simp only [evo, Option.some.injEq, Prod.mk.injEq] at e
    exact ⟨e.1.symm, e.2.symm⟩
  · refine (po_some (S.E hx h)).imp fun σ H Q q => o_some (fun loc o loc' e => ?_) q
    simp only [evo] at e
    split at e
    · rename_i i l1 h1
      simp only [Option.some.injEq, Prod.mk.injEq] at e
      obtain ⟨e1, rfl⟩ := e
      exact ⟨i, h1, e1.symm⟩
    · cases e
  · cases h
theorem evT_and {a b : ME} : ∀ loc k loc', evT G C (.and a b) loc = some (k, loc') → ∃ d l1, evT G C a loc = some (d, l1) ∧ ((d = true ∧ evT G C b l1 = some (k, loc')) ∨ (d = false ∧ k = false ∧ loc' = l1)) := fun loc k loc' e => by
  obtain ⟨r, d, e1, e2, e3⟩ := evT_spec e
  obtain ⟨ra, l1, da, h1, h2, h3⟩ := and_spec _ _ _ e1
  rcases h3 with ⟨h3, h4⟩ | ⟨h3, rfl, rfl⟩
  · exact ⟨true, l1, evT_of h1 h2 h3, .inl ⟨rfl, evT_of h4 e2 e3⟩⟩
  · rw [res_sett, h2] at e2
    cases e2
    rw [h3] at e3
    cases e3
    exact ⟨false, loc', evT_of h1 h2 h3, .inr ⟨rfl, rfl, rfl⟩⟩
theorem evT_or {a b : ME} : ∀ loc k loc', evT G C (.or a b) loc = some (k, loc') → ∃ d l1, evT G C a loc = some (d, l1) ∧ ((d = false ∧ evT G C b l1 = some (k, loc')) ∨ (d = true ∧ k = true ∧ loc' = l1)) := fun loc k loc' e => by
  obtain ⟨r, d, e1, e2, e3⟩ := evT_spec e
  obtain ⟨ra, l1, da, h1, h2, h3⟩ := or_spec _ _ _ e1
  rcases h3 with ⟨h3, h4⟩ | ⟨h3, rfl, rfl⟩
  · exact ⟨false, l1, evT_of h1 h2 h3, .inl ⟨rfl, evT_of h4 e2 e3⟩⟩
  · rw [res_sett, h2] at e2
    cases e2
    rw [h3] at e3
    cases e3
    exact ⟨true, loc', evT_of h1 h2 h3, .inr ⟨rfl, rfl, rfl⟩⟩
theorem evT_not {a : ME} : ∀ loc k loc', evT G C (.not a) loc = some (k, loc') → ∃ b, evT G C a loc = some (b, loc') ∧ k = !b := fun loc k loc' e => by
  obtain ⟨r, d, e1, e2, e3⟩ := evT_spec e
  simp only [ev] at e1
  split at e1
  · rename_i ra l1 h1
    split at e1
    · rename_i da h2
      split at e1
      · rename_i kb h3
        simp only [Option.some.injEq, Prod.mk.injEq] at e1
        obtain ⟨rfl, rfl⟩ := e1
        cases e2
        cases e3
        exact ⟨kb, evT_of h1 h2 h3, rfl⟩
      · cases e1
    · cases e1
  · cases e1
/-- a comparison answers a truth -/
theorem cmp_bl {o : O2} {op : CmpOp} (ho : cmpOf o = some op) {d e : D} {r : R} (h : ap2 o d e = some r) : ∃ k, r = .val (.bl k) := by
  cases o <;> simp only [cmpOf, reduceCtorEq] at ho
  · simp only [ap2] at h
    split at h
    · cases h; exact ⟨_, rfl⟩
    · obtain ⟨b, hb, rfl⟩ := Option.map_eq_some_iff.mp h; exact ⟨_, rfl⟩
  · simp only [ap2] at h
    split at h
    · cases h; exact ⟨_, rfl⟩
    · obtain ⟨b, hb, rfl⟩ := Option.map_eq_some_iff.mp h; exact ⟨_, rfl⟩
  · simp only [ap2] at h
    split at h
    · cases h; exact ⟨_, rfl⟩
    · obtain ⟨b, hb, rfl⟩ := Option.map_eq_some_iff.mp h; exact ⟨_, rfl⟩
    · cases h
  · simp only [ap2, cmpI] at h; split at h <;> cases h; exact ⟨_, rfl⟩
  · simp only [ap2, cmpI] at h; split at h <;> cases h; exact ⟨_, rfl⟩
  · simp only [ap2, cmpI] at h; split at h <;> cases h; exact ⟨_, rfl⟩
  · simp only [ap2] at h
    split at h
    · split at h <;> cases h; exact ⟨_, rfl⟩
    · split at h <;> cases h; exact ⟨_, rfl⟩
    · cases h
  · simp only [ap2] at h
    split at h
    · split at h <;> cases h; exact ⟨_, rfl⟩
    · split at h <;> cases h; exact ⟨_, rfl⟩
    · cases h
  · simp only [ap2] at h
    split at h <;> cases h <;> exact ⟨_, rfl⟩
  · simp only [ap2] at h
    split at h <;> cases h <;> exact ⟨_, rfl⟩
theorem evT_cmp {o : O2} {op : CmpOp} (ho : cmpOf o = some op) {a b : ME} : ∀ loc k loc', evT G C (.o2 o a b) loc = some (k, loc') → ev G C (.o2 o a b) loc = some (.val (.bl k), loc') := fun loc k loc' e => by
  obtain ⟨r, d, e1, e2, e3⟩ := evT_spec e
  obtain ⟨ra, l1, rb, x, y, h1, h2, h3, h4, h5⟩ := o2_spec _ _ _ e1
  obtain ⟨k', rfl⟩ := cmp_bl ho h5
  cases e2
  cases e3
  exact e1
theorem evT_ch {o o' : O2} {a b d : ME} : ∀ loc k loc', evT G C (.ch o o' a b d) loc = some (k, loc') → ev G C (.ch o o' a b d) loc = some (.val (.bl k), loc') := fun loc k loc' e => by
  obtain ⟨r, x, e1, e2, e3⟩ := evT_spec e
  obtain ⟨ra, l1, rb, l2, x', y', h1, h2, h3, h4, h5⟩ := ch_spec _ _ _ e1
  rcases h5 with ⟨h5, rc, e', f1, k', h6, h7, h8, h9, rfl⟩ | ⟨h5, rfl, rfl⟩
  · cases e2; cases e3; exact e1
  · cases e2; cases e3; exact e1
theorem evT_ch3 {o o' o'' : O2} {a b d g : ME} : ∀ loc k loc', evT G C (.ch3 o o' o'' a b d g) loc = some (k, loc') → ev G C (.ch3 o o' o'' a b d g) loc = some (.val (.bl k), loc') := fun loc k loc' e => by
  obtain ⟨r, x, e1, e2, e3⟩ := evT_spec e
  obtain ⟨ra, l1, rb, l2, x', y', h1, h2, h3, h4, h5⟩ := ch3_spec _ _ _ e1
  rcases h5 with ⟨h5, rc, l3, e', f1, h6, h7, h8, h9⟩ | ⟨h5, rfl, rfl⟩
  · rcases h9 with ⟨h9, rd, f2, g1, k', h10, h11, h12, h13, rfl⟩ | ⟨h9, rfl, rfl⟩
    · cases e2; cases e3; exact e1
    · cases e2; cases e3; exact e1
  · cases e2; cases e3; exact e1
theorem S_T0 (S : Snd P G C c kk n) (hx : Ctx P G C c ow sc kk X) {e : Expr} {m : ME} (h1 : plainTest e = true) (h2 : mE n c ow sc e m = true) : PT X e (tT P (evT G C m)) :=
  (pt_truth (S.E hx h2) (plain_ok h1)).imp fun σ H Q q => t_of hx.hK (fun loc k loc' e => evT_spec e) q
theorem S_W (S : Snd P G C c kk n) (hx : Ctx P G C c ow sc kk X) {op : BoolOp} {vs : List Expr} {p : Pos} {m : ME} (h : mT (n + 1) c ow sc (.BoolOp op vs p) m = true) : PW X (.BoolOp op vs p) (tT P (evT G C m)) := by
  simp only [mT] at h
  split at h
  · rename_i heq; cases heq
  · rename_i x y p' heq
    cases heq
    split at h
    · simp only [Bool.and_eq_true] at h
      exact (pw_and (S.T hx h.1) (pw_and1 (S.T hx h.2))).imp fun σ H Q q => t_and evT_and q
    · cases h
  · rename_i x y z r p' heq
    cases heq
    split at h
    · simp only [Bool.and_eq_true] at h
      exact (pw_and (S.T hx h.1) (S.W hx h.2)).imp fun σ H Q q => t_and evT_and q
    · cases h
  · rename_i x y p' heq
    cases heq
    split at h
    · simp only [Bool.and_eq_true] at h
      exact (pw_or (S.T hx h.1) (pw_or1 (S.T hx h.2))).imp fun σ H Q q => t_or evT_or q
    · cases h
  · rename_i x y z r p' heq
    cases heq
    split at h
    · simp only [Bool.and_eq_true] at h
      exact (pw_or (S.T hx h.1) (S.W hx h.2)).imp fun σ H Q q => t_or evT_or q
    · cases h
  · rename_i heq; cases heq
  · rename_i heq; cases heq
  · rename_i heq; cases heq
  · simp [plainTest] at h
theorem S_T (S : Snd P G C c kk n) (hx : Ctx P G C c ow sc kk X) {e : Expr} {m : ME} (h : mT (n + 1) c ow sc e m = true) : PT X e (tT P (evT G C m)) := by
  have h0 := h
  simp only [mT] at h
  split at h
  · split at h
    · exact (pt_not (S.T hx h)).imp fun σ H Q q => t_not evT_not q
    · cases h
  · exact (S_W S hx h0).pt
  · exact (S_W S hx h0).pt
  · exact (S_W S hx h0).pt
  · exact (S_W S hx h0).pt
  · split at h
    · simp only [Bool.and_eq_true, decide_eq_true_eq] at h
      refine (pt_cmpR (d_cmp hx.hK hx.units h.1.1.1) (S.E hx h.1.2) (S.E hx h.2) (set_ok h.1.1.2)).imp fun σ H Q q => ?_
      exact o2_read o2_spec (t_bl (evT_cmp h.1.1.1) q)
    · cases h
  · split at h
    · simp only [Bool.and_eq_true, decide_eq_true_eq] at h
      refine (pt_chain (d_cmp hx.hK hx.units h.1.1.1.1.1.1) (d_cmp hx.hK hx.units h.1.1.1.1.1.2) (S.E hx h.1.1.2) (S.E hx h.1.2) (S.E hx h.2) (last_ok h.1.1.1.2)).imp fun σ H Q q => ?_
      exact e_ch ch_spec (t_bl evT_ch q)
    · cases h
  · split at h
    · simp only [Bool.and_eq_true, decide_eq_true_eq] at h
      obtain ⟨⟨⟨⟨⟨⟨⟨h1, h2⟩, h3⟩, h4⟩, h5⟩, h6⟩, h7⟩, h8⟩ := h
      refine (pt_chain3 (d_cmp hx.hK hx.units h1) (d_cmp hx.hK hx.units h2) (d_cmp hx.hK hx.units h3) (S.E hx h5) (S.E hx h6) (S.E hx h7) (S.E hx h8) (last3_ok h4)).imp fun σ H Q q => ?_
      exact e_ch3 ch3_spec (t_bl evT_ch3 q)
    · cases h
  · simp only [Bool.and_eq_true] at h
    exact S_T0 S hx h.1 h.2
theorem S_Cs (S : Snd P G C c kk n) (hx : Ctx P G C c ow sc kk X) {es : List Expr} {ms : List ME} (h : mC (n + 1) c ow sc es ms = true) : PTs X es (tT P (evC G C ms)) := by
  simp only [mC] at h
  split at h
  · refine ⟨fun pins s σ H Q I q => pts_nil.run pins s σ H Q I ?_⟩
    obtain ⟨L0, loc, b, loc', R, e, k⟩ := q
    simp only [evC, Option.some.injEq, Prod.mk.injEq] at e
    obtain ⟨rfl, rfl⟩ := e
    exact k H (.none0 R)
  · rename_i e m
    refine ⟨fun pins s σ H Q I q => (pts_one (S.T hx h)).run pins s σ H Q I ?_⟩
    obtain ⟨L0, loc, b, loc', R, e, k⟩ := q
    refine ⟨L0, loc, b, loc', R, ?_, k⟩
    simp only [evC] at e
    split at e
    · rename_i r l1 h1
      split at e
      · rename_i d h2
        split at e
        · rename_i h3
          simp only [evC, Option.some.injEq, Prod.mk.injEq] at e
          obtain ⟨rfl, rfl⟩ := e
          exact evT_of h1 h2 h3
        · rename_i h3
          simp only [Option.some.injEq, Prod.mk.injEq] at e
          obtain ⟨rfl, rfl⟩ := e
          exact evT_of h1 h2 h3
        · cases e
      · cases e
    · cases e
  · cases h
theorem S_I (S : Snd P G C c kk n) (hx : Ctx P G C c ow sc kk X) {tg e : Expr} {it : IT} (h : mI (n + 1) c ow sc tg e it = true) : PI X tg e (tI P (evI G C it)) := by
  cases it with
  | seq a =>
    simp only [mI] at h
    refine (pi_list (S.E hx h)).imp fun σ H Q q => i_seq (fun loc items loc' e => ?_) q
    simp only [evI] at e
    split at e
    · rename_i r l1 h1
      split at e
      · rename_i ds h2
        simp only [Option.some.injEq, Prod.mk.injEq] at e
        obtain ⟨rfl, rfl⟩ := e
        exact ⟨r, h1, h2⟩
      · cases e
    · cases e
  | tpl a =>
    simp only [mI] at h
    refine (pi_tup (S.E hx h)).imp fun σ H Q q => i_tpl hx.hK (fun loc items loc' e => ?_) q
    simp only [evI] at e
    split at e
    · rename_i r l1 h1
      split at e
      · rename_i ds h2
        simp only [Option.some.injEq, Prod.mk.injEq] at e
        obtain ⟨rfl, rfl⟩ := e
        exact ⟨r, h1, h2⟩
      · cases e
    · cases e
  | rng1 a =>
    simp only [mI] at h
    split at h
    · simp only [Bool.and_eq_true] at h
      obtain ⟨rfl, hg, hm⟩ := kB_spec hx h.1.1
      refine (pi_range1 hg hm (pa_cons (S.E hx h.2) pa_nil (star_ok h.1.2)) (star_ok h.1.2)).imp fun σ H Q q => i_rng1 (fun loc items loc' e => ?_) q
      simp only [evI] at e
      split at e
      · rename_i r l1 h1
        split at e
        · rename_i m
          split at e
          · rename_i hs
            simp only [Option.some.injEq, Prod.mk.injEq] at e
            obtain ⟨rfl, rfl⟩ := e
            exact ⟨m, h1, hs, rfl⟩
          · cases e
        · cases e
      · cases e
    · cases h
  | rng2 a b =>
    simp only [mI] at h
    split at h
    · simp only [Bool.and_eq_true] at h
      obtain ⟨⟨⟨⟨h1, h2⟩, h3⟩, h4⟩, h5⟩ := h
      obtain ⟨rfl, hg, hm⟩ := kB_spec hx h1
      refine (pi_range2 hg hm (pa_cons (S.E hx h4) (pa_cons (S.E hx h5) pa_nil (star_ok h3)) (star_ok h2)) (by rw [star_ok h2, star_ok h3]; rfl) (by rw [star_ok h3]; rfl)).imp fun σ H Q q => i_rng2 (fun loc items loc' e => ?_) q
      simp only [evI] at e
      split at e
      · rename_i r l1 h1
        split at e
        · rename_i r' l2 h2
          split at e
          · rename_i m1 m2
            split at e
            · rename_i hs
              simp only [Option.some.injEq, Prod.mk.injEq] at e
              simp only [Bool.and_eq_true] at hs
              obtain ⟨rfl, rfl⟩ := e
              exact ⟨_, l1, _, h1, h2, hs.1, hs.2, rfl⟩
            · cases e
          · cases e
        · cases e
      · cases e
    · cases h
  | enum a =>
    simp only [mI] at h
    split at h
    · simp only [Bool.and_eq_true] at h
      obtain ⟨rfl, hg, hm⟩ := kB_spec hx h.1.1
      refine (pi_enum hg hm (pa_cons (S.E hx h.2) pa_nil (star_ok h.1.2)) (star_ok h.1.2)).imp fun σ H Q q => i_enum (fun loc items loc' e => ?_) q
      simp only [evI] at e
      split at e
      · rename_i r l1 h1
        split at e
        · rename_i ds h2
          simp only [Option.some.injEq, Prod.mk.injEq] at e
          obtain ⟨rfl, rfl⟩ := e
          exact ⟨r, ds, h1, h2, rfl⟩
        · cases e
      · cases e
    · cases h
  | zip a b =>
    simp only [mI] at h
    split at h
    · simp only [Bool.and_eq_true] at h
      obtain ⟨⟨⟨⟨h1, h2⟩, h3⟩, h4⟩, h5⟩ := h
      obtain ⟨rfl, hg, hm⟩ := kB_spec hx h1
      refine (RZ.pi_zipA hg hm (pa_cons (S.E hx h4) (pa_cons (S.E hx h5) pa_nil (star_ok h3)) (star_ok h2)) (star_ok h2) (by rw [star_ok h3]; rfl)).imp fun σ H Q q => i_zip hx.hK (fun loc items loc' e => ?_) q
      simp only [evI] at e
      split at e
      · rename_i r l1 h1
        split at e
        · rename_i r' l2 h2
          split at e
          · rename_i ds es h3 h4
            simp only [Option.some.injEq, Prod.mk.injEq] at e
            obtain ⟨rfl, rfl⟩ := e
            exact ⟨r, l1, r', ds, es, h1, h2, .inl ⟨h3, h4⟩, rfl⟩
          · rename_i ds es h3 h4
            simp only [Option.some.injEq, Prod.mk.injEq] at e
            obtain ⟨rfl, rfl⟩ := e
            exact ⟨r, l1, r', ds, es, h1, h2, .inr ⟨h3, h4⟩, rfl⟩
          · cases e
        · cases e
      · cases e
    · cases h
theorem snd_all : ∀ n, Snd P G C c kk n
  | 0 => snd_zero
  | n + 1 =>
    have S := snd_all n
    ⟨fun hx h => S_E S hx h, fun hx h => S_Es S hx h, fun hx h => S_Ks S hx h, fun hx h => S_O S hx h, fun hx h => S_T S hx h, fun hx h => S_W S hx h, fun hx h => S_Cs S hx h, fun hx h => S_I S hx h⟩
end
end MP

namespace MP
open PySem PySem.Spec PyProof.Rows L2

/-! ### the look at statements -/
def isComp : Expr → Bool
  | .ListComp _ _ _ _ => true
  | _ => false
def notTup : Expr → Bool
  | .Tuple _ _ _ => false
  | _ => true
def isName : Expr → Bool
  | .Name _ _ => true
  | _ => false
/-- [..] given to a local name on its line -/
def kSw (sc : Scope) (x : Str) (py : Pos) : Expr → Bool
  | .ListComp _ _ scope pos => decide (sc.names.lookup x = some .local) && (py.line == pos.line) && !(scope.names.any fun (n, k) => n == x && (k == .local || k == .cell))
  | _ => false
/-- a name that inner scopes read -/
def kCl (sc : Scope) (x : Str) : Bool := decide (sc.names.lookup x = some .cell)
theorem sw_cell {v : Expr} {x : Str} {p : Pos} {l : Nat} {env : Env} (h : env.scope.names.lookup x = some .cell) : swapsWith v (some (.Name x p)) l env = pure false := by
  have e : env.kindOf x = some .cell := h
  have e2 : (some NameKind.cell == some NameKind.local) = false := rfl
  cases v <;> first | rfl | (unfold swapsWith; simp [e, e2])
def augOf : O2 → Option Operator
  | .add => some .Add
  | .sub => some .Sub
  | _ => none
mutual
def mS : Nat → CK → (Str → Bool) → Scope → Stmt → MS → Bool
  | 0, _, _, _, _, _ => false
  | n + 1, c, ow, sc, s, m => match m with
    | .set p e => match s with
      | .Assign [.Name x py] v _ => kP c ow sc (.Name x py) p && (notComp v || kSw sc x py v || kCl sc x) && mE n c ow sc v e
      | .Assign [.Tuple es k pt] v _ => kP c ow sc (.Tuple es k pt) p && notComp v && notTup v && mE n c ow sc v e
      | _ => false
    | .own i e => match s with
      | .Assign [.Name x py] v _ => kT c ow sc x i && (notComp v || kSw sc x py v || kCl sc x) && mE n c ow sc v e
      | _ => false
    | .par i j a b => match s with
      | .Assign [.Tuple [.Name x px, .Name y py] _ _] (.Tuple [v, w] _ _) _ => decide (c.N[i]? = some x) && decide (c.N[j]? = some y) && decide (i ≠ j) && decide (sc.names.lookup x = some .local) && decide (sc.names.lookup y = some .local) && (py.line == px.line) && decide (x ≠ y) &&
          notStar v && notStar w && !(foldedForSure 8 v && foldedForSure 8 w) && !(constantsAlone 8 v && constantsAlone 8 w) && mE n c ow sc v a && mE n c ow sc w b
      | _ => false
    | .aug i o e => match s with
      | .AugAssign (.Name x _) op v _ => kT c ow sc x i && decide (augOf o = some op) && mE n c ow sc v e
      | _ => false
    | .ex e => match s with
      | .Expr v _ => notComp v && mE n c ow sc v e
      | _ => false
    | .ret e => match s with
      | .Return (some v) _ => mE n c ow sc v e
      | _ => false
    | .retN => match s with
      | .Return none _ => true
      | _ => false
    | .ite t a b => match s with
      | .If x y z _ => mT n c ow sc x t && mSs n c ow sc y a && mSs n c ow sc z b
      | _ => false
    | .loop p it b => match s with
      | .For tg iter body [] _ => kP c ow sc tg p && notSet iter && mI n c ow sc tg iter it && mSs n c ow sc body b
      | _ => false
    | .wh t b => match s with
      | .While x body [] _ => mT n c ow sc x t && mSs n c ow sc body b
      | _ => false
    | .put i k e => match s with
      | .Assign [.Subscript (.Name x _) y _] v _ => kV c sc x i && (notComp v && notSlice y) && mE n c ow sc y k && mE n c ow sc v e
      | _ => false
    | .pass => match s with
      | .Pass _ => true
      | _ => false
    | .brk => match s with
      | .Break _ => true
      | _ => false
    | .cont => match s with
      | .Continue _ => true
      | _ => false
    | .bad => true
    | .par3 i j k a b d => match s with
      | .Assign [.Tuple [.Name x px, .Name y py, .Name z pz] _ _] (.Tuple [u, v, w] _ _) _ => decide (c.N[i]? = some x) && decide (c.N[j]? = some y) && decide (c.N[k]? = some z) && decide (i ≠ j) && decide (i ≠ k) && decide (j ≠ k) && decide (sc.names.lookup x = some .local) && decide (sc.names.lookup y = some .local) && decide (sc.names.lookup z = some .local) && (py.line == px.line) && (pz.line == px.line) && decide (x ≠ y) && decide (x ≠ z) && decide (y ≠ z) &&
          notStar u && notStar v && notStar w && !(foldedForSure 8 u && foldedForSure 8 v && foldedForSure 8 w) && !(constantsAlone 8 u && constantsAlone 8 v && constantsAlone 8 w) && mE n c ow sc u a && mE n c ow sc v b && mE n c ow sc w d
      | _ => false
    | .augL i e => match s with
      | .AugAssign (.Name x _) .Add v _ => kT c ow sc x i && mE n c ow sc v e
      | _ => false
    | .forget _ => false
    | .retO i => match s with
      | .Return (some (.Name x _)) _ => kV c sc x i
      | _ => false
def mSs : Nat → CK → (Str → Bool) → Scope → List Stmt → List MS → Bool
  | 0, _, _, _, _, _ => false
  | n + 1, c, ow, sc, ss, ms => match ms with
    | [] => match ss with
      | [] => true
      | _ => false
    | .forget _ :: ms => mSs n c ow sc ss ms
    | m :: ms => match ss with
      | s :: ss => mS n c ow sc s m && mSs n c ow sc ss ms
      | [] => false
end
section
variable {P : RP} {G : Nat → D} {C : CallS} {c : CK} {ow : Str → Bool} {sc : Scope} {kk n F : Nat} {X : Cx}
/-- a value that is given to a name: its reading, whatever it is -/
theorem set_name (hx : Ctx P G C c ow sc kk X) {x : Str} {i : Nat} {py pos : Pos} {v : Expr} {e : ME} (hk : kT c ow sc x i = true) (hv : (notComp v || kSw sc x py v || kCl sc x) = true) (h : mE n c ow sc v e = true) :
    ∃ te, PS X (.Assign [.Name x py] v pos) (tAsg te (gName i)) ∧ ∀ σ H Q, tE P (ev G C e) σ H Q → te σ H Q := by
  obtain ⟨_, hi, hl, hf⟩ := kT_spec (pos := py) hx hk
  have nd : X.N.Nodup := by rw [hx.hN]; exact hx.nd
  have S := snd_all (P := P) (G := G) (C := C) (c := c) (kk := kk) n
  by_cases hc : notComp v = true
  · exact ⟨_, ps_set nd hi hl (S.E hx h) (comp_ok hc) hf, fun _ _ _ q => q⟩
  by_cases hc2 : kCl sc x = true
  · have e0 : X.env.scope.names.lookup x = some .cell := by rw [hx.hsc]; exact of_decide_eq_true hc2
    exact ⟨_, ps_set nd hi hl (S.E hx h) (sw_cell e0) hf, fun _ _ _ q => q⟩
  · have hs : kSw sc x py v = true := by simpa [hc, hc2] using hv
    cases v <;> first | (exfalso; simp [kSw] at hs; done) | skip
    rename_i el gs scope p
    cases n with
    | zero => simp [mE] at h
    | succ n =>
      have S' := snd_all (P := P) (G := G) (C := C) (c := c) (kk := kk) n
      have hs' := hs
      unfold kSw at hs'
      simp only [Bool.and_eq_true, decide_eq_true_eq, Bool.not_eq_true'] at hs'
      obtain ⟨⟨s1, s2⟩, s3⟩ := hs'
      cases e <;> first | (exfalso; simp [mE] at h; done) | (exfalso; simp only [mE] at h; split at h <;> simp at h; done) | skip
      · rename_i own p' it cs elt
        obtain ⟨el', tg, iter, ifs, scope', pos', heq, wi, g, tt, te, h1, h2, h3, h4, h5, h6, h7⟩ := S_lc S' hx h
        cases heq
        have e0 : X.env.scope.names.lookup x = some .local := by rw [hx.hsc]; exact s1
        have ek : X.env.scope.kind = .function := by rw [hx.hsc]; exact hx.kind
        exact ⟨_, ps_setLc hx.calm nd hi e0 (sw_true ek e0 s2 s3) h1 h2 h3 h4 h5 h6, h7⟩
      · refine ⟨fun _ _ _ => False, ⟨fun pins s σ H D I q => False.elim q⟩, fun σ H Q q => ?_⟩
        obtain ⟨L0, loc, r, loc', R, e, k⟩ := q
        simp only [ev] at e
        cases e
      · rename_i own p' it cs own1 p1 it1 cs1 elt
        obtain ⟨el', tg, iter, ifs, tg1, iter1, ifs1, scope', pos', heq, wi, g, tt, wi1, g1, tt1, te, h1, h2, hv2, h3, h4, h5, h6, h7, h8, h9, h10, h11⟩ := S_lc2 S' hx h
        cases heq
        have e0 : X.env.scope.names.lookup x = some .local := by rw [hx.hsc]; exact s1
        have ek : X.env.scope.kind = .function := by rw [hx.hsc]; exact hx.kind
        exact ⟨_, ps_setLc2 hx.calm nd hi e0 (sw_true ek e0 s2 s3) h1 h2 hv2 h3 h4 h5 h6 h7 h8 h9 h10, h11⟩
      · exact absurd h (by simp [mE, notComp])
theorem swap_ok {env : Env} {x y : Str} {px py pt pt2 : Pos} {kt k2 : Nat} {a b : Expr} (hk : env.scope.kind = .function) (hx : env.scope.names.lookup x = some .local) (hy : env.scope.names.lookup y = some .local) (hl : (py.line == px.line) = true) (hne : x ≠ y)
    (ha : notStar a = true) (hb : notStar b = true) (h1 : (foldedForSure 8 a && foldedForSure 8 b) = false) (h2 : (constantsAlone 8 a && constantsAlone 8 b) = false) :
    swappedStores [.Tuple [.Name x px, .Name y py] kt pt] (.Tuple [a, b] k2 pt2) env = pure (some [x, y]) := by
  have ex : env.kindOf x = some .local := hx
  have ey : env.kindOf y = some .local := hy
  have bk : env.blockKind = .function := by unfold Env.blockKind; rw [hk]; rfl
  have key : ∀ f : Expr → Bool, f a = false → f b = false → [a, b].any f = false := fun f q1 q2 => by
    simp [q1, q2]
  have e2 : ([a, b].all (foldedForSure 8)) = false := by
    show (foldedForSure 8 a && (foldedForSure 8 b && true)) = false
    rw [Bool.and_true]; exact h1
  have e3 : ([a, b].all (constantsAlone 8)) = false := by
    show (constantsAlone 8 a && (constantsAlone 8 b && true)) = false
    rw [Bool.and_true]; exact h2
  have hlx : (px.line == px.line) = true := by simp
  have ne1 : (y == x) = false := by
    rw [beq_eq_false_iff_ne]; exact Ne.symm hne
  have ne2 : (x == y) = false := by
    rw [beq_eq_false_iff_ne]; exact hne
  have ed : [x, y].eraseDups = [x, y] := by
    simp [List.eraseDups_cons, ne1, ne2, hne, Ne.symm hne]
  unfold swappedStores
  simp only [bk, e2, e3, List.length_cons, List.length_nil, Expr.pos, List.head?_cons, Option.map_some, Option.getD_some, List.filterMap_cons, List.filterMap_nil, ex, ey, hl, hlx]
  rw [key _ (by cases a <;> first | rfl | cases ha) (by cases b <;> first | rfl | cases hb)]
  simp [ed]
theorem swap3_ok {env : Env} {x y z : Str} {px py pz pt pt2 : Pos} {kt k2 : Nat} {a b d : Expr} (hk : env.scope.kind = .function) (hx : env.scope.names.lookup x = some .local) (hy : env.scope.names.lookup y = some .local) (hz : env.scope.names.lookup z = some .local) (hl : (py.line == px.line) = true) (hl2 : (pz.line == px.line) = true) (n1 : x ≠ y) (n2 : x ≠ z) (n3 : y ≠ z)
    (ha : notStar a = true) (hb : notStar b = true) (hd : notStar d = true) (h1 : (foldedForSure 8 a && foldedForSure 8 b && foldedForSure 8 d) = false) (h2 : (constantsAlone 8 a && constantsAlone 8 b && constantsAlone 8 d) = false) :
    swappedStores [.Tuple [.Name x px, .Name y py, .Name z pz] kt pt] (.Tuple [a, b, d] k2 pt2) env = pure (some [x, y, z]) := by
  have ex : env.kindOf x = some .local := hx
  have ey : env.kindOf y = some .local := hy
  have ez : env.kindOf z = some .local := hz
  have bk : env.blockKind = .function := by unfold Env.blockKind; rw [hk]; rfl
  have key : ∀ f : Expr → Bool, f a = false → f b = false → f d = false → [a, b, d].any f = false := fun f q1 q2 q3 => by
    simp [q1, q2, q3]
  have e2 : ([a, b, d].all (foldedForSure 8)) = false := by
    show (foldedForSure 8 a && (foldedForSure 8 b && (foldedForSure 8 d && true))) = false
    rw [Bool.and_true, ← Bool.and_assoc]; exact h1
  have e3 : ([a, b, d].all (constantsAlone 8)) = false := by
    show (constantsAlone 8 a && (constantsAlone 8 b && (constantsAlone 8 d && true))) = false
    rw [Bool.and_true, ← Bool.and_assoc]; exact h2
  have hlx : (px.line == px.line) = true := by simp
  have b1 : (y == x) = false := by rw [beq_eq_false_iff_ne]; exact Ne.symm n1
  have b2 : (x == y) = false := by rw [beq_eq_false_iff_ne]; exact n1
  have b3 : (z == x) = false := by rw [beq_eq_false_iff_ne]; exact Ne.symm n2
  have b4 : (x == z) = false := by rw [beq_eq_false_iff_ne]; exact n2
  have b5 : (z == y) = false := by rw [beq_eq_false_iff_ne]; exact Ne.symm n3
  have b6 : (y == z) = false := by rw [beq_eq_false_iff_ne]; exact n3
  have ed : [x, y, z].eraseDups = [x, y, z] := by
    simp [List.eraseDups_cons, b1, b2, b3, b4, b5, b6, n1, n2, n3, Ne.symm n1, Ne.symm n2, Ne.symm n3]
  unfold swappedStores
  simp only [bk, e2, e3, List.length_cons, List.length_nil, Expr.pos, List.head?_cons, Option.map_some, Option.getD_some, List.filterMap_cons, List.filterMap_nil, ex, ey, ez, hl, hl2, hlx]
  rw [key _ (by cases a <;> first | rfl | cases ha) (by cases b <;> first | rfl | cases hb) (by cases d <;> first | rfl | cases hd)]
  simp [ed]
theorem sole_ok {t v : Expr} {l : Nat} {env : Env} (h : notComp v = true) : swapsWithSole [t] v l env = pure false := by
  unfold swapsWithSole
  exact comp_ok h
theorem asub_ok {o i : Expr} {pos : Pos} {env : Env} (h : notSlice i = true) : ∀ v, assign (.Subscript o i pos) env v = (do
      let ov ← holding [v] (eval o env)
      let iv ← holding [v, ov] (eval i env)
      standAt pos
      holding [v, ov, iv] (setItem ov iv v)
      release [v, ov, iv] []) := by
  intro v
  cases i <;> first | rfl | cases h
theorem ip_add' : PIp X .Add (ipI fun i j => i + j) := ip_add
structure SndS (P : RP) (G : Nat → D) (C : CallS) (c : CK) (kk F n : Nat) : Prop where
  S : ∀ {ow : Str → Bool} {sc : Scope} {X : Cx} {s : Stmt} {m : MS}, Ctx P G C c ow sc kk X → mS n c ow sc s m = true → PS X s (tS P (sx G C F m))
  Ss : ∀ {ow : Str → Bool} {sc : Scope} {X : Cx} {ss : List Stmt} {ms : List MS}, Ctx P G C c ow sc kk X → mSs n c ow sc ss ms = true → PSs X ss (tS P (sxs G C F ms))
theorem omap_nx {o : Option Loc} {out : Out} (h : o.map Out.nx = some out) : ∃ l, o = some l ∧ out = .nx l := by
  cases o with
  | none => cases h
  | some l => cases h; exact ⟨l, rfl, rfl⟩
theorem pass_own {M : Model} {A : Around} {env : Env} {xe : Value → Shared → Prop} (h : xe = fun _ _ => False) : PassesOwn M A env xe := by subst h; exact PassesOwn.never
theorem St_S (S : SndS P G C c kk F n) (hx : Ctx P G C c ow sc kk X) {s : Stmt} {m : MS} (h : mS (n + 1) c ow sc s m = true) : PS X s (tS P (sx G C F m)) := by
  have SE := snd_all (P := P) (G := G) (C := C) (c := c) (kk := kk) n
  have nd : X.N.Nodup := by rw [hx.hN]; exact hx.nd
  cases m with
  | set p e =>
    have hg : ∀ loc o, sx G C F (.set p e) loc = some o → ∃ r l1 d l2, ev G C e loc = some (r, l1) ∧ toVal r = some d ∧ bindP p d l1 = some l2 ∧ o = .nx l2 := fun loc o e => by
      simp only [sx] at e
      split at e
      · rename_i r l1 h1
        split at e
        · rename_i d h2
          obtain ⟨l, h3, rfl⟩ := omap_nx e
          exact ⟨r, l1, d, l, h1, h2, h3, rfl⟩
        · cases e
      · cases e
    simp only [mS] at h
    split at h
    · simp only [Bool.and_eq_true] at h
      cases p with
      | v i =>
        obtain ⟨te, h1, h2⟩ := set_name (P := P) (G := G) (C := C) (kk := kk) hx (by simpa only [kP] using h.1.1) h.1.2 h.2
        refine h1.imp fun D σ H q => ?_
        obtain ⟨L0, loc, r, l1, R, e1, k⟩ := s_set hg q
        exact h2 _ _ _ ⟨L0, loc, r, l1, R, e1, fun v H1 p1 => g_name (k v H1 p1)⟩
      | tup is => simp [kP] at h
    · simp only [Bool.and_eq_true] at h
      obtain ⟨⟨⟨h1, h2⟩, h3⟩, h4⟩ := h
      rename_i es k pt v ps
      refine (ps_asg (SE.E hx h4) (kP_spec hx h1) (sole_ok h2) ?_ rfl).imp fun D σ H q => s_set hg q
      cases v <;> first | rfl | cases h3
    · cases h
  | own i e =>
    simp only [mS] at h
    split at h
    · simp only [Bool.and_eq_true] at h
      obtain ⟨te, h1, h2⟩ := set_name (P := P) (G := G) (C := C) (kk := kk) hx h.1.1 h.1.2 h.2
      refine h1.imp fun D σ H q => ?_
      obtain ⟨L0, loc, r, l1, R, e1, k⟩ := s_own (ge := ev G C e) (i := i) (fun loc o e => by
        simp only [sx] at e
        split at e
        · rename_i ds l1 h1
          obtain ⟨l, h3, rfl⟩ := omap_nx e
          exact ⟨ds, l1, l, h1, h3, rfl⟩
        · cases e) q
      exact h2 _ _ _ ⟨L0, loc, r, l1, R, e1, k⟩
    · cases h
  | par i j a b =>
    simp only [mS] at h
    split at h
    · simp only [Bool.and_eq_true, decide_eq_true_eq, Bool.not_eq_true'] at h
      obtain ⟨⟨⟨⟨⟨⟨⟨⟨⟨⟨⟨⟨h1, h2⟩, h3⟩, h4⟩, h5⟩, h6⟩, h7⟩, h8⟩, h9⟩, h10⟩, h11⟩, h12⟩, h13⟩ := h
      have ek : X.env.scope.kind = .function := by rw [hx.hsc]; exact hx.kind
      have ex := h4
      have ey := h5
      rw [← hx.hsc] at ex ey
      refine (ps_par hx.calm nd (by rw [hx.hN]; exact h1) (by rw [hx.hN]; exact h2) h3 ex ey (pa_cons (SE.E hx h12) (pa_cons (SE.E hx h13) pa_nil (star_ok h9)) (star_ok h8)) (swap_ok ek ex ey h6 h7 h8 h9 h10 h11)).imp fun D σ H q => ?_
      obtain ⟨L0, loc, out, R, e, k⟩ := q
      simp only [sx] at e
      split at e
      · rename_i r l1 e1
        split at e
        · rename_i r' l2 e2
          split at e
          · rename_i d d' e3 e4
            split at e
            · rename_i l3 e5
              obtain ⟨l4, e6, rfl⟩ := omap_nx e
              refine ⟨L0, loc, r, l1, R, e1, fun x H1 p1 => ⟨L0, l1, r', l2, p1.rel, e2, fun y H2 p2 => ⟨x, y, rfl, ?_⟩⟩⟩
              have rx : Rep P (Lv L0 l2 σ) H2 d x := by
                have := (p1.rep.sett).after p2
                rw [tval_sett e3] at this
                exact this
              have q1 := put_dat p2.rel e5 rx
              have q2 := put_dat q1.rel e6 (Rep.keep q1.kp q1.lv _ _ (toVal_rep p2.rep e4))
              exact k _ _ (((p1.trans p2).st.trans q1).trans q2)
            · cases e
          · cases e
        · cases e
      · cases e
    · cases h
  | aug i o e =>
    simp only [mS] at h
    split at h
    · simp only [Bool.and_eq_true, decide_eq_true_eq] at h
      obtain ⟨⟨h1, h2⟩, h3⟩ := h
      rename_i x px op v ps
      obtain ⟨_, hi, hl, hf⟩ := kT_spec (pos := px) hx h1
      have main : ∀ (f : Int → Int → Int), PIp X op (ipI f) → (∀ loc out, sx G C F (.aug i o e) loc = some out → ∃ x y r l1 l2, loc[i]? = some (.dat (.int x)) ∧ ev G C e loc = some (r, l1) ∧ toVal r = some (.int y) ∧ put l1 i (.dat (.int (f x y))) = some l2 ∧ out = .nx l2) →
          PS X (.AugAssign (.Name x px) op v ps) (tS P (sx G C F (.aug i o e))) := fun f hp hm => by
        refine (ps_aug nd hi hl (SE.E hx h3) hp hf).imp fun D σ H q => ?_
        obtain ⟨L0, loc, out, R, e', k⟩ := q
        obtain ⟨a, b, r, l1, l2, hd, e1, hb, e4, rfl⟩ := hm _ _ e'
        obtain ⟨w, f1, f2⟩ := R.dat i _ hd
        refine ⟨w, f1, L0, loc, r, l1, R, e1, fun y H1 p1 => ?_⟩
        have ry := toVal_rep p1.rep hb
        unfold Rep at f2 ry
        exact ⟨a, b, f2, ry, k _ _ (p1.st.trans (put_dat p1.rel e4 rep_int))⟩
      cases o <;> first | (exfalso; simp [augOf] at h2; done) | skip
      · simp only [augOf, Option.some.injEq] at h2
        subst h2
        refine main _ ip_add fun loc out hh => ?_
        simp only [sx] at hh
        split at hh
        · rename_i d hd
          split at hh
          · rename_i r l1 e1
            split at hh
            · rename_i a b hb
              obtain ⟨l2, e4, rfl⟩ := omap_nx hh
              exact ⟨a, b, r, l1, l2, hd, e1, hb, e4, rfl⟩
            · cases hh
          · cases hh
        · cases hh
      · simp only [augOf, Option.some.injEq] at h2
        subst h2
        refine main _ ip_sub fun loc out hh => ?_
        simp only [sx] at hh
        split at hh
        · rename_i d hd
          split at hh
          · rename_i r l1 e1
            split at hh
            · rename_i a b hb
              obtain ⟨l2, e4, rfl⟩ := omap_nx hh
              exact ⟨a, b, r, l1, l2, hd, e1, hb, e4, rfl⟩
            · cases hh
          · cases hh
        · cases hh
    · cases h
  | ex e =>
    simp only [mS] at h
    split at h
    · simp only [Bool.and_eq_true] at h
      refine (ps_expr (SE.E hx h.2) (comp_ok h.1)).imp fun D σ H q => s_ex (fun loc o e => ?_) q
      simp only [sx] at e
      split at e
      · rename_i r l1 h1
        cases e
        exact ⟨r, l1, h1, rfl⟩
      · cases e
    · cases h
  | ret e =>
    simp only [mS] at h
    split at h
    · refine (ps_ret (SE.E hx h)).imp fun D σ H q => s_ret (fun loc o e => ?_) q
      simp only [sx] at e
      split at e
      · rename_i r l1 h1
        split at e
        · cases e
        · cases e
          exact ⟨r, l1, h1, rfl⟩
      · cases e
    · cases h
  | retN =>
    simp only [mS] at h
    split at h
    · exact ps_retN.imp fun D σ H q => s_retN (fun loc o e => by simp only [sx, Option.some.injEq] at e; exact e.symm) q
    · cases h
  | ite t a b =>
    simp only [mS] at h
    split at h
    · simp only [Bool.and_eq_true] at h
      refine (ps_if (SE.T hx h.1.1) (S.Ss hx h.1.2) (S.Ss hx h.2)).imp fun D σ H q => s_if (fun loc o e => ?_) q
      simp only [sx] at e
      split at e
      · rename_i l1 h1
        exact ⟨true, l1, h1, e⟩
      · rename_i l1 h1
        exact ⟨false, l1, h1, e⟩
      · cases e
    · cases h
  | loop p it b =>
    simp only [mS] at h
    split at h
    · simp only [Bool.and_eq_true] at h
      refine (ps_for (pass_own hx.xe) hx.calm (SE.I hx h.1.2) (kP_spec hx h.1.1.1) (S.Ss hx h.2) (fold_ok h.1.1.2)).imp fun D σ H q => s_loop (fun loc o e => ?_) q
      simp only [sx] at e
      split at e
      · rename_i items l1 h1
        exact ⟨items, l1, h1, e⟩
      · cases e
    · cases h
  | wh t b =>
    simp only [mS] at h
    split at h
    · simp only [Bool.and_eq_true] at h
      exact (ps_while (pass_own hx.xe) (SE.T hx h.1) (S.Ss hx h.2)).imp fun D σ H q => s_while (n := F) (fun loc o e => by simpa only [sx] using e) q
    · cases h
  | put i k e =>
    simp only [mS] at h
    split at h
    · simp only [Bool.and_eq_true] at h
      refine (ps_asg (SE.E hx h.2) (pg_sub (kV_spec hx h.1.1.1) (SE.E hx h.1.2) set_list (asub_ok h.1.1.2.2)) (sole_ok h.1.1.2.1) rfl rfl).imp fun D σ H q => s_put (fun loc o e => ?_) q
      simp only [sx] at e
      split at e
      · rename_i r l1 h1
        split at e
        · rename_i b0 ds0 h0
          split at e
          · rename_i n l2 h2
            split at e
            · rename_i d b ds h3 h4
              split at e
              · rename_i h5
                cases e
                exact ⟨r, l1, n, l2, d, b, ds, b0, ds0, h1, h0, h2, h3, h4, h5.1, h5.2, rfl⟩
              · cases e
            · cases e
          · cases e
        · cases e
      · cases e
    · cases h
  | pass =>
    simp only [mS] at h
    split at h
    · exact ps_pass.imp fun D σ H q => s_nil (fun loc => by simp only [sx]) q
    · cases h
  | brk =>
    simp only [mS] at h
    split at h
    · exact ps_break.imp fun D σ H q => s_bk (fun loc o e => by simp only [sx, Option.some.injEq] at e; exact e.symm) q
    · cases h
  | cont =>
    simp only [mS] at h
    split at h
    · exact ps_continue.imp fun D σ H q => s_ct (fun loc o e => by simp only [sx, Option.some.injEq] at e; exact e.symm) q
    · cases h
  | bad =>
    refine ⟨fun pins s σ H D I h => ?_⟩
    obtain ⟨L0, loc, o, R, e, k⟩ := h
    simp only [sx] at e
    cases e
  | forget is => simp [mS] at h
  | augL i e =>
    simp only [mS] at h
    split at h
    · simp only [Bool.and_eq_true] at h
      rename_i x px v ps
      obtain ⟨_, hi, hl, hf⟩ := kT_spec (pos := px) hx h.1
      refine (ps_aug nd hi hl (SE.E hx h.2) iop_ext hf).imp fun D σ H q => s_augL (fun loc o e => ?_) q
      simp only [sx] at e
      split at e
      · rename_i b0 ds0 h0
        split at e
        · rename_i r l1 h1
          split at e
          · rename_i es b ds h2 h3
            split at e
            · rename_i h4
              cases e
              exact ⟨b0, ds0, r, l1, es, b, ds, h0, h1, h2, h3, h4, rfl⟩
            · cases e
          · cases e
        · cases e
      · cases e
    · cases h
  | par3 i j k a b d =>
    simp only [mS] at h
    split at h
    · rename_i x px y py z pz _ _ u v w _ _ _
      simp only [Bool.and_eq_true, decide_eq_true_eq, Bool.not_eq_true'] at h
      obtain ⟨⟨⟨⟨⟨⟨⟨⟨⟨⟨⟨⟨⟨⟨⟨⟨⟨⟨⟨⟨⟨h1, h2⟩, h3⟩, h4⟩, h5⟩, h6⟩, hx1⟩, hx2⟩, hx3⟩, hl1⟩, hl2⟩, n1⟩, n2⟩, n3⟩, u1⟩, u2⟩, u3⟩, f1⟩, f2⟩, m1⟩, m2⟩, m3⟩ := h
      have ek : X.env.scope.kind = .function := by rw [hx.hsc]; exact hx.kind
      have ex := hx1
      have ey := hx2
      have ez := hx3
      rw [← hx.hsc] at ex ey ez
      refine (ps_par3 hx.calm nd (by rw [hx.hN]; exact h1) (by rw [hx.hN]; exact h2) (by rw [hx.hN]; exact h3) h4 h5 h6 ex ey ez (pa_cons (SE.E hx m1) (pa_cons (SE.E hx m2) (pa_cons (SE.E hx m3) pa_nil (star_ok u3)) (star_ok u2)) (star_ok u1)) (swap3_ok ek ex ey ez hl1 hl2 n1 n2 n3 u1 u2 u3 f1 f2)).imp fun D σ H q => ?_
      obtain ⟨L0, loc, out, R, e, kk⟩ := q
      simp only [sx] at e
      split at e
      · rename_i r l1 e1
        split at e
        · rename_i r' l2 e2
          split at e
          · rename_i r'' l3 e3
            split at e
            · rename_i d1 d2 d3 g1 g2 g3
              split at e
              · rename_i l4 e4
                split at e
                · rename_i l5 e5
                  obtain ⟨l6, e6, rfl⟩ := omap_nx e
                  refine ⟨L0, loc, r, l1, R, e1, fun x H1 p1 => ⟨L0, l1, r', l2, p1.rel, e2, fun y H2 p2 => ⟨L0, l2, r'', l3, p2.rel, e3, fun z H3 p3 => ⟨x, y, z, rfl, ?_⟩⟩⟩⟩
                  have rx : Rep P (Lv L0 l3 σ) H3 d1 x := by
                    have := ((p1.rep.sett).after p2)
                    rw [tval_sett g1] at this
                    exact RepR.after (r' := .val d1) this p3
                  have ry : Rep P (Lv L0 l3 σ) H3 d2 y := by
                    have := (p2.rep.sett).after p3
                    rw [tval_sett g2] at this
                    exact this
                  have q1 := put_dat p3.rel e4 rx
                  have q2 := put_dat q1.rel e5 (Rep.keep q1.kp q1.lv _ _ ry)
                  have q12 := q1.trans q2
                  have q3 := put_dat q2.rel e6 (Rep.keep q12.kp q12.lv _ _ (toVal_rep p3.rep g3))
                  exact kk _ _ ((((p1.trans p2).trans p3).st.trans q12).trans q3)
                · cases e
              · cases e
            · cases e
          · cases e
        · cases e
      · cases e
    · cases h
  | retO i =>
    simp only [mS] at h
    split at h
    · refine (ps_ret (kV_spec hx h)).imp fun D σ H q => s_retO (fun loc o e => ?_) q
      simp only [sx] at e
      split at e
      · rename_i ds h1
        cases e
        exact .inl ⟨ds, h1, rfl⟩
      · rename_i d h1
        cases e
        exact .inr ⟨d, h1, rfl⟩
      · cases e
    · cases h
theorem snds_all : ∀ n, SndS P G C c kk F n
  | 0 => ⟨fun _ h => by simp [mS] at h, fun _ h => by simp [mSs] at h⟩
  | n + 1 => by
    have S := snds_all n
    refine ⟨fun hx h => St_S S hx h, fun {ow sc X ss ms} hx h => ?_⟩
    have go : ∀ {m : MS} {ms : List MS} {s : Stmt} {ss : List Stmt}, mS n c ow sc s m = true → mSs n c ow sc ss ms = true → PSs X (s :: ss) (tS P (sxs G C F (m :: ms))) := fun {m ms s ss} h1 h2 => by
      refine (pss_cons (S.S hx h1) (S.Ss hx h2)).imp fun D σ H q => s_seq (fun loc o e => ?_) q
      simp only [sxs] at e
      split at e
      · rename_i l1 h1
        exact .inl ⟨l1, h1, e⟩
      · rename_i h1
        exact .inr ⟨e, fun l z => h1 l (by rw [e, z])⟩
    simp only [mSs] at h
    split at h
    · split at h
      · exact pss_nil.imp fun D σ H q => s_nil (fun loc => by simp only [sxs]) q
      · cases h
    · refine (S.Ss hx h).imp fun D σ H q => ?_
      obtain ⟨L0, loc, out, R, e, k⟩ := q
      simp only [sxs, sx] at e
      split at e
      · rename_i l1 e1
        split at e1
        · rename_i hf
          cases e1
          have p := forget_all R _ hf
          exact ⟨L0, _, out, p.rel, e, k.step p⟩
        · cases e1
      · rename_i hn
        split at e
        · rename_i hf
          exact (hn _ (if_pos hf)).elim
        · cases e
    · split at h
      · simp only [Bool.and_eq_true] at h
        exact go h.1 h.2
      · cases h
end
end MP

namespace MP
open PySem PySem.Spec PyProof.Rows L2
section
variable {P : RP} {H H' : Hp} {L0 : Addr → Prop} {loc loc' : Loc} {σ σ' : Sg}
theorem pad_get {m i : Nat} {s : Slot} (h : (loc ++ List.replicate m Slot.none)[i]? = some s) : (i < loc.length ∧ loc[i]? = some s) ∨ (loc.length ≤ i ∧ s = .none) := by
  by_cases hl : i < loc.length
  · rw [List.getElem?_append_left hl] at h; exact .inl ⟨hl, h⟩
  · rw [List.getElem?_append_right (by omega)] at h
    rw [List.getElem?_replicate] at h
    split at h
    · cases h; exact .inr ⟨by omega, rfl⟩
    · cases h
theorem pad_own (hl : loc.length = σ.length) {m : Nat} {a : Addr} : OwnAt (loc ++ List.replicate m Slot.none) (σ ++ List.replicate m none) a ↔ OwnAt loc σ a := by
  constructor
  · rintro ⟨i, b, ds, e1, e2⟩
    rcases pad_get e1 with ⟨h, e⟩ | ⟨_, e⟩
    · rw [List.getElem?_append_left (by omega)] at e2
      exact ⟨i, b, ds, e, e2⟩
    · cases e
  · rintro ⟨i, b, ds, e1, e2⟩
    have := lt_of_get e1
    exact ⟨i, b, ds, by rw [List.getElem?_append_left this]; exact e1, by rw [List.getElem?_append_left (by omega)]; exact e2⟩
theorem Rel.pad (R : Rel P L0 loc σ H) (m : Nat) : Rel P L0 (loc ++ List.replicate m Slot.none) (σ ++ List.replicate m none) H := by
  have ow := fun a => @pad_own loc σ R.len m a
  have lv : ∀ b, Lv L0 (loc ++ List.replicate m Slot.none) (σ ++ List.replicate m none) b → Lv L0 loc σ b := fun b z => z.imp id (ow b).mp
  have gl : ∀ {i : Nat}, i < loc.length → (σ ++ List.replicate m none)[i]? = σ[i]? := fun {i} h => List.getElem?_append_left (by have := R.len; omega)
  refine ⟨by simp [R.len], R.l0, fun i d e => ?_, fun i b ds e => ?_, fun i j b c ds es a e1 e2 e3 e4 => ?_, fun i ns e => ?_⟩
  · rcases pad_get e with ⟨h, e⟩ | ⟨_, e⟩
    · obtain ⟨v, e1, r⟩ := R.dat i d e
      exact ⟨v, by rw [gl h]; exact e1, Rep.weak lv r⟩
    · cases e
  · rcases pad_get e with ⟨h, e⟩ | ⟨_, e⟩
    · obtain ⟨a, vs, e1, h1, n1, r⟩ := R.own i b ds e
      exact ⟨a, vs, by rw [gl h]; exact e1, h1, n1, Reps.weak lv r⟩
    · cases e
  · rcases pad_get e1 with ⟨h, e1⟩ | ⟨_, e1⟩
    · rcases pad_get e2 with ⟨h', e2⟩ | ⟨_, e2⟩
      · rw [gl h] at e3
        rw [gl h'] at e4
        exact R.inj _ _ _ _ _ _ _ e1 e2 e3 e4
      · cases e2
    · cases e1
  · rcases pad_get e with ⟨h, e⟩ | ⟨_, e⟩
    · obtain ⟨a, e1, h1⟩ := R.scr i ns e
      exact ⟨a, by rw [gl h]; exact e1, h1.keep (fun _ _ z _ => z) fun b z => .inl (lv b z)⟩
    · cases e
theorem lent_spec : ∀ {a l a' : Loc}, lent a l = some a' → a'.length = a.length ∧ ∀ (i : Nat) (s : Slot), a[i]? = some s →
    (∃ ds ds', s = .own true ds ∧ l[i]? = some (.own true ds') ∧ a'[i]? = some (.own true ds')) ∨ ((∀ b ds, s ≠ .own b ds) ∧ a'[i]? = some s)
  | [], l, a', h => by
    simp only [lent, Option.some.injEq] at h
    subst h
    exact ⟨rfl, fun i s e => by simp at e⟩
  | s0 :: a, l, a', h => by
    have step : ∀ {l0 : Slot} {l1 : Loc} {r : Loc} {s1 : Slot}, lent a l1 = some r → ((∃ ds ds', s0 = .own true ds ∧ l0 = .own true ds' ∧ s1 = .own true ds') ∨ ((∀ b ds, s0 ≠ .own b ds) ∧ s1 = s0)) →
        (s1 :: r).length = (s0 :: a).length ∧ ∀ (i : Nat) (s : Slot), (s0 :: a)[i]? = some s →
          (∃ ds ds', s = .own true ds ∧ (l0 :: l1)[i]? = some (.own true ds') ∧ (s1 :: r)[i]? = some (.own true ds')) ∨ ((∀ b ds, s ≠ .own b ds) ∧ (s1 :: r)[i]? = some s) := fun {l0 l1 r s1} h1 h2 => by
      obtain ⟨e1, e2⟩ := lent_spec h1
      refine ⟨by simp [e1], fun i s e => ?_⟩
      cases i with
      | zero =>
        simp at e; subst e
        rcases h2 with ⟨ds, ds', q1, q2, q3⟩ | ⟨q1, q2⟩
        · exact .inl ⟨ds, ds', q1, by simp [q2], by simp [q3]⟩
        · exact .inr ⟨q1, by simp [q2]⟩
      | succ i =>
        rcases e2 i s (by simpa using e) with ⟨ds, ds', q1, q2, q3⟩ | ⟨q1, q2⟩
        · exact .inl ⟨ds, ds', q1, by simpa using q2, by simpa using q3⟩
        · exact .inr ⟨q1, by simpa using q2⟩
    cases s0 with
    | own b ds =>
      simp only [lent] at h
      split at h
      · split at h
        · rename_i ds' l' _ r h1
          cases h
          exact step h1 (.inl ⟨_, _, rfl, rfl, rfl⟩)
        · cases h
      · cases h
    | none =>
      simp only [lent] at h
      split at h
      · split at h
        · rename_i h1
          cases h
          exact step h1 (.inr ⟨(fun _ _ z => nomatch z), rfl⟩)
        · cases h
      · cases h
    | dat d =>
      simp only [lent] at h
      split at h
      · split at h
        · rename_i h1
          cases h
          exact step h1 (.inr ⟨(fun _ _ z => nomatch z), rfl⟩)
        · cases h
      · cases h
    | scr ns =>
      simp only [lent] at h
      split at h
      · split at h
        · rename_i h1
          cases h
          exact step h1 (.inr ⟨(fun _ _ z => nomatch z), rfl⟩)
        · cases h
      · cases h
    | hid =>
      simp only [lent] at h
      split at h
      · split at h
        · rename_i h1
          cases h
          exact step h1 (.inr ⟨(fun _ _ z => nomatch z), rfl⟩)
        · cases h
      · cases h
/-- a def's end -/
theorem end_post {a l a' : Loc} {r : R} {v : V} {m : Nat} (R : Rel P L0 a σ H) (p : StPost P L0 (a ++ List.replicate m Slot.none) (σ ++ List.replicate m none) H l σ' H') (hl : lent a l = some a') (hr : ∀ i, r ≠ .ref i)
    (rr : RepR P L0 l σ' H' r v) (fr' : ∀ ds c, r = .new ds → v = .ref c → H c = none ∨ OwnF (a ++ List.replicate m Slot.none) (σ ++ List.replicate m none) c) : EvPost P L0 a σ H a' r v H' := by
  obtain ⟨ll, ls⟩ := lent_spec hl
  have ow := fun c => @pad_own a σ R.len m c
  have fr : ∀ ds c, r = .new ds → v = .ref c → H c = none := fun ds c e1 e2 => by
    rcases fr' ds c e1 e2 with z | ⟨i, es, z1, z2⟩
    · exact z
    · rcases pad_get z1 with ⟨_, z1⟩ | ⟨_, z1⟩
      · rcases ls i _ z1 with ⟨ds1, ds', q1, _⟩ | ⟨q1, _⟩
        · cases q1
        · exact absurd rfl (q1 _ _)
      · cases z1
  have keep : ∀ b o, H b = some o → ¬ OwnAt a σ b → H' b = some o := fun b o e n => p.keep b o e fun z => n ((ow b).mp z)
  have kp : ∀ b o, H b = some o → ¬ Lv L0 a σ b → H' b = some o := fun b o e n => keep b o e fun z => n (.inr z)
  -- a lent list's slot
  have sl : ∀ {i : Nat} {ds ds' : List D}, a[i]? = some (.own true ds) → l[i]? = some (.own true ds') → σ'[i]? = σ[i]? := fun {i ds ds'} e e' => by
    have hi := lt_of_get e
    obtain ⟨ds2, e2, e3⟩ := p.pin i ds (by rw [List.getElem?_append_left hi]; exact e)
    rw [e3, List.getElem?_append_left (by have := R.len; omega)]
  have at' : ∀ {i : Nat} {s : Slot}, a'[i]? = some s → (∃ ds ds', a[i]? = some (.own true ds) ∧ l[i]? = some (.own true ds') ∧ s = .own true ds') ∨ ((∀ b ds, s ≠ .own b ds) ∧ a[i]? = some s) := fun {i s} e => by
    have hi : i < a.length := by have := lt_of_get e; omega
    have ea := List.getElem?_eq_getElem hi
    rcases ls i _ ea with ⟨ds, ds', q1, q2, q3⟩ | ⟨q1, q2⟩
    · rw [e] at q3; cases q3
      exact .inl ⟨ds, ds', by rw [ea, q1], q2, rfl⟩
    · rw [e] at q2; cases q2
      exact .inr ⟨q1, ea⟩
  have own1 : ∀ b, OwnAt a' σ b → OwnAt a σ b := fun b ⟨i, b', ds, e1, e2⟩ => by
    rcases at' e1 with ⟨ds1, ds', q1, q2, q3⟩ | ⟨q1, q2⟩
    · exact ⟨i, true, ds1, q1, e2⟩
    · exact absurd rfl (q1 b' ds)
  have own2 : ∀ b, OwnAt a' σ b → OwnAt l σ' b := fun b ⟨i, b', ds, e1, e2⟩ => by
    rcases at' e1 with ⟨ds1, ds', q1, q2, q3⟩ | ⟨q1, q2⟩
    · exact ⟨i, true, ds', q2, by rw [sl q1 q2]; exact e2⟩
    · exact absurd rfl (q1 b' ds)
  have main : ∀ E : Addr → Prop, (∀ c, E c → H c = none ∧ ∃ o, H' c = some o) → Rel P (fun c => L0 c ∨ E c) l σ' H' → Rel P (fun c => L0 c ∨ E c) a' σ H' := fun E hE R' => by
    have lE : ∀ c, Lv (fun c => L0 c ∨ E c) a' σ c → Lv L0 a σ c ∨ H c = none := fun c z => by
      rcases z with (z | z) | z
      · exact .inl (.inl z)
      · exact .inr (hE c z).1
      · exact .inl (.inr (own1 c z))
    have gE : ∀ c, Lv (fun c => L0 c ∨ E c) a' σ c → Lv (fun c => L0 c ∨ E c) l σ' c := fun c z => z.imp id (own2 c)
    refine ⟨by rw [ll]; exact R.len, R'.l0, fun i d e => ?_, fun i b ds e => ?_, fun i j b c ds es w e1 e2 e3 e4 => ?_, fun i ns e => ?_⟩
    · rcases at' e with ⟨ds1, ds', q1, q2, q3⟩ | ⟨q1, q2⟩
      · cases q3
      · obtain ⟨v, e1, r⟩ := R.dat i d q2
        exact ⟨v, e1, Rep.keep kp lE d v r⟩
    · rcases at' e with ⟨ds1, ds', q1, q2, q3⟩ | ⟨q1, q2⟩
      · cases q3
        obtain ⟨c, ws, u1, u2, u3, u4⟩ := R'.own _ _ _ q2
        exact ⟨c, ws, by rw [← sl q1 q2]; exact u1, u2, u3, Reps.weak gE u4⟩
      · exact absurd rfl (q1 b ds)
    · rcases at' e1 with ⟨ds1, ds', q1, q2, q3⟩ | ⟨q1, q2⟩
      · rcases at' e2 with ⟨ds2, ds2', p1, p2, p3⟩ | ⟨p1, p2⟩
        · exact R.inj _ _ _ _ _ _ _ q1 p1 e3 e4
        · exact absurd rfl (p1 _ _)
      · exact absurd rfl (q1 _ _)
    · rcases at' e with ⟨ds1, ds', q1, q2, q3⟩ | ⟨q1, q2⟩
      · cases q3
      · obtain ⟨c, e1, h1⟩ := R.scr i ns q2
        exact ⟨c, e1, h1.keep kp lE⟩
  have fE : ∀ {l1 : Loc} {s1 : Sg} {h1 : Hp}, Rel P (fun c => L0 c ∨ False) l1 s1 h1 ↔ Rel P L0 l1 s1 h1 := fun {l1 s1 h1} => by
    have : (fun c => L0 c ∨ False) = L0 := by funext c; simp
    rw [this]
  have ge : ∀ c, Lv L0 a' σ c → Lv L0 l σ' c := fun c z => z.imp id (own2 c)
  refine ⟨fE.mp (main (fun _ => False) (fun _ z => z.elim) (fE.mpr p.rel)), keep, own1, ?_, p.there, fr, fun i ds e => ?_, fun i s e n => ?_⟩
  · cases r with
    | val d => exact Rep.weak ge rr
    | ref i => exact absurd rfl (hr i)
    | new ds =>
      obtain ⟨c, ws, rfl, q1, q2, q3, q4⟩ := rr
      have hf := fr ds c rfl rfl
      refine ⟨c, ws, rfl, q1, fun z => q2 (ge c z), Reps.weak (fun b z => z.imp (ge b) id) q3, main (fun b => b = c) (fun b z => ?_) q4⟩
      subst z; exact ⟨hf, _, q1⟩
  · rcases ls i _ e with ⟨ds1, ds', q1, q2, q3⟩ | ⟨q1, q2⟩
    · exact ⟨ds', q3⟩
    · exact absurd rfl (q1 _ _)
  · rcases ls i _ e with ⟨ds1, ds', q1, q2, q3⟩ | ⟨q1, q2⟩
    · exact absurd q1 (n _ _)
    · exact q2
end

/-! ### a def that makes an instance -/
section
variable {P : RP} {G : Nat → D} {C : CallS} {F : Nat}
/-- the reading while fields are set: k are -/
def tF (P : RP) (run : List D → Loc → Option (List D)) (c k : Nat) : TS := fun D σ H => ∃ (L0 : Addr → Prop) (loc : Loc) (x dx : Addr) (vs : List V) (acc ds : List MP.D), Rel P L0 loc σ H ∧ loc[0]? = some .hid ∧ σ[0]? = some (some (.ref x)) ∧ L0 x ∧
  H x = some (.ins (P.ca c) dx ((P.fl c).zip vs)) ∧ Reps P (Lv L0 loc σ) H acc vs ∧ acc.length = k ∧ k ≤ (P.fl c).length ∧ run acc loc = some ds ∧
  ∀ σ' H', (∀ b o, H b = some o → b ≠ x → ¬ OwnAt loc σ b → H' b = some o) → Rep P (fun b => L0 b ∧ b ≠ x) H' (.ins c ds) (.ref x) → D.nx σ' H'
variable {X : Cx} {c k : Nat}
theorem not_own {L0 : Addr → Prop} {loc : Loc} {σ : Sg} {H : Hp} {x : Addr} (R : Rel P L0 loc σ H) (hx : L0 x) : ¬ OwnAt loc σ x := fun ⟨i, b, ds, e1, e2⟩ => by
  obtain ⟨a, vs, q1, _, q3, _⟩ := R.own i b ds e1
  rw [e2] at q1; cases q1
  exact q3 hx
theorem ct_end {ss : List Stmt} {post : List MS} (h : PSs X ss (tS P (sxs G C F post))) : PSs X ss (tF P (ctRun.ctRunF G C F c post []) c k) := by
  refine h.imp fun D σ H q => ?_
  obtain ⟨L0, loc, x, dx, vs, acc, ds, R, e0, ex, lx, hx, rr, ha, hk, e, kk⟩ := q
  simp only [ctRun.ctRunF] at e
  split at e
  · rename_i l1 e1
    cases e
    have no := not_own R lx
    have rep : Rep P (fun b => Lv L0 loc σ b ∧ b ≠ x) H (.ins c acc) (.ref x) := by
      unfold Rep
      exact ⟨x, dx, vs, rfl, hx, fun z => z.2 rfl, by rw [← rr.length, ha]; exact hk, Reps.weak (fun b z => z.1) rr⟩
    have R' := Rel.made R e0 ex rep no
    refine ⟨_, _, _, R', e1, fun σ' H' p => kk σ' H' (fun b o hb ne nb => ?_) ?_⟩
    · refine p.keep b o hb fun z => nb ?_
      obtain ⟨j, b', es, f1, f2⟩ := z
      rcases getset f1 with ⟨_, f3, _⟩ | ⟨_, f1⟩
      · cases f3
      · exact ⟨j, b', es, f1, f2⟩
    · obtain ⟨v, g1, g2⟩ := R'.dat 0 (.ins c acc) (List.getElem?_set_self (lt_of_get e0))
      rw [ex] at g1; cases g1
      exact Rep.weak (fun b z => .inl z) (Rep.keep p.kp p.lv _ _ g2)
  · cases e
theorem ct_fld {self f : Str} {p1 p2 pos : Pos} {v : Expr} {e : ME} {es : List ME} {ss : List Stmt} {post : List MS} (hs : PE X (.Name self p1) (tVar 0)) (hv : PE X v (tE P (ev G C e))) (hn : (P.fl c).Nodup) (hf : (P.fl c)[k]? = some f) (hl : (P.fl c).length < 1000)
    (hc : Cls X.K (P.ca c)) (ha : NoAttr X.K (P.ca c) f) (h : PSs X ss (tF P (ctRun.ctRunF G C F c post es) c (k + 1))) :
    PSs X (.Assign [.Attribute (.Name self p1) f p2] v pos :: ss) (tF P (ctRun.ctRunF G C F c post (e :: es)) c k) := by
  refine (pss_cons (ps_fld hs hv (by cases v <;> rfl)) h).imp fun D σ H q => ?_
  obtain ⟨L0, loc, x, dx, vs, acc, ds, R, e0, ex, lx, hx, rr, hac, hk, e1, kk⟩ := q
  simp only [ctRun.ctRunF] at e1
  split at e1
  · rename_i r l1 e2
    split at e1
    · rename_i d e3
      refine ⟨L0, loc, r, l1, R, e2, fun y H1 p1 => ?_⟩
      have no := not_own R lx
      have hx1 : H1 x = some (.ins (P.ca c) dx ((P.fl c).zip vs)) := p1.keep x _ hx no
      have ry := toVal_rep p1.rep e3
      have hkl := lt_of_get hf
      have hvl : vs.length = k := by rw [← rr.length, hac]
      refine ⟨_, ex, x, P.ca c, dx, _, rfl, hx1, hc, ha, ?_, ?_⟩
      · rw [List.length_zip]; omega
      · rw [putF_zip hn (by rw [hvl]; exact hf)]
        have kp : ∀ b q, H1 b = some q → ¬ Lv L0 l1 σ b → (upd H1 x (.ins (P.ca c) dx ((P.fl c).zip (vs ++ [y])))) b = some q := fun b q e n => by
          rw [upd_ne (fun z => n (by rw [z]; exact .inl lx))]; exact e
        refine ⟨L0, l1, x, dx, vs ++ [y], acc ++ [d], ds, p1.rel.touch lx, p1.fix 0 _ e0 (fun _ _ z => nomatch z), ex, lx, upd_same, ?_, by simp [hac], by omega, e1, fun σ' H' hkeep hrep => kk σ' H' (fun b o hb ne nb => ?_) hrep⟩
        · refine Reps.keep kp (fun b z => .inl z) _ _ ((Reps.keep p1.kp p1.lv _ _ rr).append (Reps.cons ry Reps.nil))
        · refine hkeep b o ?_ ne fun z => nb (p1.own b z)
          rw [upd_ne ne]
          exact p1.keep b o hb nb
    · cases e1
  · cases e1
theorem ct_pre {s : Stmt} {ss : List Stmt} {m : MS} {pre post : List MS} {es : List ME} (hs : PS X s (tS P (sx G C F m))) (h : PSs X ss (tF P (ctRun G C F c post pre es) c 0)) : PSs X (s :: ss) (tF P (ctRun G C F c post (m :: pre) es) c 0) := by
  refine (pss_cons hs h).imp fun D σ H q => ?_
  obtain ⟨L0, loc, x, dx, vs, acc, ds, R, e0, ex, lx, hx, rr, hac, hk, e1, kk⟩ := q
  simp only [ctRun] at e1
  split at e1
  · rename_i l1 e2
    refine ⟨L0, loc, _, R, e2, fun σ1 H1 p1 => ?_⟩
    have no := not_own R lx
    obtain ⟨h1, h2⟩ := p1.hid 0 e0
    refine ⟨L0, l1, x, dx, vs, acc, ds, p1.rel, h1, h2.trans ex, lx, p1.keep x _ hx no, Reps.keep p1.kp p1.lv _ _ rr, hac, hk, e1, fun σ' H' hkeep hrep => kk σ' H' (fun b o hb ne nb => ?_) hrep⟩
    refine hkeep b o (p1.keep b o hb nb) ne fun z => ?_
    rcases p1.own b z with z | z
    · exact nb z
    · rw [hb] at z; cases z
  · cases e1
/-- the look at such a def's body -/
def kCtF (n : Nat) (c : CK) (sc : Scope) (fl : List Str) (post : List MS) : List ME → Nat → List Stmt → Bool
  | [], _, ss => mSs n c (fun _ => true) sc ss post
  | e :: fs, k, ss => match ss with
    | .Assign [.Attribute (.Name x _) f _] v _ :: ss => kV c sc x 0 && decide (fl[k]? = some f) && mE n c (fun _ => true) sc v e && kCtF n c sc fl post fs (k + 1) ss
    | _ => false
def kCt (n : Nat) (c : CK) (sc : Scope) (fl : List Str) (post : List MS) (fs : List ME) : List MS → List Stmt → Bool
  | [], ss => kCtF n c sc fl post fs 0 ss
  | m :: pre, ss => match ss with
    | s :: ss => mS n c (fun _ => true) sc s m && kCt n c sc fl post fs pre ss
    | [] => false
theorem kCt_run {ck : CK} {sc : Scope} {kk n : Nat} {fl : List Str} {post : List MS} (hx : Ctx P G C ck (fun _ => true) sc kk X) (hfl : P.fl c = fl) (hn : fl.Nodup) (hl : fl.length < 1000) (hc : Cls X.K (P.ca c)) (ha : ∀ f ∈ fl, NoAttr X.K (P.ca c) f) :
    ∀ (fs : List ME) (k : Nat) (ss : List Stmt), kCtF n ck sc fl post fs k ss = true → PSs X ss (tF P (ctRun.ctRunF G C F c post fs) c k)
  | [], k, ss, h => by
    simp only [kCtF] at h
    exact ct_end ((snds_all (F := F) n).Ss hx h)
  | e :: fs, k, ss, h => by
    simp only [kCtF] at h
    split at h
    · rename_i x p1 f p2 v pos ss'
      simp only [Bool.and_eq_true, decide_eq_true_eq] at h
      obtain ⟨⟨⟨h1, h2⟩, h3⟩, h4⟩ := h
      subst hfl
      exact ct_fld (kV_spec hx h1) ((snd_all n).E hx h3) hn h2 hl hc (ha _ (List.mem_of_getElem? h2)) (kCt_run hx rfl hn hl hc ha fs (k + 1) ss' h4)
    · cases h
theorem kCt_go {fs : List ME} {ck : CK} {sc : Scope} {kk n : Nat} {fl : List Str} {post : List MS} (hx : Ctx P G C ck (fun _ => true) sc kk X) (hfl : P.fl c = fl) (hn : fl.Nodup) (hl : fl.length < 1000) (hc : Cls X.K (P.ca c)) (ha : ∀ f ∈ fl, NoAttr X.K (P.ca c) f) :
    ∀ (pre : List MS) (ss : List Stmt), kCt n ck sc fl post fs pre ss = true → PSs X ss (tF P (ctRun G C F c post pre fs) c 0)
  | [], ss, h => by
    simp only [kCt] at h
    have e : ctRun G C F c post [] fs = ctRun.ctRunF G C F c post fs := by funext acc loc; rw [ctRun]
    rw [e]
    exact kCt_run hx hfl hn hl hc ha fs 0 ss h
  | m :: pre, ss, h => by
    simp only [kCt] at h
    split at h
    · simp only [Bool.and_eq_true] at h
      exact ct_pre ((snds_all (F := F) n).S hx h.1) (kCt_go hx hfl hn hl hc ha pre _ h.2)
    · cases h
end

/-! ### a table of defs -/
structure Ent where
  key : Str × Option Str
  name : Str
  qual : Str
  st : Stmt
  N : List Str
  ps : List Str
  d : FD
/-- what is the same for all defs -/
structure Tab where
  bl : List Str
  gl : List (Str × Nat)
  fn : List (Str × Nat)
  kw : List KwSh
  fl : List (List Str) := []
  mt : List (Nat × Str × Nat) := []
  ct : List (Str × Nat × Nat) := []
def Tab.ck (t : Tab) (N : List Str) : CK := ⟨N, t.bl, t.gl, t.fn, t.kw, t.fl, t.mt, t.ct⟩
/-- the look at an entry -/
def Ent.ok (n : Nat) (t : Tab) (e : Ent) : Bool :=
  (match e.d.ct with
    | none => mSs n (t.ck e.N) (fun _ => true) (defScope e.st) (defBody e.st) e.d.body
    | some ct => match t.fl[ct.c]? with
      | some fl => decide (fl.length < 1000) && kCt n (t.ck e.N) (defScope e.st) fl ct.post ct.fs e.d.body (defBody e.st)
      | none => false) && decide (e.d.arity = e.ps.length) && decide (e.d.slots = e.N.length)
section
variable {Pr : Program} {w : World} {K : PySem.W.Frag} {mg : Str → Option Value} {base : Heap} {P : RP} {G : Nat → D}
/-- what is known of the defs at a level -/
structure TabOk (Pr : Program) (w : World) (K : PySem.W.Frag) (mg : Str → Option Value) (base : Heap) (P : RP) (G : Nat → D) (t : Tab) (C : CallS) (kk : Nat) : Prop where
  hK : P.K = K
  bl : ∀ x ∈ t.bl, mg x = none
  gl : ∀ p ∈ t.gl, ∃ u v, mg p.1 = some u ∧ RelV v u ∧ ∀ L H, Rep P L H (G p.2) v
  fn : ∀ p ∈ t.fn, ∃ f fd ps, GFn Pr w K mg base CX0 kk f fd ps (spOf P (C p.2) ps.length) ∧ mg p.1 = some (.ref f) ∧ PySem.W.keepIn K (.ref f) = true ∧ Binds K fd ps [] ∧ ∀ a r a', C p.2 a = some (r, a') → a.length = ps.length
  kw : ∀ q ∈ t.kw, ∃ f fd ps g gV, GFn Pr w K mg base CX0 kk f fd ps (spOf P (C q.f) ps.length) ∧ mg q.x = some (.ref f) ∧ PySem.W.keepIn K (.ref f) = true ∧ KBinds K fd ps q.ks g gV ∧
    (∀ vs zs : List V, vs.length = q.np → zs.length = q.ks.length → gV vs zs = permV q.perm (vs ++ zs)) ∧ ∀ a r a', C q.f a = some (r, a') → a.length = ps.length
  hC : ∀ j a r a', C j a = some (r, a') → ∀ i, r ≠ .ref i
  cl : ∀ (k : Nat) (fs : List Str), t.fl[k]? = some fs → P.fl k = fs ∧ fs.Nodup ∧ Cls K (P.ca k) ∧ ∀ f ∈ fs, NoAttr K (P.ca k) f
  mt : ∀ q ∈ t.mt, ∃ (k : Nat) (fA : Addr) (fd : FuncData) (ps : List Str), k ≤ kk ∧ Meth K (P.ca q.1) q.2.1 fA ∧ GFn Pr w K mg base CX0 k fA fd ps (spOf P (C q.2.2) ps.length) ∧ Binds K fd ps [] ∧ ∀ a r a', C q.2.2 a = some (r, a') → a.length = ps.length
  ct : ∀ q ∈ t.ct, mg q.1 = some (.ref (P.ca q.2.1)) ∧ ((∀ a, C q.2.2 a = none) ∨ ∃ (k : Nat) (fI : Addr) (fd : FuncData) (ps : List Str), k + 1 ≤ kk ∧ Mk K (P.ca q.2.1) fI ∧ GFn Pr w K mg base CX0 k fI fd ps (spI P (C q.2.2) q.2.1 (ps.length - 1)) ∧ Binds K fd ps [] ∧
    ∀ a r a', C q.2.2 a = some (r, a') → a.length = ps.length - 1)
theorem TabOk.ctx {t : Tab} {C : CallS} {kk : Nat} (T : TabOk Pr w K mg base P G t C kk) {N : List Str} {qual : Str} {scope : Scope} {ps : List Str} {f : Addr} {cdv : Value} {A : Around} {outer : List Env} {s : Shared} {H : Hp} {E : XK} (Sc : FnScope N ps scope)
    (hr : Room kk (A.deeper (envOfC qual scope s.heap.objs.size f cdv))) (hgd : (A.deeper (envOfC qual scope s.heap.objs.size f cdv)).guards = some []) : Ctx P G C (t.ck N) (fun _ => true) scope kk (cxOf CX0 Pr w K mg base N qual scope f cdv A outer s H E).nox :=
  ⟨rfl, Sc.nd, rfl, Sc.kind, T.hK, rfl, rfl, hr, hgd, T.bl, T.gl, T.fn, T.kw, T.hC, fun _ _ => rfl, T.cl, T.mt, T.ct⟩
theorem fn_ok {t : Tab} {C : CallS} {kk n F : Nat} {e : Ent} {dvs : List V} {kws : List (Str × V)} {f : Addr} {fd : FuncData} (T : TabOk Pr w K mg base P G t C kk) (Fn : FunD K e.name e.qual (defArgs e.st) (defBody e.st) (defScope e.st) dvs kws f fd) (Sc : FnScope e.N e.ps (defScope e.st)) (h : e.ok n t = true) (hct : e.d.ct = none) :
    GFn Pr w K mg base CX0 (kk + 1) f fd e.ps (spOf P (runFD G C F e.d) e.ps.length) := by
  unfold Ent.ok at h
  rw [hct] at h
  simp only [Bool.and_eq_true, decide_eq_true_eq] at h
  obtain ⟨⟨h1, h2⟩, h3⟩ := h
  refine GFn.of Fn Sc (fun vs H Q E q => q.1) (fun cdv A outer s H vs Q E hr hgd q => ?_)
  have hx : Ctx P G C (t.ck e.N) (fun _ => true) (defScope e.st) kk (cxOf CX0 Pr w K mg base e.N e.qual (defScope e.st) f cdv A outer s H E).nox := T.ctx Sc hr hgd
  refine ⟨_, PSs.nox ((snds_all (F := F) n).Ss hx h1), ?_⟩
  obtain ⟨hl, L0, a, r, a', R, eg, hr', k⟩ := q
  unfold runFD at eg
  have la : a.length = e.d.arity := by have := R.len; rw [List.length_map] at this; omega
  rw [if_pos la] at eg
  have hs : L2.start e.N vs = vs.map some ++ List.replicate (e.d.slots - e.d.arity) none := by
    unfold L2.start
    rw [h3, h2, hl]
  rw [hs]
  have Rp := R.pad (e.d.slots - e.d.arity)
  split at eg
  · rename_i r0 l e1
    split at eg
    · rename_i a0 e2
      cases eg
      exact ⟨L0, _, _, Rp, e1, hr', fun v σ' H' p rr fr => k v H' (end_post R p e2 hr' rr fr)⟩
    · cases eg
  · rename_i l e1
    split at eg
    · rename_i a0 e2
      cases eg
      exact ⟨L0, _, _, Rp, e1, fun σ' H' p => k .non H' (end_post R p e2 hr' repR_non (fun _ _ z => nomatch z))⟩
    · cases eg
  · cases eg
theorem ct_ok {t : Tab} {C : CallS} {kk n F : Nat} {e : Ent} {ct : CT} {dvs : List V} {kws : List (Str × V)} {f : Addr} {fd : FuncData} (T : TabOk Pr w K mg base P G t C kk) (Fn : FunD K e.name e.qual (defArgs e.st) (defBody e.st) (defScope e.st) dvs kws f fd) (Sc : FnScope e.N e.ps (defScope e.st)) (h : e.ok n t = true) (hct : e.d.ct = some ct) :
    GFn Pr w K mg base CX0 (kk + 1) f fd e.ps (spI P (runCT G C F e.d ct) ct.c (e.ps.length - 1)) := by
  unfold Ent.ok at h
  rw [hct] at h
  simp only [Bool.and_eq_true, decide_eq_true_eq] at h
  obtain ⟨⟨h1, h2⟩, h3⟩ := h
  have hpos : ∀ {vs H Q E}, spI P (runCT G C F e.d ct) ct.c (e.ps.length - 1) vs H Q E → vs.length = e.ps.length := fun {vs H Q E} q => by
    obtain ⟨hl, x, dx, ws, L0, a, ds, a', rfl, hx, lx, R, eg, k⟩ := q
    unfold runCT at eg
    split at eg
    · rename_i ha
      omega
    · cases eg
  split at h1
  · rename_i fl hfl
    simp only [Bool.and_eq_true, decide_eq_true_eq] at h1
    obtain ⟨q1, q2, q3, q4⟩ := T.cl _ _ hfl
    refine GFn.of Fn Sc (fun vs H Q E q => hpos q) (fun cdv A outer s H vs Q E hr hgd q => ?_)
    have hx : Ctx P G C (t.ck e.N) (fun _ => true) (defScope e.st) kk (cxOf CX0 Pr w K mg base e.N e.qual (defScope e.st) f cdv A outer s H E).nox := T.ctx Sc hr hgd
    refine ⟨_, PSs.nox (kCt_go (F := F) hx q1 q2 h1.1 q3 q4 e.d.body _ h1.2), ?_⟩
    have hl' := hpos q
    obtain ⟨hl, x, dx, ws, L0, a, ds, a', rfl, hxx, lx, R, eg, k⟩ := q
    unfold runCT at eg
    split at eg
    · rename_i ha
      split at eg
      · rename_i hd
        split at eg
        · rename_i ds' e1
          cases eg
          have hs : L2.start e.N (.ref x :: ws) = some (.ref x) :: (ws.map some ++ List.replicate (e.d.slots - e.d.arity) none) := by
            unfold L2.start
            rw [h3, h2, ← hl', List.map_cons, List.cons_append]
          rw [hs]
          have Rp := R.pad (e.d.slots - e.d.arity)
          have no : ∀ b, ¬ OwnAt (Slot.hid :: (a ++ List.replicate (e.d.slots - e.d.arity) Slot.none)) (some (.ref x) :: (ws.map some ++ List.replicate (e.d.slots - e.d.arity) none)) b := fun b ⟨i, b', es, f1, f2⟩ => by
            cases i with
            | zero => simp at f1
            | succ i =>
              rw [List.getElem?_cons_succ] at f1
              rcases pad_get f1 with ⟨_, f1⟩ | ⟨_, f1⟩
              · exact allDat_own hd ⟨i, b', es, f1, (by rw [List.getElem?_cons_succ] at f2; rw [List.getElem?_append_left (by have := R.len; have := lt_of_get f1; omega)] at f2; exact f2)⟩
              · cases f1
          have lvE : ∀ b, Lv L0 (Slot.hid :: (a ++ List.replicate (e.d.slots - e.d.arity) Slot.none)) (some (.ref x) :: (ws.map some ++ List.replicate (e.d.slots - e.d.arity) none)) b → Lv L0 (a ++ List.replicate (e.d.slots - e.d.arity) Slot.none) (ws.map some ++ List.replicate (e.d.slots - e.d.arity) none) b := fun b z => z.elim .inl fun z => absurd z (no b)
          have R2 : Rel P L0 (Slot.hid :: (a ++ List.replicate (e.d.slots - e.d.arity) Slot.none)) (some (.ref x) :: (ws.map some ++ List.replicate (e.d.slots - e.d.arity) none)) H := by
            refine ⟨by rw [List.length_cons, List.length_cons, Rp.len], Rp.l0, fun j d e' => ?_, fun j b es e' => ?_, fun j l b c es fs w f1 f2 f3 f4 => ?_, fun j ns e' => ?_⟩
            · cases j with
              | zero => simp at e'
              | succ j =>
                obtain ⟨v, g1, g2⟩ := Rp.dat j d (by simpa using e')
                exact ⟨v, by simpa using g1, Rep.weak lvE g2⟩
            · cases j with
              | zero => simp at e'
              | succ j =>
                have f1 : (a ++ List.replicate (e.d.slots - e.d.arity) Slot.none)[j]? = some (.own b es) := by simpa using e'
                rcases pad_get f1 with ⟨_, f1⟩ | ⟨_, f1⟩
                · have := List.all_eq_true.mp hd _ (List.mem_of_getElem? f1)
                  cases this
                · cases f1
            · exact absurd ⟨j, b, es, f1, f3⟩ (no w)
            · cases j with
              | zero => simp at e'
              | succ j =>
                have f1 : (a ++ List.replicate (e.d.slots - e.d.arity) Slot.none)[j]? = some (.scr ns) := by simpa using e'
                rcases pad_get f1 with ⟨_, f1⟩ | ⟨_, f1⟩
                · have := List.all_eq_true.mp hd _ (List.mem_of_getElem? f1)
                  cases this
                · cases f1
          refine ⟨L0, _, x, dx, [], [], ds, R2, rfl, rfl, lx, ?_, Reps.nil, rfl, Nat.zero_le _, e1, fun σ' H' kp rep => k H' (fun b o hb ne => kp b o hb ne (no b)) rep⟩
          rw [hxx]
          cases P.fl ct.c <;> rfl
        · cases eg
      · cases eg
    · cases eg
  · cases h1
/-! the whole table -/
theorem callN_ref {T : List FD} {F : Nat} : ∀ (n j : Nat) (a : Loc) (r : R) (a' : Loc), (∀ (d : FD) (l : Loc) (out : Out) (C : CallS), True) → callN G T F n j a = some (r, a') → True := fun _ _ _ _ _ _ _ => trivial
theorem runFD_ar {C : CallS} {F : Nat} {d : FD} {a : Loc} {r : R} {a' : Loc} (h : runFD G C F d a = some (r, a')) : a.length = d.arity := by
  unfold runFD at h
  split at h
  · assumption
  · cases h
def noRef : Out → Prop
  | .rt (.ref _) _ => False
  | _ => True
theorem nr_for {p : Pat} {body : Loc → Option Out} (hb : ∀ l o, body l = some o → noRef o) : ∀ (ds : List D) (l : Loc) (o : Out), forRun p body ds l = some o → noRef o
  | [], l, o, h => by simp only [forRun, Option.some.injEq] at h; subst h; trivial
  | d :: ds, l, o, h => by
    simp only [forRun] at h
    split at h
    · cases h
    · split at h
      · exact nr_for hb ds _ _ h
      · exact nr_for hb ds _ _ h
      · cases h; trivial
      · rename_i e1
        cases h
        exact hb _ _ e1
      · cases h
theorem nr_wh {c : Loc → Option (Bool × Loc)} {body : Loc → Option Out} (hb : ∀ l o, body l = some o → noRef o) : ∀ (n : Nat) (l : Loc) (o : Out), whRun c body n l = some o → noRef o
  | 0, l, o, h => by simp only [whRun] at h; cases h
  | n + 1, l, o, h => by
    simp only [whRun] at h
    split at h
    · split at h
      · exact nr_wh hb n _ _ h
      · exact nr_wh hb n _ _ h
      · cases h; trivial
      · rename_i e1
        cases h
        exact hb _ _ e1
      · cases h
    · cases h; trivial
    · cases h
mutual
theorem nr_sx {C : CallS} {F : Nat} : ∀ (m : MS) (l : Loc) (o : Out), sx G C F m l = some o → noRef o
  | .set p e, l, o, h => by
    simp only [sx] at h
    split at h
    · split at h
      · obtain ⟨l', _, rfl⟩ := omap_nx h; trivial
      · cases h
    · cases h
  | .own i e, l, o, h => by
    simp only [sx] at h
    split at h
    · obtain ⟨l', _, rfl⟩ := omap_nx h; trivial
    · cases h
  | .par i j a b, l, o, h => by
    simp only [sx] at h
    split at h
    · split at h
      · split at h
        · split at h
          · obtain ⟨l', _, rfl⟩ := omap_nx h; trivial
          · cases h
        · cases h
      · cases h
    · cases h
  | .aug i op e, l, o, h => by
    simp only [sx] at h
    split at h
    · split at h
      · split at h
        · split at h
          · obtain ⟨l', _, rfl⟩ := omap_nx h; trivial
          · obtain ⟨l', _, rfl⟩ := omap_nx h; trivial
          · cases h
        · cases h
      · cases h
    · cases h
  | .ex e, l, o, h => by
    simp only [sx] at h
    split at h
    · cases h; trivial
    · cases h
  | .ret e, l, o, h => by
    simp only [sx] at h
    split at h
    · split at h
      · cases h
      · rename_i hn
        simp only [Option.some.injEq] at h
        subst h
        unfold noRef
        split
        · rename_i i l' heq
          cases heq
          exact absurd rfl (hn i)
        · trivial
    · cases h
  | .retN, l, o, h => by simp only [sx, Option.some.injEq] at h; subst h; trivial
  | .ite c t f, l, o, h => by
    simp only [sx] at h
    split at h
    · exact nr_sxs t _ _ h
    · exact nr_sxs f _ _ h
    · cases h
  | .loop p it b, l, o, h => by
    simp only [sx] at h
    split at h
    · exact nr_for (fun l o e => nr_sxs b l o e) _ _ _ h
    · cases h
  | .wh c b, l, o, h => by
    simp only [sx] at h
    exact nr_wh (fun l o e => nr_sxs b l o e) _ _ _ h
  | .put i k e, l, o, h => by
    simp only [sx] at h
    split at h
    · split at h
      · split at h
        · split at h
          · split at h
            · cases h; trivial
            · cases h
          · cases h
        · cases h
      · cases h
    · cases h
  | .pass, l, o, h => by simp only [sx, Option.some.injEq] at h; subst h; trivial
  | .brk, l, o, h => by simp only [sx, Option.some.injEq] at h; subst h; trivial
  | .cont, l, o, h => by simp only [sx, Option.some.injEq] at h; subst h; trivial
  | .bad, l, o, h => by simp only [sx] at h; cases h
  | .retO i, l, o, h => by
    simp only [sx] at h
    split at h
    · cases h; trivial
    · cases h; trivial
    · cases h
  | .forget is, l, o, h => by
    simp only [sx] at h
    split at h
    · cases h; trivial
    · cases h
  | .par3 i j k a b c, l, o, h => by
    simp only [sx] at h
    split at h
    · split at h
      · split at h
        · split at h
          · split at h
            · split at h
              · obtain ⟨l', _, rfl⟩ := omap_nx h; trivial
              · cases h
            · cases h
          · cases h
        · cases h
      · cases h
    · cases h
  | .augL i e, l, o, h => by
    simp only [sx] at h
    split at h
    · split at h
      · split at h
        · split at h
          · cases h; trivial
          · cases h
        · cases h
      · cases h
    · cases h
theorem nr_sxs {C : CallS} {F : Nat} : ∀ (ms : List MS) (l : Loc) (o : Out), sxs G C F ms l = some o → noRef o
  | [], l, o, h => by simp only [sxs, Option.some.injEq] at h; subst h; trivial
  | m :: ms, l, o, h => by
    simp only [sxs] at h
    split at h
    · exact nr_sxs ms _ _ h
    · exact nr_sx m _ _ h
end
theorem runFD_nr {C : CallS} {F : Nat} {d : FD} {a : Loc} {r : R} {a' : Loc} (h : runFD G C F d a = some (r, a')) : ∀ i, r ≠ .ref i := by
  unfold runFD at h
  split at h
  · split at h
    · rename_i r0 l e1
      split at h
      · cases h
        have := nr_sxs _ _ _ e1
        intro i e
        subst e
        exact this
      · cases h
    · split at h
      · cases h; intro i e; cases e
      · cases h
    · cases h
  · cases h
theorem runCT_nr {C : CallS} {F : Nat} {d : FD} {ct : CT} {a : Loc} {r : R} {a' : Loc} (h : runCT G C F d ct a = some (r, a')) : ∀ i, r ≠ .ref i := by
  unfold runCT at h
  split at h
  · split at h
    · split at h
      · cases h; intro i e; cases e
      · cases h
    · cases h
  · cases h
theorem runCT_ar {C : CallS} {F : Nat} {d : FD} {ct : CT} {a : Loc} {r : R} {a' : Loc} (h : runCT G C F d ct a = some (r, a')) : a.length + 1 = d.arity := by
  unfold runCT at h
  split at h
  · assumption
  · cases h
theorem callN_nr {T : List FD} {F : Nat} : ∀ (n j : Nat) (a : Loc) (r : R) (a' : Loc), callN G T F n j a = some (r, a') → ∀ i, r ≠ .ref i
  | 0, j, a, r, a', h => by simp only [callN] at h; cases h
  | n + 1, j, a, r, a', h => by
    simp only [callN] at h
    split at h
    · split at h
      · exact runFD_nr h
      · split at h
        · cases h
        · exact runCT_nr h
    · cases h
theorem callN_eq {T : List FD} {F : Nat} {d : FD} {j : Nat} (hd : T[j]? = some d) (hc : d.ct = none) (n : Nat) : callN G T F (n + 1) j = runFD G (callN G T F n) F d := by
  funext a
  simp only [callN]
  rw [hd]
  simp only [hc]
theorem callN_eqC {T : List FD} {F : Nat} {d : FD} {ct : CT} {j : Nat} (hd : T[j]? = some d) (hc : d.ct = some ct) (n : Nat) : callN G T F (n + 2) j = runCT G (callN G T F n) F d ct := by
  funext a
  simp only [callN]
  rw [hd]
  simp only [hc]
theorem callN_noC {T : List FD} {F : Nat} {d : FD} {ct : CT} {j : Nat} (hd : T[j]? = some d) (hc : d.ct = some ct) (a : Loc) : ∀ n, n ≤ 1 → callN G T F n j a = none
  | 0, _ => by simp only [callN]
  | 1, _ => by
    simp only [callN]
    rw [hd]
    simp only [hc]
  | n + 2, h => absurd h (by omega)
theorem callN_ar {T : List FD} {F : Nat} {d : FD} {j : Nat} (hd : T[j]? = some d) (hc : d.ct = none) : ∀ (n : Nat) (a : Loc) (r : R) (a' : Loc), callN G T F n j a = some (r, a') → a.length = d.arity
  | 0, a, r, a', h => by simp only [callN] at h; cases h
  | n + 1, a, r, a', h => by
    rw [callN_eq hd hc] at h
    exact runFD_ar h
/-- how a def is called with keywords, at its place in the table -/
structure KwOk (K : PySem.W.Frag) (fd : FuncData) (ps : List Str) (q : KwSh) : Prop where
  ex : ∃ g gV, KBinds K fd ps q.ks g gV ∧ ∀ vs zs : List V, vs.length = q.np → zs.length = q.ks.length → gV vs zs = permV q.perm (vs ++ zs)
/-- a def is called by places -/
def Pos_ (t : Tab) (j : Nat) : Prop := (∃ p ∈ t.fn, p.2 = j) ∨ (∃ q ∈ t.mt, q.2.2 = j) ∨ ∃ q ∈ t.ct, q.2.2 = j
/-- the facts of a table; ad: where the defs stand -/
structure Facts (K : PySem.W.Frag) (mg : Str → Option Value) (P : RP) (G : Nat → D) (t : Tab) (es : List Ent) (ad : Nat → Addr) : Prop where
  hK : P.K = K
  bl : ∀ x ∈ t.bl, mg x = none
  gl : ∀ p ∈ t.gl, ∃ u v, mg p.1 = some u ∧ RelV v u ∧ ∀ L H, Rep P L H (G p.2) v
  at_ : ∀ (j : Nat) (e : Ent), es[j]? = some e → ∃ dvs kws fd, FunD K e.name e.qual (defArgs e.st) (defBody e.st) (defScope e.st) dvs kws (ad j) fd ∧ FnScope e.N e.ps (defScope e.st) ∧ (Pos_ t j → Binds K fd e.ps []) ∧ ∀ q ∈ t.kw, q.f = j → KwOk K fd e.ps q
  fn : ∀ p ∈ t.fn, ∃ e, es[p.2]? = some e ∧ e.d.ct = none ∧ mg p.1 = some (.ref (ad p.2))
  kw : ∀ q ∈ t.kw, ∃ e, es[q.f]? = some e ∧ e.d.ct = none ∧ mg q.x = some (.ref (ad q.f))
  cl : ∀ (k : Nat) (fs : List Str), t.fl[k]? = some fs → P.fl k = fs ∧ fs.Nodup ∧ Cls K (P.ca k) ∧ ∀ f ∈ fs, NoAttr K (P.ca k) f
  mt : ∀ q ∈ t.mt, ∃ e, es[q.2.2]? = some e ∧ e.d.ct = none ∧ Meth K (P.ca q.1) q.2.1 (ad q.2.2)
  ct : ∀ q ∈ t.ct, mg q.1 = some (.ref (P.ca q.2.1)) ∧ ∃ e ct, es[q.2.2]? = some e ∧ e.d.ct = some ct ∧ ct.c = q.2.1 ∧ Mk K (P.ca q.2.1) (ad q.2.2)
theorem tab_ok {t : Tab} {es : List Ent} {ad : Nat → Addr} {n F : Nat} (X : Facts K mg P G t es ad) (hok : es.all (·.ok n t) = true) : ∀ kk, TabOk Pr w K mg base P G t (callN G (es.map (·.d)) F kk) kk ∧
    ∀ (j : Nat) (e : Ent) (dvs : List V) (kws : List (Str × V)) (f : Addr) (fd : FuncData), es[j]? = some e → e.d.ct = none → FunD K e.name e.qual (defArgs e.st) (defBody e.st) (defScope e.st) dvs kws f fd → FnScope e.N e.ps (defScope e.st) → GFn Pr w K mg base CX0 kk f fd e.ps (spOf P (callN G (es.map (·.d)) F kk j) e.ps.length) := by
  have eok : ∀ {j : Nat} {e : Ent}, es[j]? = some e → e.ok n t = true := fun {j e} h => by
    rw [List.all_eq_true] at hok
    exact hok e (List.mem_of_getElem? h)
  have ear : ∀ {j : Nat} {e : Ent}, es[j]? = some e → e.d.arity = e.ps.length := fun {j e} h => by
    have := eok h
    unfold Ent.ok at this
    simp only [Bool.and_eq_true, decide_eq_true_eq] at this
    exact this.1.2
  have edj : ∀ {j : Nat} {e : Ent}, es[j]? = some e → (es.map (·.d))[j]? = some e.d := fun {j e} h => by
    rw [List.getElem?_map, h]; rfl
  -- from the defs at a level to the table at it
  have up : ∀ kk, (∀ m, kk = m + 2 → TabOk Pr w K mg base P G t (callN G (es.map (·.d)) F m) m) → (∀ (j : Nat) (e : Ent) (dvs : List V) (kws : List (Str × V)) (f : Addr) (fd : FuncData), es[j]? = some e → e.d.ct = none → FunD K e.name e.qual (defArgs e.st) (defBody e.st) (defScope e.st) dvs kws f fd → FnScope e.N e.ps (defScope e.st) → GFn Pr w K mg base CX0 kk f fd e.ps (spOf P (callN G (es.map (·.d)) F kk j) e.ps.length)) →
      TabOk Pr w K mg base P G t (callN G (es.map (·.d)) F kk) kk := fun kk hT hF => by
    refine ⟨X.hK, X.bl, X.gl, fun p hp => ?_, fun q hq => ?_, callN_nr kk, X.cl, fun q hq => ?_, fun q hq => ?_⟩
    · obtain ⟨e, h1, hc, h2⟩ := X.fn p hp
      obtain ⟨dvs, kws, fd, g1, g2, g4, _⟩ := X.at_ _ _ h1
      exact ⟨_, fd, e.ps, hF _ _ _ _ _ _ h1 hc g1 g2, h2, g1.kp, g4 (.inl ⟨p, hp, rfl⟩), fun a r a' h => by rw [callN_ar (edj h1) hc kk a r a' h, ear h1]⟩
    · obtain ⟨e, h1, hc, h2⟩ := X.kw q hq
      obtain ⟨dvs, kws, fd, g1, g2, g4, g5⟩ := X.at_ _ _ h1
      obtain ⟨g, gV, k1, k2⟩ := (g5 q hq rfl).ex
      exact ⟨_, fd, e.ps, g, gV, hF _ _ _ _ _ _ h1 hc g1 g2, h2, g1.kp, k1, k2, fun a r a' h => by rw [callN_ar (edj h1) hc kk a r a' h, ear h1]⟩
    · obtain ⟨e, h1, hc, h2⟩ := X.mt q hq
      obtain ⟨dvs, kws, fd, g1, g2, g4, _⟩ := X.at_ _ _ h1
      exact ⟨kk, _, fd, e.ps, Nat.le_refl _, h2, hF _ _ _ _ _ _ h1 hc g1 g2, g4 (.inr (.inl ⟨q, hq, rfl⟩)), fun a r a' h => by rw [callN_ar (edj h1) hc kk a r a' h, ear h1]⟩
    · obtain ⟨h0, e, ct, h1, hc, h2, h3⟩ := X.ct q hq
      obtain ⟨dvs, kws, fd, g1, g2, g4, _⟩ := X.at_ _ _ h1
      refine ⟨h0, ?_⟩
      match kk, hT with
      | 0, _ => exact .inl fun a => callN_noC (edj h1) hc a 0 (by omega)
      | 1, _ => exact .inl fun a => callN_noC (edj h1) hc a 1 (by omega)
      | m + 2, hT =>
        refine .inr ⟨m + 1, _, fd, e.ps, Nat.le_refl _, h3, ?_, g4 (.inr (.inr ⟨q, hq, rfl⟩)), fun a r a' h => ?_⟩
        · rw [callN_eqC (edj h1) hc, ← h2]
          exact ct_ok (F := F) (hT m rfl) g1 g2 (eok h1) hc
        · rw [callN_eqC (edj h1) hc] at h
          have := runCT_ar h
          rw [ear h1] at this
          omega
  have all : ∀ kk, (TabOk Pr w K mg base P G t (callN G (es.map (·.d)) F kk) kk ∧
    ∀ (j : Nat) (e : Ent) (dvs : List V) (kws : List (Str × V)) (f : Addr) (fd : FuncData), es[j]? = some e → e.d.ct = none → FunD K e.name e.qual (defArgs e.st) (defBody e.st) (defScope e.st) dvs kws f fd → FnScope e.N e.ps (defScope e.st) → GFn Pr w K mg base CX0 kk f fd e.ps (spOf P (callN G (es.map (·.d)) F kk j) e.ps.length)) := fun kk => by
    induction kk using Nat.strongRecOn with
    | ind kk ih =>
      match kk, ih with
      | 0, _ =>
        have h0 : ∀ (j : Nat) (e : Ent) (dvs : List V) (kws : List (Str × V)) (f : Addr) (fd : FuncData), es[j]? = some e → e.d.ct = none → FunD K e.name e.qual (defArgs e.st) (defBody e.st) (defScope e.st) dvs kws f fd → FnScope e.N e.ps (defScope e.st) → GFn Pr w K mg base CX0 0 f fd e.ps (spOf P (callN G (es.map (·.d)) F 0 j) e.ps.length) := fun j e dvs kws f fd _ _ _ _ =>
          ⟨fun vs H Q E h => h.1, fun A outer s H args us vs Q E _ _ _ _ _ h => by
            obtain ⟨_, L0, a, r, a', _, e, _⟩ := h
            cases e⟩
        exact ⟨up 0 (fun m h => absurd h (by omega)) h0, h0⟩
      | kk + 1, ih =>
        have h1 : ∀ (j : Nat) (e : Ent) (dvs : List V) (kws : List (Str × V)) (f : Addr) (fd : FuncData), es[j]? = some e → e.d.ct = none → FunD K e.name e.qual (defArgs e.st) (defBody e.st) (defScope e.st) dvs kws f fd → FnScope e.N e.ps (defScope e.st) → GFn Pr w K mg base CX0 (kk + 1) f fd e.ps (spOf P (callN G (es.map (·.d)) F (kk + 1) j) e.ps.length) := fun j e dvs kws f fd hj hc hf hs => by
          have := fn_ok (F := F) (ih kk (Nat.lt_succ_self _)).1 hf hs (eok hj) hc
          rw [callN_eq (edj hj) hc]
          exact this
        exact ⟨up _ (fun m h => (ih m (by omega)).1) h1, h1⟩
  exact all
/-- the law's promise -/
theorem law_sp {C : CallS} {a : Addr} {H : Hp} {ns : List Int} {a' : Loc} {E : XK} {j : Nat} (hK : P.K = K) (hS : SqL K H a (ns.map V.int)) (h : C j [.scr ns] = some (.val (.bl true), a')) : spOf P (C j) 1 [.ref a] H (fun v _ => v = .bl true) E := by
  refine ⟨rfl, fun _ => False, [.scr ns], _, a', ⟨rfl, fun _ z => z.elim, fun i d e => ?_, fun i b ds e => ?_, fun i j b c ds es w e1 => ?_, fun i n e => ?_⟩, h, (fun i z => nomatch z), fun v H' p => ?_⟩
  · cases i <;> simp at e
  · cases i <;> simp at e
  · cases i <;> simp at e1
  · cases i with
    | zero =>
      simp at e; subst e
      refine ⟨a, rfl, ?_⟩
      rcases hS with hS | hS
      · refine .inl ⟨hS, fun z => ?_⟩
        rcases z with z | ⟨i, b, ds, e1, e2⟩
        · exact z
        · cases i <;> simp at e1
      · exact .inr (.inr (hK ▸ hS))
    | succ i => simp at e
  · have : Rep P (Lv (fun _ => False) a' [some (.ref a)]) H' (.bl true) v := p.rep
    unfold Rep at this; exact this
end
end MP

namespace MP
open PySem PySem.Spec PyProof.Rows L2
/-! ### calls with keywords: how they bind -/
def permA {α : Type} (p : List Nat) (l : List α) : List α := p.filterMap fun i => l[i]?
theorem permV_eq (p : List Nat) (l : List V) : permV p l = permA p l := rfl
theorem vals_perm {xs : List V} {us : List Value} (r : Vals xs us) : ∀ p : List Nat, Vals (permA p xs) (permA p us)
  | [] => .nil
  | i :: p => by
    have ih := vals_perm r p
    unfold permA at ih ⊢
    rw [List.filterMap_cons, List.filterMap_cons]
    cases e : xs[i]? with
    | none =>
      have : us[i]? = none := by
        rw [List.getElem?_eq_none_iff] at e ⊢
        have := r.length
        omega
      rw [this]
      exact ih
    | some x =>
      obtain ⟨u, e1, e2⟩ := r.get e
      rw [e1]
      exact .cons e2 ih
theorem kw_ok {K : PySem.W.Frag} {x qual : Str} {params : Arguments} {body : List Stmt} {scope : Scope} {f : Addr} {fd : FuncData} {ps : List Str} {q : KwSh} (F : FunD K x qual params body scope [] [] f fd) (hp : (ps.length == 0) = false)
    (h : ∀ (kV doc pm : Value) (an : Option Addr) (cdv ct : Value) (us ws : List Value), us.length = q.np → ws.length = q.ks.length → bindArgs (PySem.W.fnOf x qual params body scope .none kV doc pm an cdv ct) ⟨us, q.ks.zip ws⟩ = pure (ps.zip (permA q.perm (us ++ ws)))) : KwOk K fd ps q := by
  obtain ⟨oc, od, dV, kV, doc, pm, an, cdv, ct, osl, rfl, lk, hcd, hD, hK⟩ := F.ex
  rcases hD with ⟨_, rfl⟩ | ⟨e, _⟩
  case inr => exact absurd rfl e
  refine ⟨fun us ws => if us.length = q.np ∧ ws.length = q.ks.length then permA q.perm (us ++ ws) else [], fun vs zs => if vs.length = q.np ∧ zs.length = q.ks.length then permA q.perm (vs ++ zs) else [], ⟨fun s us ws _ hl => ?_, fun {vs us zs ws} r1 r2 => ?_⟩, fun vs zs h1 h2 => (if_pos ⟨h1, h2⟩).trans (permV_eq _ _).symm⟩
  · by_cases c : us.length = q.np ∧ ws.length = q.ks.length
    · show BindsTo _ _ _ (ps.zip (if us.length = q.np ∧ ws.length = q.ks.length then permA q.perm (us ++ ws) else []))
      rw [if_pos c]
      exact .of_eq (h kV doc pm an cdv ct us ws c.1 c.2)
    · replace hl : (if us.length = q.np ∧ ws.length = q.ks.length then permA q.perm (us ++ ws) else []).length = ps.length := hl
      rw [if_neg c] at hl
      have : ps.length = 0 := hl.symm
      rw [this] at hp
      cases hp
  · by_cases c : vs.length = q.np ∧ zs.length = q.ks.length
    · show Vals (if vs.length = q.np ∧ zs.length = q.ks.length then permA q.perm (vs ++ zs) else []) (if us.length = q.np ∧ ws.length = q.ks.length then permA q.perm (us ++ ws) else [])
      rw [if_pos c, if_pos ⟨by rw [← r1.length]; exact c.1, by rw [← r2.length]; exact c.2⟩]
      exact vals_perm (r1.append r2) _
    · show Vals (if vs.length = q.np ∧ zs.length = q.ks.length then permA q.perm (vs ++ zs) else []) (if us.length = q.np ∧ ws.length = q.ks.length then permA q.perm (us ++ ws) else [])
      rw [if_neg c, if_neg (fun z => c ⟨by rw [r1.length]; exact z.1, by rw [r2.length]; exact z.2⟩)]
      exact .nil
/-! ### the facts of a table from the head -/
def Ent.dd (e : Ent) : He.DefD := ⟨e.key, e.name, e.qual, defArgs e.st, defBody e.st, defScope e.st, [], []⟩
/-- one entry's own: scope, binding, keyword calls -/
structure EntOk (t : Tab) (j : Nat) (e : Ent) : Prop where
  sc : FnScope e.N e.ps (defScope e.st)
  bd : Pos_ t j → ∀ {K : PySem.W.Frag} {f : Addr} {fd : FuncData}, FunD K e.name e.qual (defArgs e.st) (defBody e.st) (defScope e.st) [] [] f fd → Binds K fd e.ps []
  kw : ∀ {K : PySem.W.Frag} {f : Addr} {fd : FuncData}, FunD K e.name e.qual (defArgs e.st) (defBody e.st) (defScope e.st) [] [] f fd → ∀ q ∈ t.kw, q.f = j → KwOk K fd e.ps q
def allEnt (t : Tab) : Nat → List Ent → Prop
  | _, [] => True
  | j, e :: es => EntOk t j e ∧ allEnt t (j + 1) es
theorem allEnt.get {t : Tab} : ∀ {es : List Ent} {j i : Nat} {e : Ent}, allEnt t j es → es[i]? = some e → EntOk t (j + i) e
  | [], _, _, _, _, h => by simp at h
  | e0 :: es, j, 0, e, h, q => by simp at q; subst q; exact h.1
  | e0 :: es, j, i + 1, e, h, q => by
    have := allEnt.get h.2 (i := i) (e := e) (by simpa using q)
    rw [show j + (i + 1) = j + 1 + i by omega]
    exact this
/-- where the defs stand -/
def adOf (K : PySem.W.Frag) (es : List Ent) (j : Nat) : Addr := match es[j]? with
  | some e => He.fAd K e.key
  | none => 0
theorem adOf_eq {K : PySem.W.Frag} {es : List Ent} {j : Nat} {e : Ent} (h : es[j]? = some e) : adOf K es j = He.fAd K e.key := by unfold adOf; rw [h]
/-! looks for a fact -/
def qGlo (x : Str) : He.Fa → Bool
  | .glo y => decide (y = x)
  | _ => false
def qFree (x : Str) : He.Fa → Bool
  | .free y => decide (y = x)
  | _ => false
def qInt (x : Str) (i : Int) : He.Fa → Bool
  | .int y j => decide (y = x) && decide (j = i)
  | _ => false
def qCls (x : Str) : He.Fa → Bool
  | .cls y => decide (y = x)
  | _ => false
def qNoat (x f : Str) : He.Fa → Bool
  | .noat y g => decide (y = x) && decide (g = f)
  | _ => false
def qMeth (x f : Str) : He.Fa → Bool
  | .meth y g => decide (y = x) && decide (g = f)
  | _ => false
def qMkr (x : Str) : He.Fa → Bool
  | .mkr y => decide (y = x)
  | _ => false
section
variable {K : PySem.W.Frag} {h : Heap} {mg : Str → Option Value} {fa : List He.Fa} {x f : Str} {i : Int}
def Gets (K : PySem.W.Frag) (fa : List He.Fa) : Prop := ∀ f ∈ fa, f.ok K = true
theorem g_glo (g : Gets K fa) (X : K.In h) (N : h.Ns mainGlobals mg) (q : fa.any (qGlo x) = true) : mg x = some (.ref (He.ga K x)) := by
  obtain ⟨f, hm, h2⟩ := List.any_eq_true.mp q
  cases f <;> first | (cases h2; done) | skip
  cases of_decide_eq_true (show decide (_ = x) = true from h2)
  exact He.glo_ok X N (g _ hm)
theorem g_free (g : Gets K fa) (X : K.In h) (N : h.Ns mainGlobals mg) (q : fa.any (qFree x) = true) : mg x = none := by
  obtain ⟨f, hm, h2⟩ := List.any_eq_true.mp q
  cases f <;> first | (cases h2; done) | skip
  cases of_decide_eq_true (show decide (_ = x) = true from h2)
  exact He.free_ok X N (g _ hm)
theorem g_int (g : Gets K fa) (X : K.In h) (N : h.Ns mainGlobals mg) (q : fa.any (qInt x i) = true) : ∃ t, mg x = some (.int i t) := by
  obtain ⟨f, hm, h2⟩ := List.any_eq_true.mp q
  cases f <;> first | (cases h2; done) | skip
  simp only [qInt, Bool.and_eq_true, decide_eq_true_eq] at h2
  obtain ⟨rfl, rfl⟩ := h2
  exact He.int_ok X N (g _ hm)
theorem g_cls (g : Gets K fa) (q : fa.any (qCls x) = true) : Cls K (He.ga K x) := by
  obtain ⟨f, hm, h2⟩ := List.any_eq_true.mp q
  cases f <;> first | (cases h2; done) | skip
  cases of_decide_eq_true (show decide (_ = x) = true from h2)
  exact He.cls_ok (g _ hm)
theorem g_noat (g : Gets K fa) (q : fa.any (qNoat x f) = true) : NoAttr K (He.ga K x) f := by
  obtain ⟨f, hm, h2⟩ := List.any_eq_true.mp q
  cases f <;> first | (cases h2; done) | skip
  simp only [qNoat, Bool.and_eq_true, decide_eq_true_eq] at h2
  obtain ⟨rfl, rfl⟩ := h2
  exact He.noat_ok (g _ hm)
theorem g_methF (g : Gets K fa) (q : fa.any (qMeth x f) = true) : Meth K (He.ga K x) f (He.ma K (He.ga K x) f) := by
  obtain ⟨f, hm, h2⟩ := List.any_eq_true.mp q
  cases f <;> first | (cases h2; done) | skip
  simp only [qMeth, Bool.and_eq_true, decide_eq_true_eq] at h2
  obtain ⟨rfl, rfl⟩ := h2
  exact He.meth_ok (g _ hm)
theorem g_mkr (g : Gets K fa) (q : fa.any (qMkr x) = true) : Mk K (He.ga K x) (He.ma K (He.ga K x) "__init__") := by
  obtain ⟨f, hm, h2⟩ := List.any_eq_true.mp q
  cases f <;> first | (cases h2; done) | skip
  cases of_decide_eq_true (show decide (_ = x) = true from h2)
  exact He.mkr_ok (g _ hm)
end
/-- where the classes stand, their fields -/
def rpOf (K : PySem.W.Frag) (cn : List Str) (t : Tab) : RP := ⟨K, fun k => He.ga K (cn.getD k ""), fun k => t.fl.getD k []⟩
/-- the look at the table against the facts -/
def tabFa (fa : List He.Fa) (G : Nat → D) (cn : List Str) (t : Tab) (es : List Ent) : Bool :=
  (t.bl.all fun b => fa.any (qFree b)) &&
  (t.gl.all fun p => match G p.2 with
    | .int i => fa.any (qInt p.1 i)
    | _ => false) &&
  (t.fn.all fun p => match es[p.2]? with
    | some e => decide (e.key = (p.1, none)) && e.d.ct.isNone && fa.any (qGlo p.1)
    | none => false) &&
  (t.kw.all fun q => match es[q.f]? with
    | some e => decide (e.key = (q.x, none)) && e.d.ct.isNone && fa.any (qGlo q.x)
    | none => false) &&
  ((List.range t.fl.length).all fun k => decide (t.fl.getD k []).Nodup && fa.any (qCls (cn.getD k "")) && (t.fl.getD k []).all fun f => fa.any (qNoat (cn.getD k "") f)) &&
  (t.mt.all fun q => match es[q.2.2]? with
    | some e => decide (e.key = (cn.getD q.1 "", some q.2.1)) && e.d.ct.isNone && fa.any (qMeth (cn.getD q.1 "") q.2.1)
    | none => false) &&
  (t.ct.all fun q => decide (cn.getD q.2.1 "" = q.1) && match es[q.2.2]? with
    | some e => decide (e.key = (q.1, some ("__init__" : Str))) && (match e.d.ct with
      | some ct => decide (ct.c = q.2.1)
      | none => false) && fa.any (qMkr q.1) && fa.any (qGlo q.1)
    | none => false)
theorem facts_of {K : PySem.W.Frag} {h : Heap} {mg : Str → Option Value} {t : Tab} {es : List Ent} {fa : List He.Fa} {cn : List Str} {G : Nat → D} (X : K.In h) (N : h.Ns mainGlobals mg) (c : He.SaysD fa (es.map Ent.dd) K) (ok : allEnt t 0 es)
    (hl : tabFa fa G cn t es = true) : Facts K mg (rpOf K cn t) G t es (adOf K es) := by
  have g : Gets K fa := fun f hm => by
    obtain ⟨i, hi⟩ := List.getElem?_of_mem hm
    exact c.fact i hi
  unfold tabFa at hl
  simp only [Bool.and_eq_true] at hl
  obtain ⟨⟨⟨⟨⟨⟨h1, h2⟩, h3⟩, h4⟩, h5⟩, h6⟩, h7⟩ := hl
  refine ⟨rfl, fun x hx => g_free g X N (List.all_eq_true.mp h1 x hx), fun p hp => ?_, fun j e he => ?_, fun p hp => ?_, fun q hq => ?_, fun k fs hk => ?_, fun q hq => ?_, fun q hq => ?_⟩
  · have q := List.all_eq_true.mp h2 p hp
    split at q
    · rename_i i hi
      obtain ⟨tk, e⟩ := g_int g X N q
      exact ⟨_, .int i, e, ⟨tk, rfl⟩, fun L H => by rw [hi]; exact rep_int⟩
    · cases q
  · obtain ⟨fd, F⟩ := c.def_ j (d := e.dd) (by rw [List.getElem?_map, he]; rfl)
    have E := ok.get he
    rw [Nat.zero_add] at E
    have ea : adOf K es j = He.fAd K e.key := by unfold adOf; rw [he]
    rw [ea]
    exact ⟨_, _, fd, F, E.sc, fun z => E.bd z F, E.kw F⟩
  · have q := List.all_eq_true.mp h3 p hp
    split at q
    · rename_i e he
      simp only [Bool.and_eq_true, decide_eq_true_eq, Option.isNone_iff_eq_none] at q
      refine ⟨e, he, q.1.2, ?_⟩
      rw [adOf_eq he, q.1.1]
      exact g_glo g X N q.2
    · cases q
  · have q := List.all_eq_true.mp h4 q hq
    split at q
    · rename_i e he
      simp only [Bool.and_eq_true, decide_eq_true_eq, Option.isNone_iff_eq_none] at q
      refine ⟨e, he, q.1.2, ?_⟩
      rw [adOf_eq he, q.1.1]
      exact g_glo g X N q.2
    · cases q
  · have hk' := lt_of_get hk
    have q := List.all_eq_true.mp h5 k (List.mem_range.mpr hk')
    simp only [Bool.and_eq_true, decide_eq_true_eq] at q
    have e : t.fl.getD k [] = fs := by rw [List.getD_eq_getElem?_getD, hk]; rfl
    rw [e] at q
    exact ⟨e, q.1.1, g_cls g q.1.2, fun f hf => g_noat g (List.all_eq_true.mp q.2 f hf)⟩
  · have w := List.all_eq_true.mp h6 q hq
    split at w
    · rename_i e he
      simp only [Bool.and_eq_true, decide_eq_true_eq, Option.isNone_iff_eq_none] at w
      refine ⟨e, he, w.1.2, ?_⟩
      rw [adOf_eq he, w.1.1]
      exact g_methF g w.2
    · cases w
  · have w := List.all_eq_true.mp h7 q hq
    simp only [Bool.and_eq_true, decide_eq_true_eq] at w
    obtain ⟨w1, w⟩ := w
    split at w
    · rename_i e he
      simp only [Bool.and_eq_true, decide_eq_true_eq] at w
      obtain ⟨⟨⟨w2, w3⟩, w4⟩, w5⟩ := w
      split at w3
      · rename_i ct hct
        have eC : (rpOf K cn t).ca q.2.1 = He.ga K q.1 := by
          show He.ga K (cn.getD q.2.1 "") = _
          rw [w1]
        refine ⟨by rw [eC]; exact g_glo g X N w5, e, ct, he, hct, of_decide_eq_true w3, ?_⟩
        rw [eC]
        rw [adOf_eq he, w2]
        exact g_mkr g w4
      · cases w3
    · cases w
/-- from the facts to what a law's walk wants -/
theorem law_end {Pr : Program} {w : World} {K : PySem.W.Frag} {mg : Str → Option Value} {P : RP} {G : Nat → D} {t : Tab} {es : List Ent} {ad : Nat → Addr} {n F kk j : Nat} {e : Ent} {h : Heap} {fa : Addr} (KX : K.In h) (X : Facts K mg P G t es ad) (hok : es.all (·.ok n t) = true) (hj : es[j]? = some e) (hct : e.d.ct = none) {x : Str} (hps : e.ps = [x])
    (hb : ∀ {K : PySem.W.Frag} {f : Addr} {fd : FuncData}, FunD K e.name e.qual (defArgs e.st) (defBody e.st) (defScope e.st) [] [] f fd → ∀ (s : Shared) (u : Value), BindsTo s fd ⟨[u], []⟩ [(x, u)])
    (hd : ∃ fd, FunD K e.name e.qual (defArgs e.st) (defBody e.st) (defScope e.st) [] [] fa fd)
    (hsc : FnScope e.N e.ps (defScope e.st))
    (law : ∀ ns : List Int, ns.length ≤ 63 → ∃ a', callN G (es.map (·.d)) F kk j [.scr ns] = some (.val (.bl true), a')) :
    ∃ (K : PySem.W.Frag) (fd : FuncData) (sp : Sp), K.In h ∧ (∀ (s : Shared) (u : Value), BindsTo s fd ⟨[u], []⟩ [(x, u)]) ∧
        (∀ (H : Hp) (a : Addr) (ns : List Int), ns.length ≤ 63 → SqL K H a (ns.map V.int) → sp [.ref a] H (fun v _ => v = .bl true) fun _ _ _ => False) ∧
        ∀ base : Heap, K.In base → base.Ns mainGlobals mg → GFn Pr w K mg base CX0 kk fa fd [x] sp := by
  obtain ⟨fd, Fd⟩ := hd
  refine ⟨K, fd, spOf P (callN G (es.map (·.d)) F kk j) 1, KX, hb Fd, fun H a ns hl hS => ?_, fun base _ _ => ?_⟩
  · obtain ⟨a', e1⟩ := law ns hl
    exact law_sp X.hK hS e1
  · have := (tab_ok (Pr := Pr) (w := w) (base := base) (F := F) X hok kk).2 j e _ _ fa fd hj hct Fd hsc
    rw [hps] at this
    exact this
end MP

/-! the evaluator staged and strict: for runs in the kernel (printed by genst.py) -/
namespace MP
open PySem L2
structure Fn (α β : Type) where
  run : α → β
/-! values made whole -/
def fcN {α : Type} (n : Nat) (k : Nat → α) : α := match n with
  | 0 => k 0
  | m + 1 => k (m + 1)
theorem fcN_eq {α : Type} (n : Nat) (k : Nat → α) : fcN n k = k n := by cases n <;> rfl
def fcI {α : Type} (i : Int) (k : Int → α) : α := match i with
  | .ofNat n => fcN n fun n => k (.ofNat n)
  | .negSucc n => fcN n fun n => k (.negSucc n)
theorem fcI_eq {α : Type} (i : Int) (k : Int → α) : fcI i k = k i := by cases i <;> simp only [fcI, fcN_eq]
mutual
def fcD {α : Type} : D → (D → α) → α
  | .non => fun k => k .non
  | .bl b => fun k => match b with
    | true => k (.bl true)
    | false => k (.bl false)
  | .int i => fun k => fcI i fun i => k (.int i)
  | .str x => fun k => k (.str x)
  | .tup ds => fun k => fcDs ds fun ds => k (.tup ds)
  | .lst ds => fun k => fcDs ds fun ds => k (.lst ds)
  | .ins c fs => fun k => fcDs fs fun fs => k (.ins c fs)
def fcDs {α : Type} : List D → (List D → α) → α
  | [] => fun k => k []
  | d :: ds => fun k => fcD d fun d => fcDs ds fun ds => k (d :: ds)
end
mutual
theorem fcD_eq {α : Type} : ∀ (d : D) (k : D → α), fcD d k = k d
  | .non, k => by rw [fcD]
  | .bl b, k => by rw [fcD]; cases b <;> rfl
  | .int i, k => by rw [fcD]; exact fcI_eq i _
  | .str x, k => by rw [fcD]
  | .tup ds, k => by rw [fcD]; exact fcDs_eq ds _
  | .lst ds, k => by rw [fcD]; exact fcDs_eq ds _
  | .ins c fs, k => by rw [fcD]; exact fcDs_eq fs _
theorem fcDs_eq {α : Type} : ∀ (ds : List D) (k : List D → α), fcDs ds k = k ds
  | [], k => by rw [fcDs]
  | d :: ds, k => by rw [fcDs]; simp only [fcD_eq d, fcDs_eq ds]
end
/-- a list's spine -/
def fcL {α β : Type} : List β → (List β → α) → α
  | [] => fun k => k []
  | d :: ds => fun k => fcL ds fun ds => k (d :: ds)
theorem fcL_eq {α β : Type} : ∀ (ds : List β) (k : List β → α), fcL ds k = k ds
  | [], k => rfl
  | d :: ds, k => by rw [fcL]; exact fcL_eq ds _
def fcS {α : Type} (s : Slot) (k : Slot → α) : α := match s with
  | .none => k .none
  | .dat d => k (.dat d)
  | .own b ds => match b with
    | true => k (.own true ds)
    | false => k (.own false ds)
  | .scr ns => k (.scr ns)
  | .hid => k .hid
theorem fcS_eq {α : Type} (s : Slot) (k : Slot → α) : fcS s k = k s := by
  cases s <;> simp only [fcS, fcL_eq]
  rename_i b ds
  cases b <;> rfl
def fcLoc {α : Type} : Loc → (Loc → α) → α
  | [] => fun k => k []
  | s :: l => fun k => fcS s fun s => fcLoc l fun l => k (s :: l)
theorem fcLoc_eq {α : Type} : ∀ (l : Loc) (k : Loc → α), fcLoc l k = k l
  | [], k => rfl
  | s :: l, k => by rw [fcLoc]; simp only [fcS_eq, fcLoc_eq l]
/-- arguments made whole -/
def fcA {α : Type} : Loc → (Loc → α) → α
  | [] => fun k => k []
  | s :: l => fun k => (match s with
    | .dat d => fcD d fun d => fcA l fun l => k (.dat d :: l)
    | s => fcS s fun s => fcA l fun l => k (s :: l))
theorem fcA_eq {α : Type} : ∀ (l : Loc) (k : Loc → α), fcA l k = k l
  | [], k => rfl
  | s :: l, k => by
    rw [fcA]
    cases s <;> simp only [fcD_eq, fcS_eq, fcA_eq l]
abbrev CallF := Nat → Fn Loc (Option (R × Loc))
def doCall2 (C : CallF) (f : Nat) (rs : List R) (loc : Loc) : Option (R × Loc) :=
  if nodupB (refs rs) then
    match argsOf loc rs with
    | some a => fcA a fun a => match (C f).run a with
      | some (r, a') => match given rs a' loc with
        | some loc' => some (r, loc')
        | none => none
      | none => none
    | none => none
  else none
theorem doCall2_eq {C : CallS} {C2 : CallF} (h : ∀ f a, (C2 f).run a = C f a) (f : Nat) (rs : List R) (loc : Loc) : doCall2 C2 f rs loc = doCall C f rs loc := by
  unfold doCall2 doCall
  simp only [fcA_eq, h]
  all_goals rfl
def lcRun2 (own : List Nat) (p : Pat) (cond : Loc → Option (Bool × Loc)) (elt : Loc → Option (R × Loc)) : List D → Loc → Option (List D × Loc)
  | [], loc => some ([], loc)
  | d :: ds, loc => fcD d fun d => match bindP p d loc with
    | none => none
    | some l1 => fcLoc l1 fun l1 => match cond l1 with
      | none => none
      | some (true, l2) => match elt l2 with
        | none => none
        | some (r, l3) => match toVal r with
          | none => none
          | some e => fcD e fun e => fcLoc (wipeL l3 own) fun l => match lcRun2 own p cond elt ds l with
            | none => none
            | some (es, l4) => some (e :: es, l4)
      | some (false, l2) => fcLoc (wipeL l2 own) fun l => lcRun2 own p cond elt ds l
theorem lcRun2_eq (own : List Nat) (p : Pat) (cond : Loc → Option (Bool × Loc)) (elt : Loc → Option (R × Loc)) : ∀ (ds : List D) (loc : Loc), lcRun2 own p cond elt ds loc = lcRun own p cond elt ds loc
  | [], loc => rfl
  | d :: ds, loc => by
    unfold lcRun2 lcRun
    simp only [fcD_eq, fcLoc_eq, lcRun2_eq own p cond elt ds]
    all_goals rfl
def lc2Run2 (own : List Nat) (p : Pat) (cond : Loc → Option (Bool × Loc)) (own1 : List Nat) (src : Loc → Option (List D × Loc)) (p1 : Pat) (cond1 : Loc → Option (Bool × Loc)) (elt : Loc → Option (R × Loc)) : List D → Loc → Option (List D × Loc)
  | [], loc => some ([], loc)
  | d :: ds, loc => fcD d fun d => match bindP p d loc with
    | none => none
    | some l1 => fcLoc l1 fun l1 => match cond l1 with
      | none => none
      | some (true, l2) => match src l2 with
        | none => none
        | some (items, l3) => if own1.all (freeD l3) && decide (items.length ≤ big) then
            match lcRun2 own1 p1 cond1 elt items (wipeL l3 own1) with
            | none => none
            | some (es, l4) => fcLoc (wipeL l4 own) fun l => match lc2Run2 own p cond own1 src p1 cond1 elt ds l with
              | none => none
              | some (es', l5) => some (es ++ es', l5)
          else none
      | some (false, l2) => fcLoc (wipeL l2 own) fun l => lc2Run2 own p cond own1 src p1 cond1 elt ds l
theorem lc2Run2_eq (own : List Nat) (p : Pat) (cond : Loc → Option (Bool × Loc)) (own1 : List Nat) (src : Loc → Option (List D × Loc)) (p1 : Pat) (cond1 : Loc → Option (Bool × Loc)) (elt : Loc → Option (R × Loc)) : ∀ (ds : List D) (loc : Loc), lc2Run2 own p cond own1 src p1 cond1 elt ds loc = lc2Run own p cond own1 src p1 cond1 elt ds loc
  | [], loc => rfl
  | d :: ds, loc => by
    unfold lc2Run2 lc2Run
    simp only [fcD_eq, fcLoc_eq, lcRun2_eq, lc2Run2_eq own p cond own1 src p1 cond1 elt ds]
    all_goals rfl
def forRun2 (p : Pat) (body : Loc → Option Out) : List D → Loc → Option Out
  | [], loc => some (.nx loc)
  | d :: ds, loc => fcD d fun d => match bindP p d loc with
    | none => none
    | some l1 => fcLoc l1 fun l1 => match body l1 with
      | some (.nx l2) => forRun2 p body ds l2
      | some (.ct l2) => forRun2 p body ds l2
      | some (.bk l2) => some (.nx l2)
      | some (.rt r l2) => some (.rt r l2)
      | none => none
theorem forRun2_eq (p : Pat) (body : Loc → Option Out) : ∀ (ds : List D) (loc : Loc), forRun2 p body ds loc = forRun p body ds loc
  | [], loc => rfl
  | d :: ds, loc => by
    unfold forRun2 forRun
    simp only [fcD_eq, fcLoc_eq, forRun2_eq p body ds]
    all_goals rfl
def whRun2 (c : Loc → Option (Bool × Loc)) (body : Loc → Option Out) : Nat → Loc → Option Out
  | 0, _ => none
  | n + 1, loc => match c loc with
    | some (true, l1) => fcLoc l1 fun l1 => match body l1 with
      | some (.nx l2) => whRun2 c body n l2
      | some (.ct l2) => whRun2 c body n l2
      | some (.bk l2) => some (.nx l2)
      | some (.rt r l2) => some (.rt r l2)
      | none => none
    | some (false, l1) => some (.nx l1)
    | none => none
theorem whRun2_eq (c : Loc → Option (Bool × Loc)) (body : Loc → Option Out) : ∀ (n : Nat) (loc : Loc), whRun2 c body n loc = whRun c body n loc
  | 0, loc => rfl
  | n + 1, loc => by
    unfold whRun2 whRun
    simp only [fcLoc_eq, whRun2_eq c body n]
    all_goals rfl
mutual
def ev2 (G : Nat → D) (C : CallF) : ME → Fn Loc (Option (R × Loc))
  | .c d => ⟨fun loc => some (.val d, loc)⟩
  | .g k => ⟨fun loc => some (.val (G k), loc)⟩
  | .v i => ⟨fun loc => match loc[i]? with
    | some (.dat d) => some (.val d, loc)
    | _ => none⟩
  | .r i => ⟨fun loc => match loc[i]? with
    | some (.own _ _) => some (.ref i, loc)
    | some (.scr _) => some (.ref i, loc)
    | some (.dat d) => some (.val d, loc)
    | _ => none⟩
  | .fz i => ⟨fun loc => match loc[i]? with
    | some (.own false ds) => some (.val (.lst ds), loc.set i (.dat (.lst ds)))
    | some (.dat d) => some (.val d, loc)
    | _ => none⟩
  | .tup es => ⟨fun loc => match (evs2 G C es).run loc with
    | some (rs, l1) => match rs.mapM toVal with
      | some ds => some (.val (.tup ds), l1)
      | none => none
    | none => none⟩
  | .lst es => ⟨fun loc => match (evs2 G C es).run loc with
    | some (rs, l1) => match rs.mapM toVal with
      | some ds => some (.new ds, l1)
      | none => none
    | none => none⟩
  | .o1 o a => ⟨fun loc => match (ev2 G C a).run loc with
    | some (r, l1) => match res l1 r with
      | some d => match ap1 o d with
        | some r' => some (r', l1)
        | none => none
      | none => none
    | none => none⟩
  | .o2 o a b => ⟨fun loc => match (ev2 G C a).run loc with
    | some (r, l1) => match (ev2 G C b).run l1 with
      | some (r', l2) => match res l2 (sett r), res l2 r' with
        | some d, some e => match ap2 o d e with
          | some r'' => some (r'', l2)
          | none => none
        | _, _ => none
      | none => none
    | none => none⟩
  | .ch o o' a b c => ⟨fun loc => match (ev2 G C a).run loc with
    | some (ra, l1) => match (ev2 G C b).run l1 with
      | some (rb, l2) => match res l2 (sett ra), res l2 rb with
        | some d, some e => match ap2 o d e with
          | some (.val (.bl true)) => match (ev2 G C c).run l2 with
            | some (rc, l3) => match res l3 (sett rb), res l3 rc with
              | some e', some f => match ap2 o' e' f with
                | some (.val (.bl k)) => some (.val (.bl k), l3)
                | _ => none
              | _, _ => none
            | none => none
          | some (.val (.bl false)) => some (.val (.bl false), l2)
          | _ => none
        | _, _ => none
      | none => none
    | none => none⟩
  | .sl a lo hi => ⟨fun loc => match (ev2 G C a).run loc with
    | some (r, l1) => match (evo2 G C lo).run l1 with
      | some (x, l2) => match (evo2 G C hi).run l2 with
        | some (y, l3) => match res l3 (sett r) with
          | some d => match apSl d x y with
            | some r' => some (r', l3)
            | none => none
          | none => none
        | none => none
      | none => none
    | none => none⟩
  | .and a b => ⟨fun loc => match (ev2 G C a).run loc with
    | some (r, l1) => match res l1 r with
      | some d => match truth d with
        | some true => (ev2 G C b).run l1
        | some false => some (sett r, l1)
        | none => none
      | none => none
    | none => none⟩
  | .or a b => ⟨fun loc => match (ev2 G C a).run loc with
    | some (r, l1) => match res l1 r with
      | some d => match truth d with
        | some true => some (sett r, l1)
        | some false => (ev2 G C b).run l1
        | none => none
      | none => none
    | none => none⟩
  | .not a => ⟨fun loc => match (ev2 G C a).run loc with
    | some (r, l1) => match res l1 r with
      | some d => match truth d with
        | some k => some (.val (.bl (!k)), l1)
        | none => none
      | none => none
    | none => none⟩
  | .ite c a b => ⟨fun loc => match (ev2 G C c).run loc with
    | some (r, l1) => match res l1 r with
      | some d => match truth d with
        | some true => (ev2 G C a).run l1
        | some false => (ev2 G C b).run l1
        | none => none
      | none => none
    | none => none⟩
  | .call f as => ⟨fun loc => match (evs2 G C as).run loc with
    | some (rs, l1) => doCall2 C f rs l1
    | none => none⟩
  | .callK f as ks p => ⟨fun loc => match (evs2 G C as).run loc with
    | some (rs, l1) => match (evs2 G C ks).run l1 with
      | some (ss, l2) => match perm p (rs ++ ss) with
        | some ts => doCall2 C f ts l2
        | none => none
      | none => none
    | none => none⟩
  | .lc own p it cs elt => ⟨fun loc => match (evI2 G C it).run loc with
    | some (items, l1) => if own.all (freeD l1) && decide (items.length ≤ big) then
        match lcRun2 own p ((evC2 G C cs).run) ((ev2 G C elt).run) items (wipeL l1 own) with
        | some (ds, l2) => some (.new ds, back l1 l2 own)
        | none => none
      else none
    | none => none⟩
  | .app i e => ⟨fun loc => match loc[i]? with
    | some (.own _ _) => match (ev2 G C e).run loc with
      | some (r, l1) => match toVal r, l1[i]? with
        | some d, some (.own b ds) => if ds.length < big then fcD d fun d => fcL (ds ++ [d]) fun ds => some (.val .non, l1.set i (.own b ds)) else none
        | _, _ => none
      | none => none
    | _ => none⟩
  | .pop i => ⟨fun loc => match loc[i]? with
    | some (.own b ds) => match ds.getLast? with
      | some d => some (.val d, loc.set i (.own b ds.dropLast))
      | none => none
    | _ => none⟩
  | .popAt i e => ⟨fun loc => match loc[i]? with
    | some (.own _ _) => match (ev2 G C e).run loc with
      | some (.val (.int k), l1) => match l1[i]? with
        | some (.own b ds) => if 0 ≤ k ∧ k < 2 ^ 62 then match ds[k.toNat]? with
          | some d => some (.val d, l1.set i (.own b (ds.eraseIdx k.toNat)))
          | none => none
          else none
        | _ => none
      | _ => none
    | _ => none⟩
  | .clear i => ⟨fun loc => match loc[i]? with
    | some (.own b ds) => some (.val .non, loc.set i (.own b []))
    | _ => none⟩
  | .ext i e => ⟨fun loc => match loc[i]? with
    | some (.own _ _) => match (ev2 G C e).run loc with
      | some (r, l1) => match toVal r, l1[i]? with
        | some (.lst es), some (.own b ds) => if ds.length + es.length ≤ big then some (.val .non, l1.set i (.own b (ds ++ es))) else none
        | _, _ => none
      | none => none
    | _ => none⟩
  | .sIx i e => ⟨fun loc => match loc[i]? with
    | some (.scr ns) => match (ev2 G C e).run loc with
      | some (.val (.int k), l1) => if 0 ≤ k then match ns[k.toNat]? with
        | some n => some (.val (.int n), l1)
        | none => none
        else none
      | _ => none
    | _ => none⟩
  | .sLen i => ⟨fun loc => match loc[i]? with
    | some (.scr ns) => some (.val (.int ns.length), loc)
    | _ => none⟩
  | .sSl i lo hi => ⟨fun loc => match loc[i]? with
    | some (.scr ns) => match (evo2 G C lo).run loc with
      | some (x, l1) => match (evo2 G C hi).run l1 with
        | some (y, l2) => some (.new (cutD (ns.map D.int) x y), l2)
        | none => none
      | none => none
    | _ => none⟩
  | .lc2 own p it cs own1 p1 it1 cs1 elt => ⟨fun loc => match (evI2 G C it).run loc with
    | some (items, l1) => if own.all (freeD l1) && decide (items.length ≤ big) then
        match lc2Run2 own p ((evC2 G C cs).run) own1 ((evI2 G C it1).run) p1 ((evC2 G C cs1).run) ((ev2 G C elt).run) items (wipeL l1 own) with
        | some (ds, l2) => if ds.length ≤ big then some (.new ds, back l1 l2 own) else none
        | none => none
      else none
    | none => none⟩
  | .mxD mx a d => ⟨fun loc => match (ev2 G C a).run loc with
    | some (r, l1) => match (ev2 G C d).run l1 with
      | some (r', l2) => match res l2 (sett r), toVal r' with
        | some x, some y => match seqInts x with
          | some [] => some (.val y, l2)
          | some (n :: ms) => some (.val (.int (mxI mx n ms)), l2)
          | none => none
        | _, _ => none
      | none => none
    | none => none⟩
  | .thaw i a => ⟨fun loc => match (ev2 G C a).run loc with
    | some (r, l1) => match loc[i]?, l1[i]? with
      | some (.own false _), some (.dat (.lst ds)) => if noLsts ds && thawR r && thawB i 0 loc l1 then some (r, l1.set i (.own false ds)) else none
      | _, _ => none
    | none => none⟩
  | .fld tb a => ⟨fun loc => match (ev2 G C a).run loc with
    | some (.val (.ins c fs), l1) => match tb.lookup c with
      | some k => match fs[k]? with
        | some d => some (.val d, l1)
        | none => none
      | none => none
    | _ => none⟩
  | .meth tb a as => ⟨fun loc => match (ev2 G C a).run loc with
    | some (.val (.ins c fs), l1) => match tb.lookup c with
      | some f => match (evs2 G C as).run l1 with
        | some (rs, l2) => doCall2 C f (.val (.ins c fs) :: rs) l2
        | none => none
      | none => none
    | _ => none⟩
  | .make c f as => ⟨fun loc => match (evs2 G C as).run loc with
    | some (rs, l1) => match argsOf l1 rs with
      | some a => if allDat a then
          match (C f).run a with
          | some (.val (.ins c' ds), _) => if c' = c then some (.val (.ins c ds), l1) else none
          | _ => none
        else none
      | none => none
    | none => none⟩
  | .sumR (.rng1 a) => ⟨fun loc => match (ev2 G C a).run loc with
    | some (.val (.int n), l1) => if small n && decide (n.toNat ≤ big) then some (.val (.int (rsum 0 n.toNat)), l1) else none
    | _ => none⟩
  | .sumR _ => ⟨fun _ => none⟩
  | .ch3 o o' o'' a b c d => ⟨fun loc => match (ev2 G C a).run loc with
    | some (ra, l1) => match (ev2 G C b).run l1 with
      | some (rb, l2) => match res l2 (sett ra), res l2 rb with
        | some x, some y => match ap2 o x y with
          | some (.val (.bl true)) => match (ev2 G C c).run l2 with
            | some (rc, l3) => match res l3 (sett rb), res l3 rc with
              | some y', some z => match ap2 o' y' z with
                | some (.val (.bl true)) => match (ev2 G C d).run l3 with
                  | some (rd, l4) => match res l4 (sett rc), res l4 rd with
                    | some z', some w => match ap2 o'' z' w with
                      | some (.val (.bl k)) => some (.val (.bl k), l4)
                      | _ => none
                    | _, _ => none
                  | none => none
                | some (.val (.bl false)) => some (.val (.bl false), l3)
                | _ => none
              | _, _ => none
            | none => none
          | some (.val (.bl false)) => some (.val (.bl false), l2)
          | _ => none
        | _, _ => none
      | none => none
    | none => none⟩
  | .bad => ⟨fun _ => none⟩
  | .lrng it => ⟨fun loc => match (evI2 G C it).run loc with
    | some (ds, l1) => if ds.length ≤ big then some (.new ds, l1) else none
    | none => none⟩
def evs2 (G : Nat → D) (C : CallF) : List ME → Fn Loc (Option (List R × Loc))
  | [] => ⟨fun loc => some ([], loc)⟩
  | e :: es => ⟨fun loc => match (ev2 G C e).run loc with
    | some (r, l1) => match (evs2 G C es).run l1 with
      | some (rs, l2) => some (sett r :: rs, l2)
      | none => none
    | none => none⟩
def evo2 (G : Nat → D) (C : CallF) : Option ME → Fn Loc (Option (Option Int × Loc))
  | none => ⟨fun loc => some (none, loc)⟩
  | some e => ⟨fun loc => match (ev2 G C e).run loc with
    | some (.val (.int i), l1) => some (some i, l1)
    | _ => none⟩
def evC2 (G : Nat → D) (C : CallF) : List ME → Fn Loc (Option (Bool × Loc))
  | [] => ⟨fun loc => some (true, loc)⟩
  | e :: es => ⟨fun loc => match (ev2 G C e).run loc with
    | some (r, l1) => match res l1 r with
      | some d => match truth d with
        | some true => (evC2 G C es).run l1
        | some false => some (false, l1)
        | none => none
      | none => none
    | none => none⟩
def evI2 (G : Nat → D) (C : CallF) : IT → Fn Loc (Option (List D × Loc))
  | .seq a => ⟨fun loc => match (ev2 G C a).run loc with
    | some (r, l1) => match toVal r with
      | some (.lst ds) => some (ds, l1)
      | _ => none
    | none => none⟩
  | .tpl a => ⟨fun loc => match (ev2 G C a).run loc with
    | some (r, l1) => match toVal r with
      | some (.tup ds) => some (ds, l1)
      | _ => none
    | none => none⟩
  | .rng1 a => ⟨fun loc => match (ev2 G C a).run loc with
    | some (r, l1) => match r with
      | .val (.int n) => if small n then some (rngL 0 n.toNat, l1) else none
      | _ => none
    | none => none⟩
  | .rng2 a b => ⟨fun loc => match (ev2 G C a).run loc with
    | some (r, l1) => match (ev2 G C b).run l1 with
      | some (r', l2) => match r, r' with
        | .val (.int m), .val (.int n) => if small m && small n then some (rngL m (n - m).toNat, l2) else none
        | _, _ => none
      | none => none
    | none => none⟩
  | .enum a => ⟨fun loc => match (ev2 G C a).run loc with
    | some (r, l1) => match toVal r with
      | some (.lst ds) => some (enumL 0 ds, l1)
      | _ => none
    | none => none⟩
  | .zip a b => ⟨fun loc => match (ev2 G C a).run loc with
    | some (r, l1) => match (ev2 G C b).run l1 with
      | some (r', l2) => match toVal r, toVal r' with
        | some (.lst ds), some (.lst es) => some (zipL ds es, l2)
        | some (.tup ds), some (.tup es) => some (zipL ds es, l2)
        | _, _ => none
      | none => none
    | none => none⟩
end
mutual
theorem ev2_eq {G : Nat → D} {C : CallS} {C2 : CallF} (h : ∀ f a, (C2 f).run a = C f a) : ∀ (e : ME) (loc : Loc), (ev2 G C2 e).run loc = ev G C e loc
  | .c d, loc => by
    first
      | (rw [ev2, ev]; done)
      | (rw [ev2, ev]; simp only [doCall2_eq h, lcRun2_eq, lc2Run2_eq, fcD_eq, fcL_eq, h]; done)
      | (rw [ev2, ev]; simp only [doCall2_eq h, lcRun2_eq, lc2Run2_eq, fcD_eq, fcL_eq, h]; rfl)
  | .g k, loc => by
    first
      | (rw [ev2, ev]; done)
      | (rw [ev2, ev]; simp only [doCall2_eq h, lcRun2_eq, lc2Run2_eq, fcD_eq, fcL_eq, h]; done)
      | (rw [ev2, ev]; simp only [doCall2_eq h, lcRun2_eq, lc2Run2_eq, fcD_eq, fcL_eq, h]; rfl)
  | .v i, loc => by
    first
      | (rw [ev2, ev]; done)
      | (rw [ev2, ev]; simp only [doCall2_eq h, lcRun2_eq, lc2Run2_eq, fcD_eq, fcL_eq, h]; done)
      | (rw [ev2, ev]; simp only [doCall2_eq h, lcRun2_eq, lc2Run2_eq, fcD_eq, fcL_eq, h]; rfl)
  | .r i, loc => by
    first
      | (rw [ev2, ev]; done)
      | (rw [ev2, ev]; simp only [doCall2_eq h, lcRun2_eq, lc2Run2_eq, fcD_eq, fcL_eq, h]; done)
      | (rw [ev2, ev]; simp only [doCall2_eq h, lcRun2_eq, lc2Run2_eq, fcD_eq, fcL_eq, h]; rfl)
  | .fz i, loc => by
    first
      | (rw [ev2, ev]; done)
      | (rw [ev2, ev]; simp only [doCall2_eq h, lcRun2_eq, lc2Run2_eq, fcD_eq, fcL_eq, h]; done)
      | (rw [ev2, ev]; simp only [doCall2_eq h, lcRun2_eq, lc2Run2_eq, fcD_eq, fcL_eq, h]; rfl)
  | .tup es, loc => by
    first
      | (rw [ev2, ev]; done)
      | (rw [ev2, ev]; simp only [evs2_eq h es, doCall2_eq h, lcRun2_eq, lc2Run2_eq, fcD_eq, fcL_eq, h]; done)
      | (rw [ev2, ev]; simp only [evs2_eq h es, doCall2_eq h, lcRun2_eq, lc2Run2_eq, fcD_eq, fcL_eq, h]; rfl)
  | .lst es, loc => by
    first
      | (rw [ev2, ev]; done)
      | (rw [ev2, ev]; simp only [evs2_eq h es, doCall2_eq h, lcRun2_eq, lc2Run2_eq, fcD_eq, fcL_eq, h]; done)
      | (rw [ev2, ev]; simp only [evs2_eq h es, doCall2_eq h, lcRun2_eq, lc2Run2_eq, fcD_eq, fcL_eq, h]; rfl)
  | .o1 o a, loc => by
    first
      | (rw [ev2, ev]; done)
      | (rw [ev2, ev]; simp only [ev2_eq h a, doCall2_eq h, lcRun2_eq, lc2Run2_eq, fcD_eq, fcL_eq, h]; done)
      | (rw [ev2, ev]; simp only [ev2_eq h a, doCall2_eq h, lcRun2_eq, lc2Run2_eq, fcD_eq, fcL_eq, h]; rfl)
  | .o2 o a b, loc => by
    first
      | (rw [ev2, ev]; done)
      | (rw [ev2, ev]; simp only [ev2_eq h a, ev2_eq h b, doCall2_eq h, lcRun2_eq, lc2Run2_eq, fcD_eq, fcL_eq, h]; done)
      | (rw [ev2, ev]; simp only [ev2_eq h a, ev2_eq h b, doCall2_eq h, lcRun2_eq, lc2Run2_eq, fcD_eq, fcL_eq, h]; rfl)
  | .ch o o' a b c, loc => by
    first
      | (rw [ev2, ev]; done)
      | (rw [ev2, ev]; simp only [ev2_eq h a, ev2_eq h b, ev2_eq h c, doCall2_eq h, lcRun2_eq, lc2Run2_eq, fcD_eq, fcL_eq, h]; done)
      | (rw [ev2, ev]; simp only [ev2_eq h a, ev2_eq h b, ev2_eq h c, doCall2_eq h, lcRun2_eq, lc2Run2_eq, fcD_eq, fcL_eq, h]; rfl)
  | .sl a lo hi, loc => by
    first
      | (rw [ev2, ev]; done)
      | (rw [ev2, ev]; simp only [ev2_eq h a, evo2_eq h hi, evo2_eq h lo, doCall2_eq h, lcRun2_eq, lc2Run2_eq, fcD_eq, fcL_eq, h]; done)
      | (rw [ev2, ev]; simp only [ev2_eq h a, evo2_eq h hi, evo2_eq h lo, doCall2_eq h, lcRun2_eq, lc2Run2_eq, fcD_eq, fcL_eq, h]; rfl)
  | .and a b, loc => by
    first
      | (rw [ev2, ev]; done)
      | (rw [ev2, ev]; simp only [ev2_eq h a, ev2_eq h b, doCall2_eq h, lcRun2_eq, lc2Run2_eq, fcD_eq, fcL_eq, h]; done)
      | (rw [ev2, ev]; simp only [ev2_eq h a, ev2_eq h b, doCall2_eq h, lcRun2_eq, lc2Run2_eq, fcD_eq, fcL_eq, h]; rfl)
  | .or a b, loc => by
    first
      | (rw [ev2, ev]; done)
      | (rw [ev2, ev]; simp only [ev2_eq h a, ev2_eq h b, doCall2_eq h, lcRun2_eq, lc2Run2_eq, fcD_eq, fcL_eq, h]; done)
      | (rw [ev2, ev]; simp only [ev2_eq h a, ev2_eq h b, doCall2_eq h, lcRun2_eq, lc2Run2_eq, fcD_eq, fcL_eq, h]; rfl)
  | .not a, loc => by
    first
      | (rw [ev2, ev]; done)
      | (rw [ev2, ev]; simp only [ev2_eq h a, doCall2_eq h, lcRun2_eq, lc2Run2_eq, fcD_eq, fcL_eq, h]; done)
      | (rw [ev2, ev]; simp only [ev2_eq h a, doCall2_eq h, lcRun2_eq, lc2Run2_eq, fcD_eq, fcL_eq, h]; rfl)
  | .ite c a b, loc => by
    first
      | (rw [ev2, ev]; done)
      | (rw [ev2, ev]; simp only [ev2_eq h a, ev2_eq h b, ev2_eq h c, doCall2_eq h, lcRun2_eq, lc2Run2_eq, fcD_eq, fcL_eq, h]; done)
      | (rw [ev2, ev]; simp only [ev2_eq h a, ev2_eq h b, ev2_eq h c, doCall2_eq h, lcRun2_eq, lc2Run2_eq, fcD_eq, fcL_eq, h]; rfl)
  | .call f as, loc => by
    first
      | (rw [ev2, ev]; done)
      | (rw [ev2, ev]; simp only [evs2_eq h as, doCall2_eq h, lcRun2_eq, lc2Run2_eq, fcD_eq, fcL_eq, h]; done)
      | (rw [ev2, ev]; simp only [evs2_eq h as, doCall2_eq h, lcRun2_eq, lc2Run2_eq, fcD_eq, fcL_eq, h]; rfl)
  | .callK f as ks p, loc => by
    first
      | (rw [ev2, ev]; done)
      | (rw [ev2, ev]; simp only [evs2_eq h as, evs2_eq h ks, doCall2_eq h, lcRun2_eq, lc2Run2_eq, fcD_eq, fcL_eq, h]; done)
      | (rw [ev2, ev]; simp only [evs2_eq h as, evs2_eq h ks, doCall2_eq h, lcRun2_eq, lc2Run2_eq, fcD_eq, fcL_eq, h]; rfl)
  | .lc own p it cs elt, loc => by
    first
      | (rw [ev2, ev]; done)
      | (rw [ev2, ev]; simp only [(funext (ev2_eq h elt) : (ev2 G C2 elt).run = ev G C elt), (funext (evC2_eq h cs) : (evC2 G C2 cs).run = evC G C cs), (funext (evI2_eq h it) : (evI2 G C2 it).run = evI G C it), doCall2_eq h, lcRun2_eq, lc2Run2_eq, fcD_eq, fcL_eq, h]; done)
      | (rw [ev2, ev]; simp only [(funext (ev2_eq h elt) : (ev2 G C2 elt).run = ev G C elt), (funext (evC2_eq h cs) : (evC2 G C2 cs).run = evC G C cs), (funext (evI2_eq h it) : (evI2 G C2 it).run = evI G C it), doCall2_eq h, lcRun2_eq, lc2Run2_eq, fcD_eq, fcL_eq, h]; rfl)
  | .app i e, loc => by
    first
      | (rw [ev2, ev]; done)
      | (rw [ev2, ev]; simp only [ev2_eq h e, doCall2_eq h, lcRun2_eq, lc2Run2_eq, fcD_eq, fcL_eq, h]; done)
      | (rw [ev2, ev]; simp only [ev2_eq h e, doCall2_eq h, lcRun2_eq, lc2Run2_eq, fcD_eq, fcL_eq, h]; rfl)
  | .pop i, loc => by
    first
      | (rw [ev2, ev]; done)
      | (rw [ev2, ev]; simp only [doCall2_eq h, lcRun2_eq, lc2Run2_eq, fcD_eq, fcL_eq, h]; done)
      | (rw [ev2, ev]; simp only [doCall2_eq h, lcRun2_eq, lc2Run2_eq, fcD_eq, fcL_eq, h]; rfl)
  | .popAt i e, loc => by
    first
      | (rw [ev2, ev]; done)
      | (rw [ev2, ev]; simp only [ev2_eq h e, doCall2_eq h, lcRun2_eq, lc2Run2_eq, fcD_eq, fcL_eq, h]; done)
      | (rw [ev2, ev]; simp only [ev2_eq h e, doCall2_eq h, lcRun2_eq, lc2Run2_eq, fcD_eq, fcL_eq, h]; rfl)
  | .clear i, loc => by
    first
      | (rw [ev2, ev]; done)
      | (rw [ev2, ev]; simp only [doCall2_eq h, lcRun2_eq, lc2Run2_eq, fcD_eq, fcL_eq, h]; done)
      | (rw [ev2, ev]; simp only [doCall2_eq h, lcRun2_eq, lc2Run2_eq, fcD_eq, fcL_eq, h]; rfl)
  | .ext i e, loc => by
    first
      | (rw [ev2, ev]; done)
      | (rw [ev2, ev]; simp only [ev2_eq h e, doCall2_eq h, lcRun2_eq, lc2Run2_eq, fcD_eq, fcL_eq, h]; done)
      | (rw [ev2, ev]; simp only [ev2_eq h e, doCall2_eq h, lcRun2_eq, lc2Run2_eq, fcD_eq, fcL_eq, h]; rfl)
  | .sIx i e, loc => by
    first
      | (rw [ev2, ev]; done)
      | (rw [ev2, ev]; simp only [ev2_eq h e, doCall2_eq h, lcRun2_eq, lc2Run2_eq, fcD_eq, fcL_eq, h]; done)
      | (rw [ev2, ev]; simp only [ev2_eq h e, doCall2_eq h, lcRun2_eq, lc2Run2_eq, fcD_eq, fcL_eq, h]; rfl)
  | .sLen i, loc => by
    first
      | (rw [ev2, ev]; done)
      | (rw [ev2, ev]; simp only [doCall2_eq h, lcRun2_eq, lc2Run2_eq, fcD_eq, fcL_eq, h]; done)
      | (rw [ev2, ev]; simp only [doCall2_eq h, lcRun2_eq, lc2Run2_eq, fcD_eq, fcL_eq, h]; rfl)
  | .sSl i lo hi, loc => by
    first
      | (rw [ev2, ev]; done)
      | (rw [ev2, ev]; simp only [evo2_eq h hi, evo2_eq h lo, doCall2_eq h, lcRun2_eq, lc2Run2_eq, fcD_eq, fcL_eq, h]; done)
      | (rw [ev2, ev]; simp only [evo2_eq h hi, evo2_eq h lo, doCall2_eq h, lcRun2_eq, lc2Run2_eq, fcD_eq, fcL_eq, h]; rfl)
  | .lc2 own p it cs own1 p1 it1 cs1 elt, loc => by
    first
      | (rw [ev2, ev]; done)
      | (rw [ev2, ev]; simp only [(funext (ev2_eq h elt) : (ev2 G C2 elt).run = ev G C elt), (funext (evC2_eq h cs) : (evC2 G C2 cs).run = evC G C cs), (funext (evC2_eq h cs1) : (evC2 G C2 cs1).run = evC G C cs1), (funext (evI2_eq h it) : (evI2 G C2 it).run = evI G C it), (funext (evI2_eq h it1) : (evI2 G C2 it1).run = evI G C it1), doCall2_eq h, lcRun2_eq, lc2Run2_eq, fcD_eq, fcL_eq, h]; done)
      | (rw [ev2, ev]; simp only [(funext (ev2_eq h elt) : (ev2 G C2 elt).run = ev G C elt), (funext (evC2_eq h cs) : (evC2 G C2 cs).run = evC G C cs), (funext (evC2_eq h cs1) : (evC2 G C2 cs1).run = evC G C cs1), (funext (evI2_eq h it) : (evI2 G C2 it).run = evI G C it), (funext (evI2_eq h it1) : (evI2 G C2 it1).run = evI G C it1), doCall2_eq h, lcRun2_eq, lc2Run2_eq, fcD_eq, fcL_eq, h]; rfl)
  | .mxD mx a d, loc => by
    first
      | (rw [ev2, ev]; done)
      | (rw [ev2, ev]; simp only [ev2_eq h a, ev2_eq h d, doCall2_eq h, lcRun2_eq, lc2Run2_eq, fcD_eq, fcL_eq, h]; done)
      | (rw [ev2, ev]; simp only [ev2_eq h a, ev2_eq h d, doCall2_eq h, lcRun2_eq, lc2Run2_eq, fcD_eq, fcL_eq, h]; rfl)
  | .thaw i a, loc => by
    first
      | (rw [ev2, ev]; done)
      | (rw [ev2, ev]; simp only [ev2_eq h a, doCall2_eq h, lcRun2_eq, lc2Run2_eq, fcD_eq, fcL_eq, h]; done)
      | (rw [ev2, ev]; simp only [ev2_eq h a, doCall2_eq h, lcRun2_eq, lc2Run2_eq, fcD_eq, fcL_eq, h]; rfl)
  | .fld tb a, loc => by
    first
      | (rw [ev2, ev]; done)
      | (rw [ev2, ev]; simp only [ev2_eq h a, doCall2_eq h, lcRun2_eq, lc2Run2_eq, fcD_eq, fcL_eq, h]; done)
      | (rw [ev2, ev]; simp only [ev2_eq h a, doCall2_eq h, lcRun2_eq, lc2Run2_eq, fcD_eq, fcL_eq, h]; rfl)
  | .meth tb a as, loc => by
    first
      | (rw [ev2, ev]; done)
      | (rw [ev2, ev]; simp only [ev2_eq h a, evs2_eq h as, doCall2_eq h, lcRun2_eq, lc2Run2_eq, fcD_eq, fcL_eq, h]; done)
      | (rw [ev2, ev]; simp only [ev2_eq h a, evs2_eq h as, doCall2_eq h, lcRun2_eq, lc2Run2_eq, fcD_eq, fcL_eq, h]; rfl)
  | .make c f as, loc => by
    first
      | (rw [ev2, ev]; done)
      | (rw [ev2, ev]; simp only [evs2_eq h as, doCall2_eq h, lcRun2_eq, lc2Run2_eq, fcD_eq, fcL_eq, h]; done)
      | (rw [ev2, ev]; simp only [evs2_eq h as, doCall2_eq h, lcRun2_eq, lc2Run2_eq, fcD_eq, fcL_eq, h]; rfl)
  | .sumR (.rng1 a), loc => by
    first
      | (rw [ev2, ev]; done)
      | (rw [ev2, ev]; simp only [ev2_eq h a, doCall2_eq h, lcRun2_eq, lc2Run2_eq, fcD_eq, fcL_eq, h]; done)
      | (rw [ev2, ev]; simp only [ev2_eq h a, doCall2_eq h, lcRun2_eq, lc2Run2_eq, fcD_eq, fcL_eq, h]; rfl)
  | .sumR (.seq a), loc => by simp only [ev2, ev]
  | .sumR (.tpl a), loc => by simp only [ev2, ev]
  | .sumR (.rng2 a b), loc => by simp only [ev2, ev]
  | .sumR (.enum a), loc => by simp only [ev2, ev]
  | .sumR (.zip a b), loc => by simp only [ev2, ev]
  | .ch3 o o' o'' a b c d, loc => by
    first
      | (rw [ev2, ev]; done)
      | (rw [ev2, ev]; simp only [ev2_eq h a, ev2_eq h b, ev2_eq h c, ev2_eq h d, doCall2_eq h, lcRun2_eq, lc2Run2_eq, fcD_eq, fcL_eq, h]; done)
      | (rw [ev2, ev]; simp only [ev2_eq h a, ev2_eq h b, ev2_eq h c, ev2_eq h d, doCall2_eq h, lcRun2_eq, lc2Run2_eq, fcD_eq, fcL_eq, h]; rfl)
  | .bad, loc => by
    first
      | (rw [ev2, ev]; done)
      | (rw [ev2, ev]; simp only [doCall2_eq h, lcRun2_eq, lc2Run2_eq, fcD_eq, fcL_eq, h]; done)
      | (rw [ev2, ev]; simp only [doCall2_eq h, lcRun2_eq, lc2Run2_eq, fcD_eq, fcL_eq, h]; rfl)
  | .lrng it, loc => by
    first
      | (rw [ev2, ev]; done)
      | (rw [ev2, ev]; simp only [evI2_eq h it, doCall2_eq h, lcRun2_eq, lc2Run2_eq, fcD_eq, fcL_eq, h]; done)
      | (rw [ev2, ev]; simp only [evI2_eq h it, doCall2_eq h, lcRun2_eq, lc2Run2_eq, fcD_eq, fcL_eq, h]; rfl)
theorem evs2_eq {G : Nat → D} {C : CallS} {C2 : CallF} (h : ∀ f a, (C2 f).run a = C f a) : ∀ (e : List ME) (loc : Loc), (evs2 G C2 e).run loc = evs G C e loc
  | [], loc => by
    first
      | (rw [evs2, evs]; done)
      | (rw [evs2, evs]; simp only [doCall2_eq h, lcRun2_eq, lc2Run2_eq, fcD_eq, fcL_eq, h]; done)
      | (rw [evs2, evs]; simp only [doCall2_eq h, lcRun2_eq, lc2Run2_eq, fcD_eq, fcL_eq, h]; rfl)
  | e :: es, loc => by
    first
      | (rw [evs2, evs]; done)
      | (rw [evs2, evs]; simp only [ev2_eq h e, evs2_eq h es, doCall2_eq h, lcRun2_eq, lc2Run2_eq, fcD_eq, fcL_eq, h]; done)
      | (rw [evs2, evs]; simp only [ev2_eq h e, evs2_eq h es, doCall2_eq h, lcRun2_eq, lc2Run2_eq, fcD_eq, fcL_eq, h]; rfl)
theorem evo2_eq {G : Nat → D} {C : CallS} {C2 : CallF} (h : ∀ f a, (C2 f).run a = C f a) : ∀ (e : Option ME) (loc : Loc), (evo2 G C2 e).run loc = evo G C e loc
  | none, loc => by
    first
      | (rw [evo2, evo]; done)
      | (rw [evo2, evo]; simp only [doCall2_eq h, lcRun2_eq, lc2Run2_eq, fcD_eq, fcL_eq, h]; done)
      | (rw [evo2, evo]; simp only [doCall2_eq h, lcRun2_eq, lc2Run2_eq, fcD_eq, fcL_eq, h]; rfl)
  | some e, loc => by
    first
      | (rw [evo2, evo]; done)
      | (rw [evo2, evo]; simp only [ev2_eq h e, doCall2_eq h, lcRun2_eq, lc2Run2_eq, fcD_eq, fcL_eq, h]; done)
      | (rw [evo2, evo]; simp only [ev2_eq h e, doCall2_eq h, lcRun2_eq, lc2Run2_eq, fcD_eq, fcL_eq, h]; rfl)
theorem evC2_eq {G : Nat → D} {C : CallS} {C2 : CallF} (h : ∀ f a, (C2 f).run a = C f a) : ∀ (e : List ME) (loc : Loc), (evC2 G C2 e).run loc = evC G C e loc
  | [], loc => by
    first
      | (rw [evC2, evC]; done)
      | (rw [evC2, evC]; simp only [doCall2_eq h, lcRun2_eq, lc2Run2_eq, fcD_eq, fcL_eq, h]; done)
      | (rw [evC2, evC]; simp only [doCall2_eq h, lcRun2_eq, lc2Run2_eq, fcD_eq, fcL_eq, h]; rfl)
  | e :: es, loc => by
    first
      | (rw [evC2, evC]; done)
      | (rw [evC2, evC]; simp only [ev2_eq h e, evC2_eq h es, doCall2_eq h, lcRun2_eq, lc2Run2_eq, fcD_eq, fcL_eq, h]; done)
      | (rw [evC2, evC]; simp only [ev2_eq h e, evC2_eq h es, doCall2_eq h, lcRun2_eq, lc2Run2_eq, fcD_eq, fcL_eq, h]; rfl)
theorem evI2_eq {G : Nat → D} {C : CallS} {C2 : CallF} (h : ∀ f a, (C2 f).run a = C f a) : ∀ (e : IT) (loc : Loc), (evI2 G C2 e).run loc = evI G C e loc
  | .seq a, loc => by
    first
      | (rw [evI2, evI]; done)
      | (rw [evI2, evI]; simp only [ev2_eq h a, doCall2_eq h, lcRun2_eq, lc2Run2_eq, fcD_eq, fcL_eq, h]; done)
      | (rw [evI2, evI]; simp only [ev2_eq h a, doCall2_eq h, lcRun2_eq, lc2Run2_eq, fcD_eq, fcL_eq, h]; rfl)
  | .tpl a, loc => by
    first
      | (rw [evI2, evI]; done)
      | (rw [evI2, evI]; simp only [ev2_eq h a, doCall2_eq h, lcRun2_eq, lc2Run2_eq, fcD_eq, fcL_eq, h]; done)
      | (rw [evI2, evI]; simp only [ev2_eq h a, doCall2_eq h, lcRun2_eq, lc2Run2_eq, fcD_eq, fcL_eq, h]; rfl)
  | .rng1 a, loc => by
    first
      | (rw [evI2, evI]; done)
      | (rw [evI2, evI]; simp only [ev2_eq h a, doCall2_eq h, lcRun2_eq, lc2Run2_eq, fcD_eq, fcL_eq, h]; done)
      | (rw [evI2, evI]; simp only [ev2_eq h a, doCall2_eq h, lcRun2_eq, lc2Run2_eq, fcD_eq, fcL_eq, h]; rfl)
  | .rng2 a b, loc => by
    first
      | (rw [evI2, evI]; done)
      | (rw [evI2, evI]; simp only [ev2_eq h a, ev2_eq h b, doCall2_eq h, lcRun2_eq, lc2Run2_eq, fcD_eq, fcL_eq, h]; done)
      | (rw [evI2, evI]; simp only [ev2_eq h a, ev2_eq h b, doCall2_eq h, lcRun2_eq, lc2Run2_eq, fcD_eq, fcL_eq, h]; rfl)
  | .enum a, loc => by
    first
      | (rw [evI2, evI]; done)
      | (rw [evI2, evI]; simp only [ev2_eq h a, doCall2_eq h, lcRun2_eq, lc2Run2_eq, fcD_eq, fcL_eq, h]; done)
      | (rw [evI2, evI]; simp only [ev2_eq h a, doCall2_eq h, lcRun2_eq, lc2Run2_eq, fcD_eq, fcL_eq, h]; rfl)
  | .zip a b, loc => by
    first
      | (rw [evI2, evI]; done)
      | (rw [evI2, evI]; simp only [ev2_eq h a, ev2_eq h b, doCall2_eq h, lcRun2_eq, lc2Run2_eq, fcD_eq, fcL_eq, h]; done)
      | (rw [evI2, evI]; simp only [ev2_eq h a, ev2_eq h b, doCall2_eq h, lcRun2_eq, lc2Run2_eq, fcD_eq, fcL_eq, h]; rfl)
end
def evT2 (G : Nat → D) (C : CallF) (m : ME) : Fn Loc (Option (Bool × Loc)) := ⟨fun loc => match (ev2 G C m).run loc with
  | some (r, l1) => match res l1 r with
    | some d => match truth d with
      | some k => some (k, l1)
      | none => none
    | none => none
  | none => none⟩
theorem evT2_eq {G : Nat → D} {C : CallS} {C2 : CallF} (h : ∀ f a, (C2 f).run a = C f a) (e : ME) (loc : Loc) : (evT2 G C2 e).run loc = evT G C e loc := by
  unfold evT2 evT
  simp only [ev2_eq h]
  all_goals rfl
mutual
def sx2 (G : Nat → D) (C : CallF) (F : Nat) : MS → Fn Loc (Option Out)
  | .set p e => ⟨fun loc => match (ev2 G C e).run loc with
    | some (r, l1) => match toVal r with
      | some d => fcD d fun d => (bindP p d l1).map .nx
      | none => none
    | none => none⟩
  | .own i e => ⟨fun loc => match (ev2 G C e).run loc with
    | some (.new ds, l1) => fcDs ds fun ds => (put l1 i (.own false ds)).map .nx
    | _ => none⟩
  | .par i j a b => ⟨fun loc => match (ev2 G C a).run loc with
    | some (r, l1) => match (ev2 G C b).run l1 with
      | some (r', l2) => match toVal r, toVal r' with
        | some d, some e => fcD d fun d => fcD e fun e => match put l2 i (.dat d) with
          | some l3 => (put l3 j (.dat e)).map .nx
          | none => none
        | _, _ => none
      | none => none
    | none => none⟩
  | .aug i o e => ⟨fun loc => match loc[i]? with
    | some (.dat d) => match (ev2 G C e).run loc with
      | some (r, l1) => match d, toVal r with
        | .int x, some (.int y) => match o with
          | .add => fcI (x + y) fun z => (put l1 i (.dat (.int z))).map .nx
          | .sub => fcI (x - y) fun z => (put l1 i (.dat (.int z))).map .nx
          | _ => none
        | _, _ => none
      | none => none
    | _ => none⟩
  | .ex e => ⟨fun loc => match (ev2 G C e).run loc with
    | some (_, l1) => some (.nx l1)
    | none => none⟩
  | .ret e => ⟨fun loc => match (ev2 G C e).run loc with
    | some (r, l1) => match r with
      | .ref _ => none
      | r => some (.rt r l1)
    | none => none⟩
  | .retN => ⟨fun loc => some (.rt (.val .non) loc)⟩
  | .ite c t f => ⟨fun loc => match (evT2 G C c).run loc with
    | some (true, l1) => (sxs2 G C F t).run l1
    | some (false, l1) => (sxs2 G C F f).run l1
    | none => none⟩
  | .loop p it b => ⟨fun loc => match (evI2 G C it).run loc with
    | some (items, l1) => forRun2 p ((sxs2 G C F b).run) items l1
    | none => none⟩
  | .wh c b => ⟨fun loc => whRun2 ((evT2 G C c).run) ((sxs2 G C F b).run) F loc⟩
  | .put i k e => ⟨fun loc => match (ev2 G C e).run loc with
    | some (r, l1) => match l1[i]? with
      | some (.own _ _) => match (ev2 G C k).run l1 with
        | some (.val (.int n), l2) => match toVal r, l2[i]? with
          | some d, some (.own b ds) => if 0 ≤ n ∧ n < ds.length then fcD d fun d => some (.nx (l2.set i (.own b (ds.set n.toNat d)))) else none
          | _, _ => none
        | _ => none
      | _ => none
    | none => none⟩
  | .pass => ⟨fun loc => some (.nx loc)⟩
  | .brk => ⟨fun loc => some (.bk loc)⟩
  | .cont => ⟨fun loc => some (.ct loc)⟩
  | .bad => ⟨fun _ => none⟩
  | .retO i => ⟨fun loc => match loc[i]? with
    | some (.own false ds) => some (.rt (.new ds) (loc.set i .none))
    | some (.dat d) => some (.rt (.val d) loc)
    | _ => none⟩
  | .forget is => ⟨fun loc => if is.all (free loc) then some (.nx (wipeL loc is)) else none⟩
  | .par3 i j k a b c => ⟨fun loc => match (ev2 G C a).run loc with
    | some (ra, l1) => match (ev2 G C b).run l1 with
      | some (rb, l2) => match (ev2 G C c).run l2 with
        | some (rc, l3) => match toVal ra, toVal rb, toVal rc with
          | some x, some y, some z => match put l3 i (.dat x) with
            | some l4 => match put l4 j (.dat y) with
              | some l5 => (put l5 k (.dat z)).map .nx
              | none => none
            | none => none
          | _, _, _ => none
        | none => none
      | none => none
    | none => none⟩
  | .augL i e => ⟨fun loc => match loc[i]? with
    | some (.own _ _) => match (ev2 G C e).run loc with
      | some (r, l1) => match toVal r, l1[i]? with
        | some (.lst es), some (.own b ds) => if ds.length + es.length ≤ big then fcDs (ds ++ es) fun es => some (.nx (l1.set i (.own b es))) else none
        | _, _ => none
      | none => none
    | _ => none⟩
def sxs2 (G : Nat → D) (C : CallF) (F : Nat) : List MS → Fn Loc (Option Out)
  | [] => ⟨fun loc => some (.nx loc)⟩
  | s :: ss => ⟨fun loc => match (sx2 G C F s).run loc with
    | some (.nx l1) => fcLoc l1 fun l1 => (sxs2 G C F ss).run l1
    | o => o⟩
end
theorem wh_fun {G : Nat → D} {C : CallS} {C2 : CallF} (h : ∀ f a, (C2 f).run a = C f a) (e : ME) : (evT2 G C2 e).run = evT G C e := funext (evT2_eq h e)
mutual
theorem sx2_eq {G : Nat → D} {C : CallS} {C2 : CallF} {F : Nat} (h : ∀ f a, (C2 f).run a = C f a) : ∀ (e : MS) (loc : Loc), (sx2 G C2 F e).run loc = sx G C F e loc
  | .set p e, loc => by
    first
      | (rw [sx2, sx]; done)
      | (rw [sx2, sx]; simp only [ev2_eq h, evs2_eq h, evI2_eq h, evT2_eq h, forRun2_eq, whRun2_eq, fcD_eq, fcDs_eq, fcI_eq]; done)
      | (rw [sx2, sx]; simp only [ev2_eq h, evs2_eq h, evI2_eq h, evT2_eq h, forRun2_eq, whRun2_eq, fcD_eq, fcDs_eq, fcI_eq]; rfl)
  | .own i e, loc => by
    first
      | (rw [sx2, sx]; done)
      | (rw [sx2, sx]; simp only [ev2_eq h, evs2_eq h, evI2_eq h, evT2_eq h, forRun2_eq, whRun2_eq, fcD_eq, fcDs_eq, fcI_eq]; done)
      | (rw [sx2, sx]; simp only [ev2_eq h, evs2_eq h, evI2_eq h, evT2_eq h, forRun2_eq, whRun2_eq, fcD_eq, fcDs_eq, fcI_eq]; rfl)
  | .par i j a b, loc => by
    first
      | (rw [sx2, sx]; done)
      | (rw [sx2, sx]; simp only [ev2_eq h, evs2_eq h, evI2_eq h, evT2_eq h, forRun2_eq, whRun2_eq, fcD_eq, fcDs_eq, fcI_eq]; done)
      | (rw [sx2, sx]; simp only [ev2_eq h, evs2_eq h, evI2_eq h, evT2_eq h, forRun2_eq, whRun2_eq, fcD_eq, fcDs_eq, fcI_eq]; rfl)
  | .aug i o e, loc => by
    first
      | (rw [sx2, sx]; done)
      | (rw [sx2, sx]; simp only [ev2_eq h, evs2_eq h, evI2_eq h, evT2_eq h, forRun2_eq, whRun2_eq, fcD_eq, fcDs_eq, fcI_eq]; done)
      | (rw [sx2, sx]; simp only [ev2_eq h, evs2_eq h, evI2_eq h, evT2_eq h, forRun2_eq, whRun2_eq, fcD_eq, fcDs_eq, fcI_eq]; rfl)
  | .ex e, loc => by
    first
      | (rw [sx2, sx]; done)
      | (rw [sx2, sx]; simp only [ev2_eq h, evs2_eq h, evI2_eq h, evT2_eq h, forRun2_eq, whRun2_eq, fcD_eq, fcDs_eq, fcI_eq]; done)
      | (rw [sx2, sx]; simp only [ev2_eq h, evs2_eq h, evI2_eq h, evT2_eq h, forRun2_eq, whRun2_eq, fcD_eq, fcDs_eq, fcI_eq]; rfl)
  | .ret e, loc => by
    first
      | (rw [sx2, sx]; done)
      | (rw [sx2, sx]; simp only [ev2_eq h, evs2_eq h, evI2_eq h, evT2_eq h, forRun2_eq, whRun2_eq, fcD_eq, fcDs_eq, fcI_eq]; done)
      | (rw [sx2, sx]; simp only [ev2_eq h, evs2_eq h, evI2_eq h, evT2_eq h, forRun2_eq, whRun2_eq, fcD_eq, fcDs_eq, fcI_eq]; rfl)
  | .retN, loc => by
    first
      | (rw [sx2, sx]; done)
      | (rw [sx2, sx]; simp only [ev2_eq h, evs2_eq h, evI2_eq h, evT2_eq h, forRun2_eq, whRun2_eq, fcD_eq, fcDs_eq, fcI_eq]; done)
      | (rw [sx2, sx]; simp only [ev2_eq h, evs2_eq h, evI2_eq h, evT2_eq h, forRun2_eq, whRun2_eq, fcD_eq, fcDs_eq, fcI_eq]; rfl)
  | .ite c t f, loc => by
    first
      | (rw [sx2, sx]; done)
      | (rw [sx2, sx]; simp only [sxs2_eq h f, sxs2_eq h t, ev2_eq h, evs2_eq h, evI2_eq h, evT2_eq h, forRun2_eq, whRun2_eq, fcD_eq, fcDs_eq, fcI_eq]; done)
      | (rw [sx2, sx]; simp only [sxs2_eq h f, sxs2_eq h t, ev2_eq h, evs2_eq h, evI2_eq h, evT2_eq h, forRun2_eq, whRun2_eq, fcD_eq, fcDs_eq, fcI_eq]; rfl)
  | .loop p it b, loc => by
    first
      | (rw [sx2, sx]; done)
      | (rw [sx2, sx]; simp only [(funext (sxs2_eq h b) : (sxs2 G C2 F b).run = sxs G C F b), ev2_eq h, evs2_eq h, evI2_eq h, evT2_eq h, forRun2_eq, whRun2_eq, fcD_eq, fcDs_eq, fcI_eq]; done)
      | (rw [sx2, sx]; simp only [(funext (sxs2_eq h b) : (sxs2 G C2 F b).run = sxs G C F b), ev2_eq h, evs2_eq h, evI2_eq h, evT2_eq h, forRun2_eq, whRun2_eq, fcD_eq, fcDs_eq, fcI_eq]; rfl)
  | .wh c b, loc => by
    first
      | (rw [sx2, sx]; done)
      | (rw [sx2, sx]; simp only [(funext (sxs2_eq h b) : (sxs2 G C2 F b).run = sxs G C F b), wh_fun h c, ev2_eq h, evs2_eq h, evI2_eq h, evT2_eq h, forRun2_eq, whRun2_eq, fcD_eq, fcDs_eq, fcI_eq]; done)
      | (rw [sx2, sx]; simp only [(funext (sxs2_eq h b) : (sxs2 G C2 F b).run = sxs G C F b), wh_fun h c, ev2_eq h, evs2_eq h, evI2_eq h, evT2_eq h, forRun2_eq, whRun2_eq, fcD_eq, fcDs_eq, fcI_eq]; rfl)
  | .put i k e, loc => by
    first
      | (rw [sx2, sx]; done)
      | (rw [sx2, sx]; simp only [ev2_eq h, evs2_eq h, evI2_eq h, evT2_eq h, forRun2_eq, whRun2_eq, fcD_eq, fcDs_eq, fcI_eq]; done)
      | (rw [sx2, sx]; simp only [ev2_eq h, evs2_eq h, evI2_eq h, evT2_eq h, forRun2_eq, whRun2_eq, fcD_eq, fcDs_eq, fcI_eq]; rfl)
  | .pass, loc => by
    first
      | (rw [sx2, sx]; done)
      | (rw [sx2, sx]; simp only [ev2_eq h, evs2_eq h, evI2_eq h, evT2_eq h, forRun2_eq, whRun2_eq, fcD_eq, fcDs_eq, fcI_eq]; done)
      | (rw [sx2, sx]; simp only [ev2_eq h, evs2_eq h, evI2_eq h, evT2_eq h, forRun2_eq, whRun2_eq, fcD_eq, fcDs_eq, fcI_eq]; rfl)
  | .brk, loc => by
    first
      | (rw [sx2, sx]; done)
      | (rw [sx2, sx]; simp only [ev2_eq h, evs2_eq h, evI2_eq h, evT2_eq h, forRun2_eq, whRun2_eq, fcD_eq, fcDs_eq, fcI_eq]; done)
      | (rw [sx2, sx]; simp only [ev2_eq h, evs2_eq h, evI2_eq h, evT2_eq h, forRun2_eq, whRun2_eq, fcD_eq, fcDs_eq, fcI_eq]; rfl)
  | .cont, loc => by
    first
      | (rw [sx2, sx]; done)
      | (rw [sx2, sx]; simp only [ev2_eq h, evs2_eq h, evI2_eq h, evT2_eq h, forRun2_eq, whRun2_eq, fcD_eq, fcDs_eq, fcI_eq]; done)
      | (rw [sx2, sx]; simp only [ev2_eq h, evs2_eq h, evI2_eq h, evT2_eq h, forRun2_eq, whRun2_eq, fcD_eq, fcDs_eq, fcI_eq]; rfl)
  | .bad, loc => by
    first
      | (rw [sx2, sx]; done)
      | (rw [sx2, sx]; simp only [ev2_eq h, evs2_eq h, evI2_eq h, evT2_eq h, forRun2_eq, whRun2_eq, fcD_eq, fcDs_eq, fcI_eq]; done)
      | (rw [sx2, sx]; simp only [ev2_eq h, evs2_eq h, evI2_eq h, evT2_eq h, forRun2_eq, whRun2_eq, fcD_eq, fcDs_eq, fcI_eq]; rfl)
  | .retO i, loc => by
    first
      | (rw [sx2, sx]; done)
      | (rw [sx2, sx]; simp only [ev2_eq h, evs2_eq h, evI2_eq h, evT2_eq h, forRun2_eq, whRun2_eq, fcD_eq, fcDs_eq, fcI_eq]; done)
      | (rw [sx2, sx]; simp only [ev2_eq h, evs2_eq h, evI2_eq h, evT2_eq h, forRun2_eq, whRun2_eq, fcD_eq, fcDs_eq, fcI_eq]; rfl)
  | .forget is, loc => by
    first
      | (rw [sx2, sx]; done)
      | (rw [sx2, sx]; simp only [ev2_eq h, evs2_eq h, evI2_eq h, evT2_eq h, forRun2_eq, whRun2_eq, fcD_eq, fcDs_eq, fcI_eq]; done)
      | (rw [sx2, sx]; simp only [ev2_eq h, evs2_eq h, evI2_eq h, evT2_eq h, forRun2_eq, whRun2_eq, fcD_eq, fcDs_eq, fcI_eq]; rfl)
  | .par3 i j k a b c, loc => by
    first
      | (rw [sx2, sx]; done)
      | (rw [sx2, sx]; simp only [ev2_eq h, evs2_eq h, evI2_eq h, evT2_eq h, forRun2_eq, whRun2_eq, fcD_eq, fcDs_eq, fcI_eq]; done)
      | (rw [sx2, sx]; simp only [ev2_eq h, evs2_eq h, evI2_eq h, evT2_eq h, forRun2_eq, whRun2_eq, fcD_eq, fcDs_eq, fcI_eq]; rfl)
  | .augL i e, loc => by
    first
      | (rw [sx2, sx]; done)
      | (rw [sx2, sx]; simp only [ev2_eq h, evs2_eq h, evI2_eq h, evT2_eq h, forRun2_eq, whRun2_eq, fcD_eq, fcDs_eq, fcI_eq]; done)
      | (rw [sx2, sx]; simp only [ev2_eq h, evs2_eq h, evI2_eq h, evT2_eq h, forRun2_eq, whRun2_eq, fcD_eq, fcDs_eq, fcI_eq]; rfl)
theorem sxs2_eq {G : Nat → D} {C : CallS} {C2 : CallF} {F : Nat} (h : ∀ f a, (C2 f).run a = C f a) : ∀ (e : List MS) (loc : Loc), (sxs2 G C2 F e).run loc = sxs G C F e loc
  | [], loc => by rw [sxs2, sxs]
  | s :: ss, loc => by
    rw [sxs2, sxs]
    simp only [sx2_eq h s, sxs2_eq h ss, fcLoc_eq]
    try rfl
end
def runFD2 (G : Nat → D) (C : CallF) (F : Nat) (d : FD) : Fn Loc (Option (R × Loc)) := ⟨fun a =>
  if a.length = d.arity then
    fcLoc (a ++ List.replicate (d.slots - d.arity) .none) fun l0 => match (sxs2 G C F d.body).run l0 with
    | some (.rt r l) => match lent a l with
      | some a' => some (r, a')
      | none => none
    | some (.nx l) => match lent a l with
      | some a' => some (.val .non, a')
      | none => none
    | _ => none
  else none⟩
theorem runFD2_eq {G : Nat → D} {C : CallS} {C2 : CallF} {F : Nat} (h : ∀ f a, (C2 f).run a = C f a) (d : FD) (a : Loc) : (runFD2 G C2 F d).run a = runFD G C F d a := by
  unfold runFD2 runFD
  simp only [sxs2_eq h, fcLoc_eq]
  try rfl
def ctRunF2 (G : Nat → D) (C : CallF) (F : Nat) (c : Nat) (post : List MS) : List ME → List D → Loc → Option (List D)
  | e :: fs, acc, loc => match (ev2 G C e).run loc with
    | some (r, l1) => match toVal r with
      | some d => fcD d fun d => ctRunF2 G C F c post fs (acc ++ [d]) l1
      | none => none
    | none => none
  | [], acc, loc => match (sxs2 G C F post).run (loc.set 0 (.dat (.ins c acc))) with
    | some (.nx _) => some acc
    | _ => none
theorem ctRunF2_eq {G : Nat → D} {C : CallS} {C2 : CallF} {F c : Nat} {post : List MS} (h : ∀ f a, (C2 f).run a = C f a) : ∀ (fs : List ME) (acc : List D) (loc : Loc), ctRunF2 G C2 F c post fs acc loc = ctRun.ctRunF G C F c post fs acc loc
  | [], acc, loc => by
    rw [ctRunF2, ctRun.ctRunF]
    simp only [sxs2_eq h]
    try rfl
  | e :: fs, acc, loc => by
    rw [ctRunF2, ctRun.ctRunF]
    simp only [ev2_eq h, fcD_eq, ctRunF2_eq h fs]
    try rfl
def ctRun2 (G : Nat → D) (C : CallF) (F : Nat) (c : Nat) (post : List MS) (fs : List ME) : List MS → Loc → Option (List D)
  | m :: pre, loc => match (sx2 G C F m).run loc with
    | some (.nx l1) => fcLoc l1 fun l1 => ctRun2 G C F c post fs pre l1
    | _ => none
  | [], loc => ctRunF2 G C F c post fs [] loc
theorem ctRun2_eq {G : Nat → D} {C : CallS} {C2 : CallF} {F c : Nat} {post : List MS} {fs : List ME} (h : ∀ f a, (C2 f).run a = C f a) : ∀ (pre : List MS) (loc : Loc), ctRun2 G C2 F c post fs pre loc = ctRun G C F c post pre fs [] loc
  | [], loc => by
    rw [ctRun2, ctRun]
    exact ctRunF2_eq h fs [] loc
  | m :: pre, loc => by
    rw [ctRun2, ctRun]
    simp only [sx2_eq h, fcLoc_eq, ctRun2_eq h pre]
    try rfl
def runCT2 (G : Nat → D) (C : CallF) (F : Nat) (d : FD) (ct : CT) : Fn Loc (Option (R × Loc)) := ⟨fun a =>
  if a.length + 1 = d.arity then
    if allDat a then
      fcLoc (.hid :: (a ++ List.replicate (d.slots - d.arity) .none)) fun l0 => match ctRun2 G C F ct.c ct.post ct.fs d.body l0 with
      | some ds => some (.val (.ins ct.c ds), a)
      | none => none
    else none
  else none⟩
theorem runCT2_eq {G : Nat → D} {C : CallS} {C2 : CallF} {F : Nat} (h : ∀ f a, (C2 f).run a = C f a) (d : FD) (ct : CT) (a : Loc) : (runCT2 G C2 F d ct).run a = runCT G C F d ct a := by
  unfold runCT2 runCT
  simp only [ctRun2_eq h, fcLoc_eq]
  try rfl
def calls2 (G : Nat → D) (T : List FD) (F : Nat) : Nat → CallF
  | 0, _ => ⟨fun _ => none⟩
  | n + 1, f => match T[f]? with
    | some d => match d.ct with
      | none => runFD2 G (calls2 G T F n) F d
      | some ct => match n with
        | 0 => ⟨fun _ => none⟩
        | m + 1 => runCT2 G (calls2 G T F m) F d ct
    | none => ⟨fun _ => none⟩
theorem calls2_eq {G : Nat → D} {T : List FD} {F : Nat} : ∀ (n f : Nat) (a : Loc), (calls2 G T F n f).run a = callN G T F n f a := fun n => by
  induction n using Nat.strongRecOn with
  | ind n ih =>
    intro f a
    match n, ih with
    | 0, _ => rfl
    | n + 1, ih =>
      simp only [calls2, callN]
      cases hT : T[f]? with
      | none => rfl
      | some d =>
        cases hc : d.ct with
        | none =>
          simp only [hc]
          exact runFD2_eq (fun f a => ih n (Nat.lt_succ_self _) f a) _ a
        | some ct =>
          simp only [hc]
          match n, ih with
          | 0, _ => rfl
          | m + 1, ih => exact runCT2_eq (fun f a => ih m (by omega) f a) _ _ a
end MP

namespace MP
open PySem L2

/-! ### plain tools: calls, loops, comprehensions -/
section
variable {G : Nat → D}
theorem lent_dat : ∀ {ds : List D} {l a' : Loc}, lent (ds.map Slot.dat) l = some a' → a' = ds.map Slot.dat
  | [], l, a', h => by simp only [List.map_nil, lent, Option.some.injEq] at h; exact h.symm
  | d :: ds, l, a', h => by
    simp only [List.map_cons, lent] at h
    split at h
    · split at h
      · rename_i l' r h1
        cases h
        rw [lent_dat h1]; rfl
      · cases h
    · cases h
theorem runFD_dat {C : CallS} {F : Nat} {d : FD} {ds : List D} {r : R} {a' : Loc} (h : runFD G C F d (ds.map Slot.dat) = some (r, a')) : a' = ds.map Slot.dat := by
  unfold runFD at h
  split at h
  · split at h
    · split at h
      · rename_i h1
        cases h
        exact lent_dat h1
      · cases h
    · split at h
      · rename_i h1
        cases h
        exact lent_dat h1
      · cases h
    · cases h
  · cases h
theorem callN_dat {T : List FD} {F : Nat} {n j : Nat} {ds : List D} {r : R} {a' : Loc} (h : callN G T F n j (ds.map Slot.dat) = some (r, a')) : a' = ds.map Slot.dat := by
  cases n with
  | zero => simp only [callN] at h; cases h
  | succ n =>
    simp only [callN] at h
    split at h
    · split at h
      · exact runFD_dat h
      · split at h
        · cases h
        · unfold runCT at h
          split at h
          · split at h
            · split at h
              · cases h; rfl
              · cases h
            · cases h
          · cases h
    · cases h
/-- a call whose arguments are all plain -/
theorem args_dat : ∀ (ds : List D) (loc : Loc), argsOf loc (ds.map R.val) = some (ds.map Slot.dat)
  | [], _ => rfl
  | d :: ds, loc => by
    simp only [List.map_cons, argsOf, argOf]
    rw [args_dat ds loc]
theorem refs_dat : ∀ ds : List D, refs (ds.map R.val) = []
  | [] => rfl
  | d :: ds => by simp only [List.map_cons, refs]; exact refs_dat ds
theorem given_dat : ∀ (ds : List D) (loc : Loc), given (ds.map R.val) (ds.map Slot.dat) loc = some loc
  | [], _ => rfl
  | d :: ds, loc => by simp only [List.map_cons, given]; exact given_dat ds loc
theorem doCall_dat {C : CallS} {f : Nat} {ds : List D} {r : R} {loc : Loc} (h : C f (ds.map Slot.dat) = some (r, ds.map Slot.dat)) : doCall C f (ds.map R.val) loc = some (r, loc) := by
  unfold doCall
  rw [refs_dat, args_dat]
  simp only [nodupB, if_true, h, given_dat]
/-- what a def answers to plain arguments -/
def Ans (C : CallS) (f : Nat) (ds : List D) (r : R) : Prop := C f (ds.map Slot.dat) = some (r, ds.map Slot.dat)
theorem Ans.call {C : CallS} {f : Nat} {ds : List D} {r : R} (h : Ans C f ds r) (loc : Loc) : doCall C f (ds.map R.val) loc = some (r, loc) := doCall_dat h
theorem ans_of {T : List FD} {F n j : Nat} {ds : List D} {r : R} {a' : Loc} (h : callN G T F n j (ds.map Slot.dat) = some (r, a')) : Ans (callN G T F n) j ds r := by
  have := callN_dat h
  subst this
  exact h
/-- a loop that keeps something -/
theorem for_inv {p : Pat} {body : Loc → Option Out} {I : Loc → Prop} {M : D → Prop} (hb : ∀ d loc, M d → I loc → ∃ l1 l2, bindP p d loc = some l1 ∧ (body l1 = some (.nx l2) ∨ body l1 = some (.ct l2)) ∧ I l2) : ∀ (ds : List D) (loc : Loc), (∀ d ∈ ds, M d) → I loc → ∃ l2, forRun p body ds loc = some (.nx l2) ∧ I l2
  | [], loc, _, h => ⟨loc, rfl, h⟩
  | d :: ds, loc, hm, h => by
    obtain ⟨l1, l2, e1, e2, e3⟩ := hb d loc (hm d (List.mem_cons_self ..)) h
    obtain ⟨l3, e4, e5⟩ := for_inv hb ds l2 (fun x hx => hm x (List.mem_cons_of_mem _ hx)) e3
    refine ⟨l3, ?_, e5⟩
    simp only [forRun, e1]
    rcases e2 with e2 | e2 <;> rw [e2] <;> exact e4
/-- a comprehension over one name, no test -/
theorem lc_map {own : List Nat} {p : Pat} {elt : Loc → Option (R × Loc)} {w : Loc} {f : D → D} : ∀ (ds : List D), (∀ d ∈ ds, ∃ l1 r l3, bindP p d w = some l1 ∧ elt l1 = some (r, l3) ∧ toVal r = some (f d) ∧ wipeL l3 own = w) →
    lcRun own p (fun l => some (true, l)) elt ds w = some (ds.map f, w)
  | [], _ => rfl
  | d :: ds, h => by
    obtain ⟨l1, r, l3, e1, e2, e3, e4⟩ := h d (List.mem_cons_self ..)
    simp only [lcRun, e1, e2, e3, e4, lc_map ds (fun x hx => h x (List.mem_cons_of_mem _ hx)), List.map_cons]
/-- the same with a test -/
theorem lc_filter {own : List Nat} {p : Pat} {cond : Loc → Option (Bool × Loc)} {elt : Loc → Option (R × Loc)} {w : Loc} {q : D → Bool} {f : D → D} : ∀ (ds : List D), (∀ d ∈ ds, ∃ l1 l2, bindP p d w = some l1 ∧ cond l1 = some (q d, l2) ∧ (q d = false → wipeL l2 own = w) ∧ (q d = true → ∃ r l3, elt l2 = some (r, l3) ∧ toVal r = some (f d) ∧ wipeL l3 own = w)) →
    lcRun own p cond elt ds w = some ((ds.filter q).map f, w)
  | [], _ => rfl
  | d :: ds, h => by
    obtain ⟨l1, l2, e1, e2, e3, e4⟩ := h d (List.mem_cons_self ..)
    have ih := lc_filter ds (fun x hx => h x (List.mem_cons_of_mem _ hx))
    cases hq : q d with
    | true =>
      obtain ⟨r, l3, g1, g2, g3⟩ := e4 hq
      rw [hq] at e2
      simp only [lcRun, e1, e2, g1, g2, g3, ih, List.filter_cons, hq, if_true, List.map_cons]
    | false =>
      rw [hq] at e2
      have g := e3 hq
      simp only [lcRun, e1, e2, g, ih, List.filter_cons, hq, Bool.false_eq_true, if_false]
theorem rngL_eq : ∀ (n : Nat) (lo : Int), rngL lo n = (List.range n).map fun i : Nat => D.int (lo + (i : Int))
  | 0, _ => rfl
  | n + 1, lo => by
    rw [rngL, rngL_eq n, List.range_succ_eq_map, List.map_cons, List.map_map]
    congr 1
    · simp
    · apply List.map_congr_left
      intro i _
      simp only [Function.comp_apply]
      congr 1
      omega
theorem ints_map : ∀ ns : List Int, ints? (ns.map D.int) = some ns
  | [] => rfl
  | n :: ns => by simp only [List.map_cons, ints?, ints_map ns]
end

/-! ### the laws' well -/
def IsWell (m : Nat) (ds : List D) : Prop := ∃ a c t : Int, ds = [.int a, .int c, .int t] ∧ 0 ≤ t ∧ t ≤ m
theorem pow_ok {x : Int} (h0 : 0 ≤ x) (h : x < 2 ^ 60) : powOk x 5 = true := by
  unfold powOk
  simp only [Bool.and_eq_true, decide_eq_true_eq]
  refine ⟨⟨by decide, by decide⟩, ?_⟩
  omega
theorem mul_ok {x y : Int} (h0 : 0 ≤ x) (h : x < 2 ^ 60) : mulOk x y = true := by
  unfold mulOk
  simp only [Bool.or_eq_true, Bool.and_eq_true, decide_eq_true_eq]
  exact .inl (.inl ⟨by omega, by omega⟩)
theorem fdiv_ok {x : Int} (h0 : 0 < x) (h : x < 2 ^ 62) : fdivOk x = true := by
  unfold fdivOk
  simp only [Bool.and_eq_true, decide_eq_true_eq]
  refine ⟨h0, ?_⟩
  have : x.natAbs < 2 ^ 62 := by omega
  by_cases hz : x.natAbs = 0
  · rw [hz]; decide
  · have := (Nat.log2_lt hz).mpr this
    omega
def drawA : FD := ⟨2, 5, [.ite (.o2 .gt (.o2 .ix (.r 0) (.c (.int 0))) (.c (.int 0))) [.set (.v 4) (.o2 .mod (.o2 .ix (.r 0) (.c (.int 0))) (.r 1)), .put 0 (.c (.int 0)) (.o2 .fdiv (.o2 .ix (.r 0) (.c (.int 0))) (.r 1)), .ret (.r 4)] [], .put 0 (.c (.int 2)) (.o2 .add (.o2 .ix (.r 0) (.c (.int 2))) (.c (.int 1))), .set (.v 2) (.o2 .mod (.o2 .fdiv (.o2 .ix (.r 0) (.c (.int 1))) (.c (.int 2147483629))) (.c (.int 65521))), .set (.v 3) (.o2 .mod (.o2 .pow (.o2 .add (.o2 .add (.o2 .add (.o2 .mod (.o2 .ix (.r 0) (.c (.int 1))) (.c (.int 2147483629))) (.o2 .mul (.c (.int 7919)) (.o2 .ix (.r 0) (.c (.int 2))))) (.r 2)) (.c (.int 1))) (.c (.int 5))) (.c (.int 2147483647))), .set (.v 3) (.o2 .mod (.o2 .mul (.r 3) (.o2 .add (.o2 .add (.o2 .fdiv (.r 3) (.c (.int 1009))) (.c (.int 69621))) (.o2 .ix (.r 0) (.c (.int 2))))) (.c (.int 2147483629))), .ret (.o2 .mod (.o2 .mod (.o2 .mul (.r 3) (.o2 .add (.o2 .fdiv (.r 3) (.c (.int 2003))) (.c (.int 40692)))) (.c (.int 2147483399))) (.r 1))], none⟩
theorem drawA_ok {G : Nat → D} {C : CallS} {F m : Nat} {ds : List D} {n : Int} (hw : IsWell m ds) (h0 : 0 < n) (h1 : n < 2 ^ 60) (hm : m < 2 ^ 40) :
    ∃ r ds', runFD G C F drawA [.own true ds, .dat (.int n)] = some (.val (.int r), [.own true ds', .dat (.int n)]) ∧ 0 ≤ r ∧ r < n ∧ IsWell (m + 1) ds' := by
  obtain ⟨a, c, t, rfl, t0, t1⟩ := hw
  have hf : fdivOk n = true := fdiv_ok h0 (by omega)
  by_cases ha : 0 < a
  · refine ⟨a % n, [.int (a / n), .int c, .int t], ?_, Int.emod_nonneg _ (by omega), Int.emod_lt_of_pos _ h0, _, _, _, rfl, t0, by omega⟩
    simp [runFD, drawA, sxs, sx, evT, ev, res, sett, ap2, cmpI, seqAt, ha, h0, hf, truth, toVal, bindP, put, free, lent]
  · have e1 : c % 2147483629 < 2147483629 := Int.emod_lt_of_pos _ (by decide)
    have e2 : 0 ≤ c % 2147483629 := Int.emod_nonneg _ (by decide)
    have e3 : c / 2147483629 % 65521 < 65521 := Int.emod_lt_of_pos _ (by decide)
    have e4 : 0 ≤ c / 2147483629 % 65521 := Int.emod_nonneg _ (by decide)
    have p1 : powOk (c % 2147483629 + 7919 * (t + 1) + c / 2147483629 % 65521 + 1) 5 = true := pow_ok (by omega) (by omega)
    generalize hx : (c % 2147483629 + 7919 * (t + 1) + c / 2147483629 % 65521 + 1) ^ (5 : Nat) % 2147483647 = x at *
    have x1 : x < 2147483647 := hx ▸ Int.emod_lt_of_pos _ (by decide)
    have x0 : 0 ≤ x := hx ▸ Int.emod_nonneg _ (by decide)
    have p2 : ∀ y, mulOk x y = true := fun y => mul_ok x0 (by omega)
    generalize hy : x * (x / 1009 + 69621 + (t + 1)) % 2147483629 = y at *
    have y1 : y < 2147483629 := hy ▸ Int.emod_lt_of_pos _ (by decide)
    have y0 : 0 ≤ y := hy ▸ Int.emod_nonneg _ (by decide)
    have p3 : ∀ z, mulOk y z = true := fun z => mul_ok y0 (by omega)
    have p4 : mulOk 7919 (t + 1) = true := mul_ok (by decide) (by decide)
    have f1 : fdivOk 2147483629 = true := by decide
    have f2 : fdivOk 1009 = true := by decide
    have f3 : fdivOk 2003 = true := by decide
    refine ⟨y * (y / 2003 + 40692) % 2147483399 % n, [.int a, .int c, .int (t + 1)], ?_, Int.emod_nonneg _ (by omega), Int.emod_lt_of_pos _ h0, _, _, _, rfl, by omega, by omega⟩
    have e5 : (5 : Int).toNat = 5 := rfl
    simp [runFD, drawA, sxs, sx, evT, ev, res, sett, ap2, cmpI, seqAt, ha, h0, truth, toVal, bindP, put, free, lent, f1, f2, f3, p1, p2, p3, p4, e5, hx, hy]
end MP
namespace MP
/-! ### data that are the same -/
mutual
def D.same : D → D → Bool
  | .non, e => match e with | .non => true | _ => false
  | .bl a, e => match e with | .bl b => a == b | _ => false
  | .int i, e => match e with | .int j => i == j | _ => false
  | .str x, e => match e with | .str y => decide (x = y) | _ => false
  | .tup xs, e => match e with | .tup ys => D.sames xs ys | _ => false
  | .lst xs, e => match e with | .lst ys => D.sames xs ys | _ => false
  | .ins _ _, _ => false
def D.sames : List D → List D → Bool
  | [], e => match e with | [] => true | _ => false
  | x :: xs, e => match e with | y :: ys => D.same x y && D.sames xs ys | [] => false
end
mutual
theorem D.same_eq : ∀ {a b : D}, D.same a b = true → a = b
  | .non, b, h => by cases b <;> first | rfl | (simp [D.same] at h)
  | .bl x, b, h => by cases b <;> first | (simp [D.same] at h; rw [h]) | (simp [D.same] at h)
  | .int x, b, h => by cases b <;> first | (simp [D.same] at h; rw [h]) | (simp [D.same] at h)
  | .str x, b, h => by cases b <;> first | (simp [D.same] at h; rw [h]) | (simp [D.same] at h)
  | .tup xs, b, h => by
    cases b <;> first | (exfalso; simp [D.same] at h; done) | skip
    rw [D.sames_eq (show D.sames xs _ = true from by simpa only [D.same] using h)]
  | .lst xs, b, h => by
    cases b <;> first | (exfalso; simp [D.same] at h; done) | skip
    rw [D.sames_eq (show D.sames xs _ = true from by simpa only [D.same] using h)]
  | .ins _ _, b, h => by simp [D.same] at h
theorem D.sames_eq : ∀ {a b : List D}, D.sames a b = true → a = b
  | [], b, h => by cases b <;> first | rfl | (simp [D.sames] at h)
  | x :: xs, b, h => by
    cases b with
    | nil => simp [D.sames] at h
    | cons y ys =>
      simp only [D.sames, Bool.and_eq_true] at h
      rw [D.same_eq h.1, D.sames_eq h.2]
end
/-- the call gives this value -/
def isV (d : D) : Option (R × Loc) → Bool
  | some (.val e, _) => D.same e d
  | _ => false
theorem isV_ok {d : D} {o : Option (R × Loc)} (h : isV d o = true) : ∃ a', o = some (.val d, a') := by
  unfold isV at h
  split at h
  · exact ⟨_, by rw [D.same_eq h]⟩
  · cases h
theorem ans_isV {G : Nat → D} {T : List FD} {F n j : Nat} {ds : List D} {d : D} (h : isV d (callN G T F n j (ds.map Slot.dat)) = true) : Ans (callN G T F n) j ds (.val d) := by
  obtain ⟨a', e⟩ := isV_ok h
  exact ans_of e
end MP
namespace MP
/-! ### lists of ints -/
theorem plains_int (n : Nat) : ∀ xs : List Int, D.plains n (xs.map D.int) = true
  | [] => by simp [D.plains]
  | x :: xs => by simp [D.plains, D.plain, plains_int n xs]
theorem any_int (c : Int) : ∀ xs : List Int, ((xs.map D.int).any fun y => D.beq y (.int c)) = xs.any (fun y => y == c)
  | [] => rfl
  | x :: xs => by simp only [List.map_cons, List.any_cons, any_int c xs, D.beq]
theorem plain_int (n : Nat) (i : Int) : D.plain n (.int i) = true := by cases n <;> rfl
theorem plain_bl (n : Nat) (i : Bool) : D.plain n (.bl i) = true := by cases n <;> rfl
/-- a loop that may answer -/
theorem for_find {p : Pat} {body : Loc → Option Out} {I J : Loc → Prop} {q : D → Bool} {r : R} : ∀ (ds : List D) (loc : Loc),
    (∀ d ∈ ds, ∀ loc, I loc → ∃ l1, bindP p d loc = some l1 ∧ (q d = true → ∃ l2, body l1 = some (.rt r l2) ∧ J l2) ∧ (q d = false → ∃ l2, body l1 = some (.nx l2) ∧ I l2)) → I loc →
    (ds.any q = true → ∃ l2, forRun p body ds loc = some (.rt r l2) ∧ J l2) ∧ (ds.any q = false → ∃ l2, forRun p body ds loc = some (.nx l2) ∧ I l2)
  | [], loc, _, h => ⟨fun e => by simp at e, fun _ => ⟨loc, rfl, h⟩⟩
  | d :: ds, loc, hb, h => by
    obtain ⟨l1, e1, e2, e3⟩ := hb d (List.mem_cons_self ..) loc h
    cases hq : q d with
    | true =>
      obtain ⟨l2, g1, g2⟩ := e2 hq
      refine ⟨fun _ => ⟨l2, by simp only [forRun, e1, g1], g2⟩, fun e => ?_⟩
      simp [hq] at e
    | false =>
      obtain ⟨l2, g1, g2⟩ := e3 hq
      obtain ⟨k1, k2⟩ := for_find ds l2 (fun x hx => hb x (List.mem_cons_of_mem _ hx)) g2
      refine ⟨fun e => ?_, fun e => ?_⟩
      · rw [List.any_cons, hq, Bool.false_or] at e
        obtain ⟨l3, m1, m2⟩ := k1 e
        exact ⟨l3, by simp only [forRun, e1, g1]; exact m1, m2⟩
      · rw [List.any_cons, hq, Bool.false_or] at e
        obtain ⟨l3, m1, m2⟩ := k2 e
        exact ⟨l3, by simp only [forRun, e1, g1]; exact m1, m2⟩
theorem small_of {n : Int} (h0 : 0 ≤ n) (h : n < 2 ^ 60) : small n = true := by
  unfold small
  simp only [Bool.and_eq_true, decide_eq_true_eq]
  omega
end MP
namespace MP
section
variable {G : Nat → D} {C : CallS}
theorem evC_one {m : ME} {loc loc' : Loc} {b : Bool} (h : ev G C m loc = some (.val (.bl b), loc')) : evC G C [m] loc = some (b, loc') := by
  simp only [evC, h, res, truth]
  cases b <;> rfl
theorem evT_bl {m : ME} {loc loc' : Loc} {b : Bool} (h : ev G C m loc = some (.val (.bl b), loc')) : evT G C m loc = some (b, loc') := by
  simp only [evT, h, res, truth]
end
def has (A : List Int) (c : Int) : Bool := A.any (fun y => y == c)
theorem any_has (c : Int) (A : List Int) : (A.any ((fun y => D.beq y (.int c)) ∘ D.int)) = has A c := rfl
def unI : D → Int
  | .int i => i
  | _ => 0
def tupI (xs : List Int) : D := .tup (xs.map D.int)
def lstI (xs : List Int) : D := .lst (xs.map D.int)
end MP
namespace MP
theorem ev_lc_ok {G : Nat → D} {C : CallS} {own : List Nat} {p : Pat} {it : IT} {cs : List ME} {elt : ME} {loc l1 l2 : Loc} {items ds : List D} (h1 : evI G C it loc = some (items, l1)) (h2 : own.all (freeD l1) = true) (h3 : items.length ≤ big)
    (h4 : lcRun own p (evC G C cs) (ev G C elt) items (wipeL l1 own) = some (ds, l2)) : ev G C (.lc own p it cs elt) loc = some (.new ds, back l1 l2 own) := by
  rw [ev, h1]
  simp only [h2, decide_eq_true h3, Bool.and_self, if_true, h4]
end MP
namespace MP
theorem ev_lc_at {G : Nat → D} {C : CallS} (own : List Nat) (p : Pat) (it : IT) (cs : List ME) (elt : ME) (loc l2 : Loc) {items ds : List D} (h1 : evI G C it loc = some (items, loc)) (h2 : own.all (freeD loc) = true) (h3 : items.length ≤ big)
    (h4 : lcRun own p (evC G C cs) (ev G C elt) items (wipeL loc own) = some (ds, l2)) (h5 : back loc l2 own = loc) : ev G C (.lc own p it cs elt) loc = some (.new ds, loc) := by
  rw [ev_lc_ok h1 h2 h3 h4, h5]
end MP

namespace MP
open PySem L2
/-! the evaluator, arm by arm, with all arguments written (printed by geneq.py) -/
@[simp] theorem qev_c (G : Nat → D) (C : CallS) (d : D) (loc : Loc) : ev G C (.c d) loc = (some (.val d, loc)) := by
  first | (rw [ev]; done) | (rw [ev]; rfl)
@[simp] theorem qev_g (G : Nat → D) (C : CallS) (k : Nat) (loc : Loc) : ev G C (.g k) loc = (some (.val (G k), loc)) := by
  first | (rw [ev]; done) | (rw [ev]; rfl)
@[simp] theorem qev_v (G : Nat → D) (C : CallS) (i : Nat) (loc : Loc) : ev G C (.v i) loc = (match loc[i]? with
    | some (.dat d) => some (.val d, loc)
    | _ => none) := by
  first | (rw [ev]; done) | (rw [ev]; rfl)
@[simp] theorem qev_r (G : Nat → D) (C : CallS) (i : Nat) (loc : Loc) : ev G C (.r i) loc = (match loc[i]? with
    | some (.own _ _) => some (.ref i, loc)
    | some (.scr _) => some (.ref i, loc)
    | some (.dat d) => some (.val d, loc)
    | _ => none) := by
  first | (rw [ev]; done) | (rw [ev]; rfl)
@[simp] theorem qev_fz (G : Nat → D) (C : CallS) (i : Nat) (loc : Loc) : ev G C (.fz i) loc = (match loc[i]? with
    | some (.own false ds) => some (.val (.lst ds), loc.set i (.dat (.lst ds)))
    | some (.dat d) => some (.val d, loc)
    | _ => none) := by
  first | (rw [ev]; done) | (rw [ev]; rfl)
@[simp] theorem qev_tup (G : Nat → D) (C : CallS) (es : List ME) (loc : Loc) : ev G C (.tup es) loc = (match evs G C es loc with
    | some (rs, l1) => match rs.mapM toVal with
      | some ds => some (.val (.tup ds), l1)
      | none => none
    | none => none) := by
  first | (rw [ev]; done) | (rw [ev]; rfl)
@[simp] theorem qev_lst (G : Nat → D) (C : CallS) (es : List ME) (loc : Loc) : ev G C (.lst es) loc = (match evs G C es loc with
    | some (rs, l1) => match rs.mapM toVal with
      | some ds => some (.new ds, l1)
      | none => none
    | none => none) := by
  first | (rw [ev]; done) | (rw [ev]; rfl)
@[simp] theorem qev_o1 (G : Nat → D) (C : CallS) (o : O1) (a : ME) (loc : Loc) : ev G C (.o1 o a) loc = (match ev G C a loc with
    | some (r, l1) => match res l1 r with
      | some d => match ap1 o d with
        | some r' => some (r', l1)
        | none => none
      | none => none
    | none => none) := by
  first | (rw [ev]; done) | (rw [ev]; rfl)
@[simp] theorem qev_o2 (G : Nat → D) (C : CallS) (o : O2) (a b : ME) (loc : Loc) : ev G C (.o2 o a b) loc = (match ev G C a loc with
    | some (r, l1) => match ev G C b l1 with
      | some (r', l2) => match res l2 (sett r), res l2 r' with
        | some d, some e => match ap2 o d e with
          | some r'' => some (r'', l2)
          | none => none
        | _, _ => none
      | none => none
    | none => none) := by
  first | (rw [ev]; done) | (rw [ev]; rfl)
@[simp] theorem qev_ch (G : Nat → D) (C : CallS) (o o' : O2) (a b c : ME) (loc : Loc) : ev G C (.ch o o' a b c) loc = (match ev G C a loc with
    | some (ra, l1) => match ev G C b l1 with
      | some (rb, l2) => match res l2 (sett ra), res l2 rb with
        | some d, some e => match ap2 o d e with
          | some (.val (.bl true)) => match ev G C c l2 with
            | some (rc, l3) => match res l3 (sett rb), res l3 rc with
              | some e', some f => match ap2 o' e' f with
                | some (.val (.bl k)) => some (.val (.bl k), l3)
                | _ => none
              | _, _ => none
            | none => none
          | some (.val (.bl false)) => some (.val (.bl false), l2)
          | _ => none
        | _, _ => none
      | none => none
    | none => none) := by
  first | (rw [ev]; done) | (rw [ev]; rfl)
@[simp] theorem qev_sl (G : Nat → D) (C : CallS) (a : ME) (lo hi : Option ME) (loc : Loc) : ev G C (.sl a lo hi) loc = (match ev G C a loc with
    | some (r, l1) => match evo G C lo l1 with
      | some (x, l2) => match evo G C hi l2 with
        | some (y, l3) => match res l3 (sett r) with
          | some d => match apSl d x y with
            | some r' => some (r', l3)
            | none => none
          | none => none
        | none => none
      | none => none
    | none => none) := by
  first | (rw [ev]; done) | (rw [ev]; rfl)
@[simp] theorem qev_and (G : Nat → D) (C : CallS) (a b : ME) (loc : Loc) : ev G C (.and a b) loc = (match ev G C a loc with
    | some (r, l1) => match res l1 r with
      | some d => match truth d with
        | some true => ev G C b l1
        | some false => some (sett r, l1)
        | none => none
      | none => none
    | none => none) := by
  first | (rw [ev]; done) | (rw [ev]; rfl)
@[simp] theorem qev_or (G : Nat → D) (C : CallS) (a b : ME) (loc : Loc) : ev G C (.or a b) loc = (match ev G C a loc with
    | some (r, l1) => match res l1 r with
      | some d => match truth d with
        | some true => some (sett r, l1)
        | some false => ev G C b l1
        | none => none
      | none => none
    | none => none) := by
  first | (rw [ev]; done) | (rw [ev]; rfl)
@[simp] theorem qev_not (G : Nat → D) (C : CallS) (a : ME) (loc : Loc) : ev G C (.not a) loc = (match ev G C a loc with
    | some (r, l1) => match res l1 r with
      | some d => match truth d with
        | some k => some (.val (.bl (!k)), l1)
        | none => none
      | none => none
    | none => none) := by
  first | (rw [ev]; done) | (rw [ev]; rfl)
@[simp] theorem qev_ite (G : Nat → D) (C : CallS) (c a b : ME) (loc : Loc) : ev G C (.ite c a b) loc = (match ev G C c loc with
    | some (r, l1) => match res l1 r with
      | some d => match truth d with
        | some true => ev G C a l1
        | some false => ev G C b l1
        | none => none
      | none => none
    | none => none) := by
  first | (rw [ev]; done) | (rw [ev]; rfl)
@[simp] theorem qev_call (G : Nat → D) (C : CallS) (f : Nat) (as : List ME) (loc : Loc) : ev G C (.call f as) loc = (match evs G C as loc with
    | some (rs, l1) => doCall C f rs l1
    | none => none) := by
  first | (rw [ev]; done) | (rw [ev]; rfl)
@[simp] theorem qev_callK (G : Nat → D) (C : CallS) (f : Nat) (as ks : List ME) (p : List Nat) (loc : Loc) : ev G C (.callK f as ks p) loc = (match evs G C as loc with
    | some (rs, l1) => match evs G C ks l1 with
      | some (ss, l2) => match perm p (rs ++ ss) with
        | some ts => doCall C f ts l2
        | none => none
      | none => none
    | none => none) := by
  first | (rw [ev]; done) | (rw [ev]; rfl)
theorem qev_lc (G : Nat → D) (C : CallS) (own : List Nat) (p : Pat) (it : IT) (cs : List ME) (elt : ME) (loc : Loc) : ev G C (.lc own p it cs elt) loc = (match evI G C it loc with
    | some (items, l1) => if own.all (freeD l1) && decide (items.length ≤ big) then
        match lcRun own p (evC G C cs) (ev G C elt) items (wipeL l1 own) with
        | some (ds, l2) => some (.new ds, back l1 l2 own)
        | none => none
      else none
    | none => none) := by
  first | (rw [ev]; done) | (rw [ev]; rfl)
@[simp] theorem qev_app (G : Nat → D) (C : CallS) (i : Nat) (e : ME) (loc : Loc) : ev G C (.app i e) loc = (match loc[i]? with
    | some (.own _ _) => match ev G C e loc with
      | some (r, l1) => match toVal r, l1[i]? with
        | some d, some (.own b ds) => if ds.length < big then some (.val .non, l1.set i (.own b (ds ++ [d]))) else none
        | _, _ => none
      | none => none
    | _ => none) := by
  first | (rw [ev]; done) | (rw [ev]; rfl)
@[simp] theorem qev_pop (G : Nat → D) (C : CallS) (i : Nat) (loc : Loc) : ev G C (.pop i) loc = (match loc[i]? with
    | some (.own b ds) => match ds.getLast? with
      | some d => some (.val d, loc.set i (.own b ds.dropLast))
      | none => none
    | _ => none) := by
  first | (rw [ev]; done) | (rw [ev]; rfl)
@[simp] theorem qev_popAt (G : Nat → D) (C : CallS) (i : Nat) (e : ME) (loc : Loc) : ev G C (.popAt i e) loc = (match loc[i]? with
    | some (.own _ _) => match ev G C e loc with
      | some (.val (.int k), l1) => match l1[i]? with
        | some (.own b ds) => if 0 ≤ k ∧ k < 2 ^ 62 then match ds[k.toNat]? with
          | some d => some (.val d, l1.set i (.own b (ds.eraseIdx k.toNat)))
          | none => none
          else none
        | _ => none
      | _ => none
    | _ => none) := by
  first | (rw [ev]; done) | (rw [ev]; rfl)
@[simp] theorem qev_clear (G : Nat → D) (C : CallS) (i : Nat) (loc : Loc) : ev G C (.clear i) loc = (match loc[i]? with
    | some (.own b ds) => some (.val .non, loc.set i (.own b []))
    | _ => none) := by
  first | (rw [ev]; done) | (rw [ev]; rfl)
@[simp] theorem qev_ext (G : Nat → D) (C : CallS) (i : Nat) (e : ME) (loc : Loc) : ev G C (.ext i e) loc = (match loc[i]? with
    | some (.own _ _) => match ev G C e loc with
      | some (r, l1) => match toVal r, l1[i]? with
        | some (.lst es), some (.own b ds) => if ds.length + es.length ≤ big then some (.val .non, l1.set i (.own b (ds ++ es))) else none
        | _, _ => none
      | none => none
    | _ => none) := by
  first | (rw [ev]; done) | (rw [ev]; rfl)
@[simp] theorem qev_sIx (G : Nat → D) (C : CallS) (i : Nat) (e : ME) (loc : Loc) : ev G C (.sIx i e) loc = (match loc[i]? with
    | some (.scr ns) => match ev G C e loc with
      | some (.val (.int k), l1) => if 0 ≤ k then match ns[k.toNat]? with
        | some n => some (.val (.int n), l1)
        | none => none
        else none
      | _ => none
    | _ => none) := by
  first | (rw [ev]; done) | (rw [ev]; rfl)
@[simp] theorem qev_sLen (G : Nat → D) (C : CallS) (i : Nat) (loc : Loc) : ev G C (.sLen i) loc = (match loc[i]? with
    | some (.scr ns) => some (.val (.int ns.length), loc)
    | _ => none) := by
  first | (rw [ev]; done) | (rw [ev]; rfl)
@[simp] theorem qev_sSl (G : Nat → D) (C : CallS) (i : Nat) (lo hi : Option ME) (loc : Loc) : ev G C (.sSl i lo hi) loc = (match loc[i]? with
    | some (.scr ns) => match evo G C lo loc with
      | some (x, l1) => match evo G C hi l1 with
        | some (y, l2) => some (.new (cutD (ns.map D.int) x y), l2)
        | none => none
      | none => none
    | _ => none) := by
  first | (rw [ev]; done) | (rw [ev]; rfl)
@[simp] theorem qev_lc2 (G : Nat → D) (C : CallS) (own : List Nat) (p : Pat) (it : IT) (cs : List ME) (own1 : List Nat) (p1 : Pat) (it1 : IT) (cs1 : List ME) (elt : ME) (loc : Loc) : ev G C (.lc2 own p it cs own1 p1 it1 cs1 elt) loc = (match evI G C it loc with
    | some (items, l1) => if own.all (freeD l1) && decide (items.length ≤ big) then
        match lc2Run own p (evC G C cs) own1 (evI G C it1) p1 (evC G C cs1) (ev G C elt) items (wipeL l1 own) with
        | some (ds, l2) => if ds.length ≤ big then some (.new ds, back l1 l2 own) else none
        | none => none
      else none
    | none => none) := by
  first | (rw [ev]; done) | (rw [ev]; rfl)
@[simp] theorem qev_mxD (G : Nat → D) (C : CallS) (mx : Bool) (a d : ME) (loc : Loc) : ev G C (.mxD mx a d) loc = (match ev G C a loc with
    | some (r, l1) => match ev G C d l1 with
      | some (r', l2) => match res l2 (sett r), toVal r' with
        | some x, some y => match seqInts x with
          | some [] => some (.val y, l2)
          | some (n :: ms) => some (.val (.int (mxI mx n ms)), l2)
          | none => none
        | _, _ => none
      | none => none
    | none => none) := by
  first | (rw [ev]; done) | (rw [ev]; rfl)
@[simp] theorem qev_thaw (G : Nat → D) (C : CallS) (i : Nat) (a : ME) (loc : Loc) : ev G C (.thaw i a) loc = (match ev G C a loc with
    | some (r, l1) => match loc[i]?, l1[i]? with
      | some (.own false _), some (.dat (.lst ds)) => if noLsts ds && thawR r && thawB i 0 loc l1 then some (r, l1.set i (.own false ds)) else none
      | _, _ => none
    | none => none) := by
  first | (rw [ev]; done) | (rw [ev]; rfl)
@[simp] theorem qev_fld (G : Nat → D) (C : CallS) (tb : List (Nat × Nat)) (a : ME) (loc : Loc) : ev G C (.fld tb a) loc = (match ev G C a loc with
    | some (.val (.ins c fs), l1) => match tb.lookup c with
      | some k => match fs[k]? with
        | some d => some (.val d, l1)
        | none => none
      | none => none
    | _ => none) := by
  first | (rw [ev]; done) | (rw [ev]; rfl)
@[simp] theorem qev_meth (G : Nat → D) (C : CallS) (tb : List (Nat × Nat)) (a : ME) (as : List ME) (loc : Loc) : ev G C (.meth tb a as) loc = (match ev G C a loc with
    | some (.val (.ins c fs), l1) => match tb.lookup c with
      | some f => match evs G C as l1 with
        | some (rs, l2) => doCall C f (.val (.ins c fs) :: rs) l2
        | none => none
      | none => none
    | _ => none) := by
  first | (rw [ev]; done) | (rw [ev]; rfl)
@[simp] theorem qev_make (G : Nat → D) (C : CallS) (c f : Nat) (as : List ME) (loc : Loc) : ev G C (.make c f as) loc = (match evs G C as loc with
    | some (rs, l1) => match argsOf l1 rs with
      | some a => if allDat a then
          match C f a with
          | some (.val (.ins c' ds), _) => if c' = c then some (.val (.ins c ds), l1) else none
          | _ => none
        else none
      | none => none
    | none => none) := by
  first | (rw [ev]; done) | (rw [ev]; rfl)
@[simp] theorem qev_ch3 (G : Nat → D) (C : CallS) (o o' o'' : O2) (a b c d : ME) (loc : Loc) : ev G C (.ch3 o o' o'' a b c d) loc = (match ev G C a loc with
    | some (ra, l1) => match ev G C b l1 with
      | some (rb, l2) => match res l2 (sett ra), res l2 rb with
        | some x, some y => match ap2 o x y with
          | some (.val (.bl true)) => match ev G C c l2 with
            | some (rc, l3) => match res l3 (sett rb), res l3 rc with
              | some y', some z => match ap2 o' y' z with
                | some (.val (.bl true)) => match ev G C d l3 with
                  | some (rd, l4) => match res l4 (sett rc), res l4 rd with
                    | some z', some w => match ap2 o'' z' w with
                      | some (.val (.bl k)) => some (.val (.bl k), l4)
                      | _ => none
                    | _, _ => none
                  | none => none
                | some (.val (.bl false)) => some (.val (.bl false), l3)
                | _ => none
              | _, _ => none
            | none => none
          | some (.val (.bl false)) => some (.val (.bl false), l2)
          | _ => none
        | _, _ => none
      | none => none
    | none => none) := by
  first | (rw [ev]; done) | (rw [ev]; rfl)
@[simp] theorem qev_bad (G : Nat → D) (C : CallS)  (loc : Loc) : ev G C (.bad) loc = (none) := by
  first | (rw [ev]; done) | (rw [ev]; rfl)
@[simp] theorem qev_lrng (G : Nat → D) (C : CallS) (it : IT) (loc : Loc) : ev G C (.lrng it) loc = (match evI G C it loc with
    | some (ds, l1) => if ds.length ≤ big then some (.new ds, l1) else none
    | none => none) := by
  first | (rw [ev]; done) | (rw [ev]; rfl)
@[simp] theorem qevs_nil (G : Nat → D) (C : CallS)  (loc : Loc) : evs G C [] loc = (some ([], loc)) := by
  first | (rw [evs]; done) | (rw [evs]; rfl)
@[simp] theorem qevs_cons (G : Nat → D) (C : CallS) (e : ME) (es : List ME) (loc : Loc) : evs G C (e :: es) loc = (match ev G C e loc with
    | some (r, l1) => match evs G C es l1 with
      | some (rs, l2) => some (sett r :: rs, l2)
      | none => none
    | none => none) := by
  first | (rw [evs]; done) | (rw [evs]; rfl)
@[simp] theorem qevo_none (G : Nat → D) (C : CallS)  (loc : Loc) : evo G C none loc = (some (none, loc)) := by
  first | (rw [evo]; done) | (rw [evo]; rfl)
@[simp] theorem qevo_some (G : Nat → D) (C : CallS) (e : ME) (loc : Loc) : evo G C (some e) loc = (match ev G C e loc with
    | some (.val (.int i), l1) => some (some i, l1)
    | _ => none) := by
  first | (rw [evo]; done) | (rw [evo]; rfl)
@[simp] theorem qevC_nil (G : Nat → D) (C : CallS)  (loc : Loc) : evC G C [] loc = (some (true, loc)) := by
  first | (rw [evC]; done) | (rw [evC]; rfl)
@[simp] theorem qevC_cons (G : Nat → D) (C : CallS) (e : ME) (es : List ME) (loc : Loc) : evC G C (e :: es) loc = (match ev G C e loc with
    | some (r, l1) => match res l1 r with
      | some d => match truth d with
        | some true => evC G C es l1
        | some false => some (false, l1)
        | none => none
      | none => none
    | none => none) := by
  first | (rw [evC]; done) | (rw [evC]; rfl)
@[simp] theorem qevI_seq (G : Nat → D) (C : CallS) (a : ME) (loc : Loc) : evI G C (.seq a) loc = (match ev G C a loc with
    | some (r, l1) => match toVal r with
      | some (.lst ds) => some (ds, l1)
      | _ => none
    | none => none) := by
  first | (rw [evI]; done) | (rw [evI]; rfl)
@[simp] theorem qevI_tpl (G : Nat → D) (C : CallS) (a : ME) (loc : Loc) : evI G C (.tpl a) loc = (match ev G C a loc with
    | some (r, l1) => match toVal r with
      | some (.tup ds) => some (ds, l1)
      | _ => none
    | none => none) := by
  first | (rw [evI]; done) | (rw [evI]; rfl)
@[simp] theorem qevI_rng1 (G : Nat → D) (C : CallS) (a : ME) (loc : Loc) : evI G C (.rng1 a) loc = (match ev G C a loc with
    | some (r, l1) => match r with
      | .val (.int n) => if small n then some (rngL 0 n.toNat, l1) else none
      | _ => none
    | none => none) := by
  first | (rw [evI]; done) | (rw [evI]; rfl)
@[simp] theorem qevI_rng2 (G : Nat → D) (C : CallS) (a b : ME) (loc : Loc) : evI G C (.rng2 a b) loc = (match ev G C a loc with
    | some (r, l1) => match ev G C b l1 with
      | some (r', l2) => match r, r' with
        | .val (.int m), .val (.int n) => if small m && small n then some (rngL m (n - m).toNat, l2) else none
        | _, _ => none
      | none => none
    | none => none) := by
  first | (rw [evI]; done) | (rw [evI]; rfl)
@[simp] theorem qevI_enum (G : Nat → D) (C : CallS) (a : ME) (loc : Loc) : evI G C (.enum a) loc = (match ev G C a loc with
    | some (r, l1) => match toVal r with
      | some (.lst ds) => some (enumL 0 ds, l1)
      | _ => none
    | none => none) := by
  first | (rw [evI]; done) | (rw [evI]; rfl)
@[simp] theorem qevI_zip (G : Nat → D) (C : CallS) (a b : ME) (loc : Loc) : evI G C (.zip a b) loc = (match ev G C a loc with
    | some (r, l1) => match ev G C b l1 with
      | some (r', l2) => match toVal r, toVal r' with
        | some (.lst ds), some (.lst es) => some (zipL ds es, l2)
        | some (.tup ds), some (.tup es) => some (zipL ds es, l2)
        | _, _ => none
      | none => none
    | none => none) := by
  first | (rw [evI]; done) | (rw [evI]; rfl)
@[simp] theorem qsx_set (G : Nat → D) (C : CallS) (F : Nat) (p : Pat) (e : ME) (loc : Loc) : sx G C F (.set p e) loc = (match ev G C e loc with
    | some (r, l1) => match toVal r with
      | some d => (bindP p d l1).map .nx
      | none => none
    | none => none) := by
  first | (rw [sx]; done) | (rw [sx]; rfl)
@[simp] theorem qsx_own (G : Nat → D) (C : CallS) (F : Nat) (i : Nat) (e : ME) (loc : Loc) : sx G C F (.own i e) loc = (match ev G C e loc with
    | some (.new ds, l1) => (put l1 i (.own false ds)).map .nx
    | _ => none) := by
  first | (rw [sx]; done) | (rw [sx]; rfl)
@[simp] theorem qsx_par (G : Nat → D) (C : CallS) (F : Nat) (i j : Nat) (a b : ME) (loc : Loc) : sx G C F (.par i j a b) loc = (match ev G C a loc with
    | some (r, l1) => match ev G C b l1 with
      | some (r', l2) => match toVal r, toVal r' with
        | some d, some e => match put l2 i (.dat d) with
          | some l3 => (put l3 j (.dat e)).map .nx
          | none => none
        | _, _ => none
      | none => none
    | none => none) := by
  first | (rw [sx]; done) | (rw [sx]; rfl)
@[simp] theorem qsx_aug (G : Nat → D) (C : CallS) (F : Nat) (i : Nat) (o : O2) (e : ME) (loc : Loc) : sx G C F (.aug i o e) loc = (match loc[i]? with
    | some (.dat d) => match ev G C e loc with
      | some (r, l1) => match d, toVal r with
        | .int x, some (.int y) => match o with
          | .add => (put l1 i (.dat (.int (x + y)))).map .nx
          | .sub => (put l1 i (.dat (.int (x - y)))).map .nx
          | _ => none
        | _, _ => none
      | none => none
    | _ => none) := by
  first | (rw [sx]; done) | (rw [sx]; rfl)
@[simp] theorem qsx_ex (G : Nat → D) (C : CallS) (F : Nat) (e : ME) (loc : Loc) : sx G C F (.ex e) loc = (match ev G C e loc with
    | some (_, l1) => some (.nx l1)
    | none => none) := by
  first | (rw [sx]; done) | (rw [sx]; rfl)
@[simp] theorem qsx_ret (G : Nat → D) (C : CallS) (F : Nat) (e : ME) (loc : Loc) : sx G C F (.ret e) loc = (match ev G C e loc with
    | some (r, l1) => match r with
      | .ref _ => none
      | r => some (.rt r l1)
    | none => none) := by
  first | (rw [sx]; done) | (rw [sx]; rfl)
@[simp] theorem qsx_retN (G : Nat → D) (C : CallS) (F : Nat)  (loc : Loc) : sx G C F (.retN) loc = (some (.rt (.val .non) loc)) := by
  first | (rw [sx]; done) | (rw [sx]; rfl)
@[simp] theorem qsx_ite (G : Nat → D) (C : CallS) (F : Nat) (c : ME) (t f : List MS) (loc : Loc) : sx G C F (.ite c t f) loc = (match evT G C c loc with
    | some (true, l1) => sxs G C F t l1
    | some (false, l1) => sxs G C F f l1
    | none => none) := by
  first | (rw [sx]; done) | (rw [sx]; rfl)
@[simp] theorem qsx_loop (G : Nat → D) (C : CallS) (F : Nat) (p : Pat) (it : IT) (b : List MS) (loc : Loc) : sx G C F (.loop p it b) loc = (match evI G C it loc with
    | some (items, l1) => forRun p (sxs G C F b) items l1
    | none => none) := by
  first | (rw [sx]; done) | (rw [sx]; rfl)
@[simp] theorem qsx_wh (G : Nat → D) (C : CallS) (F : Nat) (c : ME) (b : List MS) (loc : Loc) : sx G C F (.wh c b) loc = (whRun (evT G C c) (sxs G C F b) F loc) := by
  first | (rw [sx]; done) | (rw [sx]; rfl)
@[simp] theorem qsx_put (G : Nat → D) (C : CallS) (F : Nat) (i : Nat) (k e : ME) (loc : Loc) : sx G C F (.put i k e) loc = (match ev G C e loc with
    | some (r, l1) => match l1[i]? with
      | some (.own _ _) => match ev G C k l1 with
        | some (.val (.int n), l2) => match toVal r, l2[i]? with
          | some d, some (.own b ds) => if 0 ≤ n ∧ n < ds.length then some (.nx (l2.set i (.own b (ds.set n.toNat d)))) else none
          | _, _ => none
        | _ => none
      | _ => none
    | none => none) := by
  first | (rw [sx]; done) | (rw [sx]; rfl)
@[simp] theorem qsx_pass (G : Nat → D) (C : CallS) (F : Nat)  (loc : Loc) : sx G C F (.pass) loc = (some (.nx loc)) := by
  first | (rw [sx]; done) | (rw [sx]; rfl)
@[simp] theorem qsx_brk (G : Nat → D) (C : CallS) (F : Nat)  (loc : Loc) : sx G C F (.brk) loc = (some (.bk loc)) := by
  first | (rw [sx]; done) | (rw [sx]; rfl)
@[simp] theorem qsx_cont (G : Nat → D) (C : CallS) (F : Nat)  (loc : Loc) : sx G C F (.cont) loc = (some (.ct loc)) := by
  first | (rw [sx]; done) | (rw [sx]; rfl)
@[simp] theorem qsx_bad (G : Nat → D) (C : CallS) (F : Nat)  (loc : Loc) : sx G C F (.bad) loc = (none) := by
  first | (rw [sx]; done) | (rw [sx]; rfl)
@[simp] theorem qsx_retO (G : Nat → D) (C : CallS) (F : Nat) (i : Nat) (loc : Loc) : sx G C F (.retO i) loc = (match loc[i]? with
    | some (.own false ds) => some (.rt (.new ds) (loc.set i .none))
    | some (.dat d) => some (.rt (.val d) loc)
    | _ => none) := by
  first | (rw [sx]; done) | (rw [sx]; rfl)
@[simp] theorem qsx_forget (G : Nat → D) (C : CallS) (F : Nat) (is : List Nat) (loc : Loc) : sx G C F (.forget is) loc = (if is.all (free loc) then some (.nx (wipeL loc is)) else none) := by
  first | (rw [sx]; done) | (rw [sx]; rfl)
@[simp] theorem qsx_par3 (G : Nat → D) (C : CallS) (F : Nat) (i j k : Nat) (a b c : ME) (loc : Loc) : sx G C F (.par3 i j k a b c) loc = (match ev G C a loc with
    | some (ra, l1) => match ev G C b l1 with
      | some (rb, l2) => match ev G C c l2 with
        | some (rc, l3) => match toVal ra, toVal rb, toVal rc with
          | some x, some y, some z => match put l3 i (.dat x) with
            | some l4 => match put l4 j (.dat y) with
              | some l5 => (put l5 k (.dat z)).map .nx
              | none => none
            | none => none
          | _, _, _ => none
        | none => none
      | none => none
    | none => none) := by
  first | (rw [sx]; done) | (rw [sx]; rfl)
@[simp] theorem qsx_augL (G : Nat → D) (C : CallS) (F : Nat) (i : Nat) (e : ME) (loc : Loc) : sx G C F (.augL i e) loc = (match loc[i]? with
    | some (.own _ _) => match ev G C e loc with
      | some (r, l1) => match toVal r, l1[i]? with
        | some (.lst es), some (.own b ds) => if ds.length + es.length ≤ big then some (.nx (l1.set i (.own b (ds ++ es)))) else none
        | _, _ => none
      | none => none
    | _ => none) := by
  first | (rw [sx]; done) | (rw [sx]; rfl)
@[simp] theorem qsxs_nil (G : Nat → D) (C : CallS) (F : Nat)  (loc : Loc) : sxs G C F [] loc = (some (.nx loc)) := by
  first | (rw [sxs]; done) | (rw [sxs]; rfl)
@[simp] theorem qsxs_cons (G : Nat → D) (C : CallS) (F : Nat) (s : MS) (ss : List MS) (loc : Loc) : sxs G C F (s :: ss) loc = (match sx G C F s loc with
    | some (.nx l1) => sxs G C F ss l1
    | o => o) := by
  first | (rw [sxs]; done) | (rw [sxs]; rfl)
end MP

namespace MP
namespace X
open PySem L2
/-! statements, step by step -/
section
variable {G : Nat → D} {C : CallS} {F : Nat} {loc l1 l2 l3 : Loc} {r r' : R} {d d' : D} {e a b c : ME} {p : Pat} {i j : Nat} {o : Out} {s : MS} {ss t f : List MS} {k : Bool} {ds es : List D}
theorem s_set (h1 : ev G C e loc = some (r, l1)) (h2 : toVal r = some d) (h3 : bindP p d l1 = some l2) : sx G C F (.set p e) loc = some (.nx l2) := by
  rw [sx, h1]; simp only [h2, h3, Option.map_some]
theorem s_own (h1 : ev G C e loc = some (.new ds, l1)) (h3 : put l1 i (.own false ds) = some l2) : sx G C F (.own i e) loc = some (.nx l2) := by
  rw [sx, h1]; simp only [h3, Option.map_some]
theorem s_ret (h1 : ev G C e loc = some (r, l1)) (h2 : ∀ i, r ≠ .ref i) : sx G C F (.ret e) loc = some (.rt r l1) := by
  rw [sx, h1]
  cases r with
  | ref i => exact absurd rfl (h2 i)
  | val d => rfl
  | new ds => rfl
theorem s_retV (h1 : ev G C e loc = some (.val d, l1)) : sx G C F (.ret e) loc = some (.rt (.val d) l1) := s_ret h1 (fun _ z => by cases z)
theorem s_retL (h1 : ev G C e loc = some (.new ds, l1)) : sx G C F (.ret e) loc = some (.rt (.new ds) l1) := s_ret h1 (fun _ z => by cases z)
theorem s_ex (h1 : ev G C e loc = some (r, l1)) : sx G C F (.ex e) loc = some (.nx l1) := by
  rw [sx, h1]
theorem s_T (h1 : evT G C c loc = some (true, l1)) (h2 : sxs G C F t l1 = some o) : sx G C F (.ite c t f) loc = some o := by
  rw [sx, h1]; exact h2
theorem s_F (h1 : evT G C c loc = some (false, l1)) (h2 : sxs G C F f l1 = some o) : sx G C F (.ite c t f) loc = some o := by
  rw [sx, h1]; exact h2
theorem s_loop {it : IT} (h1 : evI G C it loc = some (ds, l1)) (h2 : forRun p (sxs G C F t) ds l1 = some o) : sx G C F (.loop p it t) loc = some o := by
  rw [sx, h1]; exact h2
theorem ss_nx (h1 : sx G C F s loc = some (.nx l1)) (h2 : sxs G C F ss l1 = some o) : sxs G C F (s :: ss) loc = some o := by
  rw [sxs, h1]; exact h2
theorem ss_rt (h1 : sx G C F s loc = some (.rt r l1)) : sxs G C F (s :: ss) loc = some (.rt r l1) := by
  rw [sxs, h1]
theorem ss_rt_of (h1 : sx G C F s loc = some (.rt r l1)) : sxs G C F (s :: ss) loc = some (.rt r l1) := ss_rt h1
theorem ss_nil : sxs G C F [] loc = some (.nx loc) := by rw [sxs]
theorem run_rt {fd : FD} {a a' : Loc} (h0 : a.length = fd.arity) (h1 : sxs G C F fd.body (a ++ List.replicate (fd.slots - fd.arity) .none) = some (.rt r l1)) (h2 : lent a l1 = some a') : runFD G C F fd a = some (r, a') := by
  unfold runFD
  rw [if_pos h0, h1]
  simp only [h2]
theorem run_nx {fd : FD} {a a' : Loc} (h0 : a.length = fd.arity) (h1 : sxs G C F fd.body (a ++ List.replicate (fd.slots - fd.arity) .none) = some (.nx l1)) (h2 : lent a l1 = some a') : runFD G C F fd a = some (.val .non, a') := by
  unfold runFD
  rw [if_pos h0, h1]
  simp only [h2]
/-! expressions, step by step -/
theorem e_r0 (h : loc[i]? = some (.dat d)) : ev G C (.r i) loc = some (.val d, loc) := by rw [ev, h]
theorem e_rO {b : Bool} (h : loc[i]? = some (.own b ds)) : ev G C (.r i) loc = some (.ref i, loc) := by rw [ev, h]
theorem e_fz0 (h : loc[i]? = some (.dat d)) : ev G C (.fz i) loc = some (.val d, loc) := by rw [ev, h]
theorem e_o1 {o : O1} (h1 : ev G C a loc = some (r, l1)) (h2 : res l1 r = some d) (h3 : ap1 o d = some r') : ev G C (.o1 o a) loc = some (r', l1) := by
  rw [ev, h1]; simp only [h2, h3]
theorem e_o2 {o : O2} {r1 r2 : R} (h1 : ev G C a loc = some (r1, l1)) (h2 : ev G C b l1 = some (r2, l2)) (h3 : res l2 (sett r1) = some d) (h4 : res l2 r2 = some d') (h5 : ap2 o d d' = some r) : ev G C (.o2 o a b) loc = some (r, l2) := by
  rw [ev, h1]; simp only [h2, h3, h4, h5]
/-- operands that are plain -/
theorem e_p1 {o : O1} (h1 : ev G C a loc = some (.val d, l1)) (h3 : ap1 o d = some r') : ev G C (.o1 o a) loc = some (r', l1) := e_o1 h1 rfl h3
theorem e_p2 {o : O2} (h1 : ev G C a loc = some (.val d, l1)) (h2 : ev G C b l1 = some (.val d', l2)) (h5 : ap2 o d d' = some r) : ev G C (.o2 o a b) loc = some (r, l2) := e_o2 h1 h2 rfl rfl h5
theorem e_n1 {o : O1} (h1 : ev G C a loc = some (.new ds, l1)) (h3 : ap1 o (.lst ds) = some r') : ev G C (.o1 o a) loc = some (r', l1) := e_o1 h1 rfl h3
theorem e_call {as : List ME} {rs : List R} {fn : Nat} (h1 : evs G C as loc = some (rs, l1)) (h2 : doCall C fn rs l1 = some (r, l2)) : ev G C (.call fn as) loc = some (r, l2) := by
  rw [ev, h1]; exact h2
theorem es_nil : evs G C [] loc = some ([], loc) := by rw [evs]
theorem es_cons {as : List ME} {rs : List R} (h1 : ev G C a loc = some (r, l1)) (h2 : evs G C as l1 = some (rs, l2)) : evs G C (a :: as) loc = some (sett r :: rs, l2) := by
  rw [evs, h1]; simp only [h2]
theorem es_p {as : List ME} {rs : List R} (h1 : ev G C a loc = some (.val d, l1)) (h2 : evs G C as l1 = some (rs, l2)) : evs G C (a :: as) loc = some (.val d :: rs, l2) := es_cons h1 h2
theorem e_callD {as : List ME} {fn : Nat} (h1 : evs G C as loc = some (ds.map R.val, l1)) (h2 : Ans C fn ds r) : ev G C (.call fn as) loc = some (r, l1) := e_call h1 (h2.call _)
theorem e_k : ev G C (.c d) loc = some (.val d, loc) := by rw [ev]
theorem e_callK {as ks : List ME} {rs zs ts : List R} {fn : Nat} {pm : List Nat} (h1 : evs G C as loc = some (rs, l1)) (h2 : evs G C ks l1 = some (zs, l2)) (h3 : perm pm (rs ++ zs) = some ts) (h4 : doCall C fn ts l2 = some (r, l3)) : ev G C (.callK fn as ks pm) loc = some (r, l3) := by
  rw [ev, h1]; simp only [h2, h3, h4]
theorem e_callKD {as ks : List ME} {rs zs : List R} {fn : Nat} {pm : List Nat} (h1 : evs G C as loc = some (rs, l1)) (h2 : evs G C ks l1 = some (zs, l2)) (h3 : perm pm (rs ++ zs) = some (ds.map R.val)) (h4 : Ans C fn ds r) : ev G C (.callK fn as ks pm) loc = some (r, l2) := e_callK h1 h2 h3 (h4.call _)
theorem e_lst {as : List ME} {rs : List R} (h1 : evs G C as loc = some (rs, l1)) (h2 : rs.mapM toVal = some ds) : ev G C (.lst as) loc = some (.new ds, l1) := by
  rw [ev, h1]; simp only [h2]
theorem e_tup {as : List ME} {rs : List R} (h1 : evs G C as loc = some (rs, l1)) (h2 : rs.mapM toVal = some ds) : ev G C (.tup as) loc = some (.val (.tup ds), l1) := by
  rw [ev, h1]; simp only [h2]
theorem t_bl {k : Bool} (h1 : ev G C a loc = some (.val (.bl k), l1)) : evT G C a loc = some (k, l1) := evT_bl h1
/-- a name is bound -/
def fdS (s : Slot) : Prop := s = .none ∨ ∃ d, s = .dat d
theorem bind_v (h : ∃ s, loc[i]? = some s ∧ fdS s) : bindP (.v i) d loc = some (loc.set i (.dat d)) := by
  obtain ⟨s, h1, h2⟩ := h
  have e : free loc i = true := by
    unfold free
    rw [h1]
    rcases h2 with rfl | ⟨x, rfl⟩ <;> rfl
  show put loc i (.dat d) = _
  unfold put
  rw [if_pos e]
def frS (s : Slot) : Prop := fdS s ∨ ∃ ds, s = .own false ds
theorem put_fr {s' : Slot} (h : ∃ s, loc[i]? = some s ∧ frS s) : put loc i s' = some (loc.set i s') := by
  obtain ⟨s, h1, h2⟩ := h
  have e : free loc i = true := by
    unfold free
    rw [h1]
    rcases h2 with (rfl | ⟨x, rfl⟩) | ⟨x, rfl⟩ <;> rfl
  unfold put
  rw [if_pos e]
theorem freeD_fd (h : ∃ s, loc[i]? = some s ∧ fdS s) : freeD loc i = true := by
  obtain ⟨s, h1, h2⟩ := h
  unfold freeD
  rw [h1]
  rcases h2 with rfl | ⟨x, rfl⟩ <;> rfl
theorem fdS_dat {d : D} : fdS (.dat d) := .inr ⟨d, rfl⟩
theorem i_seq (h1 : ev G C a loc = some (r, l1)) (h2 : toVal r = some (.lst ds)) : evI G C (.seq a) loc = some (ds, l1) := by
  rw [evI, h1]; simp only [h2]
theorem i_tpl (h1 : ev G C a loc = some (r, l1)) (h2 : toVal r = some (.tup ds)) : evI G C (.tpl a) loc = some (ds, l1) := by
  rw [evI, h1]; simp only [h2]
theorem i_r1 {n : Int} (h1 : ev G C a loc = some (.val (.int n), l1)) (h2 : small n = true) : evI G C (.rng1 a) loc = some (rngL 0 n.toNat, l1) := by
  rw [evI, h1]; simp only [h2, if_true]
theorem i_r2 {m n : Int} (h1 : ev G C a loc = some (.val (.int m), l1)) (h2 : ev G C b l1 = some (.val (.int n), l2)) (h3 : small m = true) (h4 : small n = true) : evI G C (.rng2 a b) loc = some (rngL m (n - m).toNat, l2) := by
  rw [evI, h1]; simp only [h2, h3, h4, Bool.and_self, if_true]
end
end X
end MP

namespace MP
open PySem L2 X
/-! the laws' own helpers: cells, wells, draws -/
section
variable {G : Nat → D} {C : CallS} {F : Nat}
theorem ans_run {T : List FD} {k j : Nat} {d : FD} {ds : List D} {r : R} (hj : T[j]? = some d) (hc : d.ct = none) (h : runFD G (callN G T F k) F d (ds.map .dat) = some (r, ds.map .dat)) : Ans (callN G T F (k + 1)) j ds r := by
  unfold Ans
  rw [callN_eq hj hc]
  exact h
theorem callN_run {T : List FD} {k j : Nat} {d : FD} {a : Loc} (hj : T[j]? = some d) (hc : d.ct = none := by rfl) : callN G T F (k + 1) j a = runFD G (callN G T F k) F d a := by
  rw [callN_eq hj hc]
/-- a call with a lent list and a plain value -/
theorem do_ref {f i : Nat} {loc : Loc} {b : Bool} {ds ds' : List D} {d : D} {r : R} (h : loc[i]? = some (.own b ds)) (hC : C f [.own true ds, .dat d] = some (r, [.own true ds', .dat d])) : doCall C f [.ref i, .val d] loc = some (r, loc.set i (.own b ds')) := by
  simp only [doCall, refs, nodupB, List.contains_nil, Bool.not_false, Bool.and_self, if_true, argsOf, argOf, h, hC, given]
theorem do_scr {f i : Nat} {loc : Loc} {ns : List Int} {d : D} {r : R} (h : loc[i]? = some (.scr ns)) (hC : C f [.scr ns, .dat d] = some (r, [.scr ns, .dat d])) : doCall C f [.ref i, .val d] loc = some (r, loc) := by
  simp only [doCall, refs, nodupB, List.contains_nil, Bool.not_false, Bool.and_self, if_true, argsOf, argOf, h, hC, given]
def Draws (C : CallS) (j : Nat) : Prop := ∀ (ds : List D) (m : Nat) (n : Int), IsWell m ds → 0 < n → n < 2 ^ 60 → m < 2 ^ 40 → ∃ r ds', C j [.own true ds, .dat (.int n)] = some (.val (.int r), [.own true ds', .dat (.int n)]) ∧ 0 ≤ r ∧ r < n ∧ IsWell (m + 1) ds'
def Ones (C : CallS) (j : Nat) : Prop := ∀ (ds : List D) (m : Nat) (xs : List D), IsWell m ds → xs ≠ [] → xs.length < 2 ^ 60 → m < 2 ^ 40 → ∃ d ds', C j [.own true ds, .dat (.lst xs)] = some (.val d, [.own true ds', .dat (.lst xs)]) ∧ d ∈ xs ∧ IsWell (m + 1) ds'
theorem draws_of {T : List FD} {k j : Nat} (hj : T[j]? = some drawA) : Draws (callN G T F (k + 1)) j := fun ds m n h1 h2 h3 h4 => by
  rw [callN_run hj]
  exact drawA_ok h1 h2 h3 h4
def oneA (j : Nat) : FD := ⟨2, 2, [.ret (.o2 .ix (.r 1) (.call j [.r 0, .o1 .len (.r 1)]))], none⟩
theorem ones_of {T : List FD} {k j i : Nat} (hj : T[j]? = some (oneA i)) (hd : Draws (callN G T F k) i) : Ones (callN G T F (k + 1)) j := fun ds m xs h1 h2 h3 h4 => by
  rw [callN_run hj]
  have hp : 0 < xs.length := List.length_pos_iff.mpr h2
  obtain ⟨r, ds', e1, e2, e3, e4⟩ := hd ds m xs.length h1 (by omega) (by omega) h4
  have hr : r.toNat < xs.length := by omega
  have es : seqAt xs r = some xs[r.toNat] := by
    unfold seqAt
    rw [if_pos e2]
    simp [hr]
  refine ⟨xs[r.toNat], ds', ?_, List.getElem_mem hr, e4⟩
  refine run_rt rfl (ss_rt (s_retV (e_p2 (d := .lst xs) (e_r0 rfl) (l2 := [.own true ds', .dat (.lst xs)]) (e_call (es_cons (e_rO (ds := ds) (b := true) rfl) (es_p (e_p1 (e_r0 (d := .lst xs) rfl) rfl) es_nil)) (do_ref (ds := ds) (ds' := ds') (b := true) rfl e1)) ?_))) rfl
  simp only [ap2, es, Option.map_some]
/-- a draw at a local well -/
theorem Draws.at_ {j i m : Nat} {loc : Loc} {ds : List D} {n : Int} (h : Draws C j) (hi : loc[i]? = some (.own false ds)) (hw : IsWell m ds) (h0 : 0 < n) (h1 : n < 2 ^ 60) (hm : m < 2 ^ 40) :
    ∃ r ds', doCall C j [.ref i, .val (.int n)] loc = some (.val (.int r), loc.set i (.own false ds')) ∧ 0 ≤ r ∧ r < n ∧ IsWell (m + 1) ds' := by
  obtain ⟨r, ds', e1, e2, e3, e4⟩ := h ds m n hw h0 h1 hm
  exact ⟨r, ds', do_ref hi e1, e2, e3, e4⟩
theorem Ones.at_ {j i m : Nat} {loc : Loc} {ds : List D} {xs : List D} (h : Ones C j) (hi : loc[i]? = some (.own false ds)) (hw : IsWell m ds) (h0 : xs ≠ []) (h1 : xs.length < 2 ^ 60) (hm : m < 2 ^ 40) :
    ∃ d ds', doCall C j [.ref i, .val (.lst xs)] loc = some (.val d, loc.set i (.own false ds')) ∧ d ∈ xs ∧ IsWell (m + 1) ds' := by
  obtain ⟨r, ds', e1, e2, e3⟩ := h ds m xs hw h0 h1 hm
  exact ⟨r, ds', do_ref hi e1, e2, e3⟩
def wellA : FD := ⟨1, 1, [.ret (.lst [.o2 .ix (.lst [.c (.int 0), .r 0]) (.o1 .int (.o2 .ge (.r 0) (.o2 .pow (.c (.int 10)) (.c (.int 18))))), .r 0, .c (.int 0)])], none⟩
theorem wellA_ok (c : Int) : ∃ ds, runFD G C F wellA [.dat (.int c)] = some (.new ds, [.dat (.int c)]) ∧ IsWell 0 ds := by
  have hp : ev G C (.o2 .pow (.c (.int 10)) (.c (.int 18))) [.dat (.int c)] = some (.val (.int 1000000000000000000), [.dat (.int c)]) := e_p2 e_k e_k rfl
  have h1 : ∀ k : Bool, decide ((1000000000000000000 : Int) ≤ c) = k → ev G C (.o2 .ix (.lst [.c (.int 0), .r 0]) (.o1 .int (.o2 .ge (.r 0) (.o2 .pow (.c (.int 10)) (.c (.int 18)))))) [.dat (.int c)] = some (.val (.int (if k then c else 0)), [.dat (.int c)]) := fun k hk => by
    refine X.e_o2 (X.e_lst (es_p e_k (es_p (e_r0 rfl) es_nil)) rfl) (e_p1 (d := .bl k) (e_p2 (e_r0 rfl) hp ?_) rfl) rfl rfl ?_
    · simp only [ap2, cmpI, hk]
    · cases k <;> rfl
  refine ⟨[.int (if decide ((1000000000000000000 : Int) ≤ c) then c else 0), .int c, .int 0], run_rt rfl (ss_rt (s_retL (X.e_lst (es_p (h1 _ rfl) (es_p (e_r0 rfl) (es_p e_k es_nil))) rfl))) rfl, _, _, _, rfl, by decide, by decide⟩
def cellA : FD := ⟨2, 2, [.ite (.o2 .lt (.r 1) (.sLen 0)) [.ret (.sIx 0 (.r 1))] [], .ret (.c (.int 0))], none⟩
theorem e_sLen {i : Nat} {loc : Loc} {ns : List Int} (h : loc[i]? = some (.scr ns)) : ev G C (.sLen i) loc = some (.val (.int ns.length), loc) := by rw [ev, h]
theorem e_sIx {i : Nat} {loc l1 : Loc} {ns : List Int} {a : ME} {k : Nat} {n : Int} (h : loc[i]? = some (.scr ns)) (h1 : ev G C a loc = some (.val (.int k), l1)) (h2 : ns[k]? = some n) : ev G C (.sIx i a) loc = some (.val (.int n), l1) := by
  rw [ev, h]; simp only [h1]; rw [if_pos (by omega), Int.toNat_natCast, h2]
theorem cellA_ok (ns : List Int) (k : Nat) : ∃ n, runFD G C F cellA [.scr ns, .dat (.int k)] = some (.val (.int n), [.scr ns, .dat (.int k)]) := by
  have h1 : ∀ b : Bool, decide ((k : Int) < ns.length) = b → evT G C (.o2 .lt (.r 1) (.sLen 0)) [.scr ns, .dat (.int k)] = some (b, [.scr ns, .dat (.int k)]) := fun b hb =>
    X.t_bl (e_p2 (e_r0 rfl) (e_sLen rfl) (by simp only [ap2, hb]))
  by_cases h : (k : Int) < ns.length
  · have hk : k < ns.length := by omega
    exact ⟨ns[k], run_rt rfl (ss_rt (X.s_T (h1 true (decide_eq_true h)) (ss_rt (s_retV (e_sIx (ns := ns) rfl (e_r0 rfl) (List.getElem?_eq_getElem hk)))))) rfl⟩
  · exact ⟨0, run_rt rfl (ss_nx (X.s_F (h1 false (decide_eq_false h)) ss_nil) (ss_rt (s_retV e_k))) rfl⟩
theorem add_lst {xs ys : List D} (h : xs.length + ys.length ≤ big) : ap2 .add (.lst xs) (.lst ys) = some (.new (xs ++ ys)) := by
  simp only [ap2, if_pos h]
theorem e_sSl {i : Nat} {loc : Loc} {ns : List Int} {x y : Int} (h : loc[i]? = some (.scr ns)) : ev G C (.sSl i (some (.c (.int x))) (some (.c (.int y)))) loc = some (.new (cutD (ns.map D.int) (some x) (some y)), loc) := by
  rw [ev, h]; simp only [evo, ev]
theorem cut_mem {xs : List D} {lo hi : Option Int} {d : D} (h : d ∈ cutD xs lo hi) : d ∈ xs := List.mem_of_mem_drop (List.mem_of_mem_take h)
theorem cut_len (xs : List D) (lo hi : Option Int) : (cutD xs lo hi).length ≤ xs.length := by
  unfold cutD
  rw [List.length_take, List.length_drop]
  omega
/-- the cells that a law goes through -/
def cellsM (ic : Nat) (k : Int) : ME := .o2 .add (.lst [.call ic [.r 0, .c (.int 0)]]) (.sSl 0 (some (.c (.int 1))) (some (.c (.int k))))
theorem cells_ok {T : List FD} {kk ic : Nat} {k : Int} {loc : Loc} {ns : List Int} (hj : T[ic]? = some cellA) (hl : ns.length ≤ 63) (h : loc[0]? = some (.scr ns)) : ∃ items : List D, evI G (callN G T F (kk + 1)) (.seq (cellsM ic k)) loc = some (items, loc) ∧ ∀ d ∈ items, ∃ c, d = .int c := by
  obtain ⟨n, e1⟩ := cellA_ok (G := G) (C := callN G T F kk) (F := F) ns 0
  have e2 : callN G T F (kk + 1) ic [.scr ns, .dat (.int 0)] = some (.val (.int n), [.scr ns, .dat (.int 0)]) := by
    rw [callN_run hj]; exact e1
  have hlen : ([D.int n] : List D).length + (cutD (ns.map D.int) (some 1) (some k)).length ≤ big := by
    have := cut_len (ns.map D.int) (some 1) (some k)
    rw [List.length_map] at this
    have h64 : 64 ≤ big := by decide
    simp only [List.length_cons, List.length_nil]
    omega
  have er : ev G (callN G T F (kk + 1)) (.r 0) loc = some (.ref 0, loc) := by rw [ev, h]
  refine ⟨[D.int n] ++ cutD (ns.map D.int) (some 1) (some k), X.i_seq (X.e_o2 (X.e_lst (es_p (e_call (es_cons er (es_p e_k es_nil)) (do_scr h e2)) es_nil) (show List.mapM toVal [R.val (.int n)] = some [D.int n] from rfl)) (e_sSl h) rfl rfl (add_lst hlen)) rfl, fun d hd => ?_⟩
  rcases List.mem_append.mp hd with hd | hd
  · exact ⟨n, by simpa using hd⟩
  · obtain ⟨c, _, rfl⟩ := List.mem_map.mp (cut_mem hd)
    exact ⟨c, rfl⟩
end
end MP

namespace MP
open PySem L2 X
/-! the other laws' well and draw -/
def wellB : FD := ⟨1, 1, [.ret (.lst [.o2 .mul (.r 0) (.o1 .int (.o2 .ge (.r 0) (.o2 .pow (.c (.int 10)) (.c (.int 18))))), .r 0, .c (.int 0)])], none⟩
def drawB : FD := ⟨2, 5, [.ite (.o2 .gt (.o2 .ix (.r 0) (.c (.int 0))) (.c (.int 0))) [.set (.v 4) (.o2 .mod (.o2 .ix (.r 0) (.c (.int 0))) (.r 1)), .put 0 (.c (.int 0)) (.o2 .fdiv (.o2 .ix (.r 0) (.c (.int 0))) (.r 1)), .ret (.r 4)] [], .put 0 (.c (.int 2)) (.o2 .add (.o2 .ix (.r 0) (.c (.int 2))) (.c (.int 1))), .set (.v 2) (.o2 .add (.o2 .mod (.o2 .ix (.r 0) (.c (.int 1))) (.c (.int 2147483587))) (.o2 .mul (.o2 .mod (.o2 .fdiv (.o2 .ix (.r 0) (.c (.int 1))) (.c (.int 2147483587))) (.c (.int 90001))) (.c (.int 23)))), .set (.v 3) (.o2 .mod (.o2 .pow (.o2 .add (.o2 .add (.r 2) (.o2 .mul (.c (.int 6373)) (.o2 .ix (.r 0) (.c (.int 2))))) (.c (.int 11))) (.c (.int 5))) (.c (.int 2147483629))), .set (.v 3) (.o2 .mod (.o2 .mul (.r 3) (.o2 .add (.o2 .add (.o2 .fdiv (.r 3) (.c (.int 977))) (.c (.int 48611))) (.o2 .ix (.r 0) (.c (.int 2))))) (.c (.int 2147483647))), .ret (.o2 .mod (.o2 .mod (.o2 .mul (.r 3) (.o2 .add (.o2 .fdiv (.r 3) (.c (.int 1999))) (.c (.int 30011)))) (.c (.int 2147483579))) (.r 1))], none⟩
theorem mul_okR {x y : Int} (h0 : 0 ≤ y) (h : y < 2 ^ 60) : mulOk x y = true := by
  unfold mulOk
  simp only [Bool.or_eq_true, Bool.and_eq_true, decide_eq_true_eq]
  exact .inl (.inr ⟨by omega, by omega⟩)
theorem drawB_ok {G : Nat → D} {C : CallS} {F m : Nat} {ds : List D} {n : Int} (hw : IsWell m ds) (h0 : 0 < n) (h1 : n < 2 ^ 60) (hm : m < 2 ^ 40) :
    ∃ r ds', runFD G C F drawB [.own true ds, .dat (.int n)] = some (.val (.int r), [.own true ds', .dat (.int n)]) ∧ 0 ≤ r ∧ r < n ∧ IsWell (m + 1) ds' := by
  obtain ⟨a, c, t, rfl, t0, t1⟩ := hw
  have hf : fdivOk n = true := fdiv_ok h0 (by omega)
  by_cases ha : 0 < a
  · refine ⟨a % n, [.int (a / n), .int c, .int t], ?_, Int.emod_nonneg _ (by omega), Int.emod_lt_of_pos _ h0, _, _, _, rfl, t0, by omega⟩
    simp [runFD, drawB, sxs, sx, evT, ev, res, sett, ap2, cmpI, seqAt, ha, h0, hf, truth, toVal, bindP, put, free, lent]
  · have e1 : c % 2147483587 < 2147483587 := Int.emod_lt_of_pos _ (by decide)
    have e2 : 0 ≤ c % 2147483587 := Int.emod_nonneg _ (by decide)
    have e3 : c / 2147483587 % 90001 < 90001 := Int.emod_lt_of_pos _ (by decide)
    have e4 : 0 ≤ c / 2147483587 % 90001 := Int.emod_nonneg _ (by decide)
    have p0 : mulOk (c / 2147483587 % 90001) 23 = true := mul_ok e4 (by omega)
    have p1 : powOk (c % 2147483587 + c / 2147483587 % 90001 * 23 + 6373 * (t + 1) + 11) 5 = true := pow_ok (by omega) (by omega)
    generalize hx : (c % 2147483587 + c / 2147483587 % 90001 * 23 + 6373 * (t + 1) + 11) ^ (5 : Nat) % 2147483629 = x at *
    have x1 : x < 2147483629 := hx ▸ Int.emod_lt_of_pos _ (by decide)
    have x0 : 0 ≤ x := hx ▸ Int.emod_nonneg _ (by decide)
    have p2 : ∀ y, mulOk x y = true := fun y => mul_ok x0 (by omega)
    generalize hy : x * (x / 977 + 48611 + (t + 1)) % 2147483647 = y at *
    have y1 : y < 2147483647 := hy ▸ Int.emod_lt_of_pos _ (by decide)
    have y0 : 0 ≤ y := hy ▸ Int.emod_nonneg _ (by decide)
    have p3 : ∀ z, mulOk y z = true := fun z => mul_ok y0 (by omega)
    have p4 : mulOk 6373 (t + 1) = true := mul_ok (by decide) (by decide)
    have f1 : fdivOk 2147483587 = true := by decide
    have f2 : fdivOk 977 = true := by decide
    have f3 : fdivOk 1999 = true := by decide
    refine ⟨y * (y / 1999 + 30011) % 2147483579 % n, [.int a, .int c, .int (t + 1)], ?_, Int.emod_nonneg _ (by omega), Int.emod_lt_of_pos _ h0, _, _, _, rfl, by omega, by omega⟩
    have e5 : (5 : Int).toNat = 5 := rfl
    simp [runFD, drawB, sxs, sx, evT, ev, res, sett, ap2, cmpI, seqAt, ha, h0, truth, toVal, bindP, put, free, lent, f1, f2, f3, p0, p1, p2, p3, p4, e5, hx, hy]
theorem draws_ofB {G : Nat → D} {F : Nat} {T : List FD} {k j : Nat} (hj : T[j]? = some drawB) : Draws (callN G T F (k + 1)) j := fun ds m n h1 h2 h3 h4 => by
  rw [callN_run hj]
  exact drawB_ok h1 h2 h3 h4
theorem wellB_ok {G : Nat → D} {C : CallS} {F : Nat} (c : Int) : ∃ ds, runFD G C F wellB [.dat (.int c)] = some (.new ds, [.dat (.int c)]) ∧ IsWell 0 ds := by
  have hp : ev G C (.o2 .pow (.c (.int 10)) (.c (.int 18))) [.dat (.int c)] = some (.val (.int 1000000000000000000), [.dat (.int c)]) := e_p2 e_k e_k rfl
  have h1 : ∀ k : Bool, decide ((1000000000000000000 : Int) ≤ c) = k → ev G C (.o2 .mul (.r 0) (.o1 .int (.o2 .ge (.r 0) (.o2 .pow (.c (.int 10)) (.c (.int 18)))))) [.dat (.int c)] = some (.val (.int (c * (if k then 1 else 0))), [.dat (.int c)]) := fun k hk => by
    refine e_p2 (e_r0 rfl) (e_p1 (d := .bl k) (e_p2 (e_r0 rfl) hp ?_) rfl) ?_
    · simp only [ap2, cmpI, hk]
    · have : mulOk c (if k then 1 else 0) = true := mul_okR (by cases k <;> decide) (by cases k <;> decide)
      simp only [ap2, this, if_true]
  exact ⟨[.int (c * (if decide ((1000000000000000000 : Int) ≤ c) then 1 else 0)), .int c, .int 0], run_rt rfl (ss_rt (s_retL (X.e_lst (es_p (h1 _ rfl) (es_p (e_r0 rfl) (es_p e_k es_nil))) rfl))) rfl, _, _, _, rfl, by decide, by decide⟩
end MP

/-! a law that goes through its cells, each turn from the same slots -/
namespace MP
open PySem L2 X
def isFr : Slot → Bool
  | .none => true
  | .dat _ => true
  | .own b _ => !b
  | _ => false
/-- a turn ended well: the script in slot 0, the others free -/
def fin (n : Nat) (o : Option Out) : Option Slot := match o with
  | some (.nx (s :: r)) => if r.all isFr && r.length == n then some s else none
  | _ => none
def upto (a : Nat) : Nat → List Nat
  | 0 => []
  | n + 1 => a :: upto (a + 1) n
theorem upto_mem {a n i : Nat} : i ∈ upto a n ↔ a ≤ i ∧ i < a + n := by
  induction n generalizing a with
  | zero => simp [upto]
  | succ n ih =>
    rw [upto, List.mem_cons, ih]
    omega
theorem isFr_free {loc : Loc} {i : Nat} {s : Slot} (h : loc[i]? = some s) (hf : isFr s = true) : free loc i = true := by
  unfold free
  rw [h]
  cases s with
  | none => rfl
  | dat d => rfl
  | own b ds => exact hf
  | scr ns => cases hf
  | hid => cases hf
def lawFD (ic m : Nat) (K : Int) (B : List MS) : FD := ⟨1, m + 2, [.loop (.v 1) (.seq (cellsM ic K)) (.forget (upto 2 m) :: B), .ret (.c (.bl true))], none⟩
section
variable {G : Nat → D} {F k ic m j : Nat} {T : List FD} {K : Int} {B : List MS}
theorem wipe_all {ns : List Int} {d : D} {r : Loc} (hr : r.length = m) : wipeL (.scr ns :: .dat d :: r) (upto 2 m) = .scr ns :: .dat d :: List.replicate m .none := by
  apply List.ext_getElem?
  intro i
  by_cases h : i ∈ upto 2 m
  · have h' := upto_mem.mp h
    rw [wipeL_in h (by simp; omega)]
    obtain ⟨i', rfl⟩ : ∃ i', i = i' + 2 := ⟨i - 2, by omega⟩
    simp only [List.getElem?_cons_succ]
    rw [List.getElem?_replicate, if_pos (by omega)]
  · rw [wipeL_out h]
    have h' : ¬ (2 ≤ i ∧ i < 2 + m) := fun z => h (upto_mem.mpr z)
    match i, h' with
    | 0, _ => rfl
    | 1, _ => rfl
    | i + 2, h' =>
      simp only [List.getElem?_cons_succ]
      rw [List.getElem?_replicate, if_neg (by omega), List.getElem?_eq_none (by omega)]
theorem law_cells (hj : T[j]? = some (lawFD ic m K B)) (hic : T[ic]? = some cellA)
    (hB : ∀ (ns : List Int) (c : Int), fin (m + 1) (sxs G (callN G T F (k + 1)) F B (.scr ns :: .dat (.int c) :: List.replicate m .none)) = some (.scr ns)) :
    ∀ ns : List Int, ns.length ≤ 63 → ∃ a', callN G T F (k + 2) j [.scr ns] = some (.val (.bl true), a') := fun ns hl => by
  rw [callN_run hj]
  obtain ⟨items, e1, e2⟩ := cells_ok (G := G) (F := F) (kk := k) (k := K) (loc := .scr ns :: List.replicate (m + 1) .none) hic hl rfl
  have hinv := for_inv (p := .v 1) (body := sxs G (callN G T F (k + 1)) F (.forget (upto 2 m) :: B)) (I := fun loc => ∃ r, loc = .scr ns :: r ∧ r.length = m + 1 ∧ r.all isFr = true) (M := fun d => ∃ c, d = .int c)
    (fun d loc hd hI => by
      obtain ⟨c, rfl⟩ := hd
      obtain ⟨r, rfl, hr, hf⟩ := hI
      cases r with
      | nil => simp at hr
      | cons s r =>
        have hr' : r.length = m := by simpa using hr
        simp only [List.all_cons, Bool.and_eq_true] at hf
        have hp : bindP (.v 1) (.int c) (.scr ns :: s :: r) = some (.scr ns :: .dat (.int c) :: r) := by
          show put _ 1 _ = _
          unfold put
          rw [if_pos (isFr_free (s := s) rfl hf.1)]
          rfl
        have hfor : sx G (callN G T F (k + 1)) F (.forget (upto 2 m)) (.scr ns :: .dat (.int c) :: r) = some (.nx (.scr ns :: .dat (.int c) :: List.replicate m .none)) := by
          rw [sx, if_pos, wipe_all hr']
          rw [List.all_eq_true]
          intro i hi
          have h' := upto_mem.mp hi
          obtain ⟨i', rfl⟩ : ∃ i', i = i' + 2 := ⟨i - 2, by omega⟩
          have hlt : i' < r.length := by omega
          exact isFr_free (s := r[i']) (by simp [hlt]) (List.all_eq_true.mp hf.2 _ (List.getElem_mem hlt))
        have hb := hB ns c
        unfold fin at hb
        split at hb
        · rename_i s0 r0 h0
          split at hb
          · rename_i h1
            simp only [Bool.and_eq_true, beq_iff_eq] at h1
            cases hb
            exact ⟨_, _, hp, .inl (ss_nx hfor h0), r0, rfl, h1.2, h1.1⟩
          · cases hb
        · cases hb) items (.scr ns :: List.replicate (m + 1) .none) e2 ⟨_, rfl, by simp, by
        rw [List.all_eq_true]
        intro x hx
        rw [List.eq_of_mem_replicate hx]
        rfl⟩
  obtain ⟨l2, h2, r, rfl, hr, hf⟩ := hinv
  refine ⟨[.scr ns], run_rt (a := [.scr ns]) rfl (ss_nx (X.s_loop e1 h2) (ss_rt (s_retV e_k))) ?_⟩
  simp only [lent]
end
theorem ss_eq {G : Nat → D} {C : CallS} {F : Nat} {s : MS} {ss : List MS} {loc l1 : Loc} (h : sx G C F s loc = some (.nx l1)) : sxs G C F (s :: ss) loc = sxs G C F ss l1 := by rw [sxs, h]
/-- a drawn number at a well -/
theorem e_draw {G : Nat → D} {C : CallS} {jd i m : Nat} {loc : Loc} {w : List D} {n : Int} {a : ME} (hd : Draws C jd) (hi : loc[i]? = some (.own false w)) (ha : ev G C a loc = some (.val (.int n), loc)) (hw : IsWell m w) (h0 : 0 < n) (h1 : n < 2 ^ 60) (hm : m < 2 ^ 40) :
    ∃ r w', ev G C (.call jd [.r i, a]) loc = some (.val (.int r), loc.set i (.own false w')) ∧ 0 ≤ r ∧ r < n ∧ IsWell (m + 1) w' := by
  obtain ⟨r, w', e1, e2, e3, e4⟩ := hd.at_ hi hw h0 h1 hm
  exact ⟨r, w', e_call (es_cons (e_rO hi) (es_p ha es_nil)) e1, e2, e3, e4⟩
theorem e_well {G : Nat → D} {C : CallS} {jw i : Nat} {loc : Loc} {c : Int} {w : List D} (hi : loc[i]? = some (.dat (.int c))) (h : C jw [.dat (.int c)] = some (.new w, [.dat (.int c)])) : ev G C (.call jw [.r i]) loc = some (.new w, loc) :=
  e_call (es_p (e_r0 hi) es_nil) (doCall_dat (ds := [.int c]) h)
end MP

/-! the tables of the law: terms of the evaluator, entries, head (printed by gen.py) -/
namespace MP
namespace T
open PySem PySem.Spec PyProof.Rows L2
def top (i : Nat) : Stmt := PySem.Challenge.pw_rillwise_k51_steps_of_turnings.main.body.getD i (.Pass ⟨0, 0, 0, 0⟩)
def f0 : FD := ⟨2, 2, [.ite (.o2 .lt (.r 1) (.sLen 0)) [.ret (.sIx 0 (.r 1))] [], .ret (.c (.int 0))], none⟩
def f1 : FD := ⟨1, 1, [.ret (.lst [.o2 .mul (.r 0) (.o1 .int (.o2 .ge (.r 0) (.o2 .pow (.c (.int 10)) (.c (.int 18))))), .r 0, .c (.int 0)])], none⟩
def f2 : FD := ⟨2, 5, [.ite (.o2 .gt (.o2 .ix (.r 0) (.c (.int 0))) (.c (.int 0))) [.set (.v 4) (.o2 .mod (.o2 .ix (.r 0) (.c (.int 0))) (.r 1)), .put 0 (.c (.int 0)) (.o2 .fdiv (.o2 .ix (.r 0) (.c (.int 0))) (.r 1)), .ret (.r 4)] [], .put 0 (.c (.int 2)) (.o2 .add (.o2 .ix (.r 0) (.c (.int 2))) (.c (.int 1))), .set (.v 2) (.o2 .add (.o2 .mod (.o2 .ix (.r 0) (.c (.int 1))) (.c (.int 2147483587))) (.o2 .mul (.o2 .mod (.o2 .fdiv (.o2 .ix (.r 0) (.c (.int 1))) (.c (.int 2147483587))) (.c (.int 90001))) (.c (.int 23)))), .set (.v 3) (.o2 .mod (.o2 .pow (.o2 .add (.o2 .add (.r 2) (.o2 .mul (.c (.int 6373)) (.o2 .ix (.r 0) (.c (.int 2))))) (.c (.int 11))) (.c (.int 5))) (.c (.int 2147483629))), .set (.v 3) (.o2 .mod (.o2 .mul (.r 3) (.o2 .add (.o2 .add (.o2 .fdiv (.r 3) (.c (.int 977))) (.c (.int 48611))) (.o2 .ix (.r 0) (.c (.int 2))))) (.c (.int 2147483647))), .ret (.o2 .mod (.o2 .mod (.o2 .mul (.r 3) (.o2 .add (.o2 .fdiv (.r 3) (.c (.int 1999))) (.c (.int 30011)))) (.c (.int 2147483579))) (.r 1))], none⟩
def f3 : FD := ⟨2, 8, [.set (.v 2) (.lrng (.rng2 (.c (.int 1)) (.o2 .add (.r 1) (.c (.int 1))))), .own 3 (.lst []), .loop (.v 4) (.rng1 (.r 1)) [.set (.v 5) (.call 2 [.r 0, .o1 .len (.r 2)]), .set (.v 6) (.o2 .ix (.r 2) (.r 5)), .set (.v 2) (.o2 .add (.sl (.r 2) .none (.some (.r 5))) (.sl (.r 2) (.some (.o2 .add (.r 5) (.c (.int 1)))) .none)), .set (.v 7) (.or (.o2 .lt (.r 6) (.o2 .add (.r 4) (.c (.int 1)))) (.and (.o2 .eq (.r 6) (.o2 .add (.r 4) (.c (.int 1)))) (.o2 .eq (.call 2 [.r 0, .c (.int 2)]) (.c (.int 0))))), .ex (.app 3 (.o2 .add (.r 6) (.o2 .mul (.r 1) (.o1 .int (.r 7)))))], .ret (.fz 3)], none⟩
def f4 : FD := ⟨3, 3, [.ret (.and (.o1 (.isi .int) (.r 0)) (.and (.not (.o1 (.isi .bool) (.r 0))) (.ch .le .le (.r 1) (.r 0) (.r 2))))], none⟩
def f5 : FD := ⟨1, 5, [.ite (.or (.not (.o1 (.isi .list) (.r 0))) (.not (.ch .le .le (.c (.int 1)) (.o1 .len (.r 0)) (.g 0)))) [.bad] [], .set (.v 1) (.o1 .len (.r 0)), .loop (.tup [2, 3]) (.enum (.r 0)) [.ite (.not (.callK 4 [.r 3] [.o2 .add (.r 2) (.c (.int 1)), .o2 .add (.o2 .add (.r 2) (.c (.int 1))) (.r 1)] [0, 1, 2])) [.bad] []], .loop (.tup [2, 3]) (.enum (.r 0)) [.ite (.o2 .isin (.o2 .mod (.r 3) (.r 1)) (.lc [4] (.v 4) (.seq (.sl (.r 0) .none (.some (.r 2)))) [] (.o2 .mod (.r 4) (.r 1)))) [.bad] []]], none⟩
def f6 : FD := ⟨2, 2, [.ex (.call 5 [.r 1])], some ⟨0, [.o1 .tuple (.r 1)], []⟩⟩
def f7 : FD := ⟨1, 3, [.set (.v 1) (.o1 .len (.r 0)), .ret (.lc [2] (.v 2) (.seq (.r 0)) [] (.tup [.o2 .mod (.o2 .sub (.r 2) (.c (.int 1))) (.r 1), .o1 .int (.o2 .gt (.r 2) (.r 1))]))], none⟩
def f8 : FD := ⟨1, 2, [.ret (.lc [1] (.v 1) (.rng1 (.o1 .len (.r 0))) [.o2 .eq (.o2 .ix (.o2 .ix (.r 0) (.r 1)) (.c (.int 0))) (.r 1)] (.r 1))], none⟩
def f9 : FD := ⟨2, 5, [.own 2 (.lst []), .loop (.tup [3, 4]) (.enum (.r 0)) [.ite (.o2 .ne (.r 3) (.r 1)) [.ex (.app 2 (.tup [.o2 .sub (.o2 .ix (.r 4) (.c (.int 0))) (.o1 .int (.o2 .gt (.o2 .ix (.r 4) (.c (.int 0))) (.r 1))), .o2 .ix (.r 4) (.c (.int 1))]))] []], .ret (.fz 2)], none⟩
def f10 : FD := ⟨1, 8, [.set (.v 1) (.call 7 [.r 0]), .own 2 (.lst []), .wh (.o2 .ne (.r 1) (.lst [])) [.set (.v 3) (.call 8 [.r 1]), .ite (.o2 .ne (.r 3) (.lst [])) [.ex (.app 2 (.tup [.o2 .ix (.lst [.c (.str "dry"), .c (.str "needed")]) (.o2 .ix (.o2 .ix (.r 1) (.o2 .ix (.r 3) (.c (.int 0)))) (.c (.int 1))), .o2 .add (.o2 .ix (.r 3) (.c (.int 0))) (.c (.int 1))])), .set (.v 1) (.call 9 [.r 1, .o2 .ix (.r 3) (.c (.int 0))])] [.set (.v 4) (.lc [6] (.v 6) (.seq (.r 1)) [] (.tup [.o2 .ix (.r 6) (.c (.int 1)), .o2 .ix (.r 6) (.c (.int 0))])), .set (.v 5) (.o2 .ix (.lc [7] (.v 7) (.rng1 (.o2 .sub (.o1 .len (.r 4)) (.c (.int 1)))) [.o2 .lt (.o2 .ix (.r 4) (.r 7)) (.o2 .ix (.r 4) (.o2 .add (.r 7) (.c (.int 1))))] (.r 7)) (.c (.int 0))), .ex (.app 2 (.tup [.c (.str "bridge"), .o2 .add (.r 5) (.c (.int 1))])), .set (.v 1) (.o2 .add (.o2 .add (.sl (.r 1) .none (.some (.r 5))) (.lst [.o2 .ix (.r 1) (.o2 .add (.r 5) (.c (.int 1))), .o2 .ix (.r 1) (.r 5)])) (.sl (.r 1) (.some (.o2 .add (.r 5) (.c (.int 2)))) .none))]], .ret (.fz 2)], none⟩
def f11 : FD := ⟨1, 1, [.ret (.o1 .list (.fld [(0, 0)] (.r 0)))], none⟩
def f12 : FD := ⟨1, 3, [.loop (.tup [1, 2]) (.enum (.r 0)) [.ite (.o2 .eq (.r 2) (.o2 .add (.r 1) (.c (.int 1)))) [.ret (.tup [.c (.str "dry"), .o2 .add (.r 1) (.c (.int 1))])] [], .ite (.o2 .eq (.r 2) (.o2 .add (.o2 .add (.r 1) (.c (.int 1))) (.o1 .len (.r 0)))) [.ret (.tup [.c (.str "needed"), .o2 .add (.r 1) (.c (.int 1))])] []], .ret (.c .non)], none⟩
def f13 : FD := ⟨1, 3, [.set (.v 1) (.call 12 [.r 0]), .ite (.o2 .isnot (.r 1) (.c .non)) [.ret (.r 1)] [], .ret (.tup [.c (.str "bridge"), .o2 .ix (.lc [2] (.v 2) (.rng1 (.o2 .sub (.o1 .len (.r 0)) (.c (.int 1)))) [.o2 .lt (.o2 .ix (.r 0) (.r 2)) (.o2 .ix (.r 0) (.o2 .add (.r 2) (.c (.int 1))))] (.o2 .add (.r 2) (.c (.int 1)))) (.c (.int 0))])], none⟩
def f14 : FD := ⟨3, 5, [.set (.tup [3, 4]) (.o2 .dmod (.o2 .sub (.r 0) (.c (.int 1))) (.r 2)), .ret (.o2 .sub (.o2 .add (.o2 .add (.o2 .mul (.r 3) (.o2 .sub (.r 2) (.c (.int 1)))) (.r 4)) (.c (.int 1))) (.o1 .int (.o2 .gt (.o2 .add (.r 4) (.c (.int 1))) (.r 1))))], none⟩
def f15 : FD := ⟨2, 4, [.ret (.lc [2, 3] (.tup [2, 3]) (.enum (.r 0)) [.o2 .ne (.o2 .add (.r 2) (.c (.int 1))) (.r 1)] (.call 14 [.r 3, .r 1, .o1 .len (.r 0)]))], none⟩
def f16 : FD := ⟨2, 4, [.set (.tup [2, 3]) (.r 1), .ite (.o2 .ne (.r 2) (.c (.str "bridge"))) [.ret (.call 15 [.r 0, .r 3])] [], .ret (.o2 .add (.o2 .add (.sl (.r 0) .none (.some (.o2 .sub (.r 3) (.c (.int 1))))) (.lst [.o2 .ix (.r 0) (.r 3), .o2 .ix (.r 0) (.o2 .sub (.r 3) (.c (.int 1)))])) (.sl (.r 0) (.some (.o2 .add (.r 3) (.c (.int 1)))) .none))], none⟩
def f17 : FD := ⟨1, 3, [.set (.v 1) (.meth [(0, 11)] (.r 0) []), .own 2 (.lst []), .wh (.r 1) [.ex (.app 2 (.call 13 [.r 1])), .set (.v 1) (.call 16 [.r 1, .o2 .ix (.r 2) (.o1 .neg (.c (.int 1)))])], .retO 2], none⟩
def f18 : FD := ⟨2, 3, [.ret (.o1 .len (.lc [2] (.v 2) (.seq (.r 0)) [.o2 .eq (.o2 .ix (.r 2) (.c (.int 0))) (.r 1)] (.r 2)))], none⟩
def f19 : FD := ⟨1, 1, [.ret (.o2 .fdiv (.o2 .sub (.o1 .sum (.fld [(0, 0)] (.r 0))) (.sumR (.rng1 (.o2 .add (.o1 .len (.fld [(0, 0)] (.r 0))) (.c (.int 1)))))) (.o1 .len (.fld [(0, 0)] (.r 0))))], none⟩
def f20 : FD := ⟨2, 3, [.set (.v 2) (.o1 .len (.fld [(0, 0)] (.r 0))), .ret (.o2 .add (.o2 .ix (.fld [(0, 0)] (.r 0)) (.o2 .mod (.o2 .sub (.r 1) (.c (.int 1))) (.r 2))) (.o2 .mul (.o2 .fdiv (.o2 .sub (.r 1) (.c (.int 1))) (.r 2)) (.r 2)))], none⟩
def f21 : FD := ⟨1, 6, [.par 3 4 (.o1 .len (.fld [(0, 0)] (.r 0))) (.meth [(0, 19)] (.r 0) []), .set (.v 1) (.o2 .mul (.r 4) (.o2 .sub (.r 3) (.r 4))), .loop (.v 2) (.rng2 (.c (.int 1)) (.o2 .add (.r 3) (.c (.int 1)))) [.aug 1 .sub (.o1 .len (.lc [5] (.v 5) (.rng2 (.o2 .add (.r 2) (.c (.int 1))) (.o2 .add (.r 2) (.r 3))) [.o2 .lt (.meth [(0, 20)] (.r 0) [.r 5]) (.meth [(0, 20)] (.r 0) [.r 2])] (.r 5)))], .ret (.r 1)], none⟩
def f22 : FD := ⟨1, 2, [.ret (.o2 .fdiv (.o1 .sum (.lc [1] (.v 1) (.rng1 (.o1 .len (.r 0))) [] (.o2 .sub (.o2 .sub (.o2 .ix (.r 0) (.r 1)) (.r 1)) (.c (.int 1))))) (.o1 .len (.r 0)))], none⟩
def f23 : FD := ⟨1, 10, [.loop (.v 1) (.seq (.o2 .add (.lst [.call 0 [.r 0, .c (.int 0)]]) (.sSl 0 (.some (.c (.int 1))) (.some (.c (.int 10)))))) [.forget [2, 3, 4, 5, 6, 7, 8, 9], .own 2 (.call 1 [.r 1]), .set (.v 3) (.call 3 [.r 2, .o2 .add (.c (.int 1)) (.call 2 [.r 2, .c (.int 6)])]), .set (.v 4) (.make 0 6 [.r 3]), .set (.v 5) (.call 10 [.r 3]), .loop (.v 6) (.rng1 (.c (.int 2))) [.own 8 (.call 17 [.r 4]), .ite (.or (.not (.o1 (.isi .list) (.r 8))) (.o2 .ne (.o1 .repr (.r 8)) (.o1 .repr (.r 5)))) [.ret (.c (.bl false))] [], .ex (.clear 8)], .set (.v 7) (.lc [9] (.v 9) (.seq (.lst [.c (.str "bridge"), .c (.str "needed"), .c (.str "dry")])) [] (.call 18 [.r 5, .r 9])), .ite (.o2 .ne (.r 7) (.lst [.meth [(0, 21)] (.r 4) [], .call 22 [.r 3], .o2 .sub (.o1 .len (.r 3)) (.call 22 [.r 3])])) [.ret (.c (.bl false))] [], .ite (.or (.o2 .ne (.call 17 [.r 4]) (.r 5)) (.or (.o2 .ne (.meth [(0, 11)] (.r 4) []) (.r 3)) (.o2 .ne (.meth [(0, 19)] (.r 4) []) (.call 22 [.r 3])))) [.ret (.c (.bl false))] []], .ret (.c (.bl true))], none⟩
def e0 : Ent := ⟨("_law_cell_at", none), "_law_cell_at", "_law_cell_at", top 18, ["_law_script", "_law_k"], ["_law_script", "_law_k"], f0⟩
def e1 : Ent := ⟨("_law_well", none), "_law_well", "_law_well", top 19, ["_law_cell"], ["_law_cell"], f1⟩
def e2 : Ent := ⟨("_law_draw", none), "_law_draw", "_law_draw", top 20, ["_law_well_here", "_law_many", "_law_seed", "_law_mixed", "_law_found"], ["_law_well_here", "_law_many"], f2⟩
def e3 : Ent := ⟨("_law_ends", none), "_law_ends", "_law_ends", top 22, ["_law_well_here", "_law_wide", "_law_left", "_law_found", "_law_at", "_law_place", "_law_goal", "_law_round_on"], ["_law_well_here", "_law_wide"], f3⟩
def e4 : Ent := ⟨("is_count", none), "is_count", "is_count", top 6, ["thing", "least", "most"], ["thing", "least", "most"], f4⟩
def e5 : Ent := ⟨("check_ends", none), "check_ends", "check_ends", top 8, ["ends", "many", "at", "end", "other"], ["ends"], f5⟩
def e6 : Ent := ⟨("Turning", some "__init__"), "__init__", "Turning.__init__", inClass (top 9) 0, ["self", "ends"], ["self", "ends"], f6⟩
def e7 : Ent := ⟨("_law_kinds", none), "_law_kinds", "_law_kinds", top 24, ["_law_ends_here", "_law_wide", "_law_end"], ["_law_ends_here"], f7⟩
def e8 : Ent := ⟨("_law_stills", none), "_law_stills", "_law_stills", top 26, ["_law_kinds_here", "_law_at"], ["_law_kinds_here"], f8⟩
def e9 : Ent := ⟨("_law_gone", none), "_law_gone", "_law_gone", top 25, ["_law_kinds_here", "_law_place", "_law_found", "_law_at", "_law_kind"], ["_law_kinds_here", "_law_place"], f9⟩
def e10 : Ent := ⟨("_law_steps", none), "_law_steps", "_law_steps", top 27, ["_law_ends_here", "_law_kinds_here", "_law_found", "_law_stills_here", "_law_keys", "_law_at", "_law_kind", "_law_k"], ["_law_ends_here"], f10⟩
def e11 : Ent := ⟨("Turning", some "ends"), "ends", "Turning.ends", inClass (top 9) 1, ["self"], ["self"], f11⟩
def e12 : Ent := ⟨("still", none), "still", "still", top 13, ["ends", "at", "end"], ["ends"], f12⟩
def e13 : Ent := ⟨("next_step", none), "next_step", "next_step", top 14, ["ends", "found", "at"], ["ends"], f13⟩
def e14 : Ent := ⟨("closed", none), "closed", "closed", top 11, ["goal", "place", "columns", "rounds", "at"], ["goal", "place", "columns"], f14⟩
def e15 : Ent := ⟨("ends_without", none), "ends_without", "ends_without", top 12, ["ends", "place", "at", "end"], ["ends", "place"], f15⟩
def e16 : Ent := ⟨("ends_behind", none), "ends_behind", "ends_behind", top 15, ["ends", "step", "word", "place"], ["ends", "step"], f16⟩
def e17 : Ent := ⟨("steps_of", none), "steps_of", "steps_of", top 16, ["turning", "ends", "found"], ["turning"], f17⟩
def e18 : Ent := ⟨("_law_counted", none), "_law_counted", "_law_counted", top 28, ["_law_steps_here", "_law_word", "_law_step"], ["_law_steps_here", "_law_word"], f18⟩
def e19 : Ent := ⟨("Turning", some "rows"), "rows", "Turning.rows", inClass (top 9) 3, ["self"], ["self"], f19⟩
def e20 : Ent := ⟨("Turning", some "end"), "end", "Turning.end", inClass (top 9) 4, ["self", "column", "many"], ["self", "column"], f20⟩
def e21 : Ent := ⟨("Turning", some "size"), "size", "Turning.size", inClass (top 9) 8, ["self", "found", "a", "many", "rows", "b"], ["self"], f21⟩
def e22 : Ent := ⟨("_law_deep", none), "_law_deep", "_law_deep", top 23, ["_law_ends_here", "_law_at"], ["_law_ends_here"], f22⟩
def e23 : Ent := ⟨("law", none), "law", "law", top 29, ["_law_script", "_law_cell", "_law_well_here", "_law_ends_here", "_law_spun", "_law_due", "_law_turn", "_law_counts", "_law_told", "_law_word"], ["_law_script"], f23⟩
def Gd : Nat → D := fun k => [D.int 6].getD k .non
def tab : Tab := ⟨["bool", "divmod", "enumerate", "int", "isinstance", "len", "list", "range", "repr", "sum", "tuple"], [("MOST_COLUMNS", 0)], [("_law_cell_at", 0), ("_law_well", 1), ("_law_draw", 2), ("_law_ends", 3), ("check_ends", 5), ("_law_kinds", 7), ("_law_stills", 8), ("_law_gone", 9), ("_law_steps", 10), ("still", 12), ("next_step", 13), ("closed", 14), ("ends_without", 15), ("ends_behind", 16), ("steps_of", 17), ("_law_counted", 18), ("_law_deep", 22), ("law", 23)], [⟨"is_count", 4, ["least", "most"], 1, [0, 1, 2]⟩], [["goals"]], [(0, "ends", 11), (0, "rows", 19), (0, "end", 20), (0, "size", 21)], [("Turning", 0, 6)]⟩
def cn : List Str := ["Turning"]
def es : List Ent := [e0, e1, e2, e3, e4, e5, e6, e7, e8, e9, e10, e11, e12, e13, e14, e15, e16, e17, e18, e19, e20, e21, e22, e23]
theorem look0 : e0.ok 60 tab = true := by decide +kernel
theorem look1 : e1.ok 60 tab = true := by decide +kernel
theorem look2 : e2.ok 60 tab = true := by decide +kernel
theorem look3 : e3.ok 60 tab = true := by decide +kernel
theorem look4 : e4.ok 60 tab = true := by decide +kernel
theorem look5 : e5.ok 60 tab = true := by decide +kernel
theorem look6 : e6.ok 60 tab = true := by decide +kernel
theorem look7 : e7.ok 60 tab = true := by decide +kernel
theorem look8 : e8.ok 60 tab = true := by decide +kernel
theorem look9 : e9.ok 60 tab = true := by decide +kernel
theorem look10 : e10.ok 60 tab = true := by decide +kernel
theorem look11 : e11.ok 60 tab = true := by decide +kernel
theorem look12 : e12.ok 60 tab = true := by decide +kernel
theorem look13 : e13.ok 60 tab = true := by decide +kernel
theorem look14 : e14.ok 60 tab = true := by decide +kernel
theorem look15 : e15.ok 60 tab = true := by decide +kernel
theorem look16 : e16.ok 60 tab = true := by decide +kernel
theorem look17 : e17.ok 60 tab = true := by decide +kernel
theorem look18 : e18.ok 60 tab = true := by decide +kernel
theorem look19 : e19.ok 60 tab = true := by decide +kernel
theorem look20 : e20.ok 60 tab = true := by decide +kernel
theorem look21 : e21.ok 60 tab = true := by decide +kernel
theorem look22 : e22.ok 60 tab = true := by decide +kernel
theorem look23 : e23.ok 60 tab = true := by decide +kernel
theorem look : es.all (·.ok 60 tab) = true := by unfold es; simp only [List.all_cons, List.all_nil, Bool.and_true, Bool.and_eq_true, look0, look1, look2, look3, look4, look5, look6, look7, look8, look9, look10, look11, look12, look13, look14, look15, look16, look17, look18, look19, look20, look21, look22, look23, and_self]
theorem kb0 {K : PySem.W.Frag} {f : Addr} {fd : FuncData} (F : FunD K e4.name e4.qual (defArgs e4.st) (defBody e4.st) (defScope e4.st) [] [] f fd) : KwOk K fd e4.ps ⟨"is_count", 4, ["least", "most"], 1, [0, 1, 2]⟩ := kw_ok F rfl (fun _ _ _ _ _ _ us ws h1 h2 => match us, ws, h1, h2 with | [_], [_, _], _, _ => rfl)
theorem eo0 : EntOk tab 0 e0 where
  sc := ⟨rfl, rfl, rfl, by decide +kernel, rfl, by decide +kernel, by decide +kernel⟩
  bd := fun _ {_ _ _} F => F.bindsN fun _ _ _ _ _ _ us hl => match us, hl with | [_, _], _ => rfl
  kw := fun F q hq e => by
    unfold tab at hq
    simp only [List.mem_cons, List.mem_nil_iff, or_false] at hq
    rcases hq with rfl
    · exact absurd (show 4 = 0 from e) (by decide)
theorem eo1 : EntOk tab 1 e1 where
  sc := ⟨rfl, rfl, rfl, by decide +kernel, rfl, by decide +kernel, by decide +kernel⟩
  bd := fun _ {_ _ _} F => F.bindsN fun _ _ _ _ _ _ us hl => match us, hl with | [_], _ => rfl
  kw := fun F q hq e => by
    unfold tab at hq
    simp only [List.mem_cons, List.mem_nil_iff, or_false] at hq
    rcases hq with rfl
    · exact absurd (show 4 = 1 from e) (by decide)
theorem eo2 : EntOk tab 2 e2 where
  sc := ⟨rfl, rfl, rfl, by decide +kernel, rfl, by decide +kernel, by decide +kernel⟩
  bd := fun _ {_ _ _} F => F.bindsN fun _ _ _ _ _ _ us hl => match us, hl with | [_, _], _ => rfl
  kw := fun F q hq e => by
    unfold tab at hq
    simp only [List.mem_cons, List.mem_nil_iff, or_false] at hq
    rcases hq with rfl
    · exact absurd (show 4 = 2 from e) (by decide)
theorem eo3 : EntOk tab 3 e3 where
  sc := ⟨rfl, rfl, rfl, by decide +kernel, rfl, by decide +kernel, by decide +kernel⟩
  bd := fun _ {_ _ _} F => F.bindsN fun _ _ _ _ _ _ us hl => match us, hl with | [_, _], _ => rfl
  kw := fun F q hq e => by
    unfold tab at hq
    simp only [List.mem_cons, List.mem_nil_iff, or_false] at hq
    rcases hq with rfl
    · exact absurd (show 4 = 3 from e) (by decide)
theorem eo4 : EntOk tab 4 e4 where
  sc := ⟨rfl, rfl, rfl, by decide +kernel, rfl, by decide +kernel, by decide +kernel⟩
  bd := fun z => absurd z (by unfold Pos_ tab; decide)
  kw := fun F q hq e => by
    unfold tab at hq
    simp only [List.mem_cons, List.mem_nil_iff, or_false] at hq
    rcases hq with rfl
    · exact kb0 F
theorem eo5 : EntOk tab 5 e5 where
  sc := ⟨rfl, rfl, rfl, by decide +kernel, rfl, by decide +kernel, by decide +kernel⟩
  bd := fun _ {_ _ _} F => F.bindsN fun _ _ _ _ _ _ us hl => match us, hl with | [_], _ => rfl
  kw := fun F q hq e => by
    unfold tab at hq
    simp only [List.mem_cons, List.mem_nil_iff, or_false] at hq
    rcases hq with rfl
    · exact absurd (show 4 = 5 from e) (by decide)
theorem eo6 : EntOk tab 6 e6 where
  sc := ⟨rfl, rfl, rfl, by decide +kernel, rfl, by decide +kernel, by decide +kernel⟩
  bd := fun _ {_ _ _} F => F.bindsN fun _ _ _ _ _ _ us hl => match us, hl with | [_, _], _ => rfl
  kw := fun F q hq e => by
    unfold tab at hq
    simp only [List.mem_cons, List.mem_nil_iff, or_false] at hq
    rcases hq with rfl
    · exact absurd (show 4 = 6 from e) (by decide)
theorem eo7 : EntOk tab 7 e7 where
  sc := ⟨rfl, rfl, rfl, by decide +kernel, rfl, by decide +kernel, by decide +kernel⟩
  bd := fun _ {_ _ _} F => F.bindsN fun _ _ _ _ _ _ us hl => match us, hl with | [_], _ => rfl
  kw := fun F q hq e => by
    unfold tab at hq
    simp only [List.mem_cons, List.mem_nil_iff, or_false] at hq
    rcases hq with rfl
    · exact absurd (show 4 = 7 from e) (by decide)
theorem eo8 : EntOk tab 8 e8 where
  sc := ⟨rfl, rfl, rfl, by decide +kernel, rfl, by decide +kernel, by decide +kernel⟩
  bd := fun _ {_ _ _} F => F.bindsN fun _ _ _ _ _ _ us hl => match us, hl with | [_], _ => rfl
  kw := fun F q hq e => by
    unfold tab at hq
    simp only [List.mem_cons, List.mem_nil_iff, or_false] at hq
    rcases hq with rfl
    · exact absurd (show 4 = 8 from e) (by decide)
theorem eo9 : EntOk tab 9 e9 where
  sc := ⟨rfl, rfl, rfl, by decide +kernel, rfl, by decide +kernel, by decide +kernel⟩
  bd := fun _ {_ _ _} F => F.bindsN fun _ _ _ _ _ _ us hl => match us, hl with | [_, _], _ => rfl
  kw := fun F q hq e => by
    unfold tab at hq
    simp only [List.mem_cons, List.mem_nil_iff, or_false] at hq
    rcases hq with rfl
    · exact absurd (show 4 = 9 from e) (by decide)
theorem eo10 : EntOk tab 10 e10 where
  sc := ⟨rfl, rfl, rfl, by decide +kernel, rfl, by decide +kernel, by decide +kernel⟩
  bd := fun _ {_ _ _} F => F.bindsN fun _ _ _ _ _ _ us hl => match us, hl with | [_], _ => rfl
  kw := fun F q hq e => by
    unfold tab at hq
    simp only [List.mem_cons, List.mem_nil_iff, or_false] at hq
    rcases hq with rfl
    · exact absurd (show 4 = 10 from e) (by decide)
theorem eo11 : EntOk tab 11 e11 where
  sc := ⟨rfl, rfl, rfl, by decide +kernel, rfl, by decide +kernel, by decide +kernel⟩
  bd := fun _ {_ _ _} F => F.bindsN fun _ _ _ _ _ _ us hl => match us, hl with | [_], _ => rfl
  kw := fun F q hq e => by
    unfold tab at hq
    simp only [List.mem_cons, List.mem_nil_iff, or_false] at hq
    rcases hq with rfl
    · exact absurd (show 4 = 11 from e) (by decide)
theorem eo12 : EntOk tab 12 e12 where
  sc := ⟨rfl, rfl, rfl, by decide +kernel, rfl, by decide +kernel, by decide +kernel⟩
  bd := fun _ {_ _ _} F => F.bindsN fun _ _ _ _ _ _ us hl => match us, hl with | [_], _ => rfl
  kw := fun F q hq e => by
    unfold tab at hq
    simp only [List.mem_cons, List.mem_nil_iff, or_false] at hq
    rcases hq with rfl
    · exact absurd (show 4 = 12 from e) (by decide)
theorem eo13 : EntOk tab 13 e13 where
  sc := ⟨rfl, rfl, rfl, by decide +kernel, rfl, by decide +kernel, by decide +kernel⟩
  bd := fun _ {_ _ _} F => F.bindsN fun _ _ _ _ _ _ us hl => match us, hl with | [_], _ => rfl
  kw := fun F q hq e => by
    unfold tab at hq
    simp only [List.mem_cons, List.mem_nil_iff, or_false] at hq
    rcases hq with rfl
    · exact absurd (show 4 = 13 from e) (by decide)
theorem eo14 : EntOk tab 14 e14 where
  sc := ⟨rfl, rfl, rfl, by decide +kernel, rfl, by decide +kernel, by decide +kernel⟩
  bd := fun _ {_ _ _} F => F.bindsN fun _ _ _ _ _ _ us hl => match us, hl with | [_, _, _], _ => rfl
  kw := fun F q hq e => by
    unfold tab at hq
    simp only [List.mem_cons, List.mem_nil_iff, or_false] at hq
    rcases hq with rfl
    · exact absurd (show 4 = 14 from e) (by decide)
theorem eo15 : EntOk tab 15 e15 where
  sc := ⟨rfl, rfl, rfl, by decide +kernel, rfl, by decide +kernel, by decide +kernel⟩
  bd := fun _ {_ _ _} F => F.bindsN fun _ _ _ _ _ _ us hl => match us, hl with | [_, _], _ => rfl
  kw := fun F q hq e => by
    unfold tab at hq
    simp only [List.mem_cons, List.mem_nil_iff, or_false] at hq
    rcases hq with rfl
    · exact absurd (show 4 = 15 from e) (by decide)
theorem eo16 : EntOk tab 16 e16 where
  sc := ⟨rfl, rfl, rfl, by decide +kernel, rfl, by decide +kernel, by decide +kernel⟩
  bd := fun _ {_ _ _} F => F.bindsN fun _ _ _ _ _ _ us hl => match us, hl with | [_, _], _ => rfl
  kw := fun F q hq e => by
    unfold tab at hq
    simp only [List.mem_cons, List.mem_nil_iff, or_false] at hq
    rcases hq with rfl
    · exact absurd (show 4 = 16 from e) (by decide)
theorem eo17 : EntOk tab 17 e17 where
  sc := ⟨rfl, rfl, rfl, by decide +kernel, rfl, by decide +kernel, by decide +kernel⟩
  bd := fun _ {_ _ _} F => F.bindsN fun _ _ _ _ _ _ us hl => match us, hl with | [_], _ => rfl
  kw := fun F q hq e => by
    unfold tab at hq
    simp only [List.mem_cons, List.mem_nil_iff, or_false] at hq
    rcases hq with rfl
    · exact absurd (show 4 = 17 from e) (by decide)
theorem eo18 : EntOk tab 18 e18 where
  sc := ⟨rfl, rfl, rfl, by decide +kernel, rfl, by decide +kernel, by decide +kernel⟩
  bd := fun _ {_ _ _} F => F.bindsN fun _ _ _ _ _ _ us hl => match us, hl with | [_, _], _ => rfl
  kw := fun F q hq e => by
    unfold tab at hq
    simp only [List.mem_cons, List.mem_nil_iff, or_false] at hq
    rcases hq with rfl
    · exact absurd (show 4 = 18 from e) (by decide)
theorem eo19 : EntOk tab 19 e19 where
  sc := ⟨rfl, rfl, rfl, by decide +kernel, rfl, by decide +kernel, by decide +kernel⟩
  bd := fun _ {_ _ _} F => F.bindsN fun _ _ _ _ _ _ us hl => match us, hl with | [_], _ => rfl
  kw := fun F q hq e => by
    unfold tab at hq
    simp only [List.mem_cons, List.mem_nil_iff, or_false] at hq
    rcases hq with rfl
    · exact absurd (show 4 = 19 from e) (by decide)
theorem eo20 : EntOk tab 20 e20 where
  sc := ⟨rfl, rfl, rfl, by decide +kernel, rfl, by decide +kernel, by decide +kernel⟩
  bd := fun _ {_ _ _} F => F.bindsN fun _ _ _ _ _ _ us hl => match us, hl with | [_, _], _ => rfl
  kw := fun F q hq e => by
    unfold tab at hq
    simp only [List.mem_cons, List.mem_nil_iff, or_false] at hq
    rcases hq with rfl
    · exact absurd (show 4 = 20 from e) (by decide)
theorem eo21 : EntOk tab 21 e21 where
  sc := ⟨rfl, rfl, rfl, by decide +kernel, rfl, by decide +kernel, by decide +kernel⟩
  bd := fun _ {_ _ _} F => F.bindsN fun _ _ _ _ _ _ us hl => match us, hl with | [_], _ => rfl
  kw := fun F q hq e => by
    unfold tab at hq
    simp only [List.mem_cons, List.mem_nil_iff, or_false] at hq
    rcases hq with rfl
    · exact absurd (show 4 = 21 from e) (by decide)
theorem eo22 : EntOk tab 22 e22 where
  sc := ⟨rfl, rfl, rfl, by decide +kernel, rfl, by decide +kernel, by decide +kernel⟩
  bd := fun _ {_ _ _} F => F.bindsN fun _ _ _ _ _ _ us hl => match us, hl with | [_], _ => rfl
  kw := fun F q hq e => by
    unfold tab at hq
    simp only [List.mem_cons, List.mem_nil_iff, or_false] at hq
    rcases hq with rfl
    · exact absurd (show 4 = 22 from e) (by decide)
theorem eo23 : EntOk tab 23 e23 where
  sc := ⟨rfl, rfl, rfl, by decide +kernel, rfl, by decide +kernel, by decide +kernel⟩
  bd := fun _ {_ _ _} F => F.bindsN fun _ _ _ _ _ _ us hl => match us, hl with | [_], _ => rfl
  kw := fun F q hq e => by
    unfold tab at hq
    simp only [List.mem_cons, List.mem_nil_iff, or_false] at hq
    rcases hq with rfl
    · exact absurd (show 4 = 23 from e) (by decide)
theorem eoks : allEnt tab 0 es := ⟨eo0, eo1, eo2, eo3, eo4, eo5, eo6, eo7, eo8, eo9, eo10, eo11, eo12, eo13, eo14, eo15, eo16, eo17, eo18, eo19, eo20, eo21, eo22, eo23, trivial⟩
def fa : List He.Fa := [.glo "_law_cell_at", .glo "_law_well", .glo "_law_draw", .glo "_law_ends", .glo "is_count", .glo "check_ends", .glo "_law_kinds", .glo "_law_stills", .glo "_law_gone", .glo "_law_steps", .glo "still", .glo "next_step", .glo "closed", .glo "ends_without", .glo "ends_behind", .glo "steps_of", .glo "_law_counted", .glo "_law_deep", .glo "law", .free "bool", .free "divmod", .free "enumerate", .free "int", .free "isinstance", .free "len", .free "list", .free "range", .free "repr", .free "sum", .free "tuple", .int "MOST_COLUMNS" 6, .glo "Turning", .cls "Turning", .mkr "Turning", .noat "Turning" "goals", .meth "Turning" "ends", .meth "Turning" "rows", .meth "Turning" "end", .meth "Turning" "size"]
theorem tabfa : tabFa fa Gd cn tab es = true := by decide +kernel
def fnD : List He.DefD := es.map Ent.dd
abbrev Rw : PySem.W.OpenRow := PySem.W.OpenLaw.row PySem.Challenge.rw_rillwise_k51_steps_of_turnings
abbrev hk : PySem.W.Hook := He.hookD 5 fa fnD
def obx (s : PySem.W.SharedT) : He.AlD := He.obsDG 5 fa fnD (HandSHeadRun.getT s)
theorem obx_eq (s : PySem.W.SharedT) : obx s = hk.obs s.abs := He.obsDG_eq (HandSHeadRun.getT_eq s)
def loose : List Str := ["_wall", "RillError", "BadTurning", "is_count", "check_ends", "Turning", "closed", "ends_without", "still", "next_step", "ends_behind", "steps_of", "_law_cell_at", "_law_well", "_law_draw", "_law_pick", "_law_ends", "_law_deep", "_law_kinds", "_law_gone", "_law_stills", "_law_steps", "_law_counted", "MOST_COLUMNS"]
theorem run (w : World) : HandSHeadRun.RunEq Rw (PySem.W.view Rw.prog [29]) hk obx 4000 loose w := by
  intro os
  kernel_rfl
def depth : Nat := 14
end T
end MP

namespace MP
namespace T
open PySem L2 X
/-! k51: the steps that the program tells -/
def tb : List FD := [f0,f1,f2,f3,f4,f5,f6,f7,f8,f9,f10,f11,f12,f13,f14,f15,f16,f17,f18,f19,f20,f21,f22,f23]
section
variable {α : Type} {C : CallS} {loc l1 l2 : Loc} {r : R} {d : D} {a e k : ME} {ds : List D} {i : Nat} {b : Bool}
theorem lc_mapA {own : List Nat} {p : Pat} {elt : Loc → Option (R × Loc)} {w : Loc} {g h : α → D} : ∀ (is : List α), (∀ a ∈ is, ∃ l1 r l3, bindP p (g a) w = some l1 ∧ elt l1 = some (r, l3) ∧ toVal r = some (h a) ∧ wipeL l3 own = w) →
    lcRun own p (fun l => some (true, l)) elt (is.map g) w = some (is.map h, w)
  | [], _ => rfl
  | a :: is, hh => by
    obtain ⟨l1, r, l3, e1, e2, e3, e4⟩ := hh a (List.mem_cons_self ..)
    simp only [List.map_cons, lcRun, e1, e2, e3, e4, lc_mapA is (fun x hx => hh x (List.mem_cons_of_mem _ hx))]
theorem lc_filterA {own : List Nat} {p : Pat} {cond : Loc → Option (Bool × Loc)} {elt : Loc → Option (R × Loc)} {w : Loc} {q : α → Bool} {g h : α → D} : ∀ (is : List α), (∀ a ∈ is, ∃ l1 l2 r l3, bindP p (g a) w = some l1 ∧ cond l1 = some (q a, l2) ∧ wipeL l2 own = w ∧ (q a = true → elt l2 = some (r, l3) ∧ toVal r = some (h a) ∧ wipeL l3 own = w)) →
    lcRun own p cond elt (is.map g) w = some ((is.filter q).map h, w)
  | [], _ => rfl
  | a :: is, hh => by
    obtain ⟨l1, l2, r, l3, e1, e2, e3, e4⟩ := hh a (List.mem_cons_self ..)
    have ih := lc_filterA is (fun x hx => hh x (List.mem_cons_of_mem _ hx))
    cases hq : q a with
    | true =>
      obtain ⟨e4, e5, e6⟩ := e4 hq
      rw [hq] at e2
      simp only [List.map_cons, lcRun, e1, e2, e4, e5, e6, ih, List.filter_cons, hq, if_true]
    | false =>
      rw [hq] at e2
      simp only [List.map_cons, lcRun, e1, e2, e3, ih, List.filter_cons, hq, Bool.false_eq_true, if_false]
theorem e_app {ds' : List D} (h : loc[i]? = some (.own b ds)) (h1 : ev Gd C a loc = some (r, l1)) (h2 : toVal r = some d) (h3 : l1[i]? = some (.own b ds')) (h4 : ds'.length < big) : ev Gd C (.app i a) loc = some (.val .non, l1.set i (.own b (ds' ++ [d]))) := by
  rw [ev, h]; simp only [h1, h2, h3, if_pos h4]
theorem i_enum (h1 : ev Gd C a loc = some (.val (.lst ds), l1)) : evI Gd C (.enum a) loc = some (enumL 0 ds, l1) := by
  rw [evI, h1]; simp only [toVal]
theorem evC_nil : evC Gd C [] = fun l => some (true, l) := by funext l; rw [evC]
end
theorem big_of {m : Nat} (h : m ≤ 20) : m ≤ big := Nat.le_trans h (by decide)
theorem seq_at {xs : List D} {j : Nat} (h : j < xs.length) : seqAt xs (j : Int) = some xs[j] := by
  unfold seqAt
  rw [if_pos (by omega), Int.toNat_natCast, List.getElem?_eq_getElem h]
theorem ix_map {α : Type} {g : α → D} {xs : List α} {j : Nat} {x : α} (h : xs[j]? = some x) : ap2 .ix (.lst (xs.map g)) (.int (j : Int)) = some (.val (g x)) := by
  show (seqAt (xs.map g) j).map _ = _
  unfold seqAt
  rw [if_pos (by omega), Int.toNat_natCast, List.getElem?_map, h]
  rfl
theorem getD_at {α : Type} {xs : List α} {j : Nat} {z : α} (h : j < xs.length) : xs[j]? = some (xs.getD j z) := by
  rw [List.getD_eq_getElem?_getD, List.getElem?_eq_getElem h]; rfl
theorem len_map {α : Type} {g : α → D} {xs : List α} : ap1 .len (.lst (xs.map g)) = some (.val (.int xs.length)) := by
  show some (MP.R.val (.int ((List.map g xs).length : Nat))) = _
  rw [List.length_map]
theorem enumG {α : Type} {g : α → D} {z : α} : ∀ (xs : List α) (k : Int), enumL k (xs.map g) = (List.range xs.length).map fun i : Nat => D.tup [.int (k + (i : Int)), g (xs.getD i z)]
  | [], _ => rfl
  | c :: R, k => by
    rw [List.map_cons, enumL, enumG R, List.length_cons, List.range_succ_eq_map, List.map_cons, List.map_map]
    congr 1
    · simp
    · apply List.map_congr_left
      intro i _
      simp only [Function.comp_apply]
      have : k + 1 + (i : Int) = k + ((i + 1 : Nat) : Int) := by omega
      rw [this]
      rfl
def wordS (w : Nat) : Str := match w with
  | 0 => "bridge"
  | 1 => "needed"
  | _ => "dry"
def stepD (s : Nat × Nat) : D := .tup [.str (wordS s.1), .int ((s.2 : Int) + 1)]
def stillF (n : Nat) : Nat → List Int → Option (Nat × Nat)
  | _, [] => none
  | i, e :: es => if e = (i : Int) + 1 then some (2, i) else if e = (i : Int) + 1 + (n : Int) then some (1, i) else stillF n (i + 1) es
def stillD : Option (Nat × Nat) → D
  | some s => stepD s
  | none => .non
def body12 : List MS := [.ite (.o2 .eq (.r 2) (.o2 .add (.r 1) (.c (.int 1)))) [.ret (.tup [.c (.str "dry"), .o2 .add (.r 1) (.c (.int 1))])] [], .ite (.o2 .eq (.r 2) (.o2 .add (.o2 .add (.r 1) (.c (.int 1))) (.o1 .len (.r 0)))) [.ret (.tup [.c (.str "needed"), .o2 .add (.r 1) (.c (.int 1))])] []]
theorem loop12 {C : CallS} {E : List Int} : ∀ (es : List Int) (i : Nat) (s1 s2 : Slot), fdS s1 → fdS s2 → ∃ a b, fdS a ∧ fdS b ∧ forRun (.tup [1, 2]) (sxs Gd C 40 body12) (enumL i (es.map .int)) [.dat (lstI E), s1, s2] = some (match stillF E.length i es with | some s => .rt (.val (stepD s)) [.dat (lstI E), a, b] | none => .nx [.dat (lstI E), a, b])
  | [], i, s1, s2, h1, h2 => ⟨s1, s2, h1, h2, rfl⟩
  | e :: es, i, s1, s2, h1, h2 => by
    have hb : bindP (.tup [1, 2]) (.tup [.int (i : Int), .int e]) [.dat (lstI E), s1, s2] = some [.dat (lstI E), .dat (.int (i : Int)), .dat (.int e)] := by
      rcases h1 with rfl | ⟨x, rfl⟩ <;> rcases h2 with rfl | ⟨y, rfl⟩ <;> rfl
    have q1 : evT Gd C (.o2 .eq (.r 2) (.o2 .add (.r 1) (.c (.int 1)))) [.dat (lstI E), .dat (.int (i : Int)), .dat (.int e)] = some (e == (i : Int) + 1, [.dat (lstI E), .dat (.int (i : Int)), .dat (.int e)]) := X.t_bl (e_p2 (e_r0 rfl) (e_p2 (e_r0 rfl) e_k rfl) rfl)
    have q2 : evT Gd C (.o2 .eq (.r 2) (.o2 .add (.o2 .add (.r 1) (.c (.int 1))) (.o1 .len (.r 0)))) [.dat (lstI E), .dat (.int (i : Int)), .dat (.int e)] = some (e == (i : Int) + 1 + (E.length : Int), [.dat (lstI E), .dat (.int (i : Int)), .dat (.int e)]) := X.t_bl (e_p2 (e_r0 rfl) (e_p2 (e_p2 (e_r0 rfl) e_k rfl) (e_p1 (e_r0 rfl) len_map) rfl) rfl)
    rw [List.map_cons, enumL]
    by_cases c1 : e = (i : Int) + 1
    · refine ⟨.dat (.int (i : Int)), .dat (.int e), fdS_dat, fdS_dat, ?_⟩
      have c1' : (e == (i : Int) + 1) = true := by rw [beq_iff_eq]; exact c1
      rw [c1'] at q1
      have hs : sxs Gd C 40 body12 [.dat (lstI E), .dat (.int (i : Int)), .dat (.int e)] = some (.rt (.val (stepD (2, i))) [.dat (lstI E), .dat (.int (i : Int)), .dat (.int e)]) := ss_rt (X.s_T q1 (ss_rt (s_retV (X.e_tup (es_p e_k (es_p (e_p2 (e_r0 rfl) e_k rfl) es_nil)) rfl))))
      simp only [forRun, hb, hs, stillF, if_pos c1]
    · have c1' : (e == (i : Int) + 1) = false := by rw [beq_eq_false_iff_ne]; exact c1
      rw [c1'] at q1
      by_cases c2 : e = (i : Int) + 1 + (E.length : Int)
      · refine ⟨.dat (.int (i : Int)), .dat (.int e), fdS_dat, fdS_dat, ?_⟩
        have c2' : (e == (i : Int) + 1 + (E.length : Int)) = true := by rw [beq_iff_eq]; exact c2
        rw [c2'] at q2
        have hs : sxs Gd C 40 body12 [.dat (lstI E), .dat (.int (i : Int)), .dat (.int e)] = some (.rt (.val (stepD (1, i))) [.dat (lstI E), .dat (.int (i : Int)), .dat (.int e)]) := ss_nx (X.s_F q1 ss_nil) (ss_rt (X.s_T q2 (ss_rt (s_retV (X.e_tup (es_p e_k (es_p (e_p2 (e_r0 rfl) e_k rfl) es_nil)) rfl)))))
        simp only [forRun, hb, hs, stillF, if_neg c1, if_pos c2]
      · have c2' : (e == (i : Int) + 1 + (E.length : Int)) = false := by rw [beq_eq_false_iff_ne]; exact c2
        rw [c2'] at q2
        have hs : sxs Gd C 40 body12 [.dat (lstI E), .dat (.int (i : Int)), .dat (.int e)] = some (.nx [.dat (lstI E), .dat (.int (i : Int)), .dat (.int e)]) := ss_nx (X.s_F q1 ss_nil) (ss_nx (X.s_F q2 ss_nil) ss_nil)
        obtain ⟨a, b, ha, hb2, h3⟩ := loop12 (C := C) (E := E) es (i + 1) (.dat (.int (i : Int))) (.dat (.int e)) fdS_dat fdS_dat
        refine ⟨a, b, ha, hb2, ?_⟩
        have ei : ((i : Int) + 1) = ((i + 1 : Nat) : Int) := by omega
        simp only [forRun, hb, hs, stillF, if_neg c1, if_neg c2]
        rw [ei]
        exact h3
theorem a12 {m : Nat} (E : List Int) : Ans (callN Gd tb 40 (m + 1)) 12 [lstI E] (.val (stillD (stillF E.length 0 E))) := by
  obtain ⟨a, b, ha, hb, h⟩ := loop12 (C := callN Gd tb 40 m) (E := E) E 0 .none .none (.inl rfl) (.inl rfl)
  refine ans_run (d := f12) rfl rfl ?_
  cases hs : stillF E.length 0 E with
  | some s =>
    rw [hs] at h
    exact run_rt (l1 := [.dat (lstI E), a, b]) rfl (ss_rt (X.s_loop (i_enum (e_r0 rfl)) h)) rfl
  | none =>
    rw [hs] at h
    exact run_rt (l1 := [.dat (lstI E), a, b]) rfl (ss_nx (X.s_loop (i_enum (e_r0 rfl)) h) (ss_rt (s_retV e_k))) rfl
def risesT (E : List Int) : List Nat := (List.range (E.length - 1)).filter fun i => decide (E.getD i 0 < E.getD (i + 1) 0)
def nextT (E : List Int) : Option (Nat × Nat) := match stillF E.length 0 E with
  | some s => some s
  | none => match risesT E with
    | i :: _ => some (0, i)
    | [] => none
theorem isnot_step (s : Nat × Nat) : ap2 .isnot (stepD s) .non = some (.val (.bl true)) := rfl
theorem a13 {m : Nat} {E : List Int} {s : Nat × Nat} (h0 : 0 < E.length) (h1 : E.length ≤ 6) (hs : nextT E = some s) : Ans (callN Gd tb 40 (m + 2)) 13 [lstI E] (.val (stepD s)) := by
  refine ans_run (d := f13) rfl rfl ?_
  have p := a12 (m := m) E
  unfold nextT at hs
  cases hq : stillF E.length 0 E with
  | some s' =>
    rw [hq] at hs p
    cases hs
    exact run_rt (l1 := [.dat (lstI E), .dat (stepD s), .none]) rfl (ss_nx (l1 := [.dat (lstI E), .dat (stepD s), .none]) (X.s_set (e_callD (ds := [lstI E]) (es_p (e_r0 rfl) es_nil) p) rfl rfl) (ss_rt (X.s_T (X.t_bl (e_p2 (e_r0 rfl) e_k (isnot_step s))) (ss_rt (s_retV (e_r0 rfl)))))) rfl
  | none =>
    rw [hq] at hs p
    simp only at hs
    cases hr : risesT E with
    | nil => rw [hr] at hs; cases hs
    | cons i is =>
      rw [hr] at hs
      cases hs
      refine run_rt (l1 := [.dat (lstI E), .dat .non, .none]) rfl (ss_nx (l1 := [.dat (lstI E), .dat .non, .none]) (X.s_set (e_callD (ds := [lstI E]) (es_p (e_r0 rfl) es_nil) p) rfl rfl) (ss_nx (X.s_F (X.t_bl (e_p2 (d := .non) (e_r0 rfl) e_k rfl)) ss_nil) (ss_rt (s_retV (X.e_tup (es_p e_k (es_p (X.e_o2 (r1 := .new ((risesT E).map fun i : Nat => D.int ((i : Int) + 1))) (ev_lc_at [2] (.v 2) (.rng1 (.o2 .sub (.o1 .len (.r 0)) (.c (.int 1)))) [.o2 .lt (.o2 .ix (.r 0) (.r 2)) (.o2 .ix (.r 0) (.o2 .add (.r 2) (.c (.int 1))))] (.o2 .add (.r 2) (.c (.int 1))) [.dat (lstI E), .dat .non, .none] [.dat (lstI E), .dat .non, .none] (items := rngL 0 (E.length - 1)) ?_ rfl ?_ ?_ rfl) e_k rfl rfl ?_) es_nil)) rfl))))) rfl
      · have h := X.i_r1 (G := Gd) (C := callN Gd tb 40 (m + 1)) (loc := [.dat (lstI E), .dat .non, .none]) (a := .o2 .sub (.o1 .len (.r 0)) (.c (.int 1))) (n := (E.length : Int) - 1) (e_p2 (e_p1 (e_r0 rfl) len_map) e_k rfl) (small_of (by omega) (by omega))
        rw [show ((E.length : Int) - 1).toNat = E.length - 1 by omega] at h
        exact h
      · rw [rngL_eq, List.length_map, List.length_range]; exact big_of (by omega)
      · rw [rngL_eq]
        refine lc_filterA _ (fun j hj => ?_)
        have hj' : j < E.length - 1 := List.mem_range.mp hj
        have e1 : (0 : Int) + (j : Int) = (j : Int) := by omega
        rw [e1]
        have q1 : ev Gd (callN Gd tb 40 (m + 1)) (.o2 .ix (.r 0) (.r 2)) [.dat (lstI E), .dat .non, .dat (.int (j : Int))] = some (.val (.int (E.getD j 0)), [.dat (lstI E), .dat .non, .dat (.int (j : Int))]) := e_p2 (d := lstI E) (e_r0 rfl) (e_r0 rfl) (ix_map (getD_at (by omega)))
        have q2 : ev Gd (callN Gd tb 40 (m + 1)) (.o2 .ix (.r 0) (.o2 .add (.r 2) (.c (.int 1)))) [.dat (lstI E), .dat .non, .dat (.int (j : Int))] = some (.val (.int (E.getD (j + 1) 0)), [.dat (lstI E), .dat .non, .dat (.int (j : Int))]) := e_p2 (d := lstI E) (e_r0 rfl) (e_p2 (d := .int (j : Int)) (d' := .int 1) (r := .val (.int ((j + 1 : Nat) : Int))) (e_r0 rfl) e_k rfl) (ix_map (getD_at (by omega)))
        have q3 := evC_one (e_p2 (o := .lt) q1 q2 rfl)
        exact ⟨_, [.dat (lstI E), .dat .non, .dat (.int (j : Int))], .val (.int ((j : Int) + 1)), [.dat (lstI E), .dat .non, .dat (.int (j : Int))], rfl, q3, rfl, fun _ => ⟨e_p2 (e_r0 rfl) e_k rfl, rfl, rfl⟩⟩
      · rw [hr]; rfl
def closedT (g p n : Int) : Int := (g - 1) / n * (n - 1) + (g - 1) % n + 1 - (if decide (p < (g - 1) % n + 1) then 1 else 0)
theorem a14 {m : Nat} {g p n : Int} (h0 : 0 < n) (h1 : n ≤ 6) : Ans (callN Gd tb 40 (m + 1)) 14 [.int g, .int p, .int n] (.val (.int (closedT g p n))) := by
  have hf : fdivOk n = true := fdiv_ok h0 (by omega)
  have hm : mulOk ((g - 1) / n) (n - 1) = true := mul_okR (by omega) (by omega)
  refine ans_run (d := f14) rfl rfl (run_rt (l1 := [.dat (.int g), .dat (.int p), .dat (.int n), .dat (.int ((g - 1) / n)), .dat (.int ((g - 1) % n))]) rfl (ss_nx (l1 := [.dat (.int g), .dat (.int p), .dat (.int n), .dat (.int ((g - 1) / n)), .dat (.int ((g - 1) % n))]) (X.s_set (r := .val (.tup [.int ((g - 1) / n), .int ((g - 1) % n)])) (d := .tup [.int ((g - 1) / n), .int ((g - 1) % n)]) (e_p2 (d := .int (g - 1)) (d' := .int n) (e_p2 (d := .int g) (d' := .int 1) (e_r0 rfl) e_k rfl) (e_r0 rfl) ?_) rfl rfl) (ss_rt (s_retV (e_p2 (d := .int ((g - 1) / n * (n - 1) + (g - 1) % n + 1)) (d' := .int (if decide (p < (g - 1) % n + 1) then 1 else 0)) (e_p2 (d := .int ((g - 1) / n * (n - 1) + (g - 1) % n)) (d' := .int 1) (e_p2 (d := .int ((g - 1) / n * (n - 1))) (d' := .int ((g - 1) % n)) (e_p2 (d := .int ((g - 1) / n)) (d' := .int (n - 1)) (e_r0 rfl) (e_p2 (d := .int n) (d' := .int 1) (e_r0 rfl) e_k rfl) ?_) (e_r0 rfl) rfl) e_k rfl) (e_p1 (d := .bl (decide (p < (g - 1) % n + 1))) (e_p2 (d := .int ((g - 1) % n + 1)) (d' := .int p) (e_p2 (d := .int ((g - 1) % n)) (d' := .int 1) (e_r0 rfl) e_k rfl) (e_r0 rfl) rfl) rfl) rfl)))) rfl)
  · simp only [ap2, hf, if_true]
  · simp only [ap2, hm, if_true]
def withoutT (E : List Int) (i : Nat) : List Int := ((List.range E.length).filter fun j : Nat => !((j : Int) + 1 == (i : Int) + 1)).map fun j : Nat => closedT (E.getD j 0) ((i : Int) + 1) E.length
theorem a15 {m : Nat} {E : List Int} {i : Nat} (h1 : E.length ≤ 6) : Ans (callN Gd tb 40 (m + 2)) 15 [lstI E, .int ((i : Int) + 1)] (.new ((withoutT E i).map .int)) := by
  refine ans_run (d := f15) rfl rfl (run_rt (l1 := [.dat (lstI E), .dat (.int ((i : Int) + 1)), .none, .none]) rfl (ss_rt (s_retL (ev_lc_at [2, 3] (.tup [2, 3]) (.enum (.r 0)) [.o2 .ne (.o2 .add (.r 2) (.c (.int 1))) (.r 1)] (.call 14 [.r 3, .r 1, .o1 .len (.r 0)]) [.dat (lstI E), .dat (.int ((i : Int) + 1)), .none, .none] [.dat (lstI E), .dat (.int ((i : Int) + 1)), .none, .none] (items := enumL 0 (E.map .int)) (i_enum (e_r0 rfl)) rfl ?_ ?_ rfl))) rfl)
  · rw [enumG (z := 0), List.length_map, List.length_range]; exact big_of (by omega)
  · rw [enumG (z := 0)]
    unfold withoutT
    rw [List.map_map]
    refine lc_filterA _ (fun j hj => ?_)
    have hj' : j < E.length := List.mem_range.mp hj
    have e1 : (0 : Int) + (j : Int) = (j : Int) := by omega
    rw [e1]
    exact ⟨_, [.dat (lstI E), .dat (.int ((i : Int) + 1)), .dat (.int (j : Int)), .dat (.int (E.getD j 0))], .val (.int (closedT (E.getD j 0) ((i : Int) + 1) E.length)), [.dat (lstI E), .dat (.int ((i : Int) + 1)), .dat (.int (j : Int)), .dat (.int (E.getD j 0))], rfl, evC_one (e_p2 (d := .int ((j : Int) + 1)) (d' := .int ((i : Int) + 1)) (e_p2 (e_r0 rfl) e_k rfl) (e_r0 rfl) rfl), rfl, fun _ => ⟨e_callD (ds := [.int (E.getD j 0), .int ((i : Int) + 1), .int (E.length : Int)]) (es_p (e_r0 rfl) (es_p (e_r0 rfl) (es_p (e_p1 (e_r0 rfl) len_map) es_nil))) (a14 (by omega) (by omega)), rfl, rfl⟩⟩
end T
end MP

namespace MP
namespace T
open PySem L2 X
/-! k51: the whole way of steps, as the program tells it -/
def behindT (E : List Int) (s : Nat × Nat) : Option (List Int) := match s with
  | (0, i) => if i + 1 < E.length then some (E.take i ++ [E.getD (i + 1) 0, E.getD i 0] ++ E.drop (i + 2)) else none
  | (_ + 1, i) => some (withoutT E i)
section
variable {C : CallS} {loc l1 l2 l3 : Loc} {r : R} {d : D} {a e k : ME} {ds es : List D} {i : Nat} {b : Bool} {z : Int}
theorem cut_to {xs : List D} {j : Nat} (h : j ≤ xs.length) : cutD xs none (some (j : Int)) = xs.take j := by
  unfold cutD
  rw [HT.sIx_none, HT.sIx_nat, List.drop_zero, Nat.sub_zero, Nat.min_eq_left h]
theorem cut_from {xs : List D} {j : Nat} : cutD xs (some (j : Int)) none = xs.drop j := by
  unfold cutD
  rw [HT.sIx_none, HT.sIx_nat]
  by_cases h : j ≤ xs.length
  · rw [Nat.min_eq_left h]
    exact List.take_of_length_le (by rw [List.length_drop]; exact Nat.le_refl _)
  · rw [Nat.min_eq_right (by omega), List.drop_of_length_le (Nat.le_refl _), List.drop_of_length_le (by omega)]
    simp
theorem e_slT {j : Nat} (h1 : ev Gd C a loc = some (.val (.lst ds), loc)) (h2 : ev Gd C k loc = some (.val (.int (j : Int)), loc)) (h3 : j ≤ ds.length) : ev Gd C (.sl a .none (.some k)) loc = some (.new (ds.take j), loc) := by
  rw [ev, h1]; simp only [evo, h2, sett, res, apSl, cut_to h3]
theorem e_slF {j : Nat} (h1 : ev Gd C a loc = some (.val (.lst ds), loc)) (h2 : ev Gd C k loc = some (.val (.int (j : Int)), loc)) : ev Gd C (.sl a (.some k) .none) loc = some (.new (ds.drop j), loc) := by
  rw [ev, h1]; simp only [evo, h2, sett, res, apSl, cut_from]
/-- two neighbours exchanged -/
theorem e_swap {α : Type} {g : α → D} {xs : List α} {i : Nat} {z : α} {u v : ME} (hi : i + 1 < xs.length) (hl : xs.length ≤ 6) (h1 : ev Gd C a loc = some (.val (.lst (xs.map g)), loc)) (h2 : ev Gd C k loc = some (.val (.int (i : Int)), loc)) (h3 : ev Gd C e loc = some (.val (.int ((i + 2 : Nat) : Int)), loc)) (h4 : ev Gd C u loc = some (.val (.int ((i + 1 : Nat) : Int)), loc)) (h5 : ev Gd C v loc = some (.val (.int (i : Int)), loc)) :
    ev Gd C (.o2 .add (.o2 .add (.sl a .none (.some k)) (.lst [.o2 .ix a u, .o2 .ix a v])) (.sl a (.some e) .none)) loc = some (.new ((xs.take i ++ [xs.getD (i + 1) z, xs.getD i z] ++ xs.drop (i + 2)).map g), loc) := by
  have p1 := e_slT h1 h2 (by rw [List.length_map]; omega)
  have p2 := e_slF h1 h3
  have p3 : ev Gd C (.lst [.o2 .ix a u, .o2 .ix a v]) loc = some (.new ([xs.getD (i + 1) z, xs.getD i z].map g), loc) := X.e_lst (es_p (e_p2 h1 h4 (ix_map (getD_at (z := z) (by omega)))) (es_p (e_p2 h1 h5 (ix_map (getD_at (z := z) (by omega)))) es_nil)) rfl
  have l1 : ((xs.map g).take i).length ≤ 6 := by rw [List.length_take, List.length_map]; omega
  have l2 : ((xs.map g).drop (i + 2)).length ≤ 6 := by rw [List.length_drop, List.length_map]; omega
  have l3 : ([xs.getD (i + 1) z, xs.getD i z].map g).length = 2 := rfl
  have p4 := X.e_o2 (o := .add) p1 p3 rfl rfl (add_lst (Nat.le_trans (show _ + _ ≤ 8 by omega) (by decide)))
  have p5 := X.e_o2 (o := .add) p4 p2 rfl rfl (add_lst (Nat.le_trans (show _ + _ ≤ 14 by rw [List.length_append]; omega) (by decide)))
  rw [← List.map_take, ← List.map_drop, ← List.map_append, ← List.map_append] at p5
  exact p5
theorem wh_T {c : Loc → Option (Bool × Loc)} {body : Loc → Option Out} {n : Nat} {o : Out} (h1 : c loc = some (true, l1)) (h2 : body l1 = some (.nx l2)) (h3 : whRun c body n l2 = some o) : whRun c body (n + 1) loc = some o := by
  simp only [whRun, h1, h2, h3]
theorem wh_F {c : Loc → Option (Bool × Loc)} {body : Loc → Option Out} {n : Nat} (h1 : c loc = some (false, l1)) : whRun c body (n + 1) loc = some (.nx l1) := by
  simp only [whRun, h1]
theorem s_wh {c : ME} {bd : List MS} {o : Out} (h : whRun (evT Gd C c) (sxs Gd C 40 bd) 40 loc = some o) : sx Gd C 40 (.wh c bd) loc = some o := by
  rw [sx]; exact h
end
theorem ne_bridge (w : Nat) : ap2 .ne (.str (wordS w)) (.str "bridge") = some (.val (.bl (w != 0))) := by
  match w with
  | 0 => kernel_rfl
  | 1 => kernel_rfl
  | w + 2 =>
    have : wordS (w + 2) = "dry" := rfl
    rw [this]
    have h : ap2 .ne (.str "dry") (.str "bridge") = some (.val (.bl true)) := by kernel_rfl
    rw [h]
    rfl
theorem a16 {m : Nat} {E E' : List Int} {s : Nat × Nat} (h1 : E.length ≤ 6) (hs : behindT E s = some E') : ∃ r, (r = .new (E'.map .int)) ∧ Ans (callN Gd tb 40 (m + 3)) 16 [lstI E, stepD s] r := by
  refine ⟨_, rfl, ans_run (d := f16) rfl rfl ?_⟩
  obtain ⟨w, i⟩ := s
  have p0 : sx Gd (callN Gd tb 40 (m + 2)) 40 (.set (.tup [2, 3]) (.r 1)) [.dat (lstI E), .dat (stepD (w, i)), .none, .none] = some (.nx [.dat (lstI E), .dat (stepD (w, i)), .dat (.str (wordS w)), .dat (.int ((i : Int) + 1))]) := X.s_set (e_r0 rfl) rfl rfl
  have p1 : evT Gd (callN Gd tb 40 (m + 2)) (.o2 .ne (.r 2) (.c (.str "bridge"))) [.dat (lstI E), .dat (stepD (w, i)), .dat (.str (wordS w)), .dat (.int ((i : Int) + 1))] = some (w != 0, [.dat (lstI E), .dat (stepD (w, i)), .dat (.str (wordS w)), .dat (.int ((i : Int) + 1))]) := X.t_bl (e_p2 (e_r0 rfl) e_k (ne_bridge w))
  match w, hs with
  | 0, hs =>
    simp only [behindT] at hs
    split at hs
    · rename_i hi
      cases hs
      refine run_rt (l1 := [.dat (lstI E), .dat (stepD (0, i)), .dat (.str (wordS 0)), .dat (.int ((i : Int) + 1))]) rfl (ss_nx p0 (ss_nx (X.s_F p1 ss_nil) (ss_rt (s_retL (e_swap (z := 0) (g := .int) (xs := E) hi h1 (e_r0 rfl) ?_ ?_ ?_ ?_))))) rfl
      · exact e_p2 (d := .int ((i : Int) + 1)) (d' := .int 1) (e_r0 rfl) e_k (by show some (MP.R.val (.int ((i : Int) + 1 - 1))) = _; rw [show (i : Int) + 1 - 1 = (i : Int) by omega])
      · exact e_p2 (d := .int ((i : Int) + 1)) (d' := .int 1) (e_r0 rfl) e_k (by show some (MP.R.val (.int ((i : Int) + 1 + 1))) = _; rw [show (i : Int) + 1 + 1 = ((i + 2 : Nat) : Int) by omega])
      · exact e_r0 (by rw [show ((i + 1 : Nat) : Int) = (i : Int) + 1 by omega]; rfl)
      · exact e_p2 (d := .int ((i : Int) + 1)) (d' := .int 1) (e_r0 rfl) e_k (by show some (MP.R.val (.int ((i : Int) + 1 - 1))) = _; rw [show (i : Int) + 1 - 1 = (i : Int) by omega])
    · cases hs
  | w + 1, hs =>
    simp only [behindT] at hs
    cases hs
    have : (w + 1 != 0) = true := rfl
    rw [this] at p1
    exact run_rt (l1 := [.dat (lstI E), .dat (stepD (w + 1, i)), .dat (.str (wordS (w + 1))), .dat (.int ((i : Int) + 1))]) rfl (ss_nx p0 (ss_rt (X.s_T p1 (ss_rt (s_retL (e_callD (ds := [lstI E, .int ((i : Int) + 1)]) (es_p (e_r0 rfl) (es_p (e_r0 rfl) es_nil)) (a15 h1))))))) rfl
def progT : Nat → List Int → Option (List (Nat × Nat))
  | 0, _ => none
  | f + 1, E => if E.length = 0 then some [] else if E.length ≤ 6 then match nextT E with
    | none => none
    | some s => match behindT E s with
      | none => none
      | some E' => match progT f E' with
        | none => none
        | some S => some (s :: S)
    else none
def body17 : List MS := [.ex (.app 2 (.call 13 [.r 1])), .set (.v 1) (.call 16 [.r 1, .o2 .ix (.r 2) (.o1 .neg (.c (.int 1)))])]
theorem ix_last {xs : List D} {x : D} : ap2 .ix (.lst (xs ++ [x])) (.int (-1)) = some (.val x) := by
  show (seqAt (xs ++ [x]) (-1)).map _ = _
  unfold seqAt
  rw [if_neg (by decide), if_pos (by rw [List.length_append]; show -((xs.length + 1 : Nat) : Int) ≤ -1; omega)]
  have : ((-1 : Int) + ((xs ++ [x]).length : Int)).toNat = xs.length := by
    rw [List.length_append]; show ((-1 : Int) + ((xs.length + 1 : Nat) : Int)).toNat = _; omega
  rw [this, List.getElem?_append_right (Nat.le_refl _), Nat.sub_self]
  rfl
theorem wh17 {m : Nat} {o : D} : ∀ (f : Nat) (E : List Int) (acc : List D) (S : List (Nat × Nat)), progT f E = some S → acc.length + f ≤ 100 → whRun (evT Gd (callN Gd tb 40 (m + 3)) (.r 1)) (sxs Gd (callN Gd tb 40 (m + 3)) 40 body17) f [.dat o, .dat (lstI E), .own false acc] = some (.nx [.dat o, .dat (lstI []), .own false (acc ++ S.map stepD)])
  | 0, _, _, _, h, _ => by cases h
  | f + 1, E, acc, S, h, hl => by
    unfold progT at h
    have ht : evT Gd (callN Gd tb 40 (m + 3)) (.r 1) [.dat o, .dat (lstI E), .own false acc] = some (!(E.map D.int).isEmpty, [.dat o, .dat (lstI E), .own false acc]) := by
      unfold evT
      rw [show ev Gd (callN Gd tb 40 (m + 3)) (.r 1) [.dat o, .dat (lstI E), .own false acc] = some (.val (lstI E), [.dat o, .dat (lstI E), .own false acc]) from e_r0 rfl]
      rfl
    split at h
    · rename_i h0
      cases h
      have hE : E = [] := List.length_eq_zero_iff.mp h0
      subst hE
      rw [List.map_nil, List.append_nil]
      exact wh_F ht
    · rename_i h0
      have hE : (E.map D.int).isEmpty = false := by
        cases E with
        | nil => exact absurd rfl h0
        | cons _ _ => rfl
      rw [hE] at ht
      split at h
      · rename_i h6
        split at h
        · cases h
        · rename_i s hs
          split at h
          · cases h
          · rename_i E' hE'
            split at h
            · cases h
            · rename_i S' hS'
              cases h
              obtain ⟨r, rfl, h16⟩ := a16 (m := m) h6 hE'
              have q1 : sx Gd (callN Gd tb 40 (m + 3)) 40 (.ex (.app 2 (.call 13 [.r 1]))) [.dat o, .dat (lstI E), .own false acc] = some (.nx [.dat o, .dat (lstI E), .own false (acc ++ [stepD s])]) := X.s_ex (e_app (i := 2) (b := false) (ds := acc) (ds' := acc) rfl (e_callD (ds := [lstI E]) (es_p (e_r0 rfl) es_nil) (a13 (m := m + 1) (by omega) h6 hs)) rfl rfl (Nat.lt_of_le_of_lt (show acc.length ≤ 100 by omega) (by decide)))
              have q2 : sx Gd (callN Gd tb 40 (m + 3)) 40 (.set (.v 1) (.call 16 [.r 1, .o2 .ix (.r 2) (.o1 .neg (.c (.int 1)))])) [.dat o, .dat (lstI E), .own false (acc ++ [stepD s])] = some (.nx [.dat o, .dat (lstI E'), .own false (acc ++ [stepD s])]) := X.s_set (e_callD (ds := [lstI E, stepD s]) (es_p (e_r0 rfl) (es_p (X.e_o2 (e_rO (b := false) (ds := acc ++ [stepD s]) rfl) (e_p1 e_k rfl) rfl rfl ix_last) es_nil)) h16) rfl rfl
              have q3 := wh17 (m := m) (o := o) f E' (acc ++ [stepD s]) S' hS' (by rw [List.length_append]; show acc.length + 1 + f ≤ 100; omega)
              rw [List.append_assoc] at q3
              exact wh_T ht (ss_nx q1 (ss_nx q2 ss_nil)) q3
      · cases h
def turnD (E : List Int) : D := .ins 0 [tupI E]
theorem e_fld {C : CallS} {loc : Loc} {a : ME} {x : D} {fs : List D} (h1 : ev Gd C a loc = some (.val (.ins 0 (x :: fs)), loc)) : ev Gd C (.fld [(0, 0)] a) loc = some (.val x, loc) := by
  rw [ev, h1]; rfl
theorem a11 {m : Nat} (E : List Int) : Ans (callN Gd tb 40 (m + 1)) 11 [turnD E] (.new (E.map .int)) :=
  ans_run (d := f11) rfl rfl (run_rt (l1 := [.dat (turnD E)]) rfl (ss_rt (s_retL (e_p1 (d := tupI E) (e_fld (fs := []) (e_r0 rfl)) rfl))) rfl)
theorem e_meth {C : CallS} {loc : Loc} {a : ME} {f : Nat} {fs : List D} {as : List ME} {ds : List D} {r : R} (h1 : ev Gd C a loc = some (.val (.ins 0 fs), loc)) (h2 : evs Gd C as loc = some (ds.map R.val, loc)) (h3 : Ans C f (.ins 0 fs :: ds) r) : ev Gd C (.meth [(0, f)] a as) loc = some (r, loc) := by
  rw [ev, h1]
  simp only [List.lookup, h2]
  exact h3.call _
theorem a17 {m : Nat} {E : List Int} {S : List (Nat × Nat)} (h : progT 40 E = some S) : Ans (callN Gd tb 40 (m + 4)) 17 [turnD E] (.new (S.map stepD)) := by
  have hw := wh17 (m := m) (o := turnD E) 40 E [] S h (by decide)
  rw [List.nil_append] at hw
  exact ans_run (d := f17) rfl rfl (run_rt (l1 := [.dat (turnD E), .dat (lstI []), .none]) rfl (ss_nx (l1 := [.dat (turnD E), .dat (lstI E), .none]) (X.s_set (e_meth (fs := [tupI E]) (ds := []) (e_r0 rfl) es_nil (a11 (m := m + 2) E)) rfl rfl) (ss_nx (l1 := [.dat (turnD E), .dat (lstI E), .own false []]) (X.s_own (X.e_lst es_nil rfl) rfl) (ss_nx (s_wh hw) (ss_rt (by rw [sx]; rfl))))) rfl)
end T
end MP

namespace MP
namespace T
open PySem L2 X
/-! k51: the whole way of steps, as the law tells it -/
def kindD (a : Int × Int) : D := .tup [.int a.1, .int a.2]
def keyD (a : Int × Int) : D := .tup [.int a.2, .int a.1]
def natD (i : Nat) : D := .int (i : Int)
def z2 : Int × Int := (0, 0)
def kindsT (E : List Int) : List (Int × Int) := E.map fun e => ((e - 1) % (E.length : Int), if decide ((E.length : Int) < e) then 1 else 0)
theorem a7 {m : Nat} {E : List Int} (h0 : 0 < E.length) (h1 : E.length ≤ 6) : Ans (callN Gd tb 40 (m + 1)) 7 [lstI E] (.new ((kindsT E).map kindD)) := by
  refine ans_run (d := f7) rfl rfl (run_rt (l1 := [.dat (lstI E), .dat (.int (E.length : Int)), .none]) rfl (ss_nx (l1 := [.dat (lstI E), .dat (.int (E.length : Int)), .none]) (X.s_set (e_p1 (e_r0 rfl) len_map) rfl rfl) (ss_rt (s_retL (ev_lc_at [2] (.v 2) (.seq (.r 0)) [] (.tup [.o2 .mod (.o2 .sub (.r 2) (.c (.int 1))) (.r 1), .o1 .int (.o2 .gt (.r 2) (.r 1))]) [.dat (lstI E), .dat (.int (E.length : Int)), .none] [.dat (lstI E), .dat (.int (E.length : Int)), .none] (items := E.map .int) (X.i_seq (e_r0 rfl) rfl) rfl ?_ ?_ rfl)))) rfl)
  · rw [List.length_map]; exact big_of (by omega)
  · rw [evC_nil]
    unfold kindsT
    rw [List.map_map]
    refine lc_mapA _ (fun e he => ?_)
    refine ⟨[.dat (lstI E), .dat (.int (E.length : Int)), .dat (.int e)], .val (kindD ((e - 1) % (E.length : Int), if decide ((E.length : Int) < e) then 1 else 0)), [.dat (lstI E), .dat (.int (E.length : Int)), .dat (.int e)], rfl, X.e_tup (es_p (d := .int ((e - 1) % (E.length : Int))) (e_p2 (d := .int (e - 1)) (d' := .int (E.length : Int)) (e_p2 (d := .int e) (d' := .int 1) (e_r0 rfl) e_k rfl) (e_r0 rfl) ?_) (es_p (e_p1 (d := .bl (decide ((E.length : Int) < e))) (e_p2 (d := .int e) (d' := .int (E.length : Int)) (e_r0 rfl) (e_r0 rfl) rfl) rfl) es_nil)) rfl, rfl, rfl⟩
    show (if _ then _ else _) = _
    rw [if_pos (by omega)]
def stillsT (K : List (Int × Int)) : List Nat := (List.range K.length).filter fun i => (K.getD i z2).1 == (i : Int)
theorem a8 {m : Nat} {K : List (Int × Int)} (h1 : K.length ≤ 6) : Ans (callN Gd tb 40 (m + 1)) 8 [.lst (K.map kindD)] (.new ((stillsT K).map natD)) := by
  refine ans_run (d := f8) rfl rfl (run_rt (l1 := [.dat (.lst (K.map kindD)), .none]) rfl (ss_rt (s_retL (ev_lc_at [1] (.v 1) (.rng1 (.o1 .len (.r 0))) [.o2 .eq (.o2 .ix (.o2 .ix (.r 0) (.r 1)) (.c (.int 0))) (.r 1)] (.r 1) [.dat (.lst (K.map kindD)), .none] [.dat (.lst (K.map kindD)), .none] (items := rngL 0 K.length) ?_ rfl ?_ ?_ rfl))) rfl)
  · exact X.i_r1 (n := (K.length : Int)) (e_p1 (e_r0 rfl) len_map) (small_of (by omega) (by omega))
  · rw [rngL_eq, List.length_map, List.length_range]; exact big_of (by omega)
  · rw [rngL_eq]
    refine lc_filterA _ (fun i hi => ?_)
    have hi' : i < K.length := List.mem_range.mp hi
    have e1 : (0 : Int) + (i : Int) = (i : Int) := by omega
    rw [e1]
    exact ⟨_, [.dat (.lst (K.map kindD)), .dat (.int (i : Int))], .val (natD i), [.dat (.lst (K.map kindD)), .dat (.int (i : Int))], rfl, evC_one (e_p2 (d := .int (K.getD i z2).1) (d' := .int (i : Int)) (e_p2 (d := kindD (K.getD i z2)) (d' := .int 0) (e_p2 (e_r0 rfl) (e_r0 rfl) (ix_map (getD_at hi'))) e_k rfl) (e_r0 rfl) rfl), rfl, fun _ => ⟨e_r0 rfl, rfl, rfl⟩⟩
def goneT (K : List (Int × Int)) (i : Nat) : List (Int × Int) := ((List.range K.length).filter fun j : Nat => !((j : Int) == (i : Int))).map fun j : Nat => ((K.getD j z2).1 - (if decide ((i : Int) < (K.getD j z2).1) then 1 else 0), (K.getD j z2).2)
theorem for_appA {α : Type} {p : Pat} {body : Loc → Option Out} {L : List D → Slot → Slot → Loc} {q : α → Bool} {g h : α → D} {t u : α → Slot} : ∀ (is : List α) (acc : List D) (s s' : Slot),
    (∀ a ∈ is, ∀ acc s s', fdS s → fdS s' → acc.length < big → fdS (t a) ∧ fdS (u a) ∧ ∃ l1, bindP p (g a) (L acc s s') = some l1 ∧ body l1 = some (.nx (L (if q a then acc ++ [h a] else acc) (t a) (u a)))) → fdS s → fdS s' → acc.length + is.length ≤ big →
    ∃ s1 s2, fdS s1 ∧ fdS s2 ∧ forRun p body (is.map g) (L acc s s') = some (.nx (L (acc ++ (is.filter q).map h) s1 s2))
  | [], acc, s, s', _, hs, hs', _ => ⟨s, s', hs, hs', by simp [forRun]⟩
  | a :: is, acc, s, s', hh, hs, hs', hl => by
    rw [List.length_cons] at hl
    obtain ⟨f1, f2, l1, e1, e2⟩ := hh a (List.mem_cons_self ..) acc s s' hs hs' (by omega)
    obtain ⟨s1, s2, h1, h2, h3⟩ := for_appA is (if q a then acc ++ [h a] else acc) (t a) (u a) (fun x hx => hh x (List.mem_cons_of_mem _ hx)) f1 f2 (by
      cases q a
      · simpa using (by omega : acc.length + is.length ≤ big)
      · simp; omega)
    refine ⟨s1, s2, h1, h2, ?_⟩
    simp only [List.map_cons, forRun, e1, e2, h3]
    cases hq : q a <;> simp [List.filter_cons, hq]
theorem a9 {m : Nat} {K : List (Int × Int)} {i : Nat} (h1 : K.length ≤ 6) : Ans (callN Gd tb 40 (m + 1)) 9 [.lst (K.map kindD), .int (i : Int)] (.val (.lst ((goneT K i).map kindD))) := by
  obtain ⟨s1, s2, f1, f2, hf⟩ := for_appA (p := .tup [3, 4]) (body := sxs Gd (callN Gd tb 40 m) 40 [.ite (.o2 .ne (.r 3) (.r 1)) [.ex (.app 2 (.tup [.o2 .sub (.o2 .ix (.r 4) (.c (.int 0))) (.o1 .int (.o2 .gt (.o2 .ix (.r 4) (.c (.int 0))) (.r 1))), .o2 .ix (.r 4) (.c (.int 1))]))] []]) (L := fun acc s s' => [.dat (.lst (K.map kindD)), .dat (.int (i : Int)), .own false acc, s, s']) (q := fun j : Nat => !((j : Int) == (i : Int))) (g := fun j : Nat => D.tup [.int (0 + (j : Int)), kindD (K.getD j z2)]) (h := fun j : Nat => kindD ((K.getD j z2).1 - (if decide ((i : Int) < (K.getD j z2).1) then 1 else 0), (K.getD j z2).2)) (t := fun j : Nat => .dat (.int (j : Int))) (u := fun j => .dat (kindD (K.getD j z2))) (List.range K.length) [] .none .none (fun j hj acc s s' hs hs' hb => by
    have e1 : (0 : Int) + (j : Int) = (j : Int) := by omega
    refine ⟨fdS_dat, fdS_dat, [.dat (.lst (K.map kindD)), .dat (.int (i : Int)), .own false acc, .dat (.int (j : Int)), .dat (kindD (K.getD j z2))], ?_, ?_⟩
    · rw [e1]
      rcases hs with rfl | ⟨x, rfl⟩ <;> rcases hs' with rfl | ⟨y, rfl⟩ <;> rfl
    · have hc : evT Gd (callN Gd tb 40 m) (.o2 .ne (.r 3) (.r 1)) [.dat (.lst (K.map kindD)), .dat (.int (i : Int)), .own false acc, .dat (.int (j : Int)), .dat (kindD (K.getD j z2))] = some (!((j : Int) == (i : Int)), [.dat (.lst (K.map kindD)), .dat (.int (i : Int)), .own false acc, .dat (.int (j : Int)), .dat (kindD (K.getD j z2))]) := X.t_bl (e_p2 (e_r0 rfl) (e_r0 rfl) rfl)
      cases hq : !((j : Int) == (i : Int)) with
      | true =>
        rw [hq] at hc
        exact ss_nx (X.s_T hc (ss_nx (X.s_ex (e_app (i := 2) (b := false) (ds := acc) (ds' := acc) rfl (X.e_tup (es_p (e_p2 (d := .int (K.getD j z2).1) (d' := .int (if decide ((i : Int) < (K.getD j z2).1) then 1 else 0)) (e_p2 (d := kindD (K.getD j z2)) (d' := .int 0) (e_r0 rfl) e_k rfl) (e_p1 (d := .bl (decide ((i : Int) < (K.getD j z2).1))) (e_p2 (d := .int (K.getD j z2).1) (d' := .int (i : Int)) (e_p2 (d := kindD (K.getD j z2)) (d' := .int 0) (e_r0 rfl) e_k rfl) (e_r0 rfl) rfl) rfl) rfl) (es_p (e_p2 (d := kindD (K.getD j z2)) (d' := .int 1) (e_r0 rfl) e_k rfl) es_nil)) rfl) rfl rfl hb)) ss_nil)) ss_nil
      | false =>
        rw [hq] at hc
        exact ss_nx (X.s_F hc ss_nil) ss_nil) (.inl rfl) (.inl rfl) (by rw [List.length_nil, List.length_range]; exact big_of (by omega))
  rw [List.nil_append] at hf
  have hg : ((List.range K.length).filter fun j : Nat => !((j : Int) == (i : Int))).map (fun j : Nat => kindD ((K.getD j z2).1 - (if decide ((i : Int) < (K.getD j z2).1) then 1 else 0), (K.getD j z2).2)) = (goneT K i).map kindD := by
    unfold goneT
    rw [List.map_map]
    rfl
  rw [hg] at hf
  have he : evI Gd (callN Gd tb 40 m) (.enum (.r 0)) [.dat (.lst (K.map kindD)), .dat (.int (i : Int)), .own false [], .none, .none] = some ((List.range K.length).map fun j : Nat => D.tup [.int (0 + (j : Int)), kindD (K.getD j z2)], [.dat (.lst (K.map kindD)), .dat (.int (i : Int)), .own false [], .none, .none]) := by
    rw [← enumG (g := kindD) (z := z2) K 0]
    exact i_enum (e_r0 rfl)
  exact ans_run (d := f9) rfl rfl (run_rt (l1 := [.dat (.lst (K.map kindD)), .dat (.int (i : Int)), .dat (.lst ((goneT K i).map kindD)), s1, s2]) rfl (ss_nx (l1 := [.dat (.lst (K.map kindD)), .dat (.int (i : Int)), .own false [], .none, .none]) (X.s_own (X.e_lst es_nil rfl) rfl) (ss_nx (X.s_loop he hf) (ss_rt (s_retV (by rw [ev]; rfl))))) rfl)
def risesK (K : List (Int × Int)) : List Nat := (List.range (K.length - 1)).filter fun i => ltL [(K.getD i z2).2, (K.getD i z2).1] [(K.getD (i + 1) z2).2, (K.getD (i + 1) z2).1]
def lawT : Nat → List (Int × Int) → Option (List (Nat × Nat))
  | 0, _ => none
  | f + 1, K => if K.length = 0 then some [] else if K.length ≤ 6 then match stillsT K with
    | i :: _ => if (K.getD i z2).2 = 0 ∨ (K.getD i z2).2 = 1 then match lawT f (goneT K i) with
        | none => none
        | some S => some ((if (K.getD i z2).2 = 0 then 2 else 1, i) :: S)
      else none
    | [] => match risesK K with
      | i :: _ => match lawT f (K.take i ++ [K.getD (i + 1) z2, K.getD i z2] ++ K.drop (i + 2)) with
        | none => none
        | some S => some ((0, i) :: S)
      | [] => none
    else none
def body10 : List MS := [.set (.v 3) (.call 8 [.r 1]), .ite (.o2 .ne (.r 3) (.lst [])) [.ex (.app 2 (.tup [.o2 .ix (.lst [.c (.str "dry"), .c (.str "needed")]) (.o2 .ix (.o2 .ix (.r 1) (.o2 .ix (.r 3) (.c (.int 0)))) (.c (.int 1))), .o2 .add (.o2 .ix (.r 3) (.c (.int 0))) (.c (.int 1))])), .set (.v 1) (.call 9 [.r 1, .o2 .ix (.r 3) (.c (.int 0))])] [.set (.v 4) (.lc [6] (.v 6) (.seq (.r 1)) [] (.tup [.o2 .ix (.r 6) (.c (.int 1)), .o2 .ix (.r 6) (.c (.int 0))])), .set (.v 5) (.o2 .ix (.lc [7] (.v 7) (.rng1 (.o2 .sub (.o1 .len (.r 4)) (.c (.int 1)))) [.o2 .lt (.o2 .ix (.r 4) (.r 7)) (.o2 .ix (.r 4) (.o2 .add (.r 7) (.c (.int 1))))] (.r 7)) (.c (.int 0))), .ex (.app 2 (.tup [.c (.str "bridge"), .o2 .add (.r 5) (.c (.int 1))])), .set (.v 1) (.o2 .add (.o2 .add (.sl (.r 1) .none (.some (.r 5))) (.lst [.o2 .ix (.r 1) (.o2 .add (.r 5) (.c (.int 1))), .o2 .ix (.r 1) (.r 5)])) (.sl (.r 1) (.some (.o2 .add (.r 5) (.c (.int 2)))) .none))]]
def L10 (o : D) (K : List (Int × Int)) (acc : List D) (s3 s4 s5 : Slot) : Loc := [.dat o, .dat (.lst (K.map kindD)), .own false acc, s3, s4, s5, .none, .none]
theorem beq_nil (ds : List D) : D.beq (.lst ds) (.lst []) = ds.isEmpty := by cases ds <;> rfl
theorem ne_nil {ds : List D} (h : D.plain 8 (.lst ds) = true) : ap2 .ne (.lst ds) (.lst []) = some (.val (.bl !ds.isEmpty)) := by
  show (if _ then _ else _) = _
  rw [h, if_pos (by rfl), beq_nil]
theorem plains_kind {n : Nat} : ∀ K : List (Int × Int), D.plains (n + 1) (K.map kindD) = true
  | [] => rfl
  | a :: K => by
    rw [List.map_cons, D.plains, plains_kind K]
    show ((true && (true && true)) && true) = true
    rfl
theorem plains_nat {n : Nat} : ∀ K : List Nat, D.plains n (K.map natD) = true
  | [] => rfl
  | a :: K => by
    rw [List.map_cons, D.plains, plains_nat K]
    cases n <;> rfl
theorem isEmpty_map' {α : Type} {g : α → D} (K : List α) : (K.map g).isEmpty = K.isEmpty := by cases K <;> rfl
theorem wh10 {m : Nat} {o : D} : ∀ (f : Nat) (K : List (Int × Int)) (acc : List D) (S : List (Nat × Nat)) (s3 s4 s5 : Slot), lawT f K = some S → acc.length + f ≤ 100 → fdS s3 → fdS s4 → fdS s5 → ∃ t3 t4 t5, whRun (evT Gd (callN Gd tb 40 (m + 1)) (.o2 .ne (.r 1) (.lst []))) (sxs Gd (callN Gd tb 40 (m + 1)) 40 body10) f (L10 o K acc s3 s4 s5) = some (.nx (L10 o [] (acc ++ S.map stepD) t3 t4 t5))
  | 0, _, _, _, _, _, _, h, _, _, _, _ => by cases h
  | f + 1, K, acc, S, s3, s4, s5, h, hl, f3, f4, f5 => by
    unfold lawT at h
    have ht : ∀ bb, K.isEmpty = bb → evT Gd (callN Gd tb 40 (m + 1)) (.o2 .ne (.r 1) (.lst [])) (L10 o K acc s3 s4 s5) = some (!bb, L10 o K acc s3 s4 s5) := fun bb hbb => by
      have hz := ne_nil (ds := K.map kindD) (plains_kind (n := 6) K)
      rw [isEmpty_map', hbb] at hz
      exact X.t_bl (X.e_o2 (e_r0 rfl) (X.e_lst es_nil rfl) rfl rfl hz)
    split at h
    · rename_i h0
      cases h
      have hE : K = [] := List.length_eq_zero_iff.mp h0
      subst hE
      rw [List.map_nil, List.append_nil]
      exact ⟨s3, s4, s5, wh_F (ht true rfl)⟩
    · rename_i h0
      have hE : K.isEmpty = false := by
        cases K with
        | nil => exact absurd rfl h0
        | cons _ _ => rfl
      have ht := ht false hE
      split at h
      · rename_i h6
        have q0 : sx Gd (callN Gd tb 40 (m + 1)) 40 (.set (.v 3) (.call 8 [.r 1])) (L10 o K acc s3 s4 s5) = some (.nx (L10 o K acc (.dat (.lst ((stillsT K).map natD))) s4 s5)) := X.s_set (e_callD (ds := [.lst (K.map kindD)]) (es_p (e_r0 rfl) es_nil) (a8 h6)) rfl (bind_v (i := 3) ⟨s3, rfl, f3⟩)
        have hlt : acc.length < big := Nat.lt_of_le_of_lt (show acc.length ≤ 100 by omega) (by decide)
        have hc : ∀ bb, (stillsT K).isEmpty = bb → evT Gd (callN Gd tb 40 (m + 1)) (.o2 .ne (.r 3) (.lst [])) (L10 o K acc (.dat (.lst ((stillsT K).map natD))) s4 s5) = some (!bb, L10 o K acc (.dat (.lst ((stillsT K).map natD))) s4 s5) := fun bb hbb => by
          have hz := ne_nil (ds := (stillsT K).map natD) (plains_nat (n := 7) (stillsT K))
          rw [isEmpty_map', hbb] at hz
          exact X.t_bl (X.e_o2 (e_r0 rfl) (X.e_lst es_nil rfl) rfl rfl hz)
        split at h
        · rename_i i is hst
          split at h
          · rename_i hb
            split at h
            · cases h
            · rename_i S' hS'
              cases h
              have hi : i < K.length := by
                have : i ∈ stillsT K := by rw [hst]; exact List.mem_cons_self ..
                exact List.mem_range.mp (List.mem_filter.mp this).1
              have hc := hc false (by rw [hst]; rfl)
              have hix : (stillsT K)[0]? = some i := by rw [hst]; rfl
              have q1 : ev Gd (callN Gd tb 40 (m + 1)) (.o2 .ix (.r 3) (.c (.int 0))) (L10 o K acc (.dat (.lst ((stillsT K).map natD))) s4 s5) = some (.val (.int (i : Int)), L10 o K acc (.dat (.lst ((stillsT K).map natD))) s4 s5) := e_p2 (d := .lst ((stillsT K).map natD)) (d' := .int 0) (e_r0 rfl) e_k (ix_map (g := natD) (j := 0) hix)
              have q2 : ev Gd (callN Gd tb 40 (m + 1)) (.o2 .ix (.lst [.c (.str "dry"), .c (.str "needed")]) (.o2 .ix (.o2 .ix (.r 1) (.o2 .ix (.r 3) (.c (.int 0)))) (.c (.int 1)))) (L10 o K acc (.dat (.lst ((stillsT K).map natD))) s4 s5) = some (.val (.str (wordS (if (K.getD i z2).2 = 0 then 2 else 1))), L10 o K acc (.dat (.lst ((stillsT K).map natD))) s4 s5) := by
                refine X.e_o2 (X.e_lst (es_p e_k (es_p e_k es_nil)) rfl) (e_p2 (d := kindD (K.getD i z2)) (d' := .int 1) (e_p2 (d := .lst (K.map kindD)) (d' := .int (i : Int)) (e_r0 rfl) q1 (ix_map (getD_at hi))) e_k rfl) rfl rfl ?_
                rcases hb with hb | hb
                · rw [hb]; rfl
                · rw [hb]; rfl
              have q3 : sx Gd (callN Gd tb 40 (m + 1)) 40 (.ex (.app 2 (.tup [.o2 .ix (.lst [.c (.str "dry"), .c (.str "needed")]) (.o2 .ix (.o2 .ix (.r 1) (.o2 .ix (.r 3) (.c (.int 0)))) (.c (.int 1))), .o2 .add (.o2 .ix (.r 3) (.c (.int 0))) (.c (.int 1))]))) (L10 o K acc (.dat (.lst ((stillsT K).map natD))) s4 s5) = some (.nx (L10 o K (acc ++ [stepD (if (K.getD i z2).2 = 0 then 2 else 1, i)]) (.dat (.lst ((stillsT K).map natD))) s4 s5)) := X.s_ex (e_app (i := 2) (b := false) (ds := acc) (ds' := acc) rfl (X.e_tup (es_p q2 (es_p (e_p2 q1 e_k rfl) es_nil)) rfl) rfl rfl hlt)
              have q1' : ev Gd (callN Gd tb 40 (m + 1)) (.o2 .ix (.r 3) (.c (.int 0))) (L10 o K (acc ++ [stepD (if (K.getD i z2).2 = 0 then 2 else 1, i)]) (.dat (.lst ((stillsT K).map natD))) s4 s5) = some (.val (.int (i : Int)), L10 o K (acc ++ [stepD (if (K.getD i z2).2 = 0 then 2 else 1, i)]) (.dat (.lst ((stillsT K).map natD))) s4 s5) := e_p2 (d := .lst ((stillsT K).map natD)) (d' := .int 0) (e_r0 rfl) e_k (ix_map (g := natD) (j := 0) hix)
              have q4 : sx Gd (callN Gd tb 40 (m + 1)) 40 (.set (.v 1) (.call 9 [.r 1, .o2 .ix (.r 3) (.c (.int 0))])) (L10 o K (acc ++ [stepD (if (K.getD i z2).2 = 0 then 2 else 1, i)]) (.dat (.lst ((stillsT K).map natD))) s4 s5) = some (.nx (L10 o (goneT K i) (acc ++ [stepD (if (K.getD i z2).2 = 0 then 2 else 1, i)]) (.dat (.lst ((stillsT K).map natD))) s4 s5)) := X.s_set (e_callD (ds := [.lst (K.map kindD), .int (i : Int)]) (es_p (e_r0 rfl) (es_p q1' es_nil)) (a9 h6)) rfl rfl
              obtain ⟨t3, t4, t5, q5⟩ := wh10 (m := m) (o := o) f (goneT K i) (acc ++ [stepD (if (K.getD i z2).2 = 0 then 2 else 1, i)]) S' (.dat (.lst ((stillsT K).map natD))) s4 s5 hS' (by rw [List.length_append]; show acc.length + 1 + f ≤ 100; omega) fdS_dat f4 f5
              rw [List.append_assoc] at q5
              exact ⟨t3, t4, t5, wh_T ht (ss_nx q0 (ss_nx (X.s_T hc (ss_nx q3 (ss_nx q4 ss_nil))) ss_nil)) q5⟩
          · cases h
        · rename_i hst
          split at h
          · rename_i i is hr
            split at h
            · cases h
            · rename_i S' hS'
              cases h
              have hi : i + 1 < K.length := by
                have : i ∈ risesK K := by rw [hr]; exact List.mem_cons_self ..
                have := List.mem_range.mp (List.mem_filter.mp this).1
                omega
              have hc := hc true (by rw [hst]; rfl)
              have hK : 0 < K.length := by omega
              have hix : (risesK K)[0]? = some i := by rw [hr]; rfl
              have q1 : sx Gd (callN Gd tb 40 (m + 1)) 40 (.set (.v 4) (.lc [6] (.v 6) (.seq (.r 1)) [] (.tup [.o2 .ix (.r 6) (.c (.int 1)), .o2 .ix (.r 6) (.c (.int 0))]))) (L10 o K acc (.dat (.lst ((stillsT K).map natD))) s4 s5) = some (.nx (L10 o K acc (.dat (.lst ((stillsT K).map natD))) (.dat (.lst (K.map keyD))) s5)) := by
                refine X.s_set (ev_lc_at [6] (.v 6) (.seq (.r 1)) [] (.tup [.o2 .ix (.r 6) (.c (.int 1)), .o2 .ix (.r 6) (.c (.int 0))]) (L10 o K acc (.dat (.lst ((stillsT K).map natD))) s4 s5) (L10 o K acc (.dat (.lst ((stillsT K).map natD))) s4 s5) (items := K.map kindD) (X.i_seq (e_r0 rfl) rfl) rfl ?_ ?_ rfl) rfl (bind_v (i := 4) ⟨s4, rfl, f4⟩)
                · rw [List.length_map]; exact big_of (by omega)
                · rw [evC_nil]
                  exact lc_mapA _ (fun a ha => ⟨[.dat o, .dat (.lst (K.map kindD)), .own false acc, .dat (.lst ((stillsT K).map natD)), s4, s5, .dat (kindD a), .none], .val (keyD a), _, rfl, X.e_tup (es_p (e_p2 (d := kindD a) (d' := .int 1) (e_r0 rfl) e_k rfl) (es_p (e_p2 (d := kindD a) (d' := .int 0) (e_r0 rfl) e_k rfl) es_nil)) rfl, rfl, rfl⟩)
              have q2 : sx Gd (callN Gd tb 40 (m + 1)) 40 (.set (.v 5) (.o2 .ix (.lc [7] (.v 7) (.rng1 (.o2 .sub (.o1 .len (.r 4)) (.c (.int 1)))) [.o2 .lt (.o2 .ix (.r 4) (.r 7)) (.o2 .ix (.r 4) (.o2 .add (.r 7) (.c (.int 1))))] (.r 7)) (.c (.int 0)))) (L10 o K acc (.dat (.lst ((stillsT K).map natD))) (.dat (.lst (K.map keyD))) s5) = some (.nx (L10 o K acc (.dat (.lst ((stillsT K).map natD))) (.dat (.lst (K.map keyD))) (.dat (.int (i : Int))))) := by
                refine X.s_set (X.e_o2 (r1 := .new ((risesK K).map natD)) (ev_lc_at [7] (.v 7) (.rng1 (.o2 .sub (.o1 .len (.r 4)) (.c (.int 1)))) [.o2 .lt (.o2 .ix (.r 4) (.r 7)) (.o2 .ix (.r 4) (.o2 .add (.r 7) (.c (.int 1))))] (.r 7) (L10 o K acc (.dat (.lst ((stillsT K).map natD))) (.dat (.lst (K.map keyD))) s5) (L10 o K acc (.dat (.lst ((stillsT K).map natD))) (.dat (.lst (K.map keyD))) s5) (items := rngL 0 (K.length - 1)) ?_ rfl ?_ ?_ rfl) e_k rfl rfl (ix_map (g := natD) (j := 0) hix)) rfl (bind_v (i := 5) ⟨s5, rfl, f5⟩)
                · have h := X.i_r1 (G := Gd) (C := callN Gd tb 40 (m + 1)) (loc := L10 o K acc (.dat (.lst ((stillsT K).map natD))) (.dat (.lst (K.map keyD))) s5) (a := .o2 .sub (.o1 .len (.r 4)) (.c (.int 1))) (n := (K.length : Int) - 1) (e_p2 (e_p1 (e_r0 rfl) len_map) e_k rfl) (small_of (by omega) (by omega))
                  rw [show ((K.length : Int) - 1).toNat = K.length - 1 by omega] at h
                  exact h
                · rw [rngL_eq, List.length_map, List.length_range]; exact big_of (by omega)
                · rw [rngL_eq]
                  refine lc_filterA _ (fun j hj => ?_)
                  have hj' : j < K.length - 1 := List.mem_range.mp hj
                  have e1 : (0 : Int) + (j : Int) = (j : Int) := by omega
                  rw [e1]
                  have w1 : ev Gd (callN Gd tb 40 (m + 1)) (.o2 .ix (.r 4) (.r 7)) [.dat o, .dat (.lst (K.map kindD)), .own false acc, .dat (.lst ((stillsT K).map natD)), .dat (.lst (K.map keyD)), s5, .none, .dat (.int (j : Int))] = some (.val (keyD (K.getD j z2)), [.dat o, .dat (.lst (K.map kindD)), .own false acc, .dat (.lst ((stillsT K).map natD)), .dat (.lst (K.map keyD)), s5, .none, .dat (.int (j : Int))]) := e_p2 (d := .lst (K.map keyD)) (e_r0 rfl) (e_r0 rfl) (ix_map (getD_at (by omega)))
                  have w2 : ev Gd (callN Gd tb 40 (m + 1)) (.o2 .ix (.r 4) (.o2 .add (.r 7) (.c (.int 1)))) [.dat o, .dat (.lst (K.map kindD)), .own false acc, .dat (.lst ((stillsT K).map natD)), .dat (.lst (K.map keyD)), s5, .none, .dat (.int (j : Int))] = some (.val (keyD (K.getD (j + 1) z2)), [.dat o, .dat (.lst (K.map kindD)), .own false acc, .dat (.lst ((stillsT K).map natD)), .dat (.lst (K.map keyD)), s5, .none, .dat (.int (j : Int))]) := e_p2 (d := .lst (K.map keyD)) (e_r0 rfl) (e_p2 (d := .int (j : Int)) (d' := .int 1) (r := .val (.int ((j + 1 : Nat) : Int))) (e_r0 rfl) e_k rfl) (ix_map (getD_at (by omega)))
                  have w3 := evC_one (e_p2 (o := .lt) w1 w2 (show ap2 .lt (keyD (K.getD j z2)) (keyD (K.getD (j + 1) z2)) = some (.val (.bl (ltL [(K.getD j z2).2, (K.getD j z2).1] [(K.getD (j + 1) z2).2, (K.getD (j + 1) z2).1]))) from rfl))
                  exact ⟨_, [.dat o, .dat (.lst (K.map kindD)), .own false acc, .dat (.lst ((stillsT K).map natD)), .dat (.lst (K.map keyD)), s5, .none, .dat (.int (j : Int))], .val (natD j), [.dat o, .dat (.lst (K.map kindD)), .own false acc, .dat (.lst ((stillsT K).map natD)), .dat (.lst (K.map keyD)), s5, .none, .dat (.int (j : Int))], rfl, w3, rfl, fun _ => ⟨e_r0 rfl, rfl, rfl⟩⟩
              have q3 : sx Gd (callN Gd tb 40 (m + 1)) 40 (.ex (.app 2 (.tup [.c (.str "bridge"), .o2 .add (.r 5) (.c (.int 1))]))) (L10 o K acc (.dat (.lst ((stillsT K).map natD))) (.dat (.lst (K.map keyD))) (.dat (.int (i : Int)))) = some (.nx (L10 o K (acc ++ [stepD (0, i)]) (.dat (.lst ((stillsT K).map natD))) (.dat (.lst (K.map keyD))) (.dat (.int (i : Int))))) := X.s_ex (e_app (i := 2) (b := false) (ds := acc) (ds' := acc) rfl (X.e_tup (es_p e_k (es_p (e_p2 (d := .int (i : Int)) (d' := .int 1) (e_r0 rfl) e_k rfl) es_nil)) rfl) rfl rfl hlt)
              have q4 : sx Gd (callN Gd tb 40 (m + 1)) 40 (.set (.v 1) (.o2 .add (.o2 .add (.sl (.r 1) .none (.some (.r 5))) (.lst [.o2 .ix (.r 1) (.o2 .add (.r 5) (.c (.int 1))), .o2 .ix (.r 1) (.r 5)])) (.sl (.r 1) (.some (.o2 .add (.r 5) (.c (.int 2)))) .none))) (L10 o K (acc ++ [stepD (0, i)]) (.dat (.lst ((stillsT K).map natD))) (.dat (.lst (K.map keyD))) (.dat (.int (i : Int)))) = some (.nx (L10 o (K.take i ++ [K.getD (i + 1) z2, K.getD i z2] ++ K.drop (i + 2)) (acc ++ [stepD (0, i)]) (.dat (.lst ((stillsT K).map natD))) (.dat (.lst (K.map keyD))) (.dat (.int (i : Int))))) := X.s_set (e_swap (g := kindD) (z := z2) hi h6 (e_r0 rfl) (e_r0 rfl) (e_p2 (d := .int (i : Int)) (d' := .int 2) (e_r0 rfl) e_k rfl) (e_p2 (d := .int (i : Int)) (d' := .int 1) (e_r0 rfl) e_k rfl) (e_r0 rfl)) rfl rfl
              obtain ⟨t3, t4, t5, q5⟩ := wh10 (m := m) (o := o) f (K.take i ++ [K.getD (i + 1) z2, K.getD i z2] ++ K.drop (i + 2)) (acc ++ [stepD (0, i)]) S' (.dat (.lst ((stillsT K).map natD))) (.dat (.lst (K.map keyD))) (.dat (.int (i : Int))) hS' (by rw [List.length_append]; show acc.length + 1 + f ≤ 100; omega) fdS_dat fdS_dat fdS_dat
              rw [List.append_assoc acc] at q5
              exact ⟨t3, t4, t5, wh_T ht (ss_nx q0 (ss_nx (X.s_F hc (ss_nx q1 (ss_nx q2 (ss_nx q3 (ss_nx q4 ss_nil))))) ss_nil)) q5⟩
          · cases h
      · cases h
theorem a10 {m : Nat} {E : List Int} {S : List (Nat × Nat)} (h0 : 0 < E.length) (h1 : E.length ≤ 6) (h : lawT 40 (kindsT E) = some S) : Ans (callN Gd tb 40 (m + 2)) 10 [lstI E] (.val (.lst (S.map stepD))) := by
  obtain ⟨t3, t4, t5, hw⟩ := wh10 (m := m) (o := lstI E) 40 (kindsT E) [] S .none .none .none h (by decide) (.inl rfl) (.inl rfl) (.inl rfl)
  rw [List.nil_append] at hw
  exact ans_run (d := f10) rfl rfl (run_rt (l1 := [.dat (lstI E), .dat (.lst []), .dat (.lst (S.map stepD)), t3, t4, t5, .none, .none]) rfl (ss_nx (l1 := [.dat (lstI E), .dat (.lst ((kindsT E).map kindD)), .none, .none, .none, .none, .none, .none]) (X.s_set (e_callD (ds := [lstI E]) (es_p (e_r0 rfl) es_nil) (a7 h0 h1)) rfl rfl) (ss_nx (l1 := L10 (lstI E) (kindsT E) [] .none .none .none) (X.s_own (X.e_lst es_nil rfl) rfl) (ss_nx (s_wh hw) (ss_rt (s_retV (by rw [ev]; rfl)))))) rfl)
end T
end MP

namespace MP
namespace T
open PySem L2 X
/-! k51: turnings: made, their ends, rows, size -/
def okT (E : List Int) : Bool := decide (0 < E.length ∧ E.length ≤ 6) && (List.range E.length).all fun i => decide ((i : Int) + 1 ≤ E.getD i 0 ∧ E.getD i 0 ≤ (i : Int) + 1 + (E.length : Int)) && !(((E.take i).map fun e => e % (E.length : Int)).any fun e => e == E.getD i 0 % (E.length : Int))
theorem okT_ok {E : List Int} (h : okT E = true) : 0 < E.length ∧ E.length ≤ 6 ∧ ∀ i < E.length, (i : Int) + 1 ≤ E.getD i 0 ∧ E.getD i 0 ≤ (i : Int) + 1 + (E.length : Int) ∧ (((E.take i).map fun e => e % (E.length : Int)).any fun e => e == E.getD i 0 % (E.length : Int)) = false := by
  unfold okT at h
  rw [Bool.and_eq_true, decide_eq_true_eq, List.all_eq_true] at h
  refine ⟨h.1.1, h.1.2, fun i hi => ?_⟩
  have := h.2 i (List.mem_range.mpr hi)
  rw [Bool.and_eq_true, decide_eq_true_eq] at this
  refine ⟨this.1.1, this.1.2, ?_⟩
  cases hh : ((E.take i).map fun e => e % (E.length : Int)).any fun e => e == E.getD i 0 % (E.length : Int) with
  | false => rfl
  | true => rw [hh] at this; exact absurd this.2 (by decide)
theorem e_nt {C : CallS} {loc : Loc} {a : ME} {b : Bool} (h : ev Gd C a loc = some (.val (.bl b), loc)) : ev Gd C (.not a) loc = some (.val (.bl !b), loc) := by
  rw [ev, h]; rfl
theorem e_andT {C : CallS} {loc : Loc} {a b : ME} {r : R × Loc} (h : ev Gd C a loc = some (.val (.bl true), loc)) (h2 : ev Gd C b loc = some r) : ev Gd C (.and a b) loc = some r := by
  rw [ev, h]; exact h2
theorem e_chT {C : CallS} {loc : Loc} {a b c : ME} {x y z : D} {k : Bool} {o o' : O2} (h1 : ev Gd C a loc = some (.val x, loc)) (h2 : ev Gd C b loc = some (.val y, loc)) (h3 : ap2 o x y = some (.val (.bl true))) (h4 : ev Gd C c loc = some (.val z, loc)) (h5 : ap2 o' y z = some (.val (.bl k))) : ev Gd C (.ch o o' a b c) loc = some (.val (.bl k), loc) := by
  rw [ev, h1]; simp only [h2, sett, res, h3, h4, h5]
theorem le_at {i j : Int} (h : i ≤ j) : ap2 .le (.int i) (.int j) = some (.val (.bl true)) := by
  show some (MP.R.val (.bl (decide (i ≤ j)))) = _
  rw [decide_eq_true h]
theorem a4 {m : Nat} {x l u : Int} (h1 : l ≤ x) (h2 : x ≤ u) : Ans (callN Gd tb 40 (m + 1)) 4 [.int x, .int l, .int u] (.val (.bl true)) :=
  ans_run (d := f4) rfl rfl (run_rt (l1 := [.dat (.int x), .dat (.int l), .dat (.int u)]) rfl (ss_rt (s_retV (e_andT (e_p1 (d := .int x) (e_r0 rfl) rfl) (e_andT (e_nt (b := false) (e_p1 (d := .int x) (e_r0 rfl) rfl)) (e_chT (e_r0 rfl) (e_r0 rfl) (le_at h1) (e_r0 rfl) (le_at h2)))))) rfl)
def bodyA : List MS := [.ite (.not (.callK 4 [.r 3] [.o2 .add (.r 2) (.c (.int 1)), .o2 .add (.o2 .add (.r 2) (.c (.int 1))) (.r 1)] [0, 1, 2])) [.bad] []]
def bodyB : List MS := [.ite (.o2 .isin (.o2 .mod (.r 3) (.r 1)) (.lc [4] (.v 4) (.seq (.sl (.r 0) .none (.some (.r 2)))) [] (.o2 .mod (.r 4) (.r 1)))) [.bad] []]
def L5 (E : List Int) (s s' : Slot) : Loc := [.dat (lstI E), .dat (.int (E.length : Int)), s, s', .none]
theorem turnA {m : Nat} {E : List Int} {i : Nat} (h : okT E = true) (hi : i < E.length) : sxs Gd (callN Gd tb 40 (m + 1)) 40 bodyA (L5 E (.dat (.int (i : Int))) (.dat (.int (E.getD i 0)))) = some (.nx (L5 E (.dat (.int (i : Int))) (.dat (.int (E.getD i 0))))) := by
  obtain ⟨h0, h6, hh⟩ := okT_ok h
  obtain ⟨g1, g2, _⟩ := hh i hi
  exact ss_nx (X.s_F (X.t_bl (e_nt (b := true) (e_callKD (ds := [.int (E.getD i 0), .int ((i : Int) + 1), .int ((i : Int) + 1 + (E.length : Int))]) (es_p (e_r0 rfl) es_nil) (es_p (e_p2 (e_r0 rfl) e_k rfl) (es_p (e_p2 (e_p2 (e_r0 rfl) e_k rfl) (e_r0 rfl) rfl) es_nil)) rfl (a4 g1 g2)))) ss_nil) ss_nil
theorem any_beq (c : Int) : ∀ xs : List Int, ((xs.map D.int).any fun y => D.beq y (.int c)) = xs.any fun y => y == c := any_int c
theorem turnB {m : Nat} {E : List Int} {i : Nat} (h : okT E = true) (hi : i < E.length) : sxs Gd (callN Gd tb 40 (m + 1)) 40 bodyB (L5 E (.dat (.int (i : Int))) (.dat (.int (E.getD i 0)))) = some (.nx (L5 E (.dat (.int (i : Int))) (.dat (.int (E.getD i 0))))) := by
  obtain ⟨h0, h6, hh⟩ := okT_ok h
  obtain ⟨_, _, g3⟩ := hh i hi
  have hmod : ∀ x : Int, ap2 .mod (.int x) (.int (E.length : Int)) = some (.val (.int (x % (E.length : Int)))) := fun x => by
    show (if _ then _ else _) = _
    rw [if_pos (by omega)]
  have q1 : ev Gd (callN Gd tb 40 (m + 1)) (.lc [4] (.v 4) (.seq (.sl (.r 0) .none (.some (.r 2)))) [] (.o2 .mod (.r 4) (.r 1))) (L5 E (.dat (.int (i : Int))) (.dat (.int (E.getD i 0)))) = some (.new (((E.take i).map fun e => e % (E.length : Int)).map .int), L5 E (.dat (.int (i : Int))) (.dat (.int (E.getD i 0)))) := by
    refine ev_lc_at [4] (.v 4) (.seq (.sl (.r 0) .none (.some (.r 2)))) [] (.o2 .mod (.r 4) (.r 1)) (L5 E (.dat (.int (i : Int))) (.dat (.int (E.getD i 0)))) (L5 E (.dat (.int (i : Int))) (.dat (.int (E.getD i 0)))) (items := (E.take i).map .int) ?_ rfl ?_ ?_ rfl
    · have hs := e_slT (C := callN Gd tb 40 (m + 1)) (loc := L5 E (.dat (.int (i : Int))) (.dat (.int (E.getD i 0)))) (a := .r 0) (k := .r 2) (ds := E.map .int) (j := i) (e_r0 rfl) (e_r0 rfl) (by rw [List.length_map]; omega)
      rw [← List.map_take] at hs
      exact X.i_seq hs rfl
    · rw [List.length_map, List.length_take]; exact big_of (by omega)
    · rw [evC_nil, List.map_map]
      exact lc_mapA _ (fun e he => ⟨[.dat (lstI E), .dat (.int (E.length : Int)), .dat (.int (i : Int)), .dat (.int (E.getD i 0)), .dat (.int e)], .val (.int (e % (E.length : Int))), _, rfl, e_p2 (d := .int e) (d' := .int (E.length : Int)) (e_r0 rfl) (e_r0 rfl) (hmod e), rfl, rfl⟩)
  have q2 : ap2 .isin (.int (E.getD i 0 % (E.length : Int))) (.lst (((E.take i).map fun e => e % (E.length : Int)).map .int)) = some (.val (.bl false)) := by
    show (if _ then _ else _) = _
    rw [plains_int, plain_int, any_beq, g3]
    rfl
  exact ss_nx (X.s_F (X.t_bl (X.e_o2 (e_p2 (d := .int (E.getD i 0)) (d' := .int (E.length : Int)) (e_r0 rfl) (e_r0 rfl) (hmod _)) q1 rfl rfl q2)) ss_nil) ss_nil
theorem loop5 {C : CallS} {E : List Int} {bd : List MS} (hb : ∀ i < E.length, sxs Gd C 40 bd (L5 E (.dat (.int (i : Int))) (.dat (.int (E.getD i 0)))) = some (.nx (L5 E (.dat (.int (i : Int))) (.dat (.int (E.getD i 0)))))) {s s' : Slot} (hs : fdS s) (hs' : fdS s') : ∃ t t', fdS t ∧ fdS t' ∧ forRun (.tup [2, 3]) (sxs Gd C 40 bd) (enumL 0 (E.map .int)) (L5 E s s') = some (.nx (L5 E t t')) := by
  rw [enumG (z := 0)]
  obtain ⟨l2, h1, t, t', rfl, h2, h3⟩ := for_inv (p := .tup [2, 3]) (body := sxs Gd C 40 bd) (I := fun loc => ∃ t t', loc = L5 E t t' ∧ fdS t ∧ fdS t') (M := fun d => ∃ i : Nat, i < E.length ∧ d = .tup [.int (0 + (i : Int)), .int (E.getD i 0)]) (fun d loc hd hI => by
    obtain ⟨i, hi, rfl⟩ := hd
    obtain ⟨t, t', rfl, h2, h3⟩ := hI
    have e1 : (0 : Int) + (i : Int) = (i : Int) := by omega
    rw [e1]
    refine ⟨L5 E (.dat (.int (i : Int))) (.dat (.int (E.getD i 0))), _, ?_, .inl (hb i hi), _, _, rfl, fdS_dat, fdS_dat⟩
    rcases h2 with rfl | ⟨x, rfl⟩ <;> rcases h3 with rfl | ⟨y, rfl⟩ <;> rfl) ((List.range E.length).map fun i : Nat => D.tup [.int (0 + (i : Int)), .int (E.getD i 0)]) (L5 E s s') (fun d hd => by
      obtain ⟨i, hi, rfl⟩ := List.mem_map.mp hd
      exact ⟨i, List.mem_range.mp hi, rfl⟩) ⟨_, _, rfl, hs, hs'⟩
  exact ⟨t, t', h2, h3, h1⟩
theorem a5 {m : Nat} {E : List Int} (h : okT E = true) : Ans (callN Gd tb 40 (m + 2)) 5 [lstI E] (.val .non) := by
  obtain ⟨h0, h6, _⟩ := okT_ok h
  obtain ⟨t, t', ht, ht', p1⟩ := loop5 (E := E) (bd := bodyA) (fun i hi => turnA (m := m) h hi) (s := .none) (s' := .none) (.inl rfl) (.inl rfl)
  obtain ⟨u, u', _, _, p2⟩ := loop5 (E := E) (bd := bodyB) (fun i hi => turnB (m := m) h hi) ht ht'
  refine ans_run (d := f5) rfl rfl (run_nx (l1 := L5 E u u') rfl (ss_nx (l1 := [.dat (lstI E), .none, .none, .none, .none]) ?_ (ss_nx (l1 := L5 E .none .none) (X.s_set (e_p1 (e_r0 rfl) len_map) rfl rfl) (ss_nx (X.s_loop (i_enum (e_r0 rfl)) p1) (ss_nx (X.s_loop (i_enum (e_r0 rfl)) p2) ss_nil)))) rfl)
  refine X.s_F ?_ ss_nil
  have e1 : ev Gd (callN Gd tb 40 (m + 1)) (.not (.o1 (.isi .list) (.r 0))) [.dat (lstI E), .none, .none, .none, .none] = some (.val (.bl false), [.dat (lstI E), .none, .none, .none, .none]) := e_nt (b := true) (e_p1 (d := lstI E) (e_r0 rfl) rfl)
  have e2 : ev Gd (callN Gd tb 40 (m + 1)) (.o1 .len (.r 0)) [.dat (lstI E), .none, .none, .none, .none] = some (.val (.int (E.length : Int)), [.dat (lstI E), .none, .none, .none, .none]) := e_p1 (e_r0 rfl) len_map
  have e3 : ev Gd (callN Gd tb 40 (m + 1)) (.ch .le .le (.c (.int 1)) (.o1 .len (.r 0)) (.g 0)) [.dat (lstI E), .none, .none, .none, .none] = some (.val (.bl true), [.dat (lstI E), .none, .none, .none, .none]) :=
    e_chT (z := .int 6) e_k e2 (le_at (by omega)) (by rw [ev]; rfl) (le_at (by omega))
  have e4 : ev Gd (callN Gd tb 40 (m + 1)) (.or (.not (.o1 (.isi .list) (.r 0))) (.not (.ch .le .le (.c (.int 1)) (.o1 .len (.r 0)) (.g 0)))) [.dat (lstI E), .none, .none, .none, .none] = some (.val (.bl false), [.dat (lstI E), .none, .none, .none, .none]) := by
    rw [ev, e1]
    exact e_nt e3
  exact X.t_bl e4
theorem a6 {m : Nat} {E : List Int} (h : okT E = true) : callN Gd tb 40 (m + 4) 6 [.dat (lstI E)] = some (.val (turnD E), [.dat (lstI E)]) := by
  have q1 : sx Gd (callN Gd tb 40 (m + 2)) 40 (.ex (.call 5 [.r 1])) [.hid, .dat (lstI E)] = some (.nx [.hid, .dat (lstI E)]) := X.s_ex (e_callD (ds := [lstI E]) (es_p (e_r0 rfl) es_nil) (a5 h))
  have q2 : ev Gd (callN Gd tb 40 (m + 2)) (.o1 .tuple (.r 1)) [.hid, .dat (lstI E)] = some (.val (tupI E), [.hid, .dat (lstI E)]) := e_p1 (d := lstI E) (e_r0 rfl) rfl
  have q3 : ctRun Gd (callN Gd tb 40 (m + 2)) 40 0 [] [.ex (.call 5 [.r 1])] [.o1 .tuple (.r 1)] [] [.hid, .dat (lstI E)] = some [tupI E] := by
    rw [ctRun, q1]
    simp only [ctRun]
    rw [ctRun.ctRunF, q2]
    simp only [toVal, ctRun.ctRunF, sxs]
    rfl
  show runCT Gd (callN Gd tb 40 (m + 2)) 40 f6 ⟨0, [.o1 .tuple (.r 1)], []⟩ [.dat (lstI E)] = _
  unfold runCT
  have q4 : allDat [Slot.dat (lstI E)] = true := rfl
  have q5 : [Slot.dat (lstI E)].length + 1 = f6.arity := rfl
  rw [if_pos q5, if_pos q4]
  show (match ctRun Gd (callN Gd tb 40 (m + 2)) 40 0 [] [.ex (.call 5 [.r 1])] [.o1 .tuple (.r 1)] [] [.hid, .dat (lstI E)] with | some ds => some (MP.R.val (.ins 0 ds), [Slot.dat (lstI E)]) | none => none) = _
  rw [q3]
  rfl
theorem e_make {C : CallS} {loc : Loc} {a : ME} {d : D} {fs : List D} (h1 : ev Gd C a loc = some (.val d, loc)) (h2 : C 6 [.dat d] = some (.val (.ins 0 fs), [.dat d])) : ev Gd C (.make 0 6 [a]) loc = some (.val (.ins 0 fs), loc) := by
  have := es_p h1 (es_nil (loc := loc))
  rw [ev, this]
  have q4 : allDat [Slot.dat d] = true := rfl
  simp only [argsOf, argOf, q4, if_true, h2]
def rowsT (E : List Int) : Int := (E.sum - rsum 0 (E.length + 1)) / (E.length : Int)
theorem len_tup {E : List Int} : ap1 .len (tupI E) = some (.val (.int (E.length : Int))) := by
  show some (MP.R.val (.int ((List.map D.int E).length : Nat))) = _
  rw [List.length_map]
theorem sum_tup {E : List Int} : ap1 .sum (tupI E) = some (.val (.int E.sum)) := by
  show (ints? _).map _ = _
  rw [ints_map]; rfl
theorem sum_lst {E : List Int} : ap1 .sum (.lst (E.map .int)) = some (.val (.int E.sum)) := by
  show (ints? _).map _ = _
  rw [ints_map]; rfl
theorem fdiv_at {x n : Int} (h0 : 0 < n) (h1 : n ≤ 6) : ap2 .fdiv (.int x) (.int n) = some (.val (.int (x / n))) := by
  show (if _ then _ else _) = _
  rw [if_pos (fdiv_ok h0 (by omega))]
theorem a19 {m : Nat} {E : List Int} (h0 : 0 < E.length) (h1 : E.length ≤ 6) : Ans (callN Gd tb 40 (m + 1)) 19 [turnD E] (.val (.int (rowsT E))) := by
  have hf : ev Gd (callN Gd tb 40 m) (.fld [(0, 0)] (.r 0)) [.dat (turnD E)] = some (.val (tupI E), [.dat (turnD E)]) := e_fld (fs := []) (e_r0 rfl)
  have hl : ev Gd (callN Gd tb 40 m) (.o1 .len (.fld [(0, 0)] (.r 0))) [.dat (turnD E)] = some (.val (.int (E.length : Int)), [.dat (turnD E)]) := e_p1 hf len_tup
  have hs : ev Gd (callN Gd tb 40 m) (.sumR (.rng1 (.o2 .add (.o1 .len (.fld [(0, 0)] (.r 0))) (.c (.int 1))))) [.dat (turnD E)] = some (.val (.int (rsum 0 (E.length + 1))), [.dat (turnD E)]) := by
    have e1 : ev Gd (callN Gd tb 40 m) (.o2 .add (.o1 .len (.fld [(0, 0)] (.r 0))) (.c (.int 1))) [.dat (turnD E)] = some (.val (.int ((E.length : Int) + 1)), [.dat (turnD E)]) := e_p2 hl e_k rfl
    rw [ev, e1]
    simp only
    rw [if_pos (by rw [small_of (by omega) (by omega), Bool.true_and, decide_eq_true_eq]; exact big_of (by omega)), show ((E.length : Int) + 1).toNat = E.length + 1 by omega]
  exact ans_run (d := f19) rfl rfl (run_rt (l1 := [.dat (turnD E)]) rfl (ss_rt (s_retV (e_p2 (e_p2 (d := .int E.sum) (d' := .int (rsum 0 (E.length + 1))) (e_p1 hf sum_tup) hs rfl) hl (fdiv_at (by omega) (by omega))))) rfl)
def endT (E : List Int) (b : Int) : Int := E.getD ((b - 1) % (E.length : Int)).toNat 0 + (b - 1) / (E.length : Int) * (E.length : Int)
theorem a20 {m : Nat} {E : List Int} {b : Int} (h0 : 0 < E.length) (h1 : E.length ≤ 6) : Ans (callN Gd tb 40 (m + 1)) 20 [turnD E, .int b] (.val (.int (endT E b))) := by
  have hf : ∀ s, ev Gd (callN Gd tb 40 m) (.fld [(0, 0)] (.r 0)) [.dat (turnD E), .dat (.int b), s] = some (.val (tupI E), [.dat (turnD E), .dat (.int b), s]) := fun s => e_fld (fs := []) (e_r0 rfl)
  have hn : 0 ≤ (b - 1) % (E.length : Int) := Int.emod_nonneg _ (by omega)
  have hn2 : (b - 1) % (E.length : Int) < (E.length : Int) := Int.emod_lt_of_pos _ (by omega)
  have hmod : ap2 .mod (.int (b - 1)) (.int (E.length : Int)) = some (.val (.int ((b - 1) % (E.length : Int)))) := by
    show (if _ then _ else _) = _
    rw [if_pos (by omega)]
  have hix : ap2 .ix (tupI E) (.int ((b - 1) % (E.length : Int))) = some (.val (.int (E.getD ((b - 1) % (E.length : Int)).toNat 0))) := by
    show (seqAt (E.map D.int) _).map _ = _
    unfold seqAt
    rw [if_pos hn, List.getElem?_map, getD_at (z := 0) (by omega)]
    rfl
  have hm : ap2 .mul (.int ((b - 1) / (E.length : Int))) (.int (E.length : Int)) = some (.val (.int ((b - 1) / (E.length : Int) * (E.length : Int)))) := by
    show (if _ then _ else _) = _
    rw [if_pos (mul_okR (by omega) (by omega))]
  have hb : ev Gd (callN Gd tb 40 m) (.o2 .sub (.r 1) (.c (.int 1))) [.dat (turnD E), .dat (.int b), .dat (.int (E.length : Int))] = some (.val (.int (b - 1)), [.dat (turnD E), .dat (.int b), .dat (.int (E.length : Int))]) := e_p2 (d := .int b) (d' := .int 1) (e_r0 rfl) e_k rfl
  exact ans_run (d := f20) rfl rfl (run_rt (l1 := [.dat (turnD E), .dat (.int b), .dat (.int (E.length : Int))]) rfl (ss_nx (l1 := [.dat (turnD E), .dat (.int b), .dat (.int (E.length : Int))]) (X.s_set (e_p1 (hf .none) len_tup) rfl rfl) (ss_rt (s_retV (e_p2 (e_p2 (hf _) (e_p2 hb (e_r0 rfl) hmod) hix) (e_p2 (e_p2 hb (e_r0 rfl) (fdiv_at (by omega) (by omega))) (e_r0 rfl) hm) rfl)))) rfl)
def cntT (E : List Int) (a : Int) : Int := (((List.range (E.length - 1)).filter fun i : Nat => decide (endT E (a + 1 + (i : Int)) < endT E a)).length : Nat)
def sizeF (E : List Int) : Int → List Int → Int
  | x, [] => x
  | x, a :: as => sizeF E (x - cntT E a) as
def onesTo (n : Nat) : List Int := (List.range n).map fun i : Nat => 1 + (i : Int)
def sizeT (E : List Int) : Int := sizeF E (rowsT E * ((E.length : Int) - rowsT E)) (onesTo E.length)
def body21 : List MS := [.aug 1 .sub (.o1 .len (.lc [5] (.v 5) (.rng2 (.o2 .add (.r 2) (.c (.int 1))) (.o2 .add (.r 2) (.r 3))) [.o2 .lt (.meth [(0, 20)] (.r 0) [.r 5]) (.meth [(0, 20)] (.r 0) [.r 2])] (.r 5)))]
def L21 (E : List Int) (x : Int) (s : Slot) : Loc := [.dat (turnD E), .dat (.int x), s, .dat (.int (E.length : Int)), .dat (.int (rowsT E)), .none]
theorem turn21 {m : Nat} {E : List Int} {x a : Int} (h0 : 0 < E.length) (h1 : E.length ≤ 6) (ha : 0 ≤ a) (ha' : a ≤ 10) : sxs Gd (callN Gd tb 40 (m + 1)) 40 body21 (L21 E x (.dat (.int a))) = some (.nx (L21 E (x - cntT E a) (.dat (.int a)))) := by
  have q : ev Gd (callN Gd tb 40 (m + 1)) (.lc [5] (.v 5) (.rng2 (.o2 .add (.r 2) (.c (.int 1))) (.o2 .add (.r 2) (.r 3))) [.o2 .lt (.meth [(0, 20)] (.r 0) [.r 5]) (.meth [(0, 20)] (.r 0) [.r 2])] (.r 5)) (L21 E x (.dat (.int a))) = some (.new (((List.range (E.length - 1)).filter fun i : Nat => decide (endT E (a + 1 + (i : Int)) < endT E a)).map fun i : Nat => D.int (a + 1 + (i : Int))), L21 E x (.dat (.int a))) := by
    refine ev_lc_at [5] (.v 5) (.rng2 (.o2 .add (.r 2) (.c (.int 1))) (.o2 .add (.r 2) (.r 3))) [.o2 .lt (.meth [(0, 20)] (.r 0) [.r 5]) (.meth [(0, 20)] (.r 0) [.r 2])] (.r 5) (L21 E x (.dat (.int a))) (L21 E x (.dat (.int a))) (items := rngL (a + 1) (E.length - 1)) ?_ rfl ?_ ?_ rfl
    · have h := X.i_r2 (G := Gd) (C := callN Gd tb 40 (m + 1)) (loc := L21 E x (.dat (.int a))) (a := .o2 .add (.r 2) (.c (.int 1))) (b := .o2 .add (.r 2) (.r 3)) (m := a + 1) (n := a + (E.length : Int)) (e_p2 (d := .int a) (d' := .int 1) (e_r0 rfl) e_k rfl) (e_p2 (d := .int a) (d' := .int (E.length : Int)) (e_r0 rfl) (e_r0 rfl) rfl) (small_of (by omega) (by omega)) (small_of (by omega) (by omega))
      rw [show (a + (E.length : Int) - (a + 1)).toNat = E.length - 1 by omega] at h
      exact h
    · rw [rngL_eq, List.length_map, List.length_range]; exact big_of (by omega)
    · rw [rngL_eq]
      refine lc_filterA _ (fun i hi => ?_)
      refine ⟨[.dat (turnD E), .dat (.int x), .dat (.int a), .dat (.int (E.length : Int)), .dat (.int (rowsT E)), .dat (.int (a + 1 + (i : Int)))], [.dat (turnD E), .dat (.int x), .dat (.int a), .dat (.int (E.length : Int)), .dat (.int (rowsT E)), .dat (.int (a + 1 + (i : Int)))], .val (.int (a + 1 + (i : Int))), _, rfl, evC_one (e_p2 (d := .int (endT E (a + 1 + (i : Int)))) (d' := .int (endT E a)) (e_meth (fs := [tupI E]) (ds := [.int (a + 1 + (i : Int))]) (e_r0 rfl) (es_p (e_r0 rfl) es_nil) (a20 h0 h1)) (e_meth (fs := [tupI E]) (ds := [.int a]) (e_r0 rfl) (es_p (e_r0 rfl) es_nil) (a20 h0 h1)) rfl), rfl, fun _ => ⟨e_r0 rfl, rfl, rfl⟩⟩
  have q2 := e_n1 (o := .len) q (len_map (g := fun i : Nat => D.int (a + 1 + (i : Int))))
  refine ss_nx ?_ ss_nil
  rw [sx]
  simp only [L21, List.getElem?_cons_succ, List.getElem?_cons_zero]
  rw [show ([Slot.dat (turnD E), .dat (.int x), .dat (.int a), .dat (.int (E.length : Int)), .dat (.int (rowsT E)), .none] : Loc) = L21 E x (.dat (.int a)) from rfl, q2]
  rfl
theorem loop21 {m : Nat} {E : List Int} (h0 : 0 < E.length) (h1 : E.length ≤ 6) : ∀ (as : List Int) (x : Int) (s : Slot), (∀ a ∈ as, 0 ≤ a ∧ a ≤ 10) → fdS s → ∃ s', forRun (.v 2) (sxs Gd (callN Gd tb 40 (m + 1)) 40 body21) (as.map .int) (L21 E x s) = some (.nx (L21 E (sizeF E x as) s'))
  | [], x, s, _, _ => ⟨s, rfl⟩
  | a :: as, x, s, h, hs => by
    obtain ⟨s', e⟩ := loop21 (m := m) h0 h1 as (x - cntT E a) (.dat (.int a)) (fun y hy => h y (List.mem_cons_of_mem _ hy)) fdS_dat
    obtain ⟨g1, g2⟩ := h a (List.mem_cons_self ..)
    have hb : bindP (.v 2) (.int a) (L21 E x s) = some (L21 E x (.dat (.int a))) := bind_v (i := 2) ⟨s, rfl, hs⟩
    refine ⟨s', ?_⟩
    simp only [List.map_cons, forRun, hb, turn21 h0 h1 g1 g2, sizeF]
    exact e
theorem s_par {C : CallS} {loc l1 l2 l3 l4 : Loc} {r r' : R} {d e : D} {a b : ME} {i j : Nat} (h1 : ev Gd C a loc = some (r, l1)) (h2 : ev Gd C b l1 = some (r', l2)) (h3 : toVal r = some d) (h4 : toVal r' = some e) (h5 : put l2 i (.dat d) = some l3) (h6 : put l3 j (.dat e) = some l4) : sx Gd C 40 (.par i j a b) loc = some (.nx l4) := by
  rw [sx, h1]; simp only [h2, h3, h4, h5, h6, Option.map_some]
theorem a21 {m : Nat} {E : List Int} (h0 : 0 < E.length) (h1 : E.length ≤ 6) (hr : 0 ≤ rowsT E) (hr' : rowsT E ≤ 6) : Ans (callN Gd tb 40 (m + 2)) 21 [turnD E] (.val (.int (sizeT E))) := by
  obtain ⟨s', hl⟩ := loop21 (m := m) h0 h1 (onesTo E.length) (rowsT E * ((E.length : Int) - rowsT E)) .none (fun a ha => by
    obtain ⟨i, hi, rfl⟩ := List.mem_map.mp ha
    have := List.mem_range.mp hi
    omega) (.inl rfl)
  have hi : evI Gd (callN Gd tb 40 (m + 1)) (.rng2 (.c (.int 1)) (.o2 .add (.r 3) (.c (.int 1)))) (L21 E (rowsT E * ((E.length : Int) - rowsT E)) .none) = some ((onesTo E.length).map .int, L21 E (rowsT E * ((E.length : Int) - rowsT E)) .none) := by
    have h := X.i_r2 (G := Gd) (C := callN Gd tb 40 (m + 1)) (loc := L21 E (rowsT E * ((E.length : Int) - rowsT E)) .none) (a := .c (.int 1)) (b := .o2 .add (.r 3) (.c (.int 1))) (m := 1) (n := (E.length : Int) + 1) e_k (e_p2 (d := .int (E.length : Int)) (d' := .int 1) (e_r0 rfl) e_k rfl) (by decide) (small_of (by omega) (by omega))
    rw [show ((E.length : Int) + 1 - 1).toNat = E.length by omega, rngL_eq] at h
    unfold onesTo
    rw [List.map_map]
    exact h
  have hm : ap2 .mul (.int (rowsT E)) (.int ((E.length : Int) - rowsT E)) = some (.val (.int (rowsT E * ((E.length : Int) - rowsT E)))) := by
    show (if _ then _ else _) = _
    rw [if_pos (mul_ok hr (by omega))]
  exact ans_run (d := f21) rfl rfl (run_rt (l1 := L21 E (sizeT E) s') rfl (ss_nx (l1 := [.dat (turnD E), .none, .none, .dat (.int (E.length : Int)), .dat (.int (rowsT E)), .none]) (s_par (e_p1 (d := tupI E) (e_fld (fs := []) (e_r0 rfl)) len_tup) (e_meth (fs := [tupI E]) (ds := []) (e_r0 rfl) es_nil (a19 h0 h1)) rfl rfl rfl rfl) (ss_nx (l1 := L21 E (rowsT E * ((E.length : Int) - rowsT E)) .none) (X.s_set (e_p2 (d := .int (rowsT E)) (d' := .int ((E.length : Int) - rowsT E)) (e_r0 rfl) (e_p2 (d := .int (E.length : Int)) (d' := .int (rowsT E)) (e_r0 rfl) (e_r0 rfl) rfl) hm) rfl rfl) (ss_nx (X.s_loop hi hl) (ss_rt (s_retV (e_r0 rfl)))))) rfl)
def deepT (E : List Int) : Int := ((List.range E.length).map fun i : Nat => E.getD i 0 - (i : Int) - 1).sum / (E.length : Int)
theorem a22 {m : Nat} {E : List Int} (h0 : 0 < E.length) (h1 : E.length ≤ 6) : Ans (callN Gd tb 40 (m + 1)) 22 [lstI E] (.val (.int (deepT E))) := by
  have q : ev Gd (callN Gd tb 40 m) (.lc [1] (.v 1) (.rng1 (.o1 .len (.r 0))) [] (.o2 .sub (.o2 .sub (.o2 .ix (.r 0) (.r 1)) (.r 1)) (.c (.int 1)))) [.dat (lstI E), .none] = some (.new (((List.range E.length).map fun i : Nat => E.getD i 0 - (i : Int) - 1).map .int), [.dat (lstI E), .none]) := by
    refine ev_lc_at [1] (.v 1) (.rng1 (.o1 .len (.r 0))) [] (.o2 .sub (.o2 .sub (.o2 .ix (.r 0) (.r 1)) (.r 1)) (.c (.int 1))) [.dat (lstI E), .none] [.dat (lstI E), .none] (items := rngL 0 E.length) ?_ rfl ?_ ?_ rfl
    · exact X.i_r1 (n := (E.length : Int)) (e_p1 (e_r0 rfl) len_map) (small_of (by omega) (by omega))
    · rw [rngL_eq, List.length_map, List.length_range]; exact big_of (by omega)
    · rw [rngL_eq, evC_nil, List.map_map]
      refine lc_mapA _ (fun i hi => ?_)
      have hi' : i < E.length := List.mem_range.mp hi
      have e1 : (0 : Int) + (i : Int) = (i : Int) := by omega
      rw [e1]
      exact ⟨[.dat (lstI E), .dat (.int (i : Int))], .val (.int (E.getD i 0 - (i : Int) - 1)), _, rfl, e_p2 (d := .int (E.getD i 0 - (i : Int))) (d' := .int 1) (e_p2 (d := .int (E.getD i 0)) (d' := .int (i : Int)) (e_p2 (d := lstI E) (d' := .int (i : Int)) (e_r0 rfl) (e_r0 rfl) (ix_map (getD_at hi'))) (e_r0 rfl) rfl) e_k rfl, rfl, rfl⟩
  exact ans_run (d := f22) rfl rfl (run_rt (l1 := [.dat (lstI E), .none]) rfl (ss_rt (s_retV (e_p2 (e_n1 q sum_lst) (e_p1 (d := lstI E) (e_r0 rfl) len_map) (fdiv_at (by omega) (by omega))))) rfl)
theorem eq_word (a b : Nat) (hb : b < 3) : ap2 .eq (.str (wordS a)) (.str (wordS b)) = some (.val (.bl (min a 2 == b))) := by
  have hb : b = 0 ∨ b = 1 ∨ b = 2 := by omega
  match a with
  | 0 => rcases hb with rfl | rfl | rfl <;> kernel_rfl
  | 1 => rcases hb with rfl | rfl | rfl <;> kernel_rfl
  | a + 2 =>
    have e1 : wordS (a + 2) = wordS 2 := rfl
    have e2 : min (a + 2) 2 = 2 := by omega
    rw [e1, e2]
    rcases hb with rfl | rfl | rfl <;> kernel_rfl
def countT (S : List (Nat × Nat)) (b : Nat) : Int := ((S.filter fun s => min s.1 2 == b).length : Nat)
theorem a18 {m : Nat} {S : List (Nat × Nat)} {b : Nat} (hb : b < 3) (hS : S.length ≤ 100) : Ans (callN Gd tb 40 (m + 1)) 18 [.lst (S.map stepD), .str (wordS b)] (.val (.int (countT S b))) := by
  have q : ev Gd (callN Gd tb 40 m) (.lc [2] (.v 2) (.seq (.r 0)) [.o2 .eq (.o2 .ix (.r 2) (.c (.int 0))) (.r 1)] (.r 2)) [.dat (.lst (S.map stepD)), .dat (.str (wordS b)), .none] = some (.new ((S.filter fun s => min s.1 2 == b).map stepD), [.dat (.lst (S.map stepD)), .dat (.str (wordS b)), .none]) := by
    refine ev_lc_at [2] (.v 2) (.seq (.r 0)) [.o2 .eq (.o2 .ix (.r 2) (.c (.int 0))) (.r 1)] (.r 2) [.dat (.lst (S.map stepD)), .dat (.str (wordS b)), .none] [.dat (.lst (S.map stepD)), .dat (.str (wordS b)), .none] (items := S.map stepD) (X.i_seq (e_r0 rfl) rfl) rfl ?_ ?_ rfl
    · rw [List.length_map]; exact Nat.le_trans hS (by decide)
    · exact lc_filterA _ (fun s hs => ⟨[.dat (.lst (S.map stepD)), .dat (.str (wordS b)), .dat (stepD s)], [.dat (.lst (S.map stepD)), .dat (.str (wordS b)), .dat (stepD s)], .val (stepD s), _, rfl, evC_one (e_p2 (d := .str (wordS s.1)) (d' := .str (wordS b)) (e_p2 (d := stepD s) (d' := .int 0) (e_r0 rfl) e_k rfl) (e_r0 rfl) (eq_word s.1 b hb)), rfl, fun _ => ⟨e_r0 rfl, rfl, rfl⟩⟩)
  exact ans_run (d := f18) rfl rfl (run_rt (l1 := [.dat (.lst (S.map stepD)), .dat (.str (wordS b)), .none]) rfl (ss_rt (s_retV (e_n1 q len_map))) rfl)
end T
end MP

namespace MP
namespace T
open PySem L2 X
/-! k51: the ends that are drawn -/
def stepE (n at_ : Nat) (p : List Int × List Int) : List (List Int × List Int) :=
  (List.range p.2.length).flatMap fun k =>
    (if p.2.getD k 0 < (at_ : Int) + 1 then [true] else if p.2.getD k 0 = (at_ : Int) + 1 then [true, false] else [false]).map fun b => (p.1 ++ [p.2.getD k 0 + (n : Int) * (if b then 1 else 0)], p.2.take k ++ p.2.drop (k + 1))
def reachE (n : Nat) : Nat → List (List Int × List Int)
  | 0 => [([], (List.range n).map fun i : Nat => 1 + (i : Int))]
  | k + 1 => (reachE n k).flatMap (stepE n k)
def endsOf (n : Nat) : List (List Int) := (reachE n n).map (·.1)
theorem isWell_mono {m m' : Nat} {w : List D} (h : IsWell m w) (hm : m ≤ m') : IsWell m' w := by
  obtain ⟨a, c, t, e, h0, h1⟩ := h
  exact ⟨a, c, t, e, h0, by omega⟩
theorem e_drawG {C : CallS} {jd i m : Nat} {loc : Loc} {w : List D} {n : Int} {a : ME} {b : Bool} (hd : Draws C jd) (hi : loc[i]? = some (.own b w)) (ha : ev Gd C a loc = some (.val (.int n), loc)) (hw : IsWell m w) (h0 : 0 < n) (h1 : n < 2 ^ 60) (hm : m < 2 ^ 40) :
    ∃ r w', ev Gd C (.call jd [.r i, a]) loc = some (.val (.int r), loc.set i (.own b w')) ∧ 0 ≤ r ∧ r < n ∧ IsWell (m + 1) w' := by
  obtain ⟨r, w', e1, e2, e3, e4⟩ := hd w m n hw h0 h1 hm
  exact ⟨r, w', e_call (es_cons (e_rO hi) (es_p ha es_nil)) (do_ref hi e1), e2, e3, e4⟩
def L3 (n : Nat) (w : List D) (L E : List Int) (s4 s5 s6 s7 : Slot) : Loc := [.own true w, .dat (.int n), .dat (lstI L), .own false (E.map .int), s4, s5, s6, s7]
def body3 : List MS := [.set (.v 5) (.call 2 [.r 0, .o1 .len (.r 2)]), .set (.v 6) (.o2 .ix (.r 2) (.r 5)), .set (.v 2) (.o2 .add (.sl (.r 2) .none (.some (.r 5))) (.sl (.r 2) (.some (.o2 .add (.r 5) (.c (.int 1)))) .none)), .set (.v 7) (.or (.o2 .lt (.r 6) (.o2 .add (.r 4) (.c (.int 1)))) (.and (.o2 .eq (.r 6) (.o2 .add (.r 4) (.c (.int 1)))) (.o2 .eq (.call 2 [.r 0, .c (.int 2)]) (.c (.int 0))))), .ex (.app 3 (.o2 .add (.r 6) (.o2 .mul (.r 1) (.o1 .int (.r 7)))))]
theorem loop3 {C : CallS} {n : Nat} (hd : Draws C 2) (h6 : n ≤ 6) : ∀ (r j m : Nat) (w : List D) (L E : List Int) (s4 s5 s6 s7 : Slot), j + r = n → IsWell m w → m + 2 * r < 2 ^ 40 → (E, L) ∈ reachE n j → L.length = r → E.length = j → fdS s4 → fdS s5 → fdS s6 → fdS s7 →
    ∃ w' L' E' t4 t5 t6 t7, forRun (.v 4) (sxs Gd C 40 body3) (rngL j r) (L3 n w L E s4 s5 s6 s7) = some (.nx (L3 n w' L' E' t4 t5 t6 t7)) ∧ IsWell (m + 2 * r) w' ∧ E' ∈ endsOf n
  | 0, j, m, w, L, E, s4, s5, s6, s7, hj, hw, hm, hr, hl, he, f4, f5, f6, f7 => ⟨w, L, E, s4, s5, s6, s7, rfl, hw, by
      have : j = n := by omega
      subst this
      exact List.mem_map.mpr ⟨(E, L), hr, rfl⟩⟩
  | r + 1, j, m, w, L, E, s4, s5, s6, s7, hj, hw, hm, hr, hl, he, f4, f5, f6, f7 => by
    have b1 : bindP (.v 4) (.int (j : Int)) (L3 n w L E s4 s5 s6 s7) = some (L3 n w L E (.dat (.int (j : Int))) s5 s6 s7) := bind_v (i := 4) ⟨s4, rfl, f4⟩
    obtain ⟨kz, w1, q1, k0, k1, hw1⟩ := e_drawG (i := 0) (b := true) (loc := L3 n w L E (.dat (.int (j : Int))) s5 s6 s7) (a := .o1 .len (.r 2)) (n := (L.length : Int)) hd rfl (e_p1 (d := lstI L) (e_r0 rfl) len_map) hw (by omega) (by omega) (by omega)
    obtain ⟨k, rfl⟩ : ∃ k : Nat, kz = (k : Int) := ⟨kz.toNat, by omega⟩
    have hk : k < L.length := by omega
    have p1 : sx Gd C 40 (.set (.v 5) (.call 2 [.r 0, .o1 .len (.r 2)])) (L3 n w L E (.dat (.int (j : Int))) s5 s6 s7) = some (.nx (L3 n w1 L E (.dat (.int (j : Int))) (.dat (.int (k : Int))) s6 s7)) := X.s_set q1 rfl (bind_v (i := 5) ⟨s5, rfl, f5⟩)
    have p2 : sx Gd C 40 (.set (.v 6) (.o2 .ix (.r 2) (.r 5))) (L3 n w1 L E (.dat (.int (j : Int))) (.dat (.int (k : Int))) s6 s7) = some (.nx (L3 n w1 L E (.dat (.int (j : Int))) (.dat (.int (k : Int))) (.dat (.int (L.getD k 0))) s7)) := X.s_set (e_p2 (d := lstI L) (d' := .int (k : Int)) (e_r0 rfl) (e_r0 rfl) (ix_map (getD_at hk))) rfl (bind_v (i := 6) ⟨s6, rfl, f6⟩)
    have p3 : sx Gd C 40 (.set (.v 2) (.o2 .add (.sl (.r 2) .none (.some (.r 5))) (.sl (.r 2) (.some (.o2 .add (.r 5) (.c (.int 1)))) .none))) (L3 n w1 L E (.dat (.int (j : Int))) (.dat (.int (k : Int))) (.dat (.int (L.getD k 0))) s7) = some (.nx (L3 n w1 (L.take k ++ L.drop (k + 1)) E (.dat (.int (j : Int))) (.dat (.int (k : Int))) (.dat (.int (L.getD k 0))) s7)) := by
      have v1 := e_slT (C := C) (loc := L3 n w1 L E (.dat (.int (j : Int))) (.dat (.int (k : Int))) (.dat (.int (L.getD k 0))) s7) (a := .r 2) (k := .r 5) (ds := L.map .int) (j := k) (e_r0 rfl) (e_r0 rfl) (by rw [List.length_map]; omega)
      have v2 := e_slF (C := C) (loc := L3 n w1 L E (.dat (.int (j : Int))) (.dat (.int (k : Int))) (.dat (.int (L.getD k 0))) s7) (a := .r 2) (k := .o2 .add (.r 5) (.c (.int 1))) (ds := L.map .int) (j := k + 1) (e_r0 rfl) (e_p2 (d := .int (k : Int)) (d' := .int 1) (e_r0 rfl) e_k rfl)
      have v3 := X.e_o2 (o := .add) v1 v2 rfl rfl (add_lst (Nat.le_trans (show _ + _ ≤ 20 by rw [List.length_take, List.length_drop, List.length_map]; omega) (by decide)))
      rw [← List.map_take, ← List.map_drop, ← List.map_append] at v3
      exact X.s_set v3 rfl rfl
    have hx : ∃ b w2, ev Gd C (.or (.o2 .lt (.r 6) (.o2 .add (.r 4) (.c (.int 1)))) (.and (.o2 .eq (.r 6) (.o2 .add (.r 4) (.c (.int 1)))) (.o2 .eq (.call 2 [.r 0, .c (.int 2)]) (.c (.int 0))))) (L3 n w1 (L.take k ++ L.drop (k + 1)) E (.dat (.int (j : Int))) (.dat (.int (k : Int))) (.dat (.int (L.getD k 0))) s7) = some (.val (.bl b), L3 n w2 (L.take k ++ L.drop (k + 1)) E (.dat (.int (j : Int))) (.dat (.int (k : Int))) (.dat (.int (L.getD k 0))) s7) ∧ IsWell (m + 2) w2 ∧ b ∈ (if L.getD k 0 < (j : Int) + 1 then [true] else if L.getD k 0 = (j : Int) + 1 then [true, false] else [false]) := by
      have c1 : ev Gd C (.o2 .lt (.r 6) (.o2 .add (.r 4) (.c (.int 1)))) (L3 n w1 (L.take k ++ L.drop (k + 1)) E (.dat (.int (j : Int))) (.dat (.int (k : Int))) (.dat (.int (L.getD k 0))) s7) = some (.val (.bl (decide (L.getD k 0 < (j : Int) + 1))), L3 n w1 (L.take k ++ L.drop (k + 1)) E (.dat (.int (j : Int))) (.dat (.int (k : Int))) (.dat (.int (L.getD k 0))) s7) := e_p2 (d := .int (L.getD k 0)) (d' := .int ((j : Int) + 1)) (e_r0 rfl) (e_p2 (d := .int (j : Int)) (d' := .int 1) (e_r0 rfl) e_k rfl) rfl
      have c2 : ev Gd C (.o2 .eq (.r 6) (.o2 .add (.r 4) (.c (.int 1)))) (L3 n w1 (L.take k ++ L.drop (k + 1)) E (.dat (.int (j : Int))) (.dat (.int (k : Int))) (.dat (.int (L.getD k 0))) s7) = some (.val (.bl (L.getD k 0 == (j : Int) + 1)), L3 n w1 (L.take k ++ L.drop (k + 1)) E (.dat (.int (j : Int))) (.dat (.int (k : Int))) (.dat (.int (L.getD k 0))) s7) := e_p2 (d := .int (L.getD k 0)) (d' := .int ((j : Int) + 1)) (e_r0 rfl) (e_p2 (d := .int (j : Int)) (d' := .int 1) (e_r0 rfl) e_k rfl) rfl
      by_cases h1 : L.getD k 0 < (j : Int) + 1
      · refine ⟨true, w1, ?_, isWell_mono hw1 (by omega), by rw [if_pos h1]; exact List.mem_singleton.mpr rfl⟩
        rw [decide_eq_true h1] at c1
        rw [ev, c1]; rfl
      · rw [decide_eq_false h1] at c1
        by_cases h2 : L.getD k 0 = (j : Int) + 1
        · have h2' : (L.getD k 0 == (j : Int) + 1) = true := by rw [beq_iff_eq]; exact h2
          rw [h2'] at c2
          obtain ⟨r2, w2, q2, _, _, hw2⟩ := e_drawG (i := 0) (b := true) (loc := L3 n w1 (L.take k ++ L.drop (k + 1)) E (.dat (.int (j : Int))) (.dat (.int (k : Int))) (.dat (.int (L.getD k 0))) s7) (a := .c (.int 2)) (n := 2) hd rfl e_k hw1 (by decide) (by decide) (by omega)
          refine ⟨r2 == 0, w2, ?_, hw2, by rw [if_neg h1, if_pos h2]; cases (r2 == 0) <;> simp⟩
          have c3 := e_p2 (o := .eq) (d' := .int 0) (r := .val (.bl (r2 == 0))) q2 e_k rfl
          rw [ev, c1]
          exact (e_andT c2 c3)
        · have h2' : (L.getD k 0 == (j : Int) + 1) = false := by rw [beq_eq_false_iff_ne]; exact h2
          rw [h2'] at c2
          refine ⟨false, w1, ?_, isWell_mono hw1 (by omega), by rw [if_neg h1, if_neg h2]; exact List.mem_singleton.mpr rfl⟩
          rw [ev, c1]
          show ev Gd C (.and _ _) _ = _
          rw [ev, c2]; rfl
    obtain ⟨b, w2, q4, hw2, hb⟩ := hx
    have p4 : sx Gd C 40 (.set (.v 7) (.or (.o2 .lt (.r 6) (.o2 .add (.r 4) (.c (.int 1)))) (.and (.o2 .eq (.r 6) (.o2 .add (.r 4) (.c (.int 1)))) (.o2 .eq (.call 2 [.r 0, .c (.int 2)]) (.c (.int 0)))))) (L3 n w1 (L.take k ++ L.drop (k + 1)) E (.dat (.int (j : Int))) (.dat (.int (k : Int))) (.dat (.int (L.getD k 0))) s7) = some (.nx (L3 n w2 (L.take k ++ L.drop (k + 1)) E (.dat (.int (j : Int))) (.dat (.int (k : Int))) (.dat (.int (L.getD k 0))) (.dat (.bl b)))) := X.s_set q4 rfl (bind_v (i := 7) ⟨s7, rfl, f7⟩)
    have hmul : ap2 .mul (.int (n : Int)) (.int (if b then 1 else 0)) = some (.val (.int ((n : Int) * (if b then 1 else 0)))) := by
      have hq : mulOk (n : Int) (if b then 1 else 0) = true := mul_ok (by omega) (by omega)
      simp only [ap2, hq, if_true]
    have p5 : sx Gd C 40 (.ex (.app 3 (.o2 .add (.r 6) (.o2 .mul (.r 1) (.o1 .int (.r 7)))))) (L3 n w2 (L.take k ++ L.drop (k + 1)) E (.dat (.int (j : Int))) (.dat (.int (k : Int))) (.dat (.int (L.getD k 0))) (.dat (.bl b))) = some (.nx (L3 n w2 (L.take k ++ L.drop (k + 1)) (E ++ [L.getD k 0 + (n : Int) * (if b then 1 else 0)]) (.dat (.int (j : Int))) (.dat (.int (k : Int))) (.dat (.int (L.getD k 0))) (.dat (.bl b)))) := by
      have v := X.s_ex (G := Gd) (C := C) (F := 40) (e_app (C := C) (loc := L3 n w2 (L.take k ++ L.drop (k + 1)) E (.dat (.int (j : Int))) (.dat (.int (k : Int))) (.dat (.int (L.getD k 0))) (.dat (.bl b))) (a := .o2 .add (.r 6) (.o2 .mul (.r 1) (.o1 .int (.r 7)))) (i := 3) (b := false) (ds := E.map .int) (ds' := E.map .int) (d := .int (L.getD k 0 + (n : Int) * (if b then 1 else 0))) rfl (e_p2 (d := .int (L.getD k 0)) (d' := .int ((n : Int) * (if b then 1 else 0))) (e_r0 rfl) (e_p2 (d := .int (n : Int)) (d' := .int (if b then 1 else 0)) (e_r0 rfl) (e_p1 (d := .bl b) (e_r0 rfl) rfl) hmul) rfl) rfl rfl (by rw [List.length_map]; exact Nat.lt_of_le_of_lt (show E.length ≤ 6 by omega) (by decide)))
      rw [v]
      unfold L3
      rw [List.map_append]
      rfl
    obtain ⟨w', L', E', t4, t5, t6, t7, q6, hw', hE'⟩ := loop3 hd h6 r (j + 1) (m + 2) w2 (L.take k ++ L.drop (k + 1)) (E ++ [L.getD k 0 + (n : Int) * (if b then 1 else 0)]) (.dat (.int (j : Int))) (.dat (.int (k : Int))) (.dat (.int (L.getD k 0))) (.dat (.bl b)) (by omega) hw2 (by omega) (by
      rw [reachE, List.mem_flatMap]
      refine ⟨(E, L), hr, ?_⟩
      unfold stepE
      rw [List.mem_flatMap]
      exact ⟨k, List.mem_range.mpr hk, List.mem_map.mpr ⟨b, hb, rfl⟩⟩) (by rw [List.length_append, List.length_take, List.length_drop]; omega) (by rw [List.length_append, he]; rfl) fdS_dat fdS_dat fdS_dat fdS_dat
    refine ⟨w', L', E', t4, t5, t6, t7, ?_, by rw [show m + 2 * (r + 1) = m + 2 + 2 * r by omega]; exact hw', hE'⟩
    have ej : ((j : Int) + 1) = ((j + 1 : Nat) : Int) := by omega
    have hs := ss_nx p1 (ss_nx p2 (ss_nx p3 (ss_nx p4 (ss_nx p5 (ss_nil (G := Gd) (C := C) (F := 40))))))
    rw [rngL]
    simp only [forRun, b1]
    rw [show sxs Gd C 40 body3 (L3 n w L E (.dat (.int (j : Int))) s5 s6 s7) = _ from hs, ej]
    exact q6
theorem a3 {q m n : Nat} {w : List D} (h0 : 0 < n) (h6 : n ≤ 6) (hm : m < 2 ^ 30) (hw : IsWell m w) : ∃ w' E, callN Gd tb 40 (q + 2) 3 [.own true w, .dat (.int n)] = some (.val (lstI E), [.own true w', .dat (.int n)]) ∧ E ∈ endsOf n ∧ IsWell (m + 2 * n) w' := by
  have hd : Draws (callN Gd tb 40 (q + 1)) 2 := draws_ofB (k := q) rfl
  have hn : ((List.range n).map fun i : Nat => 1 + (i : Int)).length = n := by rw [List.length_map, List.length_range]
  obtain ⟨w', L', E, t4, t5, t6, t7, q1, hw', hE⟩ := loop3 hd h6 n 0 m w ((List.range n).map fun i : Nat => 1 + (i : Int)) [] .none .none .none .none (by omega) hw (by omega) (List.mem_singleton.mpr rfl) hn rfl (.inl rfl) (.inl rfl) (.inl rfl) (.inl rfl)
  refine ⟨w', E, ?_, hE, hw'⟩
  rw [callN_run (d := f3) rfl]
  have e1 : ev Gd (callN Gd tb 40 (q + 1)) (.lrng (.rng2 (.c (.int 1)) (.o2 .add (.r 1) (.c (.int 1))))) [.own true w, .dat (.int n), .none, .none, .none, .none, .none, .none] = some (.new (((List.range n).map fun i : Nat => 1 + (i : Int)).map .int), [.own true w, .dat (.int n), .none, .none, .none, .none, .none, .none]) := by
    have h := X.i_r2 (G := Gd) (C := callN Gd tb 40 (q + 1)) (loc := [.own true w, .dat (.int n), .none, .none, .none, .none, .none, .none]) (a := .c (.int 1)) (b := .o2 .add (.r 1) (.c (.int 1))) (m := 1) (n := (n : Int) + 1) e_k (e_p2 (d := .int (n : Int)) (d' := .int 1) (e_r0 rfl) e_k rfl) (by decide) (small_of (by omega) (by omega))
    rw [show ((n : Int) + 1 - 1).toNat = n by omega, rngL_eq] at h
    rw [ev, h]
    simp only
    rw [if_pos (by rw [List.length_map, List.length_range]; exact big_of (by omega)), List.map_map]
    rfl
  exact run_rt (l1 := [.own true w', .dat (.int n), .dat (lstI L'), .dat (lstI E), t4, t5, t6, t7]) rfl (ss_nx (l1 := [.own true w, .dat (.int n), .dat (lstI ((List.range n).map fun i : Nat => 1 + (i : Int))), .none, .none, .none, .none, .none]) (X.s_set e1 rfl rfl) (ss_nx (l1 := L3 n w ((List.range n).map fun i : Nat => 1 + (i : Int)) [] .none .none .none .none) (X.s_own (X.e_lst es_nil rfl) rfl) (ss_nx (X.s_loop (X.i_r1 (n := (n : Int)) (e_r0 rfl) (small_of (by omega) (by omega))) q1) (ss_rt (s_retV (by rw [ev]; rfl)))))) rfl
end T
end MP

namespace MP
namespace T
open PySem L2 X
/-! k51: the table over all turnings -/
def fcZ {α : Type} : List Int → (List Int → α) → α
  | [], k => k []
  | x :: xs, k => fcI x fun x => fcZ xs fun xs => k (x :: xs)
theorem fcZ_eq {α : Type} : ∀ (xs : List Int) (k : List Int → α), fcZ xs k = k xs
  | [], k => rfl
  | x :: xs, k => by rw [fcZ, fcI_eq, fcZ_eq xs]
def fcP {α : Type} : List (Int × Int) → (List (Int × Int) → α) → α
  | [], k => k []
  | x :: xs, k => fcI x.1 fun a => fcI x.2 fun b => fcP xs fun xs => k ((a, b) :: xs)
theorem fcP_eq {α : Type} : ∀ (xs : List (Int × Int)) (k : List (Int × Int) → α), fcP xs k = k xs
  | [], k => rfl
  | x :: xs, k => by rw [fcP, fcI_eq, fcI_eq, fcP_eq xs]
def fcT {α : Type} : List (Nat × Nat) → (List (Nat × Nat) → α) → α
  | [], k => k []
  | x :: xs, k => fcN x.1 fun a => fcN x.2 fun b => fcT xs fun xs => k ((a, b) :: xs)
theorem fcT_eq {α : Type} : ∀ (xs : List (Nat × Nat)) (k : List (Nat × Nat) → α), fcT xs k = k xs
  | [], k => rfl
  | x :: xs, k => by rw [fcT, fcN_eq, fcN_eq, fcT_eq xs]
def progF : Nat → List Int → Option (List (Nat × Nat))
  | 0, _ => none
  | f + 1, E => if E.length = 0 then some [] else if E.length ≤ 6 then match nextT E with
    | none => none
    | some s => fcN s.1 fun s1 => fcN s.2 fun s2 => match behindT E (s1, s2) with
      | none => none
      | some E' => fcZ E' fun E' => match progF f E' with
        | none => none
        | some S => some ((s1, s2) :: S)
    else none
theorem progF_eq : ∀ (f : Nat) (E : List Int), progF f E = progT f E
  | 0, E => rfl
  | f + 1, E => by
    unfold progF progT
    simp only [fcN_eq, fcZ_eq, progF_eq f]
    all_goals rfl
def lawF : Nat → List (Int × Int) → Option (List (Nat × Nat))
  | 0, _ => none
  | f + 1, K => if K.length = 0 then some [] else if K.length ≤ 6 then match stillsT K with
    | i :: _ => fcN i fun i => if (K.getD i z2).2 = 0 ∨ (K.getD i z2).2 = 1 then fcP (goneT K i) fun K' => match lawF f K' with
        | none => none
        | some S => some ((if (K.getD i z2).2 = 0 then 2 else 1, i) :: S)
      else none
    | [] => match risesK K with
      | i :: _ => fcN i fun i => fcP (K.take i ++ [K.getD (i + 1) z2, K.getD i z2] ++ K.drop (i + 2)) fun K' => match lawF f K' with
        | none => none
        | some S => some ((0, i) :: S)
      | [] => none
    else none
theorem lawF_eq : ∀ (f : Nat) (K : List (Int × Int)), lawF f K = lawT f K
  | 0, K => rfl
  | f + 1, K => by
    unfold lawF lawT
    simp only [fcN_eq, fcP_eq, lawF_eq f]
    all_goals rfl
def cntG (E : List Int) (a : Int) : Int := fcI (endT E a) fun y => (((List.range (E.length - 1)).filter fun i : Nat => fcI (endT E (a + 1 + (i : Int))) fun z => decide (z < y)).length : Nat)
theorem cntG_eq (E : List Int) (a : Int) : cntG E a = cntT E a := by
  unfold cntG cntT
  simp only [fcI_eq]
def sizeG (E : List Int) : Int → List Int → Int
  | x, [] => x
  | x, a :: as => fcI a fun a => fcI (x - cntG E a) fun x => sizeG E x as
theorem sizeG_eq (E : List Int) : ∀ (x : Int) (as : List Int), sizeG E x as = sizeF E x as
  | x, [] => rfl
  | x, a :: as => by rw [sizeG, sizeF, fcI_eq, fcI_eq, sizeG_eq E, cntG_eq]
def chkS (E : List Int) : Option (List (Nat × Nat)) → Option (List (Nat × Nat)) → Bool
  | some S, some S' => decide (S = S') && decide (S.length ≤ 40) && S.all (fun s => decide (s.2 < 6)) && decide (countT S 0 = sizeT E) && decide (countT S 1 = deepT E) && decide (countT S 2 = (E.length : Int) - deepT E)
  | _, _ => false
def chkE (n : Nat) (E : List Int) : Bool := decide (E.length = n) && okT E && decide (0 ≤ rowsT E ∧ rowsT E ≤ 6) && decide (rowsT E = deepT E) && chkS E (progT 40 E) (lawT 40 (kindsT E))
def fcOT {α : Type} : Option (List (Nat × Nat)) → (Option (List (Nat × Nat)) → α) → α
  | none, k => k none
  | some S, k => fcT S fun S => k (some S)
theorem fcOT_eq {α : Type} (o : Option (List (Nat × Nat))) (k : Option (List (Nat × Nat)) → α) : fcOT o k = k o := by
  cases o with
  | none => rfl
  | some S => exact fcT_eq S _
def chkF (n : Nat) (E : List Int) : Bool := fcI (rowsT E) fun r => decide (E.length = n) && okT E && decide (0 ≤ r ∧ r ≤ 6) && decide (r = deepT E) && fcOT (progF 40 E) fun A => fcP (kindsT E) fun K => fcOT (lawF 40 K) fun B => match A, B with
  | some S, some S' => decide (S = S') && decide (S.length ≤ 40) && S.all (fun s => decide (s.2 < 6)) && decide (countT S 0 = sizeG E (r * ((E.length : Int) - r)) (onesTo E.length)) && decide (countT S 1 = r) && decide (countT S 2 = (E.length : Int) - r)
  | _, _ => false
theorem chkF_ok {n : Nat} {E : List Int} (h : chkF n E = true) : chkE n E = true := by
  unfold chkF at h
  simp only [fcI_eq, fcOT_eq, fcP_eq, progF_eq, lawF_eq, sizeG_eq] at h
  unfold chkE
  simp only [Bool.and_eq_true, decide_eq_true_eq] at h ⊢
  obtain ⟨⟨⟨⟨h1, h2⟩, h3⟩, h4⟩, h5⟩ := h
  refine ⟨⟨⟨⟨h1, h2⟩, h3⟩, h4⟩, ?_⟩
  unfold chkS
  split at h5
  · rename_i S S' e1 e2
    rw [h4] at h5
    unfold sizeT
    rw [h4]
    exact h5
  · cases h5
def allF (n : Nat) : Nat → Nat → List Int × List Int → Bool
  | 0, _, p => chkF n p.1
  | r + 1, at_, p => (stepE n at_ p).all fun p => fcZ p.1 fun e => fcZ p.2 fun l => allF n r (at_ + 1) (e, l)
theorem allF_ok {n : Nat} : ∀ (r at_ : Nat), at_ + r = n → (∀ p ∈ reachE n at_, allF n r at_ p = true) → ∀ E ∈ endsOf n, chkE n E = true
  | 0, at_, ha, h, E, hE => by
    have : at_ = n := by omega
    subst this
    obtain ⟨p, hp, rfl⟩ := List.mem_map.mp hE
    exact chkF_ok (h p hp)
  | r + 1, at_, ha, h, E, hE => by
    refine allF_ok r (at_ + 1) (by omega) (fun p hp => ?_) E hE
    rw [reachE, List.mem_flatMap] at hp
    obtain ⟨p0, hp0, hp⟩ := hp
    have h1 := h p0 hp0
    rw [allF, List.all_eq_true] at h1
    have h2 := h1 p hp
    simp only [fcZ_eq] at h2
    exact h2
def node (n i : Nat) : List Int × List Int := (reachE n 1).getD i ([], [])
theorem nodes {n c : Nat} (hn : (reachE (n + 1) 1).length = c) (h : ∀ i < c, allF (n + 1) n 1 (node (n + 1) i) = true) : ∀ E ∈ endsOf (n + 1), chkE (n + 1) E = true := by
  refine allF_ok n 1 (by omega) (fun p hp => ?_)
  obtain ⟨i, hi, rfl⟩ := List.mem_iff_getElem.mp hp
  have := h i (by omega)
  unfold node at this
  rw [List.getD_eq_getElem?_getD, List.getElem?_eq_getElem hi] at this
  exact this
theorem tE1 : (List.range 2).all (fun i => allF 1 0 1 (node 1 i)) = true := by decide +kernel
theorem tE2 : (List.range 3).all (fun i => allF 2 1 1 (node 2 i)) = true := by decide +kernel
theorem tE3 : (List.range 4).all (fun i => allF 3 2 1 (node 3 i)) = true := by decide +kernel
theorem tE4 : (List.range 5).all (fun i => allF 4 3 1 (node 4 i)) = true := by decide +kernel
theorem tE5 : (List.range 6).all (fun i => allF 5 4 1 (node 5 i)) = true := by decide +kernel
theorem tE60 : allF 6 5 1 (node 6 0) = true := by decide +kernel
theorem tE61 : allF 6 5 1 (node 6 1) = true := by decide +kernel
theorem tE62 : allF 6 5 1 (node 6 2) = true := by decide +kernel
theorem tE63 : allF 6 5 1 (node 6 3) = true := by decide +kernel
theorem tE64 : allF 6 5 1 (node 6 4) = true := by decide +kernel
theorem tE65 : allF 6 5 1 (node 6 5) = true := by decide +kernel
theorem tE66 : allF 6 5 1 (node 6 6) = true := by decide +kernel
theorem tE {n : Nat} {E : List Int} (h0 : 0 < n) (h6 : n ≤ 6) (h : E ∈ endsOf n) : chkE n E = true := by
  have : n = 1 ∨ n = 2 ∨ n = 3 ∨ n = 4 ∨ n = 5 ∨ n = 6 := by omega
  rcases this with rfl | rfl | rfl | rfl | rfl | rfl
  · exact nodes (c := 2) (by decide +kernel) (fun i hi => List.all_eq_true.mp tE1 i (List.mem_range.mpr hi)) E h
  · exact nodes (c := 3) (by decide +kernel) (fun i hi => List.all_eq_true.mp tE2 i (List.mem_range.mpr hi)) E h
  · exact nodes (c := 4) (by decide +kernel) (fun i hi => List.all_eq_true.mp tE3 i (List.mem_range.mpr hi)) E h
  · exact nodes (c := 5) (by decide +kernel) (fun i hi => List.all_eq_true.mp tE4 i (List.mem_range.mpr hi)) E h
  · exact nodes (c := 6) (by decide +kernel) (fun i hi => List.all_eq_true.mp tE5 i (List.mem_range.mpr hi)) E h
  · refine nodes (c := 7) (by decide +kernel) (fun i hi => ?_) E h
    have : i = 0 ∨ i = 1 ∨ i = 2 ∨ i = 3 ∨ i = 4 ∨ i = 5 ∨ i = 6 := by omega
    rcases this with rfl | rfl | rfl | rfl | rfl | rfl | rfl
    · exact tE60
    · exact tE61
    · exact tE62
    · exact tE63
    · exact tE64
    · exact tE65
    · exact tE66
end T
end MP

namespace MP
namespace T
open PySem L2 X
/-! k51: the law -/
theorem step_tab : ((List.range 3).all fun w => (List.range 6).all fun i => PyData.leavesShort 8 (toPy (stepD (w, i))) && (toPy (stepD (w, i))).showable && decide ((toPy (stepD (w, i))).weight ≤ 100) && D.plain 7 (stepD (w, i))) = true := by decide +kernel
theorem step_min (s : Nat × Nat) : stepD s = stepD (min s.1 2, s.2) := by
  obtain ⟨w, i⟩ := s
  match w with
  | 0 => rfl
  | 1 => rfl
  | w + 2 =>
    have : min (w + 2) 2 = 2 := by omega
    show stepD (w + 2, i) = stepD (min (w + 2) 2, i)
    rw [this]; rfl
theorem step_ok {s : Nat × Nat} (h : s.2 < 6) : PyData.leavesShort 8 (toPy (stepD s)) = true ∧ (toPy (stepD s)).showable = true ∧ (toPy (stepD s)).weight ≤ 100 ∧ D.plain 7 (stepD s) = true := by
  rw [step_min]
  have h2 := List.all_eq_true.mp (List.all_eq_true.mp step_tab (min s.1 2) (List.mem_range.mpr (by omega))) s.2 (List.mem_range.mpr h)
  simp only [Bool.and_eq_true, decide_eq_true_eq] at h2
  exact ⟨h2.1.1.1, h2.1.1.2, h2.1.2, h2.2⟩
theorem sh_steps : ∀ {S : List (Nat × Nat)}, (∀ s ∈ S, s.2 < 6) → PyData.leavesShortAll 8 (toPys (S.map stepD)) = true ∧ PyData.showableAll (toPys (S.map stepD)) = true ∧ PyData.weightAll (toPys (S.map stepD)) ≤ 101 * S.length ∧ D.plains 7 (S.map stepD) = true
  | [], _ => ⟨rfl, rfl, by simp [toPys, PyData.weightAll], rfl⟩
  | s :: S, h => by
    obtain ⟨a1, a2, a3, a4⟩ := sh_steps (S := S) (fun y hy => h y (List.mem_cons_of_mem _ hy))
    obtain ⟨b1, b2, b3, b4⟩ := step_ok (h s (List.mem_cons_self ..))
    refine ⟨?_, ?_, ?_, ?_⟩
    · simp only [List.map_cons, toPys, PyData.leavesShortAll, b1, a1, Bool.and_self]
    · simp only [List.map_cons, toPys, PyData.showableAll, b2, a2, Bool.and_self]
    · simp only [List.map_cons, toPys, PyData.weightAll, List.length_cons]
      omega
    · simp only [List.map_cons, D.plains, b4, a4, Bool.and_self]
theorem plain_steps {S : List (Nat × Nat)} (h : ∀ s ∈ S, s.2 < 6) : D.plain 8 (.lst (S.map stepD)) = true := (sh_steps h).2.2.2
theorem repr_steps {S : List (Nat × Nat)} (hS : S.length ≤ 40) (h : ∀ s ∈ S, s.2 < 6) : ∃ t, ap1 .repr (.lst (S.map stepD)) = some (.val (.str t)) := by
  obtain ⟨a1, a2, a3, a4⟩ := sh_steps h
  have hz := PyData.shown_le 8 (by decide) (toPy (.lst (S.map stepD))) (by simp only [toPy, PyData.leavesShort]; exact a1)
  have hw : (toPy (.lst (S.map stepD))).weight ≤ 5000 := by
    simp only [toPy, PyData.weight]
    omega
  have : shOk (.lst (S.map stepD)) = true := by
    unfold shOk
    rw [plain_steps h]
    have h2 : (toPy (.lst (S.map stepD))).showable = true := by simp only [toPy, PyData.showable]; exact a2
    rw [h2]
    simp only [Bool.true_and, decide_eq_true_eq]
    omega
  exact ⟨(toPy (.lst (S.map stepD))).shown, by show (if _ then _ else _) = _; rw [if_pos this]⟩
theorem ne_str (x : Str) : ap2 .ne (.str x) (.str x) = some (.val (.bl false)) := by
  show (if _ then _ else _) = _
  split
  · simp [D.beq]
  · simp [strEq]
theorem beq_step (s : Nat × Nat) : D.beq (stepD s) (stepD s) = true := by simp [stepD, D.beq, D.beqs]
theorem beqs_step : ∀ S : List (Nat × Nat), D.beqs (S.map stepD) (S.map stepD) = true
  | [] => rfl
  | c :: S => by rw [List.map_cons, D.beqs, beqs_step S, beq_step]; rfl
theorem ne_steps {S : List (Nat × Nat)} (h : ∀ s ∈ S, s.2 < 6) : ap2 .ne (.lst (S.map stepD)) (.lst (S.map stepD)) = some (.val (.bl false)) := by
  show (if _ then _ else _) = _
  rw [plain_steps h, if_pos (by rfl)]
  have : D.beq (.lst (S.map stepD)) (.lst (S.map stepD)) = true := beqs_step S
  rw [this]; rfl
theorem beqs_int : ∀ c : List Int, D.beqs (c.map D.int) (c.map D.int) = true
  | [] => rfl
  | x :: c => by
    rw [List.map_cons, D.beqs, beqs_int c]
    simp [D.beq]
theorem ne_ints (c : List Int) : ap2 .ne (lstI c) (lstI c) = some (.val (.bl false)) := by
  show (if _ then _ else _) = _
  have h1 : D.plain 8 (lstI c) = true := plains_int 7 c
  rw [h1, if_pos (by rfl)]
  have : D.beq (lstI c) (lstI c) = true := beqs_int c
  rw [this]; rfl
theorem ne_int (x : Int) : ap2 .ne (.int x) (.int x) = some (.val (.bl false)) := by
  show some (MP.R.val (.bl (!(x == x)))) = _
  rw [beq_self_eq_true]; rfl
theorem e_orF {C : CallS} {loc : Loc} {x y : ME} {q : Bool} (h1 : ev Gd C x loc = some (.val (.bl false), loc)) (h2 : ev Gd C y loc = some (.val (.bl q), loc)) : ev Gd C (.or x y) loc = some (.val (.bl q), loc) := by
  rw [ev, h1]; simp only [res, truth, h2]
def okS (s : Slot) : Prop := fdS s ∨ s = .own false []
theorem okS.fr {s : Slot} (h : okS s) : isFr s = true := by
  rcases h with (rfl | ⟨d, rfl⟩) | rfl <;> rfl
theorem okS.frS {s : Slot} (h : okS s) : frS s := by
  rcases h with h | rfl
  · exact .inl h
  · exact .inr ⟨_, rfl⟩
def bodyT : List MS := [.own 8 (.call 17 [.r 4]), .ite (.or (.not (.o1 (.isi .list) (.r 8))) (.o2 .ne (.o1 .repr (.r 8)) (.o1 .repr (.r 5)))) [.ret (.c (.bl false))] [], .ex (.clear 8)]
def LL (ns : List Int) (c : Int) (w : List D) (E : List Int) (S : List (Nat × Nat)) (s6 s7 s8 : Slot) : Loc := [.scr ns, .dat (.int c), .own false w, .dat (lstI E), .dat (turnD E), .dat (.lst (S.map stepD)), s6, s7, s8, .none]
theorem turnT {ns : List Int} {c : Int} {w : List D} {E : List Int} {S : List (Nat × Nat)} {s6 s8 : Slot} (hp : progT 40 E = some S) (hS : S.length ≤ 40) (hs : ∀ s ∈ S, s.2 < 6) (h6 : okS s6) (h8 : okS s8) (d : D) : ∃ s8', okS s8' ∧ bindP (.v 6) d (LL ns c w E S s6 .none s8) = some (LL ns c w E S (.dat d) .none s8) ∧ sxs Gd (callN Gd tb 40 13) 40 bodyT (LL ns c w E S (.dat d) .none s8) = some (.nx (LL ns c w E S (.dat d) .none s8')) := by
  obtain ⟨t, ht⟩ := repr_steps hS hs
  refine ⟨.own false [], .inr rfl, put_fr (i := 6) ⟨s6, rfl, h6.frS⟩, ?_⟩
  have q1 : ev Gd (callN Gd tb 40 13) (.call 17 [.r 4]) (LL ns c w E S (.dat d) .none s8) = some (.new (S.map stepD), LL ns c w E S (.dat d) .none s8) := e_callD (ds := [turnD E]) (es_p (e_r0 rfl) es_nil) (a17 (m := 9) hp)
  refine ss_nx (l1 := [.scr ns, .dat (.int c), .own false w, .dat (lstI E), .dat (turnD E), .dat (.lst (S.map stepD)), .dat d, .none, .own false (S.map stepD), .none]) (X.s_own q1 (put_fr (i := 8) ⟨s8, rfl, h8.frS⟩)) ?_
  refine ss_nx (X.s_F (X.t_bl (e_orF (e_nt (b := true) (X.e_o1 (e_rO (b := false) (ds := S.map stepD) rfl) rfl rfl)) (e_p2 (X.e_o1 (e_rO (b := false) (ds := S.map stepD) rfl) rfl ht) (X.e_o1 (e_r0 rfl) rfl ht) (ne_str t)))) ss_nil) ?_
  exact ss_nx (X.s_ex (r := .val .non) (l1 := LL ns c w E S (.dat d) .none (.own false [])) (by rw [ev]; rfl)) ss_nil
theorem law_true (ns : List Int) (hl : ns.length ≤ 63) : ∃ a', callN Gd (es.map (·.d)) 40 depth 23 [.scr ns] = some (.val (.bl true), a') := by
  refine law_cells (T := tb) (k := 12) (ic := 0) (m := 8) (K := 10) (j := 23) (F := 40) (B := (match f23.body with | .loop _ _ b :: _ => b.drop 1 | _ => [])) rfl rfl (fun ns c => ?_) ns hl
  obtain ⟨w, e1, hw⟩ := wellB_ok (G := Gd) (C := callN Gd tb 40 12) (F := 40) c
  have e1' : callN Gd tb 40 13 1 [.dat (.int c)] = some (.new w, [.dat (.int c)]) := by rw [callN_run (d := wellB) rfl]; exact e1
  show MP.fin 9 (sxs Gd (callN Gd tb 40 13) 40 (.own 2 (.call 1 [.r 1]) :: .set (.v 3) (.call 3 [.r 2, .o2 .add (.c (.int 1)) (.call 2 [.r 2, .c (.int 6)])]) :: .set (.v 4) (.make 0 6 [.r 3]) :: .set (.v 5) (.call 10 [.r 3]) :: .loop (.v 6) (.rng1 (.c (.int 2))) bodyT :: .set (.v 7) (.lc [9] (.v 9) (.seq (.lst [.c (.str "bridge"), .c (.str "needed"), .c (.str "dry")])) [] (.call 18 [.r 5, .r 9])) :: .ite (.o2 .ne (.r 7) (.lst [.meth [(0, 21)] (.r 4) [], .call 22 [.r 3], .o2 .sub (.o1 .len (.r 3)) (.call 22 [.r 3])])) [.ret (.c (.bl false))] [] :: .ite (.or (.o2 .ne (.call 17 [.r 4]) (.r 5)) (.or (.o2 .ne (.meth [(0, 11)] (.r 4) []) (.r 3)) (.o2 .ne (.meth [(0, 19)] (.r 4) []) (.call 22 [.r 3])))) [.ret (.c (.bl false))] [] :: []) _) = _
  rw [ss_eq (l1 := [.scr ns, .dat (.int c), .own false w, .none, .none, .none, .none, .none, .none, .none]) (X.s_own (e_well rfl e1') rfl)]
  have dr : Draws (callN Gd tb 40 13) 2 := draws_ofB (k := 12) rfl
  obtain ⟨r1, w1, d1, d2, d3, hw1⟩ := e_drawG (i := 2) (b := false) (loc := [.scr ns, .dat (.int c), .own false w, .none, .none, .none, .none, .none, .none, .none]) (a := .c (.int 6)) dr rfl e_k hw (by decide) (by decide) (by decide)
  obtain ⟨n, hn⟩ : ∃ n : Nat, 1 + r1 = (n : Int) := ⟨(1 + r1).toNat, by omega⟩
  have h0 : 0 < n := by omega
  have h6 : n ≤ 6 := by omega
  obtain ⟨w2, E, q3, hE, hw2⟩ := a3 (q := 11) h0 h6 (by decide) hw1
  have p3 : ev Gd (callN Gd tb 40 13) (.call 3 [.r 2, .o2 .add (.c (.int 1)) (.call 2 [.r 2, .c (.int 6)])]) [.scr ns, .dat (.int c), .own false w, .none, .none, .none, .none, .none, .none, .none] = some (.val (lstI E), [.scr ns, .dat (.int c), .own false w2, .none, .none, .none, .none, .none, .none, .none]) := by
    refine e_call (rs := [.ref 2, .val (.int n)]) (l1 := [.scr ns, .dat (.int c), .own false w1, .none, .none, .none, .none, .none, .none, .none]) (es_cons (e_rO (b := false) (ds := w) rfl) (es_p (e_p2 e_k d1 (r := .val (.int n)) (by rw [← hn]; rfl)) es_nil)) ?_
    exact do_ref (i := 2) (b := false) (ds := w1) (ds' := w2) (d := .int n) rfl q3
  rw [ss_eq (l1 := [.scr ns, .dat (.int c), .own false w2, .dat (lstI E), .none, .none, .none, .none, .none, .none]) (X.s_set p3 rfl rfl)]
  have hc := tE h0 h6 hE
  unfold chkE at hc
  simp only [Bool.and_eq_true, decide_eq_true_eq] at hc
  obtain ⟨⟨⟨⟨hc1, hc2⟩, hc3⟩, hc4⟩, hc5⟩ := hc
  obtain ⟨E0, E6, _⟩ := okT_ok hc2
  rw [ss_eq (l1 := [.scr ns, .dat (.int c), .own false w2, .dat (lstI E), .dat (turnD E), .none, .none, .none, .none, .none]) (X.s_set (e_make (fs := [tupI E]) (d := lstI E) (e_r0 rfl) (a6 (m := 9) hc2)) rfl rfl)]
  cases hp : progT 40 E with
  | none => rw [hp] at hc5; cases hc5
  | some S =>
  cases hq : lawT 40 (kindsT E) with
  | none => rw [hp, hq] at hc5; cases hc5
  | some S' =>
  rw [hp, hq] at hc5
  simp only [chkS, Bool.and_eq_true, decide_eq_true_eq, List.all_eq_true] at hc5
  obtain ⟨⟨⟨⟨⟨rfl, hS⟩, hs⟩, k0⟩, k1⟩, k2⟩ := hc5
  rw [ss_eq (l1 := LL ns c w2 E S .none .none .none) (X.s_set (e_callD (ds := [lstI E]) (es_p (e_r0 rfl) es_nil) (a10 (m := 11) E0 E6 hq)) rfl rfl)]
  have ok0 : okS Slot.none := .inl (.inl rfl)
  obtain ⟨l7, f7, s6, s8, rfl, g6, g8⟩ := for_inv (p := .v 6) (body := sxs Gd (callN Gd tb 40 13) 40 bodyT) (M := fun _ => True) (I := fun loc => ∃ s6 s8 : Slot, loc = LL ns c w2 E S s6 .none s8 ∧ okS s6 ∧ okS s8) (fun d loc _ hI => by
    obtain ⟨s6, s8, rfl, g6, g8⟩ := hI
    obtain ⟨s8', z1, z2, z3⟩ := turnT (ns := ns) (c := c) (w := w2) hp hS hs g6 g8 d
    exact ⟨_, _, z2, .inl z3, .dat d, s8', rfl, .inl fdS_dat, z1⟩) (rngL 0 2) (LL ns c w2 E S .none .none .none) (fun _ _ => trivial) ⟨_, _, rfl, ok0, ok0⟩
  rw [ss_eq (l1 := LL ns c w2 E S s6 .none s8) (X.s_loop (X.i_r1 (n := 2) e_k (by decide)) f7)]
  have p7 : ev Gd (callN Gd tb 40 13) (.lc [9] (.v 9) (.seq (.lst [.c (.str "bridge"), .c (.str "needed"), .c (.str "dry")])) [] (.call 18 [.r 5, .r 9])) (LL ns c w2 E S s6 .none s8) = some (.new ([0, 1, 2].map fun b => D.int (countT S b)), LL ns c w2 E S s6 .none s8) := by
    refine ev_lc_at [9] (.v 9) (.seq (.lst [.c (.str "bridge"), .c (.str "needed"), .c (.str "dry")])) [] (.call 18 [.r 5, .r 9]) (LL ns c w2 E S s6 .none s8) (LL ns c w2 E S s6 .none s8) (items := [0, 1, 2].map fun b => D.str (wordS b)) (X.i_seq (X.e_lst (es_p e_k (es_p e_k (es_p e_k es_nil))) rfl) rfl) rfl (by decide) ?_ rfl
    rw [evC_nil]
    refine lc_mapA [0, 1, 2] (fun b hb => ?_)
    have hb3 : b < 3 := by
      simp only [List.mem_cons, List.mem_nil_iff, or_false] at hb
      omega
    exact ⟨[.scr ns, .dat (.int c), .own false w2, .dat (lstI E), .dat (turnD E), .dat (.lst (S.map stepD)), s6, .none, s8, .dat (.str (wordS b))], .val (.int (countT S b)), [.scr ns, .dat (.int c), .own false w2, .dat (lstI E), .dat (turnD E), .dat (.lst (S.map stepD)), s6, .none, s8, .dat (.str (wordS b))], rfl, e_callD (ds := [.lst (S.map stepD), .str (wordS b)]) (es_p (e_r0 rfl) (es_p (e_r0 rfl) es_nil)) (a18 (m := 12) hb3 (by omega)), rfl, rfl⟩
  rw [ss_eq (l1 := LL ns c w2 E S s6 (.dat (lstI [countT S 0, countT S 1, countT S 2])) s8) (X.s_set p7 rfl rfl)]
  have p22 : ev Gd (callN Gd tb 40 13) (.call 22 [.r 3]) (LL ns c w2 E S s6 (.dat (lstI [countT S 0, countT S 1, countT S 2])) s8) = some (.val (.int (deepT E)), LL ns c w2 E S s6 (.dat (lstI [countT S 0, countT S 1, countT S 2])) s8) := e_callD (ds := [lstI E]) (es_p (e_r0 rfl) es_nil) (a22 (m := 12) E0 E6)
  have p8 : ev Gd (callN Gd tb 40 13) (.lst [.meth [(0, 21)] (.r 4) [], .call 22 [.r 3], .o2 .sub (.o1 .len (.r 3)) (.call 22 [.r 3])]) (LL ns c w2 E S s6 (.dat (lstI [countT S 0, countT S 1, countT S 2])) s8) = some (.new ([countT S 0, countT S 1, countT S 2].map .int), LL ns c w2 E S s6 (.dat (lstI [countT S 0, countT S 1, countT S 2])) s8) := by
    have v1 : ev Gd (callN Gd tb 40 13) (.meth [(0, 21)] (.r 4) []) (LL ns c w2 E S s6 (.dat (lstI [countT S 0, countT S 1, countT S 2])) s8) = some (.val (.int (countT S 0)), LL ns c w2 E S s6 (.dat (lstI [countT S 0, countT S 1, countT S 2])) s8) := by
      have v := a21 (m := 11) E0 E6 hc3.1 hc3.2
      rw [← k0] at v
      exact e_meth (fs := [tupI E]) (ds := []) (e_r0 rfl) es_nil v
    have v3 : ev Gd (callN Gd tb 40 13) (.o2 .sub (.o1 .len (.r 3)) (.call 22 [.r 3])) (LL ns c w2 E S s6 (.dat (lstI [countT S 0, countT S 1, countT S 2])) s8) = some (.val (.int (countT S 2)), LL ns c w2 E S s6 (.dat (lstI [countT S 0, countT S 1, countT S 2])) s8) :=
      e_p2 (d := .int (E.length : Int)) (d' := .int (deepT E)) (e_p1 (d := lstI E) (e_r0 rfl) len_map) p22 (by rw [k2]; rfl)
    have v2 := p22
    rw [← k1] at v2
    exact X.e_lst (es_p v1 (es_p v2 (es_p v3 es_nil))) rfl
  rw [ss_eq (l1 := LL ns c w2 E S s6 (.dat (lstI [countT S 0, countT S 1, countT S 2])) s8) (X.s_F (X.t_bl (X.e_o2 (e_r0 rfl) p8 rfl rfl (ne_ints _))) ss_nil)]
  have p9 : ev Gd (callN Gd tb 40 13) (.or (.o2 .ne (.call 17 [.r 4]) (.r 5)) (.or (.o2 .ne (.meth [(0, 11)] (.r 4) []) (.r 3)) (.o2 .ne (.meth [(0, 19)] (.r 4) []) (.call 22 [.r 3])))) (LL ns c w2 E S s6 (.dat (lstI [countT S 0, countT S 1, countT S 2])) s8) = some (.val (.bl false), LL ns c w2 E S s6 (.dat (lstI [countT S 0, countT S 1, countT S 2])) s8) := by
    refine e_orF (X.e_o2 (e_callD (ds := [turnD E]) (es_p (e_r0 rfl) es_nil) (a17 (m := 9) hp)) (e_r0 rfl) rfl rfl (ne_steps hs)) (e_orF (X.e_o2 (e_meth (fs := [tupI E]) (ds := []) (e_r0 rfl) es_nil (a11 (m := 12) E)) (e_r0 rfl) rfl rfl (ne_ints E)) ?_)
    have v := a19 (m := 12) (E := E) E0 E6
    rw [hc4] at v
    exact e_p2 (e_meth (fs := [tupI E]) (ds := []) (e_r0 rfl) es_nil v) p22 (ne_int _)
  rw [ss_eq (l1 := LL ns c w2 E S s6 (.dat (lstI [countT S 0, countT S 1, countT S 2])) s8) (X.s_F (X.t_bl p9) ss_nil), ss_nil]
  simp only [MP.fin, LL, List.all_cons, List.all_nil, g6.fr, g8.fr, List.length_cons, List.length_nil]
  rfl
end T
end MP

open PySem PySem.W PySem.Calls PyProof.Rows
theorem PySem.Challenge.cw_rillwise_k51_steps_of_turnings_holds : PySem.Challenge.rw_rillwise_k51_steps_of_turnings.Holds := by
  w_on; o_law
  refine HandSHeadRun.head_any (r := MP.T.Rw) (q := view MP.T.Rw.prog [29]) (H := MP.T.hk) (ob := MP.T.obx) (M := 4000) (loose := MP.T.loose)
    (d := HandSHeadRun.topDef MP.T.Rw.prog 29) (kwd := []) MP.T.obx_eq (by kernel_rfl) (fun s => by kernel_rfl) MP.T.run (by kernel_rfl)
    (by kernel_rfl) (by kernel_rfl) (by rfl) (by first | assumption | decide +kernel) (by decide +kernel) ⟨rfl, rfl, rfl, rfl, rfl, by decide +kernel⟩ ?hw ?hc
  case hw => w_witness2
  case hc =>
    refine MP.walk_g (l := PySem.Challenge.rw_rillwise_k51_steps_of_turnings) (n := 63) (k := MP.T.depth) (x := "_law_script") (CX := L2.CX0) rfl (by decide) (by kernel_rfl) ⟨rfl, by decide, by decide⟩ ?F (fun _ _ _ _ z => z)
    intro w mg fa h Y N hm0
    obtain ⟨K, KX, c⟩ := Y
    have hm : mg "law" = some (.ref fa) := by
      have e : (HandSHeadRun.topDef MP.T.Rw.prog 29).name = ("law" : PySem.Str) := by kernel_rfl
      exact (congrArg mg e).symm.trans hm0
    have X := MP.facts_of (G := MP.T.Gd) (cn := MP.T.cn) KX N c MP.T.eoks MP.T.tabfa
    obtain ⟨fd, Fd⟩ := c.def_ 23 (d := MP.T.e23.dd) rfl
    have e1 := hm.symm.trans (He.glo_ok KX N (c.fact 18 (f := .glo "law") rfl))
    cases e1
    exact MP.law_end KX X MP.T.look (j := 23) (e := MP.T.e23) rfl rfl rfl (fun F s u => L2.FunD.bindsA (ps := ["_law_script"]) F (fun _ _ _ _ _ _ us hl => match us, hl with | [_], _ => rfl) s [u] rfl) ⟨fd, Fd⟩ MP.T.eo23.sc MP.T.law_true

