import PyProof.Rows.All
import Wide.All
import OpenK.AllK
import Wide.FinOn
import HandS.Base
import HandS.Call
import HandS.Ends
import HandS.Defaults
import HandS.HeadEnd
import HandS.ForMost
import HandS.CallRecv
import HandS.Style
import HandS.Conv
import HandS.WideBits
import KE.KTupSum
import HandS.TupSets
import HandS.Flow
import HandS.Wide
import HandS.SortInts
import HandS.IsInst
import HandS.TupAny
import HandS.Zip
import HandS.Deep
import PyProof.NeKinds
import PyProof.EqAt
import HandS.SortKw
import KE.DataMinMax
import KE.SortData
import HandS.Sort
import HandS.OwnEq
import HandS.More
import PyProof.InstNe
import HandS.Flt
import HandS.HeadHook2
import KE.KStateDown
import Lean
import HandS.WordsExc
import HandS.Head0
import HandS.Head1
import HandS.Head2
import HandS.HeadHook1
import HandS.HeadHook4
import PySem.Challenge.RW_rillwise_k29_whole_even_and_odd_sizes
set_option Elab.async false
set_option linter.all false
set_option maxRecDepth 100000
set_option maxHeartbeats 0
/-! calls where nothing is being shown (no guard): contracts of defs that may show nested data -/
namespace MP
open PySem PySem.Spec PyProof.Rows L2
/-- a def's contract, of callers that stand in no guard -/
structure GFn (Pr : Program) (w : World) (K : PySem.W.Frag) (mg : Str → Option Value) (base : Heap) (CX : CXT) (k : Nat) (f : Addr) (fd : FuncData) (ps : List Str) (sp : Sp) : Prop where
  len : ∀ vs H Q E, sp vs H Q E → vs.length = ps.length
  go : ∀ (B : Around) (out : List Env) (s : Shared) (H : Hp) (args : Args) (us : List Value) (vs : List V) (Q : VK) (E : XK), Room k B → B.guards = some [] → Env0 Pr w K mg base B out s H → BindsTo s fd args (ps.zip us) → Vals vs us → sp vs H Q E →
    codeAny (model Pr w) B (.call (.ref f) args) (CR CX out Pr w H s Q E) s
section
variable {X : Cx} {CX : CXT} {k : Nat} {f C : Addr} {fd : FuncData} {ps : List Str} {sp : Sp} {dvs : List V} {ds : List Value} {E : XK} {x m : Str} {p pos apos : Pos} {e o : Expr} {es : List Expr} {ta : TE} {t : TA}
theorem GFn.enter {pins : List (Addr × Obj)} {σ : L2.St} {H : Hp} {s : Shared} {Q : VK} {us vv : List Value} {kw : List (Str × Value)} {vs : List V} (F : GFn X.prog X.w X.K X.mg X.base CX k f fd ps sp) (hr : Room k X.A) (hg : X.A.guards = some []) (hx : Passes CX X E)
    (J : Inv X pins σ H s) (hb : BindsTo s fd ⟨us, kw⟩ (ps.zip vv)) (rv : Vals vs vv) (hs : sp vs H Q E) : wpAny (model X.prog X.w) X.A (call (.ref f) us kw) (EP X pins σ Q) X.xe s := by
  refine wpAny_call (codeAny_mono (F.go X.A X.stack s H ⟨us, kw⟩ vv vs Q E hr hg J.env0 hb rv hs) fun res sh hres => ?_)
  match res, hres with
  | .error ee, hres => exact hx pins σ H s ee sh J hres
  | .ok (.ret u), hres => exact J.after hres
  | .ok .next, hres => exact hres.elim
  | .ok .brk, hres => exact hres.elim
  | .ok .cont, hres => exact hres.elim
theorem g_call (F : GFn X.prog X.w X.K X.mg X.base CX k f fd ps sp) (hr : Room k X.A) (hgd : X.A.guards = some []) (hg : Gl X x) (hm : X.mg x = some (.ref f)) (hk : PySem.W.keepIn X.K (.ref f) = true) (hb : Binds X.K fd ps ds) (hd : Vals dvs ds) (hx : Passes CX X E)
    (ha : PA X (e :: es) t) (hdb : (x == ("__debug__" : Str)) = false) (he : starEach (e :: es) X.env = (false, eval e X.env) :: starEach es X.env) (hpl : (backTo pos (starEach es X.env)).any (·.1) = false) :
    PE X (.Call (.Name x p) (e :: es) [] pos) (tCall sp dvs E t) := by
  refine ⟨fun pins s σ H Q J hq => ?_⟩
  refine wpAny_Call_Name_kw (ld_glob J hg hm ?_ hdb)
  refine PySem.W.callWith_K (h₀ := X.base) J.ok.mod.kin hk (thn (ha.run pos pins s σ H _ J hq) fun us sh ⟨vs, H1, J1, rel, q1⟩ => ⟨J1.kIn, ?_⟩) he hpl
  have rel2 : Vals (vs ++ dvs) (us ++ ds) := rel.append hd
  exact F.enter hr hgd hx J1 (hb sh us J1.kIn (rel2.length.symm.trans (F.len _ _ _ _ q1))) rel2 q1
theorem g_call0 (F : GFn X.prog X.w X.K X.mg X.base CX k f fd ps sp) (hr : Room k X.A) (hgd : X.A.guards = some []) (hg : Gl X x) (hm : X.mg x = some (.ref f)) (hk : PySem.W.keepIn X.K (.ref f) = true) (hb : Binds X.K fd ps ds) (hd : Vals dvs ds) (hx : Passes CX X E)
    (hdb : (x == ("__debug__" : Str)) = false) : PE X (.Call (.Name x p) [] [] pos) (tCall sp dvs E tNil) := by
  refine ⟨fun pins s σ H Q J hq => wpAny_Call_Name_kw (ld_glob J hg hm ?_ hdb)⟩
  have hq' : sp ([] ++ dvs) H Q E := hq
  exact PySem.W.callWith_K0 J.kIn hk (F.enter hr hgd hx J (hb s [] J.kIn (hd.length.symm.trans (F.len _ _ _ _ hq'))) (vs := [] ++ dvs) hd hq')
theorem g_callK {ks : List Str} {kws : List Keyword} {tk : TA} {g : List Value → List Value → List Value} {gV : List V → List V → List V} (F : GFn X.prog X.w X.K X.mg X.base CX k f fd ps sp) (hr : Room k X.A) (hgd : X.A.guards = some []) (hg : Gl X x) (hm : X.mg x = some (.ref f)) (hk : PySem.W.keepIn X.K (.ref f) = true) (hb : KBinds X.K fd ps ks g gV) (hx : Passes CX X E)
    (ha : PA X (e :: es) t) (hkw : PK X kws tk) (hall : (backToKw pos (keywordEach kws X.env)).all (·.1.isSome) = true) (hks : (backToKw pos (keywordEach kws X.env)).filterMap (·.1) = ks)
    (hdb : (x == ("__debug__" : Str)) = false) (he : starEach (e :: es) X.env = (false, eval e X.env) :: starEach es X.env)
    (hpl : ((backTo pos (starEach (e :: es) X.env)).any (·.1) || (backToKw pos (keywordEach kws X.env)).any (·.1.isNone)) = false) :
    PE X (.Call (.Name x p) (e :: es) kws pos) (tCallK sp gV E t tk) := by
  refine ⟨fun pins s σ H Q J hq => wpAny_Call_Name_kw (ld_glob J hg hm ?_ hdb)⟩
  refine PySem.W.callWith_KW (h₀ := X.base) J.ok.mod.kin hk hall (thn (ha.run pos pins s σ H _ J hq) fun us sh ⟨vs, H1, J1, rel, q1⟩ => thn (hkw.run pos pins sh σ H1 _ J1 q1) fun ws s2 ⟨zs, H2, J2, relz, q2⟩ => ⟨J2.kIn, ?_⟩) hpl he
  rw [hks]
  have rel2 := hb.rel rel relz
  exact F.enter hr hgd hx J2 (hb.to s2 us ws J2.kIn (rel2.length.symm.trans (F.len _ _ _ _ q2))) rel2 q2
end
section
variable {Pr : Program} {w : World} {K : PySem.W.Frag} {mg : Str → Option Value} {base : Heap} {x qual : Str} {params : Arguments} {body : List Stmt} {scope : Scope} {dvs : List V} {kws : List (Str × V)} {f : Addr} {fd : FuncData}
theorem deeper1 {k : Nat} {A : Around} (r : Room (k + 1) A) (env : Env) : Room k (A.deeper env).in1 :=
  ⟨r.hd, by have := r.dp; show A.depth + 1 + 3 * k + 5 < _; omega, by have := r.un; show A.units + 3 + 1 + 16 * k + 200 < _; omega⟩
/-- a def keeps its contract, by its body -/
theorem GFn.of {CX : CXT} {N ps : List Str} {k : Nat} {sp : Sp} (D : FunD K x qual params body scope dvs kws f fd) (S : FnScope N ps scope) (hlen : ∀ vs H Q E, sp vs H Q E → vs.length = ps.length)
    (hbody : ∀ (cdv : Value) (B : Around) (out : List Env) (s : Shared) (H : Hp) (vs : List V) (Q : VK) (E : XK), Room k (B.deeper (envOfC qual scope s.heap.objs.size f cdv)) → Room k (B.deeper (envOfC qual scope s.heap.objs.size f cdv)).in1 → (B.deeper (envOfC qual scope s.heap.objs.size f cdv)).guards = some [] → sp vs H Q E →
      ∃ t, PSs (cxOf CX Pr w K mg base N qual scope f cdv B out s H E) body t ∧ t { nx := fun _ H' => Q .non H', rt := Q } (L2.start N vs) H) : GFn Pr w K mg base CX (k + 1) f fd ps sp := by
  obtain ⟨oc, od, dV, kV, doc, pm, an, cdv, ct, osl, rfl, lk, hcd, _, _⟩ := D.ex
  refine ⟨hlen, fun B out s H args us vs Q E hroom hgd he hbind rel hs => ?_⟩
  have kin : K.In s.heap := he.mod.kin.keeps fun b o hb => (he.bs b o hb).1
  have nolim : s.heap.NoLimit := he.mod.nolimit.keeps fun b o hb => (he.bs b o hb).1
  have kinds : ∀ y ∈ ps.zip us, scope.names.lookup y.1 = some .local ∨ (scope.names.lookup y.1 = some .cell ∧ ((cellsFrom (s.heap.objs.size + 1) scope.names []).lookup y.1).isSome = true) := fun ⟨nm, v⟩ hy =>
    (S.par nm (List.of_mem_zip hy).1).imp id fun z => ⟨z, PySem.W.cellsFrom_some _ _ _ (.inl z)⟩
  refine codeAny_call_function hroom.depth (kin _ _ lk) rfl S.co S.gen rfl (PySem.W.codeRec_of kin hcd) (hbind _ _ _ _ (wpAny_newFunctionEnv_cells S.kind kinds fun env henv s1 nx => ?_))
  subst henv
  obtain ⟨t, ht, hq⟩ := hbody cdv B out s H vs Q E (hroom.deeper _) (deeper1 hroom _) hgd hs
  have J : Inv (cxOf CX Pr w K mg base N qual scope f cdv B out s H E) [] (L2.start N vs) H s1 := inv_start S hroom.hd he (hlen _ _ _ _ hs) rel nx
  refine ⟨nolim.keeps nx.toInCall.keep, codeAny_func (wpAny_mono (ht.run [] s1 (L2.start N vs) H _ J hq) (fun fl sh hfl => ?_) fun _ _ z => z)⟩
  match fl, hfl with
  | .ret u, ⟨v, σ', H', J', rv, q⟩ => exact ⟨v, H', J'.os, J'.bare, J'.base, J'.hok, rv, q⟩
  | .next, ⟨σ', H', J', q⟩ => exact ⟨.non, H', J'.os, J'.bare, J'.base, J'.hok, rfl, q⟩
  | .brk, ⟨_, _, _, q⟩ => exact q.elim
  | .cont, ⟨_, _, _, q⟩ => exact q.elim
end
end MP
namespace MP
open PySem PySem.Spec PyProof.Rows L2
section
variable {Pr : Program} {w : World} {K : PySem.W.Frag} {mg mb : Str → Option Value} {CX : CXT} {k : Nat} {fa sa : Addr} {fd : FuncData} {x : Str} {sp : Sp} {sh : Shared} {vs : List Value} {ns : List Int}
/-- the law's call, the script tracked or part of the module: H tells which -/
theorem law_from (KX : K.In sh.heap) (hns : sh.heap.Ns mainGlobals mg) (hbi : sh.heap.Ns builtinsNs mb) (hboot : ∀ x : Str, x ≠ "__name__" → mb x = bootBuiltins x) (hlim : sh.heap.NoLimit) (hgen : sh.gens = #[])
    (hsc : sh.heap.get? sa = some { cls := .type "list", data := .seq vs.toArray }) (hr : Room k callerA)
    (F : ∀ base : Heap, K.In base → base.Ns mainGlobals mg → GFn Pr w K mg base CX k fa fd [x] sp) (hbind : ∀ (s : Shared) (u : Value), BindsTo s fd ⟨[u], []⟩ [(x, u)])
    (hCX : ∀ H e s', CX [] H sh (fun _ _ _ => False) e s' → False)
    {H : Hp} (only : Only H) (hsp : sp [.ref sa] H (fun v _ => v = .bl true) fun _ _ _ => False) (hok : HOk Pr w H sh.heap) (hone : ∀ b, H b ≠ none → b = sa) (hK : H sa ≠ none → K.lookup sa = none) :
    codeAny (model Pr w) callerA (.call (.ref fa) ⟨[.ref sa], []⟩) (fun r s' => r = .ok (.ret (.bool true)) ∧ OldK sh.heap s'.heap ∧ s'.os = sh.os ∧ AllBare s'.gens) sh := by
  have plainAt : ∀ {b : Addr} {ob : Obj}, sh.heap.get? b = some ob → H b = none → (hidT sh.heap H).get? b = some ob := fun z1 z2 => hidT_get z1 z2
  have some_eq : ∀ {b : Addr} {u : HO}, H b = some u → b = sa := fun {b u} z => hone b (by rw [z]; exact Option.some_ne_none u)
  have dictAt : ∀ {b : Addr} {ob : Obj} {ents : Array DictEntry} {ver : Nat}, sh.heap.get? b = some ob → ob.data = .dict ents ver → H b = none := fun {b ob ents ver} z1 z2 => by
    match hh : H b with
    | none => rfl
    | some u =>
      have zb := some_eq hh
      subst zb
      rw [hsc] at z1
      cases z1
      exact absurd (show Data.seq vs.toArray _ = Data.dict ents ver from z2) (fun z => by cases z)
  have nsAt : ∀ {b : Addr} {mm : Str → Option Value}, sh.heap.Ns b mm → (hidT sh.heap H).Ns b mm := fun {b mm} ⟨ob, ents, ver, z1, z2, z3⟩ => ⟨ob, ents, ver, plainAt z1 (dictAt z1 z2), z2, z3⟩
  have kinB : K.In (hidT sh.heap H) := fun b ob z => plainAt (KX b ob z) (by
    match hh : H b with
    | none => rfl
    | some u =>
      have zb := some_eq hh
      subst zb
      have zk := hK (by rw [hh]; exact Option.some_ne_none u)
      rw [zk] at z
      cases z)
  have modB : Mod K mg (hidT sh.heap H) := ⟨kinB, nsAt hns, ⟨mb, nsAt hbi, hboot⟩, hlim.elim fun mc z => ⟨mc, nsAt z.1, z.2⟩⟩
  have envB : Env0 Pr w K mg (hidT sh.heap H) callerA [] sh H := ⟨rfl, modB, fun b ob z => of_hidT z, Nat.le_of_eq (hidT_size _ _), trivial, fun b z => (List.not_mem_nil (show b ∈ ([] : List Addr) from z)).elim, hok, .of_eq hgen⟩
  refine codeAny_mono ((F _ kinB (nsAt hns)).go callerA [] sh H ⟨[.ref sa], []⟩ [.ref sa] [.ref sa] _ _ hr rfl envB (hbind sh (.ref sa)) (.cons rfl .nil) hsp) fun res s' hres => ?_
  match res, hres with
  | .error ee, hres => exact (hCX H ee s' hres).elim
  | .ok .next, hres => exact hres.elim
  | .ok .brk, hres => exact hres.elim
  | .ok .cont, hres => exact hres.elim
  | .ok (.ret u), ⟨v, H', hos, hbare, hun, hok', rv, hv⟩ =>
    have hv' : v = .bl true := hv
    subst hv'
    have hu : u = Value.bool true := rv
    subst hu
    refine ⟨rfl, OldK.of_keep fun b ob z => ?_, hos, hbare⟩
    rcases only b with hn | ⟨ob2, xs, hz⟩
    · exact hun.keep b ob z hn (fun q => by cases (show b ∈ ([] : List Addr) from q)) (by simp)
    · have z1 := (hok b _ hz).1
      have z2 := (hok' b _ (hun.frzs b ob2 _ hz)).1
      rw [z] at z1
      cases z1
      exact z2
/-- a law whose def stands in no guard -/
theorem walk_g {l : PySem.W.OpenLaw} {n : Nat} {q : Program} {loose : List Str} {XP : (Str → Option Value) → Heap → Prop} {YP : World → Heap → Prop} {d : DefRec}
    (hn : l.most = some n) (hn2 : n ≤ sizeLine) (hdf : d.params.defaults = []) (hr : Room k callerA)
    (F : ∀ (w : World) (mg : Str → Option Value) (fa : Addr) (h : Heap), YP w h → h.Ns mainGlobals mg → mg d.name = some (.ref fa) →
      ∃ (K : PySem.W.Frag) (fd : FuncData) (sp : Sp), K.In h ∧ (∀ (s : Shared) (u : Value), BindsTo s fd ⟨[u], []⟩ [(x, u)]) ∧
        (∀ (H : Hp) (a : Addr) (ns : List Int), ns.length ≤ n → SqL K H a (ns.map V.int) → sp [.ref a] H (fun v _ => v = .bl true) fun _ _ _ => False) ∧
        ∀ base : Heap, K.In base → base.Ns mainGlobals mg → GFn l.prog w K mg base CX k fa fd [x] sp)
    (hCX : ∀ (H : Hp) (s : Shared) (e : Value) (s' : Shared), CX [] H s (fun _ _ _ => False) e s' → False) :
    PySem.W.WalkO q loose XP YP l.row.toRowW d [] (fun f vs => PySem.call f vs) := by
  refine Att.attach_call hn hdf fun w s0 sh mg mb fa o pm cd doc sa vs ns Gr Y ho hd hcd hmg hobj hints hlen hgen => ?_
  obtain ⟨K, fd, sp, KX, hb, hsp, hF⟩ := F w mg fa _ Y Gr.T.g hmg
  have go := fun {H : Hp} => law_from (Pr := l.prog) (w := w) (H := H) KX Gr.T.g Gr.T.b Gr.T.builtins Gr.T.nolimit hgen hobj hr hF hb fun H e s' => hCX H sh e s'
  have rv := vals_ints hints
  have hsz : ns.length ≤ sizeLine := Nat.le_trans hlen hn2
  match hk : K.lookup sa with
  | some ob =>
    have z := KX sa ob hk
    rw [hobj] at z
    cases z
    exact go (H := fun _ => none) (fun _ => .inl rfl) (hsp _ sa ns hlen (.inr ⟨_, vs.toArray, _, hk, rfl, rfl, rfl, by rw [List.size_toArray, hints.length]; exact hsz, by simpa using rv⟩)) (fun b u q => by cases (show (none : Option HO) = some u from q)) (fun b q => absurd rfl q) fun q => absurd rfl q
  | none =>
    have at_ : ∀ b, b = sa ∨ b ≠ sa := fun b => Classical.em _
    refine go (H := fun b => if b = sa then some (.frz { cls := .type "list", data := .seq vs.toArray } (.lst (ns.map V.int))) else none) (fun b => ?_) (hsp _ sa ns hlen (.inl (.inr ⟨{ cls := .type "list", data := .seq vs.toArray }, if_pos rfl⟩))) (fun b u q => ?_) (fun b q => ?_) fun _ => hk
    · exact (at_ b).elim (fun z => .inr ⟨_, _, if_pos z⟩) fun z => .inl (if_neg z)
    · rcases at_ b with z | z
      · have q' := (if_pos z).symm.trans q
        cases q'
        subst z
        exact ⟨hobj, by rw [List.length_map]; exact hsz, vs, _, rv, hobj⟩
      · have q' := (if_neg z).symm.trans q
        cases q'
    · exact (at_ b).elim id fun z => absurd (if_neg z) q
end
end MP

/-! rules at the layer's own level: methods, new instances, chains of four, sums over tuples and ranges -/
namespace MP
open PySem PySem.Spec PyProof.Rows L2
theorem GFn.mono {Pr : Program} {w : World} {K : PySem.W.Frag} {mg : Str → Option Value} {base : Heap} {CX : CXT} {j k : Nat} {f : Addr} {fd : FuncData} {ps : List Str} {sp : Sp} (F : GFn Pr w K mg base CX j f fd ps sp) (h : j ≤ k) : GFn Pr w K mg base CX k f fd ps sp :=
  ⟨F.len, fun B out s H args us vs Q E hr => F.go B out s H args us vs Q E (hr.mono h)⟩
theorem guards_make {A : Around} {C : Addr} {us : List Value} {kw : List (Str × Value)} : (A.under (.builtin "type.__call__" ⟨.ref C :: us, kw⟩)).guards = A.guards := by
  first | rfl | simp [Around.under, Code.weight, Code.isCreation, Code.isGuard, Code.isCaller, Code.frames, Code.isFrame, guardIds]
/-- whom an attribute is asked of: no super() -/
def notSuper : Expr → Bool
  | .Call (.Name id _) [] [] _ => id != ("super" : Str)
  | _ => true
theorem base_ok {o : Expr} {attr : Str} {env : Env} {whole : Sem Value} (h : notSuper o = true) : attributeBase o attr env whole = whole := by
  unfold attributeBase
  split
  · rename_i id p p2
    have h1 : (id != ("super" : Str)) = true := h
    rw [h1]
    simp only [Bool.true_or, if_true, bind_pure]
  · rfl
def noStar : Expr → Bool
  | .Starred _ _ => false
  | _ => true
theorem nostar_ok {e : Expr} {es : List Expr} {env : Env} (h : noStar e = true) : starEach (e :: es) env = (false, eval e env) :: starEach es env := by
  cases e <;> first | rfl | cases h
theorem nostar_any {pos : Pos} {env : Env} : ∀ {es : List Expr}, es.all noStar = true → (backTo pos (starEach es env)).any (·.1) = false
  | [], _ => rfl
  | e :: es, h => by
    simp only [List.all_cons, Bool.and_eq_true] at h
    rw [nostar_ok h.1]
    show (false || (backTo pos (starEach es env)).any (·.1)) = false
    rw [nostar_any h.2]; rfl
theorem all_not_of_any {α : Type} {l : List (Bool × α)} (h : l.any (·.1) = false) : l.all (!·.1) = true := by
  induction l with
  | nil => rfl
  | cons x xs ih =>
    simp only [List.any_cons, Bool.or_eq_false_iff] at h
    simp only [List.all_cons, Bool.and_eq_true, Bool.not_eq_true']
    exact ⟨h.1, ih h.2⟩
theorem meth_tree {o : Expr} {m : Str} {apos pos : Pos} {args : List Expr} {env : Env} (hb : notSuper o = true) (hs : args.all noStar = true) (hl : args.length < 30) (hp : (apos.endLine == pos.line) = true) :
    eval (.Call (.Attribute o m apos) args [] pos) env = (do
      let ov ← eval o env
      standAt apos.atName
      let (f, first) ← holding [ov] (getMethod ov m (do return (← importBound o env).getD true))
      callWith pos f first (backTo pos (starEach args env)) (backToKw pos (keywordEach [] env))) := by
  refine mcall_of (base_ok hb) fun ov => ?_
  have hf : methodCallForm (args.length + ([] : List Keyword).length) (backTo pos (starEach args env)) (backToKw pos (keywordEach [] env)) = true := by
    unfold methodCallForm
    rw [all_not_of_any (nostar_any hs)]
    simp only [List.length_nil, Nat.add_zero, Bool.true_and]
    have : (backToKw pos (keywordEach [] env)).isEmpty = true := rfl
    rw [this]
    simp only [if_true, Nat.add_zero, Bool.and_eq_true, decide_eq_true_eq]
    exact ⟨rfl, hl⟩
  have hq : ∀ few, methodCallPos few o env apos pos = pure pos := fun few => by
    unfold methodCallPos
    rw [hp, Bool.or_true]
    rfl
  unfold methodCall
  rw [hf]
  simp only [hq]
  rfl
/-- o.m(..): the receiver's class tells the def -/
def tMethG (X : Cx) (CX : CXT) (m : Str) (ta : TE) (t : TA) : TE := fun σ H Q => ta σ H fun x H1 => ∃ (a C dx : Addr) (fs : List (Str × V)) (k : Nat) (f : Addr) (fd : FuncData) (ps : List Str) (sp : Sp) (E : XK),
  x = .ref a ∧ H1 a = some (.ins C dx fs) ∧ fs.lookup m = none ∧ Cls X.K C ∧ Meth X.K C m f ∧ GFn X.prog X.w X.K X.mg X.base CX k f fd ps sp ∧ Room k X.A ∧ Binds X.K fd ps [] ∧ Passes CX X E ∧ t σ H1 fun vs H2 => sp (x :: vs) H2 Q E
section
variable {X : Cx} {CX : CXT} {k : Nat} {f C : Addr} {fd : FuncData} {ps : List Str} {sp : Sp} {dvs : List V} {ds : List Value} {E : XK} {x m : Str} {p pos apos : Pos} {e o : Expr} {es : List Expr} {ta : TE} {t : TA}
theorem g_meth_fin {pins : List (Addr × Obj)} {σ : L2.St} {Q : VK} {a : Addr} (hgd : X.A.guards = some []) (F : GFn X.prog X.w X.K X.mg X.base CX k f fd ps sp) (hr : Room k X.A) (hbd : Binds X.K fd ps []) (hx : Passes CX X E) (us : List Value) (s2 : Shared) (vs : List V) (H2 : Hp) (I2 : Inv X pins σ H2 s2) (r : Vals vs us)
    (q2 : sp (.ref a :: vs) H2 Q E) : wpAny (model X.prog X.w) X.A (call (.ref f) (.ref a :: us)) (EP X pins σ Q) X.xe s2 := by
  have hlen : (Value.ref a :: us).length = ps.length := by
    have := F.len _ _ _ _ q2
    rw [← this, List.length_cons, List.length_cons, r.length]
  have hbn := hbd s2 (.ref a :: us) I2.kIn (by rw [List.append_nil]; exact hlen)
  rw [List.append_nil] at hbn
  have r2 : Vals (V.ref a :: vs) (Value.ref a :: us) := .cons rfl r
  exact F.enter hr hgd hx I2 hbn r2 q2
theorem g_meth (hgd : X.A.guards = some []) (he : PE X o ta) (ha : PA X (e :: es) t) (hb : notSuper o = true) (hs : (e :: es).all noStar = true) (hl : (e :: es).length < 30) (hp : (apos.endLine == pos.line) = true) :
    PE X (.Call (.Attribute o m apos) (e :: es) [] pos) (tMethG X CX m ta t) := by
  refine ⟨fun pins s σ H Q I h => ?_⟩
  refine PySem.W.methodCall_KW (thn (he.run pins s σ H _ I h) fun u s1 ⟨x, H1, I1, rx, a, C, dx, fs, k, f, fd, ps, sp, E, ex, ea, l, c, hm, F, hr, hbd, hx, q⟩ => ?_) (meth_tree hb hs hl hp)
  subst ex
  obtain rfl : u = Value.ref a := rx
  refine getmeth_ok I1 ea c hm l ?_
  simp only [List.all_cons, Bool.and_eq_true] at hs
  exact PySem.W.callWith_K (first := [.ref a]) (h₀ := X.base) I.ok.mod.kin hm.kp (thn (ha.run pos pins s1 σ H1 _ I1 q) fun us s2 ⟨vs, H2, I2, r, q2⟩ => ⟨I2.kIn, g_meth_fin hgd F hr hbd hx us s2 vs H2 I2 r q2⟩) (nostar_ok hs.1) (nostar_any hs.2)
theorem g_meth0 (hgd : X.A.guards = some []) (he : PE X o ta) (hb : notSuper o = true) (hp : (apos.endLine == pos.line) = true) :
    PE X (.Call (.Attribute o m apos) [] [] pos) (tMethG X CX m ta tNil) := by
  refine ⟨fun pins s σ H Q I h => ?_⟩
  refine PySem.W.methodCall_KW (thn (he.run pins s σ H _ I h) fun u s1 ⟨x, H1, I1, rx, a, C, dx, fs, k, f, fd, ps, sp, E, ex, ea, l, c, hm, F, hr, hbd, hx, q⟩ => ?_) (meth_tree hb rfl (by decide) hp)
  subst ex
  obtain rfl : u = Value.ref a := rx
  refine getmeth_ok I1 ea c hm l ?_
  exact PySem.W.callWith_K0 (first := [.ref a]) I1.kIn hm.kp (g_meth_fin hgd F hr hbd hx [] s1 [] H1 I1 .nil q)
/-! a new instance -/
theorem g_run_make {pins : List (Addr × Obj)} {σ : L2.St} {H : Hp} {s : Shared} {Q : VK} {us : List Value} {vs : List V} (M : Mk X.K C f) (F : GFn X.prog X.w X.K X.mg X.base CX k f fd ps sp) (hr : Room (k + 1) X.A) (hgd : X.A.guards = some []) (hb : Binds X.K fd ps [])
    (hx : Passes CX X E) (I : Inv X pins σ H s) (r : Vals vs us)
    (h : ∀ x dx, H x = none → H dx = none → dx ≠ x → sp (.ref x :: vs) (upd (upd H dx (.own x)) x (.ins C dx [])) (fun v H2 => v = .non ∧ Q (.ref x) H2) E) :
    wpAny (model X.prog X.w) X.A (call (.ref C) us) (EP X pins σ Q) X.xe s := by
  have hq := h (s.heap.objs.size + 1) s.heap.objs.size (I.hok.fresh (Nat.le_succ _)) (I.hok.fresh (Nat.le_refl _)) (Nat.ne_of_lt (Nat.lt_succ_self _))
  have I2 := Inv.made (C := C) I
  have r2 : Vals (V.ref (s.heap.objs.size + 1) :: vs) (Value.ref (s.heap.objs.size + 1) :: us) := .cons rfl r
  have hl : (Value.ref (s.heap.objs.size + 1) :: us).length = ps.length := by
    have e := r2.length
    rw [F.len _ _ _ _ hq] at e
    exact e.symm
  have hbn := hb { s with heap := (s.heap.push PySem.W.emptyDict).push (PySem.W.instObj C s.heap.objs.size) } (Value.ref (s.heap.objs.size + 1) :: us) I2.kIn (by rw [List.append_nil]; exact hl)
  rw [List.append_nil] at hbn
  refine wpAny_call (make_map (f := f) I.kIn M.makes M.init (beq_iff_eq.mp M.fn) (codeAny_mono (F.go _ X.stack _ _ ⟨Value.ref (s.heap.objs.size + 1) :: us, []⟩ (Value.ref (s.heap.objs.size + 1) :: us) _ _ E (hr.make C us [])
    (by rw [guards_make]; exact hgd) (I2.env0.make C us []) hbn r2 hq) fun r s' hq' => ?_))
  cases r with
  | error e => exact hx pins σ _ _ e s' I2 hq'
  | ok fl =>
    cases fl with
    | ret u =>
      obtain ⟨v, H', I3, rv, ev, q3⟩ := I2.after hq'
      subst ev
      exact ⟨rv, ⟨V.ref (s.heap.objs.size + 1), H', I3, rfl, q3⟩⟩
    | next => exact False.elim hq'
    | brk => exact False.elim hq'
    | cont => exact False.elim hq'
theorem g_make (M : Mk X.K C f) (F : GFn X.prog X.w X.K X.mg X.base CX k f fd ps sp) (hr : Room (k + 1) X.A) (hgd : X.A.guards = some []) (hg : Gl X x) (hm : X.mg x = some (.ref C)) (hb : Binds X.K fd ps []) (hx : Passes CX X E)
    (ha : PA X (e :: es) t) (hdb : (x == ("__debug__" : Str)) = false) (hs : (e :: es).all noStar = true) :
    PE X (.Call (.Name x p) (e :: es) [] pos) (tMake C sp [] E t) := by
  refine ⟨fun pins s σ H Q I h => ?_⟩
  refine wpAny_Call_Name_kw (ld_glob I hg hm ?_ hdb)
  simp only [List.all_cons, Bool.and_eq_true] at hs
  refine PySem.W.callWith_K (h₀ := X.base) I.ok.mod.kin M.kp (thn (ha.run pos pins s σ H _ I h) fun us s1 ⟨vs, H1, I1, r, q⟩ => ⟨I1.kIn, ?_⟩) (nostar_ok hs.1) (nostar_any hs.2)
  exact g_run_make M F hr hgd hb hx I1 r (fun x dx h1 h2 h3 => by have := q x dx h1 h2 h3; rwa [List.append_nil] at this)
end
/-! a < b < c < d -/
def tChain3 (r r' r'' : R2) (ta tb tc td : TE) : TE := fun σ H Q => ta σ H fun x H1 => tb σ H1 fun y H2 => r x y H2 fun z H3 => ∃ k, z = .bl k ∧
  (if k = true then tc σ H3 fun w' H4 => r' y w' H4 fun z' H5 => ∃ k', z' = .bl k' ∧ (if k' = true then td σ H5 fun w'' H6 => r'' w' w'' H6 Q else Q (.bl false) H5) else Q (.bl false) H3)
section
variable {X : Cx} {a b c d : Expr} {ta tb tc td : TE} {pos : Pos}
theorem pe_chain3 {op op' op'' : CmpOp} {r r' r'' : R2} (ho : OpR X (compareOp op) r) (ho' : OpR X (compareOp op') r') (ho'' : OpR X (compareOp op'') r'') (ha : PE X a ta) (hb : PE X b tb) (hc : PE X c tc) (hd : PE X d td)
    (hm : lastMarks [op, op', op''] [b, c, d] = false) : PE X (.Compare a [op, op', op''] [b, c, d] pos) (tChain3 r r' r'' ta tb tc td) := by
  refine ⟨fun pins s σ H Q I h => ?_⟩
  refine Compare_chain (thn (ha.run pins s σ H _ I h) fun v s1 ⟨x, H1, I1, r1, q1⟩ => chain_link (thn (hb.run pins s1 σ H1 _ I1 q1) fun u s2 ⟨y, H2, I2, r2, q2⟩ =>
    thn (ho pins s2 σ H2 x y v u _ I2 r1 r2 q2) fun d1 s3 ⟨z, H3, I3, r3, k, e, q3⟩ => ?_)) hm
  subst e
  cases r3
  refine wpAny_truthy_bool ?_
  cases k with
  | false => exact ite_ff ⟨.bl false, H3, I3, rfl, q3⟩
  | true =>
    refine ite_tt (chain_link (thn (hc.run pins s3 σ H3 _ I3 q3) fun w' s4 ⟨z', H4, I4, r4, q4⟩ => thn (ho' pins s4 σ H4 y z' u w' _ I4 r2 r4 q4) fun d2 s5 ⟨z2, H5, I5, r5, k2, e2, q5⟩ => ?_))
    subst e2
    cases r5
    refine wpAny_truthy_bool ?_
    cases k2 with
    | false => exact ite_ff ⟨.bl false, H5, I5, rfl, q5⟩
    | true => exact ite_tt (chain_last (thn (hd.run pins s5 σ H5 _ I5 q5) fun w2 s6 ⟨z3, H6, I6, r6, q6⟩ => ho'' pins s6 σ H6 z' z3 w' w2 Q I6 r4 r6 q6))
theorem pt_chain3 {op op' op'' : CmpOp} {r r' r'' : R2} (ho : OpR X (compareOp op) r) (ho' : OpR X (compareOp op') r') (ho'' : OpR X (compareOp op'') r'') (ha : PE X a ta) (hb : PE X b tb) (hc : PE X c tc) (hd : PE X d td)
    (hm : lastMarks [op, op', op''] [b, c, d] = false) : PT X (.Compare a [op, op', op''] [b, c, d] pos) (tTest (tChain3 r r' r'' ta tb tc td)) := by
  refine ⟨fun pins s σ H Q I h => ?_⟩
  refine isTrue_chain (thn (ha.run pins s σ H _ I h) fun v s1 ⟨x, H1, I1, r1, q1⟩ => test_link (thn (hb.run pins s1 σ H1 _ I1 q1) fun u s2 ⟨y, H2, I2, r2, q2⟩ =>
    thn (ho pins s2 σ H2 x y v u _ I2 r1 r2 q2) fun d1 s3 ⟨z, H3, I3, r3, k, e, q3⟩ => ?_)) hm
  subst e
  cases r3
  refine wpAny_truthy_bool ?_
  cases k with
  | false =>
    obtain ⟨k', e', q'⟩ := q3
    cases e'
    exact ite_ff ⟨H3, I3, q'⟩
  | true =>
    refine ite_tt (test_link (thn (hc.run pins s3 σ H3 _ I3 q3) fun w' s4 ⟨z', H4, I4, r4, q4⟩ => thn (ho' pins s4 σ H4 y z' u w' _ I4 r2 r4 q4) fun d2 s5 ⟨z2, H5, I5, r5, k2, e2, q5⟩ => ?_))
    subst e2
    cases r5
    refine wpAny_truthy_bool ?_
    cases k2 with
    | false =>
      obtain ⟨k', e', q'⟩ := q5
      cases e'
      exact ite_ff ⟨H5, I5, q'⟩
    | true =>
      refine ite_tt (test_last (thn (hd.run pins s5 σ H5 _ I5 q5) fun w2 s6 ⟨z3, H6, I6, r6, q6⟩ => thn (ho'' pins s6 σ H6 z' z3 w' w2 _ I6 r4 r6 q6) fun c s7 ⟨z4, H7, I7, r7, k7, e7, q7⟩ => ?_))
      subst e7
      cases r7
      exact wpAny_truthy_bool ⟨H7, I7, q7⟩
end
end MP

/-! sum of a tuple and of a range -/
namespace MP
open PySem PySem.Spec PyProof.Rows L2
def rsum (a : Int) : Nat → Int
  | 0 => 0
  | n + 1 => rsum a n + (a + (n : Int))
theorem rsum_pre (a : Int) : ∀ n, preSum (fun i : Nat => a + (i : Int) * 1) n = rsum a n
  | 0 => rfl
  | n + 1 => by
    show preSum (fun i : Nat => a + (i : Int) * 1) n + (a + (n : Int) * 1) = rsum a n + (a + (n : Int))
    rw [rsum_pre a n, Int.mul_one]
section
variable {prog : Program} {w : World} {A : Around} {E : Value → Shared → Prop} {s : Shared}
theorem sum_range {Q : Value → Shared → Prop} {r : Addr} {a b : Int} {t u v : Tok} {n : Nat} (hh : A.handled = none) (hr : IsRange s.heap r a b 1 t u v) (hsmall : Builtin.Range.small a b 1 = true) (hn : Builtin.Range.rangeSize a b 1 = n)
    (h : ∀ h' tk t', (∀ b o, s.heap.get? b = some o → h'.get? b = some o) → Q (.int (rsum a n) t') { s with heap := h', toks := tk }) :
    wpAny (model prog w) A (call (.builtin "sum") [.ref r]) Q E s := by
  have W := (Walks.range (prog := prog) (w := w) (A := A.in1) hh s.heap.objs.size a 1 n).toS
  refine call_sum_walkAnyS (wpAny_pyIter_range hr hsmall ?_)
  have hit₁ : IsRangeIter (s.heap.push { cls := .type "range_iterator", data := .fields #[rawInt a, rawInt (Builtin.Range.rangeSize a b 1), rawInt 1] }) s.heap.objs.size (a + ((0 : Nat) : Int) * 1) ((n : Int) - ((0 : Nat) : Int)) 1 := by
    show IsRangeIter _ _ _ _ _; rw [hn]; simpa using Heap.get?_push_size _ rfl
  refine ⟨s.heap.objs.size, _, _, _, _, _, _, fun i : Nat => a + (i : Int) * 1, rfl, W, hit₁, fun b hb => ?_, fun i v hP => hP, fun s' t' hm => ?_⟩
  · obtain rfl := List.mem_singleton.mp hb
    exact Heap.lt_size (Heap.get?_push_size _ rfl)
  · rw [rsum_pre]
    obtain ⟨h', g', d', tk', os'⟩ := s'
    have e1 : g' = s.gens := hm.gens
    have e2 : d' = s.drawn := hm.drawn
    have e3 : os' = s.os := hm.os
    subst e1 e2 e3
    exact h h' tk' t' fun b o e => hm.heap b o (fun hb => absurd (Heap.lt_size e) ((List.mem_singleton.mp hb) ▸ Nat.lt_irrefl _)) (Heap.get?_push_of_some _ e)
end
section
variable {X : Cx} {e : Expr} {te : L2.St → Hp → (Int → Int → Hp → Prop) → Prop}
/-- sum(range(..)) -/
def tSumRg (te : L2.St → Hp → (Int → Int → Hp → Prop) → Prop) : TE := fun σ H Q => te σ H fun a b H1 => RgOk a b ∧ Q (.int (rsum a (b - a).toNat)) H1
theorem pe_sumRg {p pos : Pos} (hc : X.calm = true) (hg : Gl X "sum") (hm : X.mg "sum" = none) (he : PRg X e te) (na : starEach [e] X.env = (false, eval e X.env) :: starEach [] X.env) : PE X (.Call (.Name "sum" p) [e] [] pos) (tSumRg te) := by
  refine ⟨fun pins s σ H Q I h => ?_⟩
  refine Call_ (ld_blt I hg hm boot_sum (PyProof.Rows.callWith_builtin1 (args_cons (thn (he pins s σ H _ I h) fun x s1 ⟨r, a, b, t, u, v, H1, ex, hr, I1, ok, q⟩ => args_nil ?_) na) na))
  subst ex
  obtain ⟨b1, b2, b3, b4, b5⟩ := ok
  exact sum_range (n := (b - a).toNat) (I1.ok.hd hc) hr (small_one b1 b2 b3 b4) (rangeSize_nat a b) fun h' tk t' hk => ⟨.int _, H1, I1.kept hk, ⟨_, rfl⟩, q⟩
def rSumT (K : PySem.W.Frag) : List V → Hp → VK → Prop := fun vs H Q => ∃ (a : Addr) (ns : List Int), vs = [V.ref a] ∧ SqT K H a (ns.map V.int) ∧ Q (.int ns.sum) H
theorem cr_sumT (hc : X.calm = true) : CallR X (.builtin "sum") (rSumT X.K) := by
  intro pins s σ H vs us Q I r h
  obtain ⟨a, ns, rfl, hs, q⟩ := h
  obtain ⟨its, rv, hl, _⟩ := I.tuple hs
  rw [Vals.ref1 r]
  have hi := rv.ints
  obtain ⟨xs, hx⟩ := hi.allInts.items
  have hn : numsOf its.toArray.toList = ns := by rw [show its.toArray.toList = its from rfl, hi.numsOf]
  rw [hx] at hl hn
  rw [nums_intItems] at hn
  refine PySem.W.ktm_sumG (I.ok.hd hc) hl fun h' tk t' hk => ?_
  rw [preSum_eq, List.take_of_length_le (by simp), hn]
  exact ⟨.int _, H, I.kept hk, ⟨_, rfl⟩, q⟩
end
/-! len(set(xs)), xs a list of tuples of ints -/
def dd : List (List Int) → List (List Int)
  | [] => []
  | t :: ts => if (dd ts).contains t then dd ts else t :: dd ts
theorem dd_mem {x : List Int} : ∀ {ts : List (List Int)}, x ∈ dd ts ↔ x ∈ ts
  | [] => .rfl
  | t :: ts => by
    unfold dd
    have ih := dd_mem (x := x) (ts := ts)
    split
    · rename_i h
      rw [List.contains_iff_mem] at h
      rw [ih, List.mem_cons]
      refine ⟨.inr, fun z => ?_⟩
      rcases z with rfl | z
      · exact dd_mem.mp h
      · exact z
    · rw [List.mem_cons, List.mem_cons, ih]
theorem dd_nodup : ∀ ts : List (List Int), (dd ts).Nodup
  | [] => .nil
  | t :: ts => by
    unfold dd
    split
    · exact dd_nodup ts
    · rename_i h
      rw [List.nodup_cons]
      refine ⟨fun z => h ?_, dd_nodup ts⟩
      rw [List.contains_iff_mem]; exact z
section
variable {X : Cx} {ta : TE} {a : Expr}
def tLenSetT (K : PySem.W.Frag) (ta : TE) : TE := fun σ H Q => ta σ H fun x H1 => ∃ (l : Addr) (ks : List (Addr × List Int)), x = V.ref l ∧ SqL K H1 l (ks.map fun p => V.ref p.1) ∧ (∀ p ∈ ks, SqT K H1 p.1 (p.2.map V.int)) ∧ ks.length < 64 ∧ Q (.int (dd (ks.map (·.2))).length) H1
theorem pe_lenSetT {p p2 q pos : Pos} (hc : X.calm = true) (hu : X.A.units + 64 < cLine) (hg : Gl X "len") (hm : X.mg "len" = none) (hg2 : Gl X "set") (hm2 : X.mg "set" = none) (ha : PE X a ta)
    (na : starEach [a] X.env = (false, eval a X.env) :: starEach [] X.env) : PE X (.Call (.Name "len" p) [.Call (.Name "set" p2) [a] [] q] [] pos) (tLenSetT X.K ta) := by
  refine ⟨fun pins s σ H Q I h => ?_⟩
  refine Call_ (ld_blt I hg hm PySem.boot_len ?_)
  refine PyProof.Rows.callWith_builtin1 (PyProof.Rows.args_cons ?_ rfl) rfl rfl
  refine Call_ (ld_blt I hg2 hm2 PyProof.Rows.boot_set ?_)
  refine PyProof.Rows.callWith_type1 (PyProof.Rows.args_cons (thn (ha.run pins s σ H _ I h) fun v s1 ⟨x, H1, I1, r1, q1⟩ => PyProof.Rows.args_nil ?_) na) na rfl
  obtain ⟨l, ks, rfl, hq, hk, hf, q1⟩ := q1
  cases r1
  obtain ⟨its, rv, pl, hz⟩ := I1.list hq
  refine call_set_tups (P := X.prog) (w := X.w) ks (I1.ok.hd hc) pl.isList (by simpa using refs_of_vals rv) (fun p hp => I1.isT (hk p hp)) hf (by omega) fun h' tk L es ep t R g k => ?_
  refine PyProof.Rows.args_nil ?_
  have I2 : Inv X pins σ H1 { s1 with heap := h', toks := tk } := I1.kept k
  obtain ⟨o, ho, hex, hd⟩ := R.ob
  have hfit : t.fits es.size = true := SetTR.fits (s := { s1 with heap := h', toks := tk }) R
  have hes : es.size = L.length := by
    have := congrArg List.length R.rows
    rw [Array.length_toList] at this
    rw [this]
    unfold rowsOf
    rw [List.length_map]
  have hsub : ∀ p ∈ L, p ∈ ks := fun p hp => List.mem_of_mem_take (g.sub p hp)
  have hall : ∀ p ∈ ks, p.2 ∈ L.map (·.2) := fun p hp => g.all p (by rw [List.take_length]; exact hp)
  have hperm : (L.map (·.2)).Perm (dd (ks.map (·.2))) := by
    refine (List.perm_ext_iff_of_nodup R.nd (dd_nodup _)).mpr fun y => ?_
    rw [dd_mem]
    constructor
    · intro hy
      obtain ⟨p, hp, rfl⟩ := List.mem_map.mp hy
      exact List.mem_map.mpr ⟨p, hsub p hp, rfl⟩
    · intro hy
      obtain ⟨p, hp, rfl⟩ := List.mem_map.mp hy
      exact hall p hp
  have hlen : es.size = (dd (ks.map (·.2))).length := by
    rw [hes, ← hperm.length_eq, List.length_map]
  refine call_len_set ho hex hd hfit (by rw [hes]; have := R.few; omega) ⟨.int (dd (ks.map (·.2))).length, H1, I2.tok _, ⟨_, by rw [hlen]⟩, q1⟩
end
end MP

namespace MP
open PySem PySem.Spec PyProof.Rows L2
abbrev Sg := L2.St

/-- data: pure trees -/
inductive D where
  | non | bl (b : Bool) | int (i : Int) | str (x : Str)
  | tup (ds : List D) | lst (ds : List D)
  | ins (c : Nat) (fs : List D)
  deriving Inhabited

/-- what is fixed: the written part, where classes stand, their fields -/
structure RP where
  K : PySem.W.Frag
  ca : Nat → Addr
  fl : Nat → List Str

def TupAt (K : PySem.W.Frag) (L : Addr → Prop) (H : Hp) (a : Addr) (vs : List V) : Prop :=
  (H a = some (.tup vs) ∧ ¬ L a) ∨ SqT K (fun _ => none) a vs
mutual
/-- the value v is the data d in H; L: the addresses of lists that may still change -/
def Rep (P : RP) (L : Addr → Prop) (H : Hp) : D → V → Prop
  | .non, v => v = .non
  | .bl b, v => v = .bl b
  | .int i, v => v = .int i
  | .str x, v => v = .str x
  | .tup ds, v => ∃ a vs, v = .ref a ∧ TupAt P.K L H a vs ∧ Reps P L H ds vs
  | .lst ds, v => ∃ a vs, v = .ref a ∧ H a = some (.lst vs) ∧ ¬ L a ∧ Reps P L H ds vs
  | .ins c fs, v => ∃ a dx vs, v = .ref a ∧ H a = some (.ins (P.ca c) dx ((P.fl c).zip vs)) ∧ ¬ L a ∧ vs.length ≤ (P.fl c).length ∧ Reps P L H fs vs
def Reps (P : RP) (L : Addr → Prop) (H : Hp) : List D → List V → Prop
  | [], vs => vs = []
  | d :: ds, vs => ∃ v r, vs = v :: r ∧ Rep P L H d v ∧ Reps P L H ds r
end
variable {P : RP} {L L' : Addr → Prop} {H H' : Hp}

theorem SqT.wr {K : PySem.W.Frag} {H : Hp} {a : Addr} {vs : List V} (h : SqT K (fun _ => none) a vs) : SqT K H a vs := by
  rcases h with (h | ⟨o, h⟩) | h
  · cases h
  · cases h
  · exact .inr h
theorem TupAt.sq {K : PySem.W.Frag} {a : Addr} {vs : List V} (h : TupAt K L H a vs) : SqT K H a vs := by
  rcases h with ⟨h, _⟩ | h
  · exact SqT.of h
  · exact SqT.wr h
theorem TupAt.keep {K : PySem.W.Frag} {a : Addr} {vs : List V} (k : ∀ b o, H b = some o → ¬ L b → H' b = some o) (l : ∀ b, L' b → L b ∨ H b = none) (h : TupAt K L H a vs) : TupAt K L' H' a vs := by
  rcases h with ⟨h, n⟩ | h
  · refine .inl ⟨k _ _ h n, fun z => ?_⟩
    rcases l _ z with z | z
    · exact n z
    · rw [z] at h; cases h
  · exact .inr h
mutual
theorem Rep.keep (k : ∀ b o, H b = some o → ¬ L b → H' b = some o) (l : ∀ b, L' b → L b ∨ H b = none) : ∀ (d : D) (v : V), Rep P L H d v → Rep P L' H' d v
  | .non, _, h => h
  | .bl _, _, h => h
  | .int _, _, h => h
  | .str _, _, h => h
  | .tup ds, v, h => by
    unfold Rep at h ⊢
    obtain ⟨a, vs, e, t, r⟩ := h
    exact ⟨a, vs, e, t.keep k l, Reps.keep k l ds vs r⟩
  | .lst ds, v, h => by
    unfold Rep at h ⊢
    obtain ⟨a, vs, e, t, n, r⟩ := h
    refine ⟨a, vs, e, k _ _ t n, fun z => ?_, Reps.keep k l ds vs r⟩
    rcases l _ z with z | z
    · exact n z
    · rw [z] at t; cases t
  | .ins c fs, v, h => by
    unfold Rep at h ⊢
    obtain ⟨a, dx, vs, e, t, n, hl, r⟩ := h
    refine ⟨a, dx, vs, e, k _ _ t n, fun z => ?_, hl, Reps.keep k l fs vs r⟩
    rcases l _ z with z | z
    · exact n z
    · rw [z] at t; cases t
theorem Reps.keep (k : ∀ b o, H b = some o → ¬ L b → H' b = some o) (l : ∀ b, L' b → L b ∨ H b = none) : ∀ (ds : List D) (vs : List V), Reps P L H ds vs → Reps P L' H' ds vs
  | [], _, h => h
  | d :: ds, vs, h => by
    unfold Reps at h ⊢
    obtain ⟨v, r, e, h1, h2⟩ := h
    exact ⟨v, r, e, Rep.keep k l d v h1, Reps.keep k l ds r h2⟩
end
theorem Reps.length : ∀ {ds : List D} {vs : List V}, Reps P L H ds vs → ds.length = vs.length
  | [], _, h => by unfold Reps at h; subst h; rfl
  | d :: ds, vs, h => by
    unfold Reps at h
    obtain ⟨v, r, rfl, _, h2⟩ := h
    simp [Reps.length h2]
theorem Reps.nil : Reps P L H [] [] := by unfold Reps; rfl
theorem Reps.cons {d : D} {ds : List D} {v : V} {vs : List V} (h : Rep P L H d v) (hs : Reps P L H ds vs) : Reps P L H (d :: ds) (v :: vs) := by
  unfold Reps; exact ⟨v, vs, rfl, h, hs⟩
theorem Reps.get : ∀ {ds : List D} {vs : List V} {i : Nat} {d : D}, Reps P L H ds vs → ds[i]? = some d → ∃ v, vs[i]? = some v ∧ Rep P L H d v
  | [], _, i, d, h, e => by simp at e
  | d' :: ds, vs, i, d, h, e => by
    unfold Reps at h
    obtain ⟨v, r, rfl, h1, h2⟩ := h
    cases i with
    | zero => simp at e; subst e; exact ⟨v, by simp, h1⟩
    | succ i =>
      obtain ⟨w, e2, h3⟩ := Reps.get (i := i) h2 (by simpa using e)
      exact ⟨w, by simpa using e2, h3⟩
theorem Reps.getV : ∀ {ds : List D} {vs : List V} {i : Nat} {v : V}, Reps P L H ds vs → vs[i]? = some v → ∃ d, ds[i]? = some d ∧ Rep P L H d v
  | [], _, i, d, h, e => by unfold Reps at h; subst h; simp at e
  | d' :: ds, vs, i, v', h, e => by
    unfold Reps at h
    obtain ⟨v, r, rfl, h1, h2⟩ := h
    cases i with
    | zero => simp at e; subst e; exact ⟨d', by simp, h1⟩
    | succ i =>
      obtain ⟨w, e2, h3⟩ := Reps.getV (i := i) h2 (by simpa using e)
      exact ⟨w, by simpa using e2, h3⟩
theorem Reps.append : ∀ {ds es : List D} {vs ws : List V}, Reps P L H ds vs → Reps P L H es ws → Reps P L H (ds ++ es) (vs ++ ws)
  | [], _, _, _, h, h' => by unfold Reps at h; subst h; exact h'
  | d :: ds, es, vs, ws, h, h' => by
    unfold Reps at h
    obtain ⟨v, r, rfl, h1, h2⟩ := h
    exact Reps.cons h1 (Reps.append h2 h')
theorem Reps.take : ∀ {ds : List D} {vs : List V} (n : Nat), Reps P L H ds vs → Reps P L H (ds.take n) (vs.take n)
  | [], _, n, h => by unfold Reps at h; subst h; simp; exact Reps.nil
  | d :: ds, vs, 0, h => by simp; exact Reps.nil
  | d :: ds, vs, n + 1, h => by
    unfold Reps at h
    obtain ⟨v, r, rfl, h1, h2⟩ := h
    exact Reps.cons h1 (Reps.take n h2)
theorem Reps.drop : ∀ {ds : List D} {vs : List V} (n : Nat), Reps P L H ds vs → Reps P L H (ds.drop n) (vs.drop n)
  | [], _, n, h => by unfold Reps at h; subst h; simp; exact Reps.nil
  | d :: ds, vs, 0, h => h
  | d :: ds, vs, n + 1, h => by
    unfold Reps at h
    obtain ⟨v, r, rfl, h1, h2⟩ := h
    exact Reps.drop n h2
theorem Reps.set : ∀ {ds : List D} {vs : List V} {d : D} {v : V} (i : Nat), Rep P L H d v → Reps P L H ds vs → Reps P L H (ds.set i d) (vs.set i v)
  | [], _, _, _, n, _, h => by unfold Reps at h; subst h; simp; exact Reps.nil
  | d' :: ds, vs, d, w, n, hd, h => by
    unfold Reps at h
    obtain ⟨v, r, rfl, h1, h2⟩ := h
    cases n with
    | zero => exact Reps.cons hd h2
    | succ n => exact Reps.cons h1 (Reps.set n hd h2)
theorem Reps.eraseIdx : ∀ {ds : List D} {vs : List V} (i : Nat), Reps P L H ds vs → Reps P L H (ds.eraseIdx i) (vs.eraseIdx i)
  | [], _, n, h => by unfold Reps at h; subst h; simp; exact Reps.nil
  | d' :: ds, vs, n, h => by
    unfold Reps at h
    obtain ⟨v, r, rfl, h1, h2⟩ := h
    cases n with
    | zero => exact h2
    | succ n => exact Reps.cons h1 (Reps.eraseIdx n h2)
theorem Reps.reverse {ds : List D} {vs : List V} (h : Reps P L H ds vs) : Reps P L H ds.reverse vs.reverse := by
  induction ds generalizing vs with
  | nil => unfold Reps at h; subst h; exact Reps.nil
  | cons d ds ih =>
    unfold Reps at h
    obtain ⟨v, r, rfl, h1, h2⟩ := h
    simp only [List.reverse_cons]
    exact Reps.append (ih h2) (Reps.cons h1 Reps.nil)
/-- same heap up to more tracked things -/
theorem Rep.same (s : Same H H') {d : D} {v : V} (h : Rep P L H d v) : Rep P L H' d v := Rep.keep (fun b o e _ => s b o e) (fun b z => .inl z) d v h
theorem Reps.same (s : Same H H') {d : List D} {v : List V} (h : Reps P L H d v) : Reps P L H' d v := Reps.keep (fun b o e _ => s b o e) (fun b z => .inl z) d v h
theorem Rep.weak (l : ∀ b, L' b → L b) {d : D} {v : V} (h : Rep P L H d v) : Rep P L' H d v := Rep.keep (fun b o e _ => e) (fun b z => .inl (l b z)) d v h
theorem Reps.weak (l : ∀ b, L' b → L b) {d : List D} {v : List V} (h : Reps P L H d v) : Reps P L' H d v := Reps.keep (fun b o e _ => e) (fun b z => .inl (l b z)) d v h
theorem same_upd {p : Addr} {o : HO} (h : H p = none) : Same H (upd H p o) := fun b x e => by rw [upd_ne (ne_of_none e h)]; exact e

/-- lists of ints as values -/
theorem Reps.ints : ∀ {ns : List Int} {vs : List V}, Reps P L H (ns.map D.int) vs → vs = ns.map V.int
  | [], _, h => by unfold Reps at h; subst h; rfl
  | n :: ns, vs, h => by
    simp only [List.map_cons] at h
    unfold Reps at h
    obtain ⟨v, r, rfl, h1, h2⟩ := h
    unfold Rep at h1
    rw [h1, Reps.ints h2]; rfl
theorem Reps.of_ints : ∀ (ns : List Int), Reps P L H (ns.map D.int) (ns.map V.int)
  | [] => Reps.nil
  | n :: ns => Reps.cons (by unfold Rep; rfl) (Reps.of_ints ns)
theorem Reps.bls : ∀ {ns : List Bool} {vs : List V}, Reps P L H (ns.map D.bl) vs → vs = ns.map V.bl
  | [], _, h => by unfold Reps at h; subst h; rfl
  | n :: ns, vs, h => by
    simp only [List.map_cons] at h
    unfold Reps at h
    obtain ⟨v, r, rfl, h1, h2⟩ := h
    unfold Rep at h1
    rw [h1, Reps.bls h2]; rfl

/-! ### locals -/
inductive Slot where
  | none
  /-- data -/
  | dat (d : D)
  /-- a list of its own; b: it is a parameter that the caller lent -/
  | own (b : Bool) (ds : List D)
  /-- the script -/
  | scr (ns : List Int)
  /-- held by others: neither read nor stored to -/
  | hid
abbrev Loc := List Slot
def OwnAt (loc : Loc) (σ : Sg) (a : Addr) : Prop := ∃ (i : Nat) (b : Bool) (ds : List D), loc[i]? = some (.own b ds) ∧ σ[i]? = some (some (.ref a))
def Lv (L0 : Addr → Prop) (loc : Loc) (σ : Sg) (a : Addr) : Prop := L0 a ∨ OwnAt loc σ a
def ScrAt (K : PySem.W.Frag) (L : Addr → Prop) (H : Hp) (a : Addr) (xs : List V) : Prop := (Rd H a (.lst xs) ∧ ¬ L a) ∨ SqL K (fun _ => Option.none) a xs
theorem ScrAt.sq {K : PySem.W.Frag} {a : Addr} {vs : List V} (h : ScrAt K L H a vs) : SqL K H a vs := by
  rcases h with ⟨h, _⟩ | h
  · exact .inl h
  · rcases h with (h | ⟨o, h⟩) | h
    · cases h
    · cases h
    · exact .inr h
theorem ScrAt.keep {K : PySem.W.Frag} {a : Addr} {vs : List V} (k : ∀ b o, H b = some o → ¬ L b → H' b = some o) (l : ∀ b, L' b → L b ∨ H b = none) (h : ScrAt K L H a vs) : ScrAt K L' H' a vs := by
  rcases h with ⟨h, n⟩ | h
  · refine .inl ⟨?_, fun z => ?_⟩
    · rcases h with h | ⟨o, h⟩
      · exact .inl (k _ _ h n)
      · exact .inr ⟨o, k _ _ h n⟩
    · rcases l _ z with z | z
      · exact n z
      · rcases h with h | ⟨o, h⟩ <;> (rw [z] at h; cases h)
  · exact .inr h

structure Rel (P : RP) (L0 : Addr → Prop) (loc : Loc) (σ : Sg) (H : Hp) : Prop where
  len : loc.length = σ.length
  l0 : ∀ b, L0 b → ∃ o, H b = some o
  dat : ∀ (i : Nat) (d : D), loc[i]? = some (.dat d) → ∃ v, σ[i]? = some (some v) ∧ Rep P (Lv L0 loc σ) H d v
  own : ∀ (i : Nat) (b : Bool) (ds : List D), loc[i]? = some (.own b ds) → ∃ a vs, σ[i]? = some (some (.ref a)) ∧ H a = some (.lst vs) ∧ ¬ L0 a ∧ Reps P (Lv L0 loc σ) H ds vs
  inj : ∀ (i j : Nat) (b c : Bool) (ds es : List D) (a : Addr), loc[i]? = some (.own b ds) → loc[j]? = some (.own c es) → σ[i]? = some (some (.ref a)) → σ[j]? = some (some (.ref a)) → i = j
  scr : ∀ (i : Nat) (ns : List Int), loc[i]? = some (.scr ns) → ∃ a, σ[i]? = some (some (.ref a)) ∧ ScrAt P.K (Lv L0 loc σ) H a (ns.map V.int)

theorem Rel.lv {loc : Loc} {σ : Sg} {L0 : Addr → Prop} (R : Rel P L0 loc σ H) {a : Addr} (h : Lv L0 loc σ a) : ∃ o, H a = some o := by
  rcases h with h | ⟨i, b, ds, e, s⟩
  · exact R.l0 _ h
  · obtain ⟨a', vs, s', h, _⟩ := R.own i b ds e
    rw [s] at s'; cases s'
    exact ⟨_, h⟩
/-- the heap grows; more may be live of what is new -/
theorem Rel.grow {loc : Loc} {σ : Sg} {L0 L0' : Addr → Prop} (R : Rel P L0 loc σ H) (s : Same H H') (l : ∀ b, L0' b → L0 b ∨ H b = none) (t : ∀ b, L0' b → ∃ o, H' b = some o) : Rel P L0' loc σ H' := by
  have hl : ∀ b, Lv L0' loc σ b → Lv L0 loc σ b ∨ H b = none := fun b z => by
    rcases z with z | z
    · rcases l b z with z | z
      · exact .inl (.inl z)
      · exact .inr z
    · exact .inl (.inr z)
  have k : ∀ b o, H b = some o → ¬ Lv L0 loc σ b → H' b = some o := fun b o e _ => s b o e
  refine ⟨R.len, t, fun i d e => ?_, fun i b ds e => ?_, R.inj, fun i ns e => ?_⟩
  · obtain ⟨v, e1, r⟩ := R.dat i d e
    exact ⟨v, e1, Rep.keep k hl d v r⟩
  · obtain ⟨a, vs, e1, h, n, r⟩ := R.own i b ds e
    refine ⟨a, vs, e1, s _ _ h, fun z => ?_, Reps.keep k hl ds vs r⟩
    rcases l _ z with z | z
    · exact n z
    · rw [z] at h; cases h
  · obtain ⟨a, e1, h⟩ := R.scr i ns e
    exact ⟨a, e1, h.keep k hl⟩

/-! ### results -/
inductive R where
  | val (d : D)
  | ref (i : Nat)
  /-- a list that is new and nobody else's -/
  | new (ds : List D)
def RepR (P : RP) (L0 : Addr → Prop) (loc : Loc) (σ : Sg) (H : Hp) : R → V → Prop
  | .val d, v => Rep P (Lv L0 loc σ) H d v
  | .ref i, v => σ[i]? = some (some v)
  | .new ds, v => ∃ a vs, v = .ref a ∧ H a = some (.lst vs) ∧ ¬ Lv L0 loc σ a ∧ Reps P (fun b => Lv L0 loc σ b ∨ b = a) H ds vs ∧ Rel P (fun b => L0 b ∨ b = a) loc σ H
def sett : R → R
  | .new ds => .val (.lst ds)
  | r => r
theorem RepR.sett {loc : Loc} {σ : Sg} {L0 : Addr → Prop} {r : R} {v : V} (h : RepR P L0 loc σ H r v) : RepR P L0 loc σ H (sett r) v := by
  cases r with
  | new ds =>
    obtain ⟨a, vs, e, h1, h2, h3, _⟩ := h
    show Rep P _ H (.lst ds) v
    unfold Rep
    exact ⟨a, vs, e, h1, h2, Reps.weak (fun b z => .inl z) h3⟩
  | val d => exact h
  | ref i => exact h

/-- behind an expression -/
structure EvPost (P : RP) (L0 : Addr → Prop) (loc : Loc) (σ : Sg) (H : Hp) (loc' : Loc) (r : R) (v : V) (H' : Hp) : Prop where
  rel : Rel P L0 loc' σ H'
  keep : ∀ b o, H b = some o → ¬ OwnAt loc σ b → H' b = some o
  own : ∀ b, OwnAt loc' σ b → OwnAt loc σ b
  rep : RepR P L0 loc' σ H' r v
  there : ∀ b o, H b = some o → ∃ o', H' b = some o'
  fresh : ∀ ds p, r = .new ds → v = .ref p → H p = none
  pin : ∀ (i : Nat) (ds : List D), loc[i]? = some (.own true ds) → ∃ ds', loc'[i]? = some (.own true ds')
  fix : ∀ (i : Nat) (s : Slot), loc[i]? = some s → (∀ b ds, s ≠ .own b ds) → loc'[i]? = some s
/-- the reading of an evaluator -/
def tE (P : RP) (g : Loc → Option (R × Loc)) : TE := fun σ H Q => ∃ L0 loc r loc', Rel P L0 loc σ H ∧ g loc = some (r, loc') ∧ ∀ v H', EvPost P L0 loc σ H loc' r v H' → Q v H'

/-- what is kept, for data -/
theorem EvPost.kp {loc loc' : Loc} {σ : Sg} {L0 : Addr → Prop} {r : R} {v : V} (p : EvPost P L0 loc σ H loc' r v H') : ∀ b o, H b = some o → ¬ Lv L0 loc σ b → H' b = some o :=
  fun b o e n => p.keep b o e fun z => n (.inr z)
theorem EvPost.lv {loc loc' : Loc} {σ : Sg} {L0 : Addr → Prop} {r : R} {v : V} (p : EvPost P L0 loc σ H loc' r v H') : ∀ b, Lv L0 loc' σ b → Lv L0 loc σ b ∨ H b = none :=
  fun b z => .inl (z.imp id (p.own b))
/-- an earlier result behind a later step -/
theorem RepR.after {loc loc' : Loc} {σ : Sg} {L0 : Addr → Prop} {r r' : R} {v v' : V} (h : RepR P L0 loc σ H (MP.sett r') v') (p : EvPost P L0 loc σ H loc' r v H') : RepR P L0 loc' σ H' (MP.sett r') v' := by
  cases r' with
  | val d => exact Rep.keep p.kp p.lv _ _ h
  | ref i => exact h
  | new ds => exact Rep.keep p.kp p.lv (.lst ds) _ h
theorem EvPost.trans {loc loc1 loc2 : Loc} {σ : Sg} {L0 : Addr → Prop} {H1 H2 : Hp} {r r' : R} {v v' : V} (p : EvPost P L0 loc σ H loc1 r v H1) (q : EvPost P L0 loc1 σ H1 loc2 r' v' H2) : EvPost P L0 loc σ H loc2 r' v' H2 :=
  ⟨q.rel, fun b o e n => q.keep b o (p.keep b o e n) fun z => n (p.own b z), fun b z => p.own b (q.own b z), q.rep,
    fun b o e => by obtain ⟨o', e'⟩ := p.there b o e; exact q.there b o' e',
    (fun ds c e1 e2 => by
      have h := q.fresh ds c e1 e2
      cases e : H c with
      | none => rfl
      | some o => obtain ⟨o', e'⟩ := p.there c o e; rw [h] at e'; cases e'),
    (fun i ds e => by obtain ⟨ds1, e1⟩ := p.pin i ds e; exact q.pin i ds1 e1), fun i s e n => q.fix i s (p.fix i s e n) n⟩
end MP

namespace MP
open PySem L2

inductive Ty where
  | int | bool | list | tuple | str
  deriving DecidableEq
inductive O1 where
  | neg | len | int | list | tuple | sorted | all | any | sum | abs | isi (t : Ty) | bool | repr | rev | lenSet | isC (k : Nat)
inductive O2 where
  | add | sub | mul | fdiv | mod | pow | shl | shr | band
  | eq | ne | lt | le | gt | ge | isin | notin | is | isnot
  | ix
  | max2 | min2 | dmod
  | eqN | neN
  deriving DecidableEq
/-- a default: a plain constant -/
inductive Df where
  | int (i : Int) | bl (b : Bool) | non | str (x : Str)
  deriving DecidableEq
def Df.d : Df → D
  | .int i => .int i | .bl b => .bl b | .non => .non | .str x => .str x
def Df.v : Df → V
  | .int i => .int i | .bl b => .bl b | .non => .non | .str x => .str x
inductive Pat where
  | v (i : Nat)
  | tup (ps : List Nat)

mutual
inductive ME where
  | c (d : D)
  | g (k : Nat)
  | v (i : Nat)
  | r (i : Nat)
  | fz (i : Nat)
  | tup (es : List ME)
  | lst (es : List ME)
  | o1 (o : O1) (a : ME)
  | o2 (o : O2) (a b : ME)
  | ch (o o' : O2) (a b c : ME)
  | sl (a : ME) (lo hi : Option ME)
  | and (a b : ME)
  | or (a b : ME)
  | not (a : ME)
  | ite (c a b : ME)
  | call (f : Nat) (as : List ME)
  | callK (f : Nat) (as ks : List ME) (perm : List Nat)
  | lc (own : List Nat) (p : Pat) (it : IT) (cs : List ME) (elt : ME)
  | app (i : Nat) (e : ME)
  | pop (i : Nat)
  | popAt (i : Nat) (e : ME)
  | clear (i : Nat)
  | ext (i : Nat) (e : ME)
  | sIx (i : Nat) (e : ME)
  | sLen (i : Nat)
  | sSl (i : Nat) (lo hi : Option ME)
  | bad
  | lrng (it : IT)
  | lc2 (own : List Nat) (p : Pat) (it : IT) (cs : List ME) (own1 : List Nat) (p1 : Pat) (it1 : IT) (cs1 : List ME) (elt : ME)
  | mxD (mx : Bool) (a d : ME)
  | thaw (i : Nat) (a : ME)
  | fld (tb : List (Nat × Nat)) (a : ME)
  | meth (tb : List (Nat × Nat)) (a : ME) (as : List ME)
  | make (c f : Nat) (as : List ME)
  | sumR (it : IT)
  | ch3 (o o' o'' : O2) (a b c d : ME)
  | ins0 (i : Nat) (e : ME)
  | dropc (a : ME)
  | dropa (a b : ME)
  | eqI (ne : Bool) (tb : List (Nat × Nat)) (a b : ME)
  | mn3 (a b c : ME)
  | callD (f : Nat) (as : List ME) (ds : List Df)
inductive IT where
  | seq (a : ME)
  | tpl (a : ME)
  | rng1 (a : ME)
  | rng2 (a b : ME)
  | enum (a : ME)
  | zip (a b : ME)
end

/-! ### operations on data -/
def big : Nat := 1000000
mutual
def D.beq : D → D → Bool
  | .non, e => match e with | .non => true | _ => false
  | .bl a, e => match e with | .bl b => a == b | .int j => (if a then 1 else 0) == j | _ => false
  | .int i, e => match e with | .bl b => i == (if b then 1 else 0) | .int j => i == j | _ => false
  | .str x, e => match e with | .str y => decide (x = y) | _ => false
  | .tup xs, e => match e with | .tup ys => D.beqs xs ys | _ => false
  | .lst xs, e => match e with | .lst ys => D.beqs xs ys | _ => false
  | .ins _ _, _ => false
def D.beqs : List D → List D → Bool
  | [], e => match e with | [] => true | _ => false
  | x :: xs, e => match e with | y :: ys => D.beq x y && D.beqs xs ys | [] => false
end
mutual
/-- fit for comparing: no instance in it, not deep -/
def D.plain : Nat → D → Bool
  | n, .tup xs => match n with | 0 => false | n + 1 => D.plains n xs
  | n, .lst xs => match n with | 0 => false | n + 1 => D.plains n xs
  | _, .ins _ _ => false
  | _, .str x => PySem.PyData.strOk x
  | _, _ => true
def D.plains : Nat → List D → Bool
  | _, [] => true
  | n, x :: xs => D.plain n x && D.plains n xs
end
mutual
def toPy : D → PySem.PyData
  | .non => .none
  | .bl b => .bool b
  | .int i => .int i
  | .str x => .str x
  | .tup ds => .tuple (toPys ds)
  | .lst ds => .list (toPys ds)
  | .ins _ _ => .none
def toPys : List D → List PySem.PyData
  | [] => []
  | d :: ds => toPy d :: toPys ds
end
/-- fit to be shown -/
def shOk (d : D) : Bool := D.plain 8 d && (toPy d).showable && decide ((toPy d).shown.length ≤ 100000)
def D.int? : D → Option Int
  | .int i => some i
  | _ => none
def D.bl? : D → Option Bool
  | .bl i => some i
  | _ => none
def ints? : List D → Option (List Int)
  | [] => some []
  | d :: ds => match d, ints? ds with
    | .int i, some r => some (i :: r)
    | _, _ => none
def bls? : List D → Option (List Bool)
  | [] => some []
  | d :: ds => match d, bls? ds with
    | .bl i, some r => some (i :: r)
    | _, _ => none
def insS (x : Int) : List Int → List Int
  | [] => [x]
  | y :: ys => if x ≤ y then x :: y :: ys else y :: insS x ys
def sortS : List Int → List Int
  | [] => []
  | x :: xs => insS x (sortS xs)
/-- rows of ints that are lists -/
def ilsts? : List D → Option (List (List Int))
  | [] => some []
  | d :: ds => match d, ilsts? ds with
    | .lst xs, some r => (ints? xs).map fun ns => ns :: r
    | _, _ => none
def lstD (t : List Int) : D := .lst (t.map D.int)
/-- rows of ints -/
def itups? : List D → Option (List (List Int))
  | [] => some []
  | d :: ds => match d, itups? ds with
    | .tup xs, some r => (ints? xs).map fun ns => ns :: r
    | _, _ => none
def ltL : List Int → List Int → Bool
  | [], ys => match ys with | [] => false | _ :: _ => true
  | x :: xs, ys => match ys with | [] => false | y :: ys => if x = y then ltL xs ys else decide (x < y)
def D.ltInts (xs ys : List D) : Option Bool := match ints? xs, ints? ys with
  | some ns, some ms => some (ltL ns ms)
  | _, _ => none
def insT (x : List Int) : List (List Int) → List (List Int)
  | [] => [x]
  | y :: ys => if ltL y x then y :: insT x ys else x :: y :: ys
def sortT : List (List Int) → List (List Int)
  | [] => []
  | x :: xs => insT x (sortT xs)
def tupD (t : List Int) : D := .tup (t.map D.int)
def srtOk (ts : List (List Int)) : Bool := ts.all (fun t => !t.isEmpty) || decide (ts.length ≤ 1)
def seqAt (ds : List D) (i : Int) : Option D := if 0 ≤ i then ds[i.toNat]? else if -(ds.length : Int) ≤ i then ds[(i + ds.length).toNat]? else none
def small (i : Int) : Bool := decide (-(2 ^ 62) ≤ i) && decide (i < 2 ^ 62)
def mulOk (i j : Int) : Bool := (decide (-(2 ^ 64) < i) && decide (i < 2 ^ 64)) || (decide (-(2 ^ 64) < j) && decide (j < 2 ^ 64)) || decide (i.natAbs.log2 + j.natAbs.log2 < 1000000)
def fdivOk (j : Int) : Bool := decide (0 < j) && decide (j.natAbs.log2 < 9000)
def powOk (i j : Int) : Bool := decide (0 ≤ j) && decide (j ≤ 1000000) && decide (i.natAbs < 2 ^ 64)
def flat : D → Bool
  | .non => true | .bl _ => true | .int _ => true | .str _ => true
  | _ => false

def isNon : D → Bool
  | .non => true
  | _ => false
def cmpI (f : Int → Int → Bool) : D → D → Option R
  | .int i, .int j => some (.val (.bl (f i j)))
  | _, _ => none
def strEq : D → D → Option Bool
  | .str x, .str y => some (decide (x = y))
  | _, _ => none
def ap2 : O2 → D → D → Option R
  | .add, a, b => match a, b with
    | .int i, .int j => some (.val (.int (i + j)))
    | .tup xs, .tup ys => if xs.length + ys.length ≤ big then some (.val (.tup (xs ++ ys))) else none
    | .lst xs, .lst ys => if xs.length + ys.length ≤ big then some (.new (xs ++ ys)) else none
    | _, _ => none
  | .sub, a, b => match a, b with
    | .int i, .int j => some (.val (.int (i - j)))
    | _, _ => none
  | .mul, a, b => match a, b with
    | .int i, .int j => if mulOk i j then some (.val (.int (i * j))) else none
    | .lst xs, .int k => if 0 ≤ k ∧ k ≤ big ∧ xs.length * k.toNat ≤ big then some (.new (List.replicate k.toNat xs).flatten) else none
    | _, _ => none
  | .fdiv, a, b => match a, b with
    | .int i, .int j => if fdivOk j then some (.val (.int (i / j))) else none
    | _, _ => none
  | .mod, a, b => match a, b with
    | .int i, .int j => if 0 < j then some (.val (.int (i % j))) else none
    | _, _ => none
  | .pow, a, b => match a, b with
    | .int i, .int j => if powOk i j then some (.val (.int (i ^ j.toNat))) else none
    | _, _ => none
  | .shl, a, b => match a, b with
    | .int i, .int j => if powOk i j then some (.val (.int (i * 2 ^ j.toNat))) else none
    | _, _ => none
  | .shr, a, b => match a, b with
    | .int i, .int j => if 0 ≤ j then some (.val (.int (i / 2 ^ j.toNat))) else none
    | _, _ => none
  | .band, a, b => match a, b with
    | .int i, .int j => some (.val (.int (Builtin.bitAnd i j)))
    | _, _ => none
  | .eq, a, b => if D.plain 8 a && D.plain 8 b then some (.val (.bl (D.beq a b))) else (strEq a b).map fun k => .val (.bl k)
  | .ne, a, b => if D.plain 8 a && D.plain 8 b then some (.val (.bl (!D.beq a b))) else (strEq a b).map fun k => .val (.bl (!k))
  | .lt, a, b => match a, b with
    | .int i, .int j => some (.val (.bl (decide (i < j))))
    | .tup xs, .tup ys => (D.ltInts xs ys).map fun k => .val (.bl k)
    | _, _ => none
  | .le, a, b => cmpI (fun i j => decide (i ≤ j)) a b
  | .gt, a, b => cmpI (fun i j => decide (j < i)) a b
  | .ge, a, b => cmpI (fun i j => decide (j ≤ i)) a b
  | .isin, a, b => match b with
    | .tup ys => if D.plain 8 a && D.plains 8 ys then some (.val (.bl (ys.any fun y => D.beq y a))) else none
    | .lst ys => if D.plain 8 a && D.plains 8 ys then some (.val (.bl (ys.any fun y => D.beq y a))) else none
    | _ => none
  | .notin, a, b => match b with
    | .tup ys => if D.plain 8 a && D.plains 8 ys then some (.val (.bl (!ys.any fun y => D.beq y a))) else none
    | .lst ys => if D.plain 8 a && D.plains 8 ys then some (.val (.bl (!ys.any fun y => D.beq y a))) else none
    | _ => none
  | .is, a, b => match b, a with
    | .non, a => some (.val (.bl (isNon a)))
    | .bl y, .bl x => some (.val (.bl (x == y)))
    | _, _ => none
  | .isnot, a, b => match b, a with
    | .non, a => some (.val (.bl (!isNon a)))
    | .bl y, .bl x => some (.val (.bl (!(x == y))))
    | _, _ => none
  | .max2, a, b => match a, b with
    | .int i, .int j => some (.val (.int (if j > i then j else i)))
    | _, _ => none
  | .min2, a, b => match a, b with
    | .int i, .int j => some (.val (.int (if j < i then j else i)))
    | _, _ => none
  | .dmod, a, b => match a, b with
    | .int i, .int j => if fdivOk j then some (.val (.tup [.int (i / j), .int (i % j)])) else none
    | _, _ => none
  | .eqN, a, b => match a, b with
    | .lst xs, .lst [] => some (.val (.bl xs.isEmpty))
    | _, _ => none
  | .neN, a, b => match a, b with
    | .lst xs, .lst [] => some (.val (.bl (!xs.isEmpty)))
    | _, _ => none
  | .ix, a, b => match a, b with
    | .tup xs, .int i => (seqAt xs i).map fun d => .val d
    | .lst xs, .int i => (seqAt xs i).map fun d => .val d
    | _, _ => none
def isTy : Ty → D → Bool
  | .int, .int _ => true | .int, .bl _ => true
  | .bool, .bl _ => true
  | .list, .lst _ => true
  | .tuple, .tup _ => true
  | .str, .str _ => true
  | _, _ => false
def noIns : D → Bool
  | .ins _ _ => false
  | _ => true
def ap1 : O1 → D → Option R
  | .neg, a => match a with
    | .int i => some (.val (.int (-i)))
    | _ => none
  | .len, a => match a with
    | .tup xs => some (.val (.int xs.length))
    | .lst xs => some (.val (.int xs.length))
    | _ => none
  | .int, a => match a with
    | .int i => some (.val (.int i))
    | .bl b => some (.val (.int (if b then 1 else 0)))
    | _ => none
  | .bool, a => match a with
    | .bl b => some (.val (.bl b))
    | _ => none
  | .list, a => match a with
    | .tup xs => some (.new xs)
    | .lst xs => some (.new xs)
    | _ => none
  | .tuple, a => match a with
    | .tup xs => some (.val (.tup xs))
    | .lst xs => some (.val (.tup xs))
    | _ => none
  | .sorted, a => match a with
    | .lst xs => match ints? xs with
      | some ns => some (.new ((sortS ns).map D.int))
      | none => match itups? xs with
        | some ts => if srtOk ts then some (.new ((sortT ts).map tupD)) else none
        | none => match ilsts? xs with
          | some ts => some (.new ((sortT ts).map lstD))
          | none => none
    | _ => none
  | .all, a => match a with
    | .lst xs => (bls? xs).map fun ns => .val (.bl (ns.all id))
    | _ => none
  | .any, a => match a with
    | .lst xs => (bls? xs).map fun ns => .val (.bl (ns.any id))
    | _ => none
  | .sum, a => match a with
    | .lst xs => (ints? xs).map fun ns => .val (.int ns.sum)
    | .tup xs => (ints? xs).map fun ns => .val (.int ns.sum)
    | _ => none
  | .abs, a => match a with
    | .int i => some (.val (.int (if i < 0 then -i else i)))
    | _ => none
  | .isi t, a => if noIns a then some (.val (.bl (isTy t a))) else none
  | .repr, a => if shOk a then some (.val (.str (toPy a).shown)) else none
  | .lenSet, a => match a with
    | .lst xs => match itups? xs with
      | some ts => if ts.length < 64 then some (.val (.int (dd ts).length)) else none
      | none => none
    | _ => none
  | .rev, a => match a with
    | .lst xs => some (.new xs.reverse)
    | _ => none
  | .isC k, a => match a with
    | .ins c _ => if c = k then some (.val (.bl true)) else none
    | _ => some (.val (.bl false))
def seqInts : D → Option (List Int)
  | .tup ds => ints? ds
  | .lst ds => ints? ds
  | _ => none
/-- max | min -/
def mxI (mx : Bool) (n : Int) (ms : List Int) : Int := if mx then ms.foldl max n else ms.foldl min n
def truth : D → Option Bool
  | .non => some false
  | .bl b => some b
  | .int i => some (i != 0)
  | .tup xs => some (!xs.isEmpty)
  | .lst xs => some (!xs.isEmpty)
  | _ => none
def cutD (xs : List D) (lo hi : Option Int) : List D := (xs.drop (HT.sIx xs.length 0 lo)).take (HT.sIx xs.length xs.length hi - HT.sIx xs.length 0 lo)
def apSl (a : D) (lo hi : Option Int) : Option R := match a with
  | .lst xs => some (.new (cutD xs lo hi))
  | .tup xs => some (.val (.tup (cutD xs lo hi)))
  | _ => none

/-! ### locals -/
def res (loc : Loc) : R → Option D
  | .val d => some d
  | .new ds => some (.lst ds)
  | .ref i => match loc[i]? with
    | some (.own _ ds) => some (.lst ds)
    | _ => none
def toVal : R → Option D
  | .val d => some d
  | .new ds => some (.lst ds)
  | .ref _ => none
/-- a slot that may be stored to -/
def free (loc : Loc) (i : Nat) : Bool := match loc[i]? with
  | some .none => true
  | some (.dat _) => true
  | some (.own b _) => !b
  | some (.scr _) => false
  | some .hid => false
  | none => false
def freeD (loc : Loc) (i : Nat) : Bool := match loc[i]? with
  | some .none => true
  | some (.dat _) => true
  | _ => false
def put (loc : Loc) (i : Nat) (s : Slot) : Option Loc := if free loc i then some (loc.set i s) else none
def puts : List Nat → List D → Loc → Option Loc
  | [], ds, loc => match ds with | [] => some loc | _ => none
  | i :: is, ds, loc => match ds with
    | d :: ds => match put loc i (.dat d) with
      | some loc => puts is ds loc
      | none => none
    | [] => none
def bindP : Pat → D → Loc → Option Loc
  | .v i, d, loc => put loc i (.dat d)
  | .tup is, d, loc => match d with
    | .tup ds => puts is ds loc
    | _ => none
def wipeL (loc : Loc) : List Nat → Loc
  | [] => loc
  | v :: vs => (wipeL loc vs).set v .none
/-- the slots `own` as they were in loc0 -/
def back (loc0 loc1 : Loc) : List Nat → Loc
  | [] => loc1
  | v :: vs => (back loc0 loc1 vs).set v (loc0.getD v .none)

abbrev CallS := Nat → Loc → Option (R × Loc)
def argOf (loc : Loc) : R → Option Slot
  | .val d => some (.dat d)
  | .new ds => some (.dat (.lst ds))
  | .ref i => match loc[i]? with
    | some (.own _ ds) => some (.own true ds)
    | some (.scr ns) => some (.scr ns)
    | _ => none
def argsOf (loc : Loc) : List R → Option Loc
  | [] => some []
  | r :: rs => match argOf loc r, argsOf loc rs with
    | some s, some l => some (s :: l)
    | _, _ => none
def refs : List R → List Nat
  | [] => []
  | .ref i :: rs => i :: refs rs
  | _ :: rs => refs rs
def nodupB : List Nat → Bool
  | [] => true
  | i :: is => !is.contains i && nodupB is
/-- the lent lists as they stand behind the call -/
def given : List R → Loc → Loc → Option Loc
  | [], _, loc => some loc
  | .ref i :: rs, a, loc => match a with
    | .own _ ds :: a' => match loc[i]? with
      | some (.own b _) => given rs a' (loc.set i (.own b ds))
      | _ => none
    | .scr _ :: a' => match loc[i]? with
      | some (.scr _) => given rs a' loc
      | _ => none
    | _ => none
  | _ :: rs, a, loc => match a with
    | _ :: a' => given rs a' loc
    | [] => none
def doCall (C : CallS) (f : Nat) (rs : List R) (loc : Loc) : Option (R × Loc) :=
  if nodupB (refs rs) then
    match argsOf loc rs with
    | some a => match C f a with
      | some (r, a') => match given rs a' loc with
        | some loc' => some (r, loc')
        | none => none
      | none => none
    | none => none
  else none
def isDat : Slot → Bool
  | .dat _ => true
  | _ => false
def allDat (l : Loc) : Bool := l.all isDat
def perm (p : List Nat) (rs : List R) : Option (List R) := p.mapM fun i => rs[i]?

/-- a comprehension's turns -/
def lcRun (own : List Nat) (p : Pat) (cond : Loc → Option (Bool × Loc)) (elt : Loc → Option (R × Loc)) : List D → Loc → Option (List D × Loc)
  | [], loc => some ([], loc)
  | d :: ds, loc => match bindP p d loc with
    | none => none
    | some l1 => match cond l1 with
      | none => none
      | some (true, l2) => match elt l2 with
        | none => none
        | some (r, l3) => match toVal r with
          | none => none
          | some e => match lcRun own p cond elt ds (wipeL l3 own) with
            | none => none
            | some (es, l4) => some (e :: es, l4)
      | some (false, l2) => lcRun own p cond elt ds (wipeL l2 own)
/-- a comprehension with two sources -/
def lc2Run (own : List Nat) (p : Pat) (cond : Loc → Option (Bool × Loc)) (own1 : List Nat) (src : Loc → Option (List D × Loc)) (p1 : Pat) (cond1 : Loc → Option (Bool × Loc)) (elt : Loc → Option (R × Loc)) : List D → Loc → Option (List D × Loc)
  | [], loc => some ([], loc)
  | d :: ds, loc => match bindP p d loc with
    | none => none
    | some l1 => match cond l1 with
      | none => none
      | some (true, l2) => match src l2 with
        | none => none
        | some (items, l3) => if own1.all (freeD l3) && decide (items.length ≤ big) then
            match lcRun own1 p1 cond1 elt items (wipeL l3 own1) with
            | none => none
            | some (es, l4) => match lc2Run own p cond own1 src p1 cond1 elt ds (wipeL l4 own) with
              | none => none
              | some (es', l5) => some (es ++ es', l5)
          else none
      | some (false, l2) => lc2Run own p cond own1 src p1 cond1 elt ds (wipeL l2 own)
def rngL (lo : Int) : Nat → List D
  | 0 => []
  | n + 1 => .int lo :: rngL (lo + 1) n
def enumL : Int → List D → List D
  | _, [] => []
  | k, d :: ds => .tup [.int k, d] :: enumL (k + 1) ds
def zipL : List D → List D → List D
  | x :: xs, y :: ys => .tup [x, y] :: zipL xs ys
  | _, _ => []

/-! lists handed in as plain data -/
mutual
def noLst : D → Bool
  | .tup ds => noLsts ds
  | .lst _ => false
  | .ins _ fs => noLsts fs
  | _ => true
def noLsts : List D → Bool
  | [] => true
  | d :: ds => noLst d && noLsts ds
end
def thawR : R → Bool
  | .val d => noLst d
  | .new es => noLsts es
  | .ref _ => false
def slotOk (s t : Slot) : Bool := match t with
  | .none => true
  | .own _ es => noLsts es
  | .dat d => match s with
    | .dat _ => true
    | _ => noLst d
  | .scr _ => match s with
    | .scr _ => true
    | _ => false
  | .hid => match s with
    | .hid => true
    | _ => false
def thawB (i : Nat) : Nat → Loc → Loc → Bool
  | k, a, b => match b with
    | [] => true
    | t :: b => match a with
      | [] => false
      | s :: a => (k == i || slotOk s t) && thawB i (k + 1) a b
mutual
def ev (G : Nat → D) (C : CallS) : ME → Loc → Option (R × Loc)
  | .c d, loc => some (.val d, loc)
  | .g k, loc => some (.val (G k), loc)
  | .v i, loc => match loc[i]? with
    | some (.dat d) => some (.val d, loc)
    | _ => none
  | .r i, loc => match loc[i]? with
    | some (.own _ _) => some (.ref i, loc)
    | some (.scr _) => some (.ref i, loc)
    | some (.dat d) => some (.val d, loc)
    | _ => none
  | .fz i, loc => match loc[i]? with
    | some (.own false ds) => some (.val (.lst ds), loc.set i (.dat (.lst ds)))
    | some (.dat d) => some (.val d, loc)
    | _ => none
  | .tup es, loc => match evs G C es loc with
    | some (rs, l1) => match rs.mapM toVal with
      | some ds => some (.val (.tup ds), l1)
      | none => none
    | none => none
  | .lst es, loc => match evs G C es loc with
    | some (rs, l1) => match rs.mapM toVal with
      | some ds => some (.new ds, l1)
      | none => none
    | none => none
  | .o1 o a, loc => match ev G C a loc with
    | some (r, l1) => match res l1 r with
      | some d => match ap1 o d with
        | some r' => some (r', l1)
        | none => none
      | none => none
    | none => none
  | .o2 o a b, loc => match ev G C a loc with
    | some (r, l1) => match ev G C b l1 with
      | some (r', l2) => match res l2 (sett r), res l2 r' with
        | some d, some e => match ap2 o d e with
          | some r'' => some (r'', l2)
          | none => none
        | _, _ => none
      | none => none
    | none => none
  | .ch o o' a b c, loc => match ev G C a loc with
    | some (ra, l1) => match ev G C b l1 with
      | some (rb, l2) => match res l2 (sett ra), res l2 rb with
        | some d, some e => match ap2 o d e with
          | some (.val (.bl true)) => match ev G C c l2 with
            | some (rc, l3) => match res l3 (sett rb), res l3 rc with
              | some e', some f => match ap2 o' e' f with
                | some (.val (.bl k)) => some (.val (.bl k), l3)
                | _ => none
              | _, _ => none
            | none => none
          | some (.val (.bl false)) => some (.val (.bl false), l2)
          | _ => none
        | _, _ => none
      | none => none
    | none => none
  | .sl a lo hi, loc => match ev G C a loc with
    | some (r, l1) => match evo G C lo l1 with
      | some (x, l2) => match evo G C hi l2 with
        | some (y, l3) => match res l3 (sett r) with
          | some d => match apSl d x y with
            | some r' => some (r', l3)
            | none => none
          | none => none
        | none => none
      | none => none
    | none => none
  | .and a b, loc => match ev G C a loc with
    | some (r, l1) => match res l1 r with
      | some d => match truth d with
        | some true => ev G C b l1
        | some false => some (sett r, l1)
        | none => none
      | none => none
    | none => none
  | .or a b, loc => match ev G C a loc with
    | some (r, l1) => match res l1 r with
      | some d => match truth d with
        | some true => some (sett r, l1)
        | some false => ev G C b l1
        | none => none
      | none => none
    | none => none
  | .not a, loc => match ev G C a loc with
    | some (r, l1) => match res l1 r with
      | some d => match truth d with
        | some k => some (.val (.bl (!k)), l1)
        | none => none
      | none => none
    | none => none
  | .ite c a b, loc => match ev G C c loc with
    | some (r, l1) => match res l1 r with
      | some d => match truth d with
        | some true => ev G C a l1
        | some false => ev G C b l1
        | none => none
      | none => none
    | none => none
  | .call f as, loc => match evs G C as loc with
    | some (rs, l1) => doCall C f rs l1
    | none => none
  | .callK f as ks p, loc => match evs G C as loc with
    | some (rs, l1) => match evs G C ks l1 with
      | some (ss, l2) => match perm p (rs ++ ss) with
        | some ts => doCall C f ts l2
        | none => none
      | none => none
    | none => none
  | .lc own p it cs elt, loc => match evI G C it loc with
    | some (items, l1) => if own.all (freeD l1) && decide (items.length ≤ big) then
        match lcRun own p (evC G C cs) (ev G C elt) items (wipeL l1 own) with
        | some (ds, l2) => some (.new ds, back l1 l2 own)
        | none => none
      else none
    | none => none
  | .app i e, loc => match loc[i]? with
    | some (.own _ _) => match ev G C e loc with
      | some (r, l1) => match toVal r, l1[i]? with
        | some d, some (.own b ds) => if ds.length < big then some (.val .non, l1.set i (.own b (ds ++ [d]))) else none
        | _, _ => none
      | none => none
    | _ => none
  | .pop i, loc => match loc[i]? with
    | some (.own b ds) => match ds.getLast? with
      | some d => some (.val d, loc.set i (.own b ds.dropLast))
      | none => none
    | _ => none
  | .popAt i e, loc => match loc[i]? with
    | some (.own _ _) => match ev G C e loc with
      | some (.val (.int k), l1) => match l1[i]? with
        | some (.own b ds) => if 0 ≤ k ∧ k < 2 ^ 62 then match ds[k.toNat]? with
          | some d => some (.val d, l1.set i (.own b (ds.eraseIdx k.toNat)))
          | none => none
          else none
        | _ => none
      | _ => none
    | _ => none
  | .clear i, loc => match loc[i]? with
    | some (.own b ds) => some (.val .non, loc.set i (.own b []))
    | _ => none
  | .ext i e, loc => match loc[i]? with
    | some (.own _ _) => match ev G C e loc with
      | some (r, l1) => match toVal r, l1[i]? with
        | some (.lst es), some (.own b ds) => if ds.length + es.length ≤ big then some (.val .non, l1.set i (.own b (ds ++ es))) else none
        | _, _ => none
      | none => none
    | _ => none
  | .sIx i e, loc => match loc[i]? with
    | some (.scr ns) => match ev G C e loc with
      | some (.val (.int k), l1) => if 0 ≤ k then match ns[k.toNat]? with
        | some n => some (.val (.int n), l1)
        | none => none
        else none
      | _ => none
    | _ => none
  | .sLen i, loc => match loc[i]? with
    | some (.scr ns) => some (.val (.int ns.length), loc)
    | _ => none
  | .sSl i lo hi, loc => match loc[i]? with
    | some (.scr ns) => match evo G C lo loc with
      | some (x, l1) => match evo G C hi l1 with
        | some (y, l2) => some (.new (cutD (ns.map D.int) x y), l2)
        | none => none
      | none => none
    | _ => none
  | .lc2 own p it cs own1 p1 it1 cs1 elt, loc => match evI G C it loc with
    | some (items, l1) => if own.all (freeD l1) && decide (items.length ≤ big) then
        match lc2Run own p (evC G C cs) own1 (evI G C it1) p1 (evC G C cs1) (ev G C elt) items (wipeL l1 own) with
        | some (ds, l2) => if ds.length ≤ big then some (.new ds, back l1 l2 own) else none
        | none => none
      else none
    | none => none
  | .mxD mx a d, loc => match ev G C a loc with
    | some (r, l1) => match ev G C d l1 with
      | some (r', l2) => match res l2 (sett r), toVal r' with
        | some x, some y => match seqInts x with
          | some [] => some (.val y, l2)
          | some (n :: ms) => some (.val (.int (mxI mx n ms)), l2)
          | none => none
        | _, _ => none
      | none => none
    | none => none
  | .thaw i a, loc => match ev G C a loc with
    | some (r, l1) => match loc[i]?, l1[i]? with
      | some (.own false _), some (.dat (.lst ds)) => if noLsts ds && thawR r && thawB i 0 loc l1 then some (r, l1.set i (.own false ds)) else none
      | _, _ => none
    | none => none
  | .fld tb a, loc => match ev G C a loc with
    | some (.val (.ins c fs), l1) => match tb.lookup c with
      | some k => match fs[k]? with
        | some d => some (.val d, l1)
        | none => none
      | none => none
    | _ => none
  | .meth tb a as, loc => match ev G C a loc with
    | some (.val (.ins c fs), l1) => match tb.lookup c with
      | some f => match evs G C as l1 with
        | some (rs, l2) => doCall C f (.val (.ins c fs) :: rs) l2
        | none => none
      | none => none
    | _ => none
  | .make c f as, loc => match evs G C as loc with
    | some (rs, l1) => match argsOf l1 rs with
      | some a => if allDat a then
          match C f a with
          | some (.val (.ins c' ds), _) => if c' = c then some (.val (.ins c ds), l1) else none
          | _ => none
        else none
      | none => none
    | none => none
  | .sumR (.rng1 a), loc => match ev G C a loc with
    | some (.val (.int n), l1) => if small n && decide (n.toNat ≤ big) then some (.val (.int (rsum 0 n.toNat)), l1) else none
    | _ => none
  | .sumR _, loc => none
  | .ch3 o o' o'' a b c d, loc => match ev G C a loc with
    | some (ra, l1) => match ev G C b l1 with
      | some (rb, l2) => match res l2 (sett ra), res l2 rb with
        | some x, some y => match ap2 o x y with
          | some (.val (.bl true)) => match ev G C c l2 with
            | some (rc, l3) => match res l3 (sett rb), res l3 rc with
              | some y', some z => match ap2 o' y' z with
                | some (.val (.bl true)) => match ev G C d l3 with
                  | some (rd, l4) => match res l4 (sett rc), res l4 rd with
                    | some z', some w => match ap2 o'' z' w with
                      | some (.val (.bl k)) => some (.val (.bl k), l4)
                      | _ => none
                    | _, _ => none
                  | none => none
                | some (.val (.bl false)) => some (.val (.bl false), l3)
                | _ => none
              | _, _ => none
            | none => none
          | some (.val (.bl false)) => some (.val (.bl false), l2)
          | _ => none
        | _, _ => none
      | none => none
    | none => none
  | .ins0 i e, loc => match loc[i]? with
    | some (.own _ _) => match ev G C e loc with
      | some (r, l1) => match toVal r, l1[i]? with
        | some d, some (.own b ds) => if ds.length < big then some (.val .non, l1.set i (.own b (d :: ds))) else none
        | _, _ => none
      | none => none
    | _ => none
  | .dropc a, loc => match ev G C a loc with
    | some (.new _, l1) => some (.val .non, l1)
    | _ => none
  | .dropa a b, loc => match ev G C a loc with
    | some (.new ds, l1) => match ev G C b l1 with
      | some (r, l2) => match toVal r with
        | some _ => if ds.length < big then some (.val .non, l2) else none
        | none => none
      | none => none
    | _ => none
  | .eqI ne tb a b, loc => match ev G C a loc with
    | some (.val (.ins c fs), l1) => match ev G C b l1 with
      | some (.val (.ins c' gs), l2) => match tb.lookup c with
        | some f => if c' = c then
            match doCall C f [.val (.ins c fs), .val (.ins c gs)] l2 with
            | some (.val (.bl x), l3) => some (.val (.bl (if ne then !x else x)), l3)
            | _ => none
          else none
        | none => none
      | _ => none
    | _ => none
  | .mn3 a b c, loc => match ev G C a loc with
    | some (.val (.int i), l1) => match ev G C b l1 with
      | some (.val (.int j), l2) => match ev G C c l2 with
        | some (.val (.int k), l3) => some (.val (.int (if k < (if j < i then j else i) then k else (if j < i then j else i))), l3)
        | _ => none
      | _ => none
    | _ => none
  | .callD f as ds, loc => match evs G C as loc with
    | some (rs, l1) => doCall C f (rs ++ ds.map fun d => R.val d.d) l1
    | none => none
  | .bad, loc => none
  | .lrng it, loc => match evI G C it loc with
    | some (ds, l1) => if ds.length ≤ big then some (.new ds, l1) else none
    | none => none
def evs (G : Nat → D) (C : CallS) : List ME → Loc → Option (List R × Loc)
  | [], loc => some ([], loc)
  | e :: es, loc => match ev G C e loc with
    | some (r, l1) => match evs G C es l1 with
      | some (rs, l2) => some (sett r :: rs, l2)
      | none => none
    | none => none
def evo (G : Nat → D) (C : CallS) : Option ME → Loc → Option (Option Int × Loc)
  | none, loc => some (none, loc)
  | some e, loc => match ev G C e loc with
    | some (.val (.int i), l1) => some (some i, l1)
    | _ => none
def evC (G : Nat → D) (C : CallS) : List ME → Loc → Option (Bool × Loc)
  | [], loc => some (true, loc)
  | e :: es, loc => match ev G C e loc with
    | some (r, l1) => match res l1 r with
      | some d => match truth d with
        | some true => evC G C es l1
        | some false => some (false, l1)
        | none => none
      | none => none
    | none => none
def evI (G : Nat → D) (C : CallS) : IT → Loc → Option (List D × Loc)
  | .seq a, loc => match ev G C a loc with
    | some (r, l1) => match toVal r with
      | some (.lst ds) => some (ds, l1)
      | _ => none
    | none => none
  | .tpl a, loc => match ev G C a loc with
    | some (r, l1) => match toVal r with
      | some (.tup ds) => some (ds, l1)
      | _ => none
    | none => none
  | .rng1 a, loc => match ev G C a loc with
    | some (r, l1) => match r with
      | .val (.int n) => if small n then some (rngL 0 n.toNat, l1) else none
      | _ => none
    | none => none
  | .rng2 a b, loc => match ev G C a loc with
    | some (r, l1) => match ev G C b l1 with
      | some (r', l2) => match r, r' with
        | .val (.int m), .val (.int n) => if small m && small n then some (rngL m (n - m).toNat, l2) else none
        | _, _ => none
      | none => none
    | none => none
  | .enum a, loc => match ev G C a loc with
    | some (r, l1) => match toVal r with
      | some (.lst ds) => some (enumL 0 ds, l1)
      | _ => none
    | none => none
  | .zip a b, loc => match ev G C a loc with
    | some (r, l1) => match ev G C b l1 with
      | some (r', l2) => match toVal r, toVal r' with
        | some (.lst ds), some (.lst es) => some (zipL ds es, l2)
        | some (.tup ds), some (.tup es) => some (zipL ds es, l2)
        | _, _ => none
      | none => none
    | none => none
end
def evT (G : Nat → D) (C : CallS) (m : ME) (loc : Loc) : Option (Bool × Loc) := match ev G C m loc with
  | some (r, l1) => match res l1 r with
    | some d => match truth d with
      | some k => some (k, l1)
      | none => none
    | none => none
  | none => none

/-! ### statements -/
inductive MS where
  | set (p : Pat) (e : ME)
  | own (i : Nat) (e : ME)
  | par (i j : Nat) (a b : ME)
  | aug (i : Nat) (o : O2) (e : ME)
  | ex (e : ME)
  | ret (e : ME)
  | retN
  | ite (c : ME) (t f : List MS)
  | loop (p : Pat) (it : IT) (b : List MS)
  | wh (c : ME) (b : List MS)
  | put (i : Nat) (k e : ME)
  | pass
  | brk
  | cont
  | bad
  | retO (i : Nat)
  | forget (is : List Nat)
  | par3 (i j k : Nat) (a b c : ME)
  | augL (i : Nat) (e : ME)
inductive Out where
  | nx (loc : Loc)
  | rt (r : R) (loc : Loc)
  | bk (loc : Loc)
  | ct (loc : Loc)
def forRun (p : Pat) (body : Loc → Option Out) : List D → Loc → Option Out
  | [], loc => some (.nx loc)
  | d :: ds, loc => match bindP p d loc with
    | none => none
    | some l1 => match body l1 with
      | some (.nx l2) => forRun p body ds l2
      | some (.ct l2) => forRun p body ds l2
      | some (.bk l2) => some (.nx l2)
      | some (.rt r l2) => some (.rt r l2)
      | none => none
def whRun (c : Loc → Option (Bool × Loc)) (body : Loc → Option Out) : Nat → Loc → Option Out
  | 0, _ => none
  | n + 1, loc => match c loc with
    | some (true, l1) => match body l1 with
      | some (.nx l2) => whRun c body n l2
      | some (.ct l2) => whRun c body n l2
      | some (.bk l2) => some (.nx l2)
      | some (.rt r l2) => some (.rt r l2)
      | none => none
    | some (false, l1) => some (.nx l1)
    | none => none
mutual
def sx (G : Nat → D) (C : CallS) (F : Nat) : MS → Loc → Option Out
  | .set p e, loc => match ev G C e loc with
    | some (r, l1) => match toVal r with
      | some d => (bindP p d l1).map .nx
      | none => none
    | none => none
  | .own i e, loc => match ev G C e loc with
    | some (.new ds, l1) => (put l1 i (.own false ds)).map .nx
    | _ => none
  | .par i j a b, loc => match ev G C a loc with
    | some (r, l1) => match ev G C b l1 with
      | some (r', l2) => match toVal r, toVal r' with
        | some d, some e => match put l2 i (.dat d) with
          | some l3 => (put l3 j (.dat e)).map .nx
          | none => none
        | _, _ => none
      | none => none
    | none => none
  | .aug i o e, loc => match loc[i]? with
    | some (.dat d) => match ev G C e loc with
      | some (r, l1) => match d, toVal r with
        | .int x, some (.int y) => match o with
          | .add => (put l1 i (.dat (.int (x + y)))).map .nx
          | .sub => (put l1 i (.dat (.int (x - y)))).map .nx
          | _ => none
        | _, _ => none
      | none => none
    | _ => none
  | .ex e, loc => match ev G C e loc with
    | some (_, l1) => some (.nx l1)
    | none => none
  | .ret e, loc => match ev G C e loc with
    | some (r, l1) => match r with
      | .ref _ => none
      | r => some (.rt r l1)
    | none => none
  | .retN, loc => some (.rt (.val .non) loc)
  | .ite c t f, loc => match evT G C c loc with
    | some (true, l1) => sxs G C F t l1
    | some (false, l1) => sxs G C F f l1
    | none => none
  | .loop p it b, loc => match evI G C it loc with
    | some (items, l1) => forRun p (sxs G C F b) items l1
    | none => none
  | .wh c b, loc => whRun (evT G C c) (sxs G C F b) F loc
  | .put i k e, loc => match ev G C e loc with
    | some (r, l1) => match l1[i]? with
      | some (.own _ _) => match ev G C k l1 with
        | some (.val (.int n), l2) => match toVal r, l2[i]? with
          | some d, some (.own b ds) => if 0 ≤ n ∧ n < ds.length then some (.nx (l2.set i (.own b (ds.set n.toNat d)))) else none
          | _, _ => none
        | _ => none
      | _ => none
    | none => none
  | .pass, loc => some (.nx loc)
  | .brk, loc => some (.bk loc)
  | .cont, loc => some (.ct loc)
  | .bad, loc => none
  | .retO i, loc => match loc[i]? with
    | some (.own false ds) => some (.rt (.new ds) (loc.set i .none))
    | some (.dat d) => some (.rt (.val d) loc)
    | _ => none
  | .forget is, loc => if is.all (free loc) then some (.nx (wipeL loc is)) else none
  | .par3 i j k a b c, loc => match ev G C a loc with
    | some (ra, l1) => match ev G C b l1 with
      | some (rb, l2) => match ev G C c l2 with
        | some (rc, l3) => match toVal ra, toVal rb, toVal rc with
          | some x, some y, some z => match put l3 i (.dat x) with
            | some l4 => match put l4 j (.dat y) with
              | some l5 => (put l5 k (.dat z)).map .nx
              | none => none
            | none => none
          | _, _, _ => none
        | none => none
      | none => none
    | none => none
  | .augL i e, loc => match loc[i]? with
    | some (.own _ _) => match ev G C e loc with
      | some (r, l1) => match toVal r, l1[i]? with
        | some (.lst es), some (.own b ds) => if ds.length + es.length ≤ big then some (.nx (l1.set i (.own b (ds ++ es)))) else none
        | _, _ => none
      | none => none
    | _ => none
def sxs (G : Nat → D) (C : CallS) (F : Nat) : List MS → Loc → Option Out
  | [], loc => some (.nx loc)
  | s :: ss, loc => match sx G C F s loc with
    | some (.nx l1) => sxs G C F ss l1
    | o => o
end

/-! ### defs -/
structure CT where
  c : Nat
  fs : List ME
  post : List MS
structure FD where
  arity : Nat
  slots : Nat
  body : List MS
  ct : Option CT := none
/-- the lent lists behind a body -/
def lent : Loc → Loc → Option Loc
  | [], _ => some []
  | .own b _ :: a, l => match b, l with
    | true, .own true ds :: l' => match lent a l' with
      | some r => some (.own true ds :: r)
      | none => none
    | _, _ => none
  | s :: a, l => match l with
    | _ :: l' => match lent a l' with
      | some r => some (s :: r)
      | none => none
    | [] => none
def runFD (G : Nat → D) (C : CallS) (F : Nat) (d : FD) (a : Loc) : Option (R × Loc) :=
  if a.length = d.arity then
    match sxs G C F d.body (a ++ List.replicate (d.slots - d.arity) .none) with
    | some (.rt r l) => match lent a l with
      | some a' => some (r, a')
      | none => none
    | some (.nx l) => match lent a l with
      | some a' => some (.val .non, a')
      | none => none
    | _ => none
  else none
/-- a def that makes a new instance: what goes ahead, the fields, what comes behind -/
def ctRun (G : Nat → D) (C : CallS) (F : Nat) (c : Nat) (post : List MS) : List MS → List ME → List D → Loc → Option (List D)
  | m :: pre, fs, acc, loc => match sx G C F m loc with
    | some (.nx l1) => ctRun G C F c post pre fs acc l1
    | _ => none
  | [], fs, acc, loc => ctRunF fs acc loc
where ctRunF : List ME → List D → Loc → Option (List D)
  | e :: fs, acc, loc => match ev G C e loc with
    | some (r, l1) => match toVal r with
      | some d => ctRunF fs (acc ++ [d]) l1
      | none => none
    | none => none
  | [], acc, loc => match sxs G C F post (loc.set 0 (.dat (.ins c acc))) with
    | some (.nx _) => some acc
    | _ => none
def runCT (G : Nat → D) (C : CallS) (F : Nat) (d : FD) (ct : CT) (a : Loc) : Option (R × Loc) :=
  if a.length + 1 = d.arity then
    if allDat a then
      match ctRun G C F ct.c ct.post d.body ct.fs [] (.hid :: (a ++ List.replicate (d.slots - d.arity) .none)) with
      | some ds => some (.val (.ins ct.c ds), a)
      | none => none
    else none
  else none
def callN (G : Nat → D) (T : List FD) (F : Nat) : Nat → CallS
  | 0, _, _ => none
  | n + 1, f, a => match T[f]? with
    | some d => match d.ct with
      | none => runFD G (callN G T F n) F d a
      | some ct => match n with
        | 0 => none
        | m + 1 => runCT G (callN G T F m) F d ct a
    | none => none
end MP

namespace MP
open PySem PySem.Spec PyProof.Rows L2

variable {P : RP} {L L' : Addr → Prop} {H H' : Hp}
/-- the value of an operand: a list may be one that still changes -/
def RepW (P : RP) (L : Addr → Prop) (H : Hp) : D → V → Prop
  | .lst ds, v => ∃ a vs, v = .ref a ∧ H a = some (.lst vs) ∧ Reps P L H ds vs
  | d, v => Rep P L H d v
theorem Rep.w {d : D} {v : V} (h : Rep P L H d v) : RepW P L H d v := by
  cases d with
  | lst ds =>
    unfold Rep at h
    obtain ⟨a, vs, e, t, _, r⟩ := h
    exact ⟨a, vs, e, t, r⟩
  | _ => exact h
def OpPost (P : RP) (L : Addr → Prop) (H : Hp) : R → V → Hp → Prop
  | .val d, v, H' => Same H H' ∧ Rep P L H' d v
  | .new ds, v, H' => ∃ p vs, v = .ref p ∧ H p = none ∧ H' = upd H p (.lst vs) ∧ Reps P L H ds vs
  | .ref _, _, _ => False
theorem OpPost.val {d : D} {v : V} (h : Rep P L H d v) : OpPost P L H (.val d) v H := ⟨Same.refl H, h⟩
theorem OpPost.tup {ds : List D} {vs : List V} {p : Addr} (hL : ∀ b, L b → ∃ o, H b = some o) (hp : H p = none) (h : Reps P L H ds vs) : OpPost P L H (.val (.tup ds)) (.ref p) (upd H p (.tup vs)) := by
  refine ⟨same_upd hp, ?_⟩
  unfold Rep
  refine ⟨p, vs, rfl, .inl ⟨upd_same, fun z => ?_⟩, Reps.same (same_upd hp) h⟩
  obtain ⟨o, e⟩ := hL p z
  rw [hp] at e; cases e
theorem OpPost.lst {ds : List D} {vs : List V} {p : Addr} (hp : H p = none) (h : Reps P L H ds vs) : OpPost P L H (.new ds) (.ref p) (upd H p (.lst vs)) :=
  ⟨p, vs, rfl, hp, rfl, h⟩

/-- a two-place operation by data -/
def rD2 (P : RP) (f : D → D → Option R) : R2 := fun x y H Q => ∃ (L : Addr → Prop) (d e : D) (r : R), (∀ b, L b → ∃ o, H b = some o) ∧ RepW P L H d x ∧ RepW P L H e y ∧ f d e = some r ∧ ∀ v H', OpPost P L H r v H' → Q v H'
def rD1 (P : RP) (f : D → Option R) : V → Hp → VK → Prop := fun x H Q => ∃ (L : Addr → Prop) (d : D) (r : R), (∀ b, L b → ∃ o, H b = some o) ∧ RepW P L H d x ∧ f d = some r ∧ ∀ v H', OpPost P L H r v H' → Q v H'

theorem big_line {n : Nat} (h : n ≤ big) : n ≤ sizeLine := Nat.le_trans h (by rw [sizeLine_eq]; decide)
theorem big_lt {n : Nat} (h : n < big) : n < sizeLine := Nat.lt_of_lt_of_le h (by rw [sizeLine_eq]; decide)

/-! ### data compared -/
mutual
theorem plain_lay : ∀ (n : Nat) (d : D), D.plain n d = true → (toPy d).canLay0 = true ∧ (toPy d).depth ≤ n
  | _, .non, _ => ⟨by simp [toPy, PyData.canLay0], by simp [toPy, PyData.depth]⟩
  | _, .bl _, _ => ⟨by simp [toPy, PyData.canLay0], by simp [toPy, PyData.depth]⟩
  | _, .int _, _ => ⟨by simp [toPy, PyData.canLay0], by simp [toPy, PyData.depth]⟩
  | _, .str x, h => ⟨by simpa [toPy, PyData.canLay0, D.plain] using h, by simp [toPy, PyData.depth]⟩
  | 0, .tup ds, h => by simp [D.plain] at h
  | n + 1, .tup ds, h => by
    have := plains_lay n ds (by simpa [D.plain] using h)
    simp only [toPy, PyData.canLay0, PyData.depth]
    exact ⟨this.1, by omega⟩
  | 0, .lst ds, h => by simp [D.plain] at h
  | n + 1, .lst ds, h => by
    have := plains_lay n ds (by simpa [D.plain] using h)
    simp only [toPy, PyData.canLay0, PyData.depth]
    exact ⟨this.1, by omega⟩
  | n, .ins _ _, h => by simp [D.plain] at h
theorem plains_lay : ∀ (n : Nat) (ds : List D), D.plains n ds = true → PyData.canLayAll0 (toPys ds) = true ∧ PyData.depthAll (toPys ds) ≤ n
  | _, [], _ => ⟨by simp [toPys, PyData.canLayAll0], by simp [toPys, PyData.depthAll]⟩
  | n, d :: ds, h => by
    have h' : D.plain n d = true ∧ D.plains n ds = true := by simpa [D.plains] using h
    have h1 := plain_lay n d h'.1
    have h2 := plains_lay n ds h'.2
    simp only [toPys, PyData.canLayAll0, PyData.depthAll]
    exact ⟨by simp [h1.1, h2.1], by omega⟩
end
theorem plain_shaped {d : D} (h : D.plain 8 d = true) : SeqAt.shaped (toPy d) = true := by
  have := plain_lay 8 d h
  unfold SeqAt.shaped
  rw [Bool.and_eq_true]
  exact ⟨this.1, decide_eq_true (by omega)⟩
mutual
theorem rep_dp : ∀ (n : Nat) (d : D) (v : V), D.plain n d = true → Rep P L H d v → Dp P.K H v (toPy d)
  | _, .non, v, _, h => by unfold Rep at h; subst h; exact Dp.non
  | _, .bl _, v, _, h => by unfold Rep at h; subst h; exact Dp.bl _
  | _, .int _, v, _, h => by unfold Rep at h; subst h; exact Dp.int _
  | _, .str _, v, _, h => by unfold Rep at h; subst h; exact Dp.str _
  | 0, .tup ds, _, h, _ => by simp [D.plain] at h
  | n + 1, .tup ds, v, hp, h => by
    unfold Rep at h
    obtain ⟨a, vs, rfl, t, r⟩ := h
    simp only [toPy]
    exact Dp.tup t.sq (reps_dp n ds vs (by simpa [D.plain] using hp) r)
  | 0, .lst ds, _, h, _ => by simp [D.plain] at h
  | n + 1, .lst ds, v, hp, h => by
    unfold Rep at h
    obtain ⟨a, vs, rfl, t, _, r⟩ := h
    simp only [toPy]
    exact Dp.lst (SqL.of t) (reps_dp n ds vs (by simpa [D.plain] using hp) r)
  | n, .ins _ _, _, h, _ => by simp [D.plain] at h
theorem reps_dp : ∀ (n : Nat) (ds : List D) (vs : List V), D.plains n ds = true → Reps P L H ds vs → DpAll P.K H vs (toPys ds)
  | _, [], vs, _, h => by unfold Reps at h; subst h; exact DpAll.nil
  | n, d :: ds, vs, hp, h => by
    have h' : D.plain n d = true ∧ D.plains n ds = true := by simpa [D.plains] using hp
    unfold Reps at h
    obtain ⟨v, r, rfl, h1, h2⟩ := h
    simp only [toPys]
    exact DpAll.cons (rep_dp n d v h'.1 h1) (reps_dp n ds r h'.2 h2)
end
theorem repw_dp {d : D} {v : V} (hp : D.plain 8 d = true) (h : RepW P L H d v) : Dp P.K H v (toPy d) := by
  cases d with
  | lst ds =>
    obtain ⟨a, vs, rfl, t, r⟩ := h
    simp only [toPy]
    exact Dp.lst (SqL.of t) (reps_dp 7 ds vs (by simpa [D.plain] using hp) r)
  | _ => exact rep_dp (L := L) 8 _ v hp h
mutual
theorem beq_eqv : ∀ (n m : Nat) (d e : D), D.plain n d = true → D.plain m e = true → D.beq d e = PyData.eqv (toPy d) (toPy e)
  | _, _, .non, e, _, he => by cases e <;> simp_all [D.beq, toPy, PyData.eqv, D.plain]
  | _, _, .bl a, e, _, he => by cases e <;> simp_all [D.beq, toPy, PyData.eqv, D.plain]
  | _, _, .int a, e, _, he => by cases e <;> simp_all [D.beq, toPy, PyData.eqv, D.plain]
  | _, _, .str a, e, _, he => by
    cases e <;> simp_all [D.beq, toPy, PyData.eqv, D.plain]
    rw [Bool.eq_iff_iff]; simp
  | 0, _, .tup ds, _, h, _ => by simp [D.plain] at h
  | n + 1, m, .tup ds, e, h, he => by
    cases e with
    | tup es =>
      cases m with
      | zero => simp [D.plain] at he
      | succ m =>
        simp only [D.beq, toPy, PyData.eqv]
        exact beqs_eqv n m ds es (by simpa [D.plain] using h) (by simpa [D.plain] using he)
    | ins _ _ => simp [D.plain] at he
    | _ => simp_all [D.beq, toPy, PyData.eqv, D.plain]
  | 0, _, .lst ds, _, h, _ => by simp [D.plain] at h
  | n + 1, m, .lst ds, e, h, he => by
    cases e with
    | lst es =>
      cases m with
      | zero => simp [D.plain] at he
      | succ m =>
        simp only [D.beq, toPy, PyData.eqv]
        exact beqs_eqv n m ds es (by simpa [D.plain] using h) (by simpa [D.plain] using he)
    | ins _ _ => simp [D.plain] at he
    | _ => simp_all [D.beq, toPy, PyData.eqv, D.plain]
  | _, _, .ins _ _, _, h, _ => by simp [D.plain] at h
theorem beqs_eqv : ∀ (n m : Nat) (d e : List D), D.plains n d = true → D.plains m e = true → D.beqs d e = PyData.eqvAll (toPys d) (toPys e)
  | _, _, [], e, _, _ => by cases e <;> simp [D.beqs, toPys, PyData.eqvAll]
  | n, m, d :: ds, e, h, he => by
    cases e with
    | nil => simp [D.beqs, toPys, PyData.eqvAll]
    | cons e es =>
      have h1 : D.plain n d = true ∧ D.plains n ds = true := by simpa [D.plains] using h
      have h2 : D.plain m e = true ∧ D.plains m es = true := by simpa [D.plains] using he
      simp only [D.beqs, toPys, PyData.eqvAll]
      rw [beq_eqv n m d e h1.1 h2.1, beqs_eqv n m ds es h1.2 h2.2]
end
theorem any_eqv (n m : Nat) (d : D) (hd : D.plain m d = true) : ∀ (ds : List D), D.plains n ds = true → (ds.any fun y => D.beq y d) = (toPys ds).any fun z => PyData.eqv z (toPy d)
  | [], _ => by simp [toPys]
  | e :: es, h => by
    have h1 : D.plain n e = true ∧ D.plains n es = true := by simpa [D.plains] using h
    simp only [toPys, List.any_cons]
    rw [any_eqv n m d hd es h1.2, beq_eqv n m e d h1.1 hd]

theorem int_of {v : V} {i : Int} (h : RepW P L H (.int i) v) : v = .int i := by
  have : Rep P L H (.int i) v := h
  unfold Rep at this; exact this
theorem bl_of {v : V} {i : Bool} (h : RepW P L H (.bl i) v) : v = .bl i := by
  have : Rep P L H (.bl i) v := h
  unfold Rep at this; exact this
theorem str_of {v : V} {x : Str} (h : RepW P L H (.str x) v) : v = .str x := by
  have : Rep P L H (.str x) v := h
  unfold Rep at this; exact this
theorem non_of {v : V} (h : RepW P L H .non v) : v = .non := by
  have : Rep P L H .non v := h
  unfold Rep at this; exact this
theorem tup_of {v : V} {ds : List D} (h : RepW P L H (.tup ds) v) : ∃ a vs, v = .ref a ∧ TupAt P.K L H a vs ∧ Reps P L H ds vs := by
  have : Rep P L H (.tup ds) v := h
  unfold Rep at this; exact this
theorem rep_int {i : Int} : Rep P L H (.int i) (.int i) := by unfold Rep; rfl
theorem rep_bl {i : Bool} : Rep P L H (.bl i) (.bl i) := by unfold Rep; rfl
theorem rep_non : Rep P L H .non .non := by unfold Rep; rfl

/-! ### the operators -/
section
variable {X : Cx} {k : Nat}
theorem d_add (hK : P.K = X.K) : OpR X (binaryOp .Add) (rD2 P (ap2 .add)) := by
  intro pins s σ H x y v u Q I rx ry h
  obtain ⟨L, d, e, r, hL, hd, he, hf, q⟩ := h
  cases d with
  | int i =>
    cases e with
    | int j =>
      have hf : some (R.val (.int (i + j))) = some r := hf
      cases hf
      exact op_add pins s σ H x y v u Q I rx ry ⟨i, j, int_of hd, int_of he, q _ _ (.val rep_int)⟩
    | _ => exact nomatch hf
  | tup ds =>
    cases e with
    | tup es =>
      obtain ⟨a, xs, rfl, ta, ra⟩ := tup_of hd
      obtain ⟨b, ys, rfl, tb, rb⟩ := tup_of he
      have hf : (if ds.length + es.length ≤ big then some (R.val (.tup (ds ++ es))) else none) = some r := hf
      split at hf
      · rename_i hb
        cases hf
        rw [ra.length, rb.length] at hb
        refine op_catA pins s σ H _ _ v u Q I rx ry ⟨a, b, xs, ys, rfl, rfl, hK ▸ ta.sq, hK ▸ tb.sq, big_line hb, fun e0 => ?_, fun _ e0 => ?_, fun _ _ p hp => ?_⟩
        · subst e0
          have : ds = [] := by have := ra.length; simpa using this
          subst this
          exact q _ _ (.val he)
        · subst e0
          have : es = [] := by have := rb.length; simpa using this
          subst this
          rw [List.append_nil] at q
          exact q _ _ (.val hd)
        · exact q _ _ (.tup hL hp (ra.append rb))
      · cases hf
    | _ => exact nomatch hf
  | lst ds =>
    cases e with
    | lst es =>
      obtain ⟨a, xs, rfl, ta, ra⟩ := hd
      obtain ⟨b, ys, rfl, tb, rb⟩ := he
      have hf : (if ds.length + es.length ≤ big then some (R.new (ds ++ es)) else none) = some r := hf
      split at hf
      · rename_i hb
        cases hf
        rw [ra.length, rb.length] at hb
        exact op_cat pins s σ H _ _ v u Q I rx ry ⟨a, b, xs, ys, rfl, rfl, ta, tb, big_line hb, fun p hp => q _ _ (.lst hp (ra.append rb))⟩
      · cases hf
    | _ => exact nomatch hf
  | _ => exact nomatch hf
theorem d_int2 {op : Operator} {C : Int → Int → Prop} {g : Int → Int → Int} {f : D → D → Option R} (ho : OpR X (binaryOp op) (rI C fun i j => .int (g i j)))
    (hf : ∀ d e r, f d e = some r → ∃ i j, d = .int i ∧ e = .int j ∧ C i j ∧ r = .val (.int (g i j))) : OpR X (binaryOp op) (rD2 P f) := by
  intro pins s σ H x y v u Q I rx ry h
  obtain ⟨L, d, e, r, hL, hd, he, hr, q⟩ := h
  obtain ⟨i, j, rfl, rfl, c, rfl⟩ := hf d e r hr
  exact ho pins s σ H x y v u Q I rx ry ⟨i, j, int_of hd, int_of he, c, q _ _ (.val rep_int)⟩
theorem rI0_of {f : Value → Value → Sem Value} {g : Int → Int → V} (h : OpR X f (rI0 g)) : OpR X f (rI (fun _ _ => True) g) := by
  intro pins s σ H x y v u Q I rx ry hq
  obtain ⟨i, j, e1, e2, _, q⟩ := hq
  exact h pins s σ H x y v u Q I rx ry ⟨i, j, e1, e2, q⟩
theorem d_sub : OpR X (binaryOp .Sub) (rD2 P (ap2 .sub)) := by
  refine d_int2 (rI0_of op_sub) fun d e r h => ?_
  cases d <;> cases e <;> first | (cases h; exact ⟨_, _, rfl, rfl, trivial, rfl⟩) | exact nomatch h
theorem op_mulA : OpR X (binaryOp .Mult) (rI (fun i j => mulOk i j = true) fun i j => .int (i * j)) := by
  intro pins s σ H x y v u Q I rx ry h
  obtain ⟨i, j, e1, e2, c, q⟩ := h
  unfold mulOk at c
  simp only [Bool.or_eq_true, Bool.and_eq_true, decide_eq_true_eq] at c
  rcases c with (c | c) | c
  · exact op_mul pins s σ H x y v u Q I rx ry ⟨i, j, e1, e2, .inl c, q⟩
  · exact op_mul pins s σ H x y v u Q I rx ry ⟨i, j, e1, e2, .inr c, q⟩
  · exact op_mulW pins s σ H x y v u Q I rx ry ⟨i, j, e1, e2, c, q⟩
theorem Reps.rep {ds : List D} {vs : List V} (h : Reps P L H ds vs) : ∀ k : Nat, Reps P L H (List.replicate k ds).flatten (List.replicate k vs).flatten
  | 0 => Reps.nil
  | k + 1 => by simp only [List.replicate_succ, List.flatten_cons]; exact h.append (Reps.rep h k)
theorem d_mul : OpR X (binaryOp .Mult) (rD2 P (ap2 .mul)) := by
  intro pins s σ H x y v u Q I rx ry h
  obtain ⟨L, d, e, r, hL, hd, he, hf, q⟩ := h
  cases d with
  | int i =>
    cases e with
    | int j =>
      have hf : (if mulOk i j then some (R.val (.int (i * j))) else none) = some r := hf
      split at hf
      · rename_i hb
        cases hf
        exact op_mulA pins s σ H x y v u Q I rx ry ⟨i, j, int_of hd, int_of he, hb, q _ _ (.val rep_int)⟩
      · cases hf
    | _ => exact nomatch hf
  | lst ds =>
    cases e with
    | int k =>
      obtain ⟨a, xs, rfl, ta, ra⟩ := hd
      have hf : (if 0 ≤ k ∧ k ≤ big ∧ ds.length * k.toNat ≤ big then some (R.new (List.replicate k.toNat ds).flatten) else none) = some r := hf
      split at hf
      · rename_i hb
        cases hf
        obtain ⟨h0, h1, h2⟩ := hb
        rw [ra.length] at h2
        have hbig : (big : Int) = 1000000 := rfl
        exact op_rep pins s σ H _ _ v u Q I rx ry ⟨a, k, xs, rfl, int_of he, ta, by omega, by omega, big_line h2, fun p hp => q _ _ (.lst hp (ra.rep _))⟩
      · cases hf
    | _ => exact nomatch hf
  | _ => exact nomatch hf
theorem d_fdiv : OpR X (binaryOp .FloorDiv) (rD2 P (ap2 .fdiv)) := by
  refine d_int2 op_fdivW fun d e r h => ?_
  cases d <;> cases e <;> first | (exfalso; revert h; simp [ap2]; done) | skip
  rename_i i j
  have h : (if fdivOk j then some (R.val (.int (i / j))) else none) = some r := h
  split at h
  · rename_i c
    cases h
    unfold fdivOk at c
    simp only [Bool.and_eq_true, decide_eq_true_eq] at c
    exact ⟨i, j, rfl, rfl, c, rfl⟩
  · cases h
theorem d_mod : OpR X (binaryOp .Mod) (rD2 P (ap2 .mod)) := by
  refine d_int2 op_mod fun d e r h => ?_
  cases d <;> cases e <;> first | (exfalso; revert h; simp [ap2]; done) | skip
  rename_i i j
  have h : (if 0 < j then some (R.val (.int (i % j))) else none) = some r := h
  split at h
  · rename_i c
    cases h
    exact ⟨i, j, rfl, rfl, c, rfl⟩
  · cases h
theorem powOk_C {i j : Int} (h : powOk i j = true) : CPow i j := by
  unfold powOk at h
  simp only [Bool.and_eq_true, decide_eq_true_eq] at h
  exact ⟨h.1.1, h.1.2, h.2⟩
theorem d_pow : OpR X (binaryOp .Pow) (rD2 P (ap2 .pow)) := by
  refine d_int2 op_pow fun d e r h => ?_
  cases d <;> cases e <;> first | (exfalso; revert h; simp [ap2]; done) | skip
  rename_i i j
  have h : (if powOk i j then some (R.val (.int (i ^ j.toNat))) else none) = some r := h
  split at h
  · rename_i c
    cases h
    exact ⟨i, j, rfl, rfl, powOk_C c, rfl⟩
  · cases h
theorem d_shl : OpR X (binaryOp .LShift) (rD2 P (ap2 .shl)) := by
  refine d_int2 op_shl fun d e r h => ?_
  cases d <;> cases e <;> first | (exfalso; revert h; simp [ap2]; done) | skip
  rename_i i j
  have h : (if powOk i j then some (R.val (.int (i * 2 ^ j.toNat))) else none) = some r := h
  split at h
  · rename_i c
    cases h
    exact ⟨i, j, rfl, rfl, powOk_C c, rfl⟩
  · cases h
theorem d_shr : OpR X (binaryOp .RShift) (rD2 P (ap2 .shr)) := by
  refine d_int2 op_shr fun d e r h => ?_
  cases d <;> cases e <;> first | (exfalso; revert h; simp [ap2]; done) | skip
  rename_i i j
  have h : (if 0 ≤ j then some (R.val (.int (i / 2 ^ j.toNat))) else none) = some r := h
  split at h
  · rename_i c
    cases h
    exact ⟨i, j, rfl, rfl, c, rfl⟩
  · cases h
theorem d_band : OpR X (binaryOp .BitAnd) (rD2 P (ap2 .band)) := by
  refine d_int2 (rI0_of op_and) fun d e r h => ?_
  cases d <;> cases e <;> first | (cases h; exact ⟨_, _, rfl, rfl, trivial, rfl⟩) | exact nomatch h
def binOf : O2 → Option Operator
  | .add => some .Add | .sub => some .Sub | .mul => some .Mult | .fdiv => some .FloorDiv | .mod => some .Mod | .pow => some .Pow
  | .shl => some .LShift | .shr => some .RShift | .band => some .BitAnd
  | _ => none
theorem d_bin (hK : P.K = X.K) {o : O2} {op : Operator} (h : binOf o = some op) : OpR X (binaryOp op) (rD2 P (ap2 o)) := by
  cases o <;> simp only [binOf, reduceCtorEq, Option.some.injEq] at h <;> subst h
  · exact d_add hK
  · exact d_sub
  · exact d_mul
  · exact d_fdiv
  · exact d_mod
  · exact d_pow
  · exact d_shl
  · exact d_shr
  · exact d_band

/-! comparisons -/
theorem strEq_spec {d e : D} {k : Bool} (h : strEq d e = some k) : ∃ a b : Str, d = .str a ∧ e = .str b ∧ k = decide (a = b) := by
  unfold strEq at h
  split at h
  · cases h; exact ⟨_, _, rfl, rfl, rfl⟩
  · cases h
theorem d_eq (hK : P.K = X.K) (hu : X.A.units + 64 < cLine) : OpR X (compareOp .Eq) (rD2 P (ap2 .eq)) := by
  intro pins s σ H x y v u Q I rx ry h
  obtain ⟨L, d, e, r, hL, hd, he, hf, q⟩ := h
  have hf : (if D.plain 8 d && D.plain 8 e then some (R.val (.bl (D.beq d e))) else (strEq d e).map fun k => R.val (.bl k)) = some r := hf
  split at hf
  · rename_i c
    cases hf
    rw [Bool.and_eq_true] at c
    refine op_eqD hu pins s σ H x y v u Q I rx ry ⟨toPy d, toPy e, hK ▸ repw_dp c.1 hd, hK ▸ repw_dp c.2 he, plain_shaped c.1, plain_shaped c.2, ?_⟩
    rw [← beq_eqv 8 8 d e c.1 c.2]
    exact q _ _ (.val rep_bl)
  · obtain ⟨k, hk, rfl⟩ := Option.map_eq_some_iff.mp hf
    obtain ⟨a, b, rfl, rfl, rfl⟩ := strEq_spec hk
    obtain rfl := str_of hd
    obtain rfl := str_of he
    refine op_eq pins s σ H _ _ v u Q I rx ry ⟨rfl, ?_⟩
    have e1 : decide (V.str a = V.str b) = decide (a = b) := by simp
    rw [e1]
    exact q _ _ (.val rep_bl)
theorem d_ne (hK : P.K = X.K) (hu : X.A.units + 64 < cLine) : OpR X (compareOp .NotEq) (rD2 P (ap2 .ne)) := by
  intro pins s σ H x y v u Q I rx ry h
  obtain ⟨L, d, e, r, hL, hd, he, hf, q⟩ := h
  have hf : (if D.plain 8 d && D.plain 8 e then some (R.val (.bl (!D.beq d e))) else (strEq d e).map fun k => R.val (.bl (!k))) = some r := hf
  split at hf
  · rename_i c
    cases hf
    rw [Bool.and_eq_true] at c
    refine op_neD hu pins s σ H x y v u Q I rx ry ⟨toPy d, toPy e, hK ▸ repw_dp c.1 hd, hK ▸ repw_dp c.2 he, plain_shaped c.1, plain_shaped c.2, ?_⟩
    rw [← beq_eqv 8 8 d e c.1 c.2]
    exact q _ _ (.val rep_bl)
  · obtain ⟨k, hk, rfl⟩ := Option.map_eq_some_iff.mp hf
    obtain ⟨a, b, rfl, rfl, rfl⟩ := strEq_spec hk
    obtain rfl := str_of hd
    obtain rfl := str_of he
    refine op_ne pins s σ H _ _ v u Q I rx ry ⟨rfl, ?_⟩
    have e1 : decide (V.str a = V.str b) = decide (a = b) := by simp
    rw [e1]
    exact q _ _ (.val rep_bl)
theorem ints_spec : ∀ {ds : List D} {ns : List Int}, ints? ds = some ns → ds = ns.map D.int
  | [], ns, h => by cases h; rfl
  | d :: ds, ns, h => by
    unfold ints? at h
    split at h
    · rename_i i r h1 h2
      cases h
      rw [ints_spec h2]; rfl
    · cases h
theorem ltL_lex : ∀ a b : List Int, HT.lexLt a b = ltL a b
  | [], [] => rfl
  | [], y :: ys => rfl
  | x :: xs, [] => rfl
  | x :: xs, y :: ys => by rw [HT.lexLt_cons, ltL_lex xs ys]; rfl
theorem ltInts_spec (xs ys : List D) (b : Bool) (h : D.ltInts xs ys = some b) : ∃ ns ms : List Int, xs = ns.map D.int ∧ ys = ms.map D.int ∧ HT.lexLt ns ms = b := by
  unfold D.ltInts at h
  split at h
  · rename_i ns ms h1 h2
    cases h
    exact ⟨ns, ms, ints_spec h1, ints_spec h2, ltL_lex ns ms⟩
  · cases h
theorem d_cmpI {op : CmpOp} {f : Int → Int → Bool} (ho : OpR X (compareOp op) (rI0 fun i j => .bl (f i j))) : OpR X (compareOp op) (rD2 P (cmpI f)) := by
  intro pins s σ H x y v u Q I rx ry h
  obtain ⟨L, d, e, r, hL, hd, he, hf, q⟩ := h
  cases d <;> cases e <;> first | (exfalso; revert hf; simp [cmpI]; done) | skip
  rename_i i j
  cases hf
  exact ho pins s σ H x y v u Q I rx ry ⟨i, j, int_of hd, int_of he, q _ _ (.val rep_bl)⟩
theorem d_lt (hK : P.K = X.K) (hu : X.A.units < cLine) : OpR X (compareOp .Lt) (rD2 P (ap2 .lt)) := by
  intro pins s σ H x y v u Q I rx ry h
  obtain ⟨L, d, e, r, hL, hd, he, hf, q⟩ := h
  cases d with
  | int i =>
    cases e with
    | int j =>
      cases hf
      exact op_lt pins s σ H x y v u Q I rx ry ⟨i, j, int_of hd, int_of he, q _ _ (.val rep_bl)⟩
    | _ => exact nomatch hf
  | tup ds =>
    cases e with
    | tup es =>
      have hf : ((D.ltInts ds es).map fun k => R.val (.bl k)) = some r := hf
      obtain ⟨b, hb, rfl⟩ := Option.map_eq_some_iff.mp hf
      obtain ⟨ns, ms, rfl, rfl, e⟩ := ltInts_spec ds es b hb
      obtain ⟨a, xs, rfl, ta, ra⟩ := tup_of hd
      obtain ⟨b', ys, rfl, tb, rb⟩ := tup_of he
      obtain rfl := ra.ints
      obtain rfl := rb.ints
      refine op_ltT hu pins s σ H _ _ v u Q I rx ry ⟨a, b', ns, ms, rfl, rfl, hK ▸ ta.sq, hK ▸ tb.sq, ?_⟩
      rw [e]
      exact q _ _ (.val rep_bl)
    | _ => exact nomatch hf
  | _ => exact nomatch hf
theorem in_tup (hu : X.A.units + 65 < cLine) {pins : List (Addr × Obj)} {s : Shared} {σ : Sg} {H : Hp} {x y : V} {v u : Value} {Q : VK} (I : Inv X pins σ H s) (rx : RelV x v) (ry : RelV y u) {d : PyData} {ds : List PyData} (hd : Dp X.K H x d) (he : Dp X.K H y (.tuple ds))
    (sd : SeqAt.shaped d = true) (se : SeqAt.shaped (.tuple ds) = true) (q : Q (.bl (ds.any fun z => PyData.eqv z d)) H) : wpAny (model X.prog X.w) X.A (compareOp .In v u) (EP X pins σ Q) X.xe s := by
  obtain ⟨as, r1⟩ := Dp.reads I d x v hd rx
  obtain ⟨bs, r2⟩ := Dp.reads I (.tuple ds) y u he ry
  exact SeqAt.in_tuple_reads r2 r1 (SeqAt.canLay_of_shaped se) (SeqAt.canLay_of_shaped sd) (room_in_shaped sd hu) ⟨.bl _, H, I, rfl, q⟩
theorem notIn_tup (hu : X.A.units + 65 < cLine) {pins : List (Addr × Obj)} {s : Shared} {σ : Sg} {H : Hp} {x y : V} {v u : Value} {Q : VK} (I : Inv X pins σ H s) (rx : RelV x v) (ry : RelV y u) {d : PyData} {ds : List PyData} (hd : Dp X.K H x d) (he : Dp X.K H y (.tuple ds))
    (sd : SeqAt.shaped d = true) (se : SeqAt.shaped (.tuple ds) = true) (q : Q (.bl (!ds.any fun z => PyData.eqv z d)) H) : wpAny (model X.prog X.w) X.A (compareOp .NotIn v u) (EP X pins σ Q) X.xe s := by
  obtain ⟨as, r1⟩ := Dp.reads I d x v hd rx
  obtain ⟨bs, r2⟩ := Dp.reads I (.tuple ds) y u he ry
  exact SeqAt.notIn_tuple_reads r2 r1 (SeqAt.canLay_of_shaped se) (SeqAt.canLay_of_shaped sd) (room_in_shaped sd hu) ⟨.bl _, H, I, rfl, q⟩
theorem shaped_seq {ds : List D} (h : D.plains 8 ds = true) : SeqAt.shaped (.tuple (toPys ds)) = true ∧ SeqAt.shaped (.list (toPys ds)) = true := by
  have := plains_lay 8 ds h
  have h1 : (PyData.tuple (toPys ds)).depth = PyData.depthAll (toPys ds) + 1 := by simp only [PyData.depth]
  have h2 : (PyData.list (toPys ds)).depth = PyData.depthAll (toPys ds) + 1 := by simp only [PyData.depth]
  have h3 : (PyData.tuple (toPys ds)).canLay0 = true := by simpa only [PyData.canLay0] using this.1
  have h4 : (PyData.list (toPys ds)).canLay0 = true := by simpa only [PyData.canLay0] using this.1
  unfold SeqAt.shaped
  rw [h1, h2, h3, h4, Bool.true_and]
  exact ⟨decide_eq_true (by omega), decide_eq_true (by omega)⟩
theorem d_in (hK : P.K = X.K) (hu : X.A.units + 65 < cLine) : OpR X (compareOp .In) (rD2 P (ap2 .isin)) := by
  intro pins s σ H x y v u Q I rx ry h
  obtain ⟨L, d, e, r, hL, hd, he, hf, q⟩ := h
  cases e <;> first | (simp [ap2] at hf; done) | skip
  all_goals
    rename_i ys
    have hf : (if D.plain 8 d && D.plains 8 ys then some (R.val (.bl (ys.any fun y => D.beq y d))) else none) = some r := by simpa [ap2] using hf
    split at hf
    · rename_i c
      cases hf
      rw [Bool.and_eq_true] at c
      rw [any_eqv 8 8 d c.1 ys c.2] at q
      first
        | exact in_tup hu I rx ry (hK ▸ repw_dp c.1 hd) (by
            obtain ⟨a, xs, rfl, ta, ra⟩ := tup_of he
            exact hK ▸ Dp.tup ta.sq (reps_dp 8 ys xs c.2 ra)) (plain_shaped c.1) (shaped_seq c.2).1 (q _ _ (.val rep_bl))
        | exact op_inD hu pins s σ H x y v u Q I rx ry ⟨toPy d, toPys ys, hK ▸ repw_dp c.1 hd, (by
            obtain ⟨a, xs, rfl, ta, ra⟩ := he
            exact hK ▸ Dp.lst (SqL.of ta) (reps_dp 8 ys xs c.2 ra)), plain_shaped c.1, (shaped_seq c.2).2, q _ _ (.val rep_bl)⟩
    · cases hf
theorem d_notin (hK : P.K = X.K) (hu : X.A.units + 65 < cLine) : OpR X (compareOp .NotIn) (rD2 P (ap2 .notin)) := by
  intro pins s σ H x y v u Q I rx ry h
  obtain ⟨L, d, e, r, hL, hd, he, hf, q⟩ := h
  cases e <;> first | (simp [ap2] at hf; done) | skip
  all_goals
    rename_i ys
    have hf : (if D.plain 8 d && D.plains 8 ys then some (R.val (.bl (!ys.any fun y => D.beq y d))) else none) = some r := by simpa [ap2] using hf
    split at hf
    · rename_i c
      cases hf
      rw [Bool.and_eq_true] at c
      rw [any_eqv 8 8 d c.1 ys c.2] at q
      first
        | exact notIn_tup hu I rx ry (hK ▸ repw_dp c.1 hd) (by
            obtain ⟨a, xs, rfl, ta, ra⟩ := tup_of he
            exact hK ▸ Dp.tup ta.sq (reps_dp 8 ys xs c.2 ra)) (plain_shaped c.1) (shaped_seq c.2).1 (q _ _ (.val rep_bl))
        | exact op_notInD hu pins s σ H x y v u Q I rx ry ⟨toPy d, toPys ys, hK ▸ repw_dp c.1 hd, (by
            obtain ⟨a, xs, rfl, ta, ra⟩ := he
            exact hK ▸ Dp.lst (SqL.of ta) (reps_dp 8 ys xs c.2 ra)), plain_shaped c.1, (shaped_seq c.2).2, q _ _ (.val rep_bl)⟩
    · cases hf
end
end MP

namespace MP
open PySem PySem.Spec PyProof.Rows L2
variable {P : RP} {L L' : Addr → Prop} {H H' : Hp}

/-! ### sorting ints -/
theorem insS_perm (x : Int) : ∀ l : List Int, (insS x l).Perm (x :: l)
  | [] => List.Perm.refl _
  | y :: ys => by
    unfold insS
    split
    · exact List.Perm.refl _
    · exact ((insS_perm x ys).cons y).trans (List.Perm.swap x y ys)
theorem sortS_perm : ∀ l : List Int, (sortS l).Perm l
  | [] => List.Perm.refl _
  | x :: xs => (insS_perm x (sortS xs)).trans ((sortS_perm xs).cons x)
theorem insS_pw (x : Int) : ∀ l : List Int, l.Pairwise (· ≤ ·) → (insS x l).Pairwise (· ≤ ·)
  | [], _ => by unfold insS; exact List.pairwise_singleton _ _
  | y :: ys, h => by
    have h' := List.pairwise_cons.mp h
    unfold insS
    split
    · rename_i hxy
      refine List.pairwise_cons.mpr ⟨fun z hz => ?_, h⟩
      rcases List.mem_cons.mp hz with rfl | hz
      · exact hxy
      · exact Int.le_trans hxy (h'.1 z hz)
    · rename_i hxy
      refine List.pairwise_cons.mpr ⟨fun z hz => ?_, insS_pw x ys h'.2⟩
      rcases List.mem_cons.mp ((insS_perm x ys).mem_iff.mp hz) with rfl | hz
      · omega
      · exact h'.1 z hz
theorem sortS_pw : ∀ l : List Int, (sortS l).Pairwise (· ≤ ·)
  | [] => by unfold sortS; exact List.Pairwise.nil
  | x :: xs => insS_pw x _ (sortS_pw xs)
theorem sorted_uniq : ∀ {l m : List Int}, l.Perm m → l.Pairwise (· ≤ ·) → m.Pairwise (· ≤ ·) → l = m
  | [], m, p, _, _ => (List.perm_nil.mp p.symm).symm
  | x :: xs, [], p, _, _ => absurd p.length_eq (by simp)
  | x :: xs, y :: ys, p, hl, hm => by
    have hl' := List.pairwise_cons.mp hl
    have hm' := List.pairwise_cons.mp hm
    have e : x = y := by
      have h1 : x ∈ y :: ys := p.mem_iff.mp List.mem_cons_self
      have h2 : y ∈ x :: xs := p.mem_iff.mpr List.mem_cons_self
      rcases List.mem_cons.mp h1 with h1 | h1
      · exact h1
      rcases List.mem_cons.mp h2 with h2 | h2
      · exact h2.symm
      · exact Int.le_antisymm (hl'.1 y h2) (hm'.1 x h1)
    subst e
    rw [sorted_uniq (List.Perm.cons_inv p) hl'.2 hm'.2]
theorem sortS_is {l m : List Int} (p : m.Perm l) (h : m.Pairwise (· ≤ ·)) : m = sortS l := sorted_uniq (p.trans (sortS_perm l).symm) h (sortS_pw l)

theorem bls_spec : ∀ {ds : List D} {ns : List Bool}, bls? ds = some ns → ds = ns.map D.bl
  | [], ns, h => by cases h; rfl
  | d :: ds, ns, h => by
    unfold bls? at h
    split at h
    · rename_i i r h1 h2
      cases h
      rw [bls_spec h2]; rfl
    · cases h

def r1 (P : RP) (f : D → Option R) : List V → Hp → VK → Prop := fun xs H Q => ∃ x, xs = [x] ∧ rD1 P f x H Q
section
variable {X : Cx}
theorem seq_of (hK : P.K = X.K) {d : D} {x : V} (h : RepW P L H d x) : (∀ ds, d = .tup ds → ∃ a vs, x = .ref a ∧ SqT X.K H a vs ∧ Reps P L H ds vs) ∧ (∀ ds, d = .lst ds → ∃ a vs, x = .ref a ∧ H a = some (.lst vs) ∧ Reps P L H ds vs) := by
  refine ⟨fun ds e => ?_, fun ds e => ?_⟩
  · subst e
    obtain ⟨a, vs, rfl, t, r⟩ := tup_of h
    exact ⟨a, vs, rfl, hK ▸ t.sq, r⟩
  · subst e; exact h
theorem c_len (hK : P.K = X.K) : CallR X (.builtin "len") (r1 P (ap1 .len)) := by
  intro pins s σ H xs us Q I r h
  obtain ⟨x, rfl, L, d, r', hL, hd, hf, q⟩ := h
  cases d <;> first | (exfalso; revert hf; simp [ap1]; done) | skip
  · obtain ⟨a, vs, rfl, t, rr⟩ := tup_of hd
    simp only [ap1, Option.some.injEq] at hf
    subst hf
    rw [rr.length] at q
    exact call_len_seq pins s σ H _ us Q I r ⟨a, vs, rfl, .inr (hK ▸ t.sq), q _ _ (.val rep_int)⟩
  · obtain ⟨a, vs, rfl, t, rr⟩ := hd
    simp only [ap1, Option.some.injEq] at hf
    subst hf
    rw [rr.length] at q
    exact call_len_seq pins s σ H _ us Q I r ⟨a, vs, rfl, .inl (SqL.of t), q _ _ (.val rep_int)⟩
theorem c_int : CallR X (.type "int") (r1 P (ap1 .int)) := by
  intro pins s σ H xs us Q I r h
  obtain ⟨x, rfl, L, d, r', hL, hd, hf, q⟩ := h
  cases d <;> first | (exfalso; revert hf; simp [ap1]; done) | skip
  · simp only [ap1, Option.some.injEq] at hf
    subst hf
    exact call_int1 pins s σ H _ us Q I r (.inr ⟨_, by rw [bl_of hd], q _ _ (.val rep_int)⟩)
  · simp only [ap1, Option.some.injEq] at hf
    subst hf
    exact call_int1 pins s σ H _ us Q I r (.inl ⟨_, by rw [int_of hd], q _ _ (.val rep_int)⟩)
theorem c_bool : CallR X (.type "bool") (r1 P (ap1 .bool)) := by
  intro pins s σ H xs us Q I r h
  obtain ⟨x, rfl, L, d, r', hL, hd, hf, q⟩ := h
  cases d <;> first | (exfalso; revert hf; simp [ap1]; done) | skip
  simp only [ap1, Option.some.injEq] at hf
  subst hf
  exact call_bool1 pins s σ H _ us Q I r (.inr ⟨_, by rw [bl_of hd], q _ _ (.val rep_bl)⟩)
theorem c_list (hK : P.K = X.K) : CallR X (.type "list") (r1 P (ap1 .list)) := by
  intro pins s σ H xs us Q I r h
  obtain ⟨x, rfl, L, d, r', hL, hd, hf, q⟩ := h
  cases d <;> first | (exfalso; revert hf; simp [ap1]; done) | skip
  · obtain ⟨a, vs, rfl, t, rr⟩ := tup_of hd
    simp only [ap1, Option.some.injEq] at hf
    subst hf
    exact call_list_of pins s σ H _ us Q I r ⟨a, vs, rfl, .inr (hK ▸ t.sq), fun p hp => q _ _ (.lst hp rr)⟩
  · obtain ⟨a, vs, rfl, t, rr⟩ := hd
    simp only [ap1, Option.some.injEq] at hf
    subst hf
    exact call_list_of pins s σ H _ us Q I r ⟨a, vs, rfl, .inl (SqL.of t), fun p hp => q _ _ (.lst hp rr)⟩
theorem c_tuple (hK : P.K = X.K) : CallR X (.type "tuple") (r1 P (ap1 .tuple)) := by
  intro pins s σ H xs us Q I r h
  obtain ⟨x, rfl, L, d, r', hL, hd, hf, q⟩ := h
  cases d <;> first | (exfalso; revert hf; simp [ap1]; done) | skip
  · obtain ⟨a, vs, rfl, t, rr⟩ := tup_of hd
    simp only [ap1, Option.some.injEq] at hf
    subst hf
    exact call_tuple_of pins s σ H _ us Q I r ⟨a, vs, rfl, .inr ⟨hK ▸ t.sq, q _ _ (.val hd)⟩⟩
  · obtain ⟨a, vs, rfl, t, rr⟩ := hd
    simp only [ap1, Option.some.injEq] at hf
    subst hf
    exact call_tuple_of pins s σ H _ us Q I r ⟨a, vs, rfl, .inl ⟨SqL.of t, fun p hp => q _ _ (.tup hL hp rr)⟩⟩
theorem c_all (hc : X.calm = true) : CallR X (.builtin "all") (r1 P (ap1 .all)) := by
  intro pins s σ H xs us Q I r h
  obtain ⟨x, rfl, L, d, r', hL, hd, hf, q⟩ := h
  cases d <;> first | (exfalso; revert hf; simp [ap1]; done) | skip
  obtain ⟨a, vs, rfl, t, rr⟩ := hd
  obtain ⟨ns, h1, rfl⟩ := Option.map_eq_some_iff.mp (show _ = some r' from hf)
  obtain rfl := bls_spec h1
  obtain rfl := rr.bls
  exact cr_all hc pins s σ H _ us Q I r ⟨a, ns, rfl, SqL.of t, q _ _ (.val rep_bl)⟩
theorem c_any (hc : X.calm = true) : CallR X (.builtin "any") (r1 P (ap1 .any)) := by
  intro pins s σ H xs us Q I r h
  obtain ⟨x, rfl, L, d, r', hL, hd, hf, q⟩ := h
  cases d <;> first | (exfalso; revert hf; simp [ap1]; done) | skip
  obtain ⟨a, vs, rfl, t, rr⟩ := hd
  obtain ⟨ns, h1, rfl⟩ := Option.map_eq_some_iff.mp (show _ = some r' from hf)
  obtain rfl := bls_spec h1
  obtain rfl := rr.bls
  exact cr_any hc pins s σ H _ us Q I r ⟨a, ns, rfl, SqL.of t, q _ _ (.val rep_bl)⟩
theorem c_sum (hK : P.K = X.K) (hc : X.calm = true) : CallR X (.builtin "sum") (r1 P (ap1 .sum)) := by
  intro pins s σ H xs us Q I r h
  obtain ⟨x, rfl, L, d, r', hL, hd, hf, q⟩ := h
  cases d <;> first | (exfalso; revert hf; simp [ap1]; done) | skip
  · obtain ⟨a, vs, rfl, t, rr⟩ := tup_of hd
    obtain ⟨ns, h1, rfl⟩ := Option.map_eq_some_iff.mp (show _ = some r' from hf)
    obtain rfl := ints_spec h1
    obtain rfl := rr.ints
    exact cr_sumT hc pins s σ H _ us Q I r ⟨a, ns, rfl, hK ▸ t.sq, q _ _ (.val rep_int)⟩
  · obtain ⟨a, vs, rfl, t, rr⟩ := hd
    obtain ⟨ns, h1, rfl⟩ := Option.map_eq_some_iff.mp (show _ = some r' from hf)
    obtain rfl := ints_spec h1
    obtain rfl := rr.ints
    exact cr_sum hc pins s σ H _ us Q I r ⟨a, ns, rfl, SqL.of t, q _ _ (.val rep_int)⟩
theorem c_abs : CallR X (.builtin "abs") (r1 P (ap1 .abs)) := by
  intro pins s σ H xs us Q I r h
  obtain ⟨x, rfl, L, d, r', hL, hd, hf, q⟩ := h
  cases d <;> first | (exfalso; revert hf; simp [ap1]; done) | skip
  simp only [ap1, Option.some.injEq] at hf
  subst hf
  exact call_abs pins s σ H _ us Q I r ⟨_, by rw [int_of hd], q _ _ (.val rep_int)⟩
theorem shOk_spec {d : D} (h : shOk d = true) : D.plain 8 d = true ∧ (toPy d).showable = true ∧ (toPy d).shown.length ≤ sizeLine ∧ (toPy d).hasDict = false ∧ (toPy d).depth ≤ 8 := by
  unfold shOk at h
  simp only [Bool.and_eq_true, decide_eq_true_eq] at h
  obtain ⟨⟨h1, h2⟩, h3⟩ := h
  have hp := plain_lay 8 d h1
  exact ⟨h1, h2, big_line (Nat.le_trans h3 (by decide)), PyData.hasDict_of_canLay _ hp.1, hp.2⟩
theorem c_repr (hK : P.K = X.K) (hgd : X.A.guards = some []) (hu : X.A.units + 65 < cLine) : CallR X (.builtin "repr") (r1 P (ap1 .repr)) := by
  intro pins s σ H xs us Q I r h
  obtain ⟨x, rfl, L, d, r', hL, hd, hf, q⟩ := h
  have hf' : (if shOk d then some (R.val (.str (toPy d).shown)) else none) = some r' := hf
  split at hf'
  case isFalse => cases hf'
  rename_i hsh
  cases hf'
  obtain ⟨h1, h2, h3, h4, h5⟩ := shOk_spec hsh
  have hrep : Rep P L H (.str (toPy d).shown) (.str (toPy d).shown) := by unfold Rep; rfl
  have hq := q _ _ (.val hrep)
  obtain ⟨u, rfl, ru⟩ := vals1 r
  cases d with
  | non =>
    obtain rfl := non_of hd
    cases ru
    refine PySem.P.repr_of_none ⟨.str _, H, I.tok _, ⟨_, rfl⟩, ?_⟩
    simpa only [toPy, PyData.shown] using hq
  | bl b =>
    obtain rfl := bl_of hd
    cases ru
    refine PySem.P.repr_of_bool ⟨.str _, H, I.tok _, ⟨_, rfl⟩, ?_⟩
    simpa only [toPy, PyData.shown] using hq
  | int i =>
    obtain rfl := int_of hd
    obtain ⟨t, rfl⟩ := ru
    refine PySem.P.repr_of_int (by simpa only [toPy, PyData.showable, decide_eq_true_eq] using h2) ⟨.str _, H, I.tok _, ⟨_, rfl⟩, ?_⟩
    simpa only [toPy, PyData.shown] using hq
  | str z =>
    obtain rfl := str_of hd
    obtain ⟨t, rfl⟩ := ru
    simp only [toPy, PyData.shown] at h3 hq
    exact PySem.P.repr_of_str ⟨.str _, H, I.tok _, ⟨_, rfl⟩, hq⟩ h3
  | ins _ _ => simp [D.plain] at h1
  | tup ds =>
    obtain ⟨a, vs, rfl, t, rr⟩ := tup_of hd
    obtain rfl : u = Value.ref a := ru
    obtain ⟨as, rd⟩ := Dp.reads I (toPy (.tup ds)) (.ref a) (.ref a) (hK ▸ repw_dp h1 hd) rfl
    exact PySem.repr_of_reads' rd h2 (PyData.noDict_hsm h4) hgd (by omega) (fun _ _ e => e) (fun h' u tk hk => ⟨.str _, H, I.kept hk, ⟨_, rfl⟩, hq⟩) h3
  | lst ds =>
    obtain ⟨a, vs, rfl, t, rr⟩ := hd
    obtain rfl : u = Value.ref a := ru
    obtain ⟨as, rd⟩ := Dp.reads I (toPy (.lst ds)) (.ref a) (.ref a) (hK ▸ repw_dp h1 ⟨a, vs, rfl, t, rr⟩) rfl
    exact PySem.repr_of_reads' rd h2 (PyData.noDict_hsm h4) hgd (by omega) (fun _ _ e => e) (fun h' u tk hk => ⟨.str _, H, I.kept hk, ⟨_, rfl⟩, hq⟩) h3
/-! max, min with a default -/
def rMx (K : PySem.W.Frag) (mx : Bool) : List V → List V → Hp → VK → Prop := fun xs zs H Q => ∃ (a : Addr) (z : V) (ns : List Int), xs = [.ref a] ∧ zs = [z] ∧ (SqT K H a (ns.map V.int) ∨ SqL K H a (ns.map V.int)) ∧ (ns = [] → Q z H) ∧ ∀ n ms, ns = n :: ms → Q (.int (mxI mx n ms)) H
theorem reads_ints {h : Heap} : ∀ {ns : List Int} {its : List Value}, Vals (ns.map V.int) its → ReadsAll h its (ns.map PyData.int) []
  | [], _, r => by cases r; exact .nil
  | n :: ns, _, r => by
    cases r with
    | cons r t =>
      obtain ⟨tk, rfl⟩ := r
      exact ReadsAll.cons (as := []) (.int _ _) (reads_ints t)
theorem alike_ints (ns : List Int) : PySem.W.AlikeAll (ns.map PyData.int) := by
  refine ⟨fun x hx y hy => ?_, fun x hx => ?_⟩
  · obtain ⟨i, _, rfl⟩ := List.mem_map.mp hx
    obtain ⟨j, _, rfl⟩ := List.mem_map.mp hy
    rfl
  · obtain ⟨i, _, rfl⟩ := List.mem_map.mp hx
    exact fun z => nomatch z
theorem depth_ints : ∀ ns : List Int, PyData.depthAll (ns.map PyData.int) = 0
  | [] => rfl
  | n :: ns => by
    simp only [List.map_cons, PyData.depthAll, depth_ints ns, PyData.depth]
    rfl
theorem isTuple_of {h : Heap} {a : Addr} {vs : Array Value} (t : IsTup h a vs) : h.IsTuple a vs := by
  obtain ⟨o, e1, e2, n, e3⟩ := t
  first | exact ⟨o, n, e1, e2, e3⟩ | exact ⟨o, e1, e2, n, e3⟩ | exact ⟨o, e1, e2, ⟨n, e3⟩⟩ | exact ⟨⟨o, e1, e2⟩, o, e1, n, e3⟩
theorem cr_mx (hc : X.calm = true) (hu : X.A.units + 65 < cLine) (mx : Bool) : CallRK X (.builtin (if mx then "max" else "min")) [Str.ofString "default"] (rMx X.K mx) := by
  intro pins s σ H xs zs us ws Q I r rz h
  obtain ⟨a, z, ns, rfl, rfl, hs, h0, h1⟩ := h
  obtain ⟨u, rfl, ru⟩ := vals1 r
  obtain ⟨w, rfl, rw'⟩ := vals1 rz
  obtain rfl : u = Value.ref a := ru
  have hd : X.A.handled = none := I.ok.hd hc
  have hdep := depth_ints ns
  have empty : ∀ {h' : Heap} {tk : Tok}, ns = [] → (∀ b o, s.heap.get? b = some o → h'.get? b = some o) → EP X pins σ Q w { s with heap := h', toks := tk } := fun {h' tk} e k => ⟨z, H, I.kept k, rw', h0 e⟩
  have full : ∀ {y : PyData} {ys : List PyData} {v : Value} {h' h2 : Heap} {tk : Tok} {bs : List Addr} {n : Int} {ms : List Int}, ns = n :: ms → Reads h2 v (.int (mxI mx n ms)) bs → (∀ b o, s.heap.get? b = some o → h'.get? b = some o) → EP X pins σ Q v { s with heap := h', toks := tk } := fun {y ys v h' h2 tk bs n ms} e rd k => by
    cases rd
    exact ⟨.int (mxI mx n ms), H, I.kept k, ⟨_, rfl⟩, h1 n ms e⟩
  have nse : ns.map PyData.int = [] → ns = [] := fun e => by cases ns with
    | nil => rfl
    | cons n ms => cases e
  rcases hs with hs | hs
  · obtain ⟨its, rv, pl, hz⟩ := I.tuple hs
    have ra : ReadsAll s.heap its.toArray.toList (ns.map PyData.int) [] := by simpa using reads_ints rv
    cases mx with
    | true =>
      refine PySem.W.max_tuple_default hd (isTuple_of pl) ra (alike_ints ns) (by omega) (fun e h' tk k => empty (nse e) k) fun y ys i v h' tk bs e hv rd k => ?_
      cases ns with
      | nil => cases e
      | cons n ms =>
        cases e
        rw [PySem.W.maxD_ints] at rd
        exact full (y := .none) (ys := []) rfl rd k
    | false =>
      refine PySem.W.min_tuple_default hd (isTuple_of pl) ra (alike_ints ns) (by omega) (fun e h' tk k => empty (nse e) k) fun y ys i v h' tk bs e hv rd k => ?_
      cases ns with
      | nil => cases e
      | cons n ms =>
        cases e
        rw [PySem.W.minD_ints] at rd
        exact full (y := .none) (ys := []) rfl rd k
  · obtain ⟨its, rv, pl, hz⟩ := I.list hs
    have ra : ReadsAll s.heap its.toArray.toList (ns.map PyData.int) [] := by simpa using reads_ints rv
    cases mx with
    | true =>
      refine PySem.W.max_list_default hd pl.isList ra (alike_ints ns) (by omega) (fun e h' tk k => empty (nse e) k) fun y ys i v h' tk bs e hv rd k => ?_
      cases ns with
      | nil => cases e
      | cons n ms =>
        cases e
        rw [PySem.W.maxD_ints] at rd
        exact full (y := .none) (ys := []) rfl rd k
    | false =>
      refine PySem.W.min_list_default hd pl.isList ra (alike_ints ns) (by omega) (fun e h' tk k => empty (nse e) k) fun y ys i v h' tk bs e hv rd k => ?_
      cases ns with
      | nil => cases e
      | cons n ms =>
        cases e
        rw [PySem.W.minD_ints] at rd
        exact full (y := .none) (ys := []) rfl rd k
/-! rows sorted -/
def encT (t : List Int) : PyData := .tuple (t.map PyData.int)
theorem ltL_dec : ∀ a b : List Int, ltL a b = decide (a < b)
  | [], [] => by simp [ltL]
  | [], y :: ys => by simp [ltL]
  | x :: xs, [] => by simp [ltL]
  | x :: xs, y :: ys => by
    rw [ltL, ltL_dec xs ys]
    by_cases h : x = y
    · subst h; simp [List.cons_lt_cons_iff]
    · simp [List.cons_lt_cons_iff, h]
theorem le_enc : PySem.W.dataLe false encT = fun a b => !ltL b a := by
  funext a b
  show (!PySem.W.dataLt (encT b) (encT a)) = _
  unfold encT
  rw [PySem.W.dataLt_tuple, ltL_dec, ← PySem.W.dataLt_ints]
  rfl
theorem ltL_anti : ∀ a b : List Int, ltL a b = false → ltL b a = false → a = b
  | [], [], _, _ => rfl
  | [], y :: ys, h, _ => by simp [ltL] at h
  | x :: xs, [], _, h => by simp [ltL] at h
  | x :: xs, y :: ys, h1, h2 => by
    simp only [ltL] at h1 h2
    by_cases h : x = y
    · subst h
      rw [if_pos rfl] at h1 h2
      rw [ltL_anti xs ys h1 h2]
    · rw [if_neg h] at h1
      rw [if_neg (Ne.symm h)] at h2
      simp at h1 h2
      omega
theorem insT_perm (x : List Int) : ∀ l : List (List Int), (insT x l).Perm (x :: l)
  | [] => .refl _
  | y :: ys => by
    unfold insT
    split
    · exact ((insT_perm x ys).cons y).trans (.swap x y ys)
    · exact .refl _
theorem sortT_perm : ∀ l : List (List Int), (sortT l).Perm l
  | [] => .refl _
  | x :: xs => (insT_perm x (sortT xs)).trans ((sortT_perm xs).cons x)
theorem leT_trans : ∀ a b c : List Int, ltL b a = false → ltL c b = false → ltL c a = false
  | [], _, c, _, _ => by cases c <;> rfl
  | x :: xs, [], c, h, _ => by simp [ltL] at h
  | x :: xs, y :: ys, [], _, h => by simp [ltL] at h
  | x :: xs, y :: ys, z :: zs, h1, h2 => by
    simp only [ltL] at h1 h2 ⊢
    by_cases e1 : y = x
    · subst e1
      rw [if_pos rfl] at h1
      by_cases e2 : z = y
      · subst e2
        rw [if_pos rfl] at h2 ⊢
        exact leT_trans xs ys zs h1 h2
      · rw [if_neg e2] at h2 ⊢
        exact h2
    · rw [if_neg e1] at h1
      simp at h1
      by_cases e2 : z = y
      · subst e2
        rw [if_neg e1]
        simpa using h1
      · rw [if_neg e2] at h2
        simp at h2
        rw [if_neg (by omega)]
        simp
        omega
theorem leT_total : ∀ a b : List Int, ltL b a = false ∨ ltL a b = false
  | [], b => .inl (by cases b <;> rfl)
  | x :: xs, [] => .inr rfl
  | x :: xs, y :: ys => by
    simp only [ltL]
    by_cases e : x = y
    · subst e
      rw [if_pos rfl, if_pos rfl]
      exact leT_total xs ys
    · rw [if_neg e, if_neg (Ne.symm e)]
      simp
      omega
theorem insT_pw (x : List Int) : ∀ l : List (List Int), l.Pairwise (fun a b => ltL b a = false) → (insT x l).Pairwise (fun a b => ltL b a = false)
  | [], _ => by simp [insT]
  | y :: ys, h => by
    unfold insT
    rw [List.pairwise_cons] at h
    split
    · rename_i c
      rw [List.pairwise_cons]
      refine ⟨fun z hz => ?_, insT_pw x ys h.2⟩
      rcases List.mem_cons.mp ((insT_perm x ys).mem_iff.mp hz) with rfl | hz
      · rcases leT_total y z with q | q
        · exact q
        · rw [c] at q; cases q
      · exact h.1 z hz
    · rename_i c
      have c : ltL y x = false := by simpa using c
      rw [List.pairwise_cons]
      refine ⟨fun z hz => ?_, List.pairwise_cons.mpr h⟩
      rcases List.mem_cons.mp hz with rfl | hz
      · exact c
      · exact leT_trans _ _ _ c (h.1 z hz)
theorem sortT_pw : ∀ l : List (List Int), (sortT l).Pairwise (fun a b => ltL b a = false)
  | [] => .nil
  | x :: xs => insT_pw x _ (sortT_pw xs)
theorem sortT_ms (l : List (List Int)) : l.mergeSort (PySem.W.dataLe false encT) = sortT l := by
  rw [le_enc]
  have h1 : (l.mergeSort fun a b => !ltL b a).Pairwise (fun a b => ltL b a = false) := by
    have := List.pairwise_mergeSort (le := fun a b => !ltL b a) (fun a b c q1 q2 => by
      simp only [Bool.not_eq_true'] at q1 q2 ⊢
      exact leT_trans a b c q1 q2) (fun a b => by
      rcases leT_total a b with q | q <;> simp [q]) l
    exact this.imp fun {a b} q => by simpa using q
  exact List.Perm.eq_of_pairwise (fun a b _ _ q1 q2 => ltL_anti a b q2 q1) h1 (sortT_pw l) ((List.mergeSort_perm l _).trans (sortT_perm l).symm)
theorem itups_spec : ∀ {ds : List D} {ts : List (List Int)}, itups? ds = some ts → ds = ts.map tupD
  | [], ts, h => by simp only [itups?, Option.some.injEq] at h; subst h; rfl
  | d :: ds, ts, h => by
    simp only [itups?] at h
    split at h
    · rename_i xs r h1
      obtain ⟨ns, h2, rfl⟩ := Option.map_eq_some_iff.mp h
      rw [itups_spec h1, ints_spec h2]
      rfl
    · cases h
theorem toPys_ints : ∀ t : List Int, toPys (t.map D.int) = t.map PyData.int
  | [] => by simp [toPys]
  | n :: t => by simp only [List.map_cons, toPys, toPy, toPys_ints t]
theorem plains_ints8 (n : Nat) : ∀ t : List Int, D.plains n (t.map D.int) = true
  | [] => by simp [D.plains]
  | x :: t => by simp [D.plains, D.plain, plains_ints8 n t]
theorem enc_tup (t : List Int) : toPy (tupD t) = encT t := by
  simp only [tupD, toPy, toPys_ints, encT]
theorem plain_tup (t : List Int) : D.plain 8 (tupD t) = true := by
  simp only [tupD, D.plain, plains_ints8]
theorem enc_depth (t : List Int) : (encT t).depth = 1 := by
  simp only [encT, PyData.depth, depth_ints]
def RowR (P : RP) (L : Addr → Prop) (H : Hp) (v : Value) (t : List Int) : Prop := ∃ x : V, RelV x v ∧ Rep P L H (tupD t) x
theorem each_row {L : Addr → Prop} {H : Hp} : ∀ {ts : List (List Int)} {vs : List V} {its : List Value}, Reps P L H (ts.map tupD) vs → Vals vs its → PySem.W.EachIs (RowR P L H) its ts
  | [], vs, its, r, rv => by
    have : vs = [] := by have := r.length; simpa using this.symm
    subst this
    cases rv
    exact .nil
  | t :: ts, vs, its, r, rv => by
    rw [List.map_cons] at r
    unfold Reps at r
    obtain ⟨v, w, rfl, h1, h2⟩ := r
    cases rv with
    | cons q qs => exact .cons ⟨v, q, h1⟩ (each_row h2 qs)
theorem row_each {L : Addr → Prop} {H : Hp} : ∀ {ts : List (List Int)} {out : List Value}, PySem.W.EachIs (RowR P L H) out ts → ∃ ys : List V, Vals ys out ∧ Reps P L H (ts.map tupD) ys
  | _, _, .nil => ⟨[], .nil, Reps.nil⟩
  | _, _, .cons (b := t) ⟨x, q, h⟩ r => by
    obtain ⟨ys, h1, h2⟩ := row_each r
    exact ⟨x :: ys, .cons q h1, by rw [List.map_cons]; exact Reps.cons h h2⟩
theorem alike_rows (ts : List (List Int)) : PySem.W.AllAlike (ts.map encT) := by
  have key : ∀ a b : List Int, PySem.W.alikeAll (a.map PyData.int) (b.map PyData.int) = true := fun a => by
    induction a with
    | nil => intro b; cases b <;> rfl
    | cons x xs ih =>
      intro b
      cases b with
      | nil => rfl
      | cons y ys =>
        simp only [List.map_cons, PySem.W.alikeAll, PySem.W.alike, ih ys, Bool.and_self]
  intro d hd d' hd'
  obtain ⟨a, _, rfl⟩ := List.mem_map.mp hd
  obtain ⟨b, _, rfl⟩ := List.mem_map.mp hd'
  simp only [encT, PySem.W.alike]
  exact key a b
theorem perm_le1 {α : Type} : ∀ {l m : List α}, l.length ≤ 1 → m.Perm l → m = l
  | [], _, _, p => p.eq_nil
  | [_], _, _, p => List.perm_singleton.mp p
  | _ :: _ :: _, _, h, _ => absurd h (by simp)
theorem sort_le1 : ∀ {l : List (List Int)}, l.length ≤ 1 → sortT l = l
  | [], _ => rfl
  | [_], _ => rfl
  | _ :: _ :: _, h => absurd h (by simp)
def encL (t : List Int) : PyData := .list (t.map PyData.int)
theorem le_encL : PySem.W.dataLe false encL = fun a b => !ltL b a := by
  funext a b
  show (!PySem.W.dataLt (encL b) (encL a)) = _
  unfold encL
  rw [PySem.W.dataLt_list, ltL_dec, ← PySem.W.dataLt_ints]
  rfl
theorem sortT_msL (l : List (List Int)) : l.mergeSort (PySem.W.dataLe false encL) = sortT l := by
  rw [le_encL]
  have h1 : (l.mergeSort fun a b => !ltL b a).Pairwise (fun a b => ltL b a = false) := by
    have := List.pairwise_mergeSort (le := fun a b => !ltL b a) (fun a b c q1 q2 => by
      simp only [Bool.not_eq_true'] at q1 q2 ⊢
      exact leT_trans a b c q1 q2) (fun a b => by
      rcases leT_total a b with q | q <;> simp [q]) l
    exact this.imp fun {a b} q => by simpa using q
  exact List.Perm.eq_of_pairwise (fun a b _ _ q1 q2 => ltL_anti a b q2 q1) h1 (sortT_pw l) ((List.mergeSort_perm l _).trans (sortT_perm l).symm)
theorem ilsts_spec : ∀ {ds : List D} {ts : List (List Int)}, ilsts? ds = some ts → ds = ts.map lstD
  | [], ts, h => by simp only [ilsts?, Option.some.injEq] at h; subst h; rfl
  | d :: ds, ts, h => by
    simp only [ilsts?] at h
    split at h
    · rename_i xs r h1
      obtain ⟨ns, h2, rfl⟩ := Option.map_eq_some_iff.mp h
      rw [ilsts_spec h1, ints_spec h2]
      rfl
    · cases h
theorem enc_lst (t : List Int) : toPy (lstD t) = encL t := by
  simp only [lstD, toPy, toPys_ints, encL]
theorem plain_lst (t : List Int) : D.plain 8 (lstD t) = true := by
  simp only [lstD, D.plain, plains_ints8]
theorem enc_depthL (t : List Int) : (encL t).depth = 1 := by
  simp only [encL, PyData.depth, depth_ints]
def RowL (P : RP) (L : Addr → Prop) (H : Hp) (v : Value) (t : List Int) : Prop := ∃ x : V, RelV x v ∧ Rep P L H (lstD t) x
theorem each_rowL {L : Addr → Prop} {H : Hp} : ∀ {ts : List (List Int)} {vs : List V} {its : List Value}, Reps P L H (ts.map lstD) vs → Vals vs its → PySem.W.EachIs (RowL P L H) its ts
  | [], vs, its, r, rv => by
    have : vs = [] := by have := r.length; simpa using this.symm
    subst this
    cases rv
    exact .nil
  | t :: ts, vs, its, r, rv => by
    rw [List.map_cons] at r
    unfold Reps at r
    obtain ⟨v, w, rfl, h1, h2⟩ := r
    cases rv with
    | cons q qs => exact .cons ⟨v, q, h1⟩ (each_rowL h2 qs)
theorem row_eachL {L : Addr → Prop} {H : Hp} : ∀ {ts : List (List Int)} {out : List Value}, PySem.W.EachIs (RowL P L H) out ts → ∃ ys : List V, Vals ys out ∧ Reps P L H (ts.map lstD) ys
  | _, _, .nil => ⟨[], .nil, Reps.nil⟩
  | _, _, .cons (b := t) ⟨x, q, h⟩ r => by
    obtain ⟨ys, h1, h2⟩ := row_eachL r
    exact ⟨x :: ys, .cons q h1, by rw [List.map_cons]; exact Reps.cons h h2⟩
theorem alike_rowsL (ts : List (List Int)) : PySem.W.AllAlike (ts.map encL) := by
  have key : ∀ a b : List Int, PySem.W.alikeAll (a.map PyData.int) (b.map PyData.int) = true := fun a => by
    induction a with
    | nil => intro b; cases b <;> rfl
    | cons x xs ih =>
      intro b
      cases b with
      | nil => rfl
      | cons y ys =>
        simp only [List.map_cons, PySem.W.alikeAll, PySem.W.alike, ih ys, Bool.and_self]
  intro d hd d' hd'
  obtain ⟨a, _, rfl⟩ := List.mem_map.mp hd
  obtain ⟨b, _, rfl⟩ := List.mem_map.mp hd'
  simp only [encL, PySem.W.alike]
  exact key a b
theorem c_sorted (hK : P.K = X.K) (hu : X.A.units + 65 < cLine) : CallR X (.builtin "sorted") (r1 P (ap1 .sorted)) := by
  intro pins s σ H xs us Q I r h
  obtain ⟨x, rfl, L, d, r', hL, hd, hf, q⟩ := h
  cases d <;> first | (exfalso; revert hf; simp [ap1]; done) | skip
  rename_i ds
  obtain ⟨a, vs, rfl, t, rr⟩ := hd
  simp only [ap1] at hf
  split at hf
  · rename_i ns h1
    cases hf
    obtain rfl := ints_spec h1
    obtain rfl := rr.ints
    refine cr_sortedI pins s σ H _ us Q I r ⟨a, ns, rfl, SqL.of t, fun ns' p pm pw hp => ?_⟩
    rw [sortS_is pm pw]
    exact q _ _ (.lst hp (Reps.of_ints _))
  · split at hf
    · rename_i ts h1
      split at hf
      · rename_i hk
        cases hf
        obtain rfl := itups_spec h1
        obtain ⟨its, rv, hl, hz⟩ := I.list (SqL.of (K := X.K) t)
        rw [Vals.ref1 r]
        have e := each_row rr rv
        -- the end, of any values that stand for the sorted rows
        have fin : ∀ out : List Value, PySem.W.EachIs (RowR P L H) out (sortT ts) → EP X pins σ Q (.ref (s.heap.objs.size + 1)) { s with heap := PyProof.Rows.sortedAll s.heap its out.toArray } := fun out eo => by
          obtain ⟨ys, h2, h3⟩ := row_each eo
          obtain ⟨ep, he'⟩ := PyProof.Rows.sortedAll_at s.heap its out.toArray
          have hlen : ys.length ≤ sizeLine := by
            have l1 := h3.length
            rw [List.length_map, (sortT_perm ts).length_eq] at l1
            have l2 := rr.length
            rw [List.length_map] at l2
            omega
          exact ⟨.ref _, upd H (s.heap.objs.size + 1) (.lst ys), I.laid (t' := s.toks) (fun _ _ => PyProof.Rows.sortedAll_old) (Nat.le_succ _) ⟨hlen, out, ep, h2, he'⟩, rfl, q _ _ (.lst (I.hok.fresh (Nat.le_succ _)) h3)⟩
        by_cases hall : ts.all (fun t => !t.isEmpty) = true
        · have er : PySem.W.EachIs (fun v b => ∃ as, Reads s.heap v (encT b) as) its ts := e.mono fun v b ⟨y, q1, q2⟩ => by
            have := Dp.reads I (toPy (tupD b)) y v (hK ▸ rep_dp 8 _ y (plain_tup b) q2) q1
            rwa [enc_tup] at this
          refine PySem.W.sorted_data hl.isList e er (alike_rows ts) (.inl fun d hd => ?_) (by rw [← e.length, ← rv.length]; exact hz) (fun b _ => by rw [enc_depth]; omega) fun out _ eo => ?_
          · obtain ⟨b, hb, rfl⟩ := List.mem_map.mp hd
            have := List.all_eq_true.mp hall b hb
            cases b with
            | nil => simp at this
            | cons n ms => exact ⟨_, _, rfl⟩
          · rw [sortT_ms] at eo
            exact fin out eo
        · have h1 : ts.length ≤ 1 := by
            unfold srtOk at hk
            simp only [Bool.or_eq_true, decide_eq_true_eq] at hk
            rcases hk with hk | hk
            · exact absurd hk hall
            · exact hk
          refine Srt.sorted_any hl.isList (by rw [← rv.length]; exact hz) (fun h2 => ?_) fun out ho => ?_
          · rw [e.length] at h2; omega
          · have hout : out = its := perm_le1 (by rw [e.length]; exact h1) ho
            subst hout
            have ets : sortT ts = ts := sort_le1 h1
            exact fin out (by rw [ets]; exact e)
      · cases hf
    · split at hf
      · rename_i ts h1
        cases hf
        obtain rfl := ilsts_spec h1
        obtain ⟨its, rv, hl, hz⟩ := I.list (SqL.of (K := X.K) t)
        rw [Vals.ref1 r]
        have e := each_rowL rr rv
        have er : PySem.W.EachIs (fun v b => ∃ as, Reads s.heap v (encL b) as) its ts := e.mono fun v b ⟨y, q1, q2⟩ => by
          have := Dp.reads I (toPy (lstD b)) y v (hK ▸ rep_dp 8 _ y (plain_lst b) q2) q1
          rwa [enc_lst] at this
        refine PySem.W.sorted_data hl.isList e er (alike_rowsL ts) (.inr fun d hd => ?_) (by rw [← e.length, ← rv.length]; exact hz) (fun b _ => by rw [enc_depthL]; omega) fun out _ eo => ?_
        · obtain ⟨b, hb, rfl⟩ := List.mem_map.mp hd
          exact ⟨(fun z => nomatch z), (fun xs z => nomatch z)⟩
        · rw [sortT_msL] at eo
          obtain ⟨ys, h2, h3⟩ := row_eachL eo
          obtain ⟨ep, he'⟩ := PyProof.Rows.sortedAll_at s.heap its out.toArray
          have hlen : ys.length ≤ sizeLine := by
            have l1 := h3.length
            rw [List.length_map, (sortT_perm ts).length_eq] at l1
            have l2 := rr.length
            rw [List.length_map] at l2
            omega
          exact ⟨.ref _, upd H (s.heap.objs.size + 1) (.lst ys), I.laid (t' := s.toks) (fun _ _ => PyProof.Rows.sortedAll_old) (Nat.le_succ _) ⟨hlen, out, ep, h2, he'⟩, rfl, q _ _ (.lst (I.hok.fresh (Nat.le_succ _)) h3)⟩
      · cases hf
theorem u_neg : UnR X (unaryOp .USub) (rD1 P (ap1 .neg)) := by
  intro pins s σ H x v Q I r h
  obtain ⟨L, d, r', hL, hd, hf, q⟩ := h
  cases d <;> first | (exfalso; revert hf; simp [ap1]; done) | skip
  simp only [ap1, Option.some.injEq] at hf
  subst hf
  exact un_neg pins s σ H x v Q I r ⟨_, int_of hd, q _ _ (.val rep_int)⟩
/-- isinstance(x, T) -/
def tyN : Ty → String
  | .int => "int" | .bool => "bool" | .list => "list" | .tuple => "tuple" | .str => "str"
def rIsD (P : RP) (t : Ty) : List V → Hp → VK → Prop := fun xs H Q => ∃ x, xs = [x, .ty (tyN t)] ∧ rD1 P (ap1 (.isi t)) x H Q
theorem kit_all (t : Ty) : kitB "NoneType" (tyN t) = some false ∧ kitB "bool" (tyN t) = some (decide (t = .int) || decide (t = .bool)) ∧ kitB "int" (tyN t) = some (decide (t = .int)) ∧ kitB "str" (tyN t) = some (decide (t = .str)) ∧
    kitB "list" (tyN t) = some (decide (t = .list)) ∧ kitB "tuple" (tyN t) = some (decide (t = .tuple)) := by
  cases t <;> decide +kernel
theorem c_isi (hK : P.K = X.K) (t : Ty) : CallR X (.builtin "isinstance") (rIsD P t) := by
  intro pins s σ H xs us Q I r h
  obtain ⟨x, rfl, L, d, r', hL, hd, hf, q⟩ := h
  have k := kit_all t
  have hf : (if noIns d then some (R.val (.bl (isTy t d))) else none) = some r' := hf
  split at hf
  · rename_i hn
    cases hf
    have fin : ∀ (tv : Value) (b : Bool), TyX X.K H x tv → PySem.W.kitOne X.K tv (.type (tyN t)) = some b → b = isTy t d → wpAny (model X.prog X.w) X.A (call (.builtin "isinstance") us) (EP X pins σ Q) X.xe s := fun tv b ht hk e => by
      refine call_isi pins s σ H _ us Q I r ⟨x, .ty (tyN t), tv, .type (tyN t), b, rfl, .ty _, ht, hk, ?_⟩
      subst e
      exact q _ _ (.val rep_bl)
    cases d with
    | non =>
      obtain rfl := non_of hd
      exact fin _ _ (.base .non) (kit_ty k.1) (by cases t <;> rfl)
    | bl b =>
      obtain rfl := bl_of hd
      exact fin _ _ (.base (.bl _)) (kit_ty k.2.1) (by cases t <;> rfl)
    | int i =>
      obtain rfl := int_of hd
      exact fin _ _ (.base (.int _)) (kit_ty k.2.2.1) (by cases t <;> rfl)
    | str y =>
      have : Rep P L H (.str y) x := hd
      unfold Rep at this
      subst this
      exact fin _ _ (.base (.str _)) (kit_ty k.2.2.2.1) (by cases t <;> rfl)
    | lst ds =>
      obtain ⟨a, vs, rfl, ta, _⟩ := hd
      exact fin _ _ (.base (.lst ta)) (kit_ty k.2.2.2.2.1) (by cases t <;> rfl)
    | tup ds =>
      obtain ⟨a, vs, rfl, ta, _⟩ := tup_of hd
      rcases ta with ⟨ta, _⟩ | ta
      · exact fin _ _ (.base (.tup ta)) (kit_ty k.2.2.2.2.2) (by cases t <;> rfl)
      · rcases ta with (z | ⟨_, z⟩) | ⟨o, its, n, e1, e2, e3, _⟩
        · cases z
        · cases z
        · exact fin _ _ (.kTuple (hK ▸ e1) e2) (kit_ty k.2.2.2.2.2) (by cases t <;> rfl)
    | ins c fs => cases hn
  · cases hf

/-! the rest of the two-place operations -/
theorem d_is : OpR X (compareOp .Is) (rD2 P (ap2 .is)) := by
  intro pins s σ H x y v u Q I rx ry h
  obtain ⟨L, d, e, r, hL, hd, he, hf, q⟩ := h
  cases e <;> first | (exfalso; revert hf; simp [ap2]; done) | skip
  · obtain rfl := non_of he
    simp only [ap2, Option.some.injEq] at hf
    subst hf
    refine op_isN pins s σ H x .non v u Q I rx ry ⟨rfl, ?_⟩
    have e : decide (x = V.non) = isNon d := by
      cases d with
      | non => rw [non_of hd]; rfl
      | bl b => rw [bl_of hd]; rfl
      | int b => rw [int_of hd]; rfl
      | str b =>
        have : Rep P L H (.str b) x := hd
        unfold Rep at this
        rw [this]; rfl
      | tup ds => obtain ⟨a, vs, rfl, _⟩ := tup_of hd; rfl
      | lst ds => obtain ⟨a, vs, rfl, _⟩ := hd; rfl
      | ins c fs =>
        have : Rep P L H (.ins c fs) x := hd
        unfold Rep at this
        obtain ⟨a, dx, vs, rfl, _⟩ := this; rfl
    rw [e]
    exact q _ _ (.val rep_bl)
  · cases d <;> first | (exfalso; revert hf; simp [ap2]; done) | skip
    rename_i b c
    simp only [ap2, Option.some.injEq] at hf
    subst hf
    refine op_isBl pins s σ H x y v u Q I rx ry ⟨c, b, bl_of hd, bl_of he, ?_⟩
    have e : decide (c = b) = (c == b) := by cases b <;> cases c <;> rfl
    rw [e]
    exact q _ _ (.val rep_bl)
theorem d_isnot : OpR X (compareOp .IsNot) (rD2 P (ap2 .isnot)) := by
  intro pins s σ H x y v u Q I rx ry h
  obtain ⟨L, d, e, r, hL, hd, he, hf, q⟩ := h
  cases e <;> first | (exfalso; revert hf; simp [ap2]; done) | skip
  · obtain rfl := non_of he
    simp only [ap2, Option.some.injEq] at hf
    subst hf
    refine op_notN pins s σ H x .non v u Q I rx ry ⟨rfl, ?_⟩
    have e : (!decide (x = V.non)) = (!isNon d) := by
      cases d with
      | non => rw [non_of hd]; rfl
      | bl b => rw [bl_of hd]; rfl
      | int b => rw [int_of hd]; rfl
      | str b =>
        have : Rep P L H (.str b) x := hd
        unfold Rep at this
        rw [this]; rfl
      | tup ds => obtain ⟨a, vs, rfl, _⟩ := tup_of hd; rfl
      | lst ds => obtain ⟨a, vs, rfl, _⟩ := hd; rfl
      | ins c fs =>
        have : Rep P L H (.ins c fs) x := hd
        unfold Rep at this
        obtain ⟨a, dx, vs, rfl, _⟩ := this; rfl
    rw [e]
    exact q _ _ (.val rep_bl)
  · cases d <;> first | (exfalso; revert hf; simp [ap2]; done) | skip
    rename_i b c
    simp only [ap2, Option.some.injEq] at hf
    subst hf
    refine op_notBl pins s σ H x y v u Q I rx ry ⟨c, b, bl_of hd, bl_of he, ?_⟩
    have e : decide (c = b) = (c == b) := by cases b <;> cases c <;> rfl
    rw [e]
    exact q _ _ (.val rep_bl)
def cmpOf : O2 → Option CmpOp
  | .eq => some .Eq | .ne => some .NotEq | .lt => some .Lt | .le => some .LtE | .gt => some .Gt | .ge => some .GtE
  | .isin => some .In | .notin => some .NotIn | .is => some .Is | .isnot => some .IsNot
  | .eqN => some .Eq | .neN => some .NotEq
  | _ => none
/-- a list asked against an empty one -/
theorem op_nil {X : Cx} (hu : X.A.units + 64 < cLine) {ne : Bool} : OpR X (compareOp (if ne then .NotEq else .Eq)) (fun x y H Q => ∃ a b vs, x = .ref a ∧ y = .ref b ∧ SqL X.K H a vs ∧ SqL X.K H b [] ∧ Q (.bl (if ne then !vs.isEmpty else vs.isEmpty)) H) := by
  intro pins s σ H x y v u Q I rx ry h
  obtain ⟨a, b, vs, rfl, rfl, ha, hb, q⟩ := h
  cases rx
  cases ry
  obtain ⟨its, rv, hl, _⟩ := I.list ha
  obtain ⟨its2, rv2, hl2, _⟩ := I.list hb
  have z1 : its.toArray.size = vs.length := by rw [List.size_toArray]; exact rv.length.symm
  have z2 : its2.toArray.size = 0 := by rw [List.size_toArray]; exact rv2.length.symm
  have hu0 : X.A.units < cLine := by omega
  cases ne with
  | false =>
    show wpAny (model X.prog X.w) X.A (richCompare .Eq (.ref a) (.ref b)) (EP X pins σ Q) X.xe s
    cases vs with
    | nil =>
      refine SeqAt.RcAt.lists (e := fun _ => true) hl.isList hl2.isList (by rw [z1, z2]; rfl) hu0 (fun j h1 _ => absurd h1 (by rw [z1]; exact Nat.not_lt_zero _)) X.prog X.w X.xe _ ?_
      rw [z1]
      exact ⟨.bl true, H, I, rfl, q⟩
    | cons v vs =>
      refine SeqAt.RcAt.lists_lengths hl.isList hl2.isList (by rw [z1, z2]; rfl) hu0 X.prog X.w X.xe _ ?_
      exact ⟨.bl false, H, I, rfl, q⟩
  | true =>
    show wpAny (model X.prog X.w) X.A (richCompare .NotEq (.ref a) (.ref b)) (EP X pins σ Q) X.xe s
    cases vs with
    | nil =>
      refine SeqAt.RcNeAt.lists (e := fun _ => true) hl.isList hl2.isList (by rw [z1, z2]; rfl) hu0 (fun j h1 _ => absurd h1 (by rw [z1]; exact Nat.not_lt_zero _)) X.prog X.w X.xe _ ?_
      rw [z1]
      exact ⟨.bl false, H, I, rfl, q⟩
    | cons v vs =>
      refine SeqAt.RcNeAt.lists_lengths hl.isList hl2.isList (by rw [z1, z2]; rfl) hu0 X.prog X.w X.xe _ ?_
      exact ⟨.bl true, H, I, rfl, q⟩
theorem d_eqN (hK : P.K = X.K) (hu : X.A.units + 64 < cLine) : OpR X (compareOp .Eq) (rD2 P (ap2 .eqN)) := by
  intro pins s σ H x y v u Q I rx ry h
  obtain ⟨L, d, e, r, hL, hd, he, hf, q⟩ := h
  cases d <;> first | (exfalso; revert hf; simp [ap2]; done) | skip
  cases e <;> first | (exfalso; revert hf; simp [ap2]; done) | skip
  rename_i xs ys
  cases ys with
  | cons _ _ => exfalso; revert hf; simp [ap2]
  | nil =>
    simp only [ap2, Option.some.injEq] at hf
    subst hf
    obtain ⟨a, vs, rfl, ta, ra⟩ := hd
    obtain ⟨b, ws, rfl, tb, rb⟩ := he
    have hw : ws = [] := List.eq_nil_of_length_eq_zero rb.length.symm
    subst hw
    refine op_nil (ne := false) hu pins s σ H _ _ v u Q I rx ry ⟨a, b, vs, rfl, rfl, SqL.of ta, SqL.of tb, ?_⟩
    have : vs.isEmpty = xs.isEmpty := by cases xs <;> cases vs <;> first | rfl | (have := ra.length; simp at this)
    rw [if_neg Bool.false_ne_true, this]
    exact q _ _ (.val rep_bl)
theorem d_neN (hK : P.K = X.K) (hu : X.A.units + 64 < cLine) : OpR X (compareOp .NotEq) (rD2 P (ap2 .neN)) := by
  intro pins s σ H x y v u Q I rx ry h
  obtain ⟨L, d, e, r, hL, hd, he, hf, q⟩ := h
  cases d <;> first | (exfalso; revert hf; simp [ap2]; done) | skip
  cases e <;> first | (exfalso; revert hf; simp [ap2]; done) | skip
  rename_i xs ys
  cases ys with
  | cons _ _ => exfalso; revert hf; simp [ap2]
  | nil =>
    simp only [ap2, Option.some.injEq] at hf
    subst hf
    obtain ⟨a, vs, rfl, ta, ra⟩ := hd
    obtain ⟨b, ws, rfl, tb, rb⟩ := he
    have hw : ws = [] := List.eq_nil_of_length_eq_zero rb.length.symm
    subst hw
    refine op_nil (ne := true) hu pins s σ H _ _ v u Q I rx ry ⟨a, b, vs, rfl, rfl, SqL.of ta, SqL.of tb, ?_⟩
    have : vs.isEmpty = xs.isEmpty := by cases xs <;> cases vs <;> first | rfl | (have := ra.length; simp at this)
    rw [if_pos rfl, this]
    exact q _ _ (.val rep_bl)
theorem d_cmp (hK : P.K = X.K) (hu : X.A.units + 65 < cLine) {o : O2} {op : CmpOp} (h : cmpOf o = some op) : OpR X (compareOp op) (rD2 P (ap2 o)) := by
  cases o <;> simp only [cmpOf, reduceCtorEq, Option.some.injEq] at h <;> subst h
  · exact d_eq hK (by omega)
  · exact d_ne hK (by omega)
  · exact d_lt hK (by omega)
  · exact d_cmpI op_le
  · exact d_cmpI op_gt
  · exact d_cmpI op_ge
  · exact d_in hK hu
  · exact d_notin hK hu
  · exact d_is
  · exact d_isnot
  · exact d_eqN hK (by omega)
  · exact d_neN hK (by omega)
theorem seqAt_atI {ds : List D} {vs : List V} {i : Int} {d : D} (r : Reps P L H ds vs) (h : seqAt ds i = some d) : ∃ v, atI vs i = some v ∧ Rep P L H d v := by
  have hl := r.length
  unfold seqAt at h
  unfold atI ixN
  split at h
  · rename_i h0
    obtain ⟨v, e, rv⟩ := r.get h
    have hlt : i.toNat < vs.length := (List.getElem?_eq_some_iff.mp e).1
    rw [if_pos h0, if_pos (by omega)]
    exact ⟨v, e, rv⟩
  · rename_i h0
    split at h
    · rename_i h1
      rw [hl] at h
      obtain ⟨v, e, rv⟩ := r.get h
      rw [if_neg h0, if_pos (by omega)]
      exact ⟨v, e, rv⟩
    · cases h
theorem d_ix (hK : P.K = X.K) : IxR X (rD2 P (ap2 .ix)) := by
  intro val sli pins s σ H x y v u Q I rx ry h hs
  obtain ⟨L, d, e, r, hL, hd, he, hf, q⟩ := h
  cases d <;> first | (exfalso; revert hf; simp [ap2]; done) | skip
  · cases e <;> first | (exfalso; revert hf; simp [ap2]; done) | skip
    obtain ⟨a, vs, rfl, t, rr⟩ := tup_of hd
    obtain ⟨d', h1, rfl⟩ := Option.map_eq_some_iff.mp (show _ = some r from hf)
    obtain ⟨w, h2, h3⟩ := seqAt_atI rr h1
    exact ix_tup val sli pins s σ H _ y v u Q I rx ry ⟨a, vs, _, w, rfl, int_of he, hK ▸ t.sq, h2, q _ _ (.val h3)⟩ hs
  · cases e <;> first | (exfalso; revert hf; simp [ap2]; done) | skip
    obtain ⟨a, vs, rfl, t, rr⟩ := hd
    obtain ⟨d', h1, rfl⟩ := Option.map_eq_some_iff.mp (show _ = some r from hf)
    obtain ⟨w, h2, h3⟩ := seqAt_atI rr h1
    exact ix_list val sli pins s σ H _ y v u Q I rx ry ⟨a, vs, _, w, rfl, int_of he, SqL.of t, h2, q _ _ (.val h3)⟩ hs
/-- slices -/
theorem cutD_V {ds : List D} {vs : List V} (r : Reps P L H ds vs) (lo hi : Option Int) : Reps P L H (cutD ds lo hi) (cutV vs lo hi) := by
  unfold cutD cutV
  rw [r.length]
  exact (r.drop _).take _
def rSlD (P : RP) : V → Option Int → Option Int → Hp → VK → Prop := fun x lo hi H Q => ∃ (L : Addr → Prop) (d : D) (r : R), (∀ b, L b → ∃ o, H b = some o) ∧ RepW P L H d x ∧ apSl d lo hi = some r ∧ ∀ v H', OpPost P L H r v H' → Q v H'
theorem d_sl (hK : P.K = X.K) : SlR X (rSlD P) := by
  intro pins s σ H x v vl vu lo hi sl Q I rx hs pl pu h
  obtain ⟨L, d, r, hL, hd, hf, q⟩ := h
  cases d <;> first | (exfalso; revert hf; simp [apSl]; done) | skip
  · obtain ⟨a, vs, rfl, t, rr⟩ := tup_of hd
    simp only [apSl, Option.some.injEq] at hf
    subst hf
    refine sl_tupA pins s σ H _ v vl vu lo hi sl Q I rx hs pl pu ⟨a, vs, rfl, hK ▸ t.sq, fun hw => ?_, fun _ p hp => q _ _ (.tup hL hp (cutD_V rr lo hi))⟩
    rename_i ds
    have e : cutD ds lo hi = ds := by
      unfold cutD
      rw [rr.length, hw.1, hw.2, List.drop_zero, Nat.sub_zero, ← rr.length, List.take_length]
    rw [e] at q
    exact q _ _ (.val hd)
  · obtain ⟨a, vs, rfl, t, rr⟩ := hd
    simp only [apSl, Option.some.injEq] at hf
    subst hf
    exact sl_list pins s σ H _ v vl vu lo hi sl Q I rx hs pl pu ⟨a, vs, rfl, SqL.of t, fun p hp => q _ _ (.lst hp (cutD_V rr lo hi))⟩
/-- truth -/
theorem truth_V (hK : P.K = X.K) {d : D} {x : V} {k : Bool} (hd : RepW P L H d x) (h : truth d = some k) : TruV X.K x H k := by
  cases d <;> simp only [truth, reduceCtorEq, Option.some.injEq] at h
  · rw [non_of hd]; exact h.symm
  · rw [bl_of hd]; exact h.symm
  · rw [int_of hd]; exact h.symm
  · obtain ⟨a, vs, rfl, t, rr⟩ := tup_of hd
    refine .inr (.inl ⟨vs, hK ▸ t.sq, ?_⟩)
    rw [← h]
    have := rr.length
    cases vs <;> cases ‹List D› <;> simp_all
  · obtain ⟨a, vs, rfl, t, rr⟩ := hd
    refine .inl ⟨vs, SqL.of t, ?_⟩
    rw [← h]
    have := rr.length
    cases vs <;> cases ‹List D› <;> simp_all
end
section
variable {X : Cx} {P : RP}
/-- two arguments -/
def r2c (P : RP) (f : D → D → Option R) : List V → Hp → VK → Prop := fun xs H Q => ∃ x y, xs = [x, y] ∧ rD2 P f x y H Q
theorem c_max2 (hc : X.calm = true) : CallR X (.builtin "max") (r2c P (ap2 .max2)) := by
  intro pins s σ H xs us Q I r h
  obtain ⟨x, y, rfl, L, d, e, r', hL, hd, he, hf, q⟩ := h
  cases d <;> cases e <;> first | (exfalso; revert hf; simp [ap2]; done) | skip
  simp only [ap2, Option.some.injEq] at hf
  subst hf
  exact call_max2 hc pins s σ H _ us Q I r ⟨_, _, by rw [int_of hd, int_of he], q _ _ (.val rep_int)⟩
theorem c_min2 (hc : X.calm = true) : CallR X (.builtin "min") (r2c P (ap2 .min2)) := by
  intro pins s σ H xs us Q I r h
  obtain ⟨x, y, rfl, L, d, e, r', hL, hd, he, hf, q⟩ := h
  cases d <;> cases e <;> first | (exfalso; revert hf; simp [ap2]; done) | skip
  simp only [ap2, Option.some.injEq] at hf
  subst hf
  exact call_min2 hc pins s σ H _ us Q I r ⟨_, _, by rw [int_of hd, int_of he], q _ _ (.val rep_int)⟩
theorem c_dmod : CallR X (.builtin "divmod") (r2c P (ap2 .dmod)) := by
  intro pins s σ H xs us Q I r h
  obtain ⟨x, y, rfl, L, d, e, r', hL, hd, he, hf, q⟩ := h
  cases d <;> cases e <;> first | (exfalso; revert hf; simp [ap2]; done) | skip
  rename_i i j
  simp only [ap2] at hf
  split at hf
  · rename_i c
    cases hf
    unfold fdivOk at c
    simp only [Bool.and_eq_true, decide_eq_true_eq] at c
    refine call_divmodW pins s σ H _ us Q I r ⟨i, j, by rw [int_of hd, int_of he], ⟨c.1, PyProof.noPylong_of_log2 c.2⟩, fun p hp => ?_⟩
    exact q _ _ (.tup hL hp (Reps.cons rep_int (Reps.cons rep_int Reps.nil)))
  · cases hf
end
end MP

namespace MP
open PySem PySem.Spec PyProof.Rows L2
variable {P : RP} {L L' : Addr → Prop} {H H' : Hp} {L0 : Addr → Prop} {loc loc' : Loc} {σ : Sg}

theorem _root_.L2.PE.imp {X : Cx} {e : Expr} {t t' : TE} (h : PE X e t) (w : ∀ σ H Q, t' σ H Q → t σ H Q) : PE X e t' := ⟨fun pins s σ H Q I q => h.run pins s σ H Q I (w σ H Q q)⟩
theorem _root_.L2.PT.imp {X : Cx} {e : Expr} {t t' : TT} (h : PT X e t) (w : ∀ σ H Q, t' σ H Q → t σ H Q) : PT X e t' := ⟨fun pins s σ H Q I q => h.run pins s σ H Q I (w σ H Q q)⟩
theorem _root_.L2.PW.imp {X : Cx} {e : Expr} {t t' : TT} (h : PW X e t) (w : ∀ σ H Q, t' σ H Q → t σ H Q) : PW X e t' := ⟨fun wh pins s σ H Q I q => h.run wh pins s σ H Q I (w σ H Q q)⟩
theorem _root_.L2.PA.imp {X : Cx} {e : List Expr} {t t' : TA} (h : PA X e t) (w : ∀ σ H Q, t' σ H Q → t σ H Q) : PA X e t' := ⟨fun p pins s σ H Q I q => h.run p pins s σ H Q I (w σ H Q q)⟩
theorem _root_.L2.PK.imp {X : Cx} {e : List Keyword} {t t' : TA} (h : PK X e t) (w : ∀ σ H Q, t' σ H Q → t σ H Q) : PK X e t' := ⟨fun p pins s σ H Q I q => h.run p pins s σ H Q I (w σ H Q q)⟩
theorem _root_.L2.PO.imp {X : Cx} {e : Option Expr} {t t' : TO} (h : PO X e t) (w : ∀ σ H Q, t' σ H Q → t σ H Q) : PO X e t' := ⟨fun pins s σ H Q I q => h.run pins s σ H Q I (w σ H Q q)⟩
theorem _root_.L2.PS.imp {X : Cx} {e : Stmt} {t t' : TS} (h : PS X e t) (w : ∀ D σ H, t' D σ H → t D σ H) : PS X e t' := ⟨fun pins s σ H D I q => h.run pins s σ H D I (w D σ H q)⟩
theorem _root_.L2.PSs.imp {X : Cx} {e : List Stmt} {t t' : TS} (h : PSs X e t) (w : ∀ D σ H, t' D σ H → t D σ H) : PSs X e t' := ⟨fun pins s σ H D I q => h.run pins s σ H D I (w D σ H q)⟩
theorem _root_.L2.PG.imp {X : Cx} {e : Expr} {t t' : TG} (h : PG X e t) (w : ∀ v σ H Q, t' v σ H Q → t v σ H Q) : PG X e t' := ⟨fun pins s σ H v u Q I r q => h.run pins s σ H v u Q I r (w v σ H Q q)⟩

theorem EvPost.refl {r : D} {v : V} (R : Rel P L0 loc σ H) (h : RepR P L0 loc σ H (.val r) v) : EvPost P L0 loc σ H loc (.val r) v H := ⟨R, fun _ _ e _ => e, fun _ z => z, h, fun _ o e => ⟨o, e⟩, (fun _ _ e => nomatch e), fun _ ds e => ⟨ds, e⟩, fun _ _ e _ => e⟩
theorem EvPost.reflR {i : Nat} {v : V} (R : Rel P L0 loc σ H) (h : RepR P L0 loc σ H (.ref i) v) : EvPost P L0 loc σ H loc (.ref i) v H := ⟨R, fun _ _ e _ => e, fun _ z => z, h, fun _ o e => ⟨o, e⟩, (fun _ _ e => nomatch e), fun _ ds e => ⟨ds, e⟩, fun _ _ e _ => e⟩
theorem EvPost.op {r : R} {v : V} (R : Rel P L0 loc σ H) (h : OpPost P (Lv L0 loc σ) H r v H') : EvPost P L0 loc σ H loc r v H' := by
  cases r with
  | val d =>
    obtain ⟨s, r⟩ := h
    exact ⟨R.grow s (fun b z => .inl z) fun b z => by obtain ⟨o, e⟩ := R.l0 b z; exact ⟨o, s _ _ e⟩, fun b o e _ => s b o e, fun _ z => z, r, fun b o e => ⟨o, s b o e⟩, (fun _ _ e => nomatch e), fun _ ds e => ⟨ds, e⟩, fun _ _ e _ => e⟩
  | ref i => exact h.elim
  | new ds =>
    obtain ⟨p, vs, rfl, hp, rfl, r⟩ := h
    have s : Same H (upd H p (.lst vs)) := same_upd hp
    have np : ¬ Lv L0 loc σ p := fun z => by obtain ⟨o, e⟩ := R.lv z; rw [hp] at e; cases e
    refine ⟨R.grow s (fun b z => .inl z) fun b z => by obtain ⟨o, e⟩ := R.l0 b z; exact ⟨o, s _ _ e⟩, fun b o e _ => s b o e, fun _ z => z, ⟨p, vs, rfl, upd_same, np, ?_, ?_⟩, fun b o e => ⟨o, s b o e⟩, fun _ c _ e => by cases e; exact hp, fun _ ds e => ⟨ds, e⟩, fun _ _ e _ => e⟩
    · refine Reps.keep (fun b o e _ => s b o e) (fun b z => ?_) _ _ r
      rcases z with z | rfl
      · exact .inl z
      · exact .inr hp
    · refine R.grow s (fun b z => ?_) fun b z => ?_
      · rcases z with z | rfl
        · exact .inl z
        · exact .inr hp
      · rcases z with z | rfl
        · obtain ⟨o, e⟩ := R.l0 b z; exact ⟨o, s _ _ e⟩
        · exact ⟨_, upd_same⟩
theorem res_w {r : R} {v : V} {d : D} (R : Rel P L0 loc σ H) (h : RepR P L0 loc σ H r v) (e : res loc r = some d) : RepW P (Lv L0 loc σ) H d v := by
  cases r with
  | val d' => cases e; exact Rep.w h
  | new ds =>
    cases e
    obtain ⟨a, vs, e1, h1, h2, h3, _⟩ := h
    exact ⟨a, vs, e1, h1, Reps.weak (fun b z => .inl z) h3⟩
  | ref i =>
    simp only [res] at e
    split at e
    · rename_i b ds hl
      cases e
      obtain ⟨a, vs, e1, h1, _, h3⟩ := R.own _ _ _ hl
      have h' : σ[i]? = some (some v) := h
      rw [e1] at h'
      cases h'
      exact ⟨a, vs, rfl, h1, h3⟩
    · cases e
theorem res_sett {r : R} : res loc (sett r) = res loc r := by cases r <;> rfl
theorem toVal_rep {r : R} {v : V} {d : D} (h : RepR P L0 loc σ H r v) (e : toVal r = some d) : Rep P (Lv L0 loc σ) H d v := by
  cases r with
  | val d' => cases e; exact h
  | new ds => cases e; exact h.sett
  | ref i => cases e
theorem tval_sett {r : R} {d : D} (e : toVal r = some d) : sett r = .val d := by
  cases r with
  | val d' => cases e; rfl
  | new ds => cases e; rfl
  | ref i => cases e

/-! ### two-place -/
theorem o2_read {f : D → D → Option R} {ga gb g : Loc → Option (R × Loc)} (hg : ∀ loc r loc', g loc = some (r, loc') → ∃ ra l1 rb d e, ga loc = some (ra, l1) ∧ gb l1 = some (rb, loc') ∧ res loc' (sett ra) = some d ∧ res loc' rb = some e ∧ f d e = some r)
    {Q : VK} (h : tE P g σ H Q) : tOp (rD2 P f) (tE P ga) (tE P gb) σ H Q := by
  obtain ⟨L0, loc, r, loc', R, e, k⟩ := h
  obtain ⟨ra, l1, rb, d, e', h1, h2, h3, h4, h5⟩ := hg _ _ _ e
  refine ⟨L0, loc, ra, l1, R, h1, fun x H1 p1 => ⟨L0, l1, rb, loc', p1.rel, h2, fun y H2 p2 => ⟨Lv L0 loc' σ, d, e', r, fun b z => p2.rel.lv z, res_w p2.rel (p1.rep.sett.after p2) h3, res_w p2.rel p2.rep h4, h5, fun v H' hp => ?_⟩⟩⟩
  exact k v H' ((p1.trans p2).trans (EvPost.op p2.rel hp))
theorem o1_read {f : D → Option R} {ga g : Loc → Option (R × Loc)} (hg : ∀ loc r loc', g loc = some (r, loc') → ∃ ra d, ga loc = some (ra, loc') ∧ res loc' ra = some d ∧ f d = some r)
    {Q : VK} (h : tE P g σ H Q) : tE P ga σ H fun x H1 => rD1 P f x H1 Q := by
  obtain ⟨L0, loc, r, loc', R, e, k⟩ := h
  obtain ⟨ra, d, h1, h3, h5⟩ := hg _ _ _ e
  refine ⟨L0, loc, ra, loc', R, h1, fun x H1 p1 => ⟨Lv L0 loc' σ, d, r, fun b z => p1.rel.lv z, res_w p1.rel p1.rep h3, h5, fun v H' hp => ?_⟩⟩
  exact k v H' (p1.trans (EvPost.op p1.rel hp))

/-! ### freezing a list -/
theorem getset {loc : Loc} {i j : Nat} {s t : Slot} (h : (loc.set i s)[j]? = some t) : (i = j ∧ t = s ∧ i < loc.length) ∨ (i ≠ j ∧ loc[j]? = some t) := by
  by_cases e : i = j
  · subst e
    by_cases hl : i < loc.length
    · rw [List.getElem?_set_self hl] at h; cases h; exact .inl ⟨rfl, rfl, hl⟩
    · rw [List.getElem?_eq_none (by simpa using hl)] at h; cases h
  · rw [List.getElem?_set_ne e] at h; exact .inr ⟨e, h⟩
theorem lt_of_get {α : Type} {l : List α} {i : Nat} {a : α} (h : l[i]? = some a) : i < l.length := (List.getElem?_eq_some_iff.mp h).1
/-- an own list changed or frozen, in the heap or not: what all others know stays -/
theorem Rel.change {i : Nat} {b : Bool} {ds : List D} {a : Addr} {s : Slot} {H' : Hp} (R : Rel P L0 loc σ H) (hi : loc[i]? = some (.own b ds)) (ha : σ[i]? = some (some (.ref a)))
    (hH : ∀ c o, H c = some o → c ≠ a → H' c = some o)
    (hs : (∃ b' es vs, s = .own b' es ∧ H' a = some (.lst vs) ∧ Reps P (Lv L0 loc σ) H' es vs) ∨ (∃ d, s = .dat d ∧ Rep P (fun c => Lv L0 loc σ c ∧ c ≠ a) H' d (.ref a))) : Rel P L0 (loc.set i s) σ H' := by
  obtain ⟨a', vs0, ea, h0, n0, r0⟩ := R.own _ _ _ hi
  rw [ha] at ea; cases ea
  have hil := lt_of_get hi
  have La : Lv L0 loc σ a := .inr ⟨i, b, ds, hi, ha⟩
  -- the live ones behind it are live ahead; a itself only where s is own
  have lv : ∀ c, Lv L0 (loc.set i s) σ c → Lv L0 loc σ c := fun c z => by
    rcases z with z | ⟨j, b', es, e1, e2⟩
    · exact .inl z
    · rcases getset e1 with ⟨rfl, _, _⟩ | ⟨_, e1⟩
      · rw [ha] at e2; cases e2; exact La
      · exact .inr ⟨j, b', es, e1, e2⟩
  have lva : (∃ d, s = .dat d) → ∀ c, Lv L0 (loc.set i s) σ c → c ≠ a := fun hd c z e => by
    subst e
    rcases z with z | ⟨j, b', es, e1, e2⟩
    · exact n0 z
    · rcases getset e1 with ⟨rfl, e3, _⟩ | ⟨ne, e1⟩
      · obtain ⟨d, rfl⟩ := hd; cases e3
      · exact ne (R.inj _ _ _ _ _ _ _ hi e1 ha e2)
  have kp : ∀ c o, H c = some o → ¬ Lv L0 loc σ c → H' c = some o := fun c o e n => hH c o e fun z => n (z ▸ La)
  refine ⟨by rw [List.length_set]; exact R.len, fun c z => ?_, fun j d e => ?_, fun j b' es e => ?_, fun j k b' c' es fs w e1 e2 e3 e4 => ?_, fun j ns e => ?_⟩
  · obtain ⟨o, e⟩ := R.l0 c z
    exact ⟨o, hH c o e fun q => n0 (q ▸ z)⟩
  · rcases getset e with ⟨rfl, e3, _⟩ | ⟨ne, e⟩
    · rcases hs with ⟨_, _, _, rfl, _⟩ | ⟨d', rfl, r⟩
      · cases e3
      · cases e3
        exact ⟨_, ha, Rep.weak (fun c z => ⟨lv c z, lva ⟨_, rfl⟩ c z⟩) r⟩
    · obtain ⟨v, e1, r⟩ := R.dat j d e
      exact ⟨v, e1, Rep.keep kp (fun c z => .inl (lv c z)) d v r⟩
  · rcases getset e with ⟨rfl, e3, _⟩ | ⟨ne, e⟩
    · rcases hs with ⟨b2, es2, vs, rfl, h1, r⟩ | ⟨d', rfl, r⟩
      · cases e3
        exact ⟨a, vs, ha, h1, n0, Reps.weak lv r⟩
      · cases e3
    · obtain ⟨a2, vs, e1, h1, n1, r⟩ := R.own j b' es e
      have ne2 : a2 ≠ a := fun q => by subst q; exact ne (R.inj _ _ _ _ _ _ _ hi e ha e1)
      exact ⟨a2, vs, e1, hH _ _ h1 ne2, n1, Reps.keep kp (fun c z => .inl (lv c z)) es vs r⟩
  · rcases getset e1 with ⟨rfl, _, _⟩ | ⟨_, e1⟩
    · rcases getset e2 with ⟨rfl, _, _⟩ | ⟨_, e2⟩
      · rfl
      · exact R.inj _ _ _ _ _ _ _ hi e2 e3 e4
    · rcases getset e2 with ⟨rfl, _, _⟩ | ⟨_, e2⟩
      · exact R.inj _ _ _ _ _ _ _ e1 hi e3 e4
      · exact R.inj _ _ _ _ _ _ _ e1 e2 e3 e4
  · rcases getset e with ⟨rfl, e3, _⟩ | ⟨ne, e⟩
    · rcases hs with ⟨_, _, _, rfl, _⟩ | ⟨d', rfl, r⟩ <;> cases e3
    · obtain ⟨a2, e1, h1⟩ := R.scr j ns e
      exact ⟨a2, e1, h1.keep kp fun c z => .inl (lv c z)⟩
theorem own_set {i : Nat} {b : Bool} {ds : List D} {s : Slot} (hi : loc[i]? = some (.own b ds)) : ∀ c, OwnAt (loc.set i s) σ c → OwnAt loc σ c := fun c z => by
  obtain ⟨j, b', es, e1, e2⟩ := z
  rcases getset e1 with ⟨rfl, rfl, _⟩ | ⟨_, e1⟩
  · exact ⟨i, b, ds, hi, e2⟩
  · exact ⟨j, b', es, e1, e2⟩
/-- an own list gets other items in the heap -/
theorem EvPost.mut {i : Nat} {b : Bool} {ds es : List D} {a : Addr} {vs : List V} {r : R} {v : V} (R : Rel P L0 loc σ H) (hi : loc[i]? = some (.own b ds)) (ha : σ[i]? = some (some (.ref a))) (hr : Reps P (Lv L0 loc σ) H es vs)
    (hv : ∀ d, r = .val d → Rep P (Lv L0 loc σ) H d v) (hn : ∃ d, r = .val d) : EvPost P L0 loc σ H (loc.set i (.own b es)) r v (upd H a (.lst vs)) := by
  obtain ⟨a', vs0, ea, h0, n0, r0⟩ := R.own _ _ _ hi
  rw [ha] at ea; cases ea
  have La : Lv L0 loc σ a := .inr ⟨i, b, ds, hi, ha⟩
  have kp : ∀ c o, H c = some o → ¬ Lv L0 loc σ c → (upd H a (.lst vs)) c = some o := fun c o e n => by
    rw [upd_ne (fun z => n (by rw [z]; exact La))]; exact e
  have rel := R.change (s := .own b es) (H' := upd H a (.lst vs)) hi ha (fun c o e n => by rw [upd_ne n]; exact e) (.inl ⟨b, es, vs, rfl, upd_same, Reps.keep kp (fun c z => .inl z) _ _ hr⟩)
  obtain ⟨d, rfl⟩ := hn
  refine ⟨rel, fun c o e n => ?_, own_set hi, ?_, fun c o e => ?_, (fun _ _ e => nomatch e), fun j es' e => ?_, fun j s e n => by
    by_cases z : i = j
    · subst z; rw [hi] at e; cases e; exact absurd rfl (n _ _)
    · rw [List.getElem?_set_ne z]; exact e⟩
  · rw [upd_ne (fun z => n (by rw [z]; exact ⟨i, b, ds, hi, ha⟩))]; exact e
  · exact Rep.keep kp (fun c z => .inl (z.imp id (own_set hi c))) d v (hv d rfl)
  · by_cases z : c = a
    · subst z; exact ⟨_, upd_same⟩
    · exact ⟨o, by rw [upd_ne z]; exact e⟩
  · by_cases z : i = j
    · subst z
      rw [hi] at e; cases e
      exact ⟨es, List.getElem?_set_self (lt_of_get hi)⟩
    · exact ⟨es', by rw [List.getElem?_set_ne z]; exact e⟩
theorem fz_post {i : Nat} {ds : List D} (R : Rel P L0 loc σ H) (hi : loc[i]? = some (.own false ds)) : ∃ v, σ[i]? = some (some v) ∧ EvPost P L0 loc σ H (loc.set i (.dat (.lst ds))) (.val (.lst ds)) v H := by
  obtain ⟨a, vs, ea, h0, n0, r0⟩ := R.own _ _ _ hi
  have rep : Rep P (fun c => Lv L0 loc σ c ∧ c ≠ a) H (.lst ds) (.ref a) := by
    unfold Rep
    exact ⟨a, vs, rfl, h0, fun z => z.2 rfl, Reps.weak (fun c z => z.1) r0⟩
  have rel := R.change (s := .dat (.lst ds)) (H' := H) hi ea (fun c o e _ => e) (.inr ⟨_, rfl, rep⟩)
  refine ⟨_, ea, rel, fun c o e _ => e, own_set hi, ?_, fun c o e => ⟨o, e⟩, (fun _ _ e => nomatch e), fun j es' e => ?_, fun j s e n => by
    by_cases z : i = j
    · subst z; rw [hi] at e; cases e; exact absurd rfl (n _ _)
    · rw [List.getElem?_set_ne z]; exact e⟩
  rotate_left
  · by_cases z : i = j
    · subst z; rw [hi] at e; cases e
    · exact ⟨es', by rw [List.getElem?_set_ne z]; exact e⟩
  obtain ⟨v, e1, r⟩ := rel.dat i (.lst ds) (List.getElem?_set_self (lt_of_get hi))
  rw [ea] at e1; cases e1
  exact r
end MP

namespace MP
open PySem PySem.Spec PyProof.Rows L2
variable {P : RP} {L L' : Addr → Prop} {H H' : Hp} {L0 : Addr → Prop} {loc loc' : Loc} {σ σ' : Sg}

/-! ### argument lists -/
def RepRs (P : RP) (L0 : Addr → Prop) (loc : Loc) (σ : Sg) (H : Hp) : List R → List V → Prop
  | [], vs => vs = []
  | r :: rs, vs => ∃ v w, vs = v :: w ∧ RepR P L0 loc σ H (sett r) v ∧ RepRs P L0 loc σ H rs w
theorem RepRs.length : ∀ {rs : List R} {vs : List V}, RepRs P L0 loc σ H rs vs → rs.length = vs.length
  | [], _, h => by subst h; rfl
  | r :: rs, vs, h => by
    obtain ⟨v, w, rfl, _, h2⟩ := h
    simp [RepRs.length h2]
theorem RepRs.get : ∀ {rs : List R} {vs : List V} {k : Nat} {r : R}, RepRs P L0 loc σ H rs vs → rs[k]? = some r → ∃ v, vs[k]? = some v ∧ RepR P L0 loc σ H (sett r) v
  | [], _, k, r, h, e => by simp at e
  | r' :: rs, vs, k, r, h, e => by
    obtain ⟨v, w, rfl, h1, h2⟩ := h
    cases k with
    | zero => simp at e; subst e; exact ⟨v, by simp, h1⟩
    | succ k =>
      obtain ⟨u, e2, h3⟩ := RepRs.get (k := k) h2 (by simpa using e)
      exact ⟨u, by simpa using e2, h3⟩
theorem RepRs.after {r : R} {v : V} : ∀ {rs : List R} {vs : List V}, RepRs P L0 loc σ H rs vs → EvPost P L0 loc σ H loc' r v H' → RepRs P L0 loc' σ H' rs vs
  | [], _, h, _ => h
  | r' :: rs, vs, h, p => by
    obtain ⟨v, w, rfl, h1, h2⟩ := h
    exact ⟨v, w, rfl, h1.after p, RepRs.after h2 p⟩
theorem RepRs.append : ∀ {rs ss : List R} {vs ws : List V}, RepRs P L0 loc σ H rs vs → RepRs P L0 loc σ H ss ws → RepRs P L0 loc σ H (rs ++ ss) (vs ++ ws)
  | [], _, _, _, h, h' => by subst h; exact h'
  | r' :: rs, ss, vs, ws, h, h' => by
    obtain ⟨v, w, rfl, h1, h2⟩ := h
    exact ⟨v, w ++ ws, rfl, h1, RepRs.append h2 h'⟩
theorem RepRs.toVals : ∀ {rs : List R} {vs : List V} {ds : List D}, RepRs P L0 loc σ H rs vs → rs.mapM toVal = some ds → Reps P (Lv L0 loc σ) H ds vs
  | [], _, ds, h, e => by
    subst h
    rw [List.mapM_nil] at e
    cases e
    exact Reps.nil
  | r :: rs, vs, ds, h, e => by
    obtain ⟨v, w, rfl, h1, h2⟩ := h
    rw [List.mapM_cons] at e
    cases e1 : toVal r with
    | none => rw [e1] at e; cases e
    | some d =>
      cases e2 : rs.mapM toVal with
      | none => rw [e1, e2] at e; cases e
      | some ds' =>
        rw [e1, e2] at e
        cases e
        rw [tval_sett e1] at h1
        exact Reps.cons h1 (RepRs.toVals h2 e2)
/-- the reading of arguments -/
def tA (P : RP) (g : Loc → Option (List R × Loc)) : TA := fun σ H Q => ∃ L0 loc rs loc', Rel P L0 loc σ H ∧ g loc = some (rs, loc') ∧ ∀ vs H', EvPost P L0 loc σ H loc' (.val .non) .non H' → RepRs P L0 loc' σ H' rs vs → Q vs H'
theorem repR_non : RepR P L0 loc σ H (.val .non) .non := by
  show Rep P (Lv L0 loc σ) H .non .non
  unfold Rep
  rfl
theorem EvPost.blank {r : R} {v : V} (p : EvPost P L0 loc σ H loc' r v H') : EvPost P L0 loc σ H loc' (.val .non) .non H' := ⟨p.rel, p.keep, p.own, repR_non, p.there, (fun _ _ e => nomatch e), p.pin, p.fix⟩
theorem EvPost.none0 (R : Rel P L0 loc σ H) : EvPost P L0 loc σ H loc (.val .non) .non H := .refl R repR_non
/-- an earlier step, then one with a result -/
theorem EvPost.to {H1 : Hp} {loc1 : Loc} {r r' : R} {v v' : V} (p : EvPost P L0 loc σ H loc1 r v H1) (q : EvPost P L0 loc1 σ H1 loc' r' v' H') : EvPost P L0 loc σ H loc' r' v' H' := p.trans q
theorem a_nil {gs : Loc → Option (List R × Loc)} (hg : ∀ loc rs loc', gs loc = some (rs, loc') → rs = [] ∧ loc' = loc) {Q : List V → Hp → Prop} (h : tA P gs σ H Q) : tNil σ H Q := by
  obtain ⟨L0, loc, rs, loc', R, e, k⟩ := h
  obtain ⟨rfl, rfl⟩ := hg _ _ _ e
  exact k [] H (.none0 R) rfl
theorem a_cons {g : Loc → Option (R × Loc)} {gr gs : Loc → Option (List R × Loc)}
    (hg : ∀ loc rs loc', gs loc = some (rs, loc') → ∃ r l1 rs', g loc = some (r, l1) ∧ gr l1 = some (rs', loc') ∧ rs = sett r :: rs') {Q : List V → Hp → Prop} (h : tA P gs σ H Q) : tCons (tE P g) (tA P gr) σ H Q := by
  obtain ⟨L0, loc, rs, loc', R, e, k⟩ := h
  obtain ⟨r, l1, rs', h1, h2, rfl⟩ := hg _ _ _ e
  refine ⟨L0, loc, r, l1, R, h1, fun x H1 p1 => ⟨L0, l1, rs', loc', p1.rel, h2, fun vs H2 p2 q2 => ?_⟩⟩
  refine k (x :: vs) H2 (p1.blank.trans p2) ⟨x, vs, rfl, ?_, q2⟩
  have h := p1.rep.sett.after p2
  have e : sett (sett r) = sett r := by cases r <;> rfl
  rw [e]; exact h

/-! ### a call -/
/-- what a def promises by an evaluator -/
def spOf (P : RP) (g : Loc → Option (R × Loc)) (ar : Nat) : Sp := fun vs H Q _ => vs.length = ar ∧ ∃ L0 a r a', Rel P L0 a (vs.map some) H ∧ g a = some (r, a') ∧ (∀ i, r ≠ .ref i) ∧ ∀ v H', EvPost P L0 a (vs.map some) H a' r v H' → Q v H'

theorem argsOf_len : ∀ {rs : List R} {a : Loc}, argsOf loc rs = some a → rs.length = a.length
  | [], a, h => by cases h; rfl
  | r :: rs, a, h => by
    unfold argsOf at h
    split at h
    · rename_i s l h1 h2
      cases h
      simp [argsOf_len h2]
    · cases h
theorem argsOf_get : ∀ {rs : List R} {a : Loc} {k : Nat} {s : Slot}, argsOf loc rs = some a → a[k]? = some s → ∃ r, rs[k]? = some r ∧ argOf loc r = some s
  | [], a, k, s, h, e => by cases h; simp at e
  | r :: rs, a, k, s, h, e => by
    unfold argsOf at h
    split at h
    · rename_i s' l h1 h2
      cases h
      cases k with
      | zero => simp at e; subst e; exact ⟨r, by simp, h1⟩
      | succ k =>
        obtain ⟨r', e1, e2⟩ := argsOf_get (k := k) h2 (by simpa using e)
        exact ⟨r', by simpa using e1, e2⟩
    · cases h
theorem argsOf_getR : ∀ {rs : List R} {a : Loc} {k : Nat} {r : R}, argsOf loc rs = some a → rs[k]? = some r → ∃ s, a[k]? = some s ∧ argOf loc r = some s
  | [], a, k, s, h, e => by simp at e
  | r' :: rs, a, k, r, h, e => by
    unfold argsOf at h
    split at h
    · rename_i s' l h1 h2
      cases h
      cases k with
      | zero => simp at e; subst e; exact ⟨s', by simp, h1⟩
      | succ k =>
        obtain ⟨r', e1, e2⟩ := argsOf_getR (k := k) h2 (by simpa using e)
        exact ⟨r', by simpa using e1, e2⟩
    · cases h
theorem refs_mem : ∀ {rs : List R} {k i : Nat}, rs[k]? = some (.ref i) → i ∈ refs rs
  | [], k, i, e => by simp at e
  | r :: rs, k, i, e => by
    cases k with
    | zero => simp at e; subst e; simp [refs]
    | succ k =>
      have := refs_mem (rs := rs) (k := k) (by simpa using e)
      cases r <;> simp [refs, this]
theorem refs_inj : ∀ {rs : List R} {k l i : Nat}, nodupB (refs rs) = true → rs[k]? = some (.ref i) → rs[l]? = some (.ref i) → k = l
  | [], k, l, i, _, e, _ => by simp at e
  | r :: rs, k, l, i, h, e1, e2 => by
    cases k with
    | zero =>
      simp at e1; subst e1
      cases l with
      | zero => rfl
      | succ l =>
        have := refs_mem (rs := rs) (k := l) (by simpa using e2)
        simp [refs, nodupB, this] at h
    | succ k =>
      cases l with
      | zero =>
        simp at e2; subst e2
        have := refs_mem (rs := rs) (k := k) (by simpa using e1)
        simp [refs, nodupB, this] at h
      | succ l =>
        have h' : nodupB (refs rs) = true := by
          cases r <;> simp_all [refs, nodupB]
        have := refs_inj (rs := rs) (k := k) (l := l) (i := i) h' (by simpa using e1) (by simpa using e2)
        rw [this]
theorem given_spec : ∀ {rs : List R} {a : Loc} {l l' : Loc}, nodupB (refs rs) = true → given rs a l = some l' →
    l'.length = l.length ∧
    (∀ (j : Nat) (s : Slot), l'[j]? = some s → (∃ (k : Nat) (b' b : Bool) (ds ds0 : List D), rs[k]? = some (R.ref j) ∧ a[k]? = some (.own b' ds) ∧ l[j]? = some (.own b ds0) ∧ s = .own b ds) ∨
      (l[j]? = some s ∧ ∀ (k : Nat), rs[k]? = some (R.ref j) → ∃ ns, s = .scr ns)) ∧
    (∀ (k j : Nat) (b : Bool) (ds0 : List D), rs[k]? = some (.ref j) → l[j]? = some (.own b ds0) → ∃ b' ds, a[k]? = some (.own b' ds))
  | [], a, l, l', _, h => by
    cases h
    exact ⟨rfl, fun j s e => .inr ⟨e, fun k e => by simp at e⟩, fun k j b ds0 e => by simp at e⟩
  | .val d :: rs, a, l, l', hn, h => by
    unfold given at h
    cases a with
    | nil => cases h
    | cons s0 a =>
      obtain ⟨h1, h2, h3⟩ := given_spec (rs := rs) (by simpa [refs] using hn) h
      refine ⟨h1, fun j s e => ?_, fun k j b ds0 e1 e2 => ?_⟩
      · rcases h2 j s e with ⟨k, b', b, ds, ds0, q1, q2, q3, q4⟩ | ⟨q1, q2⟩
        · exact .inl ⟨k + 1, b', b, ds, ds0, by simpa using q1, by simpa using q2, q3, q4⟩
        · refine .inr ⟨q1, fun k e => ?_⟩
          cases k with
          | zero => simp at e
          | succ k => exact q2 k (by simpa using e)
      · cases k with
        | zero => simp at e1
        | succ k =>
          obtain ⟨b', ds, q⟩ := h3 k j b ds0 (by simpa using e1) e2
          exact ⟨b', ds, by simpa using q⟩
  | .new d :: rs, a, l, l', hn, h => by
    unfold given at h
    cases a with
    | nil => cases h
    | cons s0 a =>
      obtain ⟨h1, h2, h3⟩ := given_spec (rs := rs) (by simpa [refs] using hn) h
      refine ⟨h1, fun j s e => ?_, fun k j b ds0 e1 e2 => ?_⟩
      · rcases h2 j s e with ⟨k, b', b, ds, ds0, q1, q2, q3, q4⟩ | ⟨q1, q2⟩
        · exact .inl ⟨k + 1, b', b, ds, ds0, by simpa using q1, by simpa using q2, q3, q4⟩
        · refine .inr ⟨q1, fun k e => ?_⟩
          cases k with
          | zero => simp at e
          | succ k => exact q2 k (by simpa using e)
      · cases k with
        | zero => simp at e1
        | succ k =>
          obtain ⟨b', ds, q⟩ := h3 k j b ds0 (by simpa using e1) e2
          exact ⟨b', ds, by simpa using q⟩
  | .ref i :: rs, a, l, l', hn, h => by
    have hn' : i ∉ refs rs ∧ nodupB (refs rs) = true := by simpa [refs, nodupB] using hn
    simp only [given] at h
    split at h
    · rename_i bb ds a'
      split at h
      · rename_i b ds0 hl
        obtain ⟨h1, h2, h3⟩ := given_spec (rs := rs) hn'.2 h
        have hil := lt_of_get hl
        refine ⟨by rw [h1, List.length_set], fun j s e => ?_, fun k j b2 ds2 e1 e2 => ?_⟩
        · rcases h2 j s e with ⟨k, b', b2, ds2, ds3, q1, q2, q3, q4⟩ | ⟨q1, q2⟩
          · have ne : i ≠ j := fun z => hn'.1 (z ▸ refs_mem q1)
            rw [List.getElem?_set_ne ne] at q3
            exact .inl ⟨k + 1, b', b2, ds2, ds3, by simpa using q1, by simpa using q2, q3, q4⟩
          · rcases getset q1 with ⟨rfl, rfl, _⟩ | ⟨ne, q1⟩
            · exact .inl ⟨0, bb, b, ds, ds0, by simp, by simp, hl, rfl⟩
            · refine .inr ⟨q1, fun k e => ?_⟩
              cases k with
              | zero => simp at e; exact absurd e ne
              | succ k => exact q2 k (by simpa using e)
        · cases k with
          | zero => exact ⟨bb, ds, by simp⟩
          | succ k =>
            have e1' : rs[k]? = some (.ref j) := by simpa using e1
            have ne : i ≠ j := fun z => hn'.1 (z ▸ refs_mem e1')
            obtain ⟨b', ds, q⟩ := h3 k j b2 ds2 e1' (by rw [List.getElem?_set_ne ne]; exact e2)
            exact ⟨b', ds, by simpa using q⟩
      · cases h
    · rename_i ns a'
      split at h
      · rename_i ns' hl
        obtain ⟨h1, h2, h3⟩ := given_spec (rs := rs) hn'.2 h
        refine ⟨h1, fun j s e => ?_, fun k j b2 ds2 e1 e2 => ?_⟩
        · rcases h2 j s e with ⟨k, b', b2, ds2, ds3, q1, q2, q3, q4⟩ | ⟨q1, q2⟩
          · exact .inl ⟨k + 1, b', b2, ds2, ds3, by simpa using q1, by simpa using q2, q3, q4⟩
          · refine .inr ⟨q1, fun k e => ?_⟩
            cases k with
            | zero =>
              simp at e; subst e
              rw [hl] at q1; cases q1
              exact ⟨ns', rfl⟩
            | succ k => exact q2 k (by simpa using e)
        · cases k with
          | zero =>
            simp at e1; subst e1
            rw [hl] at e2; cases e2
          | succ k =>
            obtain ⟨b', ds, q⟩ := h3 k j b2 ds2 (by simpa using e1) e2
            exact ⟨b', ds, by simpa using q⟩
      · cases h
    · cases h
theorem map_some_get {vs : List V} {k : Nat} {v : V} (h : (vs.map some)[k]? = some (some v)) : vs[k]? = some v := by
  rw [List.getElem?_map] at h
  cases e : vs[k]? with
  | none => rw [e] at h; cases h
  | some w => rw [e] at h; cases h; rfl
theorem get_map_some {vs : List V} {k : Nat} {v : V} (h : vs[k]? = some v) : (vs.map some)[k]? = some (some v) := by
  rw [List.getElem?_map, h]; rfl

section
variable {rs : List R} {vs : List V} {a : Loc}
/-- the callee's live lists: the caller's but those lent -/
def Lc (L0 : Addr → Prop) (loc : Loc) (σ : Sg) (a : Loc) (vs : List V) (c : Addr) : Prop := Lv L0 loc σ c ∧ ¬ OwnAt a (vs.map some) c
theorem arg_own (R : Rel P L0 loc σ H) (rr : RepRs P L0 loc σ H rs vs) (ha : argsOf loc rs = some a) {k : Nat} {b : Bool} {ds : List D} (e : a[k]? = some (.own b ds)) :
    ∃ (j : Nat) (b' : Bool) (c : Addr) (ws : List V), rs[k]? = some (.ref j) ∧ loc[j]? = some (.own b' ds) ∧ σ[j]? = some (some (.ref c)) ∧ vs[k]? = some (.ref c) ∧ H c = some (.lst ws) ∧ ¬ L0 c ∧ Reps P (Lv L0 loc σ) H ds ws ∧ b = true := by
  obtain ⟨r, e1, e2⟩ := argsOf_get ha e
  obtain ⟨v, e3, e4⟩ := rr.get e1
  cases r with
  | val d => cases e2
  | new d => cases e2
  | ref j =>
    simp only [argOf] at e2
    split at e2
    · rename_i b' ds' hl
      cases e2
      obtain ⟨c, ws, q1, q2, q3, q4⟩ := R.own _ _ _ hl
      have e4' : σ[j]? = some (some v) := e4
      rw [q1] at e4'; cases e4'
      exact ⟨j, b', c, ws, e1, hl, q1, e3, q2, q3, q4, rfl⟩
    · cases e2
    · cases e2
theorem lc_le (R : Rel P L0 loc σ H) (rr : RepRs P L0 loc σ H rs vs) (ha : argsOf loc rs = some a) : ∀ c, Lv (Lc L0 loc σ a vs) a (vs.map some) c → Lv L0 loc σ c := fun c z => by
  rcases z with z | ⟨k, b, ds, e1, e2⟩
  · exact z.1
  · obtain ⟨j, b', c', ws, q1, q2, q3, q4, _⟩ := arg_own R rr ha e1
    rw [map_some_get e2] at q4; cases q4
    exact .inr ⟨j, b', ds, q2, q3⟩
theorem lc_ge : ∀ c, Lv L0 loc σ c → Lv (Lc L0 loc σ a vs) a (vs.map some) c := fun c z => by
  by_cases h : OwnAt a (vs.map some) c
  · exact .inr h
  · exact .inl ⟨z, h⟩
/-- the callee's arguments -/
theorem args_rel (R : Rel P L0 loc σ H) (rr : RepRs P L0 loc σ H rs vs) (ha : argsOf loc rs = some a) (hn : nodupB (refs rs) = true) : Rel P (Lc L0 loc σ a vs) a (vs.map some) H := by
  have le := lc_le R rr ha
  refine ⟨by rw [← argsOf_len ha, rr.length, List.length_map], fun c z => R.lv z.1, fun k d e => ?_, fun k b ds e => ?_, fun i j b c ds es w e1 e2 e3 e4 => ?_, fun k ns e => ?_⟩
  · obtain ⟨r, e1, e2⟩ := argsOf_get ha e
    obtain ⟨v, e3, e4⟩ := rr.get e1
    refine ⟨v, get_map_some e3, ?_⟩
    cases r with
    | val d' => cases e2; exact Rep.weak le e4
    | new d' => cases e2; exact Rep.weak le e4
    | ref j =>
      simp only [argOf] at e2
      split at e2 <;> cases e2
  · obtain ⟨j, b', c, ws, q1, q2, q3, q4, q5, q6, q7, _⟩ := arg_own R rr ha e
    exact ⟨c, ws, get_map_some q4, q5, fun z => z.2 ⟨k, b, ds, e, get_map_some q4⟩, Reps.weak le q7⟩
  · obtain ⟨j1, b1, c1, w1, q1, q2, q3, q4, _⟩ := arg_own R rr ha e1
    obtain ⟨j2, b2, c2, w2, p1, p2, p3, p4, _⟩ := arg_own R rr ha e2
    rw [map_some_get e3] at q4; cases q4
    rw [map_some_get e4] at p4; cases p4
    have := R.inj _ _ _ _ _ _ _ q2 p2 q3 p3
    subst this
    exact refs_inj hn q1 p1
  · obtain ⟨r, e1, e2⟩ := argsOf_get ha e
    obtain ⟨v, e3, e4⟩ := rr.get e1
    cases r with
    | val d' => cases e2
    | new d' => cases e2
    | ref j =>
      simp only [argOf] at e2
      split at e2
      · cases e2
      · rename_i ns' hl
        cases e2
        obtain ⟨c, q1, q2⟩ := R.scr _ _ hl
        have e4' : σ[j]? = some (some v) := e4
        rw [q1] at e4'; cases e4'
        exact ⟨c, get_map_some e3, q2.keep (fun _ _ z _ => z) fun c z => .inl (le c z)⟩
      · cases e2
/-- behind the call -/
theorem call_post {a' : Loc} {r : R} {v : V} (R : Rel P L0 loc σ H) (rr : RepRs P L0 loc σ H rs vs) (ha : argsOf loc rs = some a) (hn : nodupB (refs rs) = true) (hg : given rs a' loc = some loc') (hr : ∀ i, r ≠ .ref i)
    (p : EvPost P (Lc L0 loc σ a vs) a (vs.map some) H a' r v H') : EvPost P L0 loc σ H loc' r v H' := by
  have le := lc_le R rr ha
  obtain ⟨g1, g2, g3⟩ := given_spec hn hg
  have keep : ∀ c o, H c = some o → ¬ OwnAt loc σ c → H' c = some o := fun c o e n => p.keep c o e fun ⟨k, b, ds, e1, e2⟩ => by
    obtain ⟨j, b', c', ws, q1, q2, q3, q4, _⟩ := arg_own R rr ha e1
    rw [map_some_get e2] at q4; cases q4
    exact n ⟨j, b', ds, q2, q3⟩
  have kp : ∀ c o, H c = some o → ¬ Lv L0 loc σ c → H' c = some o := fun c o e n => keep c o e fun z => n (.inr z)
  have own : ∀ c, OwnAt loc' σ c → OwnAt loc σ c := fun c ⟨j, b, ds, e1, e2⟩ => by
    rcases g2 j _ e1 with ⟨k, b', b2, ds2, ds0, q1, q2, q3, q4⟩ | ⟨q1, q2⟩
    · exact ⟨j, b2, ds0, q3, e2⟩
    · exact ⟨j, b, ds, q1, e2⟩
  -- what is live for the caller behind the call is live for the callee behind it
  have ge : ∀ c, Lv L0 loc' σ c → Lv (Lc L0 loc σ a vs) a' (vs.map some) c := fun c z => by
    have z' : Lv L0 loc σ c := z.imp id (own c)
    by_cases h : OwnAt a (vs.map some) c
    · obtain ⟨k, b, ds, e1, e2⟩ := h
      obtain ⟨j, b', c', ws, q1, q2, q3, q4, _⟩ := arg_own R rr ha e1
      obtain ⟨b3, ds3, q5⟩ := g3 k j b' ds q1 q2
      exact .inr ⟨k, b3, ds3, q5, e2⟩
    · exact .inl ⟨z', h⟩
  -- the caller's relation, with more that is live and new
  have main : ∀ E : Addr → Prop, (∀ c, E c → H c = none ∧ ∃ o, H' c = some o) → Rel P (fun c => Lc L0 loc σ a vs c ∨ E c) a' (vs.map some) H' → Rel P (fun c => L0 c ∨ E c) loc' σ H' := fun E hE R' => by
    have lE : ∀ c, Lv (fun c => L0 c ∨ E c) loc' σ c → Lv L0 loc σ c ∨ H c = none := fun c z => by
      rcases z with (z | z) | z
      · exact .inl (.inl z)
      · exact .inr (hE c z).1
      · exact .inl (.inr (own c z))
    have gE : ∀ c, Lv (fun c => L0 c ∨ E c) loc' σ c → Lv (fun c => Lc L0 loc σ a vs c ∨ E c) a' (vs.map some) c := fun c z => by
      rcases z with (z | z) | z
      · rcases ge c (.inl z) with y | y
        · exact .inl (.inl y)
        · exact .inr y
      · exact .inl (.inr z)
      · rcases ge c (.inr z) with y | y
        · exact .inl (.inl y)
        · exact .inr y
    refine ⟨by rw [g1]; exact R.len, fun c z => ?_, fun j d e => ?_, fun j b ds e => ?_, fun i j b c ds es w e1 e2 e3 e4 => ?_, fun j ns e => ?_⟩
    · rcases z with z | z
      · obtain ⟨o, e⟩ := R.l0 c z
        exact p.there c o e
      · exact (hE c z).2
    · rcases g2 j _ e with ⟨k, b', b2, ds2, ds0, q1, q2, q3, q4⟩ | ⟨q1, q2⟩
      · cases q4
      · obtain ⟨v, e1, rp⟩ := R.dat j d q1
        exact ⟨v, e1, Rep.keep kp lE d v rp⟩
    · rcases g2 j _ e with ⟨k, b', b2, ds2, ds0, q1, q2, q3, q4⟩ | ⟨q1, q2⟩
      · cases q4
        obtain ⟨c, ws, u1, u2, u3, u4⟩ := R'.own _ _ _ q2
        obtain ⟨c', ws', w1, w2, w3, w4⟩ := R.own _ _ _ q3
        obtain ⟨v, e3, e4⟩ := rr.get q1
        have e4' : σ[j]? = some (some v) := e4
        rw [w1] at e4'; cases e4'
        rw [map_some_get u1] at e3; cases e3
        refine ⟨c, ws, w1, u2, fun z => ?_, Reps.weak gE u4⟩
        rcases z with z | z
        · exact w3 z
        · rw [(hE c z).1] at w2; cases w2
      · obtain ⟨c, ws, w1, w2, w3, w4⟩ := R.own _ _ _ q1
        have nc : ¬ OwnAt a (vs.map some) c := fun ⟨k, b3, ds3, y1, y2⟩ => by
          obtain ⟨j', b', c', ws', x1, x2, x3, x4, _⟩ := arg_own R rr ha y1
          rw [map_some_get y2] at x4; cases x4
          have := R.inj _ _ _ _ _ _ _ q1 x2 w1 x3
          subst this
          obtain ⟨ns, hns⟩ := q2 k x1
          cases hns
        refine ⟨c, ws, w1, p.keep c _ w2 nc, fun z => ?_, Reps.keep kp lE ds ws w4⟩
        rcases z with z | z
        · exact w3 z
        · rw [(hE c z).1] at w2; cases w2
    · have o1 : ∃ (b' : Bool) (es' : List D), loc[i]? = some (.own b' es') := by
        rcases g2 i _ e1 with ⟨k, b', b2, ds2, ds0, q1, q2, q3, q4⟩ | ⟨q1, q2⟩
        · exact ⟨_, _, q3⟩
        · exact ⟨_, _, q1⟩
      have o2 : ∃ (b' : Bool) (es' : List D), loc[j]? = some (.own b' es') := by
        rcases g2 j _ e2 with ⟨k, b', b2, ds2, ds0, q1, q2, q3, q4⟩ | ⟨q1, q2⟩
        · exact ⟨_, _, q3⟩
        · exact ⟨_, _, q1⟩
      obtain ⟨b1, x1, o1⟩ := o1
      obtain ⟨b2, x2, o2⟩ := o2
      exact R.inj _ _ _ _ _ _ _ o1 o2 e3 e4
    · rcases g2 j _ e with ⟨k, b', b2, ds2, ds0, q1, q2, q3, q4⟩ | ⟨q1, q2⟩
      · cases q4
      · obtain ⟨c, e1, h1⟩ := R.scr j ns q1
        exact ⟨c, e1, h1.keep kp lE⟩
  have noE : ∀ {L1 : Addr → Prop} {l1 : Loc} {s1 : Sg} {h1 : Hp}, Rel P (fun c => L1 c ∨ False) l1 s1 h1 → Rel P L1 l1 s1 h1 := fun {L1 l1 s1 h1} R1 => by
    have : (fun c => L1 c ∨ False) = L1 := by funext c; simp
    rwa [this] at R1
  have toE : ∀ {L1 : Addr → Prop} {l1 : Loc} {s1 : Sg} {h1 : Hp}, Rel P L1 l1 s1 h1 → Rel P (fun c => L1 c ∨ False) l1 s1 h1 := fun {L1 l1 s1 h1} R1 => by
    have : (fun c => L1 c ∨ False) = L1 := by funext c; simp
    rw [this]; exact R1
  refine ⟨noE (main (fun _ => False) (fun _ z => z.elim) (toE p.rel)), keep, own, ?_, p.there, p.fresh, fun i ds e => ?_, fun i s e n => ?_⟩
  · cases r with
    | val d => exact Rep.weak ge p.rep
    | ref i => exact absurd rfl (hr i)
    | new ds =>
      obtain ⟨c, ws, rfl, q1, q2, q3, q4⟩ := p.rep
      have hf := p.fresh ds c rfl rfl
      refine ⟨c, ws, rfl, q1, fun z => q2 (ge c z), Reps.weak (fun b z => z.imp (ge b) id) q3, main (fun b => b = c) (fun b z => ?_) q4⟩
      subst z; exact ⟨hf, _, q1⟩
  · have hl : i < loc'.length := by rw [g1]; exact lt_of_get e
    have e' := List.getElem?_eq_getElem hl
    rcases g2 i _ e' with ⟨k, b', b2, ds2, ds0, q1, q2, q3, q4⟩ | ⟨q1, q2⟩
    · rw [e] at q3; cases q3
      rw [q4] at e'
      exact ⟨_, e'⟩
    · rw [e] at q1
      exact ⟨ds, by rw [e', ← q1]⟩
  · have hl : i < loc'.length := by rw [g1]; exact lt_of_get e
    have e' := List.getElem?_eq_getElem hl
    rcases g2 i _ e' with ⟨k, b', b2, ds2, ds0, q1, q2, q3, q4⟩ | ⟨q1, q2⟩
    · rw [e] at q3; cases q3; exact absurd rfl (n _ _)
    · rw [e] at q1
      rw [e', ← q1]
end
/-- a call's reading, from its arguments' -/
theorem call_read {C : Loc → Option (R × Loc)} {ar : Nat} {gs : Loc → Option (List R × Loc)} {g : Loc → Option (R × Loc)} {E : XK} (hC : ∀ a r a', C a = some (r, a') → a.length = ar ∧ ∀ i, r ≠ .ref i)
    (hg : ∀ loc r loc', g loc = some (r, loc') → ∃ rs l1 a a', gs loc = some (rs, l1) ∧ nodupB (refs rs) = true ∧ argsOf l1 rs = some a ∧ C a = some (r, a') ∧ given rs a' l1 = some loc')
    {Q : VK} (h : tE P g σ H Q) : tA P gs σ H fun vs H1 => spOf P C ar vs H1 Q E := by
  obtain ⟨L0, loc, r, loc', R, e, k⟩ := h
  obtain ⟨rs, l1, a, a', h1, h2, h3, h4, h5⟩ := hg _ _ _ e
  obtain ⟨hl, hr⟩ := hC _ _ _ h4
  refine ⟨L0, loc, rs, l1, R, h1, fun vs H1 p1 rr => ⟨?_, Lc L0 l1 σ a vs, a, r, a', args_rel p1.rel rr h3 h2, h4, hr, fun v H2 p2 => ?_⟩⟩
  · rw [← rr.length, argsOf_len h3, hl]
  · exact k v H2 (p1.trans (call_post p1.rel rr h3 h2 h5 hr p2))
end MP

namespace MP
open PySem PySem.Spec PyProof.Rows L2
variable {P : RP} {L L' : Addr → Prop} {H H' : Hp} {L0 : Addr → Prop} {loc loc' : Loc} {σ σ' : Sg}

/-- behind a statement -/
structure StPost (P : RP) (L0 : Addr → Prop) (loc : Loc) (σ : Sg) (H : Hp) (loc' : Loc) (σ' : Sg) (H' : Hp) : Prop where
  rel : Rel P L0 loc' σ' H'
  keep : ∀ b o, H b = some o → ¬ OwnAt loc σ b → H' b = some o
  own : ∀ b, OwnAt loc' σ' b → OwnAt loc σ b ∨ H b = none
  there : ∀ b o, H b = some o → ∃ o', H' b = some o'
  pin : ∀ (i : Nat) (ds : List D), loc[i]? = some (.own true ds) → ∃ ds', loc'[i]? = some (.own true ds') ∧ σ'[i]? = σ[i]?
  hid : ∀ (i : Nat), loc[i]? = some .hid → loc'[i]? = some .hid ∧ σ'[i]? = σ[i]?
theorem StPost.refl (R : Rel P L0 loc σ H) : StPost P L0 loc σ H loc σ H := ⟨R, fun _ _ e _ => e, fun _ z => .inl z, fun _ o e => ⟨o, e⟩, fun _ ds e => ⟨ds, e, rfl⟩, fun _ e => ⟨e, rfl⟩⟩
theorem StPost.gone {b : Addr} (p : StPost P L0 loc σ H loc' σ' H') (h : H' b = none) : H b = none := by
  cases e : H b with
  | none => rfl
  | some o => obtain ⟨o', e'⟩ := p.there b o e; rw [h] at e'; cases e'
theorem StPost.trans {loc1 : Loc} {σ1 : Sg} {H1 : Hp} (p : StPost P L0 loc σ H loc1 σ1 H1) (q : StPost P L0 loc1 σ1 H1 loc' σ' H') : StPost P L0 loc σ H loc' σ' H' := by
  refine ⟨q.rel, fun b o e n => q.keep b o (p.keep b o e n) fun z => ?_, fun b z => ?_, fun b o e => ?_, fun i ds e => ?_, fun i e => ⟨(q.hid i (p.hid i e).1).1, (q.hid i (p.hid i e).1).2.trans (p.hid i e).2⟩⟩
  · rcases p.own b z with z | z
    · exact n z
    · rw [e] at z; cases z
  · rcases q.own b z with z | z
    · exact p.own b z
    · exact .inr (p.gone z)
  · obtain ⟨o', e'⟩ := p.there b o e
    exact q.there b o' e'
  · obtain ⟨ds1, e1, s1⟩ := p.pin i ds e
    obtain ⟨ds2, e2, s2⟩ := q.pin i ds1 e1
    exact ⟨ds2, e2, s2.trans s1⟩
theorem EvPost.st {r : R} {v : V} (p : EvPost P L0 loc σ H loc' r v H') : StPost P L0 loc σ H loc' σ H' :=
  ⟨p.rel, p.keep, fun b z => .inl (p.own b z), p.there, fun i ds e => by obtain ⟨ds', e'⟩ := p.pin i ds e; exact ⟨ds', e', rfl⟩, fun i e => ⟨p.fix i _ e (fun _ _ z => nomatch z), rfl⟩⟩
theorem StPost.lv (p : StPost P L0 loc σ H loc' σ' H') : ∀ b, Lv L0 loc' σ' b → Lv L0 loc σ b ∨ H b = none := fun b z => by
  rcases z with z | z
  · exact .inl (.inl z)
  · rcases p.own b z with z | z
    · exact .inl (.inr z)
    · exact .inr z
theorem StPost.kp (p : StPost P L0 loc σ H loc' σ' H') : ∀ b o, H b = some o → ¬ Lv L0 loc σ b → H' b = some o := fun b o e n => p.keep b o e fun z => n (.inr z)
/-- the heap grew -/
theorem StPost.grew (R : Rel P L0 loc σ H) (s : Same H H') : StPost P L0 loc σ H loc σ H' :=
  ⟨R.grow s (fun b z => .inl z) fun b z => by obtain ⟨o, e⟩ := R.l0 b z; exact ⟨o, s _ _ e⟩, fun b o e _ => s b o e, fun b z => .inl z, fun b o e => ⟨o, s b o e⟩, fun i ds e => ⟨ds, e, rfl⟩, fun i e => ⟨e, rfl⟩⟩

theorem getsetS {σ : Sg} {i j : Nat} {s t : Option V} (h : (σ.set i s)[j]? = some t) : (i = j ∧ t = s) ∨ (i ≠ j ∧ σ[j]? = some t) := by
  by_cases e : i = j
  · subst e
    by_cases hl : i < σ.length
    · rw [List.getElem?_set_self hl] at h; cases h; exact .inl ⟨rfl, rfl⟩
    · rw [List.getElem?_eq_none (by simpa using hl)] at h; cases h
  · rw [List.getElem?_set_ne e] at h; exact .inr ⟨e, h⟩
theorem free_spec {i : Nat} (h : free loc i = true) : i < loc.length ∧ (∀ ds, loc[i]? ≠ some (.own true ds)) ∧ (∀ ns, loc[i]? ≠ some (.scr ns)) := by
  unfold free at h
  split at h
  · rename_i e; exact ⟨lt_of_get e, fun ds z => (by rw [e] at z; cases z), fun ns z => (by rw [e] at z; cases z)⟩
  · rename_i e; exact ⟨lt_of_get e, fun ds z => (by rw [e] at z; cases z), fun ns z => (by rw [e] at z; cases z)⟩
  · rename_i b ds e
    refine ⟨lt_of_get e, fun ds z => ?_, fun ns z => (by rw [e] at z; cases z)⟩
    rw [e] at z; cases z; cases h
  · cases h
  · cases h
  · cases h
theorem free_hid {i : Nat} (h : free loc i = true) : loc[i]? ≠ some .hid := fun z => by
  unfold free at h
  rw [z] at h
  cases h
/-- a slot is stored to -/
theorem put_dat {i : Nat} {d : D} {v : V} (R : Rel P L0 loc σ H) (h : put loc i (.dat d) = some loc') (hr : Rep P (Lv L0 loc σ) H d v) : StPost P L0 loc σ H loc' (σ.set i (some v)) H := by
  unfold put at h
  split at h
  · rename_i hf
    cases h
    obtain ⟨hl, nb, ns⟩ := free_spec hf
    have hσ : i < σ.length := R.len ▸ hl
    have own : ∀ b, OwnAt (loc.set i (.dat d)) (σ.set i (some v)) b → OwnAt loc σ b := fun b ⟨j, b', es, e1, e2⟩ => by
      rcases getset e1 with ⟨_, e3, _⟩ | ⟨ne, e1⟩
      · cases e3
      · rw [List.getElem?_set_ne ne] at e2
        exact ⟨j, b', es, e1, e2⟩
    have lv : ∀ b, Lv L0 (loc.set i (.dat d)) (σ.set i (some v)) b → Lv L0 loc σ b := fun b z => z.imp id (own b)
    refine ⟨⟨by simp [R.len], R.l0, fun j d' e => ?_, fun j b ds e => ?_, fun j k b c ds es w e1 e2 e3 e4 => ?_, fun j ns e => ?_⟩, fun _ _ e _ => e, fun b z => .inl (own b z), fun _ o e => ⟨o, e⟩, fun j ds e => ?_, fun j e => ?_⟩
    · rcases getset e with ⟨rfl, e3, _⟩ | ⟨ne, e⟩
      · cases e3
        exact ⟨v, List.getElem?_set_self hσ, Rep.weak lv hr⟩
      · obtain ⟨w, e1, r⟩ := R.dat j d' e
        exact ⟨w, by rw [List.getElem?_set_ne ne]; exact e1, Rep.weak lv r⟩
    · rcases getset e with ⟨rfl, e3, _⟩ | ⟨ne, e⟩
      · cases e3
      · obtain ⟨a, vs, e1, h1, n1, r⟩ := R.own j b ds e
        exact ⟨a, vs, by rw [List.getElem?_set_ne ne]; exact e1, h1, n1, Reps.weak lv r⟩
    · rcases getset e1 with ⟨_, z, _⟩ | ⟨n1, e1⟩
      · cases z
      rcases getset e2 with ⟨_, z, _⟩ | ⟨n2, e2⟩
      · cases z
      rw [List.getElem?_set_ne n1] at e3
      rw [List.getElem?_set_ne n2] at e4
      exact R.inj _ _ _ _ _ _ _ e1 e2 e3 e4
    · rcases getset e with ⟨rfl, e3, _⟩ | ⟨ne, e⟩
      · cases e3
      · obtain ⟨a, e1, h1⟩ := R.scr j ns e
        exact ⟨a, by rw [List.getElem?_set_ne ne]; exact e1, h1.keep (fun _ _ z _ => z) fun b z => .inl (lv b z)⟩
    · have ne : i ≠ j := fun z => by subst z; exact nb ds e
      exact ⟨ds, by rw [List.getElem?_set_ne ne]; exact e, by rw [List.getElem?_set_ne ne]⟩
    · have ne : i ≠ j := fun z => by subst z; exact free_hid hf e
      exact ⟨by rw [List.getElem?_set_ne ne]; exact e, by rw [List.getElem?_set_ne ne]⟩
  · cases h
theorem put_own {loc1 : Loc} {H1 : Hp} {i : Nat} {ds : List D} {v : V} (p : EvPost P L0 loc σ H loc1 (.new ds) v H1) (h : put loc1 i (.own false ds) = some loc') : StPost P L0 loc σ H loc' (σ.set i (some v)) H1 := by
  unfold put at h
  split at h
  · rename_i hf
    cases h
    obtain ⟨hl, nb, ns⟩ := free_spec hf
    obtain ⟨a, vs, rfl, h1, h2, h3, R⟩ := p.rep
    have hσ : i < σ.length := R.len ▸ hl
    have na : ¬ OwnAt loc1 σ a := fun z => h2 (.inr z)
    have own : ∀ b, OwnAt (loc1.set i (.own false ds)) (σ.set i (some (.ref a))) b → OwnAt loc1 σ b ∨ b = a := fun b ⟨j, b', es, e1, e2⟩ => by
      rcases getset e1 with ⟨rfl, e3, _⟩ | ⟨ne, e1⟩
      · rw [List.getElem?_set_self hσ] at e2
        cases e2; exact .inr rfl
      · rw [List.getElem?_set_ne ne] at e2
        exact .inl ⟨j, b', es, e1, e2⟩
    have lv : ∀ b, Lv L0 (loc1.set i (.own false ds)) (σ.set i (some (.ref a))) b → Lv (fun b => L0 b ∨ b = a) loc1 σ b := fun b z => by
      rcases z with z | z
      · exact .inl (.inl z)
      · rcases own b z with z | z
        · exact .inr z
        · exact .inl (.inr z)
    have lv2 : ∀ b, Lv L0 (loc1.set i (.own false ds)) (σ.set i (some (.ref a))) b → Lv L0 loc1 σ b ∨ b = a := fun b z => by
      rcases z with z | z
      · exact .inl (.inl z)
      · rcases own b z with z | z
        · exact .inl (.inr z)
        · exact .inr z
    refine ⟨⟨by simp [R.len], p.rel.l0, fun j d' e => ?_, fun j b es e => ?_, fun j k b c es fs w e1 e2 e3 e4 => ?_, fun j ns e => ?_⟩, p.keep, fun b z => ?_, p.there, fun j es e => ?_, fun j e => ?_⟩
    · rcases getset e with ⟨rfl, e3, _⟩ | ⟨ne, e⟩
      · cases e3
      · obtain ⟨w, e1, r⟩ := R.dat j d' e
        exact ⟨w, by rw [List.getElem?_set_ne ne]; exact e1, Rep.weak lv r⟩
    · rcases getset e with ⟨rfl, e3, _⟩ | ⟨ne, e⟩
      · cases e3
        exact ⟨a, vs, List.getElem?_set_self hσ, h1, fun z => h2 (.inl z), Reps.weak lv2 h3⟩
      · obtain ⟨a', vs', e1, h1', n1, r⟩ := R.own j b es e
        exact ⟨a', vs', by rw [List.getElem?_set_ne ne]; exact e1, h1', fun z => n1 (.inl z), Reps.weak lv r⟩
    · rcases getset e1 with ⟨rfl, z, _⟩ | ⟨n1, e1⟩
      · rw [List.getElem?_set_self hσ] at e3; cases e3
        rcases getset e2 with ⟨rfl, z2, _⟩ | ⟨n2, e2⟩
        · rfl
        · rw [List.getElem?_set_ne n2] at e4
          exact absurd ⟨_, _, _, e2, e4⟩ na
      · rw [List.getElem?_set_ne n1] at e3
        rcases getset e2 with ⟨rfl, z2, _⟩ | ⟨n2, e2⟩
        · rw [List.getElem?_set_self hσ] at e4; cases e4
          exact absurd ⟨_, _, _, e1, e3⟩ na
        · rw [List.getElem?_set_ne n2] at e4
          exact R.inj _ _ _ _ _ _ _ e1 e2 e3 e4
    · rcases getset e with ⟨rfl, e3, _⟩ | ⟨ne, e⟩
      · cases e3
      · obtain ⟨a', e1, h1'⟩ := R.scr j ns e
        exact ⟨a', by rw [List.getElem?_set_ne ne]; exact e1, h1'.keep (fun _ _ z _ => z) fun b z => .inl (lv b z)⟩
    · rcases own b z with z | rfl
      · exact .inl (p.own b z)
      · exact .inr (p.fresh ds b rfl rfl)
    · obtain ⟨es', e'⟩ := p.pin j es e
      have ne : i ≠ j := fun z => by subst z; exact nb es' e'
      exact ⟨es', by rw [List.getElem?_set_ne ne]; exact e', by rw [List.getElem?_set_ne ne]⟩
    · have e' := p.fix j _ e (fun _ _ z => nomatch z)
      have ne : i ≠ j := fun z => by subst z; exact free_hid hf e'
      exact ⟨by rw [List.getElem?_set_ne ne]; exact e', by rw [List.getElem?_set_ne ne]⟩
  · cases h

theorem own_before {i : Nat} {b : Bool} {ds : List D} {r : R} {v : V} {R0 : Rel P L0 loc σ H} (p : EvPost P L0 loc σ H loc' r v H') (h : loc'[i]? = some (.own b ds)) : ∃ b' ds', loc[i]? = some (.own b' ds') := by
  have hl : i < loc.length := by
    have h1 := lt_of_get h
    rw [p.rel.len, ← R0.len] at h1
    exact h1
  have e := List.getElem?_eq_getElem hl
  cases hs : loc[i] with
  | own b' ds' => rw [hs] at e; exact ⟨b', ds', e⟩
  | none =>
    rw [hs] at e
    have := p.fix i _ e (fun _ _ z => nomatch z)
    rw [h] at this; cases this
  | dat d =>
    rw [hs] at e
    have := p.fix i _ e (fun _ _ z => nomatch z)
    rw [h] at this; cases this
  | scr ns =>
    rw [hs] at e
    have := p.fix i _ e (fun _ _ z => nomatch z)
    rw [h] at this; cases this
  | hid =>
    rw [hs] at e
    have := p.fix i _ e (fun _ _ z => nomatch z)
    rw [h] at this; cases this

/-! ### what follows a statement -/
/-- an address that an own slot of the body's holds -/
def OwnF (loc : Loc) (σ : Sg) (p : Addr) : Prop := ∃ (i : Nat) (ds : List D), loc[i]? = some (.own false ds) ∧ σ[i]? = some (some (.ref p))
theorem StPost.ownF {p : Addr} (q : StPost P L0 loc σ H loc' σ' H') (h : OwnF loc' σ' p) : H p = none ∨ OwnF loc σ p := by
  obtain ⟨i, ds, e1, e2⟩ := h
  rcases q.own p ⟨i, false, ds, e1, e2⟩ with ⟨j, b, es, e3, e4⟩ | z
  · cases b with
    | false => exact .inr ⟨j, es, e3, e4⟩
    | true =>
      obtain ⟨fs, e5, e6⟩ := q.pin j es e3
      have := q.rel.inj _ _ _ _ _ _ _ e1 e5 e2 (e6.trans e4)
      subst this
      rw [e1] at e5; cases e5
  · exact .inl z
def Good (P : RP) (L0 : Addr → Prop) (loc : Loc) (σ : Sg) (H : Hp) (D : Ends) : Out → Prop
  | .nx l => ∀ σ' H', StPost P L0 loc σ H l σ' H' → D.nx σ' H'
  | .bk l => ∀ σ' H', StPost P L0 loc σ H l σ' H' → D.bk σ' H'
  | .ct l => ∀ σ' H', StPost P L0 loc σ H l σ' H' → D.ct σ' H'
  | .rt r l => (∀ i, r ≠ .ref i) ∧ ∀ v σ' H', StPost P L0 loc σ H l σ' H' → RepR P L0 l σ' H' r v → (∀ ds p, r = .new ds → v = .ref p → H p = none ∨ OwnF loc σ p) → D.rt v H'
theorem Good.step {D : Ends} {o : Out} {loc1 : Loc} {σ1 : Sg} {H1 : Hp} (g : Good P L0 loc σ H D o) (p : StPost P L0 loc σ H loc1 σ1 H1) : Good P L0 loc1 σ1 H1 D o := by
  cases o with
  | nx l => exact fun σ' H' q => g σ' H' (p.trans q)
  | bk l => exact fun σ' H' q => g σ' H' (p.trans q)
  | ct l => exact fun σ' H' q => g σ' H' (p.trans q)
  | rt r l => exact ⟨g.1, fun v σ' H' q rr fr => g.2 v σ' H' (p.trans q) rr fun ds c e1 e2 => (fr ds c e1 e2).elim (fun z => .inl (p.gone z)) p.ownF⟩
def tS (P : RP) (g : Loc → Option Out) : TS := fun D σ H => ∃ L0 loc out, Rel P L0 loc σ H ∧ g loc = some out ∧ Good P L0 loc σ H D out

theorem s_nil {D : Ends} {g : Loc → Option Out} (hg : ∀ loc, g loc = some (.nx loc)) (h : tS P g D σ H) : tNext D σ H := by
  obtain ⟨L0, loc, out, R, e, k⟩ := h
  rw [hg] at e; cases e
  exact k σ H (.refl R)
theorem s_seq {D : Ends} {g g1 g2 : Loc → Option Out} (hg : ∀ loc o, g loc = some o → (∃ l1, g1 loc = some (.nx l1) ∧ g2 l1 = some o) ∨ (g1 loc = some o ∧ ∀ l, o ≠ .nx l)) (h : tS P g D σ H) : tSeq (tS P g1) (tS P g2) D σ H := by
  obtain ⟨L0, loc, out, R, e, k⟩ := h
  rcases hg _ _ e with ⟨l1, h1, h2⟩ | ⟨h1, h2⟩
  · exact ⟨L0, loc, _, R, h1, fun σ1 H1 p => ⟨L0, l1, out, p.rel, h2, k.step p⟩⟩
  · refine ⟨L0, loc, out, R, h1, ?_⟩
    cases out with
    | nx l => exact absurd rfl (h2 l)
    | bk l => exact k
    | ct l => exact k
    | rt r l => exact k

/-! ### targets -/
def pslots : Pat → List Nat
  | .v i => [i]
  | .tup is => is
def tG (P : RP) (p : Pat) : TG := fun v σ H Q => ∃ L0 loc d loc', Rel P L0 loc σ H ∧ Rep P (Lv L0 loc σ) H d v ∧ bindP p d loc = some loc' ∧ ∀ σ', StPost P L0 loc σ H loc' σ' H → σ'.length = σ.length → (∀ i, i ∉ pslots p → σ'[i]? = σ[i]?) → Q σ' H
def gsOf : List Nat → TGs
  | [] => gNil
  | i :: is => gCons (gName i) (gsOf is)
theorem g_name {i : Nat} {v : V} {Q : Sg → Hp → Prop} (h : tG P (.v i) v σ H Q) : gName i v σ H Q := by
  obtain ⟨L0, loc, d, loc', R, rp, e, k⟩ := h
  exact k _ (put_dat R e rp) (by simp) fun j hj => by
    have : i ≠ j := fun z => hj (by simp [pslots, z])
    rw [List.getElem?_set_ne this]
theorem g_names : ∀ {is : List Nat} {ds : List D} {vs : List V} {loc loc' : Loc} {σ : Sg} {Q : Sg → Hp → Prop}, Rel P L0 loc σ H → Reps P (Lv L0 loc σ) H ds vs → puts is ds loc = some loc' → (∀ σ', StPost P L0 loc σ H loc' σ' H → σ'.length = σ.length → (∀ i, i ∉ is → σ'[i]? = σ[i]?) → Q σ' H) → gsOf is vs σ H Q
  | [], ds, vs, loc, loc', σ, Q, R, r, e, k => by
    cases ds with
    | nil =>
      unfold Reps at r
      simp only [puts] at e
      cases e
      exact ⟨r, k σ (.refl R) rfl fun _ _ => rfl⟩
    | cons _ _ => simp only [puts] at e; cases e
  | i :: is, ds, vs, loc, loc', σ, Q, R, r, e, k => by
    cases ds with
    | nil => simp only [puts] at e; cases e
    | cons d ds =>
      unfold Reps at r
      obtain ⟨v, w, rfl, r1, r2⟩ := r
      simp only [puts] at e
      split at e
      · rename_i l1 e1
        have p := put_dat R e1 r1
        refine ⟨v, w, rfl, ?_⟩
        exact g_names p.rel (Reps.keep p.kp p.lv _ _ r2) e fun σ' q hl hi => k σ' (p.trans q) (by rw [hl]; simp) fun j hj => by
          simp only [List.mem_cons, not_or] at hj
          rw [hi j hj.2, List.getElem?_set_ne (Ne.symm hj.1)]
      · cases e
theorem puts_len : ∀ {is : List Nat} {ds : List D} {loc loc' : Loc}, puts is ds loc = some loc' → ds.length = is.length
  | [], ds, loc, loc', e => by
    cases ds with
    | nil => rfl
    | cons _ _ => simp only [puts] at e; cases e
  | i :: is, ds, loc, loc', e => by
    cases ds with
    | nil => simp only [puts] at e; cases e
    | cons d ds =>
      simp only [puts] at e
      split at e
      · simp [puts_len e]
      · cases e
theorem g_tup {K : PySem.W.Frag} (hK : P.K = K) {is : List Nat} {v : V} {Q : Sg → Hp → Prop} (h : tG P (.tup is) v σ H Q) : gTup K is.length (gsOf is) v σ H Q := by
  obtain ⟨L0, loc, d, loc', R, rp, e, k⟩ := h
  cases d with
  | tup ds =>
    unfold Rep at rp
    obtain ⟨a, vs, rfl, t, r⟩ := rp
    simp only [bindP] at e
    exact ⟨a, vs, rfl, hK ▸ t.sq, by rw [← r.length, puts_len e], g_names R r e k⟩
  | _ => simp only [bindP] at e; cases e

/-! ### what is walked -/
def ItOk (P : RP) (L1 : Addr → Prop) (H1 : Hp) (J : It) (items : List D) : Prop := ∀ H2, (∀ c o, H1 c = some o → ¬ L1 c → H2 c = some o) → ∀ i,
  (i < items.length → J.go i H2 ∧ ∀ x H3, J.yld i H2 x H3 → Same H2 H3 ∧ ∃ d, items[i]? = some d ∧ ∀ L2 : Addr → Prop, (∀ b, L2 b → L1 b ∨ H1 b = none) → (∀ b, L2 b → ∃ o, H2 b = some o) → Rep P L2 H3 d x) ∧ (items.length ≤ i → J.stop i H2)
def tI (P : RP) (gi : Loc → Option (List D × Loc)) : TI := fun σ H R => ∃ L0 loc items loc', Rel P L0 loc σ H ∧ gi loc = some (items, loc') ∧ ∀ J H', EvPost P L0 loc σ H loc' (.val .non) .non H' → ItOk P (Lv L0 loc' σ) H' J items → R J H'
theorem _root_.L2.PI.imp {X : Cx} {tg e : Expr} {t t' : TI} (h : PI X tg e t) (w : ∀ σ H Q, t' σ H Q → t σ H Q) : PI X tg e t' := ⟨fun pins s σ H Q I q => h.run pins s σ H Q I (w σ H Q q)⟩

/-- for -/
theorem s_loop {D : Ends} {gi : Loc → Option (List MP.D × Loc)} {body : Loc → Option Out} {p : Pat} {g : Loc → Option Out} (hg : ∀ loc o, g loc = some o → ∃ items l1, gi loc = some (items, l1) ∧ forRun p body items l1 = some o)
    (h : tS P g D σ H) : tFor (tI P gi) (tG P p) (tS P body) D σ H := by
  obtain ⟨L0, loc, out, R, e, k⟩ := h
  obtain ⟨items, l1, e1, e2⟩ := hg _ _ e
  refine ⟨L0, loc, items, l1, R, e1, fun J H1 p1 ok => ?_⟩
  refine ⟨fun i m σ2 H2 => m = items.length - i ∧ i ≤ items.length ∧ ∃ l2 o, StPost P L0 l1 σ H1 l2 σ2 H2 ∧ forRun p body (items.drop i) l2 = some o ∧ Good P L0 l2 σ2 H2 D o,
    ⟨_, rfl, Nat.zero_le _, l1, out, .refl p1.rel, by rw [List.drop_zero]; exact e2, k.step p1.st⟩, ?_⟩
  rintro i m σ2 H2 ⟨rfl, hi, l2, o, sp, e3, gd⟩
  have ok2 := ok H2 sp.kp i
  by_cases hlt : i < items.length
  · obtain ⟨go, yld⟩ := ok2.1 hlt
    refine .inr ⟨go, fun σ' H' => ∃ l' o', StPost P L0 l1 σ H1 l' σ' H' ∧ forRun p body (items.drop (i + 1)) l' = some o' ∧ Good P L0 l' σ' H' D o', fun σ' H' ⟨l', o', q1, q2, q3⟩ => ⟨_, by omega, rfl, hlt, l', o', q1, q2, q3⟩, fun x H3 y => ?_⟩
    obtain ⟨sm, d, ed, rp⟩ := yld x H3 y
    have hd : items.drop i = d :: items.drop (i + 1) := by
      have := List.drop_eq_getElem_cons hlt
      rw [List.getElem?_eq_getElem hlt] at ed
      cases ed
      exact this
    rw [hd] at e3
    simp only [forRun] at e3
    split at e3
    · cases e3
    · rename_i l3 e4
      have g3 := StPost.grew sp.rel sm
      refine ⟨L0, l2, d, l3, g3.rel, rp _ sp.lv (fun b z => sp.rel.lv z), e4, fun σ4 p4 _ _ => ?_⟩
      have p5 := g3.trans p4
      have gd5 := gd.step p5
      have sp5 := sp.trans p5
      split at e3
      · rename_i l6 e5
        exact ⟨L0, l3, _, p5.rel, e5, fun σ7 H7 p7 => ⟨l6, o, sp5.trans p7, e3, gd5.step p7⟩⟩
      · rename_i l6 e5
        exact ⟨L0, l3, _, p5.rel, e5, fun σ7 H7 p7 => ⟨l6, o, sp5.trans p7, e3, gd5.step p7⟩⟩
      · rename_i l6 e5
        cases e3
        exact ⟨L0, l3, _, p5.rel, e5, gd5⟩
      · rename_i r l6 e5
        cases e3
        exact ⟨L0, l3, _, p5.rel, e5, gd5⟩
      · cases e3
  · have hx : i = items.length := by omega
    subst hx
    rw [List.drop_length] at e3
    cases e3
    exact .inl ⟨ok2.2 (Nat.le_refl _), gd σ2 H2 (.refl sp.rel)⟩
/-- a test's reading -/
def tT (P : RP) (g : Loc → Option (Bool × Loc)) : TT := fun σ H Q => ∃ L0 loc k loc', Rel P L0 loc σ H ∧ g loc = some (k, loc') ∧ ∀ H', EvPost P L0 loc σ H loc' (.val .non) .non H' → Q k H'
theorem s_while {D : Ends} {c : Loc → Option (Bool × Loc)} {body : Loc → Option Out} {n : Nat} {g : Loc → Option Out} (hg : ∀ loc o, g loc = some o → whRun c body n loc = some o)
    (h : tS P g D σ H) : tWhile (tT P c) (tS P body) D σ H := by
  obtain ⟨L0, loc, out, R, e, k⟩ := h
  have e2 := hg _ _ e
  refine ⟨fun m σ2 H2 => ∃ l2 o, Rel P L0 l2 σ2 H2 ∧ whRun c body m l2 = some o ∧ Good P L0 l2 σ2 H2 D o, ⟨n, loc, out, R, e2, k⟩, ?_⟩
  rintro m σ2 H2 ⟨l2, o, R2, e3, gd⟩
  cases m with
  | zero => simp only [whRun] at e3; cases e3
  | succ m =>
    simp only [whRun] at e3
    split at e3
    · rename_i l3 e4
      refine ⟨L0, l2, true, l3, R2, e4, fun H3 p3 => ?_⟩
      refine iteT ?_
      have gd3 := gd.step p3.st
      refine ⟨fun σ' H' => ∃ l' o', Rel P L0 l' σ' H' ∧ whRun c body m l' = some o' ∧ Good P L0 l' σ' H' D o', fun σ' H' q => ⟨m, Nat.lt_succ_self _, q⟩, ?_⟩
      split at e3
      · rename_i l6 e5
        exact ⟨L0, l3, _, p3.rel, e5, fun σ7 H7 p7 => ⟨l6, o, p7.rel, e3, gd3.step p7⟩⟩
      · rename_i l6 e5
        exact ⟨L0, l3, _, p3.rel, e5, fun σ7 H7 p7 => ⟨l6, o, p7.rel, e3, gd3.step p7⟩⟩
      · rename_i l6 e5
        cases e3
        exact ⟨L0, l3, _, p3.rel, e5, gd3⟩
      · rename_i r l6 e5
        cases e3
        exact ⟨L0, l3, _, p3.rel, e5, gd3⟩
      · cases e3
    · rename_i l3 e4
      cases e3
      refine ⟨L0, l2, false, l3, R2, e4, fun H3 p3 => ?_⟩
      exact iteF (gd σ2 H3 p3.st)
    · cases e3
/-- assignments -/
theorem s_set {D : Ends} {p : Pat} {ge : Loc → Option (R × Loc)} {g : Loc → Option Out} (hg : ∀ loc o, g loc = some o → ∃ r l1 d l2, ge loc = some (r, l1) ∧ toVal r = some d ∧ bindP p d l1 = some l2 ∧ o = .nx l2)
    (h : tS P g D σ H) : tAsg (tE P ge) (tG P p) D σ H := by
  obtain ⟨L0, loc, out, R, e, k⟩ := h
  obtain ⟨r, l1, d, l2, h1, h2, h3, rfl⟩ := hg _ _ e
  refine ⟨L0, loc, r, l1, R, h1, fun v H1 p1 => ⟨L0, l1, d, l2, p1.rel, toVal_rep p1.rep h2, h3, fun σ2 p2 _ _ => ?_⟩⟩
  exact k σ2 H1 (p1.st.trans p2)
theorem s_own {D : Ends} {i : Nat} {ge : Loc → Option (R × Loc)} {g : Loc → Option Out} (hg : ∀ loc o, g loc = some o → ∃ ds l1 l2, ge loc = some (.new ds, l1) ∧ put l1 i (.own false ds) = some l2 ∧ o = .nx l2)
    (h : tS P g D σ H) : tAsg (tE P ge) (gName i) D σ H := by
  obtain ⟨L0, loc, out, R, e, k⟩ := h
  obtain ⟨ds, l1, l2, h1, h2, rfl⟩ := hg _ _ e
  exact ⟨L0, loc, .new ds, l1, R, h1, fun v H1 p1 => k _ H1 (put_own p1 h2)⟩
theorem s_ex {D : Ends} {ge : Loc → Option (R × Loc)} {g : Loc → Option Out} (hg : ∀ loc o, g loc = some o → ∃ r l1, ge loc = some (r, l1) ∧ o = .nx l1) (h : tS P g D σ H) : tDrop (tE P ge) D σ H := by
  obtain ⟨L0, loc, out, R, e, k⟩ := h
  obtain ⟨r, l1, h1, rfl⟩ := hg _ _ e
  exact ⟨L0, loc, r, l1, R, h1, fun v H1 p1 => k σ H1 p1.st⟩
theorem s_ret {D : Ends} {ge : Loc → Option (R × Loc)} {g : Loc → Option Out} (hg : ∀ loc o, g loc = some o → ∃ r l1, ge loc = some (r, l1) ∧ o = .rt r l1) (h : tS P g D σ H) : tRet (tE P ge) D σ H := by
  obtain ⟨L0, loc, out, R, e, k⟩ := h
  obtain ⟨r, l1, h1, rfl⟩ := hg _ _ e
  exact ⟨L0, loc, r, l1, R, h1, fun v H1 p1 => k.2 v σ H1 p1.st p1.rep fun ds p e1 e2 => .inl (p1.fresh ds p e1 e2)⟩
/-- an own list leaves its slot -/
theorem drop_rel {i : Nat} {ds : List D} {a : Addr} (R : Rel P L0 loc σ H) (hi : loc[i]? = some (.own false ds)) (ha : σ[i]? = some (some (.ref a))) (E : Addr → Prop) (hE : ∀ b, E b → b = a) : Rel P (fun b => L0 b ∨ E b) (loc.set i .none) σ H := by
  obtain ⟨a', vs, ea, h0, n0, r0⟩ := R.own _ _ _ hi
  rw [ha] at ea; cases ea
  have own : ∀ b, OwnAt (loc.set i .none) σ b → OwnAt loc σ b := own_set hi
  have lv : ∀ b, Lv (fun b => L0 b ∨ E b) (loc.set i .none) σ b → Lv L0 loc σ b := fun b z => by
    rcases z with (z | z) | z
    · exact .inl z
    · exact .inr (hE b z ▸ ⟨i, false, ds, hi, ha⟩)
    · exact .inr (own b z)
  refine ⟨by rw [List.length_set]; exact R.len, fun b z => ?_, fun j d e => ?_, fun j b es e => ?_, fun j k b c es fs w e1 e2 e3 e4 => ?_, fun j ns e => ?_⟩
  · rcases z with z | z
    · exact R.l0 b z
    · rw [hE b z]; exact ⟨_, h0⟩
  · rcases getset e with ⟨_, z, _⟩ | ⟨_, e⟩
    · cases z
    · obtain ⟨v, e1, r⟩ := R.dat j d e
      exact ⟨v, e1, Rep.weak lv r⟩
  · rcases getset e with ⟨_, z, _⟩ | ⟨ne, e⟩
    · cases z
    · obtain ⟨c, ws, e1, h1, n1, r⟩ := R.own j b es e
      refine ⟨c, ws, e1, h1, fun z => ?_, Reps.weak lv r⟩
      rcases z with z | z
      · exact n1 z
      · have z := hE c z
        subst z
        exact ne (R.inj _ _ _ _ _ _ _ hi e ha e1)
  · rcases getset e1 with ⟨_, z, _⟩ | ⟨_, e1⟩
    · cases z
    rcases getset e2 with ⟨_, z, _⟩ | ⟨_, e2⟩
    · cases z
    exact R.inj _ _ _ _ _ _ _ e1 e2 e3 e4
  · rcases getset e with ⟨_, z, _⟩ | ⟨_, e⟩
    · cases z
    · obtain ⟨c, e1, h1⟩ := R.scr j ns e
      exact ⟨c, e1, h1.keep (fun _ _ z _ => z) fun b z => .inl (lv b z)⟩
theorem s_retO {D' : Ends} {i : Nat} {g : Loc → Option Out} (hg : ∀ loc o, g loc = some o → (∃ ds, loc[i]? = some (.own false ds) ∧ o = .rt (.new ds) (loc.set i .none)) ∨ ∃ d, loc[i]? = some (.dat d) ∧ o = .rt (.val d) loc) (h : tS P g D' σ H) : tRet (tVar i) D' σ H := by
  obtain ⟨L0, loc, out, R, e, k⟩ := h
  rcases hg _ _ e with ⟨ds, h1, rfl⟩ | ⟨d, h1, rfl⟩
  · obtain ⟨a, vs, ea, h0, n0, r0⟩ := R.own _ _ _ h1
    have fE : (fun c => L0 c ∨ False) = L0 := by funext c; simp
    have R0 : Rel P L0 (loc.set i .none) σ H := by
      have := drop_rel R h1 ea (fun _ => False) (fun _ z => z.elim)
      rw [fE] at this; exact this
    have na : ¬ Lv L0 (loc.set i .none) σ a := fun z => by
      rcases z with z | ⟨j, b, es, e1, e2⟩
      · exact n0 z
      · rcases getset e1 with ⟨_, z, _⟩ | ⟨ne, e1⟩
        · cases z
        · exact ne (R.inj _ _ _ _ _ _ _ h1 e1 ea e2)
    have own : ∀ b, OwnAt (loc.set i .none) σ b → OwnAt loc σ b := own_set h1
    refine ⟨_, ea, k.2 _ σ H ⟨R0, fun _ _ e _ => e, fun b z => .inl (own b z), fun _ o e => ⟨o, e⟩, fun j es e => ?_, fun j e => ?_⟩ ⟨a, vs, rfl, h0, na, Reps.weak (fun b z => ?_) r0, drop_rel R h1 ea (fun b => b = a) (fun _ z => z)⟩ fun es p e1 e2 => ?_⟩
    · have ne : i ≠ j := fun z => by subst z; rw [h1] at e; cases e
      exact ⟨es, by rw [List.getElem?_set_ne ne]; exact e, rfl⟩
    · have ne : i ≠ j := fun z => by subst z; rw [h1] at e; cases e
      exact ⟨by rw [List.getElem?_set_ne ne]; exact e, rfl⟩
    · rcases z with z | z
      · exact z.imp id (own b)
      · subst z; exact .inr ⟨i, false, ds, h1, ea⟩
    · cases e2
      exact .inr ⟨i, ds, h1, ea⟩
  · obtain ⟨v, e1, r⟩ := R.dat i d h1
    exact ⟨v, e1, k.2 v σ H (.refl R) r (fun _ _ z => nomatch z)⟩
theorem s_retN {D : Ends} {g : Loc → Option Out} (hg : ∀ loc o, g loc = some o → o = .rt (.val .non) loc) (h : tS P g D σ H) : tRetN D σ H := by
  obtain ⟨L0, loc, out, R, e, k⟩ := h
  obtain rfl := hg _ _ e
  exact k.2 .non σ H (.refl R) repR_non (fun _ _ z => nomatch z)
theorem s_if {D : Ends} {c : Loc → Option (Bool × Loc)} {gt gf g : Loc → Option Out} (hg : ∀ loc o, g loc = some o → ∃ k l1, c loc = some (k, l1) ∧ (if k = true then gt l1 else gf l1) = some o) (h : tS P g D σ H) : tIfS (tT P c) (tS P gt) (tS P gf) D σ H := by
  obtain ⟨L0, loc, out, R, e, k⟩ := h
  obtain ⟨b, l1, h1, h2⟩ := hg _ _ e
  refine ⟨L0, loc, b, l1, R, h1, fun H1 p1 => ?_⟩
  cases b with
  | true => exact ⟨L0, l1, out, p1.rel, h2, k.step p1.st⟩
  | false => exact ⟨L0, l1, out, p1.rel, h2, k.step p1.st⟩
theorem s_bk {D : Ends} {g : Loc → Option Out} (hg : ∀ loc o, g loc = some o → o = .bk loc) (h : tS P g D σ H) : tBreak D σ H := by
  obtain ⟨L0, loc, out, R, e, k⟩ := h
  obtain rfl := hg _ _ e
  exact k σ H (.refl R)
theorem s_ct {D : Ends} {g : Loc → Option Out} (hg : ∀ loc o, g loc = some o → o = .ct loc) (h : tS P g D σ H) : tCont D σ H := by
  obtain ⟨L0, loc, out, R, e, k⟩ := h
  obtain rfl := hg _ _ e
  exact k σ H (.refl R)
/-- x[k] = e, x an own list -/
theorem s_put {D : Ends} {i : Nat} {ge gk : Loc → Option (R × Loc)} {g : Loc → Option Out}
    (hg : ∀ loc o, g loc = some o → ∃ r l1 n l2 d b ds b0 ds0, ge loc = some (r, l1) ∧ l1[i]? = some (.own b0 ds0) ∧ gk l1 = some (.val (.int n), l2) ∧ toVal r = some d ∧ l2[i]? = some (.own b ds) ∧ 0 ≤ n ∧ n < ds.length ∧ o = .nx (l2.set i (.own b (ds.set n.toNat d))))
    (h : tS P g D σ H) : tAsg (tE P ge) (gSub (tVar i) (tE P gk) rSetL) D σ H := by
  obtain ⟨L0, loc, out, R, e, k⟩ := h
  obtain ⟨r, l1, n, l2, d, b, ds, b0, ds0, h1, h0, h2, h3, h4, h5, h6, rfl⟩ := hg _ _ e
  refine ⟨L0, loc, r, l1, R, h1, fun v H1 p1 => ?_⟩
  obtain ⟨a, vs0, e1, e2, _⟩ := p1.rel.own _ _ _ h0
  refine ⟨_, e1, L0, l1, _, l2, p1.rel, h2, fun y H2 p2 => ?_⟩
  obtain ⟨a2, vs, e3, e4, e5, e6⟩ := p2.rel.own _ _ _ h4
  rw [e1] at e3; cases e3
  have hy : y = .int n := by
    have := p2.rep
    have h' : Rep P (Lv L0 l2 σ) H2 (.int n) y := this
    unfold Rep at h'; exact h'
  subst hy
  have hl := e6.length
  have rv : Rep P (Lv L0 l2 σ) H2 d v := by
    have := (p1.rep.sett).after p2
    rw [tval_sett h3] at this
    exact this
  refine ⟨a, vs, n, n.toNat, rfl, rfl, e4, ?_, ?_⟩
  · unfold ixN
    rw [if_pos h5, if_pos (by omega)]
  · exact k σ _ ((p1.trans p2).trans (EvPost.mut (r := .val .non) (v := .non) p2.rel h4 e1 (Reps.set n.toNat rv e6) (fun d e => by cases e; unfold Rep; rfl) ⟨_, rfl⟩)).st
/-- what a slot holds is forgotten -/
theorem forget1 {i : Nat} (R : Rel P L0 loc σ H) (hf : free loc i = true) : StPost P L0 loc σ H (loc.set i .none) σ H := by
  obtain ⟨hl, nb, ns⟩ := free_spec hf
  have own : ∀ b, OwnAt (loc.set i .none) σ b → OwnAt loc σ b := fun b ⟨j, b', es, e1, e2⟩ => by
    rcases getset e1 with ⟨_, e3, _⟩ | ⟨ne, e1⟩
    · cases e3
    · exact ⟨j, b', es, e1, e2⟩
  have lv : ∀ b, Lv L0 (loc.set i .none) σ b → Lv L0 loc σ b := fun b z => z.imp id (own b)
  refine ⟨⟨by simp [R.len], R.l0, fun j d' e => ?_, fun j b ds e => ?_, fun j k b c ds es w e1 e2 e3 e4 => ?_, fun j ns e => ?_⟩, fun _ _ e _ => e, fun b z => .inl (own b z), fun _ o e => ⟨o, e⟩, fun j ds e => ?_, fun j e => ?_⟩
  · rcases getset e with ⟨rfl, e3, _⟩ | ⟨ne, e⟩
    · cases e3
    · obtain ⟨w, e1, r⟩ := R.dat j d' e
      exact ⟨w, e1, Rep.weak lv r⟩
  · rcases getset e with ⟨rfl, e3, _⟩ | ⟨ne, e⟩
    · cases e3
    · obtain ⟨a, vs, e1, h1, n1, r⟩ := R.own j b ds e
      exact ⟨a, vs, e1, h1, n1, Reps.weak lv r⟩
  · rcases getset e1 with ⟨_, z, _⟩ | ⟨n1, e1⟩
    · cases z
    rcases getset e2 with ⟨_, z, _⟩ | ⟨n2, e2⟩
    · cases z
    exact R.inj _ _ _ _ _ _ _ e1 e2 e3 e4
  · rcases getset e with ⟨rfl, e3, _⟩ | ⟨ne, e⟩
    · cases e3
    · obtain ⟨a, e1, h1⟩ := R.scr j ns e
      exact ⟨a, e1, h1.keep (fun _ _ z _ => z) fun b z => .inl (lv b z)⟩
  · have ne : i ≠ j := fun z => by subst z; exact nb ds e
    exact ⟨ds, by rw [List.getElem?_set_ne ne]; exact e, rfl⟩
  · have ne : i ≠ j := fun z => by subst z; exact free_hid hf e
    exact ⟨by rw [List.getElem?_set_ne ne]; exact e, rfl⟩
theorem free_set {i j : Nat} (h : free loc i = true) : free (loc.set j .none) i = true := by
  by_cases e : j = i
  · subst e
    unfold free
    rw [List.getElem?_set_self (free_spec h).1]
  · unfold free at h ⊢
    rw [List.getElem?_set_ne e]
    exact h
theorem free_wipe {i : Nat} (h : free loc i = true) : ∀ is : List Nat, free (wipeL loc is) i = true
  | [] => h
  | j :: js => by
    unfold wipeL
    exact free_set (free_wipe h js)
theorem forget_all (R : Rel P L0 loc σ H) : ∀ is : List Nat, is.all (free loc) = true → StPost P L0 loc σ H (wipeL loc is) σ H
  | [], _ => .refl R
  | i :: is, h => by
    simp only [List.all_cons, Bool.and_eq_true] at h
    have p := forget_all R is h.2
    unfold wipeL
    exact p.trans (forget1 p.rel (free_wipe h.1 is))
/-- xs += e, xs an own list -/
theorem s_augL {D : Ends} {i : Nat} {ge : Loc → Option (R × Loc)} {g : Loc → Option Out}
    (hg : ∀ loc o, g loc = some o → ∃ b0 ds0 r l1 es b ds, loc[i]? = some (.own b0 ds0) ∧ ge loc = some (r, l1) ∧ toVal r = some (.lst es) ∧ l1[i]? = some (.own b ds) ∧ ds.length + es.length ≤ big ∧ o = .nx (l1.set i (.own b (ds ++ es))))
    (h : tS P g D σ H) : tAug i (tE P ge) rExt2 D σ H := by
  obtain ⟨L0, loc, out, R, e, k⟩ := h
  obtain ⟨b0, ds0, r, l1, es, b, ds, h0, h1, h2, h3, h4, rfl⟩ := hg _ _ e
  obtain ⟨a, vs0, e1, e2, _⟩ := R.own _ _ _ h0
  refine ⟨_, e1, L0, loc, r, l1, R, h1, fun y H1 p1 => ?_⟩
  obtain ⟨a2, vs, e3, e4, e5, e6⟩ := p1.rel.own _ _ _ h3
  rw [e1] at e3; cases e3
  have ry := toVal_rep p1.rep h2
  unfold Rep at ry
  obtain ⟨c, ws, rfl, f1, f2, f3⟩ := ry
  have hs : σ.set i (some (.ref a)) = σ := by
    apply List.ext_getElem?
    intro j
    by_cases z : i = j
    · subst z
      rw [List.getElem?_set_self (lt_of_get e1), e1]
    · rw [List.getElem?_set_ne z]
  refine ⟨a, c, vs, ws, rfl, rfl, e4, f1, big_line (by rw [← e6.length, ← f3.length]; exact h4), ?_⟩
  show D.nx (σ.set i (some (.ref a))) _
  rw [hs]
  exact k σ _ (p1.trans (EvPost.mut (r := .val .non) (v := .non) p1.rel h3 e1 (e6.append f3) (fun d e => by cases e; unfold Rep; rfl) ⟨_, rfl⟩)).st
end MP

namespace MP
open PySem PySem.Spec PyProof.Rows L2
variable {P : RP} {L L' : Addr → Prop} {H H' : Hp} {L0 : Addr → Prop} {loc loc' : Loc} {σ σ' : Sg}

/-! ### slots forgotten -/
theorem freeD_spec {i : Nat} (h : freeD loc i = true) : i < loc.length ∧ (∀ b ds, loc[i]? ≠ some (.own b ds)) ∧ (∀ ns, loc[i]? ≠ some (.scr ns)) := by
  unfold freeD at h
  split at h
  · rename_i e; exact ⟨lt_of_get e, fun b ds z => (by rw [e] at z; cases z), fun ns z => (by rw [e] at z; cases z)⟩
  · rename_i e; exact ⟨lt_of_get e, fun b ds z => (by rw [e] at z; cases z), fun ns z => (by rw [e] at z; cases z)⟩
  · cases h
theorem wipeL_len (loc : Loc) : ∀ vs : List Nat, (wipeL loc vs).length = loc.length
  | [] => rfl
  | v :: vs => by unfold wipeL; rw [List.length_set, wipeL_len loc vs]
theorem wipeL_out {i : Nat} : ∀ {vs : List Nat}, i ∉ vs → (wipeL loc vs)[i]? = loc[i]?
  | [], _ => rfl
  | v :: vs, h => by
    simp only [List.mem_cons, not_or] at h
    unfold wipeL
    rw [List.getElem?_set_ne (Ne.symm h.1)]
    exact wipeL_out h.2
theorem wipeL_in {i : Nat} : ∀ {vs : List Nat}, i ∈ vs → i < loc.length → (wipeL loc vs)[i]? = some .none
  | [], h, _ => by cases h
  | v :: vs, h, hl => by
    unfold wipeL
    by_cases e : v = i
    · subst e
      exact List.getElem?_set_self (by rw [wipeL_len]; exact hl)
    · rw [List.getElem?_set_ne e]
      exact wipeL_in ((List.mem_cons.mp h).resolve_left (Ne.symm e)) hl
theorem wipe_out' {i : Nat} : ∀ {vs : List Nat}, i ∉ vs → (wipe σ vs)[i]? = σ[i]?
  | [], _ => rfl
  | v :: vs, h => by
    simp only [List.mem_cons, not_or] at h
    unfold wipe
    rw [List.getElem?_set_ne (Ne.symm h.1)]
    exact wipe_out' h.2
theorem wipe_in {i : Nat} : ∀ {vs : List Nat}, i ∈ vs → i < σ.length → (wipe σ vs)[i]? = some none
  | [], h, _ => by cases h
  | v :: vs, h, hl => by
    unfold wipe
    by_cases e : v = i
    · subst e
      exact List.getElem?_set_self (by rw [wipe_length]; exact hl)
    · rw [List.getElem?_set_ne e]
      exact wipe_in ((List.mem_cons.mp h).resolve_left (Ne.symm e)) hl
theorem wipe_eq {vs : List Nat} (hl : σ'.length = σ.length) (h : ∀ i, i ∉ vs → σ'[i]? = σ[i]?) : wipe σ' vs = wipe σ vs := by
  apply List.ext_getElem?
  intro i
  by_cases e : i ∈ vs
  · by_cases hi : i < σ.length
    · rw [wipe_in e hi, wipe_in e (hl ▸ hi)]
    · rw [List.getElem?_eq_none (by rw [wipe_length]; omega), List.getElem?_eq_none (by rw [wipe_length]; omega)]
  · rw [wipe_out' e, wipe_out' e, h i e]
theorem wipe_wipe {vs : List Nat} : wipe (wipe σ vs) vs = wipe σ vs := wipe_eq (wipe_length σ vs) fun i h => wipe_out' h
theorem back_len (l0 l1 : Loc) : ∀ vs : List Nat, (back l0 l1 vs).length = l1.length
  | [] => rfl
  | v :: vs => by unfold back; rw [List.length_set, back_len l0 l1 vs]
theorem back_out {l0 l1 : Loc} {i : Nat} : ∀ {vs : List Nat}, i ∉ vs → (back l0 l1 vs)[i]? = l1[i]?
  | [], _ => rfl
  | v :: vs, h => by
    simp only [List.mem_cons, not_or] at h
    unfold back
    rw [List.getElem?_set_ne (Ne.symm h.1)]
    exact back_out h.2
theorem back_in {l0 l1 : Loc} {i : Nat} (hl : l1.length = l0.length) : ∀ {vs : List Nat}, i ∈ vs → i < l0.length → (back l0 l1 vs)[i]? = l0[i]?
  | [], h, _ => by cases h
  | v :: vs, h, hi => by
    unfold back
    by_cases e : v = i
    · subst e
      rw [List.getElem?_set_self (by rw [back_len]; omega), List.getElem?_eq_getElem hi]
      simp [List.getD, List.getElem?_eq_getElem hi]
    · rw [List.getElem?_set_ne e]
      exact back_in hl ((List.mem_cons.mp h).resolve_left (Ne.symm e)) hi
theorem own_wipe {vs : List Nat} (hf : ∀ i ∈ vs, freeD loc i = true) : ∀ c, OwnAt (wipeL loc vs) (wipe σ vs) c ↔ OwnAt loc σ c := fun c => by
  constructor
  · rintro ⟨i, b, ds, e1, e2⟩
    by_cases h : i ∈ vs
    · rw [wipeL_in h (by have := lt_of_get e1; rwa [wipeL_len] at this)] at e1; cases e1
    · rw [wipeL_out h] at e1
      rw [wipe_out' h] at e2
      exact ⟨i, b, ds, e1, e2⟩
  · rintro ⟨i, b, ds, e1, e2⟩
    have h : i ∉ vs := fun z => (freeD_spec (hf i z)).2.1 b ds e1
    exact ⟨i, b, ds, by rw [wipeL_out h]; exact e1, by rw [wipe_out' h]; exact e2⟩
theorem Rel.wiped {vs : List Nat} (R : Rel P L0 loc σ H) (hf : ∀ i ∈ vs, freeD loc i = true) : Rel P L0 (wipeL loc vs) (wipe σ vs) H := by
  have ow := own_wipe (σ := σ) hf
  have lv : ∀ c, Lv L0 (wipeL loc vs) (wipe σ vs) c → Lv L0 loc σ c := fun c z => z.imp id (ow c).mp
  have out : ∀ {i : Nat} {s : Slot}, (wipeL loc vs)[i]? = some s → s ≠ .none → i ∉ vs := fun {i s} e n h => by
    rw [wipeL_in h (by have := lt_of_get e; rwa [wipeL_len] at this)] at e
    cases e; exact n rfl
  refine ⟨by rw [wipeL_len, wipe_length]; exact R.len, R.l0, fun i d e => ?_, fun i b ds e => ?_, fun i j b c ds es a e1 e2 e3 e4 => ?_, fun i ns e => ?_⟩
  · have h := out e (fun z => nomatch z)
    rw [wipeL_out h] at e
    obtain ⟨v, e1, r⟩ := R.dat i d e
    exact ⟨v, by rw [wipe_out' h]; exact e1, Rep.weak lv r⟩
  · have h := out e (fun z => nomatch z)
    rw [wipeL_out h] at e
    obtain ⟨a, ws, e1, h1, n1, r⟩ := R.own i b ds e
    exact ⟨a, ws, by rw [wipe_out' h]; exact e1, h1, n1, Reps.weak lv r⟩
  · have h1 := out e1 (fun z => nomatch z)
    have h2 := out e2 (fun z => nomatch z)
    rw [wipeL_out h1] at e1
    rw [wipeL_out h2] at e2
    rw [wipe_out' h1] at e3
    rw [wipe_out' h2] at e4
    exact R.inj _ _ _ _ _ _ _ e1 e2 e3 e4
  · have h := out e (fun z => nomatch z)
    rw [wipeL_out h] at e
    obtain ⟨a, e1, h1⟩ := R.scr i ns e
    exact ⟨a, by rw [wipe_out' h]; exact e1, h1.keep (fun _ _ z _ => z) fun b z => .inl (lv b z)⟩
theorem Rel.less {L0' : Addr → Prop} (R : Rel P L0 loc σ H) (h : ∀ b, L0' b → L0 b) : Rel P L0' loc σ H := by
  have lv : ∀ c, Lv L0' loc σ c → Lv L0 loc σ c := fun c z => z.imp (h c) id
  refine ⟨R.len, fun b z => R.l0 b (h b z), fun i d e => ?_, fun i b ds e => ?_, R.inj, fun i ns e => ?_⟩
  · obtain ⟨v, e1, r⟩ := R.dat i d e
    exact ⟨v, e1, Rep.weak lv r⟩
  · obtain ⟨a, ws, e1, h1, n1, r⟩ := R.own i b ds e
    exact ⟨a, ws, e1, h1, fun z => n1 (h a z), Reps.weak lv r⟩
  · obtain ⟨a, e1, h1⟩ := R.scr i ns e
    exact ⟨a, e1, h1.keep (fun _ _ z _ => z) fun b z => .inl (lv b z)⟩
/-- a live list that no local has gets other items -/
theorem Rel.other {a : Addr} {o : HO} (R : Rel P L0 loc σ H) (ha : L0 a) : Rel P L0 loc σ (upd H a o) := by
  have kp : ∀ b o', H b = some o' → ¬ Lv L0 loc σ b → (upd H a o) b = some o' := fun b o' e n => by
    rw [upd_ne (fun z => n (by rw [z]; exact .inl ha))]; exact e
  refine ⟨R.len, fun b z => ?_, fun i d e => ?_, fun i b ds e => ?_, R.inj, fun i ns e => ?_⟩
  · by_cases h : b = a
    · subst h; exact ⟨_, upd_same⟩
    · rw [upd_ne h]; exact R.l0 b z
  · obtain ⟨v, e1, r⟩ := R.dat i d e
    exact ⟨v, e1, Rep.keep kp (fun b z => .inl z) d v r⟩
  · obtain ⟨c, ws, e1, h1, n1, r⟩ := R.own i b ds e
    have : c ≠ a := fun z => n1 (by rw [z]; exact ha)
    exact ⟨c, ws, e1, by rw [upd_ne this]; exact h1, n1, Reps.keep kp (fun b z => .inl z) ds ws r⟩
  · obtain ⟨c, e1, h1⟩ := R.scr i ns e
    exact ⟨c, e1, h1.keep kp fun b z => .inl z⟩
theorem put_slots {i j : Nat} {s : Slot} (h : put loc i s = some loc') : loc'.length = loc.length ∧ (i ≠ j → loc'[j]? = loc[j]?) := by
  unfold put at h
  split at h
  · cases h; exact ⟨List.length_set, fun e => List.getElem?_set_ne e⟩
  · cases h
theorem put_free {i j : Nat} {d : D} (h : put loc i (.dat d) = some loc') (hf : freeD loc j = true) : freeD loc' j = true := by
  unfold put at h
  split at h
  · rename_i hq
    cases h
    by_cases e : i = j
    · subst e
      unfold freeD
      rw [List.getElem?_set_self (free_spec hq).1]
    · unfold freeD at hf ⊢
      rw [List.getElem?_set_ne e]; exact hf
  · cases h
theorem puts_slots : ∀ {is : List Nat} {ds : List D} {loc loc' : Loc}, puts is ds loc = some loc' → loc'.length = loc.length ∧ (∀ j, j ∉ is → loc'[j]? = loc[j]?) ∧ ∀ j, freeD loc j = true → freeD loc' j = true
  | [], ds, loc, loc', e => by
    cases ds with
    | nil => simp only [puts] at e; cases e; exact ⟨rfl, fun _ _ => rfl, fun _ h => h⟩
    | cons _ _ => simp only [puts] at e; cases e
  | i :: is, ds, loc, loc', e => by
    cases ds with
    | nil => simp only [puts] at e; cases e
    | cons d ds =>
      simp only [puts] at e
      split at e
      · rename_i l1 e1
        obtain ⟨h1, h2, h3⟩ := puts_slots e
        refine ⟨h1.trans (put_slots (j := 0) e1).1, fun j hj => ?_, fun j hj => h3 j (put_free e1 hj)⟩
        simp only [List.mem_cons, not_or] at hj
        rw [h2 j hj.2, (put_slots e1).2 (Ne.symm hj.1)]
      · cases e
theorem bind_slots {p : Pat} {d : D} (h : bindP p d loc = some loc') : loc'.length = loc.length ∧ (∀ j, j ∉ pslots p → loc'[j]? = loc[j]?) ∧ ∀ j, freeD loc j = true → freeD loc' j = true := by
  cases p with
  | v i =>
    have h : put loc i (.dat d) = some loc' := h
    exact ⟨(put_slots (j := 0) h).1, fun j hj => (put_slots h).2 (by simp only [pslots, List.mem_singleton] at hj; exact Ne.symm hj), fun j hj => put_free h hj⟩
  | tup is =>
    cases d with
    | tup ds =>
      have h : puts is ds loc = some loc' := h
      exact puts_slots h
    | _ => simp only [bindP] at h; cases h
theorem EvPost.frD {r : R} {v : V} (p : EvPost P L0 loc σ H loc' r v H') {i : Nat} (h : freeD loc i = true) : freeD loc' i = true := by
  obtain ⟨hl, h1, h2⟩ := freeD_spec h
  have e := List.getElem?_eq_getElem hl
  have e' := p.fix i _ e fun b ds z => h1 b ds (by rw [e, z])
  unfold freeD at h ⊢
  rw [e] at h
  rw [e']
  exact h

/-! ### comprehensions -/
structure LcP (P : RP) (L0 : Addr → Prop) (ow : List Nat) (loc : Loc) (σ : Sg) (H : Hp) (A : Addr) (loc' : Loc) (H' : Hp) : Prop where
  rel : Rel P L0 loc' σ H'
  keep : ∀ b o, H b = some o → ¬ OwnAt loc σ b → b ≠ A → H' b = some o
  own : ∀ b, OwnAt loc' σ b → OwnAt loc σ b
  there : ∀ b o, H b = some o → ∃ o', H' b = some o'
  pin : ∀ (i : Nat) (ds : List D), loc[i]? = some (.own true ds) → ∃ ds', loc'[i]? = some (.own true ds')
  fix : ∀ (i : Nat) (s : Slot), i ∉ ow → loc[i]? = some s → (∀ b ds, s ≠ .own b ds) → loc'[i]? = some s
  fr : ∀ i ∈ ow, freeD loc' i = true
theorem lc_read {gi : Loc → Option (List D × Loc)} {p : Pat} {gc : Loc → Option (Bool × Loc)} {ge g : Loc → Option (R × Loc)} {own : List Nat} (hp : ∀ i ∈ pslots p, i ∈ own)
    (hg : ∀ loc r loc', g loc = some (r, loc') → ∃ items l1 ds l2, gi loc = some (items, l1) ∧ (∀ i ∈ own, freeD l1 i = true) ∧ items.length ≤ big ∧ lcRun own p gc ge items (wipeL l1 own) = some (ds, l2) ∧ r = .new ds ∧ loc' = back l1 l2 own)
    {Q : VK} (h : tE P g σ H Q) : tLc (tI P gi) (tG P p) (tT P gc) (tE P ge) own σ H Q := by
  obtain ⟨L0, loc, r, loc', R, e, k⟩ := h
  obtain ⟨items, l1, ds, lf, e1, hf, hbig, e2, rfl, rfl⟩ := hg _ _ _ e
  refine ⟨L0, loc, items, l1, R, e1, fun J H1 p1 ok A hA => ?_⟩
  have sA : Same H1 (upd H1 A (.lst [])) := same_upd hA
  have RA : Rel P (fun b => L0 b ∨ b = A) l1 σ (upd H1 A (.lst [])) := by
    refine p1.rel.grow sA (fun b z => ?_) fun b z => ?_
    · rcases z with z | rfl
      · exact .inl z
      · exact .inr hA
    · rcases z with z | rfl
      · obtain ⟨o, e⟩ := p1.rel.l0 b z; exact ⟨o, sA _ _ e⟩
      · exact ⟨_, upd_same⟩
  have Rw := RA.wiped (vs := own) hf
  have ow := own_wipe (σ := σ) hf
  have len1 : l1.length = σ.length := p1.rel.len
  have frw : ∀ i ∈ own, freeD (wipeL l1 own) i = true := fun i hi => by
    unfold freeD
    rw [wipeL_in hi (freeD_spec (hf i hi)).1]
  have nA1 : ¬ Lv L0 l1 σ A := fun z => by obtain ⟨o, e⟩ := p1.rel.lv z; rw [hA] at e; cases e
  refine ⟨fun i m H2 => m = items.length - i ∧ i ≤ items.length ∧ ∃ l2 dn vs rest, LcP P (fun b => L0 b ∨ b = A) own (wipeL l1 own) (wipe σ own) (upd H1 A (.lst [])) A l2 H2 ∧ H2 A = some (.lst vs) ∧
      Reps P (Lv (fun b => L0 b ∨ b = A) l2 (wipe σ own)) H2 dn vs ∧ lcRun own p gc ge (items.drop i) l2 = some (rest, lf) ∧ ds = dn ++ rest ∧ dn.length ≤ i,
    ⟨_, rfl, Nat.zero_le _, wipeL l1 own, [], [], ds, ⟨Rw, fun _ _ e _ _ => e, fun _ z => z, fun _ o e => ⟨o, e⟩, fun _ ds e => ⟨ds, e⟩, fun _ _ _ e _ => e, frw⟩, upd_same, Reps.nil, by rw [List.drop_zero]; exact e2, rfl, Nat.le_refl _⟩, ?_⟩
  rintro i m H2 ⟨rfl, hi, l2, dn, vs, rest, lp, eA, rd, e3, ed, hlen⟩
  -- from the heap ahead of the new list
  have kp1 : ∀ c o, H1 c = some o → ¬ OwnAt l1 σ c → H2 c = some o := fun c o e n => by
    have hc : c ≠ A := fun z => by rw [z, hA] at e; cases e
    exact lp.keep c o (sA _ _ e) (fun z => n ((ow c).mp z)) hc
  have th1 : ∀ c o, H1 c = some o → ∃ o', H2 c = some o' := fun c o e => lp.there c o (sA _ _ e)
  have own1 : ∀ c, OwnAt l2 (wipe σ own) c → OwnAt l1 σ c := fun c z => (ow c).mp (lp.own c z)
  have ok2 := ok H2 (fun c o e n => kp1 c o e fun z => n (.inr z)) i
  have lvl : ∀ b, Lv (fun b => L0 b ∨ b = A) l2 (wipe σ own) b → Lv L0 l1 σ b ∨ H1 b = none := fun b z => by
    rcases z with (z | rfl) | z
    · exact .inl (.inl z)
    · exact .inr hA
    · exact .inl (.inr (own1 b z))
  by_cases hlt : i < items.length
  · obtain ⟨go, yld⟩ := ok2.1 hlt
    refine .inr ⟨go, fun H' => ∃ l' dn' vs' rest', LcP P (fun b => L0 b ∨ b = A) own (wipeL l1 own) (wipe σ own) (upd H1 A (.lst [])) A l' H' ∧ H' A = some (.lst vs') ∧
      Reps P (Lv (fun b => L0 b ∨ b = A) l' (wipe σ own)) H' dn' vs' ∧ lcRun own p gc ge (items.drop (i + 1)) l' = some (rest', lf) ∧ ds = dn' ++ rest' ∧ dn'.length ≤ i + 1, fun H' q => ⟨_, by omega, rfl, hlt, q⟩, fun x H3 y => ?_⟩
    obtain ⟨sm, d, edd, rp⟩ := yld x H3 y
    have hd : items.drop i = d :: items.drop (i + 1) := by
      have := List.drop_eq_getElem_cons hlt
      rw [List.getElem?_eq_getElem hlt] at edd
      cases edd
      exact this
    rw [hd] at e3
    simp only [lcRun] at e3
    split at e3
    · cases e3
    · rename_i l3 e4
      have g3 := StPost.grew lp.rel sm
      obtain ⟨bl, bo, bf⟩ := bind_slots e4
      refine ⟨_, l2, d, l3, g3.rel, rp _ lvl (fun b z => lp.rel.lv z), e4, fun σ4 p4 hl4 ho4 => ?_⟩
      have p5 := g3.trans p4
      have ew : wipe σ4 own = wipe σ own := (wipe_eq hl4 fun i hi => ho4 i fun z => hi (hp i z)).trans wipe_wipe
      refine ⟨ew, ?_⟩
      have own4 : ∀ b, OwnAt l3 σ4 b → OwnAt l2 (wipe σ own) b := fun b z => by
        rcases p4.own b z with y | y
        · exact y
        · obtain ⟨o, e⟩ := p4.rel.lv (.inr z)
          rw [y] at e; cases e
      -- a step's end, from the state ahead of it
      have fin : ∀ {l6 : Loc} {H6 : Hp} {r : MP.R} {v : V}, EvPost P (fun b => L0 b ∨ b = A) l3 σ4 H3 l6 r v H6 →
          LcP P (fun b => L0 b ∨ b = A) own (wipeL l1 own) (wipe σ own) (upd H1 A (.lst [])) A (wipeL l6 own) H6 ∧ (∀ b, Lv (fun b => L0 b ∨ b = A) (wipeL l6 own) (wipe σ own) b → Lv (fun b => L0 b ∨ b = A) l6 σ4 b) := fun {l6 H6 r v} q => by
        have hf6 : ∀ j ∈ own, freeD l6 j = true := fun j hj => q.frD (bf j (lp.fr j hj))
        have R6 := q.rel.wiped (vs := own) hf6
        rw [ew] at R6
        have ow6 := own_wipe (loc := l6) (σ := σ4) hf6
        rw [ew] at ow6
        have q5 := p5.trans q.st
        refine ⟨⟨R6, fun b o e n nb => ?_, fun b z => ?_, fun b o e => ?_, fun j es e => ?_, fun j s hj e ns => ?_, fun j hj => ?_⟩, fun b z => z.imp id (ow6 b).mp⟩
        · exact q5.keep b o (lp.keep b o e n nb) fun z => n (lp.own b z)
        · exact lp.own b (own4 b (q.own b ((ow6 b).mp z)))
        · obtain ⟨o', e'⟩ := lp.there b o e
          exact q5.there b o' e'
        · obtain ⟨es', e'⟩ := lp.pin j es e
          obtain ⟨es2, e2', _⟩ := q5.pin j es' e'
          have hj : j ∉ own := fun z => (freeD_spec (hf6 j z)).2.1 _ _ e2'
          exact ⟨es2, by rw [wipeL_out hj]; exact e2'⟩
        · rw [wipeL_out hj]
          refine q.fix j s ?_ ns
          rw [bo j fun z => hj (hp j z)]
          exact lp.fix j s hj e ns
        · unfold freeD
          rw [wipeL_in hj (freeD_spec (hf6 j hj)).1]
      -- the new list's items so far, behind a step
      have kept : ∀ {l6 : Loc} {H6 : Hp} {r : MP.R} {v : V}, EvPost P (fun b => L0 b ∨ b = A) l3 σ4 H3 l6 r v H6 → H6 A = some (.lst vs) ∧ Reps P (Lv (fun b => L0 b ∨ b = A) l6 σ4) H6 dn vs := fun {l6 H6 r v} q => by
        have q5 := p5.trans q.st
        refine ⟨q5.keep A _ eA fun z => ?_, Reps.keep q5.kp q5.lv _ _ rd⟩
        obtain ⟨i', b', es', f1, f2⟩ := z
        obtain ⟨a, ws, g1, g2, g3, _⟩ := lp.rel.own _ _ _ f1
        rw [f2] at g1; cases g1
        exact g3 (.inr rfl)
      split at e3
      · cases e3
      · rename_i l4 e5
        refine ⟨_, l3, true, l4, p5.rel, e5, fun H5 q5 => ?_⟩
        refine iteT ?_
        split at e3
        · cases e3
        · rename_i r l5 e6
          split at e3
          · cases e3
          · rename_i d' e7
            split at e3
            · cases e3
            · rename_i es l6 e8
              cases e3
              refine ⟨_, l4, r, l5, q5.rel, e6, fun y H6 q6 => ?_⟩
              have q7 := q5.trans q6
              obtain ⟨k1, k2⟩ := kept q7
              obtain ⟨f1, f2⟩ := fin q7
              have hl := k2.length
              refine ⟨vs, k1, big_lt (by omega), wipeL l5 own, dn ++ [d'], vs ++ [y], es, ⟨f1.rel.other (.inr rfl), fun b o e n nb => by rw [upd_ne nb]; exact f1.keep b o e n nb, f1.own, fun b o e => ?_, f1.pin, f1.fix, f1.fr⟩, upd_same, ?_, e8, by rw [ed]; simp, by simp; omega⟩
              · by_cases z : b = A
                · subst z; exact ⟨_, upd_same⟩
                · rw [upd_ne z]; exact f1.there b o e
              · have rr : Reps P (Lv (fun b => L0 b ∨ b = A) l5 σ4) H6 (dn ++ [d']) (vs ++ [y]) := k2.append (Reps.cons (toVal_rep q6.rep e7) Reps.nil)
                refine Reps.keep (fun b o e n => ?_) (fun b z => .inl (f2 b z)) _ _ rr
                rw [upd_ne (fun z => n (.inl (.inr z)))]; exact e
      · rename_i l4 e5
        refine ⟨_, l3, false, l4, p5.rel, e5, fun H5 q5 => ?_⟩
        refine iteF ?_
        obtain ⟨k1, k2⟩ := kept q5
        obtain ⟨f1, f2⟩ := fin q5
        exact ⟨wipeL l4 own, dn, vs, rest, f1, k1, Reps.weak f2 k2, e3, ed, by omega⟩
  · have hx : i = items.length := by omega
    subst hx
    rw [List.drop_length] at e3
    cases e3
    rw [List.append_nil] at ed
    subst ed
    have lenf : lf.length = l1.length := by have := lp.rel.len; rw [wipe_length] at this; omega
    have lb : ∀ {i : Nat} {s : Slot}, (back l1 lf own)[i]? = some s → (∀ b ds, s ≠ .own b ds) ∨ (i ∉ own ∧ lf[i]? = some s ∧ (wipe σ own)[i]? = σ[i]?) := fun {i s} e => by
      by_cases h : i ∈ own
      · have hl : i < l1.length := (freeD_spec (hf i h)).1
        rw [back_in lenf h hl] at e
        exact .inl fun b ds z => (freeD_spec (hf i h)).2.1 b ds (by rw [e, z])
      · rw [back_out h] at e
        exact .inr ⟨h, e, wipe_out' h⟩
    have ob : ∀ c, OwnAt (back l1 lf own) σ c → OwnAt lf (wipe σ own) c := fun c ⟨i, b, ds, f1, f2⟩ => by
      rcases lb f1 with z | ⟨z1, z2, z3⟩
      · exact absurd rfl (z b ds)
      · exact ⟨i, b, ds, z2, by rw [z3]; exact f2⟩
    have lvb : ∀ c, Lv (fun b => L0 b ∨ b = A) (back l1 lf own) σ c → Lv (fun b => L0 b ∨ b = A) lf (wipe σ own) c := fun c z => z.imp id (ob c)
    have Rb : Rel P (fun b => L0 b ∨ b = A) (back l1 lf own) σ H2 := by
      refine ⟨by rw [back_len]; omega, lp.rel.l0, fun i d e => ?_, fun i b ds e => ?_, fun i j b c ds es a f1 f2 f3 f4 => ?_, fun i ns e => ?_⟩
      · by_cases h : i ∈ own
        · have hl : i < l1.length := (freeD_spec (hf i h)).1
          rw [back_in lenf h hl] at e
          obtain ⟨v, g1, r⟩ := p1.rel.dat i d e
          exact ⟨v, g1, Rep.keep (fun c o e n => kp1 c o e fun z => n (.inr z)) (fun c z => lvl c (lvb c z)) d v r⟩
        · rw [back_out h] at e
          obtain ⟨v, g1, r⟩ := lp.rel.dat i d e
          exact ⟨v, by rw [← wipe_out' h]; exact g1, Rep.weak lvb r⟩
      · rcases lb e with z | ⟨z1, z2, z3⟩
        · exact absurd rfl (z b ds)
        · obtain ⟨a, ws, g1, g2, g3, g4⟩ := lp.rel.own i b ds z2
          exact ⟨a, ws, by rw [← z3]; exact g1, g2, g3, Reps.weak lvb g4⟩
      · rcases lb f1 with z | ⟨z1, z2, z3⟩
        · exact absurd rfl (z _ _)
        rcases lb f2 with z | ⟨y1, y2, y3⟩
        · exact absurd rfl (z _ _)
        exact lp.rel.inj _ _ _ _ _ _ _ z2 y2 (by rw [z3]; exact f3) (by rw [y3]; exact f4)
      · by_cases h : i ∈ own
        · have hl : i < l1.length := (freeD_spec (hf i h)).1
          rw [back_in lenf h hl] at e
          exact absurd e ((freeD_spec (hf i h)).2.2 ns)
        · rw [back_out h] at e
          obtain ⟨a, g1, h1⟩ := lp.rel.scr i ns e
          exact ⟨a, by rw [← wipe_out' h]; exact g1, h1.keep (fun _ _ z _ => z) fun b z => .inl (lvb b z)⟩
    refine .inl ⟨ok2.2 (Nat.le_refl _), k _ _ (p1.trans ⟨Rb.less fun b z => .inl z, kp1, fun c z => own1 c (ob c z), ⟨A, vs, rfl, eA, fun z => ?_, ?_, Rb⟩, th1, fun _ c _ e => by cases e; exact hA, fun j es e => ?_, fun j s e ns => ?_⟩)⟩
    · rcases z with z | z
      · exact nA1 (.inl z)
      · exact nA1 (.inr (own1 A (ob A z)))
    · refine Reps.weak (fun c z => ?_) rd
      rcases z with z | rfl
      · exact lvb c (z.imp .inl id)
      · exact .inl (.inr rfl)
    · have hj : j ∉ own := fun z => (freeD_spec (hf j z)).2.1 _ _ e
      obtain ⟨es', e'⟩ := lp.pin j es (by rw [wipeL_out hj]; exact e)
      exact ⟨es', by rw [back_out hj]; exact e'⟩
    · by_cases hj : j ∈ own
      · rw [back_in lenf hj (freeD_spec (hf j hj)).1]; exact e
      · rw [back_out hj]
        exact lp.fix j s hj (by rw [wipeL_out hj]; exact e) ns
end MP
namespace MP
open PySem PySem.Spec PyProof.Rows L2
variable {P : RP} {L L' : Addr → Prop} {H H' : Hp} {L0 : Addr → Prop} {loc loc' : Loc} {σ σ' : Sg}
theorem LcP.frD {own : List Nat} {A : Addr} (q : LcP P L0 own (wipeL loc own) σ H A loc' H') {i : Nat} (h : freeD loc i = true) : freeD loc' i = true := by
  by_cases hi : i ∈ own
  · exact q.fr i hi
  · obtain ⟨hl, h1, h2⟩ := freeD_spec h
    have e := List.getElem?_eq_getElem hl
    have e' := q.fix i _ hi (by rw [wipeL_out hi]; exact e) fun b ds z => h1 b ds (by rw [e, z])
    unfold freeD at h ⊢
    rw [e] at h
    rw [e']
    exact h
/-- the inner loop of a comprehension with two sources: more items to a list that is there -/
theorem lc_inner {gi : Loc → Option (List D × Loc)} {p : Pat} {gc : Loc → Option (Bool × Loc)} {ge : Loc → Option (R × Loc)} {own : List Nat} (hp : ∀ i ∈ pslots p, i ∈ own) {l l1 lf : Loc} {items dn es : List D} {vs : List V} {A : Addr} {Nx : Hp → Prop}
    (hA : L0 A) (R : Rel P L0 l σ H) (eA : H A = some (.lst vs)) (rd : Reps P (Lv L0 l σ) H dn vs) (e1 : gi l = some (items, l1)) (hf : ∀ i ∈ own, freeD l1 i = true) (hbig : items.length ≤ big) (run : lcRun own p gc ge items (wipeL l1 own) = some (es, lf)) (hlen : dn.length + es.length ≤ big)
    (k : ∀ H1 H' vs', EvPost P L0 l σ H l1 (.val .non) .non H1 → LcP P L0 own (wipeL l1 own) (wipe σ own) H1 A lf H' → H' A = some (.lst vs') → Reps P (Lv L0 lf (wipe σ own)) H' (dn ++ es) vs' → Nx H') :
    tI P gi σ H fun J H1 => ∃ W : Nat → Nat → Hp → Prop, (∃ m, W 0 m H1) ∧ ∀ i m H, W i m H → (J.stop i H ∧ Nx H) ∨ (J.go i H ∧ ∃ Nx1 : Hp → Prop, (∀ H', Nx1 H' → ∃ m', m' < m ∧ W (i + 1) m' H') ∧ ∀ x H', J.yld i H x H' → tG P p x (wipe σ own) H' fun σ2 H2 => wipe σ2 own = wipe σ own ∧ tT P gc σ2 H2 fun b H3 =>
      if b = true then tE P ge σ2 H3 fun y H4 => ∃ acc, H4 A = some (.lst acc) ∧ acc.length < sizeLine ∧ Nx1 (upd H4 A (.lst (acc ++ [y]))) else Nx1 H3) := by
  refine ⟨L0, l, items, l1, R, e1, fun J H1 p1 ok => ?_⟩
  have Rw := p1.rel.wiped (vs := own) hf
  have ow := own_wipe (σ := σ) hf
  have nA : ∀ {l2 : Loc} {s2 : Sg} {h2 : Hp}, Rel P L0 l2 s2 h2 → ¬ OwnAt l2 s2 A := fun {l2 s2 h2} R2 z => by
    obtain ⟨i', b', es', f1, f2⟩ := z
    obtain ⟨a, ws, g1, g2, g3, _⟩ := R2.own _ _ _ f1
    rw [f2] at g1; cases g1
    exact g3 hA
  have frw : ∀ i ∈ own, freeD (wipeL l1 own) i = true := fun i hi => by
    unfold freeD
    rw [wipeL_in hi (freeD_spec (hf i hi)).1]
  have k1 : LcP P L0 own (wipeL l1 own) (wipe σ own) H1 A (wipeL l1 own) H1 := ⟨Rw, fun _ _ e _ _ => e, fun _ z => z, fun _ o e => ⟨o, e⟩, fun _ ds e => ⟨ds, e⟩, fun _ _ _ e _ => e, frw⟩
  have eA1 : H1 A = some (.lst vs) := p1.keep A _ eA (nA R)
  have rd1 : Reps P (Lv L0 (wipeL l1 own) (wipe σ own)) H1 dn vs := by
    refine Reps.keep p1.kp (fun b z => ?_) _ _ rd
    rcases z with z | z
    · exact .inl (.inl z)
    · exact .inl (.inr (p1.own b ((ow b).mp z)))
  refine ⟨fun i m H2 => m = items.length - i ∧ i ≤ items.length ∧ ∃ l2 dn' vs' rest, LcP P L0 own (wipeL l1 own) (wipe σ own) H1 A l2 H2 ∧ H2 A = some (.lst vs') ∧ Reps P (Lv L0 l2 (wipe σ own)) H2 dn' vs' ∧
      lcRun own p gc ge (items.drop i) l2 = some (rest, lf) ∧ dn ++ es = dn' ++ rest, ⟨_, rfl, Nat.zero_le _, wipeL l1 own, dn, vs, es, k1, eA1, rd1, by rw [List.drop_zero]; exact run, rfl⟩, ?_⟩
  rintro i m H2 ⟨rfl, hi, l2, dn', vs', rest, lp, eA2, rd2, e3, ed⟩
  have lenb : dn'.length + rest.length ≤ big := by
    have := congrArg List.length ed
    rw [List.length_append, List.length_append] at this
    omega
  have ok2 := ok H2 (fun c o e n => lp.keep c o e (fun z => n (.inr ((ow c).mp z))) fun z => n (.inl (z ▸ hA))) i
  have lvl : ∀ b, Lv L0 l2 (wipe σ own) b → Lv L0 l1 σ b ∨ H1 b = none := fun b z => by
    rcases z with z | z
    · exact .inl (.inl z)
    · exact .inl (.inr ((ow b).mp (lp.own b z)))
  by_cases hlt : i < items.length
  · obtain ⟨go, yld⟩ := ok2.1 hlt
    refine .inr ⟨go, fun H' => ∃ l' dn'' vs'' rest', LcP P L0 own (wipeL l1 own) (wipe σ own) H1 A l' H' ∧ H' A = some (.lst vs'') ∧ Reps P (Lv L0 l' (wipe σ own)) H' dn'' vs'' ∧
      lcRun own p gc ge (items.drop (i + 1)) l' = some (rest', lf) ∧ dn ++ es = dn'' ++ rest', fun H' q => ⟨_, by omega, rfl, hlt, q⟩, fun x H3 y => ?_⟩
    obtain ⟨sm, d, edd, rp⟩ := yld x H3 y
    have hd : items.drop i = d :: items.drop (i + 1) := by
      have := List.drop_eq_getElem_cons hlt
      rw [List.getElem?_eq_getElem hlt] at edd
      cases edd
      exact this
    rw [hd] at e3
    simp only [lcRun] at e3
    split at e3
    · cases e3
    · rename_i l3 e4
      have g3 := StPost.grew lp.rel sm
      obtain ⟨bl, bo, bf⟩ := bind_slots e4
      refine ⟨_, l2, d, l3, g3.rel, rp _ lvl (fun b z => lp.rel.lv z), e4, fun σ4 p4 hl4 ho4 => ?_⟩
      have p5 := g3.trans p4
      have ew : wipe σ4 own = wipe σ own := (wipe_eq hl4 fun i hi => ho4 i fun z => hi (hp i z)).trans wipe_wipe
      refine ⟨ew, ?_⟩
      have own4 : ∀ b, OwnAt l3 σ4 b → OwnAt l2 (wipe σ own) b := fun b z => by
        rcases p4.own b z with y | y
        · exact y
        · obtain ⟨o, e⟩ := p4.rel.lv (.inr z)
          rw [y] at e; cases e
      have fin : ∀ {l6 : Loc} {H6 : Hp} {r : MP.R} {v : V}, EvPost P L0 l3 σ4 H3 l6 r v H6 →
          LcP P L0 own (wipeL l1 own) (wipe σ own) H1 A (wipeL l6 own) H6 ∧ (∀ b, Lv L0 (wipeL l6 own) (wipe σ own) b → Lv L0 l6 σ4 b) := fun {l6 H6 r v} q => by
        have hf6 : ∀ j ∈ own, freeD l6 j = true := fun j hj => q.frD (bf j (lp.fr j hj))
        have R6 := q.rel.wiped (vs := own) hf6
        rw [ew] at R6
        have ow6 := own_wipe (loc := l6) (σ := σ4) hf6
        rw [ew] at ow6
        have q5 := p5.trans q.st
        refine ⟨⟨R6, fun b o e n nb => ?_, fun b z => ?_, fun b o e => ?_, fun j es e => ?_, fun j s hj e ns => ?_, fun j hj => ?_⟩, fun b z => z.imp id (ow6 b).mp⟩
        · exact q5.keep b o (lp.keep b o e n nb) fun z => n (lp.own b z)
        · exact lp.own b (own4 b (q.own b ((ow6 b).mp z)))
        · obtain ⟨o', e'⟩ := lp.there b o e
          exact q5.there b o' e'
        · obtain ⟨es', e'⟩ := lp.pin j es e
          obtain ⟨es2, e2', _⟩ := q5.pin j es' e'
          have hj : j ∉ own := fun z => (freeD_spec (hf6 j z)).2.1 _ _ e2'
          exact ⟨es2, by rw [wipeL_out hj]; exact e2'⟩
        · rw [wipeL_out hj]
          refine q.fix j s ?_ ns
          rw [bo j fun z => hj (hp j z)]
          exact lp.fix j s hj e ns
        · unfold freeD
          rw [wipeL_in hj (freeD_spec (hf6 j hj)).1]
      have kept : ∀ {l6 : Loc} {H6 : Hp} {r : MP.R} {v : V}, EvPost P L0 l3 σ4 H3 l6 r v H6 → H6 A = some (.lst vs') ∧ Reps P (Lv L0 l6 σ4) H6 dn' vs' := fun {l6 H6 r v} q => by
        have q5 := p5.trans q.st
        exact ⟨q5.keep A _ eA2 (nA lp.rel), Reps.keep q5.kp q5.lv _ _ rd2⟩
      split at e3
      · cases e3
      · rename_i l4 e5
        refine ⟨_, l3, true, l4, p5.rel, e5, fun H5 q5 => ?_⟩
        refine iteT ?_
        split at e3
        · cases e3
        · rename_i r l5 e6
          split at e3
          · cases e3
          · rename_i d' e7
            split at e3
            · cases e3
            · rename_i es' l6 e8
              cases e3
              refine ⟨_, l4, r, l5, q5.rel, e6, fun y H6 q6 => ?_⟩
              have q7 := q5.trans q6
              obtain ⟨k1, k2⟩ := kept q7
              obtain ⟨f1, f2⟩ := fin q7
              have hl := k2.length
              refine ⟨vs', k1, big_lt (by simp at lenb; omega), wipeL l5 own, dn' ++ [d'], vs' ++ [y], es', ⟨f1.rel.other hA, fun b o e n nb => by rw [upd_ne nb]; exact f1.keep b o e n nb, f1.own, fun b o e => ?_, f1.pin, f1.fix, f1.fr⟩, upd_same, ?_, e8, by rw [ed]; simp⟩
              · by_cases z : b = A
                · subst z; exact ⟨_, upd_same⟩
                · rw [upd_ne z]; exact f1.there b o e
              · have rr : Reps P (Lv L0 l5 σ4) H6 (dn' ++ [d']) (vs' ++ [y]) := k2.append (Reps.cons (toVal_rep q6.rep e7) Reps.nil)
                refine Reps.keep (fun b o e n => ?_) (fun b z => .inl (f2 b z)) _ _ rr
                rw [upd_ne (fun z => n (.inl (by rw [z]; exact hA)))]; exact e
      · rename_i l4 e5
        refine ⟨_, l3, false, l4, p5.rel, e5, fun H5 q5 => ?_⟩
        refine iteF ?_
        obtain ⟨k1, k2⟩ := kept q5
        obtain ⟨f1, f2⟩ := fin q5
        exact ⟨wipeL l4 own, dn', vs', rest, f1, k1, Reps.weak f2 k2, e3, ed⟩
  · have hx : i = items.length := by omega
    subst hx
    rw [List.drop_length] at e3
    cases e3
    rw [List.append_nil] at ed
    subst ed
    exact .inl ⟨ok2.2 (Nat.le_refl _), k H1 H2 vs' p1 lp eA2 rd2⟩
theorem lc2_read {gi gi1 : Loc → Option (List D × Loc)} {p p' : Pat} {gc gc1 : Loc → Option (Bool × Loc)} {ge g : Loc → Option (R × Loc)} {own own1 : List Nat} (hp : ∀ i ∈ pslots p, i ∈ own) (hp1 : ∀ i ∈ pslots p', i ∈ own1) (hs : ∀ i ∈ own1, i ∈ own)
    (hg : ∀ loc r loc', g loc = some (r, loc') → ∃ items l1 ds l2, gi loc = some (items, l1) ∧ (∀ i ∈ own, freeD l1 i = true) ∧ items.length ≤ big ∧ ds.length ≤ big ∧ lc2Run own p gc own1 gi1 p' gc1 ge items (wipeL l1 own) = some (ds, l2) ∧ r = .new ds ∧ loc' = back l1 l2 own)
    {Q : VK} (h : tE P g σ H Q) : tLc2 (tI P gi) (tG P p) (tT P gc) (tI P gi1) (tG P p') (tT P gc1) (tE P ge) own own1 σ H Q := by
  obtain ⟨L0, loc, r, loc', R, e, k⟩ := h
  obtain ⟨items, l1, ds, lf, e1, hf, hbig, hbds, e2, rfl, rfl⟩ := hg _ _ _ e
  refine ⟨L0, loc, items, l1, R, e1, fun J H1 p1 ok A hA => ?_⟩
  have sA : Same H1 (upd H1 A (.lst [])) := same_upd hA
  have RA : Rel P (fun b => L0 b ∨ b = A) l1 σ (upd H1 A (.lst [])) := by
    refine p1.rel.grow sA (fun b z => ?_) fun b z => ?_
    · rcases z with z | rfl
      · exact .inl z
      · exact .inr hA
    · rcases z with z | rfl
      · obtain ⟨o, e⟩ := p1.rel.l0 b z; exact ⟨o, sA _ _ e⟩
      · exact ⟨_, upd_same⟩
  have Rw := RA.wiped (vs := own) hf
  have ow := own_wipe (σ := σ) hf
  have len1 : l1.length = σ.length := p1.rel.len
  have frw : ∀ i ∈ own, freeD (wipeL l1 own) i = true := fun i hi => by
    unfold freeD
    rw [wipeL_in hi (freeD_spec (hf i hi)).1]
  have nA1 : ¬ Lv L0 l1 σ A := fun z => by obtain ⟨o, e⟩ := p1.rel.lv z; rw [hA] at e; cases e
  refine ⟨fun i m H2 => m = items.length - i ∧ i ≤ items.length ∧ ∃ l2 dn vs rest, LcP P (fun b => L0 b ∨ b = A) own (wipeL l1 own) (wipe σ own) (upd H1 A (.lst [])) A l2 H2 ∧ H2 A = some (.lst vs) ∧
      Reps P (Lv (fun b => L0 b ∨ b = A) l2 (wipe σ own)) H2 dn vs ∧ lc2Run own p gc own1 gi1 p' gc1 ge (items.drop i) l2 = some (rest, lf) ∧ ds = dn ++ rest,
    ⟨_, rfl, Nat.zero_le _, wipeL l1 own, [], [], ds, ⟨Rw, fun _ _ e _ _ => e, fun _ z => z, fun _ o e => ⟨o, e⟩, fun _ ds e => ⟨ds, e⟩, fun _ _ _ e _ => e, frw⟩, upd_same, Reps.nil, by rw [List.drop_zero]; exact e2, rfl⟩, ?_⟩
  rintro i m H2 ⟨rfl, hi, l2, dn, vs, rest, lp, eA, rd, e3, ed⟩
  -- from the heap ahead of the new list
  have kp1 : ∀ c o, H1 c = some o → ¬ OwnAt l1 σ c → H2 c = some o := fun c o e n => by
    have hc : c ≠ A := fun z => by rw [z, hA] at e; cases e
    exact lp.keep c o (sA _ _ e) (fun z => n ((ow c).mp z)) hc
  have th1 : ∀ c o, H1 c = some o → ∃ o', H2 c = some o' := fun c o e => lp.there c o (sA _ _ e)
  have ownC : ∀ c, OwnAt l2 (wipe σ own) c → OwnAt l1 σ c := fun c z => (ow c).mp (lp.own c z)
  have ok2 := ok H2 (fun c o e n => kp1 c o e fun z => n (.inr z)) i
  have lvl : ∀ b, Lv (fun b => L0 b ∨ b = A) l2 (wipe σ own) b → Lv L0 l1 σ b ∨ H1 b = none := fun b z => by
    rcases z with (z | rfl) | z
    · exact .inl (.inl z)
    · exact .inr hA
    · exact .inl (.inr (ownC b z))
  by_cases hlt : i < items.length
  · obtain ⟨go, yld⟩ := ok2.1 hlt
    refine .inr ⟨go, fun H' => ∃ l' dn' vs' rest', LcP P (fun b => L0 b ∨ b = A) own (wipeL l1 own) (wipe σ own) (upd H1 A (.lst [])) A l' H' ∧ H' A = some (.lst vs') ∧
      Reps P (Lv (fun b => L0 b ∨ b = A) l' (wipe σ own)) H' dn' vs' ∧ lc2Run own p gc own1 gi1 p' gc1 ge (items.drop (i + 1)) l' = some (rest', lf) ∧ ds = dn' ++ rest', fun H' q => ⟨_, by omega, rfl, hlt, q⟩, fun x H3 y => ?_⟩
    obtain ⟨sm, d, edd, rp⟩ := yld x H3 y
    have hd : items.drop i = d :: items.drop (i + 1) := by
      have := List.drop_eq_getElem_cons hlt
      rw [List.getElem?_eq_getElem hlt] at edd
      cases edd
      exact this
    rw [hd] at e3
    simp only [lc2Run] at e3
    split at e3
    · cases e3
    · rename_i l3 e4
      have g3 := StPost.grew lp.rel sm
      obtain ⟨bl, bo, bf⟩ := bind_slots e4
      refine ⟨_, l2, d, l3, g3.rel, rp _ lvl (fun b z => lp.rel.lv z), e4, fun σ4 p4 hl4 ho4 => ?_⟩
      have p5 := g3.trans p4
      have ew : wipe σ4 own = wipe σ own := (wipe_eq hl4 fun i hi => ho4 i fun z => hi (hp i z)).trans wipe_wipe
      refine ⟨ew, ?_⟩
      have own4 : ∀ b, OwnAt l3 σ4 b → OwnAt l2 (wipe σ own) b := fun b z => by
        rcases p4.own b z with y | y
        · exact y
        · obtain ⟨o, e⟩ := p4.rel.lv (.inr z)
          rw [y] at e; cases e
      -- a step's end, from the state ahead of it
      have fin : ∀ {l6 : Loc} {H6 : Hp} {r : MP.R} {v : V}, EvPost P (fun b => L0 b ∨ b = A) l3 σ4 H3 l6 r v H6 →
          LcP P (fun b => L0 b ∨ b = A) own (wipeL l1 own) (wipe σ own) (upd H1 A (.lst [])) A (wipeL l6 own) H6 ∧ (∀ b, Lv (fun b => L0 b ∨ b = A) (wipeL l6 own) (wipe σ own) b → Lv (fun b => L0 b ∨ b = A) l6 σ4 b) := fun {l6 H6 r v} q => by
        have hf6 : ∀ j ∈ own, freeD l6 j = true := fun j hj => q.frD (bf j (lp.fr j hj))
        have R6 := q.rel.wiped (vs := own) hf6
        rw [ew] at R6
        have ow6 := own_wipe (loc := l6) (σ := σ4) hf6
        rw [ew] at ow6
        have q5 := p5.trans q.st
        refine ⟨⟨R6, fun b o e n nb => ?_, fun b z => ?_, fun b o e => ?_, fun j es e => ?_, fun j s hj e ns => ?_, fun j hj => ?_⟩, fun b z => z.imp id (ow6 b).mp⟩
        · exact q5.keep b o (lp.keep b o e n nb) fun z => n (lp.own b z)
        · exact lp.own b (own4 b (q.own b ((ow6 b).mp z)))
        · obtain ⟨o', e'⟩ := lp.there b o e
          exact q5.there b o' e'
        · obtain ⟨es', e'⟩ := lp.pin j es e
          obtain ⟨es2, e2', _⟩ := q5.pin j es' e'
          have hj : j ∉ own := fun z => (freeD_spec (hf6 j z)).2.1 _ _ e2'
          exact ⟨es2, by rw [wipeL_out hj]; exact e2'⟩
        · rw [wipeL_out hj]
          refine q.fix j s ?_ ns
          rw [bo j fun z => hj (hp j z)]
          exact lp.fix j s hj e ns
        · unfold freeD
          rw [wipeL_in hj (freeD_spec (hf6 j hj)).1]
      -- the new list's items so far, behind a step
      have kept : ∀ {l6 : Loc} {H6 : Hp} {r : MP.R} {v : V}, EvPost P (fun b => L0 b ∨ b = A) l3 σ4 H3 l6 r v H6 → H6 A = some (.lst vs) ∧ Reps P (Lv (fun b => L0 b ∨ b = A) l6 σ4) H6 dn vs := fun {l6 H6 r v} q => by
        have q5 := p5.trans q.st
        refine ⟨q5.keep A _ eA fun z => ?_, Reps.keep q5.kp q5.lv _ _ rd⟩
        obtain ⟨i', b', es', f1, f2⟩ := z
        obtain ⟨a, ws, g1, g2, g3, _⟩ := lp.rel.own _ _ _ f1
        rw [f2] at g1; cases g1
        exact g3 (.inr rfl)
      split at e3
      · cases e3
      · rename_i l4 e5
        refine ⟨_, l3, true, l4, p5.rel, e5, fun H5 q5 => ?_⟩
        refine iteT ?_
        split at e3
        · cases e3
        · rename_i items1 l5 e6
          split at e3
          · rename_i hc1
            simp only [Bool.and_eq_true, List.all_eq_true, decide_eq_true_eq] at hc1
            split at e3
            · cases e3
            · rename_i es l6 e7
              split at e3
              · cases e3
              · rename_i es' l7 e8
                cases e3
                obtain ⟨k1, k2⟩ := kept q5
                have hdl := congrArg List.length ed
                rw [List.length_append, List.length_append] at hdl
                refine lc_inner (L0 := fun b => L0 b ∨ b = A) (A := A) hp1 (.inr rfl) q5.rel k1 k2 e6 hc1.1 hc1.2 e7 (by omega) fun Ha H' vs' pa lq eA' rd' => ?_
                have q6 := q5.trans pa
                have hf6 : ∀ j ∈ own, freeD l6 j = true := fun j hj => lq.frD (q6.frD (bf j (lp.fr j hj)))
                have R6 := lq.rel.wiped (vs := own) hf6
                have ww : wipe (wipe σ4 own1) own = wipe σ own := by
                  rw [← ew]
                  refine wipe_eq (wipe_length σ4 own1) fun i hi => wipe_out' fun z => hi (hs i z)
                rw [ww] at R6
                have ow5 := own_wipe (loc := l5) (σ := σ4) (vs := own1) hc1.1
                have ow6 := own_wipe (loc := l6) (σ := wipe σ4 own1) hf6
                rw [ww] at ow6
                have q7 := p5.trans q6.st
                refine ⟨wipeL l6 own, dn ++ es, vs', es', ⟨R6, fun b o e n nb => ?_, fun b z => ?_, fun b o e => ?_, fun j es e => ?_, fun j s hj e ns => ?_, fun j hj => ?_⟩, eA', Reps.weak (fun b z => z.imp id (ow6 b).mp) rd', e8, by rw [ed, List.append_assoc]⟩
                · refine lq.keep b o (q7.keep b o (lp.keep b o e n nb) fun z => n (lp.own b z)) (fun z => n (lp.own b (own4 b (q6.own b ((ow5 b).mp z))))) nb
                · exact lp.own b (own4 b (q6.own b ((ow5 b).mp (lq.own b ((ow6 b).mp z)))))
                · obtain ⟨o', e'⟩ := lp.there b o e
                  obtain ⟨o2, e2'⟩ := q7.there b o' e'
                  exact lq.there b o2 e2'
                · obtain ⟨es1, e1'⟩ := lp.pin j es e
                  obtain ⟨es2, e2', _⟩ := q7.pin j es1 e1'
                  have hj5 : j ∉ own1 := fun z => (freeD_spec (hc1.1 j z)).2.1 _ _ e2'
                  obtain ⟨es3, e3'⟩ := lq.pin j es2 (by rw [wipeL_out hj5]; exact e2')
                  have hj : j ∉ own := fun z => (freeD_spec (hf6 j z)).2.1 _ _ e3'
                  exact ⟨es3, by rw [wipeL_out hj]; exact e3'⟩
                · rw [wipeL_out hj]
                  have hj1 : j ∉ own1 := fun z => hj (hs j z)
                  refine lq.fix j s hj1 ?_ ns
                  rw [wipeL_out hj1]
                  refine q6.fix j s ?_ ns
                  rw [bo j fun z => hj (hp j z)]
                  exact lp.fix j s hj e ns
                · unfold freeD
                  rw [wipeL_in hj (freeD_spec (hf6 j hj)).1]
          · cases e3
      · rename_i l4 e5
        refine ⟨_, l3, false, l4, p5.rel, e5, fun H5 q5 => ?_⟩
        refine iteF ?_
        obtain ⟨k1, k2⟩ := kept q5
        obtain ⟨f1, f2⟩ := fin q5
        exact ⟨wipeL l4 own, dn, vs, rest, f1, k1, Reps.weak f2 k2, e3, ed⟩
  · have hx : i = items.length := by omega
    subst hx
    rw [List.drop_length] at e3
    cases e3
    rw [List.append_nil] at ed
    subst ed
    have lenf : lf.length = l1.length := by have := lp.rel.len; rw [wipe_length] at this; omega
    have lb : ∀ {i : Nat} {s : Slot}, (back l1 lf own)[i]? = some s → (∀ b ds, s ≠ .own b ds) ∨ (i ∉ own ∧ lf[i]? = some s ∧ (wipe σ own)[i]? = σ[i]?) := fun {i s} e => by
      by_cases h : i ∈ own
      · have hl : i < l1.length := (freeD_spec (hf i h)).1
        rw [back_in lenf h hl] at e
        exact .inl fun b ds z => (freeD_spec (hf i h)).2.1 b ds (by rw [e, z])
      · rw [back_out h] at e
        exact .inr ⟨h, e, wipe_out' h⟩
    have ob : ∀ c, OwnAt (back l1 lf own) σ c → OwnAt lf (wipe σ own) c := fun c ⟨i, b, ds, f1, f2⟩ => by
      rcases lb f1 with z | ⟨z1, z2, z3⟩
      · exact absurd rfl (z b ds)
      · exact ⟨i, b, ds, z2, by rw [z3]; exact f2⟩
    have lvb : ∀ c, Lv (fun b => L0 b ∨ b = A) (back l1 lf own) σ c → Lv (fun b => L0 b ∨ b = A) lf (wipe σ own) c := fun c z => z.imp id (ob c)
    have Rb : Rel P (fun b => L0 b ∨ b = A) (back l1 lf own) σ H2 := by
      refine ⟨by rw [back_len]; omega, lp.rel.l0, fun i d e => ?_, fun i b ds e => ?_, fun i j b c ds es a f1 f2 f3 f4 => ?_, fun i ns e => ?_⟩
      · by_cases h : i ∈ own
        · have hl : i < l1.length := (freeD_spec (hf i h)).1
          rw [back_in lenf h hl] at e
          obtain ⟨v, g1, r⟩ := p1.rel.dat i d e
          exact ⟨v, g1, Rep.keep (fun c o e n => kp1 c o e fun z => n (.inr z)) (fun c z => lvl c (lvb c z)) d v r⟩
        · rw [back_out h] at e
          obtain ⟨v, g1, r⟩ := lp.rel.dat i d e
          exact ⟨v, by rw [← wipe_out' h]; exact g1, Rep.weak lvb r⟩
      · rcases lb e with z | ⟨z1, z2, z3⟩
        · exact absurd rfl (z b ds)
        · obtain ⟨a, ws, g1, g2, g3, g4⟩ := lp.rel.own i b ds z2
          exact ⟨a, ws, by rw [← z3]; exact g1, g2, g3, Reps.weak lvb g4⟩
      · rcases lb f1 with z | ⟨z1, z2, z3⟩
        · exact absurd rfl (z _ _)
        rcases lb f2 with z | ⟨y1, y2, y3⟩
        · exact absurd rfl (z _ _)
        exact lp.rel.inj _ _ _ _ _ _ _ z2 y2 (by rw [z3]; exact f3) (by rw [y3]; exact f4)
      · by_cases h : i ∈ own
        · have hl : i < l1.length := (freeD_spec (hf i h)).1
          rw [back_in lenf h hl] at e
          exact absurd e ((freeD_spec (hf i h)).2.2 ns)
        · rw [back_out h] at e
          obtain ⟨a, g1, h1⟩ := lp.rel.scr i ns e
          exact ⟨a, by rw [← wipe_out' h]; exact g1, h1.keep (fun _ _ z _ => z) fun b z => .inl (lvb b z)⟩
    refine .inl ⟨ok2.2 (Nat.le_refl _), k _ _ (p1.trans ⟨Rb.less fun b z => .inl z, kp1, fun c z => ownC c (ob c z), ⟨A, vs, rfl, eA, fun z => ?_, ?_, Rb⟩, th1, fun _ c _ e => by cases e; exact hA, fun j es e => ?_, fun j s e ns => ?_⟩)⟩
    · rcases z with z | z
      · exact nA1 (.inl z)
      · exact nA1 (.inr (ownC A (ob A z)))
    · refine Reps.weak (fun c z => ?_) rd
      rcases z with z | rfl
      · exact lvb c (z.imp .inl id)
      · exact .inl (.inr rfl)
    · have hj : j ∉ own := fun z => (freeD_spec (hf j z)).2.1 _ _ e
      obtain ⟨es', e'⟩ := lp.pin j es (by rw [wipeL_out hj]; exact e)
      exact ⟨es', by rw [back_out hj]; exact e'⟩
    · by_cases hj : j ∈ own
      · rw [back_in lenf hj (freeD_spec (hf j hj)).1]; exact e
      · rw [back_out hj]
        exact lp.fix j s hj (by rw [wipeL_out hj]; exact e) ns
end MP

namespace MP
open PySem PySem.Spec PyProof.Rows L2
/-! data without a list in it: more live lists do not touch it (a part of the way to borrowing) -/
variable {P : RP} {L L' : Addr → Prop} {H : Hp}
mutual
theorem Rep.ext (l : ∀ c, L' c → L c ∨ ∃ ws, H c = some (.lst ws)) : ∀ (d : D) (v : V), noLst d = true → Rep P L H d v → Rep P L' H d v
  | .non, _, _, h => by unfold Rep at h ⊢; exact h
  | .bl _, _, _, h => by unfold Rep at h ⊢; exact h
  | .int _, _, _, h => by unfold Rep at h ⊢; exact h
  | .str _, _, _, h => by unfold Rep at h ⊢; exact h
  | .lst _, _, n, _ => by simp [noLst] at n
  | .ins c fs, v, n, h => by
    unfold Rep at h ⊢
    obtain ⟨a, dx, vs, e, t, nL, hl, r⟩ := h
    refine ⟨a, dx, vs, e, t, fun z => ?_, hl, Reps.ext l fs vs (by simpa [noLst] using n) r⟩
    rcases l a z with z | ⟨ws, z⟩
    · exact nL z
    · rw [t] at z; cases z
  | .tup ds, v, n, h => by
    unfold Rep at h ⊢
    obtain ⟨a, vs, e, t, r⟩ := h
    refine ⟨a, vs, e, ?_, Reps.ext l ds vs (by simpa [noLst] using n) r⟩
    rcases t with ⟨t1, t2⟩ | t
    · refine .inl ⟨t1, fun z => ?_⟩
      rcases l a z with z | ⟨ws, z⟩
      · exact t2 z
      · rw [t1] at z; cases z
    · exact .inr t
theorem Reps.ext (l : ∀ c, L' c → L c ∨ ∃ ws, H c = some (.lst ws)) : ∀ (ds : List D) (vs : List V), noLsts ds = true → Reps P L H ds vs → Reps P L' H ds vs
  | [], _, _, h => by unfold Reps at h ⊢; exact h
  | d :: ds, vs, n, h => by
    have n' : noLst d = true ∧ noLsts ds = true := by simpa [noLsts] using n
    unfold Reps at h ⊢
    obtain ⟨v, r, e, h1, h2⟩ := h
    exact ⟨v, r, e, Rep.ext l d v n'.1 h1, Reps.ext l ds r n'.2 h2⟩
end

/-- the looks ahead of a thaw -/
def thawOk (i : Nat) (loc l2 : Loc) : Prop := ∀ j, j ≠ i → (∀ b es, l2[j]? = some (.own b es) → noLsts es = true) ∧ (∀ d, l2[j]? = some (.dat d) → loc[j]? = some (.dat d) ∨ noLst d = true) ∧ ∀ ns, l2[j]? = some (.scr ns) → loc[j]? = some (.scr ns)
theorem thaw_rel {L0 M0 : Addr → Prop} {loc l2 : Loc} {σ : Sg} {H H' : Hp} {i : Nat} {a : Addr} {ds : List D} {vs : List V} (R : Rel P L0 loc σ H) (R2 : Rel P M0 l2 σ H') (hi : i < l2.length) (ha : σ[i]? = some (some (.ref a))) (h1 : H' a = some (.lst vs)) (nM : ¬ M0 a) (nO : ¬ OwnAt l2 σ a)
    (rd : Reps P (Lv M0 l2 σ) H' ds vs) (nl : noLsts ds = true) (ok : thawOk i loc l2) (kp : ∀ b o, H b = some o → ¬ Lv L0 loc σ b → H' b = some o) (hl : ∀ b, Lv M0 (l2.set i (.own false ds)) σ b → Lv L0 loc σ b ∨ H b = none) : Rel P M0 (l2.set i (.own false ds)) σ H' := by
  have own : ∀ b, OwnAt (l2.set i (.own false ds)) σ b → OwnAt l2 σ b ∨ b = a := fun b ⟨j, b', es, e1, e2⟩ => by
    rcases getset e1 with ⟨rfl, _, _⟩ | ⟨_, e1⟩
    · rw [ha] at e2; cases e2; exact .inr rfl
    · exact .inl ⟨j, b', es, e1, e2⟩
  have lx : ∀ c, Lv M0 (l2.set i (.own false ds)) σ c → Lv M0 l2 σ c ∨ ∃ ws, H' c = some (.lst ws) := fun c z => by
    rcases z with z | z
    · exact .inl (.inl z)
    · rcases own c z with z | z
      · exact .inl (.inr z)
      · subst z; exact .inr ⟨_, h1⟩
  refine ⟨by rw [List.length_set]; exact R2.len, R2.l0, fun j d e => ?_, fun j b es e => ?_, fun j k b c es fs w e1 e2 e3 e4 => ?_, fun j ns e => ?_⟩
  · rcases getset e with ⟨_, z, _⟩ | ⟨ne, e⟩
    · cases z
    · rcases (ok j (Ne.symm ne)).2.1 d e with q | q
      · obtain ⟨v, g1, r⟩ := R.dat j d q
        exact ⟨v, g1, Rep.keep kp hl d v r⟩
      · obtain ⟨v, g1, r⟩ := R2.dat j d e
        exact ⟨v, g1, Rep.ext lx d v q r⟩
  · rcases getset e with ⟨rfl, z, _⟩ | ⟨ne, e⟩
    · cases z
      exact ⟨a, vs, ha, h1, nM, Reps.ext lx ds vs nl rd⟩
    · obtain ⟨c, ws, g1, g2, g3, g4⟩ := R2.own j b es e
      exact ⟨c, ws, g1, g2, g3, Reps.ext lx es ws ((ok j (Ne.symm ne)).1 b es e) g4⟩
  · rcases getset e1 with ⟨q1, _, _⟩ | ⟨n1, e1⟩ <;> rcases getset e2 with ⟨q2, _, _⟩ | ⟨n2, e2⟩
    · rw [← q1, ← q2]
    · subst q1
      rw [ha] at e3; cases e3
      exact absurd ⟨k, c, fs, e2, e4⟩ nO
    · subst q2
      rw [ha] at e4; cases e4
      exact absurd ⟨j, b, es, e1, e3⟩ nO
    · exact R2.inj _ _ _ _ _ _ _ e1 e2 e3 e4
  · rcases getset e with ⟨_, z, _⟩ | ⟨ne, e⟩
    · cases z
    · obtain ⟨c, g1, g2⟩ := R.scr j ns ((ok j (Ne.symm ne)).2.2 ns e)
      exact ⟨c, g1, g2.keep kp hl⟩

/-- a list that was handed in as plain data is the caller's own again -/
theorem thaw_post {L0 : Addr → Prop} {loc l2 : Loc} {σ : Sg} {H H' : Hp} {i : Nat} {ds0 ds : List D} {r : R} {v : V} (R : Rel P L0 loc σ H) (p : EvPost P L0 loc σ H l2 r v H') (hi : loc[i]? = some (.own false ds0)) (h2 : l2[i]? = some (.dat (.lst ds))) (nl : noLsts ds = true) (hr : thawR r = true) (ok : thawOk i loc l2) :
    EvPost P L0 loc σ H (l2.set i (.own false ds)) r v H' := by
  obtain ⟨a, vs0, ha, h0, n0, _⟩ := R.own _ _ _ hi
  obtain ⟨v', ha', rp⟩ := p.rel.dat i _ h2
  rw [ha] at ha'; cases ha'
  unfold Rep at rp
  obtain ⟨a', vs, ea, h1, nL, rd⟩ := rp
  cases ea
  have hl2 := lt_of_get h2
  have own : ∀ b, OwnAt (l2.set i (.own false ds)) σ b → OwnAt l2 σ b ∨ b = a := fun b ⟨j, b', es, e1, e2⟩ => by
    rcases getset e1 with ⟨rfl, _, _⟩ | ⟨_, e1⟩
    · rw [ha] at e2; cases e2; exact .inr rfl
    · exact .inl ⟨j, b', es, e1, e2⟩
  have own0 : ∀ b, OwnAt (l2.set i (.own false ds)) σ b → OwnAt loc σ b := fun b z => by
    rcases own b z with z | z
    · exact p.own b z
    · subst z; exact ⟨i, false, ds0, hi, ha⟩
  have nO : ¬ OwnAt l2 σ a := fun z => nL (.inr z)
  have lx : ∀ {M0 : Addr → Prop} (c), Lv M0 (l2.set i (.own false ds)) σ c → Lv M0 l2 σ c ∨ ∃ ws, H' c = some (.lst ws) := fun {M0} c z => by
    rcases z with z | z
    · exact .inl (.inl z)
    · rcases own c z with z | z
      · exact .inl (.inr z)
      · subst z; exact .inr ⟨_, h1⟩
  have rel := thaw_rel R p.rel hl2 ha h1 n0 nO rd nl ok p.kp (fun b z => .inl (z.imp id (own0 b)))
  refine ⟨rel, p.keep, own0, ?_, p.there, p.fresh, fun j es e => ?_, fun j s e ns => ?_⟩
  · cases r with
    | ref k => cases hr
    | val d => exact Rep.ext lx d v hr p.rep
    | new es =>
      obtain ⟨c, ws, rfl, g1, g2, g3, g4⟩ := p.rep
      have hc := p.fresh es c rfl rfl
      have ca : c ≠ a := fun z => by rw [z, h0] at hc; cases hc
      have lxe : ∀ b, (Lv L0 (l2.set i (.own false ds)) σ b ∨ b = c) → (Lv L0 l2 σ b ∨ b = c) ∨ ∃ ws, H' b = some (.lst ws) := fun b z => by
        rcases z with z | z
        · exact (lx b z).imp .inl id
        · exact .inl (.inr z)
      refine ⟨c, ws, rfl, g1, fun z => ?_, Reps.ext lxe es ws hr g3, ?_⟩
      · rcases z with z | z
        · exact g2 (.inl z)
        · rcases own c z with z | z
          · exact g2 (.inr z)
          · exact ca z
      · refine thaw_rel R g4 hl2 ha h1 (fun z => z.elim n0 fun q => ca q.symm) nO (Reps.ext (fun b z => ?_) ds vs nl rd) nl ok p.kp fun b z => ?_
        · rcases z with (z | z) | z
          · exact .inl (.inl z)
          · subst z; exact .inr ⟨_, g1⟩
          · exact .inl (.inr z)
        · rcases z with (z | z) | z
          · exact .inl (.inl z)
          · subst z; exact .inr hc
          · exact .inl (.inr (own0 b z))
  · obtain ⟨es', e'⟩ := p.pin j es e
    have ne : i ≠ j := fun z => by subst z; rw [hi] at e; cases e
    exact ⟨es', by rw [List.getElem?_set_ne ne]; exact e'⟩
  · have ne : i ≠ j := fun z => by subst z; rw [hi] at e; cases e; exact ns _ _ rfl
    rw [List.getElem?_set_ne ne]
    exact p.fix j s e ns
theorem thawB_spec {i : Nat} : ∀ {k : Nat} {a b : Loc}, thawB i k a b = true → ∀ (j : Nat) (t : Slot), b[j]? = some t → k + j ≠ i → ∃ s, a[j]? = some s ∧ slotOk s t = true
  | k, a, [], h, j, t, e, _ => by simp at e
  | k, [], t0 :: b, h, j, t, e, _ => by simp [thawB] at h
  | k, s :: a, t0 :: b, h, j, t, e, n => by
    rw [thawB] at h
    simp only [Bool.and_eq_true, Bool.or_eq_true, beq_iff_eq] at h
    cases j with
    | zero =>
      simp at e; subst e
      exact ⟨s, rfl, h.1.resolve_left (by omega)⟩
    | succ j =>
      obtain ⟨s', e1, e2⟩ := thawB_spec h.2 j t (by simpa using e) (by omega)
      exact ⟨s', by simpa using e1, e2⟩
theorem thaw_ok {L0 : Addr → Prop} {loc l2 : Loc} {σ : Sg} {H H' : Hp} {i : Nat} {r : R} {v : V} (p : EvPost P L0 loc σ H l2 r v H') (h : thawB i 0 loc l2 = true) : thawOk i loc l2 := fun j ne => by
  refine ⟨fun b es e => ?_, fun d e => ?_, fun ns e => ?_⟩
  · obtain ⟨s, e1, e2⟩ := thawB_spec h j _ e (by omega)
    exact e2
  · obtain ⟨s, e1, e2⟩ := thawB_spec h j _ e (by omega)
    cases s with
    | dat d' =>
      have := p.fix j _ e1 (fun _ _ z => by cases z)
      rw [e] at this; cases this
      exact .inl e1
    | none => exact .inr e2
    | own b es => exact .inr e2
    | scr ns => exact .inr e2
    | hid => exact .inr e2
  · obtain ⟨s, e1, e2⟩ := thawB_spec h j _ e (by omega)
    cases s with
    | scr ns' =>
      have := p.fix j _ e1 (fun _ _ z => by cases z)
      rw [e] at this; cases this
      exact e1
    | none => cases e2
    | own b es => cases e2
    | dat d => cases e2
    | hid => cases e2
theorem e_thaw {i : Nat} {ga g : Loc → Option (R × Loc)} {σ : Sg} {Q : VK} (hg : ∀ loc r loc', g loc = some (r, loc') → ∃ l2 ds0 ds, ga loc = some (r, l2) ∧ loc[i]? = some (.own false ds0) ∧ l2[i]? = some (.dat (.lst ds)) ∧ noLsts ds = true ∧ thawR r = true ∧ thawB i 0 loc l2 = true ∧ loc' = l2.set i (.own false ds)) (h : tE P g σ H Q) : tE P ga σ H Q := by
  obtain ⟨L0, loc, r, loc', R, e, k⟩ := h
  obtain ⟨l2, ds0, ds, h1, h2, h3, h4, h5, h6, rfl⟩ := hg _ _ _ e
  exact ⟨L0, loc, r, l2, R, h1, fun v H' p => k v H' (thaw_post R p h2 h3 h4 h5 (thaw_ok p h6))⟩
end MP

namespace MP
open PySem PySem.Spec PyProof.Rows L2
variable {P : RP} {L L' : Addr → Prop} {H H' : Hp} {L0 : Addr → Prop} {loc loc' : Loc} {σ σ' : Sg}

/-! ### leaves -/
theorem e_c {d : D} {v : V} (hd : ∀ L H, Rep P L H d v) {g : Loc → Option (R × Loc)} (hg : ∀ loc r loc', g loc = some (r, loc') → r = .val d ∧ loc' = loc) {Q : VK} (h : tE P g σ H Q) : tC v σ H Q := by
  obtain ⟨L0, loc, r, loc', R, e, k⟩ := h
  obtain ⟨rfl, rfl⟩ := hg _ _ _ e
  exact k v H (.refl R (hd _ _))
theorem e_v {i : Nat} {g : Loc → Option (R × Loc)} (hg : ∀ loc r loc', g loc = some (r, loc') → ∃ d, loc[i]? = some (.dat d) ∧ r = .val d ∧ loc' = loc) {Q : VK} (h : tE P g σ H Q) : tVar i σ H Q := by
  obtain ⟨L0, loc, r, loc', R, e, k⟩ := h
  obtain ⟨d, h1, rfl, rfl⟩ := hg _ _ _ e
  obtain ⟨v, e1, rp⟩ := R.dat i d h1
  exact ⟨v, e1, k v H (.refl R rp)⟩
theorem e_r {i : Nat} {g : Loc → Option (R × Loc)} (hg : ∀ loc r loc', g loc = some (r, loc') → (((∃ b ds, loc[i]? = some (.own b ds)) ∨ ∃ ns, loc[i]? = some (.scr ns)) ∧ r = .ref i ∧ loc' = loc) ∨ ∃ d, loc[i]? = some (.dat d) ∧ r = .val d ∧ loc' = loc) {Q : VK} (h : tE P g σ H Q) : tVar i σ H Q := by
  obtain ⟨L0, loc, r, loc', R, e, k⟩ := h
  rcases hg _ _ _ e with ⟨h1, rfl, rfl⟩ | ⟨d, h1, rfl, rfl⟩
  rcases h1 with ⟨b, ds, h1⟩ | ⟨ns, h1⟩
  · obtain ⟨a, vs, e1, _⟩ := R.own i b ds h1
    exact ⟨_, e1, k _ H (.reflR R e1)⟩
  · obtain ⟨a, e1, _⟩ := R.scr i ns h1
    exact ⟨_, e1, k _ H (.reflR R e1)⟩
  · obtain ⟨v, e1, rp⟩ := R.dat i d h1
    exact ⟨v, e1, k v H (.refl R rp)⟩
theorem e_fz {i : Nat} {g : Loc → Option (R × Loc)} (hg : ∀ loc r loc', g loc = some (r, loc') → (∃ ds, loc[i]? = some (.own false ds) ∧ r = .val (.lst ds) ∧ loc' = loc.set i (.dat (.lst ds))) ∨ ∃ d, loc[i]? = some (.dat d) ∧ r = .val d ∧ loc' = loc) {Q : VK} (h : tE P g σ H Q) : tVar i σ H Q := by
  obtain ⟨L0, loc, r, loc', R, e, k⟩ := h
  rcases hg _ _ _ e with ⟨ds, h1, rfl, rfl⟩ | ⟨d, h1, rfl, rfl⟩
  · obtain ⟨v, e1, p⟩ := fz_post R h1
    exact ⟨v, e1, k v H p⟩
  · obtain ⟨v, e1, rp⟩ := R.dat i d h1
    exact ⟨v, e1, k v H (.refl R rp)⟩
theorem e_tup {gs : Loc → Option (List R × Loc)} {g : Loc → Option (R × Loc)} (hg : ∀ loc r loc', g loc = some (r, loc') → ∃ rs ds, gs loc = some (rs, loc') ∧ rs.mapM toVal = some ds ∧ ds.length ≤ big ∧ r = .val (.tup ds)) {Q : VK} (h : tE P g σ H Q) : tTup (tA P gs) σ H Q := by
  obtain ⟨L0, loc, r, loc', R, e, k⟩ := h
  obtain ⟨rs, ds, h1, h2, h3, rfl⟩ := hg _ _ _ e
  refine ⟨L0, loc, rs, loc', R, h1, fun vs H1 p1 rr => ?_⟩
  have rp := rr.toVals h2
  refine ⟨big_line (by rw [← rp.length]; exact h3), fun p hp => k _ _ (p1.trans (EvPost.op p1.rel (.tup (fun b z => p1.rel.lv z) hp rp)))⟩
theorem e_lst {gs : Loc → Option (List R × Loc)} {g : Loc → Option (R × Loc)} (hg : ∀ loc r loc', g loc = some (r, loc') → ∃ rs ds, gs loc = some (rs, loc') ∧ rs.mapM toVal = some ds ∧ ds.length ≤ big ∧ r = .new ds) {Q : VK} (h : tE P g σ H Q) : tLst (tA P gs) σ H Q := by
  obtain ⟨L0, loc, r, loc', R, e, k⟩ := h
  obtain ⟨rs, ds, h1, h2, h3, rfl⟩ := hg _ _ _ e
  refine ⟨L0, loc, rs, loc', R, h1, fun vs H1 p1 rr => ?_⟩
  have rp := rr.toVals h2
  refine ⟨big_line (by rw [← rp.length]; exact h3), fun p hp => k _ _ (p1.trans (EvPost.op p1.rel (.lst hp rp)))⟩
/-! list(range(..)) -/
theorem rng_reps {L : Addr → Prop} : ∀ (n : Nat) (lo : Int), Reps P L H (rngL lo n) ((List.range n).map fun i : Nat => V.int (lo + (i : Int)))
  | 0, _ => Reps.nil
  | n + 1, lo => by
    rw [rngL, List.range_succ_eq_map, List.map_cons, List.map_map]
    refine Reps.cons ?_ ?_
    · show Rep P L H (.int lo) (.int (lo + ((0 : Nat) : Int)))
      unfold Rep
      simp
    · have := rng_reps (L := L) n (lo + 1)
      have e : (List.range n).map ((fun i : Nat => V.int (lo + (i : Int))) ∘ Nat.succ) = (List.range n).map fun i : Nat => V.int (lo + 1 + (i : Int)) := by
        apply List.map_congr_left
        intro i _
        simp only [Function.comp_apply]
        congr 1
        omega
      rw [e]; exact this
theorem rng_len : ∀ (n : Nat) (lo : Int), (rngL lo n).length = n
  | 0, _ => rfl
  | n + 1, lo => by rw [rngL, List.length_cons, rng_len n]
theorem rg_small {i j : Int} (h1 : small i = true) (h2 : small j = true) (h3 : (j - i).toNat ≤ big) : RgOk i j := by
  unfold small at h1 h2
  simp only [Bool.and_eq_true, decide_eq_true_eq] at h1 h2
  have hb : big ≤ 2 ^ 24 := by decide
  exact ⟨h1.1, h1.2, h2.1, h2.2, Nat.le_trans h3 hb⟩
theorem e_lrng1 {ga g : Loc → Option (R × Loc)} (hg : ∀ loc r loc', g loc = some (r, loc') → ∃ n, ga loc = some (.val (.int n), loc') ∧ small n = true ∧ n.toNat ≤ big ∧ r = .new (rngL 0 n.toNat)) {Q : VK} (h : tE P g σ H Q) : tLstRg (tRg1 (tE P ga)) σ H Q := by
  obtain ⟨L0, loc, r, loc', R, e, k⟩ := h
  obtain ⟨n, h1, h2, h3, rfl⟩ := hg _ _ _ e
  refine ⟨L0, loc, _, loc', R, h1, fun x H1 p1 => ?_⟩
  have hx : x = .int n := int_of (L := Lv L0 loc' σ) p1.rep
  refine ⟨n, hx, rg_small (by decide) h2 (by rw [Int.sub_zero]; exact h3), fun q hq => k _ _ (p1.trans (EvPost.op p1.rel (.lst hq ?_)))⟩
  unfold rgV
  rw [Int.sub_zero]
  exact rng_reps _ _
theorem e_lrng2 {ga gb g : Loc → Option (R × Loc)} (hg : ∀ loc r loc', g loc = some (r, loc') → ∃ m l1 n, ga loc = some (.val (.int m), l1) ∧ gb l1 = some (.val (.int n), loc') ∧ small m = true ∧ small n = true ∧ (n - m).toNat ≤ big ∧ r = .new (rngL m (n - m).toNat)) {Q : VK} (h : tE P g σ H Q) : tLstRg (tRg2 (tE P ga) (tE P gb)) σ H Q := by
  obtain ⟨L0, loc, r, loc', R, e, k⟩ := h
  obtain ⟨m, l1, n, h1, h1', h2, h2', h3, rfl⟩ := hg _ _ _ e
  refine ⟨L0, loc, _, l1, R, h1, fun x H1 p1 => ⟨L0, l1, _, loc', p1.rel, h1', fun y H2 p2 => ?_⟩⟩
  have hx : x = .int m := int_of (L := Lv L0 l1 σ) p1.rep
  have hy : y = .int n := int_of (L := Lv L0 loc' σ) p2.rep
  exact ⟨m, n, hx, hy, rg_small h2 h2' h3, fun q hq => k _ _ (p1.trans (p2.trans (EvPost.op p2.rel (.lst hq (rng_reps _ _)))))⟩
theorem seqInts_spec {K : PySem.W.Frag} {L : Addr → Prop} (hK : P.K = K) {x : D} {v : V} {ns : List Int} (h : seqInts x = some ns) (r : RepW P L H x v) : ∃ a, v = .ref a ∧ (SqT K H a (ns.map V.int) ∨ SqL K H a (ns.map V.int)) := by
  cases x <;> first | (exfalso; revert h; simp [seqInts]; done) | skip
  · obtain ⟨a, vs, rfl, t, rr⟩ := tup_of r
    obtain rfl := ints_spec (show ints? _ = some ns from h)
    obtain rfl := rr.ints
    exact ⟨a, rfl, .inl (hK ▸ t.sq)⟩
  · obtain ⟨a, vs, rfl, t, rr⟩ := r
    obtain rfl := ints_spec (show ints? _ = some ns from h)
    obtain rfl := rr.ints
    exact ⟨a, rfl, .inr (SqL.of t)⟩
theorem e_mx {K : PySem.W.Frag} (hK : P.K = K) {mx : Bool} {ga g : Loc → Option (R × Loc)} {gd : Loc → Option (List R × Loc)}
    (hg : ∀ loc r loc', g loc = some (r, loc') → ∃ ra l1 rd x y ns, ga loc = some (ra, l1) ∧ gd l1 = some ([sett rd], loc') ∧ res loc' (sett ra) = some x ∧ toVal rd = some y ∧ seqInts x = some ns ∧ (ns = [] → r = .val y) ∧ ∀ n ms, ns = n :: ms → r = .val (.int (mxI mx n ms)))
    {Q : VK} (h : tE P g σ H Q) : tCKw (rMx K mx) (tCons (tE P ga) tNil) (tA P gd) σ H Q := by
  obtain ⟨L0, loc, r, loc', R, e, k⟩ := h
  obtain ⟨ra, l1, rd, x, y, ns, h1, h2, h3, h4, h5, h6, h7⟩ := hg _ _ _ e
  refine ⟨L0, loc, ra, l1, R, h1, fun v H1 p1 => ⟨L0, l1, [sett rd], loc', p1.rel, h2, fun zs H2 p2 rr => ?_⟩⟩
  obtain ⟨z, w, rfl, rz, rw'⟩ := rr
  have hw : w = [] := rw'
  subst hw
  have ss : sett (sett ra) = sett ra := by cases ra <;> rfl
  have rv : RepR P L0 loc' σ H2 (sett ra) v := by
    have := p1.rep.sett.after p2
    first | exact this | (rw [ss] at this; exact this)
  obtain ⟨a, rfl, hs⟩ := seqInts_spec hK h5 (res_w p2.rel rv h3)
  have pp := p1.blank.trans p2
  have rz' : Rep P (Lv L0 loc' σ) H2 y z := by
    have e2 : sett (sett rd) = sett rd := by cases rd <;> rfl
    rw [e2, tval_sett h4] at rz
    exact rz
  refine ⟨a, z, ns, rfl, rfl, hs, fun e0 => ?_, fun n ms e0 => ?_⟩
  · have := h6 e0
    subst this
    exact k z H2 ⟨pp.rel, pp.keep, pp.own, rz', pp.there, (fun _ _ e => nomatch e), pp.pin, pp.fix⟩
  · have := h7 n ms e0
    subst this
    exact k _ H2 ⟨pp.rel, pp.keep, pp.own, (rep_int : Rep P (Lv L0 loc' σ) H2 (.int (mxI mx n ms)) _), pp.there, (fun _ _ e => nomatch e), pp.pin, pp.fix⟩
/-- one argument -/
theorem one_arg {ga : Loc → Option (R × Loc)} {Q : List V → Hp → Prop} (h : tE P ga σ H fun x H1 => Q [x] H1) : tCons (tE P ga) tNil σ H Q := h

/-! ### truth and tests -/
theorem t_of {ga : Loc → Option (R × Loc)} {g : Loc → Option (Bool × Loc)} {K : PySem.W.Frag} (hK : P.K = K) (hg : ∀ loc k loc', g loc = some (k, loc') → ∃ r d, ga loc = some (r, loc') ∧ res loc' r = some d ∧ truth d = some k) {Q : Bool → Hp → Prop} (h : tT P g σ H Q) :
    tE P ga σ H fun x H1 => ∃ k, TruV K x H1 k ∧ Q k H1 := by
  obtain ⟨L0, loc, b, loc', R, e, k⟩ := h
  obtain ⟨r, d, h1, h2, h3⟩ := hg _ _ _ e
  have hC : ∀ {X : Cx}, X.K = K → ∀ {x : V} {H1 : Hp}, RepW P (Lv L0 loc' σ) H1 d x → TruV K x H1 b := fun {X} hX {x H1} q => hX ▸ truth_V (X := X) (hK.trans hX.symm) q h3
  refine ⟨L0, loc, r, loc', R, h1, fun x H1 p1 => ⟨b, ?_, k H1 p1.blank⟩⟩
  have q := res_w p1.rel p1.rep h2
  revert q
  intro q
  cases d <;> simp only [truth, reduceCtorEq, Option.some.injEq] at h3
  · rw [non_of q]; exact h3.symm
  · rw [bl_of q]; exact h3.symm
  · rw [int_of q]; exact h3.symm
  · obtain ⟨a, vs, rfl, t, rr⟩ := tup_of q
    refine .inr (.inl ⟨vs, hK ▸ t.sq, ?_⟩)
    rw [← h3]
    have := rr.length
    cases vs <;> cases ‹List D› <;> simp_all
  · obtain ⟨a, vs, rfl, t, rr⟩ := q
    refine .inl ⟨vs, SqL.of t, ?_⟩
    rw [← h3]
    have := rr.length
    cases vs <;> cases ‹List D› <;> simp_all
/-- the same of a value's reading, going on by the answer -/
theorem v_of {ga : Loc → Option (R × Loc)} {K : PySem.W.Frag} (hK : P.K = K) {L0 : Addr → Prop} {loc l1 : Loc} {r : R} {d : D} {b : Bool} {Q : V → Bool → Hp → Prop} (R : Rel P L0 loc σ H) (h1 : ga loc = some (r, l1)) (h2 : res l1 r = some d) (h3 : truth d = some b)
    (k : ∀ x H1, EvPost P L0 loc σ H l1 r x H1 → Q x b H1) : tE P ga σ H fun x H1 => ∃ k, TruV K x H1 k ∧ Q x k H1 := by
  refine ⟨L0, loc, r, l1, R, h1, fun x H1 p1 => ⟨b, ?_, k x H1 p1⟩⟩
  have q := res_w p1.rel p1.rep h2
  cases d <;> simp only [truth, reduceCtorEq, Option.some.injEq] at h3
  · rw [non_of q]; exact h3.symm
  · rw [bl_of q]; exact h3.symm
  · rw [int_of q]; exact h3.symm
  · obtain ⟨a, vs, rfl, t, rr⟩ := tup_of q
    refine .inr (.inl ⟨vs, hK ▸ t.sq, ?_⟩)
    rw [← h3]
    have := rr.length
    cases vs <;> cases ‹List D› <;> simp_all
  · obtain ⟨a, vs, rfl, t, rr⟩ := q
    refine .inl ⟨vs, SqL.of t, ?_⟩
    rw [← h3]
    have := rr.length
    cases vs <;> cases ‹List D› <;> simp_all
theorem EvPost.settled {r : R} {v : V} (p : EvPost P L0 loc σ H loc' r v H') : EvPost P L0 loc σ H loc' (sett r) v H' :=
  ⟨p.rel, p.keep, p.own, p.rep.sett, p.there, (fun ds c e => by cases r <;> cases e), p.pin, p.fix⟩
theorem e_and {ga gb g : Loc → Option (R × Loc)} {K : PySem.W.Frag} (hK : P.K = K)
    (hg : ∀ loc r loc', g loc = some (r, loc') → ∃ ra l1 d, ga loc = some (ra, l1) ∧ res l1 ra = some d ∧ ((truth d = some true ∧ gb l1 = some (r, loc')) ∨ (truth d = some false ∧ r = sett ra ∧ loc' = l1))) {Q : VK} (h : tE P g σ H Q) : tAndT K (tE P ga) (tE P gb) σ H Q := by
  obtain ⟨L0, loc, r, loc', R, e, k⟩ := h
  obtain ⟨ra, l1, d, h1, h2, h3⟩ := hg _ _ _ e
  rcases h3 with ⟨h3, h4⟩ | ⟨h3, rfl, rfl⟩
  · exact v_of (Q := fun x b H1 => if b = true then tE P gb σ H1 Q else Q x H1) hK R h1 h2 h3 fun x H1 p1 => iteT ⟨L0, l1, r, loc', p1.rel, h4, fun v H2 p2 => k v H2 (p1.trans p2)⟩
  · exact v_of (Q := fun x b H1 => if b = true then tE P gb σ H1 Q else Q x H1) hK R h1 h2 h3 fun x H1 p1 => iteF (k x H1 p1.settled)
theorem e_or {ga gb g : Loc → Option (R × Loc)} {K : PySem.W.Frag} (hK : P.K = K)
    (hg : ∀ loc r loc', g loc = some (r, loc') → ∃ ra l1 d, ga loc = some (ra, l1) ∧ res l1 ra = some d ∧ ((truth d = some false ∧ gb l1 = some (r, loc')) ∨ (truth d = some true ∧ r = sett ra ∧ loc' = l1))) {Q : VK} (h : tE P g σ H Q) : tOrT K (tE P ga) (tE P gb) σ H Q := by
  obtain ⟨L0, loc, r, loc', R, e, k⟩ := h
  obtain ⟨ra, l1, d, h1, h2, h3⟩ := hg _ _ _ e
  rcases h3 with ⟨h3, h4⟩ | ⟨h3, rfl, rfl⟩
  · exact v_of (Q := fun x b H1 => if b = true then Q x H1 else tE P gb σ H1 Q) hK R h1 h2 h3 fun x H1 p1 => iteF ⟨L0, l1, r, loc', p1.rel, h4, fun v H2 p2 => k v H2 (p1.trans p2)⟩
  · exact v_of (Q := fun x b H1 => if b = true then Q x H1 else tE P gb σ H1 Q) hK R h1 h2 h3 fun x H1 p1 => iteT (k x H1 p1.settled)
theorem e_not {ga g : Loc → Option (R × Loc)} {K : PySem.W.Frag} (hK : P.K = K)
    (hg : ∀ loc r loc', g loc = some (r, loc') → ∃ ra d b, ga loc = some (ra, loc') ∧ res loc' ra = some d ∧ truth d = some b ∧ r = .val (.bl (!b))) {Q : VK} (h : tE P g σ H Q) : tNotT K (tE P ga) σ H Q := by
  obtain ⟨L0, loc, r, loc', R, e, k⟩ := h
  obtain ⟨ra, d, b, h1, h2, h3, rfl⟩ := hg _ _ _ e
  exact v_of (Q := fun x b H1 => Q (.bl (!b)) H1) hK R h1 h2 h3 fun x H1 p1 => k _ H1 (p1.trans (EvPost.refl p1.rel (by unfold RepR Rep; rfl)))
theorem e_ite {gc : Loc → Option (Bool × Loc)} {ga gb g : Loc → Option (R × Loc)}
    (hg : ∀ loc r loc', g loc = some (r, loc') → ∃ b l1, gc loc = some (b, l1) ∧ (if b = true then ga l1 else gb l1) = some (r, loc')) {Q : VK} (h : tE P g σ H Q) : tIf (tT P gc) (tE P ga) (tE P gb) σ H Q := by
  obtain ⟨L0, loc, r, loc', R, e, k⟩ := h
  obtain ⟨b, l1, h1, h2⟩ := hg _ _ _ e
  refine ⟨L0, loc, b, l1, R, h1, fun H1 p1 => ?_⟩
  cases b with
  | true => exact ⟨L0, l1, r, loc', p1.rel, h2, fun v H2 p2 => k v H2 (p1.trans p2)⟩
  | false => exact ⟨L0, l1, r, loc', p1.rel, h2, fun v H2 p2 => k v H2 (p1.trans p2)⟩
theorem t_and {ga gb g : Loc → Option (Bool × Loc)} (hg : ∀ loc k loc', g loc = some (k, loc') → ∃ b l1, ga loc = some (b, l1) ∧ ((b = true ∧ gb l1 = some (k, loc')) ∨ (b = false ∧ k = false ∧ loc' = l1))) {Q : Bool → Hp → Prop} (h : tT P g σ H Q) : tAnd (tT P ga) (tT P gb) σ H Q := by
  obtain ⟨L0, loc, b, loc', R, e, k⟩ := h
  obtain ⟨c, l1, h1, h2⟩ := hg _ _ _ e
  refine ⟨L0, loc, c, l1, R, h1, fun H1 p1 => ?_⟩
  rcases h2 with ⟨rfl, h2⟩ | ⟨rfl, rfl, rfl⟩
  · exact iteT ⟨L0, l1, b, loc', p1.rel, h2, fun H2 p2 => k H2 (p1.trans p2)⟩
  · exact iteF (k H1 p1)
theorem t_or {ga gb g : Loc → Option (Bool × Loc)} (hg : ∀ loc k loc', g loc = some (k, loc') → ∃ b l1, ga loc = some (b, l1) ∧ ((b = false ∧ gb l1 = some (k, loc')) ∨ (b = true ∧ k = true ∧ loc' = l1))) {Q : Bool → Hp → Prop} (h : tT P g σ H Q) : tOr (tT P ga) (tT P gb) σ H Q := by
  obtain ⟨L0, loc, b, loc', R, e, k⟩ := h
  obtain ⟨c, l1, h1, h2⟩ := hg _ _ _ e
  refine ⟨L0, loc, c, l1, R, h1, fun H1 p1 => ?_⟩
  rcases h2 with ⟨rfl, h2⟩ | ⟨rfl, rfl, rfl⟩
  · exact iteF ⟨L0, l1, b, loc', p1.rel, h2, fun H2 p2 => k H2 (p1.trans p2)⟩
  · exact iteT (k H1 p1)
theorem t_not {ga g : Loc → Option (Bool × Loc)} (hg : ∀ loc k loc', g loc = some (k, loc') → ∃ b, ga loc = some (b, loc') ∧ k = !b) {Q : Bool → Hp → Prop} (h : tT P g σ H Q) : tNot (tT P ga) σ H Q := by
  obtain ⟨L0, loc, b, loc', R, e, k⟩ := h
  obtain ⟨c, h1, rfl⟩ := hg _ _ _ e
  exact ⟨L0, loc, c, loc', R, h1, fun H1 p1 => k H1 p1⟩
/-- a comparison as a test -/
theorem t_bl {ga : Loc → Option (R × Loc)} {g : Loc → Option (Bool × Loc)} (hg : ∀ loc k loc', g loc = some (k, loc') → ga loc = some (.val (.bl k), loc')) {Q : Bool → Hp → Prop} (h : tT P g σ H Q) : tE P ga σ H fun x H1 => ∃ k, x = .bl k ∧ Q k H1 := by
  obtain ⟨L0, loc, b, loc', R, e, k⟩ := h
  have h1 := hg _ _ _ e
  refine ⟨L0, loc, _, loc', R, h1, fun x H1 p1 => ⟨b, ?_, k H1 p1.blank⟩⟩
  have : Rep P (Lv L0 loc' σ) H1 (.bl b) x := p1.rep
  unfold Rep at this; exact this
/-- a < b < c -/
theorem e_ch {f f' : D → D → Option R} {ga gb gc g : Loc → Option (R × Loc)}
    (hg : ∀ loc r loc', g loc = some (r, loc') → ∃ ra l1 rb l2 d e, ga loc = some (ra, l1) ∧ gb l1 = some (rb, l2) ∧ res l2 (sett ra) = some d ∧ res l2 rb = some e ∧
      ((f d e = some (.val (.bl true)) ∧ ∃ rc e' f1 k, gc l2 = some (rc, loc') ∧ res loc' (sett rb) = some e' ∧ res loc' rc = some f1 ∧ f' e' f1 = some (.val (.bl k)) ∧ r = .val (.bl k)) ∨ (f d e = some (.val (.bl false)) ∧ r = .val (.bl false) ∧ loc' = l2)))
    {Q : VK} (h : tE P g σ H Q) : tE P ga σ H fun x H1 => tE P gb σ H1 fun y H2 => rD2 P f x y H2 fun z H3 => ∃ k, z = .bl k ∧ if k = true then tE P gc σ H3 fun z' H4 => rD2 P f' y z' H4 Q else Q (.bl false) H3 := by
  obtain ⟨L0, loc, r, loc', R, e, k⟩ := h
  obtain ⟨ra, l1, rb, l2, d, e', h1, h2, h3, h4, h5⟩ := hg _ _ _ e
  refine ⟨L0, loc, ra, l1, R, h1, fun x H1 p1 => ⟨L0, l1, rb, l2, p1.rel, h2, fun y H2 p2 => ?_⟩⟩
  have w1 := res_w p2.rel (p1.rep.sett.after p2) h3
  have w2 := res_w p2.rel p2.rep h4
  rcases h5 with ⟨h5, rc, e2, f1, k2, h6, h7, h8, h9, rfl⟩ | ⟨h5, rfl, rfl⟩
  · refine ⟨Lv L0 l2 σ, d, e', _, fun b z => p2.rel.lv z, w1, w2, h5, fun v H3 ⟨s3, hv⟩ => ?_⟩
    unfold Rep at hv
    refine ⟨true, hv, iteT ?_⟩
    have p3 : EvPost P L0 l2 σ H2 l2 (.val (.bl true)) v H3 := EvPost.op p2.rel ⟨s3, by unfold Rep; exact hv⟩
    refine ⟨L0, l2, rc, loc', p3.rel, h6, fun z' H4 p4 => ?_⟩
    have y4 := ((p2.rep.sett).after p3).after p4
    refine ⟨Lv L0 loc' σ, e2, f1, _, fun b z => p4.rel.lv z, res_w p4.rel y4 h7, res_w p4.rel p4.rep h8, h9, fun v5 H5 hp => ?_⟩
    exact k v5 H5 ((((p1.trans p2).trans p3).trans p4).trans (EvPost.op p4.rel hp))
  · refine ⟨_, d, e', _, fun b z => p2.rel.lv z, w1, w2, h5, fun v H3 hp => ?_⟩
    obtain ⟨s3, hv⟩ := hp
    have hv' := hv
    unfold Rep at hv
    refine ⟨false, hv, iteF ?_⟩
    subst hv
    exact k _ H3 ((p1.trans p2).trans (EvPost.op p2.rel ⟨s3, hv'⟩))

/-! ### slices -/
def tO (P : RP) (g : Loc → Option (Option Int × Loc)) : TO := fun σ H Q => ∃ L0 loc o loc', Rel P L0 loc σ H ∧ g loc = some (o, loc') ∧ ∀ H', EvPost P L0 loc σ H loc' (.val .non) .non H' → Q o H'
theorem o_none {g : Loc → Option (Option Int × Loc)} (hg : ∀ loc o loc', g loc = some (o, loc') → o = none ∧ loc' = loc) {Q : Option Int → Hp → Prop} (h : tO P g σ H Q) : tNoPart σ H Q := by
  obtain ⟨L0, loc, o, loc', R, e, k⟩ := h
  obtain ⟨rfl, rfl⟩ := hg _ _ _ e
  exact k H (.none0 R)
theorem o_some {ge : Loc → Option (R × Loc)} {g : Loc → Option (Option Int × Loc)} (hg : ∀ loc o loc', g loc = some (o, loc') → ∃ i, ge loc = some (.val (.int i), loc') ∧ o = some i) {Q : Option Int → Hp → Prop} (h : tO P g σ H Q) : tPart (tE P ge) σ H Q := by
  obtain ⟨L0, loc, o, loc', R, e, k⟩ := h
  obtain ⟨i, h1, rfl⟩ := hg _ _ _ e
  refine ⟨L0, loc, _, loc', R, h1, fun x H1 p1 => ⟨i, ?_, k H1 p1.blank⟩⟩
  have : Rep P (Lv L0 loc' σ) H1 (.int i) x := p1.rep
  unfold Rep at this; exact this
theorem e_sl {ga g : Loc → Option (R × Loc)} {gl gh : Loc → Option (Option Int × Loc)}
    (hg : ∀ loc r loc', g loc = some (r, loc') → ∃ ra l1 x l2 y d, ga loc = some (ra, l1) ∧ gl l1 = some (x, l2) ∧ gh l2 = some (y, loc') ∧ res loc' (sett ra) = some d ∧ apSl d x y = some r)
    {Q : VK} (h : tE P g σ H Q) : tSl (rSlD P) (tE P ga) (tO P gl) (tO P gh) σ H Q := by
  obtain ⟨L0, loc, r, loc', R, e, k⟩ := h
  obtain ⟨ra, l1, x, l2, y, d, h1, h2, h3, h4, h5⟩ := hg _ _ _ e
  refine ⟨L0, loc, ra, l1, R, h1, fun v H1 p1 => ⟨L0, l1, x, l2, p1.rel, h2, fun H2 p2 => ⟨L0, l2, y, loc', p2.rel, h3, fun H3 p3 => ?_⟩⟩⟩
  refine ⟨Lv L0 loc' σ, d, r, fun b z => p3.rel.lv z, res_w p3.rel ((p1.rep.sett.after p2).after p3) h4, h5, fun w H4 hp => ?_⟩
  exact k w H4 (((p1.trans p2).trans p3).trans (EvPost.op p3.rel hp))

/-! ### methods of an own list -/
theorem m_arg {i : Nat} {T : V → List V → Hp → VK → Prop} {ge g : Loc → Option (R × Loc)} {K : PySem.W.Frag}
    (hg : ∀ loc r loc', g loc = some (r, loc') → ∃ b0 ds0 re l1 b ds es d, loc[i]? = some (.own b0 ds0) ∧ ge loc = some (re, l1) ∧ l1[i]? = some (.own b ds) ∧ r = .val d ∧ loc' = l1.set i (.own b es) ∧
      ∀ (L1 : Addr → Prop) (a : Addr) (x : V) (vs : List V) (H1 : Hp) (Q : VK), H1 a = some (.lst vs) → Reps P L1 H1 ds vs → (∀ e, toVal re = some e → Rep P L1 H1 e x) → (∀ ws v, Reps P L1 H1 es ws → Rep P L1 H1 d v → Q v (upd H1 a (.lst ws))) → T (.ref a) [x] H1 Q)
    {Q : VK} (h : tE P g σ H Q) : tBM K "list" T (tVar i) (tCons (tE P ge) tNil) σ H Q := by
  obtain ⟨L0, loc, r, loc', R, e, k⟩ := h
  obtain ⟨b0, ds0, re, l1, b, ds, es, d, h0, h1, h2, rfl, rfl, h3⟩ := hg _ _ _ e
  obtain ⟨a, vs0, e1, e2, _⟩ := R.own i b0 ds0 h0
  refine ⟨.ref a, e1, .inl ⟨rfl, vs0, SqL.of e2⟩, L0, loc, re, l1, R, h1, fun x H1 p1 => ?_⟩
  obtain ⟨a', vs, f1, f2, f3, f4⟩ := p1.rel.own i b ds h2
  rw [e1] at f1; cases f1
  refine h3 _ a x vs H1 Q f2 f4 (fun e he => toVal_rep p1.rep he) fun ws v hw hv => ?_
  exact k v _ (p1.trans (EvPost.mut p1.rel h2 e1 hw (fun d' e => by cases e; exact hv) ⟨d, rfl⟩))
theorem m_no {i : Nat} {T : V → List V → Hp → VK → Prop} {g : Loc → Option (R × Loc)} {K : PySem.W.Frag}
    (hg : ∀ loc r loc', g loc = some (r, loc') → ∃ b ds es d, loc[i]? = some (.own b ds) ∧ r = .val d ∧ loc' = loc.set i (.own b es) ∧
      ∀ (L1 : Addr → Prop) (a : Addr) (vs : List V) (H1 : Hp) (Q : VK), H1 a = some (.lst vs) → Reps P L1 H1 ds vs → (∀ ws v, Reps P L1 H1 es ws → Rep P L1 H1 d v → Q v (upd H1 a (.lst ws))) → T (.ref a) [] H1 Q)
    {Q : VK} (h : tE P g σ H Q) : tBM0 K "list" T (tVar i) σ H Q := by
  obtain ⟨L0, loc, r, loc', R, e, k⟩ := h
  obtain ⟨b, ds, es, d, h0, rfl, rfl, h3⟩ := hg _ _ _ e
  obtain ⟨a, vs, e1, e2, e3, e4⟩ := R.own i b ds h0
  refine ⟨.ref a, e1, .inl ⟨rfl, vs, SqL.of e2⟩, ?_⟩
  refine h3 _ a vs H Q e2 e4 fun ws v hw hv => ?_
  exact k v _ (EvPost.mut R h0 e1 hw (fun d' e => by cases e; exact hv) ⟨d, rfl⟩)
theorem ap_app {L1 : Addr → Prop} {a : Addr} {x : V} {vs : List V} {H1 : Hp} {Q : VK} {ds : List D} {d : D} (h : H1 a = some (.lst vs)) (r : Reps P L1 H1 ds vs) (rx : Rep P L1 H1 d x) (hl : ds.length < big)
    (k : ∀ ws v, Reps P L1 H1 (ds ++ [d]) ws → Rep P L1 H1 .non v → Q v (upd H1 a (.lst ws))) : rAppend (.ref a) [x] H1 Q :=
  ⟨a, vs, x, rfl, rfl, h, big_lt (by rw [← r.length]; exact hl), k _ _ (r.append (Reps.cons rx Reps.nil)) rep_non⟩
theorem ap_ext {L1 : Addr → Prop} {a : Addr} {x : V} {vs : List V} {H1 : Hp} {Q : VK} {ds es : List D} (h : H1 a = some (.lst vs)) (r : Reps P L1 H1 ds vs) (rx : Rep P L1 H1 (.lst es) x) (hl : ds.length + es.length ≤ big)
    (k : ∀ ws v, Reps P L1 H1 (ds ++ es) ws → Rep P L1 H1 .non v → Q v (upd H1 a (.lst ws))) : rExtend (.ref a) [x] H1 Q := by
  unfold Rep at rx
  obtain ⟨b, ws, rfl, hb, _, rb⟩ := rx
  exact ⟨a, b, vs, ws, rfl, rfl, h, hb, big_line (by rw [← r.length, ← rb.length]; exact hl), k _ _ (r.append rb) rep_non⟩
theorem Reps.dropLast {L1 : Addr → Prop} {H1 : Hp} {ds : List D} {vs : List V} (r : Reps P L1 H1 ds vs) : Reps P L1 H1 ds.dropLast vs.dropLast := by
  rw [List.dropLast_eq_take, List.dropLast_eq_take, r.length]
  exact r.take _
theorem ap_pop {L1 : Addr → Prop} {a : Addr} {vs : List V} {H1 : Hp} {Q : VK} {ds : List D} {d : D} (h : H1 a = some (.lst vs)) (r : Reps P L1 H1 ds vs) (hd : ds.getLast? = some d)
    (k : ∀ ws v, Reps P L1 H1 ds.dropLast ws → Rep P L1 H1 d v → Q v (upd H1 a (.lst ws))) : rPop (.ref a) [] H1 Q := by
  rw [List.getLast?_eq_getElem?] at hd
  obtain ⟨v, e, rv⟩ := r.get hd
  rw [r.length] at e
  exact ⟨a, vs, v, rfl, rfl, h, e, k _ _ r.dropLast rv⟩
theorem ap_popAt {L1 : Addr → Prop} {a : Addr} {x : V} {vs : List V} {H1 : Hp} {Q : VK} {ds : List D} {d : D} {n : Int} (h : H1 a = some (.lst vs)) (r : Reps P L1 H1 ds vs) (rx : Rep P L1 H1 (.int n) x) (h0 : 0 ≤ n) (h1 : n < 2 ^ 62) (hd : ds[n.toNat]? = some d)
    (k : ∀ ws v, Reps P L1 H1 (ds.eraseIdx n.toNat) ws → Rep P L1 H1 d v → Q v (upd H1 a (.lst ws))) : rPopAt (.ref a) [x] H1 Q := by
  unfold Rep at rx
  subst rx
  obtain ⟨v, e, rv⟩ := r.get hd
  have hl := lt_of_get e
  refine ⟨a, vs, n, n.toNat, v, rfl, rfl, h, by omega, by omega, ?_, e, k _ _ (r.eraseIdx _) rv⟩
  have hx : ixN vs.length n = some n.toNat := by
    unfold ixN
    rw [if_pos h0, if_pos (by omega)]
  exact (ixN_seq hx).1
theorem ap_clear {L1 : Addr → Prop} {a : Addr} {vs : List V} {H1 : Hp} {Q : VK} (h : H1 a = some (.lst vs)) (k : ∀ ws v, Reps P L1 H1 [] ws → Rep P L1 H1 .non v → Q v (upd H1 a (.lst ws))) : rClear (.ref a) [] H1 Q :=
  ⟨a, vs, rfl, rfl, h, k _ _ Reps.nil rep_non⟩

theorem ap_ins0 {L1 : Addr → Prop} {a : Addr} {x : V} {vs : List V} {H1 : Hp} {Q : VK} {ds : List D} {d : D} (h : H1 a = some (.lst vs)) (r : Reps P L1 H1 ds vs) (rx : Rep P L1 H1 d x) (hl : ds.length < big)
    (k : ∀ ws v, Reps P L1 H1 (d :: ds) ws → Rep P L1 H1 .non v → Q v (upd H1 a (.lst ws))) : (∃ (l : Addr) (xs : List V) (i : Int) (y : V), V.ref a = .ref l ∧ [V.int 0, x] = [.int i, y] ∧ H1 l = some (.lst xs) ∧ xs.length < sizeLine ∧ 0 ≤ i ∧ i < 2 ^ 63 ∧
    Q .non (upd H1 l (.lst (xs.take i.toNat ++ [y] ++ xs.drop i.toNat)))) :=
  ⟨a, vs, 0, x, rfl, rfl, h, big_lt (by rw [← r.length]; exact hl), by decide, by decide, k (x :: vs) _ (Reps.cons rx r) rep_non⟩
/-- a method with 0 ahead of its argument -/
theorem m_arg0 {i : Nat} {T : V → List V → Hp → VK → Prop} {ge g : Loc → Option (R × Loc)} {K : PySem.W.Frag}
    (hg : ∀ loc r loc', g loc = some (r, loc') → ∃ b0 ds0 re l1 b ds es d, loc[i]? = some (.own b0 ds0) ∧ ge loc = some (re, l1) ∧ l1[i]? = some (.own b ds) ∧ r = .val d ∧ loc' = l1.set i (.own b es) ∧
      ∀ (L1 : Addr → Prop) (a : Addr) (x : V) (vs : List V) (H1 : Hp) (Q : VK), H1 a = some (.lst vs) → Reps P L1 H1 ds vs → (∀ e, toVal re = some e → Rep P L1 H1 e x) → (∀ ws v, Reps P L1 H1 es ws → Rep P L1 H1 d v → Q v (upd H1 a (.lst ws))) → T (.ref a) [.int 0, x] H1 Q)
    {Q : VK} (h : tE P g σ H Q) : tBM K "list" T (tVar i) (tCons (tC (.int 0)) (tCons (tE P ge) tNil)) σ H Q := by
  obtain ⟨L0, loc, r, loc', R, e, k⟩ := h
  obtain ⟨b0, ds0, re, l1, b, ds, es, d, h0, h1, h2, rfl, rfl, h3⟩ := hg _ _ _ e
  obtain ⟨a, vs0, e1, e2, _⟩ := R.own i b0 ds0 h0
  refine ⟨.ref a, e1, .inl ⟨rfl, vs0, SqL.of e2⟩, L0, loc, re, l1, R, h1, fun x H1 p1 => ?_⟩
  obtain ⟨a', vs, f1, f2, f3, f4⟩ := p1.rel.own i b ds h2
  rw [e1] at f1; cases f1
  refine h3 _ a x vs H1 Q f2 f4 (fun e he => toVal_rep p1.rep he) fun ws v hw hv => ?_
  exact k v _ (p1.trans (EvPost.mut p1.rel h2 e1 hw (fun d' e => by cases e; exact hv) ⟨d, rfl⟩))
/-! ### methods of a list that is nobody's -/
theorem tmp_mut {L0 : Addr → Prop} {loc : Loc} {σ : Sg} {H : Hp} {a : Addr} {o' : HO} (R : Rel P (fun b => L0 b ∨ b = a) loc σ H) : Rel P L0 loc σ (upd H a o') := by
  have kp : ∀ b o, H b = some o → ¬ Lv (fun b => L0 b ∨ b = a) loc σ b → (upd H a o') b = some o := fun b o e n => by
    rw [upd_ne (fun z => n (.inl (.inr z)))]; exact e
  have lv : ∀ b, Lv L0 loc σ b → Lv (fun b => L0 b ∨ b = a) loc σ b ∨ H b = none := fun b z => .inl (z.imp (fun z => .inl z) id)
  refine ⟨R.len, fun b z => ?_, fun i d e => ?_, fun i b ds e => ?_, R.inj, fun i ns e => ?_⟩
  · by_cases hb : b = a
    · subst hb; exact ⟨_, upd_same⟩
    · obtain ⟨o, ho⟩ := R.l0 b (.inl z)
      exact ⟨o, by rw [upd_ne hb]; exact ho⟩
  · obtain ⟨v, e1, r⟩ := R.dat i d e
    exact ⟨v, e1, Rep.keep kp lv d v r⟩
  · obtain ⟨a', vs, e1, h, n, r⟩ := R.own i b ds e
    exact ⟨a', vs, e1, by rw [upd_ne (fun z => n (.inr z))]; exact h, fun z => n (.inl z), Reps.keep kp lv ds vs r⟩
  · obtain ⟨a', e1, h⟩ := R.scr i ns e
    exact ⟨a', e1, h.keep kp lv⟩
theorem e_dropc {ga g : Loc → Option (R × Loc)} {K : PySem.W.Frag} (hg : ∀ loc r loc', g loc = some (r, loc') → ∃ ds, ga loc = some (.new ds, loc') ∧ r = .val .non) {Q : VK} (h : tE P g σ H Q) : tBM0 K "list" rClear (tE P ga) σ H Q := by
  obtain ⟨L0, loc, r, loc', R, e, k⟩ := h
  obtain ⟨ds, h1, rfl⟩ := hg _ _ _ e
  refine ⟨L0, loc, .new ds, loc', R, h1, fun x H1 p1 => ?_⟩
  have hf := p1.fresh
  obtain ⟨a, vs, rfl, ha, na, rr, rl⟩ := p1.rep
  have hn : H a = none := hf ds a rfl rfl
  refine ⟨.inl ⟨rfl, vs, SqL.of ha⟩, a, vs, rfl, rfl, ha, k _ _ ?_⟩
  exact ⟨tmp_mut rl, fun b o e n => by rw [upd_ne (ne_of_none e hn)]; exact p1.keep b o e n, p1.own, (by unfold RepR Rep; rfl), fun b o e => by
    obtain ⟨o', h⟩ := p1.there b o e
    exact ⟨o', by rw [upd_ne (ne_of_none e hn)]; exact h⟩, (fun _ _ e => nomatch e), p1.pin, p1.fix⟩
theorem e_dropa {ga gb g : Loc → Option (R × Loc)} {K : PySem.W.Frag} (hg : ∀ loc r loc', g loc = some (r, loc') → ∃ ds l1 rb d, ga loc = some (.new ds, l1) ∧ gb l1 = some (rb, loc') ∧ toVal rb = some d ∧ ds.length < big ∧ r = .val .non) {Q : VK} (h : tE P g σ H Q) : tBM K "list" rAppend (tE P ga) (tCons (tE P gb) tNil) σ H Q := by
  obtain ⟨L0, loc, r, loc', R, e, k⟩ := h
  obtain ⟨ds, l1, rb, d, h1, h2, h3, h4, rfl⟩ := hg _ _ _ e
  refine ⟨L0, loc, .new ds, l1, R, h1, fun x H1 p1 => ?_⟩
  have hf := p1.fresh
  obtain ⟨a, vs, rfl, ha, na, rr, rl⟩ := p1.rep
  have hn : H a = none := hf ds a rfl rfl
  refine ⟨.inl ⟨rfl, vs, SqL.of ha⟩, _, l1, rb, loc', rl, h2, fun y H2 p2 => ?_⟩
  have ha2 : H2 a = some (.lst vs) := p2.keep a _ ha fun z => na (.inr z)
  refine ⟨a, vs, y, rfl, rfl, ha2, big_lt (by rw [← rr.length]; exact h4), k _ _ ?_⟩
  exact ⟨tmp_mut p2.rel, fun b o e n => by
    rw [upd_ne (ne_of_none e hn)]
    exact p2.keep b o (p1.keep b o e n) (fun z => n (p1.own b z)), fun b z => p1.own b (p2.own b z), (by unfold RepR Rep; rfl), fun b o e => by
    obtain ⟨o', h⟩ := p1.there b o e
    obtain ⟨o2, h'⟩ := p2.there b o' h
    exact ⟨o2, by rw [upd_ne (ne_of_none e hn)]; exact h'⟩, (fun _ _ e => nomatch e), fun i es e => by
    obtain ⟨es', h⟩ := p1.pin i es e
    exact p2.pin i es' h, fun i s e n => p2.fix i s (p1.fix i s e n) n⟩

/-! ### the script -/
theorem x_len {i : Nat} {g : Loc → Option (R × Loc)} {K : PySem.W.Frag} (hK : P.K = K) (hg : ∀ loc r loc', g loc = some (r, loc') → ∃ ns, loc[i]? = some (.scr ns) ∧ r = .val (.int ns.length) ∧ loc' = loc) {Q : VK} (h : tE P g σ H Q) :
    tVar i σ H fun x H1 => ∃ p ys, [x] = [V.ref p] ∧ (SqL K H1 p ys ∨ SqT K H1 p ys) ∧ Q (.int ys.length) H1 := by
  obtain ⟨L0, loc, r, loc', R, e, k⟩ := h
  obtain ⟨ns, h1, rfl, rfl⟩ := hg _ _ _ e
  obtain ⟨a, e1, e2⟩ := R.scr i ns h1
  refine ⟨_, e1, a, _, rfl, .inl (hK ▸ e2.sq), ?_⟩
  rw [List.length_map]
  exact k _ H (.refl R (by unfold RepR Rep; rfl))
theorem x_ix {i : Nat} {ge g : Loc → Option (R × Loc)} {K : PySem.W.Frag} (hK : P.K = K) (hg : ∀ loc r loc', g loc = some (r, loc') → ∃ ns n m, loc[i]? = some (.scr ns) ∧ ge loc = some (.val (.int n), loc') ∧ 0 ≤ n ∧ ns[n.toNat]? = some m ∧ r = .val (.int m)) {Q : VK} (h : tE P g σ H Q) :
    tOp (rIxL K) (tVar i) (tE P ge) σ H Q := by
  obtain ⟨L0, loc, r, loc', R, e, k⟩ := h
  obtain ⟨ns, n, m, h1, h2, h3, h4, rfl⟩ := hg _ _ _ e
  obtain ⟨a, e1, e2⟩ := R.scr i ns h1
  refine ⟨_, e1, L0, loc, _, loc', R, h2, fun y H1 p1 => ?_⟩
  have hy : Rep P (Lv L0 loc' σ) H1 (.int n) y := p1.rep
  unfold Rep at hy
  have h5 := p1.fix i _ h1 (fun _ _ z => nomatch z)
  obtain ⟨a', f1, f2⟩ := p1.rel.scr i ns h5
  rw [e1] at f1; cases f1
  refine ⟨a, _, n, .int m, rfl, hy, hK ▸ f2.sq, ?_, k _ H1 (p1.trans (EvPost.refl p1.rel (by unfold RepR Rep; rfl)))⟩
  have := atI_nat (xs := ns.map V.int) (j := n.toNat) (v := .int m) (by rw [List.getElem?_map, h4]; rfl)
  rwa [Int.toNat_of_nonneg h3] at this
theorem x_sl {i : Nat} {g : Loc → Option (R × Loc)} {gl gh : Loc → Option (Option Int × Loc)} {K : PySem.W.Frag} (hK : P.K = K)
    (hg : ∀ loc r loc', g loc = some (r, loc') → ∃ ns x l1 y, loc[i]? = some (.scr ns) ∧ gl loc = some (x, l1) ∧ gh l1 = some (y, loc') ∧ r = .new (cutD (ns.map D.int) x y))
    {Q : VK} (h : tE P g σ H Q) : tSl (rSlL K) (tVar i) (tO P gl) (tO P gh) σ H Q := by
  obtain ⟨L0, loc, r, loc', R, e, k⟩ := h
  obtain ⟨ns, x, l1, y, h1, h2, h3, rfl⟩ := hg _ _ _ e
  obtain ⟨a, e1, e2⟩ := R.scr i ns h1
  refine ⟨_, e1, L0, loc, x, l1, R, h2, fun H1 p1 => ⟨L0, l1, y, loc', p1.rel, h3, fun H2 p2 => ?_⟩⟩
  have h5 := (p1.trans p2).fix i _ h1 (fun _ _ z => nomatch z)
  obtain ⟨a', f1, f2⟩ := p2.rel.scr i ns h5
  rw [e1] at f1; cases f1
  exact ⟨a, _, rfl, hK ▸ f2.sq, fun p hp => k _ _ ((p1.trans p2).trans (EvPost.op p2.rel (.lst hp (cutD_V (Reps.of_ints ns) x y))))⟩

/-! ### what is walked -/
theorem rngL_len : ∀ (n : Nat) (lo : Int), (rngL lo n).length = n
  | 0, _ => rfl
  | n + 1, lo => by simp [rngL, rngL_len n]
theorem rngL_get : ∀ (n : Nat) (lo : Int) (i : Nat), i < n → (rngL lo n)[i]? = some (.int (lo + i))
  | 0, _, i, h => absurd h (by omega)
  | n + 1, lo, 0, _ => by simp [rngL]
  | n + 1, lo, i + 1, h => by
    simp only [rngL, List.getElem?_cons_succ]
    rw [rngL_get n (lo + 1) i (by omega)]
    congr 2
    push_cast
    omega
theorem ok_rng {L1 : Addr → Prop} {H1 : Hp} (lo : Int) (n : Nat) : ItOk P L1 H1 (Itr lo n) (rngL lo n) := fun H2 _ i => by
  refine ⟨fun h => ?_, fun h => ?_⟩
  · rw [rngL_len] at h
    refine ⟨h, fun x H3 y => ?_⟩
    obtain ⟨rfl, rfl⟩ := y
    exact ⟨Same.refl _, _, rngL_get n lo i h, fun L2 _ _ => rep_int⟩
  · rw [rngL_len] at h; exact h
theorem ok_lst {L1 : Addr → Prop} {H1 : Hp} {K : PySem.W.Frag} {a : Addr} {vs : List V} {ds : List D} (h1 : H1 a = some (.lst vs)) (n1 : ¬ L1 a) (r : Reps P L1 H1 ds vs) : ItOk P L1 H1 (Itl K a) ds := fun H2 kp i => by
  have h2 := kp _ _ h1 n1
  refine ⟨fun h => ?_, fun h => ?_⟩
  · obtain ⟨v, e, rv⟩ := r.get (List.getElem?_eq_getElem h)
    refine ⟨⟨vs, v, SqL.of h2, e⟩, fun x H3 y => ?_⟩
    obtain ⟨rfl, y⟩ := y
    have ex := y vs (SqL.of h2)
    rw [e] at ex; cases ex
    exact ⟨Same.refl _, _, List.getElem?_eq_getElem h, fun L2 l _ => Rep.keep kp l _ _ rv⟩
  · exact ⟨vs, SqL.of h2, by rw [← r.length]; exact h⟩
theorem ok_tup {L1 : Addr → Prop} {H1 : Hp} {K : PySem.W.Frag} (hK : P.K = K) (hI : ∀ {H2 : Hp} {a : Addr} {xs ys : List V}, SqT K H2 a xs → SqT K H2 a ys → True) {a : Addr} {vs : List V} {ds : List D} (h1 : H1 a = some (.tup vs)) (n1 : ¬ L1 a) (r : Reps P L1 H1 ds vs) : ItOk P L1 H1 (Itt K a) ds := fun H2 kp i => by
  have h2 := kp _ _ h1 n1
  refine ⟨fun h => ?_, fun h => ?_⟩
  · obtain ⟨v, e, rv⟩ := r.get (List.getElem?_eq_getElem h)
    refine ⟨⟨vs, v, SqT.of h2, e⟩, fun x H3 y => ?_⟩
    obtain ⟨rfl, y⟩ := y
    have ex := y vs (SqT.of h2)
    rw [e] at ex; cases ex
    exact ⟨Same.refl _, _, List.getElem?_eq_getElem h, fun L2 l _ => Rep.keep kp l _ _ rv⟩
  · exact ⟨vs, SqT.of h2, by rw [← r.length]; exact h⟩
/-- a tuple, tracked or written -/
theorem ok_tupA {L1 : Addr → Prop} {H1 : Hp} {K : PySem.W.Frag} (hK : P.K = K) {a : Addr} {vs : List V} {ds : List D} (t : TupAt P.K L1 H1 a vs) (r : Reps P L1 H1 ds vs) : ItOk P L1 H1 (Itt K a) ds := fun H2 kp i => by
  have h2 : SqT K H2 a vs := hK ▸ (t.keep (L' := fun _ => False) kp (fun _ z => z.elim)).sq
  refine ⟨fun h => ?_, fun h => ?_⟩
  · obtain ⟨v, e, rv⟩ := r.get (List.getElem?_eq_getElem h)
    refine ⟨⟨vs, v, h2, e⟩, fun x H3 y => ?_⟩
    obtain ⟨rfl, y⟩ := y
    have ex := y vs h2
    rw [e] at ex; cases ex
    exact ⟨Same.refl _, _, List.getElem?_eq_getElem h, fun L2 l _ => Rep.keep kp l _ _ rv⟩
  · exact ⟨vs, h2, by rw [← r.length]; exact h⟩
theorem enumL_len : ∀ (ds : List D) (k : Int), (enumL k ds).length = ds.length
  | [], _ => rfl
  | d :: ds, k => by simp [enumL, enumL_len ds]
theorem enumL_get : ∀ (ds : List D) (k : Int) (i : Nat) (d : D), ds[i]? = some d → (enumL k ds)[i]? = some (.tup [.int (k + i), d])
  | [], _, i, d, h => by simp at h
  | d :: ds, k, 0, d', h => by simp at h; subst h; simp [enumL]
  | d :: ds, k, i + 1, d', h => by
    simp only [enumL, List.getElem?_cons_succ]
    rw [enumL_get ds (k + 1) i d' (by simpa using h)]
    congr 4
    push_cast
    omega
theorem ok_enum {L1 : Addr → Prop} {H1 : Hp} {K : PySem.W.Frag} {a : Addr} {vs : List V} {ds : List D} (h1 : H1 a = some (.lst vs)) (n1 : ¬ L1 a) (r : Reps P L1 H1 ds vs) : ItOk P L1 H1 (Ite K a) (enumL 0 ds) := fun H2 kp i => by
  have h2 := kp _ _ h1 n1
  refine ⟨fun h => ?_, fun h => ?_⟩
  · rw [enumL_len] at h
    obtain ⟨v, e, rv⟩ := r.get (List.getElem?_eq_getElem h)
    refine ⟨⟨vs, v, SqL.of h2, e⟩, fun x H3 y => ?_⟩
    obtain ⟨T, x', rfl, nT, rfl, y⟩ := y
    have ex := y vs (SqL.of h2)
    rw [e] at ex; cases ex
    refine ⟨same_upd nT, _, enumL_get ds 0 i _ (List.getElem?_eq_getElem h), fun L2 l t2 => ?_⟩
    unfold Rep
    refine ⟨T, _, rfl, .inl ⟨upd_same, fun z => ?_⟩, Reps.cons (by unfold Rep; congr 1; omega) (Reps.cons (Rep.same (same_upd nT) (Rep.keep kp l _ _ rv)) Reps.nil)⟩
    obtain ⟨o, eo⟩ := t2 T z
    rw [nT] at eo; cases eo
  · rw [enumL_len] at h
    exact ⟨vs, SqL.of h2, by rw [← r.length]; exact h⟩
theorem zipL_get : ∀ (ds es : List D) (i : Nat), i < (zipL ds es).length → ∃ d e, ds[i]? = some d ∧ es[i]? = some e ∧ (zipL ds es)[i]? = some (.tup [d, e])
  | [], es, i, h => by simp [zipL] at h
  | d :: ds, [], i, h => by simp [zipL] at h
  | d :: ds, e :: es, 0, h => ⟨d, e, by simp, by simp, by simp [zipL]⟩
  | d :: ds, e :: es, i + 1, h => by
    obtain ⟨d', e', h1, h2, h3⟩ := zipL_get ds es i (by simpa [zipL] using h)
    exact ⟨d', e', by simpa using h1, by simpa using h2, by simpa [zipL] using h3⟩
theorem zipL_len : ∀ (ds es : List D), (zipL ds es).length = min ds.length es.length
  | [], es => by simp [zipL]
  | d :: ds, [] => by simp [zipL]
  | d :: ds, e :: es => by simp [zipL, zipL_len ds es]
theorem ok_zip {L1 : Addr → Prop} {H1 : Hp} {K : PySem.W.Frag} {a b : Addr} {vs ws : List V} {ds es : List D} (h1 : H1 a = some (.lst vs)) (n1 : ¬ L1 a) (r : Reps P L1 H1 ds vs) (g1 : H1 b = some (.lst ws)) (m1 : ¬ L1 b) (q : Reps P L1 H1 es ws) : ItOk P L1 H1 (Itz K a b) (zipL ds es) := fun H2 kp i => by
  have h2 := kp _ _ h1 n1
  have g2 := kp _ _ g1 m1
  refine ⟨fun h => ?_, fun h => ?_⟩
  · obtain ⟨d, e, hd, he, hz⟩ := zipL_get ds es i h
    obtain ⟨v, ev, rv⟩ := r.get hd
    obtain ⟨w, ew, rw'⟩ := q.get he
    refine ⟨⟨vs, ws, v, w, SqL.of h2, SqL.of g2, ev, ew⟩, fun x H3 y => ?_⟩
    obtain ⟨T, x', y', rfl, nT, rfl, y1, y2⟩ := y
    have ex := y1 vs (SqL.of h2)
    have ey := y2 ws (SqL.of g2)
    rw [ev] at ex; cases ex
    rw [ew] at ey; cases ey
    refine ⟨same_upd nT, _, hz, fun L2 l t2 => ?_⟩
    unfold Rep
    refine ⟨T, _, rfl, .inl ⟨upd_same, fun z => ?_⟩, Reps.cons (Rep.same (same_upd nT) (Rep.keep kp l _ _ rv)) (Reps.cons (Rep.same (same_upd nT) (Rep.keep kp l _ _ rw')) Reps.nil)⟩
    obtain ⟨o, eo⟩ := t2 T z
    rw [nT] at eo; cases eo
  · rw [zipL_len, r.length, q.length] at h
    exact ⟨vs, ws, SqL.of h2, SqL.of g2, by omega⟩
theorem ok_zipT {L1 : Addr → Prop} {H1 : Hp} {a b : Addr} {vs ws : List V} {ds es : List D} (h1 : TupAt P.K L1 H1 a vs) (r : Reps P L1 H1 ds vs) (g1 : TupAt P.K L1 H1 b ws) (q : Reps P L1 H1 es ws) : ItOk P L1 H1 (RZ.ItzT P.K a b) (zipL ds es) := fun H2 kp i => by
  have h2 : SqT P.K H2 a vs := (TupAt.keep (L' := fun _ => False) kp (fun _ z => z.elim) h1).sq
  have g2 : SqT P.K H2 b ws := (TupAt.keep (L' := fun _ => False) kp (fun _ z => z.elim) g1).sq
  refine ⟨fun h => ?_, fun h => ?_⟩
  · obtain ⟨d, e, hd, he, hz⟩ := zipL_get ds es i h
    obtain ⟨v, ev, rv⟩ := r.get hd
    obtain ⟨w, ew, rw'⟩ := q.get he
    refine ⟨⟨vs, ws, v, w, h2, g2, ev, ew⟩, fun x H3 y => ?_⟩
    obtain ⟨T, x', y', rfl, nT, rfl, y1, y2⟩ := y
    have ex := y1 vs h2
    have ey := y2 ws g2
    rw [ev] at ex; cases ex
    rw [ew] at ey; cases ey
    refine ⟨same_upd nT, _, hz, fun L2 l t2 => ?_⟩
    unfold Rep
    refine ⟨T, _, rfl, .inl ⟨upd_same, fun z => ?_⟩, Reps.cons (Rep.same (same_upd nT) (Rep.keep kp l _ _ rv)) (Reps.cons (Rep.same (same_upd nT) (Rep.keep kp l _ _ rw')) Reps.nil)⟩
    obtain ⟨o, eo⟩ := t2 T z
    rw [nT] at eo; cases eo
  · rw [zipL_len, r.length, q.length] at h
    exact ⟨vs, ws, h2, g2, by omega⟩
theorem i_seq {ga : Loc → Option (R × Loc)} {gi : Loc → Option (List D × Loc)} {K : PySem.W.Frag} (hg : ∀ loc items loc', gi loc = some (items, loc') → ∃ r, ga loc = some (r, loc') ∧ toVal r = some (.lst items)) {R' : It → Hp → Prop} (h : tI P gi σ H R') : iList K (tE P ga) σ H R' := by
  obtain ⟨L0, loc, items, loc', R, e, k⟩ := h
  obtain ⟨r, h1, h2⟩ := hg _ _ _ e
  refine ⟨L0, loc, r, loc', R, h1, fun x H1 p1 => ?_⟩
  have rp := toVal_rep p1.rep h2
  unfold Rep at rp
  obtain ⟨a, vs, rfl, e1, n1, rr⟩ := rp
  exact ⟨a, rfl, ⟨vs, SqL.of e1⟩, k _ _ p1.blank (ok_lst e1 n1 rr)⟩
theorem i_tpl {ga : Loc → Option (R × Loc)} {gi : Loc → Option (List D × Loc)} {K : PySem.W.Frag} (hK : P.K = K) (hg : ∀ loc items loc', gi loc = some (items, loc') → ∃ r, ga loc = some (r, loc') ∧ toVal r = some (.tup items)) {R' : It → Hp → Prop} (h : tI P gi σ H R') : iTup K (tE P ga) σ H R' := by
  obtain ⟨L0, loc, items, loc', R, e, k⟩ := h
  obtain ⟨r, h1, h2⟩ := hg _ _ _ e
  refine ⟨L0, loc, r, loc', R, h1, fun x H1 p1 => ?_⟩
  have rp := toVal_rep p1.rep h2
  unfold Rep at rp
  obtain ⟨a, vs, rfl, t, rr⟩ := rp
  exact ⟨a, rfl, ⟨vs, hK ▸ t.sq⟩, k _ _ p1.blank (ok_tupA hK t rr)⟩
theorem small_spec {n : Int} (h : small n = true) : -(2 ^ 62) ≤ n ∧ n < 2 ^ 62 := by
  unfold small at h
  simpa only [Bool.and_eq_true, decide_eq_true_eq] using h
theorem val_int {v : V} {n : Int} {r : R} (h : RepR P L0 loc σ H r v) (e : r = .val (.int n)) : v = .int n := by
  subst e
  have : Rep P (Lv L0 loc σ) H (.int n) v := h
  unfold Rep at this; exact this
theorem i_rng1 {ga : Loc → Option (R × Loc)} {gi : Loc → Option (List D × Loc)} (hg : ∀ loc items loc', gi loc = some (items, loc') → ∃ n, ga loc = some (.val (.int n), loc') ∧ small n = true ∧ items = rngL 0 n.toNat) {R' : It → Hp → Prop} (h : tI P gi σ H R') : iRng1 (tCons (tE P ga) tNil) σ H R' := by
  obtain ⟨L0, loc, items, loc', R, e, k⟩ := h
  obtain ⟨n, h1, h2, rfl⟩ := hg _ _ _ e
  have hs := small_spec h2
  exact ⟨L0, loc, _, loc', R, h1, fun x H1 p1 => ⟨n, by rw [val_int p1.rep rfl], hs.1, hs.2, k _ _ p1.blank (ok_rng 0 _)⟩⟩
theorem i_rng2 {ga gb : Loc → Option (R × Loc)} {gi : Loc → Option (List D × Loc)} (hg : ∀ loc items loc', gi loc = some (items, loc') → ∃ m l1 n, ga loc = some (.val (.int m), l1) ∧ gb l1 = some (.val (.int n), loc') ∧ small m = true ∧ small n = true ∧ items = rngL m (n - m).toNat) {R' : It → Hp → Prop} (h : tI P gi σ H R') :
    iRng2 (tCons (tE P ga) (tCons (tE P gb) tNil)) σ H R' := by
  obtain ⟨L0, loc, items, loc', R, e, k⟩ := h
  obtain ⟨m, l1, n, h1, h2, h3, h4, rfl⟩ := hg _ _ _ e
  have hs := small_spec h3
  have ht := small_spec h4
  refine ⟨L0, loc, _, l1, R, h1, fun x H1 p1 => ⟨L0, l1, _, loc', p1.rel, h2, fun y H2 p2 => ⟨m, n, by rw [val_int p1.rep rfl, val_int p2.rep rfl], ⟨hs.1, hs.2, ht.1, ht.2⟩, k _ _ (p1.blank.trans p2.blank) (ok_rng m _)⟩⟩⟩
theorem i_enum {ga : Loc → Option (R × Loc)} {gi : Loc → Option (List D × Loc)} {K : PySem.W.Frag} (hg : ∀ loc items loc', gi loc = some (items, loc') → ∃ r ds, ga loc = some (r, loc') ∧ toVal r = some (.lst ds) ∧ items = enumL 0 ds) {R' : It → Hp → Prop} (h : tI P gi σ H R') : iEnum K (tCons (tE P ga) tNil) σ H R' := by
  obtain ⟨L0, loc, items, loc', R, e, k⟩ := h
  obtain ⟨r, ds, h1, h2, rfl⟩ := hg _ _ _ e
  refine ⟨L0, loc, r, loc', R, h1, fun x H1 p1 => ?_⟩
  have rp := toVal_rep p1.rep h2
  unfold Rep at rp
  obtain ⟨a, vs, rfl, e1, n1, rr⟩ := rp
  exact ⟨a, vs, rfl, SqL.of e1, k _ _ p1.blank (ok_enum e1 n1 rr)⟩
theorem i_zip {ga gb : Loc → Option (R × Loc)} {gi : Loc → Option (List D × Loc)} {K : PySem.W.Frag} (hK : P.K = K) (hg : ∀ loc items loc', gi loc = some (items, loc') → ∃ r l1 r' ds es, ga loc = some (r, l1) ∧ gb l1 = some (r', loc') ∧ ((toVal r = some (.lst ds) ∧ toVal r' = some (.lst es)) ∨ (toVal r = some (.tup ds) ∧ toVal r' = some (.tup es))) ∧ items = zipL ds es) {R' : It → Hp → Prop} (h : tI P gi σ H R') :
    RZ.iZipA K (tCons (tE P ga) (tCons (tE P gb) tNil)) σ H R' := by
  obtain ⟨L0, loc, items, loc', R, e, k⟩ := h
  obtain ⟨r, l1, r', ds, es, h1, h2, h34, rfl⟩ := hg _ _ _ e
  refine ⟨L0, loc, r, l1, R, h1, fun x H1 p1 => ⟨L0, l1, r', loc', p1.rel, h2, fun y H2 p2 => ?_⟩⟩
  have rp := (p1.rep.sett).after p2
  rcases h34 with ⟨h3, h4⟩ | ⟨h3, h4⟩
  · rw [tval_sett h3] at rp
    have rq := toVal_rep p2.rep h4
    have rp' : Rep P (Lv L0 loc' σ) H2 (.lst ds) x := rp
    unfold Rep at rp' rq
    obtain ⟨a, vs, rfl, e1, n1, rr⟩ := rp'
    obtain ⟨b, ws, rfl, f1, m1, rs⟩ := rq
    exact ⟨a, b, vs, ws, rfl, .inl ⟨SqL.of e1, SqL.of f1, k _ _ (p1.blank.trans p2.blank) (ok_zip e1 n1 rr f1 m1 rs)⟩⟩
  · rw [tval_sett h3] at rp
    have rq := toVal_rep p2.rep h4
    have rp' : Rep P (Lv L0 loc' σ) H2 (.tup ds) x := rp
    unfold Rep at rp' rq
    obtain ⟨a, vs, rfl, e1, rr⟩ := rp'
    obtain ⟨b, ws, rfl, f1, rs⟩ := rq
    subst hK
    exact ⟨a, b, vs, ws, rfl, .inr ⟨e1.sq, f1.sq, k _ _ (p1.blank.trans p2.blank) (ok_zipT e1 rr f1 rs)⟩⟩
end MP

/-! instances: fields, methods, new ones; chains of four; sums of ranges -/
namespace MP
open PySem PySem.Spec PyProof.Rows L2
variable {P : RP} {L L' : Addr → Prop} {H H' : Hp} {L0 : Addr → Prop} {loc loc' : Loc} {σ σ' : Sg}
theorem ins_of {v : V} {c : Nat} {fs : List D} (h : Rep P L H (.ins c fs) v) : ∃ a dx vs, v = .ref a ∧ H a = some (.ins (P.ca c) dx ((P.fl c).zip vs)) ∧ ¬ L a ∧ vs.length ≤ (P.fl c).length ∧ Reps P L H fs vs := by
  unfold Rep at h; exact h
theorem lookup_zip_none {m : Str} : ∀ {fl : List Str} {vs : List V}, m ∉ fl → (fl.zip vs).lookup m = none
  | [], _, _ => rfl
  | _ :: _, [], _ => rfl
  | f :: fl, v :: vs, h => by
    simp only [List.mem_cons, not_or] at h
    rw [List.zip_cons_cons, List.lookup_cons]
    have : (m == f) = false := by rw [beq_eq_false_iff_ne]; exact h.1
    rw [this]
    exact lookup_zip_none h.2
theorem lookup_zip {f : Str} : ∀ {fl : List Str} {vs : List V} {k : Nat} {v : V}, fl.Nodup → fl[k]? = some f → vs[k]? = some v → (fl.zip vs).lookup f = some v
  | [], _, _, _, _, h, _ => by simp at h
  | _ :: _, [], _, _, _, _, h => by simp at h
  | g :: fl, w :: vs, 0, v, nd, h1, h2 => by
    simp at h1 h2
    subst h1; subst h2
    rw [List.zip_cons_cons, List.lookup_cons]
    simp
  | g :: fl, w :: vs, k + 1, v, nd, h1, h2 => by
    rw [List.nodup_cons] at nd
    have h1 : fl[k]? = some f := by simpa using h1
    have h2 : vs[k]? = some v := by simpa using h2
    have : (f == g) = false := by
      rw [beq_eq_false_iff_ne]
      intro e
      subst e
      exact nd.1 (List.mem_of_getElem? h1)
    rw [List.zip_cons_cons, List.lookup_cons, this]
    exact lookup_zip nd.2 h1 h2
theorem e_fld {K : PySem.W.Frag} {f : Str} {tb : List (Nat × Nat)} {ga g : Loc → Option (R × Loc)}
    (hg : ∀ loc r loc', g loc = some (r, loc') → ∃ c fs k d, ga loc = some (.val (.ins c fs), loc') ∧ tb.lookup c = some k ∧ fs[k]? = some d ∧ r = .val d)
    (hcl : ∀ c k, tb.lookup c = some k → Cls K (P.ca c) ∧ NoAttr K (P.ca c) f ∧ (P.fl c)[k]? = some f ∧ (P.fl c).Nodup)
    {Q : VK} (h : tE P g σ H Q) : tFld K (tE P ga) f σ H Q := by
  obtain ⟨L0, loc, r, loc', R, e, k⟩ := h
  obtain ⟨c, fs, i, d, h1, h2, h3, rfl⟩ := hg _ _ _ e
  obtain ⟨q1, q2, q3, q4⟩ := hcl c i h2
  refine ⟨L0, loc, _, loc', R, h1, fun x H1 p1 => ?_⟩
  obtain ⟨a, dx, vs, rfl, ha, _, _, rr⟩ := ins_of p1.rep
  obtain ⟨v, ev, rv⟩ := rr.get h3
  exact ⟨a, P.ca c, dx, _, v, rfl, ha, q1, q2, lookup_zip q4 q3 ev, k v H1 (p1.trans (EvPost.refl p1.rel rv))⟩
/-- how a class has a method, at a level -/
def MethOk (X : Cx) (P : RP) (C : CallS) (kk : Nat) (c : Nat) (m : Str) (f : Nat) : Prop := ∃ (k : Nat) (fA : Addr) (fd : FuncData) (ps : List Str), k ≤ kk ∧ Meth X.K (P.ca c) m fA ∧
  GFn X.prog X.w X.K X.mg X.base CX0 k fA fd ps (spOf P (C f) ps.length) ∧ Binds X.K fd ps [] ∧ ∀ a r a', C f a = some (r, a') → a.length = ps.length
theorem meth_go {C : CallS} {c f : Nat} {fs : List D} {x : V} {H1 : Hp} {l1 l2 : Loc} {gs : Loc → Option (List R × Loc)} {rs : List R} {a a' : Loc} {r : R} {loc0 : Loc} {H0 : Hp} {Q : VK}
    (p1 : EvPost P L0 loc0 σ H0 l1 (.val (.ins c fs)) x H1) (h2 : gs l1 = some (rs, l2)) (hn : nodupB (refs (R.val (.ins c fs) :: rs)) = true) (ha : argsOf l2 (R.val (.ins c fs) :: rs) = some a) (hC : C f a = some (r, a')) (hr : ∀ i, r ≠ .ref i)
    (hgv : given (R.val (.ins c fs) :: rs) a' l2 = some loc') (ar : Nat) (hl : a.length = ar) (k : ∀ v H', EvPost P L0 loc0 σ H0 loc' r v H' → Q v H') {E : XK} : tA P gs σ H1 fun vs H2 => spOf P (C f) ar (x :: vs) H2 Q E := by
  refine ⟨L0, l1, rs, l2, p1.rel, h2, fun vs H2 p2 rr => ?_⟩
  have rr' : RepRs P L0 l2 σ H2 (R.val (.ins c fs) :: rs) (x :: vs) := ⟨x, vs, rfl, p1.rep.sett.after p2, rr⟩
  refine ⟨?_, Lc L0 l2 σ a (x :: vs), a, r, a', args_rel p2.rel rr' ha hn, hC, hr, fun v H3 p3 => ?_⟩
  · rw [← rr'.length, argsOf_len ha, hl]
  · exact k v H3 ((p1.trans p2).trans (call_post p2.rel rr' ha hn hgv hr p3))
theorem e_meth {X : Cx} {C : CallS} {kk : Nat} {m : Str} {tb : List (Nat × Nat)} {ga g : Loc → Option (R × Loc)} {gs : Loc → Option (List R × Loc)} {t : TA}
    (hg : ∀ loc r loc', g loc = some (r, loc') → ∃ c fs f l1 rs l2 a a', ga loc = some (.val (.ins c fs), l1) ∧ tb.lookup c = some f ∧ gs l1 = some (rs, l2) ∧ nodupB (refs (R.val (.ins c fs) :: rs)) = true ∧ argsOf l2 (R.val (.ins c fs) :: rs) = some a ∧ C f a = some (r, a') ∧ given (R.val (.ins c fs) :: rs) a' l2 = some loc')
    (hC : ∀ j a r a', C j a = some (r, a') → ∀ i, r ≠ .ref i) (hroom : Room kk X.A)
    (hm : ∀ c f, tb.lookup c = some f → Cls X.K (P.ca c) ∧ m ∉ P.fl c ∧ MethOk X P C kk c m f)
    (ht : ∀ (σ : Sg) (H : Hp) (Q : List V → Hp → Prop), tA P gs σ H Q → t σ H Q) {Q : VK} (h : tE P g σ H Q) : tMethG X CX0 m (tE P ga) t σ H Q := by
  obtain ⟨L0, loc, r, loc', R, e, k⟩ := h
  obtain ⟨c, fs, f, l1, rs, l2, a, a', h1, h2, h3, h4, h5, h6, h7⟩ := hg _ _ _ e
  obtain ⟨q1, q2, k', fA, fd, ps, hk, q3, q4, q5, q6⟩ := hm c f h2
  refine ⟨L0, loc, _, l1, R, h1, fun x H1 p1 => ?_⟩
  obtain ⟨b, dx, vs, rfl, hb, _, _, _⟩ := ins_of p1.rep
  refine ⟨b, P.ca c, dx, _, k', fA, fd, ps, _, (fun _ _ _ => False), rfl, hb, lookup_zip_none q2, q1, q3, q4, hroom.mono hk, q5, pass0, ht _ _ _ ?_⟩
  exact meth_go p1 h3 h4 h5 h6 (hC _ _ _ _ h6) h7 _ (q6 _ _ _ h6) k
/-- what an __init__ promises -/
def spI (P : RP) (g : Loc → Option (R × Loc)) (c n : Nat) : Sp := fun vs H Q _ => vs.length = n + 1 ∧ ∃ (x dx : Addr) (ws : List V) (L0 : Addr → Prop) (a : Loc) (ds : List D) (a' : Loc), vs = .ref x :: ws ∧ H x = some (.ins (P.ca c) dx []) ∧ L0 x ∧ Rel P L0 a (ws.map some) H ∧
  g a = some (.val (.ins c ds), a') ∧ ∀ H', (∀ b o, H b = some o → b ≠ x → H' b = some o) → Rep P (fun b => L0 b ∧ b ≠ x) H' (.ins c ds) (.ref x) → Q .non H'
theorem allDat_own {a : Loc} {s : Sg} {b : Addr} (h : allDat a = true) : ¬ OwnAt a s b := fun ⟨i, k, ds, e, _⟩ => by
  have := List.all_eq_true.mp h _ (List.mem_of_getElem? e)
  cases this
theorem allDat_refs : ∀ {rs : List R} {a l : Loc}, argsOf l rs = some a → allDat a = true → refs rs = []
  | [], a, l, h, q => rfl
  | r :: rs, a, l, h, q => by
    unfold argsOf at h
    split at h
    · rename_i s l' h1 h2
      cases h
      unfold allDat at q
      simp only [List.all_cons, Bool.and_eq_true] at q
      have ih := allDat_refs h2 q.2
      cases r with
      | val d => exact ih
      | new d => exact ih
      | ref j =>
        simp only [argOf] at h1
        split at h1 <;> cases h1
        · cases q.1
        · cases q.1
    · cases h
theorem make_go {C : Loc → Option (R × Loc)} {c n : Nat} {rs : List R} {a a' : Loc} {ds : List D} {l1 loc0 : Loc} {H1 H0 : Hp} {vs : List V} {Q : VK} {E : XK} {C' : Addr} (hC' : C' = P.ca c)
    (p1 : EvPost P L0 loc0 σ H0 l1 (.val .non) .non H1) (rr : RepRs P L0 l1 σ H1 rs vs) (ha : argsOf l1 rs = some a) (hd : allDat a = true) (hC : C a = some (.val (.ins c ds), a')) (hl : a.length = n)
    (k : ∀ v H', EvPost P L0 loc0 σ H0 l1 (.val (.ins c ds)) v H' → Q v H') :
    ∀ x dx, H1 x = none → H1 dx = none → dx ≠ x → spI P C c n (.ref x :: (vs ++ [])) (upd (upd H1 dx (.own x)) x (.ins C' dx [])) (fun v H2 => v = .non ∧ Q (.ref x) H2) E := by
  intro x dx hx hdx ne
  subst hC'
  rw [List.append_nil]
  have hn : nodupB (refs rs) = true := by rw [allDat_refs ha hd]; rfl
  have R1 := args_rel p1.rel rr ha hn
  have sm : Same H1 (upd (upd H1 dx (.own x)) x (.ins (P.ca c) dx [])) := fun b o e => by
    rw [upd_ne (ne_of_none e hx), upd_ne (ne_of_none e hdx)]; exact e
  have hxs : (upd (upd H1 dx (.own x)) x (.ins (P.ca c) dx [])) x = some (.ins (P.ca c) dx []) := upd_same
  refine ⟨by rw [List.length_cons, ← rr.length, argsOf_len ha, hl], x, dx, vs, fun b => Lc L0 l1 σ a vs b ∨ b = x, a, ds, a', rfl, hxs, .inr rfl, ?_, hC, fun H' kp rep => ⟨rfl, k _ _ ?_⟩⟩
  · refine R1.grow sm (fun b z => ?_) fun b z => ?_
    · rcases z with z | z
      · exact .inl z
      · subst z; exact .inr hx
    · rcases z with z | z
      · obtain ⟨o, e⟩ := R1.l0 b z
        exact ⟨o, sm b o e⟩
      · subst z; exact ⟨_, hxs⟩
  · have s13 : Same H1 H' := fun b o e => kp b o (sm b o e) (ne_of_none e hx)
    refine p1.trans (EvPost.op (r := .val (.ins c ds)) p1.rel ⟨s13, Rep.weak (fun b z => ?_) rep⟩)
    have bx : b ≠ x := fun q => by
      subst q
      obtain ⟨o, e⟩ := p1.rel.lv z
      rw [hx] at e; cases e
    refine ⟨.inl ⟨z, allDat_own hd⟩, bx⟩
theorem e_make {C : CallS} {c f n : Nat} {C' : Addr} {g : Loc → Option (R × Loc)} {gs : Loc → Option (List R × Loc)} (hC' : C' = P.ca c)
    (hg : ∀ loc r loc', g loc = some (r, loc') → ∃ rs a ds a', gs loc = some (rs, loc') ∧ argsOf loc' rs = some a ∧ allDat a = true ∧ C f a = some (.val (.ins c ds), a') ∧ r = .val (.ins c ds))
    (hl : ∀ a r a', C f a = some (r, a') → a.length = n) {E : XK} {Q : VK} (h : tE P g σ H Q) : tMake C' (spI P (C f) c n) [] E (tA P gs) σ H Q := by
  obtain ⟨L0, loc, r, loc', R, e, k⟩ := h
  obtain ⟨rs, a, ds, a', h1, h2, h3, h4, rfl⟩ := hg _ _ _ e
  exact ⟨L0, loc, rs, loc', R, h1, fun vs H1 p1 rr => make_go hC' p1 rr h2 h3 h4 (hl _ _ _ h4) k⟩
/-- the heap changes at a live place that is no own list -/
theorem Rel.touch {x : Addr} {o : HO} (R : Rel P L0 loc σ H) (hx : L0 x) : Rel P L0 loc σ (upd H x o) := by
  have kp : ∀ b q, H b = some q → ¬ Lv L0 loc σ b → (upd H x o) b = some q := fun b q e n => by
    rw [upd_ne (fun z => n (by rw [z]; exact .inl hx))]; exact e
  refine ⟨R.len, fun b z => ?_, fun j d e => ?_, fun j b ds e => ?_, R.inj, fun j ns e => ?_⟩
  · obtain ⟨q, e⟩ := R.l0 b z
    by_cases h : b = x
    · subst h; exact ⟨_, upd_same⟩
    · exact ⟨q, by rw [upd_ne h]; exact e⟩
  · obtain ⟨v, e1, r⟩ := R.dat j d e
    exact ⟨v, e1, Rep.keep kp (fun b z => .inl z) d v r⟩
  · obtain ⟨a, vs, e1, h1, n1, r⟩ := R.own j b ds e
    have ne : a ≠ x := fun z => n1 (by rw [z]; exact hx)
    exact ⟨a, vs, e1, by rw [upd_ne ne]; exact h1, n1, Reps.keep kp (fun b z => .inl z) ds vs r⟩
  · obtain ⟨a, e1, h1⟩ := R.scr j ns e
    exact ⟨a, e1, h1.keep kp fun b z => .inl z⟩
/-- an instance that is made becomes data in a slot -/
theorem Rel.made {x : Addr} {d : D} {i : Nat} (R : Rel P L0 loc σ H) (hi : loc[i]? = some .hid) (ha : σ[i]? = some (some (.ref x))) (hr : Rep P (fun b => Lv L0 loc σ b ∧ b ≠ x) H d (.ref x)) (hno : ¬ OwnAt loc σ x) :
    Rel P (fun b => L0 b ∧ b ≠ x) (loc.set i (.dat d)) σ H := by
  have own : ∀ b, OwnAt (loc.set i (.dat d)) σ b → OwnAt loc σ b := fun b ⟨j, b', es, e1, e2⟩ => by
    rcases getset e1 with ⟨_, e3, _⟩ | ⟨ne, e1⟩
    · cases e3
    · exact ⟨j, b', es, e1, e2⟩
  have lv : ∀ b, Lv (fun b => L0 b ∧ b ≠ x) (loc.set i (.dat d)) σ b → Lv L0 loc σ b ∧ b ≠ x := fun b z => by
    rcases z with z | z
    · exact ⟨.inl z.1, z.2⟩
    · refine ⟨.inr (own b z), fun q => ?_⟩
      subst q
      exact hno (own _ z)
  refine ⟨by rw [List.length_set]; exact R.len, fun b z => R.l0 b z.1, fun j d' e => ?_, fun j b ds e => ?_, fun j k b c ds es w e1 e2 e3 e4 => ?_, fun j ns e => ?_⟩
  · rcases getset e with ⟨rfl, e3, _⟩ | ⟨ne, e⟩
    · cases e3
      exact ⟨_, ha, Rep.weak lv hr⟩
    · obtain ⟨w, e1, r⟩ := R.dat j d' e
      exact ⟨w, e1, Rep.weak (fun b z => (lv b z).1) r⟩
  · rcases getset e with ⟨rfl, e3, _⟩ | ⟨ne, e⟩
    · cases e3
    · obtain ⟨a, vs, e1, h1, n1, r⟩ := R.own j b ds e
      exact ⟨a, vs, e1, h1, fun z => n1 z.1, Reps.weak (fun b z => (lv b z).1) r⟩
  · rcases getset e1 with ⟨_, z, _⟩ | ⟨n1, e1⟩
    · cases z
    rcases getset e2 with ⟨_, z, _⟩ | ⟨n2, e2⟩
    · cases z
    exact R.inj _ _ _ _ _ _ _ e1 e2 e3 e4
  · rcases getset e with ⟨rfl, e3, _⟩ | ⟨ne, e⟩
    · cases e3
    · obtain ⟨a, e1, h1⟩ := R.scr j ns e
      exact ⟨a, e1, h1.keep (fun _ _ z _ => z) fun b z => .inl (lv b z).1⟩
theorem putF_zip {f : Str} {v : V} : ∀ {fl : List Str} {vs : List V}, fl.Nodup → fl[vs.length]? = some f → putF f v (fl.zip vs) = fl.zip (vs ++ [v])
  | [], vs, _, h => by simp at h
  | g :: fl, [], nd, h => by
    simp at h; subst h
    cases fl <;> rfl
  | g :: fl, w :: vs, nd, h => by
    rw [List.nodup_cons] at nd
    have h : fl[vs.length]? = some f := by simpa using h
    have ne : g ≠ f := fun e => by subst e; exact nd.1 (List.mem_of_getElem? h)
    have ih := putF_zip (v := v) nd.2 h
    rw [List.zip_cons_cons, List.cons_append, List.zip_cons_cons, ← ih]
    show (if g = f then (g, v) :: fl.zip vs else (g, w) :: putF f v (fl.zip vs)) = _
    rw [if_neg ne]
/-! chains of four -/
theorem e_ch3 {f f' f'' : D → D → Option R} {ga gb gc gd g : Loc → Option (R × Loc)}
    (hg : ∀ loc r loc', g loc = some (r, loc') → ∃ ra l1 rb l2 d e, ga loc = some (ra, l1) ∧ gb l1 = some (rb, l2) ∧ res l2 (sett ra) = some d ∧ res l2 rb = some e ∧
      ((f d e = some (.val (.bl true)) ∧ ∃ rc l3 e' f1, gc l2 = some (rc, l3) ∧ res l3 (sett rb) = some e' ∧ res l3 rc = some f1 ∧
          ((f' e' f1 = some (.val (.bl true)) ∧ ∃ rd f2 g1 k, gd l3 = some (rd, loc') ∧ res loc' (sett rc) = some f2 ∧ res loc' rd = some g1 ∧ f'' f2 g1 = some (.val (.bl k)) ∧ r = .val (.bl k)) ∨ (f' e' f1 = some (.val (.bl false)) ∧ r = .val (.bl false) ∧ loc' = l3))) ∨
        (f d e = some (.val (.bl false)) ∧ r = .val (.bl false) ∧ loc' = l2)))
    {Q : VK} (h : tE P g σ H Q) : tChain3 (rD2 P f) (rD2 P f') (rD2 P f'') (tE P ga) (tE P gb) (tE P gc) (tE P gd) σ H Q := by
  obtain ⟨L0, loc, r, loc', R, e, k⟩ := h
  obtain ⟨ra, l1, rb, l2, d, e', h1, h2, h3, h4, h5⟩ := hg _ _ _ e
  refine ⟨L0, loc, ra, l1, R, h1, fun x H1 p1 => ⟨L0, l1, rb, l2, p1.rel, h2, fun y H2 p2 => ?_⟩⟩
  have w1 := res_w p2.rel (p1.rep.sett.after p2) h3
  have w2 := res_w p2.rel p2.rep h4
  rcases h5 with ⟨h5, rc, l3, e2, f1, h6, h7, h8, h9⟩ | ⟨h5, rfl, rfl⟩
  · refine ⟨Lv L0 l2 σ, d, e', _, fun b z => p2.rel.lv z, w1, w2, h5, fun v H3 ⟨s3, hv⟩ => ?_⟩
    unfold Rep at hv
    refine ⟨true, hv, iteT ?_⟩
    have p3 : EvPost P L0 l2 σ H2 l2 (.val (.bl true)) v H3 := EvPost.op p2.rel ⟨s3, by unfold Rep; exact hv⟩
    refine ⟨L0, l2, rc, l3, p3.rel, h6, fun z' H4 p4 => ?_⟩
    have y4 := ((p2.rep.sett).after p3).after p4
    have v1 := res_w p4.rel y4 h7
    have v2 := res_w p4.rel p4.rep h8
    have pp := ((p1.trans p2).trans p3).trans p4
    rcases h9 with ⟨h9, rd, f2, g1, k2, h10, h11, h12, h13, rfl⟩ | ⟨h9, rfl, rfl⟩
    · refine ⟨Lv L0 l3 σ, e2, f1, _, fun b z => p4.rel.lv z, v1, v2, h9, fun v5 H5 ⟨s5, hv5⟩ => ?_⟩
      unfold Rep at hv5
      refine ⟨true, hv5, iteT ?_⟩
      have p5 : EvPost P L0 l3 σ H4 l3 (.val (.bl true)) v5 H5 := EvPost.op p4.rel ⟨s5, by unfold Rep; exact hv5⟩
      refine ⟨L0, l3, rd, loc', p5.rel, h10, fun z2 H6 p6 => ?_⟩
      have z6 := ((p4.rep.sett).after p5).after p6
      refine ⟨Lv L0 loc' σ, f2, g1, _, fun b z => p6.rel.lv z, res_w p6.rel z6 h11, res_w p6.rel p6.rep h12, h13, fun v7 H7 hp => ?_⟩
      exact k v7 H7 ((pp.trans (p5.trans p6)).trans (EvPost.op p6.rel hp))
    · refine ⟨Lv L0 loc' σ, e2, f1, _, fun b z => p4.rel.lv z, v1, v2, h9, fun v5 H5 hp => ?_⟩
      obtain ⟨s5, hv⟩ := hp
      have hv' := hv
      unfold Rep at hv
      refine ⟨false, hv, iteF ?_⟩
      subst hv
      exact k _ H5 (pp.trans (EvPost.op p4.rel ⟨s5, hv'⟩))
  · refine ⟨_, d, e', _, fun b z => p2.rel.lv z, w1, w2, h5, fun v H3 hp => ?_⟩
    obtain ⟨s3, hv⟩ := hp
    have hv' := hv
    unfold Rep at hv
    refine ⟨false, hv, iteF ?_⟩
    subst hv
    exact k _ H3 ((p1.trans p2).trans (EvPost.op p2.rel ⟨s3, hv'⟩))
theorem e_sumR {ga g : Loc → Option (R × Loc)} (hg : ∀ loc r loc', g loc = some (r, loc') → ∃ n, ga loc = some (.val (.int n), loc') ∧ small n = true ∧ n.toNat ≤ big ∧ r = .val (.int (rsum 0 n.toNat))) {Q : VK} (h : tE P g σ H Q) : tSumRg (tRg1 (tE P ga)) σ H Q := by
  obtain ⟨L0, loc, r, loc', R, e, k⟩ := h
  obtain ⟨n, h1, h2, h3, rfl⟩ := hg _ _ _ e
  refine ⟨L0, loc, _, loc', R, h1, fun x H1 p1 => ?_⟩
  have hx : x = .int n := int_of (L := Lv L0 loc' σ) p1.rep
  refine ⟨n, hx, rg_small (by decide) h2 (by rw [Int.sub_zero]; exact h3), ?_⟩
  rw [Int.sub_zero]
  exact k _ H1 (p1.trans (EvPost.refl p1.rel (by unfold RepR; exact rep_int)))
/-- xs[::-1] -/
theorem e_rev {K : PySem.W.Frag} {ga g : Loc → Option (R × Loc)} (hg : ∀ loc r loc', g loc = some (r, loc') → ∃ ra xs, ga loc = some (ra, loc') ∧ res loc' ra = some (.lst xs) ∧ r = .new xs.reverse) {Q : VK} (h : tE P g σ H Q) : tRevL K (tE P ga) σ H Q := by
  obtain ⟨L0, loc, r, loc', R, e, k⟩ := h
  obtain ⟨ra, xs, h1, h2, rfl⟩ := hg _ _ _ e
  refine ⟨L0, loc, ra, loc', R, h1, fun x H1 p1 => ?_⟩
  obtain ⟨a, vs, rfl, t, rr⟩ := res_w p1.rel p1.rep h2
  exact ⟨a, vs, rfl, SqL.of t, fun p hp => k _ _ (p1.trans (EvPost.op p1.rel (.lst hp rr.reverse)))⟩
theorem rows_ks {K : PySem.W.Frag} (hK : P.K = K) : ∀ {ts : List (List Int)} {vs : List V}, Reps P L H (ts.map tupD) vs → ∃ ks : List (Addr × List Int), vs = ks.map (fun p => V.ref p.1) ∧ ks.map (·.2) = ts ∧ ∀ p ∈ ks, SqT K H p.1 (p.2.map V.int)
  | [], vs, r => by
    have : vs = [] := by have := r.length; simpa using this.symm
    subst this
    exact ⟨[], rfl, rfl, fun p hp => by simp at hp⟩
  | t :: ts, vs, r => by
    rw [List.map_cons] at r
    unfold Reps at r
    obtain ⟨v, w, rfl, h1, h2⟩ := r
    obtain ⟨ks, rfl, e2, e3⟩ := rows_ks hK h2
    obtain ⟨a, ws, rfl, t1, t2⟩ := tup_of (Rep.w h1)
    have := t2.ints
    subst this
    refine ⟨(a, t) :: ks, rfl, by rw [List.map_cons, e2], fun p hp => ?_⟩
    rcases List.mem_cons.mp hp with rfl | hp
    · exact hK ▸ t1.sq
    · exact e3 p hp
theorem e_lenSet {K : PySem.W.Frag} (hK : P.K = K) {ga g : Loc → Option (R × Loc)} (hg : ∀ loc r loc', g loc = some (r, loc') → ∃ ra xs ts, ga loc = some (ra, loc') ∧ res loc' ra = some (.lst xs) ∧ itups? xs = some ts ∧ ts.length < 64 ∧ r = .val (.int (dd ts).length)) {Q : VK} (h : tE P g σ H Q) : tLenSetT K (tE P ga) σ H Q := by
  obtain ⟨L0, loc, r, loc', R, e, k⟩ := h
  obtain ⟨ra, xs, ts, h1, h2, h3, h4, rfl⟩ := hg _ _ _ e
  refine ⟨L0, loc, ra, loc', R, h1, fun x H1 p1 => ?_⟩
  obtain ⟨a, vs, rfl, t, rr⟩ := res_w p1.rel p1.rep h2
  obtain rfl := itups_spec h3
  obtain ⟨ks, rfl, e2, e3⟩ := rows_ks hK rr
  refine ⟨a, ks, rfl, SqL.of t, e3, by rw [← e2, List.length_map] at h4; exact h4, ?_⟩
  rw [e2]
  exact k _ H1 (p1.trans (EvPost.refl p1.rel (by unfold RepR; exact rep_int)))
end MP

/-! == and != of instances by their class's own __eq__; isinstance of an own class -/
namespace MP
open PySem PySem.Spec PyProof.Rows
section
variable {M : Model} {prog : Program} {w : World} {A : Around} {E : Value → Shared → Prop} {s : Shared} {K : PySem.W.Frag} {x y C f L : Addr} {ox : Obj} {od : Option Obj} {h₀ : Heap} {m : Str → Option Value}
theorem objNe_entry (hu : A.units < cLine) (X : K.In s.heap) (I : PySem.W.InstAt s.heap x ox C od) (hs : PySem.W.findIn K (.ref C) "__eq__" = some (some (.ref f))) (hf : PySem.W.isFn K (.ref f) = true) {Q : Fin → Shared → Prop}
    (h : wpAny M A (call (.ref f) [.ref x, .ref y]) (fun v s' => ∃ b, v = .bool b ∧ Q (.done (.ret (.bool (!b)))) s') E s) : wpAny M A (Builtin.«object.__ne__» ⟨[.ref x, .ref y], []⟩) Q E s := by
  unfold Builtin.«object.__ne__»
  repeat (first
    | with_reducible refine wpAny_cRoomFor hu ?_
    | (refine wpAny_bind (m := callSpecialIfBound? (.ref x) (Str.ofString "__eq__") [.ref y])
        (PySem.W.ifBound_K X I hs hf (wpAny_mono h (fun r s' hr => by
          obtain ⟨b, rfl, hq⟩ := hr
          repeat (first | exact hq | exact wpAny_pure hq | exact wpAny_truthy_bool hq | (refine wpAny_bind (m := truthy (.bool _)) (wpAny_truthy_bool ?_)) | wp_step)) fun _ _ e => e)))
    | wp_step)
theorem call_objNe (hu : A.in1.units < cLine) (X : K.In s.heap) (I : PySem.W.InstAt s.heap x ox C od) (hm : PySem.W.mroIn K C (.type "object") = some true) (hs : PySem.W.findIn K (.ref C) "__eq__" = some (some (.ref f))) (hf : PySem.W.isFn K (.ref f) = true) {Q : Value → Shared → Prop}
    (h : wpAny (model prog w) A.in1 (call (.ref f) [.ref x, .ref y]) (fun v s' => ∃ b, v = .bool b ∧ Q (.bool (!b)) s') E s) : wpAny (model prog w) A (call (.builtin "object.__ne__") [.ref x, .ref y]) Q E s :=
  wpAny_call (codeAny_call_builtin F.cmp_object.ne.plain F.cmpEntry_ne (PySem.W.check_slot F.cmpKind_ne F.cmpSplit_ne (I.type.andThen (PySem.W.looks_mroIn X hm)) (F.cmpArgs_ne _ _) (objNe_entry hu X I hs hf h)))
theorem ifBound_ne {args : List Value} {Q : Option Value → Shared → Prop} (X : K.In s.heap) (I : PySem.W.InstAt s.heap x ox C od) (hs : PySem.W.findIn K (.ref C) "__ne__" = some (some (.builtin "object.__ne__")))
    (h : wpAny M A (call (.builtin "object.__ne__") (.ref x :: args)) (fun v => Q (some v)) E s) : wpAny M A (callSpecialIfBound? (.ref x) "__ne__" args) Q E s := by
  simp only [callSpecialIfBound?, bindSpecialIfBound?]
  refine wpAny_holding (wpAny_bind (wpAny_bind (wpAny_bind (I.type.here ((PySem.W.looks_findIn X hs).here ?_)))))
  refine wpAny_bind (wpAny_askSetting (wpAny_ite ?_))
  have fin : wpAny M A (call (.builtin "object.__ne__") ([.ref x] ++ args) >>= fun v => pure (some v)) Q E s := wpAny_bind (wpAny_mono h (fun v s' h' => wpAny_pure h') fun _ _ h' => h')
  split
  · exact wpAny_bind (wpAny_of_eq (F.cmp_object.ne.bind _) (wpAny_pure (by exact fin)))
  · exact wpAny_tryCatch (wpAny_bind (wpAny_of_eq (F.cmp_object.ne.bind _) (wpAny_pure (by exact fin))))
theorem cmp_ne {Q : Value → Shared → Prop} (hu : A.units < cLine) (hu1 : A.in1.units < cLine) (Fr0 : Fr h₀ L s.heap m) (X₀ : K.In h₀) {b : Addr} (I : PySem.W.InstAt s.heap x ox C od) (hb : PySem.W.Looks (model prog w) s.heap (typeOf (.ref b)) (.ref C))
    (hn : PySem.W.findIn K (.ref C) "__ne__" = some (some (.builtin "object.__ne__"))) (hm : PySem.W.mroIn K C (.type "object") = some true) (hs : PySem.W.findIn K (.ref C) "__eq__" = some (some (.ref f))) (hf : PySem.W.isFn K (.ref f) = true)
    (h : wpAny (model prog w) A.in1 (call (.ref f) [.ref x, .ref b]) (fun v s' => ∃ r, v = .bool r ∧ Q (.bool (!r)) s') E s) : wpAny (model prog w) A (richCompare .NotEq (.ref x) (.ref b)) Q E s := by
  have X := X₀.keeps Fr0.keep
  have one : wpAny (model prog w) A (tryCompare (.ref x) "__ne__" (.ref b)) (fun r s' => ∃ v, r = some v ∧ Q v s') E s := by
    unfold tryCompare
    refine wpAny_bind (ifBound_ne X I hn (call_objNe hu1 X I hm hs hf (wpAny_mono h (fun v s' hv => ?_) fun _ _ e => e)))
    obtain ⟨r, rfl, q⟩ := hv
    exact ⟨r, rfl, wpAny_pure ⟨_, rfl, q⟩⟩
  unfold richCompare
  simp only [oneThing_ref]
  refine wpAny_holding (wpAny_bind (wpAny_cRoomFor hu ?_))
  rw [cmpInfo_NotEq]
  dsimp only
  refine wpAny_bind (I.type.here (wpAny_bind (hb.here ?_)))
  split
  · rename_i q
    simp at q
  · refine wpAny_bind (wpAny_pure ?_)
    simp only [Bool.false_eq_true, if_false]
    refine wpAny_bind (wpAny_mono one (fun r s' z => ?_) fun _ _ e => e)
    obtain ⟨v, rfl, hq⟩ := z
    exact wpAny_pure hq
end
open L2
/-- what an own == wants of the text's heap -/
structure EqOk (K : PySem.W.Frag) (C f : Addr) : Prop where
  m : Meth K C "__eq__" f
  ne : PySem.W.findIn K (.ref C) "__ne__" = some (some (.builtin "object.__ne__"))
  ob : PySem.W.mroIn K C (.type "object") = some true
section
variable {X : Cx} {CX : CXT} {k : Nat} {f C a b dx dy : Addr} {fs gs : List (Str × V)} {fd : FuncData} {ps : List Str} {sp : Sp} {E : XK} {pins : List (Addr × Obj)} {σ : L2.St} {H : Hp} {s : Shared} {Q : VK}
theorem g_in {A : Around} {us : List Value} {vs : List V} (hgA : A.guards = some []) (hA : A.frames = X.A.frames) (hr : Room k A) (F : GFn X.prog X.w X.K X.mg X.base CX k f fd ps sp) (hbd : Binds X.K fd ps []) (hx : Passes CX X E) (I : Inv X pins σ H s) (r : Vals vs us) (q : sp vs H Q E) :
    wpAny (model X.prog X.w) A (call (.ref f) us) (EP X pins σ Q) X.xe s := by
  have hl := F.len _ _ _ _ q
  have hbn := hbd s us I.kIn (by rw [List.append_nil, ← r.length]; exact hl)
  rw [List.append_nil] at hbn
  have e0 : Env0 X.prog X.w X.K X.mg X.base A X.stack s H := by
    have e := I.env0
    exact ⟨by rw [hA]; exact e.frames, e.mod, e.bs, e.bsz, e.funs, e.frf, e.hok, e.bare⟩
  refine wpAny_call (codeAny_mono (F.go A X.stack s H ⟨us, []⟩ us vs Q E hr hgA e0 hbn r q) fun res sh hres => ?_)
  match res, hres with
  | .error ee, hres => exact hx pins σ H s ee sh I hres
  | .ok (.ret u), hres => exact I.after hres
  | .ok .next, hres => exact hres.elim
  | .ok .brk, hres => exact hres.elim
  | .ok .cont, hres => exact hres.elim
theorem g_rc {ne : Bool} (hgd : X.A.guards = some []) (F : GFn X.prog X.w X.K X.mg X.base CX k f fd ps sp) (hr : Room k X.A) (hr1 : Room k X.A.in1) (hbd : Binds X.K fd ps []) (hx : Passes CX X E) (I : Inv X pins σ H s) (m : EqOk X.K C f) (ha : H a = some (.ins C dx fs)) (hb : H b = some (.ins C dy gs))
    (q : sp [.ref a, .ref b] H (fun v H' => ∃ r, v = .bl r ∧ Q (.bl (if ne then !r else r)) H') E) : wpAny (model X.prog X.w) X.A (compareOp (if ne then .NotEq else .Eq) (.ref a) (.ref b)) (EP X pins σ Q) X.xe s := by
  obtain ⟨mA, J, _⟩ := ins_get I.hok ha
  obtain ⟨mB, J', _⟩ := ins_get I.hok hb
  obtain ⟨od, J, _⟩ := J.look
  obtain ⟨od', J', _⟩ := J'.look
  obtain ⟨m', hF⟩ := I.fr
  have r2 : Vals [V.ref a, V.ref b] [Value.ref a, Value.ref b] := .cons rfl (.cons rfl .nil)
  cases ne with
  | false =>
    show wpAny (model X.prog X.w) X.A (richCompare .Eq (.ref a) (.ref b)) _ _ _
    refine PySem.W.cmp_K (op := .Eq) (tb := .ref C) hr.units0 hF I.ok.mod.kin J J'.type (by simp [PySem.W.notFirst]) m.m.at_ m.m.fn ?_
    refine wpAny_mono (g_in hgd rfl hr F hbd hx I r2 q) (fun u s' z => ?_) fun _ _ x => x
    obtain ⟨v, H', I', rv, r, ev, q'⟩ := z
    subst ev
    cases (show u = Value.bool r from rv)
    exact ⟨.bl r, H', I', rfl, q'⟩
  | true =>
    show wpAny (model X.prog X.w) X.A (richCompare .NotEq (.ref a) (.ref b)) _ _ _
    refine cmp_ne (f := f) hr.units0 hr1.units0 hF I.ok.mod.kin J J'.type m.ne m.ob m.m.at_ m.m.fn ?_
    refine wpAny_mono (g_in (A := X.A.in1) hgd rfl hr1 F hbd hx I r2 q) (fun u s' z => ?_) fun _ _ x => x
    obtain ⟨v, H', I', rv, r, ev, q'⟩ := z
    subst ev
    cases (show u = Value.bool r from rv)
    exact ⟨r, rfl, .bl (!r), H', I', rfl, q'⟩
end

/-! ### the evaluator's readings -/
def NeOk (K : PySem.W.Frag) (C : Addr) : Prop := PySem.W.findIn K (.ref C) "__ne__" = some (some (.builtin "object.__ne__")) ∧ PySem.W.mroIn K C (.type "object") = some true
def neB (K : PySem.W.Frag) (C : Addr) : Bool := He.eqO (PySem.W.findIn K (.ref C) "__ne__") (some (some (.builtin "object.__ne__"))) && decide (PySem.W.mroIn K C (.type "object") = some true)
theorem neB_ok {K : PySem.W.Frag} {C : Addr} (h : neB K C = true) : NeOk K C := by
  unfold neB at h
  rw [Bool.and_eq_true] at h
  exact ⟨He.eqO_ok h.1, of_decide_eq_true h.2⟩
def baseTys : List String := ["NoneType", "bool", "int", "str", "list", "tuple"]
structure IscOk (K : PySem.W.Frag) (C : Addr) : Prop where
  ha : PySem.W.findIn K (.ref C) "__class__" = some (some (.builtin "object.__class__"))
  hn : PySem.W.specialIn K (.builtin "object.__class__") "__get__" = some (some (.builtin "getset_descriptor.__get__"))
  htk : PySem.W.takesIn K (.builtin "object.__class__") = some true
  hm : PySem.W.mroIn K C (.type "object") = some true
  no : ∀ T ∈ baseTys, PySem.W.kitOne K (.type T) (.ref C) = some false
def iscB (K : PySem.W.Frag) (C : Addr) : Bool := He.eqO (PySem.W.findIn K (.ref C) "__class__") (some (some (.builtin "object.__class__"))) && (He.eqO (PySem.W.specialIn K (.builtin "object.__class__") "__get__") (some (some (.builtin "getset_descriptor.__get__"))) &&
  (decide (PySem.W.takesIn K (.builtin "object.__class__") = some true) && (decide (PySem.W.mroIn K C (.type "object") = some true) && baseTys.all fun T => decide (PySem.W.kitOne K (.type T) (.ref C) = some false))))
theorem iscB_ok {K : PySem.W.Frag} {C : Addr} (h : iscB K C = true) : IscOk K C := by
  unfold iscB at h
  simp only [Bool.and_eq_true] at h
  obtain ⟨h1, h2, h3, h4, h5⟩ := h
  exact ⟨He.eqO_ok h1, He.eqO_ok h2, of_decide_eq_true h3, of_decide_eq_true h4, fun T hT => of_decide_eq_true (List.all_eq_true.mp h5 T hT)⟩
def rIsK (P : RP) (k : Nat) : List V → Hp → VK → Prop := fun xs H Q => ∃ x, xs = [x, .ref (P.ca k)] ∧ rD1 P (ap1 (.isC k)) x H Q
section
variable {X : Cx} {P : RP} {L0 : Addr → Prop} {loc loc' : Loc} {σ : Sg} {H : Hp}
theorem c_isC (hK : P.K = X.K) {k : Nat} (hc : Cls X.K (P.ca k)) (hi : IscOk X.K (P.ca k)) : CallR X (.builtin "isinstance") (rIsK P k) := by
  intro pins s σ H xs us Q I r h
  obtain ⟨x, rfl, L, d, r', hL, hd, hf, q⟩ := h
  have fin : ∀ (tv : Value) (b : Bool), TyX X.K H x tv → PySem.W.kitOne X.K tv (.ref (P.ca k)) = some b → r' = .val (.bl b) → wpAny (model X.prog X.w) X.A (call (.builtin "isinstance") us) (EP X pins σ Q) X.xe s := fun tv b ht hk e => by
    refine call_isi pins s σ H _ us Q I r ⟨x, .ref (P.ca k), tv, .ref (P.ca k), b, rfl, .own _, ht, hk, ?_⟩
    subst e
    exact q _ _ (.val rep_bl)
  cases d with
  | non =>
    obtain rfl := non_of hd
    exact fin _ _ (.base .non) (hi.no _ (by decide)) (Option.some.inj hf).symm
  | bl b =>
    obtain rfl := bl_of hd
    exact fin _ _ (.base (.bl _)) (hi.no _ (by decide)) (Option.some.inj hf).symm
  | int i =>
    obtain rfl := int_of hd
    exact fin _ _ (.base (.int _)) (hi.no _ (by decide)) (Option.some.inj hf).symm
  | str y =>
    have : Rep P L H (.str y) x := hd
    unfold Rep at this
    subst this
    exact fin _ _ (.base (.str _)) (hi.no _ (by decide)) (Option.some.inj hf).symm
  | lst ds =>
    obtain ⟨a, vs, rfl, ta, _⟩ := hd
    exact fin _ _ (.base (.lst ta)) (hi.no _ (by decide)) (Option.some.inj hf).symm
  | tup ds =>
    obtain ⟨a, vs, rfl, ta, _⟩ := tup_of hd
    rcases ta with ⟨ta, _⟩ | ta
    · exact fin _ _ (.base (.tup ta)) (hi.no _ (by decide)) (Option.some.inj hf).symm
    · rcases ta with (z | ⟨_, z⟩) | ⟨o, its, n, e1, e2, e3, _⟩
      · cases z
      · cases z
      · exact fin _ _ (.kTuple (hK ▸ e1) e2) (hi.no _ (by decide)) (Option.some.inj hf).symm
  | ins c fs =>
    replace hf : (if c = k then some (R.val (.bl true)) else none) = some r' := hf
    split at hf
    · rename_i e
      subst e
      obtain ⟨a, dx, vs, rfl, ha, _, _, _⟩ := ins_of hd
      refine fin _ true (.base (.ins ha hc hi.ha hi.hn hi.htk hi.hm)) ?_ (Option.some.inj hf).symm
      unfold PySem.W.kitOne
      rw [if_pos (by simp)]
    · cases hf
/-- == | != of two instances of a class with an own __eq__ -/
def rEqI (X : Cx) (CX : CXT) (ne : Bool) : R2 := fun x y H Q => ∃ (a b C dx dy : Addr) (fs gs : List (Str × V)) (k : Nat) (f : Addr) (fd : FuncData) (ps : List Str) (sp : Sp) (E : XK),
  x = .ref a ∧ y = .ref b ∧ H a = some (.ins C dx fs) ∧ H b = some (.ins C dy gs) ∧ EqOk X.K C f ∧ GFn X.prog X.w X.K X.mg X.base CX k f fd ps sp ∧ Room k X.A ∧ Room k X.A.in1 ∧ Binds X.K fd ps [] ∧ Passes CX X E ∧
  sp [x, y] H (fun v H' => ∃ r, v = .bl r ∧ Q (.bl (if ne then !r else r)) H') E
theorem op_eqI {CX : CXT} {ne : Bool} (hgd : X.A.guards = some []) : OpR X (compareOp (if ne then .NotEq else .Eq)) (rEqI X CX ne) := by
  intro pins s σ H x y v u Q I rx ry h
  obtain ⟨a, b, C, dx, dy, fs, gs, k, f, fd, ps, sp, E, rfl, rfl, ha, hb, m, F, hr, hr1, hbd, hx, q⟩ := h
  cases rx
  cases ry
  exact g_rc hgd F hr hr1 hbd hx I m ha hb q
theorem e_eqI {C : CallS} {kk : Nat} {ne : Bool} {tb : List (Nat × Nat)} {ga gb g : Loc → Option (R × Loc)}
    (hg : ∀ loc r loc', g loc = some (r, loc') → ∃ c fs gs f l1 l2 a a' x, ga loc = some (.val (.ins c fs), l1) ∧ gb l1 = some (.val (.ins c gs), l2) ∧ tb.lookup c = some f ∧ nodupB (refs [MP.R.val (.ins c fs), MP.R.val (.ins c gs)]) = true ∧
      argsOf l2 [R.val (.ins c fs), R.val (.ins c gs)] = some a ∧ C f a = some (.val (.bl x), a') ∧ given [R.val (.ins c fs), R.val (.ins c gs)] a' l2 = some loc' ∧ r = .val (.bl (if ne then !x else x)))
    (hroom : Room kk X.A) (hroom1 : Room kk X.A.in1)
    (hm : ∀ c f, tb.lookup c = some f → MethOk X P C kk c "__eq__" f ∧ NeOk X.K (P.ca c)) {Q : VK} (h : tE P g σ H Q) : tOp (rEqI X CX0 ne) (tE P ga) (tE P gb) σ H Q := by
  obtain ⟨L0, loc, r, loc', R0, e, k⟩ := h
  obtain ⟨c, fs, gs, f, l1, l2, a, a', x, h1, h2, h3, h4, h5, h6, h7, er⟩ := hg _ _ _ e
  subst er
  obtain ⟨⟨k', fA, fd, ps, hk, q3, q4, q5, q6⟩, q7, q8⟩ := hm c f h3
  refine ⟨L0, loc, _, l1, R0, h1, fun v H1 p1 => ⟨L0, l1, _, l2, p1.rel, h2, fun w H2 p2 => ?_⟩⟩
  have pv : RepR P L0 l2 σ H2 (.val (.ins c fs)) v := p1.rep.sett.after p2
  obtain ⟨a1, dx, vs, rfl, ha, _, _, _⟩ := ins_of pv
  obtain ⟨b1, dy, ws, rfl, hb, _, _, _⟩ := ins_of p2.rep
  have rr : RepRs P L0 l2 σ H2 [R.val (.ins c fs), R.val (.ins c gs)] [.ref a1, .ref b1] := ⟨_, _, rfl, pv, _, _, rfl, p2.rep, rfl⟩
  refine ⟨a1, b1, P.ca c, dx, dy, _, _, k', fA, fd, ps, _, (fun _ _ _ => False), rfl, rfl, ha, hb, ⟨q3, q7, q8⟩, q4, hroom.mono hk, hroom1.mono hk, q5, pass0, ?_⟩
  have hr : ∀ i, R.val (.bl x) ≠ .ref i := fun i z => by cases z
  refine ⟨?_, Lc L0 l2 σ a [.ref a1, .ref b1], a, .val (.bl x), a', args_rel p2.rel rr h5 h4, h6, hr, fun v H3 p3 => ?_⟩
  · rw [← q6 _ _ _ h6, ← argsOf_len h5]; rfl
  · have p := (p1.trans p2).trans (call_post p2.rel rr h5 h4 h7 hr p3)
    have hv := bl_of (L := Lv L0 loc' σ) p.rep
    refine ⟨x, hv, ?_⟩
    exact k _ H3 (p.trans (EvPost.refl p.rel (by unfold RepR; exact rep_bl)))
theorem nuMin3_int (i j k : Int) : nuMin3 (.int i) (.int j) (.int k) = some (.int (if k < (if j < i then j else i) then k else (if j < i then j else i))) := by
  have h2 : ∀ a b : Int, nuMin2 (.int a) (.int b) = some (.int (if b < a then b else a)) := fun a b => by
    show (some (decide (b < a))).map (fun c => if c = true then V.int b else V.int a) = _
    rw [Option.map_some]
    by_cases h : b < a
    · rw [if_pos h, if_pos (decide_eq_true h)]
    · rw [if_neg h, if_neg (by rw [decide_eq_false h]; decide)]
  unfold nuMin3
  rw [h2]
  exact h2 _ _
theorem e_mn3 {ga gb gc g : Loc → Option (R × Loc)} (hg : ∀ loc r loc', g loc = some (r, loc') → ∃ i j k l1 l2, ga loc = some (.val (.int i), l1) ∧ gb l1 = some (.val (.int j), l2) ∧ gc l2 = some (.val (.int k), loc') ∧ r = .val (.int (if k < (if j < i then j else i) then k else (if j < i then j else i))))
    {Q : VK} (h : tE P g σ H Q) : tCons (tE P ga) (tCons (tE P gb) (tCons (tE P gc) tNil)) σ H fun vs H' => rNuC3 nuMin3 vs H' Q := by
  obtain ⟨L0, loc, r, loc', R, e, k⟩ := h
  obtain ⟨i, j, m, l1, l2, h1, h2, h3, rfl⟩ := hg _ _ _ e
  refine ⟨L0, loc, _, l1, R, h1, fun x H1 p1 => ⟨L0, l1, _, l2, p1.rel, h2, fun y H2 p2 => ⟨L0, l2, _, loc', p2.rel, h3, fun z H3 p3 => ?_⟩⟩⟩
  obtain rfl := int_of (L := Lv L0 l1 σ) p1.rep
  obtain rfl := int_of (L := Lv L0 l2 σ) p2.rep
  obtain rfl := int_of (L := Lv L0 loc' σ) p3.rep
  refine ⟨_, _, _, _, rfl, nuMin3_int i j m, ?_⟩
  exact k _ H3 (((p1.trans p2).trans p3).trans (EvPost.refl p3.rel (by unfold RepR; exact rep_int)))
end
end MP

namespace MP
open PySem PySem.Spec PyProof.Rows L2

/-! ### the look: this term is that expression -/
structure KwSh where
  x : Str
  f : Nat
  ks : List Str
  np : Nat
  perm : List Nat
structure DfSh where
  x : Str
  f : Nat
  np : Nat
  ds : List Df
structure CK where
  N : List Str
  bl : List Str
  gl : List (Str × Nat)
  fn : List (Str × Nat)
  kw : List KwSh
  fl : List (List Str)
  mt : List (Nat × Str × Nat)
  ct : List (Str × Nat × Nat)
  df : List DfSh
  ne : List Nat
  isc : List (Str × Nat)
def vis (sc : Scope) (x : Str) : Bool := match sc.names.lookup x with
  | some .local => true
  | some .cell => true
  | some .free => true
  | _ => false
def kV (c : CK) (sc : Scope) (x : Str) (i : Nat) : Bool := decide (c.N[i]? = some x) && vis sc x && !(x == ("__debug__" : Str)) && !(x == ("__classdict__" : Str))
def kGl (sc : Scope) (x : Str) : Bool := decide (sc.names.lookup x = some .globalImplicit)
def kB (c : CK) (sc : Scope) (x y : Str) : Bool := decide (x = y) && decide (y ∈ c.bl) && kGl sc y
/-- a name that may be stored to -/
def kT (c : CK) (ow : Str → Bool) (sc : Scope) (x : Str) (i : Nat) : Bool := decide (c.N[i]? = some x) && (match sc.names.lookup x with
  | some .local => true
  | some .cell => ow x
  | _ => false)
def kTs (c : CK) (ow : Str → Bool) (sc : Scope) : List Expr → List Nat → Bool
  | [], is => match is with | [] => true | _ => false
  | e :: es, is => match e, is with
    | .Name x _, i :: is => kT c ow sc x i && kTs c ow sc es is
    | _, _ => false
def kP (c : CK) (ow : Str → Bool) (sc : Scope) (e : Expr) : Pat → Bool
  | .v i => match e with
    | .Name x _ => kT c ow sc x i
    | _ => false
  | .tup is => match e with
    | .Tuple es _ _ => kTs c ow sc es is
    | _ => false
def notStar : Expr → Bool
  | .Starred _ _ => false
  | _ => true
def notComp : Expr → Bool
  | .ListComp _ _ _ _ => false
  | .SetComp _ _ _ _ => false
  | .DictComp _ _ _ _ _ => false
  | _ => true
def notSlice : Expr → Bool
  | .Slice _ _ _ _ => false
  | _ => true
def notSet : Expr → Bool
  | .Set _ _ _ => false
  | _ => true
def plainTest : Expr → Bool
  | .UnaryOp .Not _ _ => false
  | .BoolOp _ _ _ => false
  | .IfExp _ _ _ _ => false
  | .Compare _ _ _ _ => false
  | _ => true
def isZero : Expr → Bool
  | .Constant (.int i) _ _ => decide (i = 0)
  | _ => false
def nameO1 : O1 → Str
  | .len => "len" | .int => "int" | .list => "list" | .tuple => "tuple" | .sorted => "sorted" | .all => "all" | .any => "any" | .sum => "sum" | .abs => "abs" | .bool => "bool" | .repr => "repr"
  | .neg => "" | .isi _ => "" | .rev => "" | .lenSet => "" | .isC _ => ""
def nameO2 : O2 → Str
  | .max2 => "max" | .min2 => "min" | .dmod => "divmod"
  | _ => ""
def isO2 : O2 → Bool
  | .max2 => true | .min2 => true | .dmod => true
  | _ => false
/-- a field's place in the classes told -/
def kFl (c : CK) (f : Str) (tb : List (Nat × Nat)) : Bool := tb.all fun p => match c.fl[p.1]? with
  | some fs => decide (fs[p.2]? = some f)
  | none => false
/-- a method's def in the classes told -/
def kMt (c : CK) (m : Str) (tb : List (Nat × Nat)) : Bool := tb.all fun p => decide ((p.1, m, p.2) ∈ c.mt) && match c.fl[p.1]? with
  | some fs => decide (m ∉ fs)
  | none => false
/-- own == in the classes told -/
def kEq (c : CK) (tb : List (Nat × Nat)) : Bool := tb.all fun p => decide ((p.1, ("__eq__" : Str), p.2) ∈ c.mt) && decide (p.1 ∈ c.ne)
def tyS : Ty → Str
  | .int => "int" | .bool => "bool" | .list => "list" | .tuple => "tuple" | .str => "str"
def ownP (c : CK) (own : List Nat) : List (Str × Nat) := own.map fun i => (c.N.getD i "", i)
def blkOw (scope : Scope) : Str → Bool := fun x => scope.names.lookup x == some .cell

mutual
def mE : Nat → CK → (Str → Bool) → Scope → Expr → ME → Bool
  | 0, _, _, _, _, _ => false
  | n + 1, c, ow, sc, e, m => match m with
    | .c d => match e with
      | .Constant k _ _ => (match k, d with
        | .int i, .int j => decide (i = j)
        | .bool i, .bl j => decide (i = j)
        | .none, .non => true
        | .str i, .str j => decide (i = j)
        | _, _ => false)
      | _ => false
    | .g k => match e with
      | .Name x _ => decide ((x, k) ∈ c.gl) && kGl sc x && !(x == ("__debug__" : Str))
      | _ => false
    | .v i => match e with
      | .Name x _ => kV c sc x i
      | _ => false
    | .r i => match e with
      | .Name x _ => kV c sc x i
      | _ => false
    | .fz i => match e with
      | .Name x _ => kV c sc x i
      | _ => false
    | .tup es => match e with
      | .Tuple xs _ _ => mEs n c ow sc xs es && decide (es.length ≤ 1000)
      | _ => false
    | .lst es => match e with
      | .List xs _ => mEs n c ow sc xs es && decide (es.length ≤ 1000)
      | _ => false
    | .o1 o a => match o with
      | .neg => match e with
        | .UnaryOp .USub x _ => mE n c ow sc x a
        | _ => false
      | .isi t => match e with
        | .Call (.Name f _) [x, .Name tn _] [] _ => kB c sc f "isinstance" && kB c sc tn (tyS t) && notStar x && mE n c ow sc x a
        | _ => false
      | .isC k => match e with
        | .Call (.Name f _) [x, .Name tn _] [] _ => kB c sc f "isinstance" && decide ((tn, k) ∈ c.isc) && kGl sc tn && !(tn == ("__debug__" : Str)) && notStar x && mE n c ow sc x a
        | _ => false
      | .rev => match e with
        | .Subscript x (.Slice none none (some (.UnaryOp .USub (.Constant (.int i) _ _) _)) _) _ => decide (i = 1) && mE n c ow sc x a
        | _ => false
      | .lenSet => match e with
        | .Call (.Name f _) [.Call (.Name g _) [x] [] _] [] _ => kB c sc f "len" && kB c sc g "set" && notStar x && mE n c ow sc x a
        | _ => false
      | o => match e with
        | .Call (.Name f _) [x] [] _ => kB c sc f (nameO1 o) && notStar x && mE n c ow sc x a
        | _ => false
    | .o2 o a b => match e with
      | .BinOp x op y _ => decide (binOf o = some op) && mE n c ow sc x a && mE n c ow sc y b
      | .Compare x [op] [y] _ => decide (cmpOf o = some op) && notSet y && mE n c ow sc x a && mE n c ow sc y b
      | .Subscript x y _ => decide (o = .ix) && notSlice y && mE n c ow sc x a && mE n c ow sc y b
      | .Call (.Name f _) [x, y] [] _ => isO2 o && kB c sc f (nameO2 o) && notStar x && notStar y && mE n c ow sc x a && mE n c ow sc y b
      | _ => false
    | .ch o o' a b d => match e with
      | .Compare x [op, op'] [y, z] _ => decide (cmpOf o = some op) && decide (cmpOf o' = some op') && notSet y && notSet z && mE n c ow sc x a && mE n c ow sc y b && mE n c ow sc z d
      | _ => false
    | .sl a lo hi => match e with
      | .Subscript x (.Slice l h none _) _ => mE n c ow sc x a && mO n c ow sc l lo && mO n c ow sc h hi
      | _ => false
    | .and a b => match e with
      | .BoolOp .And [x, y] _ => mE n c ow sc x a && mE n c ow sc y b
      | .BoolOp .And (x :: y :: z :: r) p => mE n c ow sc x a && mE n c ow sc (.BoolOp .And (y :: z :: r) p) b
      | _ => false
    | .or a b => match e with
      | .BoolOp .Or [x, y] _ => mE n c ow sc x a && mE n c ow sc y b
      | .BoolOp .Or (x :: y :: z :: r) p => mE n c ow sc x a && mE n c ow sc (.BoolOp .Or (y :: z :: r) p) b
      | _ => false
    | .not a => match e with
      | .UnaryOp .Not x _ => mE n c ow sc x a
      | _ => false
    | .ite t a b => match e with
      | .IfExp x y z _ => mT n c ow sc x t && mE n c ow sc y a && mE n c ow sc z b
      | _ => false
    | .call f as => match e with
      | .Call (.Name x _) [] [] _ => decide ((x, f) ∈ c.fn) && kGl sc x && !(x == ("__debug__" : Str)) && as.isEmpty
      | .Call (.Name x _) (y :: ys) [] _ => decide ((x, f) ∈ c.fn) && kGl sc x && !(x == ("__debug__" : Str)) && (y :: ys).all notStar && mEs n c ow sc (y :: ys) as
      | _ => false
    | .callK f as ks p => match e with
      | .Call (.Name x _) (y :: ys) kws _ => (c.kw.any fun q => decide (q.x = x) && decide (q.f = f) && decide (q.ks.map some = kws.map (·.arg)) && decide (q.np = as.length) && decide (q.perm = p)) && kGl sc x && !(x == ("__debug__" : Str)) && (y :: ys).all notStar && mEs n c ow sc (y :: ys) as && mEs n c ow sc (kws.map (·.value)) ks
      | _ => false
    | .lc own p it cs elt => match e with
      | .ListComp el [⟨tg, iter, ifs, as⟩] scope _ => decide (as = 0) && blkC c.N sc scope (ownP c own) && (pslots p).all (fun i => own.contains i) && kP c (blkOw scope) (relS scope sc) tg p && (notSet iter) && mI n c ow sc tg iter it && mC n c (blkOw scope) (relS scope sc) ifs cs && mE n c (blkOw scope) (relS scope sc) el elt
      | _ => false
    | .app i a => match e with
      | .Call (.Attribute (.Name x _) at_ ap) [y] [] cp => decide (at_ = "append") && kV c sc x i && (ap.endLine == cp.line) && notStar y && mE n c ow sc y a
      | _ => false
    | .pop i => match e with
      | .Call (.Attribute (.Name x _) at_ ap) [] [] cp => decide (at_ = "pop") && kV c sc x i && (ap.endLine == cp.line)
      | _ => false
    | .popAt i a => match e with
      | .Call (.Attribute (.Name x _) at_ ap) [y] [] cp => decide (at_ = "pop") && kV c sc x i && (ap.endLine == cp.line) && notStar y && mE n c ow sc y a
      | _ => false
    | .clear i => match e with
      | .Call (.Attribute (.Name x _) at_ ap) [] [] cp => decide (at_ = "clear") && kV c sc x i && (ap.endLine == cp.line)
      | _ => false
    | .ext i a => match e with
      | .Call (.Attribute (.Name x _) at_ ap) [y] [] cp => decide (at_ = "extend") && kV c sc x i && (ap.endLine == cp.line) && notStar y && mE n c ow sc y a
      | _ => false
    | .sIx i a => match e with
      | .Subscript (.Name x _) y _ => kV c sc x i && notSlice y && mE n c ow sc y a
      | _ => false
    | .sLen i => match e with
      | .Call (.Name f _) [.Name x _] [] _ => kB c sc f "len" && kV c sc x i
      | _ => false
    | .sSl i lo hi => match e with
      | .Subscript (.Name x _) (.Slice l h none _) _ => kV c sc x i && mO n c ow sc l lo && mO n c ow sc h hi
      | _ => false
    | .lc2 own p it cs own1 p1 it1 cs1 elt => match e with
      | .ListComp el [⟨tg, iter, ifs, as⟩, ⟨tg1, iter1, ifs1, as1⟩] scope _ => decide (as = 0) && decide (as1 = 0) && blkC c.N sc scope (ownP c own) && ((pslots p).all (fun i => own.contains i) && ((pslots p1).all (fun i => own1.contains i) && own1.all (fun i => own.contains i))) && kP c (blkOw scope) (relS scope sc) tg p && notSet iter && mI n c ow sc tg iter it && mC n c (blkOw scope) (relS scope sc) ifs cs &&
          kP c (blkOw scope) (relS scope sc) tg1 p1 && notSet iter1 && mI n c (blkOw scope) (relS scope sc) tg1 iter1 it1 && mC n c (blkOw scope) (relS scope sc) ifs1 cs1 && mE n c (blkOw scope) (relS scope sc) el elt
      | _ => false
    | .mxD mx a d => match e with
      | .Call (.Name f _) [x] kws _ => kB c sc f (if mx then "max" else "min") && decide (kws.map (·.arg) = [some ("default" : Str)]) && notStar x && mE n c ow sc x a && mEs n c ow sc (kws.map (·.value)) [d]
      | _ => false
    | .thaw i a => notComp e && mE n c ow sc e a
    | .fld tb a => match e with
      | .Attribute x f _ => notSuper x && kFl c f tb && mE n c ow sc x a
      | _ => false
    | .meth tb a as => match e with
      | .Call (.Attribute x m ap) ys [] cp => notSuper x && ys.all noStar && decide (ys.length < 30) && (ap.endLine == cp.line) && kMt c m tb && mE n c ow sc x a && mEs n c ow sc ys as
      | _ => false
    | .make k f as => match e with
      | .Call (.Name x _) (y :: ys) [] _ => decide ((x, k, f) ∈ c.ct) && kGl sc x && !(x == ("__debug__" : Str)) && (y :: ys).all noStar && mEs n c ow sc (y :: ys) as
      | _ => false
    | .sumR it => match it with
      | .rng1 a => match e with
        | .Call (.Name f _) [.Call (.Name g _) [x] [] _] [] _ => kB c sc f "sum" && kB c sc g "range" && notStar x && mE n c ow sc x a
        | _ => false
      | _ => false
    | .ch3 o o' o'' a b d g => match e with
      | .Compare x [op, op', op''] [y, z, w] _ => decide (cmpOf o = some op) && decide (cmpOf o' = some op') && decide (cmpOf o'' = some op'') && notSet w && mE n c ow sc x a && mE n c ow sc y b && mE n c ow sc z d && mE n c ow sc w g
      | _ => false
    | .ins0 i a => match e with
      | .Call (.Attribute (.Name x _) at_ ap) [z, y] [] cp => decide (at_ = "insert") && kV c sc x i && (ap.endLine == cp.line) && isZero z && notStar y && mE n c ow sc y a
      | _ => false
    | .dropc a => match e with
      | .Call (.Attribute x at_ ap) [] [] cp => decide (at_ = "clear") && notSuper x && (ap.endLine == cp.line) && mE n c ow sc x a
      | _ => false
    | .dropa a b => match e with
      | .Call (.Attribute x at_ ap) [y] [] cp => decide (at_ = "append") && notSuper x && (ap.endLine == cp.line) && notStar y && mE n c ow sc x a && mE n c ow sc y b
      | _ => false
    | .eqI ne tb a b => match e with
      | .Compare x [op] [y] _ => decide (op = if ne then .NotEq else .Eq) && kEq c tb && notSet y && mE n c ow sc x a && mE n c ow sc y b
      | _ => false
    | .mn3 a b d => match e with
      | .Call (.Name f _) [x, y, z] [] _ => kB c sc f "min" && notStar x && notStar y && notStar z && mE n c ow sc x a && mE n c ow sc y b && mE n c ow sc z d
      | _ => false
    | .callD f as ds => match e with
      | .Call (.Name x _) (y :: ys) [] _ => (c.df.any fun q => decide (q.x = x) && decide (q.f = f) && decide (q.np = as.length) && decide (q.ds = ds)) && kGl sc x && !(x == ("__debug__" : Str)) && (y :: ys).all notStar && mEs n c ow sc (y :: ys) as
      | _ => false
    | .bad => true
    | .lrng it => match it with
      | .rng1 a => match e with
        | .Call (.Name f _) [.Call (.Name g _) [x] [] _] [] _ => kB c sc f "list" && kB c sc g "range" && notStar x && mE n c ow sc x a
        | _ => false
      | .rng2 a b => match e with
        | .Call (.Name f _) [.Call (.Name g _) [x, y] [] _] [] _ => kB c sc f "list" && kB c sc g "range" && notStar x && notStar y && mE n c ow sc x a && mE n c ow sc y b
        | _ => false
      | _ => false
def mEs : Nat → CK → (Str → Bool) → Scope → List Expr → List ME → Bool
  | 0, _, _, _, _, _ => false
  | n + 1, c, ow, sc, es, ms => match es, ms with
    | [], [] => true
    | e :: es, m :: ms => notStar e && mE n c ow sc e m && mEs n c ow sc es ms
    | _, _ => false
def mO : Nat → CK → (Str → Bool) → Scope → Option Expr → Option ME → Bool
  | 0, _, _, _, _, _ => false
  | n + 1, c, ow, sc, e, m => match e, m with
    | none, none => true
    | some e, some m => mE n c ow sc e m
    | _, _ => false
def mT : Nat → CK → (Str → Bool) → Scope → Expr → ME → Bool
  | 0, _, _, _, _, _ => false
  | n + 1, c, ow, sc, e, m => match e with
    | .UnaryOp .Not x _ => match m with
      | .not a => mT n c ow sc x a
      | _ => false
    | .BoolOp .And [x, y] _ => match m with
      | .and a b => mT n c ow sc x a && mT n c ow sc y b
      | _ => false
    | .BoolOp .And (x :: y :: z :: r) p => match m with
      | .and a b => mT n c ow sc x a && mT n c ow sc (.BoolOp .And (y :: z :: r) p) b
      | _ => false
    | .BoolOp .Or [x, y] _ => match m with
      | .or a b => mT n c ow sc x a && mT n c ow sc y b
      | _ => false
    | .BoolOp .Or (x :: y :: z :: r) p => match m with
      | .or a b => mT n c ow sc x a && mT n c ow sc (.BoolOp .Or (y :: z :: r) p) b
      | _ => false
    | .Compare x [op] [y] _ => match m with
      | .o2 o a b => decide (cmpOf o = some op) && notSet y && mE n c ow sc x a && mE n c ow sc y b
      | .eqI ne tb a b => decide (op = if ne then .NotEq else .Eq) && kEq c tb && notSet y && mE n c ow sc x a && mE n c ow sc y b
      | _ => false
    | .Compare x [op, op'] [y, z] _ => match m with
      | .ch o o' a b d => decide (cmpOf o = some op) && decide (cmpOf o' = some op') && notSet y && notSet z && mE n c ow sc x a && mE n c ow sc y b && mE n c ow sc z d
      | _ => false
    | .Compare x [op, op', op''] [y, z, w] _ => match m with
      | .ch3 o o' o'' a b d g => decide (cmpOf o = some op) && decide (cmpOf o' = some op') && decide (cmpOf o'' = some op'') && notSet w && mE n c ow sc x a && mE n c ow sc y b && mE n c ow sc z d && mE n c ow sc w g
      | _ => false
    | e => plainTest e && mE n c ow sc e m
def mC : Nat → CK → (Str → Bool) → Scope → List Expr → List ME → Bool
  | 0, _, _, _, _, _ => false
  | n + 1, c, ow, sc, es, ms => match es, ms with
    | [], [] => true
    | [e], [m] => mT n c ow sc e m
    | _, _ => false
def mI : Nat → CK → (Str → Bool) → Scope → Expr → Expr → IT → Bool
  | 0, _, _, _, _, _, _ => false
  | n + 1, c, ow, sc, tg, e, it => match it with
    | .seq a => mE n c ow sc e a
    | .tpl a => mE n c ow sc e a
    | .rng1 a => match e with
      | .Call (.Name f _) [x] [] _ => kB c sc f "range" && notStar x && mE n c ow sc x a
      | _ => false
    | .rng2 a b => match e with
      | .Call (.Name f _) [x, y] [] _ => kB c sc f "range" && notStar x && notStar y && mE n c ow sc x a && mE n c ow sc y b
      | _ => false
    | .enum a => match e, tg with
      | .Call (.Name f _) [x] [] _, .Tuple _ _ _ => kB c sc f "enumerate" && notStar x && mE n c ow sc x a
      | _, _ => false
    | .zip a b => match e, tg with
      | .Call (.Name f _) [x, y] [] _, .Tuple _ _ _ => kB c sc f "zip" && notStar x && notStar y && mE n c ow sc x a && mE n c ow sc y b
      | _, _ => false
end

/-! ### a context where the look holds -/
def permV (p : List Nat) (l : List V) : List V := p.filterMap fun i => l[i]?
/-- how an instance is made, at a level -/
def CtOk (X : Cx) (P : RP) (C : CallS) (kk : Nat) (c f : Nat) : Prop := (∀ a, C f a = none) ∨ ∃ (k : Nat) (fI : Addr) (fd : FuncData) (ps : List Str), k + 1 ≤ kk ∧ Mk X.K (P.ca c) fI ∧
  GFn X.prog X.w X.K X.mg X.base CX0 k fI fd ps (spI P (C f) c (ps.length - 1)) ∧ Binds X.K fd ps [] ∧ ∀ a r a', C f a = some (r, a') → a.length = ps.length - 1
structure Ctx (P : RP) (G : Nat → D) (C : CallS) (c : CK) (ow : Str → Bool) (sc : Scope) (kk : Nat) (X : Cx) : Prop where
  hN : X.N = c.N
  nd : c.N.Nodup
  hsc : X.env.scope = sc
  kind : sc.kind = .function
  hK : P.K = X.K
  calm : X.calm = true
  xe : PassesOwn (model X.prog X.w) X.A X.env X.xe
  room : Room kk X.A
  gd : X.A.guards = some []
  bl : ∀ x ∈ c.bl, X.mg x = none
  gl : ∀ p ∈ c.gl, ∃ u v, X.mg p.1 = some u ∧ RelV v u ∧ ∀ L H, Rep P L H (G p.2) v
  fn : ∀ p ∈ c.fn, ∃ f fd ps, GFn X.prog X.w X.K X.mg X.base CX0 kk f fd ps (spOf P (C p.2) ps.length) ∧ X.mg p.1 = some (.ref f) ∧ PySem.W.keepIn X.K (.ref f) = true ∧ Binds X.K fd ps [] ∧ ∀ a r a', C p.2 a = some (r, a') → a.length = ps.length
  kw : ∀ q ∈ c.kw, ∃ f fd ps g gV, GFn X.prog X.w X.K X.mg X.base CX0 kk f fd ps (spOf P (C q.f) ps.length) ∧ X.mg q.x = some (.ref f) ∧ PySem.W.keepIn X.K (.ref f) = true ∧ KBinds X.K fd ps q.ks g gV ∧
    (∀ vs zs : List V, vs.length = q.np → zs.length = q.ks.length → gV vs zs = permV q.perm (vs ++ zs)) ∧ ∀ a r a', C q.f a = some (r, a') → a.length = ps.length
  hC : ∀ j a r a', C j a = some (r, a') → ∀ i, r ≠ .ref i
  fnok : ∀ x, ow x = true → X.fn x = true
  cl : ∀ (k : Nat) (fs : List Str), c.fl[k]? = some fs → P.fl k = fs ∧ fs.Nodup ∧ Cls X.K (P.ca k) ∧ ∀ f ∈ fs, NoAttr X.K (P.ca k) f
  mt : ∀ q ∈ c.mt, MethOk X P C kk q.1 q.2.1 q.2.2
  ct : ∀ q ∈ c.ct, X.mg q.1 = some (.ref (P.ca q.2.1)) ∧ CtOk X P C kk q.2.1 q.2.2
  room1 : Room kk X.A.in1
  df : ∀ q ∈ c.df, ∃ f fd ps us, GFn X.prog X.w X.K X.mg X.base CX0 kk f fd ps (spOf P (C q.f) ps.length) ∧ X.mg q.x = some (.ref f) ∧ PySem.W.keepIn X.K (.ref f) = true ∧ Binds X.K fd ps us ∧ Vals (q.ds.map Df.v) us ∧ ∀ a r a', C q.f a = some (r, a') → a.length = ps.length
  ne : ∀ k ∈ c.ne, NeOk X.K (P.ca k)
  isc : ∀ q ∈ c.isc, X.mg q.1 = some (.ref (P.ca q.2)) ∧ Cls X.K (P.ca q.2) ∧ IscOk X.K (P.ca q.2)

section
variable {P : RP} {G : Nat → D} {C : CallS} {c : CK} {ow : Str → Bool} {sc : Scope} {kk : Nat} {X : Cx}
theorem Ctx.units (h : Ctx P G C c ow sc kk X) : X.A.units + 65 < cLine := by have := h.room.un; omega
theorem Ctx.glb (h : Ctx P G C c ow sc kk X) {x : Str} (e : kGl sc x = true) : Gl X x := by
  unfold kGl at e
  show X.env.scope.names.lookup x = _
  rw [h.hsc]; exact of_decide_eq_true e
theorem kB_spec {x y : Str} (h : Ctx P G C c ow sc kk X) (e : kB c sc x y = true) : x = y ∧ Gl X x ∧ X.mg x = none := by
  unfold kB at e
  simp only [Bool.and_eq_true, decide_eq_true_eq] at e
  obtain ⟨⟨rfl, h2⟩, h3⟩ := e
  exact ⟨rfl, h.glb h3, h.bl _ h2⟩
theorem kV_spec {x : Str} {i : Nat} {pos : Pos} (h : Ctx P G C c ow sc kk X) (e : kV c sc x i = true) : PE X (.Name x pos) (tVar i) := by
  unfold kV at e
  simp only [Bool.and_eq_true, decide_eq_true_eq, Bool.not_eq_true'] at e
  obtain ⟨⟨⟨h1, h2⟩, h3⟩, h4⟩ := e
  refine pe_var (by rw [h.hN]; exact h1) ?_ h3 h4
  unfold vis at h2
  unfold Vis
  rw [h.hsc]
  split at h2
  · exact .inl (by assumption)
  · exact .inr (.inl (by assumption))
  · exact .inr (.inr (by assumption))
  · cases h2
theorem star_ok {e : Expr} {es : List Expr} {env : Env} (h : notStar e = true) : starEach (e :: es) env = (false, eval e env) :: starEach es env := by
  cases e <;> first | rfl | cases h
theorem star_any {pos : Pos} {env : Env} : ∀ {es : List Expr}, es.all notStar = true → (backTo pos (starEach es env)).any (·.1) = false
  | [], _ => rfl
  | e :: es, h => by
    simp only [List.all_cons, Bool.and_eq_true] at h
    rw [star_ok h.1]
    show (false || (backTo pos (starEach es env)).any (·.1)) = false
    rw [star_any h.2]; rfl
theorem plain_ok {e : Expr} {env : Env} (h : plainTest e = true) : ∀ whole, isTrue e env whole = (do let v ← whole; standAt e.pos; holding [v] (truthy v)) := by
  intro whole
  cases e <;> first | rfl | (exfalso; simp [plainTest] at h; done) | skip
  rename_i op x p
  cases op <;> first | rfl | (exfalso; simp [plainTest] at h; done)
theorem slice_ok {e : Expr} (h : notSlice e = true) : PlainIx e := by
  intro o i
  cases e <;> first | rfl | cases h
theorem comp_ok {e : Expr} {t : Option Expr} {l : Nat} {env : Env} (h : notComp e = true) : swapsWith e t l env = pure false := by
  cases e <;> first | rfl | cases h
theorem set_ok {e : Expr} {op : CmpOp} (h : notSet e = true) : behindInMarks op e = false := by
  cases e <;> first | rfl | cases h
theorem fold_ok {e : Expr} {env : Env} (h : notSet e = true) : ∀ x, foldedSetIterable e env x = pure x := by
  intro x
  cases e <;> first | rfl | cases h
end
end MP

namespace MP
open PySem PySem.Spec PyProof.Rows L2
section
variable {P : RP} {G : Nat → D} {C : CallS} {c : CK} {ow : Str → Bool} {sc : Scope} {kk : Nat} {X : Cx}
theorem lookup_mem {tb : List (Nat × Nat)} {k f : Nat} (h : tb.lookup k = some f) : (k, f) ∈ tb := by
  induction tb with
  | nil => cases h
  | cons p tb ih =>
    obtain ⟨a, b⟩ := p
    rw [List.lookup_cons] at h
    split at h
    · rename_i e
      cases h
      rw [beq_iff_eq] at e
      subst e
      exact List.mem_cons_self
    · exact List.mem_cons_of_mem _ (ih h)
theorem evs_len : ∀ {ms : List ME} {loc loc' : Loc} {rs : List R}, evs G C ms loc = some (rs, loc') → rs.length = ms.length
  | [], loc, loc', rs, h => by simp only [evs, Option.some.injEq, Prod.mk.injEq] at h; rw [← h.1]; rfl
  | m :: ms, loc, loc', rs, h => by
    simp only [evs] at h
    split at h
    · split at h
      · rename_i r l1 h1 rs' l2 h2
        simp only [Option.some.injEq, Prod.mk.injEq] at h
        rw [← h.1]
        simp [evs_len h2]
      · cases h
    · cases h
theorem mapM_len : ∀ {rs : List R} {ds : List D}, rs.mapM toVal = some ds → ds.length = rs.length
  | [], ds, h => by rw [List.mapM_nil] at h; cases h; rfl
  | r :: rs, ds, h => by
    rw [List.mapM_cons] at h
    cases e1 : toVal r with
    | none => rw [e1] at h; cases h
    | some d =>
      cases e2 : rs.mapM toVal with
      | none => rw [e1, e2] at h; cases h
      | some ds' =>
        rw [e1, e2] at h
        cases h
        simp [mapM_len e2]
theorem mEs_len : ∀ {n : Nat} {es : List Expr} {ms : List ME}, mEs n c ow sc es ms = true → es.length = ms.length
  | 0, _, _, h => by simp [mEs] at h
  | n + 1, es, ms, h => by
    simp only [mEs] at h
    split at h
    · rfl
    · simp only [Bool.and_eq_true] at h
      simp [mEs_len h.2]
    · cases h
theorem perm_rep {L0 : Addr → Prop} {loc : Loc} {σ : Sg} {H : Hp} {rs : List R} {vs : List V} (h : RepRs P L0 loc σ H rs vs) : ∀ {p : List Nat} {ts : List R}, p.mapM (fun i => rs[i]?) = some ts → RepRs P L0 loc σ H ts (permV p vs)
  | [], ts, e => by rw [List.mapM_nil] at e; cases e; rfl
  | i :: p, ts, e => by
    rw [List.mapM_cons] at e
    cases e1 : rs[i]? with
    | none => rw [e1] at e; cases e
    | some r =>
      cases e2 : p.mapM (fun i => rs[i]?) with
      | none => rw [e1, e2] at e; cases e
      | some ts' =>
        rw [e1, e2] at e
        cases e
        obtain ⟨v, e3, e4⟩ := h.get e1
        exact ⟨v, permV p vs, by unfold permV; rw [List.filterMap_cons, e3], e4, perm_rep h e2⟩
/-- what the look gives, at a fuel -/
structure Snd (P : RP) (G : Nat → D) (C : CallS) (c : CK) (kk : Nat) (n : Nat) : Prop where
  E : ∀ {ow : Str → Bool} {sc : Scope} {X : Cx} {e : Expr} {m : ME}, Ctx P G C c ow sc kk X → mE n c ow sc e m = true → PE X e (tE P (ev G C m))
  Es : ∀ {ow : Str → Bool} {sc : Scope} {X : Cx} {es : List Expr} {ms : List ME}, Ctx P G C c ow sc kk X → mEs n c ow sc es ms = true → PA X es (tA P (evs G C ms))
  Ks : ∀ {ow : Str → Bool} {sc : Scope} {X : Cx} {ks : List Keyword} {ms : List ME}, Ctx P G C c ow sc kk X → mEs n c ow sc (ks.map (·.value)) ms = true → PK X ks (tA P (evs G C ms))
  O : ∀ {ow : Str → Bool} {sc : Scope} {X : Cx} {e : Option Expr} {m : Option ME}, Ctx P G C c ow sc kk X → mO n c ow sc e m = true → PO X e (tO P (evo G C m))
  T : ∀ {ow : Str → Bool} {sc : Scope} {X : Cx} {e : Expr} {m : ME}, Ctx P G C c ow sc kk X → mT n c ow sc e m = true → PT X e (tT P (evT G C m))
  W : ∀ {ow : Str → Bool} {sc : Scope} {X : Cx} {op : BoolOp} {vs : List Expr} {p : Pos} {m : ME}, Ctx P G C c ow sc kk X → mT n c ow sc (.BoolOp op vs p) m = true → PW X (.BoolOp op vs p) (tT P (evT G C m))
  Cs : ∀ {ow : Str → Bool} {sc : Scope} {X : Cx} {es : List Expr} {ms : List ME}, Ctx P G C c ow sc kk X → mC n c ow sc es ms = true → PTs X es (tT P (evC G C ms))
  I : ∀ {ow : Str → Bool} {sc : Scope} {X : Cx} {tg e : Expr} {it : IT}, Ctx P G C c ow sc kk X → mI n c ow sc tg e it = true → PI X tg e (tI P (evI G C it))
theorem snd_zero : Snd P G C c kk 0 :=
  ⟨fun _ h => (by simp [mE] at h), fun _ h => (by simp [mEs] at h), fun _ h => (by simp [mEs] at h), fun _ h => (by simp [mO] at h), fun _ h => (by simp [mT] at h), fun _ h => (by simp [mT] at h), fun _ h => (by simp [mC] at h), fun _ h => (by simp [mI] at h)⟩
variable {n : Nat}
theorem evT_spec {m : ME} {loc loc' : Loc} {k : Bool} (h : evT G C m loc = some (k, loc')) : ∃ r d, ev G C m loc = some (r, loc') ∧ res loc' r = some d ∧ truth d = some k := by
  unfold evT at h
  split at h
  · rename_i r l1 h1
    split at h
    · rename_i d h2
      split at h
      · rename_i k' h3
        simp only [Option.some.injEq, Prod.mk.injEq] at h
        obtain ⟨rfl, rfl⟩ := h
        exact ⟨r, d, h1, h2, h3⟩
      · cases h
    · cases h
  · cases h
theorem evT_of {m : ME} {loc loc' : Loc} {k : Bool} {r : R} {d : D} (h1 : ev G C m loc = some (r, loc')) (h2 : res loc' r = some d) (h3 : truth d = some k) : evT G C m loc = some (k, loc') := by
  unfold evT
  rw [h1]
  simp only [h2, h3]
/-- leaves -/
theorem S_c (S : Snd P G C c kk n) (hx : Ctx P G C c ow sc kk X) {e : Expr} {d : D} (h : mE (n + 1) c ow sc e (.c d) = true) : PE X e (tE P (ev G C (.c d))) := by
  have hg : ∀ loc r loc', ev G C (.c d) loc = some (r, loc') → r = .val d ∧ loc' = loc := fun loc r loc' e => by
    simp only [ev, Option.some.injEq, Prod.mk.injEq] at e
    exact ⟨e.1.symm, e.2.symm⟩
  simp only [mE] at h
  split at h
  · split at h
    · cases of_decide_eq_true h
      exact pe_int.imp fun σ H Q q => e_c (fun _ _ => rep_int) hg q
    · cases of_decide_eq_true h
      exact pe_bl.imp fun σ H Q q => e_c (fun _ _ => rep_bl) hg q
    · exact pe_non.imp fun σ H Q q => e_c (fun _ _ => rep_non) hg q
    · cases of_decide_eq_true h
      exact pe_str.imp fun σ H Q q => e_c (fun _ _ => by unfold Rep; rfl) hg q
    · cases h
  · cases h
theorem S_g (S : Snd P G C c kk n) (hx : Ctx P G C c ow sc kk X) {e : Expr} {k : Nat} (h : mE (n + 1) c ow sc e (.g k) = true) : PE X e (tE P (ev G C (.g k))) := by
  have hg : ∀ loc r loc', ev G C (.g k) loc = some (r, loc') → r = .val (G k) ∧ loc' = loc := fun loc r loc' e => by
    simp only [ev, Option.some.injEq, Prod.mk.injEq] at e
    exact ⟨e.1.symm, e.2.symm⟩
  simp only [mE] at h
  split at h
  · simp only [Bool.and_eq_true, decide_eq_true_eq, Bool.not_eq_true'] at h
    obtain ⟨⟨h1, h2⟩, h3⟩ := h
    obtain ⟨u, v, e1, e2, e3⟩ := hx.gl _ h1
    exact (pe_glob (hx.glb h2) e1 e2 h3).imp fun σ H Q q => e_c e3 hg q
  · cases h
theorem S_v (S : Snd P G C c kk n) (hx : Ctx P G C c ow sc kk X) {e : Expr} {i : Nat} (h : mE (n + 1) c ow sc e (.v i) = true) : PE X e (tE P (ev G C (.v i))) := by
  simp only [mE] at h
  split at h
  · refine (kV_spec hx h).imp fun σ H Q q => e_v (fun loc r loc' e => ?_) q
    simp only [ev] at e
    split at e
    · rename_i d hd
      simp only [Option.some.injEq, Prod.mk.injEq] at e
      exact ⟨d, hd, e.1.symm, e.2.symm⟩
    · cases e
  · cases h
theorem S_r (S : Snd P G C c kk n) (hx : Ctx P G C c ow sc kk X) {e : Expr} {i : Nat} (h : mE (n + 1) c ow sc e (.r i) = true) : PE X e (tE P (ev G C (.r i))) := by
  simp only [mE] at h
  split at h
  · refine (kV_spec hx h).imp fun σ H Q q => e_r (fun loc r loc' e => ?_) q
    simp only [ev] at e
    split at e
    · rename_i b ds hd
      simp only [Option.some.injEq, Prod.mk.injEq] at e
      exact .inl ⟨.inl ⟨b, ds, hd⟩, e.1.symm, e.2.symm⟩
    · rename_i ns hd
      simp only [Option.some.injEq, Prod.mk.injEq] at e
      exact .inl ⟨.inr ⟨ns, hd⟩, e.1.symm, e.2.symm⟩
    · rename_i d hd
      simp only [Option.some.injEq, Prod.mk.injEq] at e
      exact .inr ⟨d, hd, e.1.symm, e.2.symm⟩
    · cases e
  · cases h
theorem S_fz (S : Snd P G C c kk n) (hx : Ctx P G C c ow sc kk X) {e : Expr} {i : Nat} (h : mE (n + 1) c ow sc e (.fz i) = true) : PE X e (tE P (ev G C (.fz i))) := by
  simp only [mE] at h
  split at h
  · refine (kV_spec hx h).imp fun σ H Q q => e_fz (fun loc r loc' e => ?_) q
    simp only [ev] at e
    split at e
    · rename_i ds hd
      simp only [Option.some.injEq, Prod.mk.injEq] at e
      exact .inl ⟨ds, hd, e.1.symm, e.2.symm⟩
    · rename_i d hd
      simp only [Option.some.injEq, Prod.mk.injEq] at e
      exact .inr ⟨d, hd, e.1.symm, e.2.symm⟩
    · cases e
  · cases h
theorem S_tup (S : Snd P G C c kk n) (hx : Ctx P G C c ow sc kk X) {e : Expr} {es : List ME} (h : mE (n + 1) c ow sc e (.tup es) = true) : PE X e (tE P (ev G C (.tup es))) := by
  simp only [mE] at h
  split at h
  · simp only [Bool.and_eq_true, decide_eq_true_eq] at h
    refine (pe_tup (S.Es hx h.1)).imp fun σ H Q q => e_tup (fun loc r loc' e => ?_) q
    simp only [ev] at e
    split at e
    · rename_i rs l1 h1
      split at e
      · rename_i ds h2
        simp only [Option.some.injEq, Prod.mk.injEq] at e
        obtain ⟨e1, rfl⟩ := e
        refine ⟨rs, ds, h1, h2, ?_, e1.symm⟩
        rw [mapM_len h2, evs_len h1]
        exact Nat.le_trans h.2 (by decide)
      · cases e
    · cases e
  · cases h
theorem S_lst (S : Snd P G C c kk n) (hx : Ctx P G C c ow sc kk X) {e : Expr} {es : List ME} (h : mE (n + 1) c ow sc e (.lst es) = true) : PE X e (tE P (ev G C (.lst es))) := by
  simp only [mE] at h
  split at h
  · simp only [Bool.and_eq_true, decide_eq_true_eq] at h
    refine (pe_lst (S.Es hx h.1)).imp fun σ H Q q => e_lst (fun loc r loc' e => ?_) q
    simp only [ev] at e
    split at e
    · rename_i rs l1 h1
      split at e
      · rename_i ds h2
        simp only [Option.some.injEq, Prod.mk.injEq] at e
        obtain ⟨e1, rfl⟩ := e
        refine ⟨rs, ds, h1, h2, ?_, e1.symm⟩
        rw [mapM_len h2, evs_len h1]
        exact Nat.le_trans h.2 (by decide)
      · cases e
    · cases e
  · cases h
theorem o1_spec {o : O1} {a : ME} : ∀ loc r loc', ev G C (.o1 o a) loc = some (r, loc') → ∃ ra d, ev G C a loc = some (ra, loc') ∧ res loc' ra = some d ∧ ap1 o d = some r := fun loc r loc' e => by
  simp only [ev] at e
  split at e
  · rename_i ra l1 h1
    split at e
    · rename_i d h2
      split at e
      · rename_i r' h3
        simp only [Option.some.injEq, Prod.mk.injEq] at e
        obtain ⟨rfl, rfl⟩ := e
        exact ⟨ra, d, h1, h2, h3⟩
      · cases e
    · cases e
  · cases e
theorem callO1 (hx : Ctx P G C c ow sc kk X) {o : O1} {a : ME} {x : Expr} {f : Str} {p pos : Pos} (hk : kB c sc f (nameO1 o) = true) (hs : notStar x = true) (he : PE X x (tE P (ev G C a)))
    (hn : (match o with | .neg => false | .isi _ => false | .rev => false | .lenSet => false | .isC _ => false | _ => true) = true) : PE X (.Call (.Name f p) [x] [] pos) (tE P (ev G C (.o1 o a))) := by
  obtain ⟨rfl, hg, hm⟩ := kB_spec hx hk
  have ha : PA X [x] (tCons (tE P (ev G C a)) tNil) := pa_cons he pa_nil (star_ok hs)
  have rd : ∀ σ H Q, tE P (ev G C (.o1 o a)) σ H Q → tCB (r1 P (ap1 o)) (tCons (tE P (ev G C a)) tNil) σ H Q := fun σ H Q q => by
    obtain ⟨L0, loc, r, loc', R, e, k⟩ := o1_read (f := ap1 o) o1_spec q
    exact ⟨L0, loc, r, loc', R, e, fun v H' p => ⟨v, rfl, k v H' p⟩⟩
  cases o with
  | neg => cases hn
  | isi t => cases hn
  | isC k => cases hn
  | rev => cases hn
  | lenSet => cases hn
  | len => exact (pe_callB (c_len hx.hK) hg hm (by decide +kernel) ha (by decide +kernel) (by decide +kernel) (star_ok hs) rfl).imp rd
  | int => exact (pe_callTy c_int hg hm (by decide +kernel) ha (by decide +kernel) (by decide +kernel) (star_ok hs) rfl).imp rd
  | list => exact (pe_callTy (c_list hx.hK) hg hm (by decide +kernel) ha (by decide +kernel) (by decide +kernel) (star_ok hs) rfl).imp rd
  | tuple => exact (pe_callTy (c_tuple hx.hK) hg hm (by decide +kernel) ha (by decide +kernel) (by decide +kernel) (star_ok hs) rfl).imp rd
  | sorted => exact (pe_callB (c_sorted hx.hK hx.units) hg hm (by decide +kernel) ha (by decide +kernel) (by decide +kernel) (star_ok hs) rfl).imp rd
  | all => exact (pe_callB (c_all hx.calm) hg hm (by decide +kernel) ha (by decide +kernel) (by decide +kernel) (star_ok hs) rfl).imp rd
  | any => exact (pe_callB (c_any hx.calm) hg hm (by decide +kernel) ha (by decide +kernel) (by decide +kernel) (star_ok hs) rfl).imp rd
  | sum => exact (pe_callB (c_sum hx.hK hx.calm) hg hm (by decide +kernel) ha (by decide +kernel) (by decide +kernel) (star_ok hs) rfl).imp rd
  | abs => exact (pe_callB c_abs hg hm (by decide +kernel) ha (by decide +kernel) (by decide +kernel) (star_ok hs) rfl).imp rd
  | repr => exact (pe_callB (c_repr hx.hK hx.gd hx.units) hg hm (by decide +kernel) ha (by decide +kernel) (by decide +kernel) (star_ok hs) rfl).imp rd
  | bool => exact (pe_callTy c_bool hg hm (by decide +kernel) ha (by decide +kernel) (by decide +kernel) (star_ok hs) rfl).imp rd
theorem S_isi (S : Snd P G C c kk n) (hx : Ctx P G C c ow sc kk X) {t : Ty} {a : ME} {x : Expr} {f tn : Str} {p p2 pos : Pos} (h1 : kB c sc f "isinstance" = true) (h2 : kB c sc tn (tyS t) = true) (hs : notStar x = true) (he : PE X x (tE P (ev G C a))) :
    PE X (.Call (.Name f p) [x, .Name tn p2] [] pos) (tE P (ev G C (.o1 (.isi t) a))) := by
  obtain ⟨rfl, hg, hm⟩ := kB_spec hx h1
  obtain ⟨rfl, hg2, hm2⟩ := kB_spec hx h2
  have hty : PE X (.Name (tyS t) p2) (tC (.ty (tyN t))) := by
    cases t <;> exact pe_bltn hg2 hm2 (by decide +kernel) rfl (by decide +kernel) (by decide +kernel)
  have ha : PA X [x, .Name (tyS t) p2] (tCons (tE P (ev G C a)) (tCons (tC (.ty (tyN t))) tNil)) := pa_cons he (pa_cons hty pa_nil rfl) (star_ok hs)
  refine (pe_callB (c_isi hx.hK t) hg hm (by decide +kernel) ha (by decide +kernel) (by decide +kernel) (star_ok hs) rfl).imp fun σ H Q q => ?_
  obtain ⟨L0, loc, r, loc', R, e, k⟩ := o1_read (f := ap1 (.isi t)) o1_spec q
  exact ⟨L0, loc, r, loc', R, e, fun v H' p => ⟨v, rfl, k v H' p⟩⟩
theorem S_isC (S : Snd P G C c kk n) (hx : Ctx P G C c ow sc kk X) {k : Nat} {a : ME} {x : Expr} {f tn : Str} {p p2 pos : Pos} (h1 : kB c sc f "isinstance" = true) (h2 : (tn, k) ∈ c.isc) (h3 : kGl sc tn = true) (h4 : (tn == ("__debug__" : Str)) = false) (hs : notStar x = true) (he : PE X x (tE P (ev G C a))) :
    PE X (.Call (.Name f p) [x, .Name tn p2] [] pos) (tE P (ev G C (.o1 (.isC k) a))) := by
  obtain ⟨rfl, hg, hm⟩ := kB_spec hx h1
  obtain ⟨q1, q2, q3⟩ := hx.isc _ h2
  have hty : PE X (.Name tn p2) (tC (.ref (P.ca k))) := pe_glob (hx.glb h3) q1 rfl h4
  have ha : PA X [x, .Name tn p2] (tCons (tE P (ev G C a)) (tCons (tC (.ref (P.ca k))) tNil)) := pa_cons he (pa_cons hty pa_nil rfl) (star_ok hs)
  refine (pe_callB (c_isC hx.hK q2 q3) hg hm (by decide +kernel) ha (by decide +kernel) (by decide +kernel) (star_ok hs) rfl).imp fun σ H Q q => ?_
  obtain ⟨L0, loc, r, loc', R, e, k'⟩ := o1_read (f := ap1 (.isC k)) o1_spec q
  exact ⟨L0, loc, r, loc', R, e, fun v H' p => ⟨v, rfl, k' v H' p⟩⟩
theorem S_o1 (S : Snd P G C c kk n) (hx : Ctx P G C c ow sc kk X) {e : Expr} {o : O1} {a : ME} (h : mE (n + 1) c ow sc e (.o1 o a) = true) : PE X e (tE P (ev G C (.o1 o a))) := by
  simp only [mE] at h
  split at h
  · split at h
    · exact (pe_un u_neg (S.E hx h)).imp fun σ H Q q => o1_read o1_spec q
    · cases h
  · split at h
    · simp only [Bool.and_eq_true] at h
      exact S_isi S hx h.1.1.1 h.1.1.2 h.1.2 (S.E hx h.2)
    · cases h
  · split at h
    · simp only [Bool.and_eq_true, decide_eq_true_eq, Bool.not_eq_true'] at h
      exact S_isC S hx h.1.1.1.1.1 h.1.1.1.1.2 h.1.1.1.2 h.1.1.2 h.1.2 (S.E hx h.2)
    · cases h
  · split at h
    · simp only [Bool.and_eq_true, decide_eq_true_eq] at h
      obtain ⟨rfl, h2⟩ := h
      refine (pe_revL (S.E hx h2)).imp fun σ H Q q => e_rev (fun loc r loc' e => ?_) q
      obtain ⟨ra, d, e1, e2, e3⟩ := o1_spec _ _ _ e
      simp only [ap1] at e3
      split at e3
      · cases e3
        exact ⟨ra, _, e1, e2, rfl⟩
      · cases e3
    · cases h
  · split at h
    · rename_i f p1 g p2 x p3 p4
      simp only [Bool.and_eq_true] at h
      obtain ⟨⟨⟨h1, h2⟩, h3⟩, h4⟩ := h
      obtain ⟨rfl, hg, hm⟩ := kB_spec hx h1
      obtain ⟨rfl, hg2, hm2⟩ := kB_spec hx h2
      refine (pe_lenSetT hx.calm (by have := hx.units; omega) hg hm hg2 hm2 (S.E hx h4) (star_ok h3)).imp fun σ H Q q => e_lenSet hx.hK (fun loc r loc' e => ?_) q
      obtain ⟨ra, d, e1, e2, e3⟩ := o1_spec _ _ _ e
      simp only [ap1] at e3
      split at e3
      · split at e3
        · rename_i ts h5
          split at e3
          · rename_i h6
            cases e3
            exact ⟨ra, _, ts, e1, e2, h5, h6, rfl⟩
          · cases e3
        · cases e3
      · cases e3
    · cases h
  · rename_i o' hn1 hn2 hn3 hn4 hn5
    split at h
    · simp only [Bool.and_eq_true] at h
      refine callO1 hx h.1.1 h.1.2 (S.E hx h.2) ?_
      cases o <;> first | rfl | exact absurd rfl hn1 | exact absurd rfl (hn2 _) | exact absurd rfl (hn3 _) | exact absurd rfl hn4 | exact absurd rfl hn5
    · cases h
theorem S_thaw (S : Snd P G C c kk n) (hx : Ctx P G C c ow sc kk X) {e : Expr} {i : Nat} {a : ME} (h : mE (n + 1) c ow sc e (.thaw i a) = true) : PE X e (tE P (ev G C (.thaw i a))) := by
  simp only [mE, Bool.and_eq_true] at h
  refine (S.E hx h.2).imp fun σ H Q q => e_thaw (i := i) (fun loc r loc' e => ?_) q
  simp only [ev] at e
  split at e
  · rename_i r1 l1 e1
    split at e
    · rename_i ds0 ds h1 h2
      split at e
      · rename_i hk
        simp only [Bool.and_eq_true] at hk
        simp only [Option.some.injEq, Prod.mk.injEq] at e
        obtain ⟨rfl, rfl⟩ := e
        exact ⟨l1, ds0, ds, e1, h1, h2, hk.1.1, hk.1.2, hk.2, rfl⟩
      · cases e
    · cases e
  · cases e
theorem S_fld (S : Snd P G C c kk n) (hx : Ctx P G C c ow sc kk X) {e : Expr} {tb : List (Nat × Nat)} {a : ME} (h : mE (n + 1) c ow sc e (.fld tb a) = true) : PE X e (tE P (ev G C (.fld tb a))) := by
  simp only [mE] at h
  split at h
  · rename_i x f pos
    simp only [Bool.and_eq_true] at h
    obtain ⟨⟨h1, h2⟩, h3⟩ := h
    refine (pe_fld (S.E hx h3) (base_ok h1)).imp fun σ H Q q => e_fld (tb := tb) (fun loc r loc' e => ?_) (fun k i hl => ?_) q
    · simp only [ev] at e
      split at e
      · rename_i k fs l1 e1
        split at e
        · rename_i i e2
          split at e
          · rename_i d e3
            simp only [Option.some.injEq, Prod.mk.injEq] at e
            obtain ⟨rfl, rfl⟩ := e
            exact ⟨k, fs, i, d, e1, e2, e3, rfl⟩
          · cases e
        · cases e
      · cases e
    · have hm := lookup_mem hl
      have := List.all_eq_true.mp h2 _ hm
      simp only at this
      split at this
      · rename_i fs hfs
        obtain ⟨q1, q2, q3, q4⟩ := hx.cl _ _ hfs
        have hf := of_decide_eq_true this
        exact ⟨q3, q4 _ (List.mem_of_getElem? hf), by rw [q1]; exact hf, by rw [q1]; exact q2⟩
      · cases this
  · cases h
theorem meth_spec {tb : List (Nat × Nat)} {a : ME} {as : List ME} : ∀ loc r loc', ev G C (.meth tb a as) loc = some (r, loc') → ∃ c fs f l1 rs l2 b b', ev G C a loc = some (.val (.ins c fs), l1) ∧ tb.lookup c = some f ∧ evs G C as l1 = some (rs, l2) ∧
    nodupB (refs (R.val (.ins c fs) :: rs)) = true ∧ argsOf l2 (R.val (.ins c fs) :: rs) = some b ∧ C f b = some (r, b') ∧ given (R.val (.ins c fs) :: rs) b' l2 = some loc' := fun loc r loc' e => by
  simp only [ev] at e
  split at e
  · rename_i k fs l1 e1
    split at e
    · rename_i f e2
      split at e
      · rename_i rs l2 e3
        unfold doCall at e
        split at e
        · rename_i e4
          split at e
          · rename_i b e5
            split at e
            · rename_i r' b' e6
              split at e
              · rename_i l3 e7
                simp only [Option.some.injEq, Prod.mk.injEq] at e
                obtain ⟨rfl, rfl⟩ := e
                exact ⟨k, fs, f, l1, rs, l2, b, b', e1, e2, e3, e4, e5, e6, e7⟩
              · cases e
            · cases e
          · cases e
        · cases e
      · cases e
    · cases e
  · cases e
theorem S_meth (S : Snd P G C c kk n) (hx : Ctx P G C c ow sc kk X) {e : Expr} {tb : List (Nat × Nat)} {a : ME} {as : List ME} (h : mE (n + 1) c ow sc e (.meth tb a as) = true) : PE X e (tE P (ev G C (.meth tb a as))) := by
  simp only [mE] at h
  split at h
  · rename_i x m ap ys cp
    simp only [Bool.and_eq_true, decide_eq_true_eq] at h
    obtain ⟨⟨⟨⟨⟨⟨h1, h2⟩, h3⟩, h4⟩, h5⟩, h6⟩, h7⟩ := h
    have hm : ∀ k f, tb.lookup k = some f → Cls X.K (P.ca k) ∧ m ∉ P.fl k ∧ MethOk X P C kk k m f := fun k f hl => by
      have := List.all_eq_true.mp h5 _ (lookup_mem hl)
      simp only [Bool.and_eq_true, decide_eq_true_eq] at this
      obtain ⟨z1, z2⟩ := this
      split at z2
      · rename_i fs hfs
        obtain ⟨q1, q2, q3, q4⟩ := hx.cl _ _ hfs
        exact ⟨q3, by rw [q1]; exact of_decide_eq_true z2, hx.mt _ z1⟩
      · cases z2
    cases ys with
    | nil =>
      refine (g_meth0 (CX := CX0) (m := m) hx.gd (S.E hx h6) h1 h4).imp fun σ H Q q => e_meth meth_spec hx.hC hx.room hm (fun σ H Q q => ?_) q
      have : as = [] := by
        have := mEs_len h7
        cases as with
        | nil => rfl
        | cons _ _ => simp at this
      subst this
      exact a_nil (fun loc rs loc' e => by simp only [evs, Option.some.injEq, Prod.mk.injEq] at e; exact ⟨e.1.symm, e.2.symm⟩) q
    | cons y ys => exact (g_meth (CX := CX0) (m := m) hx.gd (S.E hx h6) (S.Es hx h7) h1 h2 h3 h4).imp fun σ H Q q => e_meth meth_spec hx.hC hx.room hm (fun σ H Q q => q) q
  · cases h
theorem make_spec {k f : Nat} {as : List ME} : ∀ loc r loc', ev G C (.make k f as) loc = some (r, loc') → ∃ rs a ds a', evs G C as loc = some (rs, loc') ∧ argsOf loc' rs = some a ∧ allDat a = true ∧ C f a = some (.val (.ins k ds), a') ∧ r = .val (.ins k ds) := fun loc r loc' e => by
  simp only [ev] at e
  split at e
  · rename_i rs l1 e1
    split at e
    · rename_i a e2
      split at e
      · rename_i e3
        split at e
        · rename_i k' ds a' e4
          split at e
          · rename_i e5
            subst e5
            simp only [Option.some.injEq, Prod.mk.injEq] at e
            obtain ⟨rfl, rfl⟩ := e
            exact ⟨rs, a, ds, a', e1, e2, e3, e4, rfl⟩
          · cases e
        · cases e
      · cases e
    · cases e
  · cases e
theorem S_make (S : Snd P G C c kk n) (hx : Ctx P G C c ow sc kk X) {e : Expr} {k f : Nat} {as : List ME} (h : mE (n + 1) c ow sc e (.make k f as) = true) : PE X e (tE P (ev G C (.make k f as))) := by
  simp only [mE] at h
  split at h
  · rename_i x p y ys pos
    simp only [Bool.and_eq_true, decide_eq_true_eq, Bool.not_eq_true'] at h
    obtain ⟨⟨⟨⟨h1, h2⟩, h3⟩, h4⟩, h5⟩ := h
    obtain ⟨q1, q2⟩ := hx.ct _ h1
    rcases q2 with q2 | ⟨k', fI, fd, ps, hk, M, F, hb, hl⟩
    · refine ⟨fun pins s σ H Q I q => ?_⟩
      obtain ⟨L0, loc, r, loc', R, e, _⟩ := q
      obtain ⟨rs, a, ds, a', _, _, _, e4, _⟩ := make_spec _ _ _ e
      rw [q2] at e4
      cases e4
    · exact (g_make (CX := CX0) (E := fun _ _ _ => False) M F (hx.room.mono hk) hx.gd (hx.glb h2) q1 hb pass0 (S.Es hx h5) h3 h4).imp fun σ H Q q => e_make rfl make_spec hl q
  · cases h
theorem S_sumR (S : Snd P G C c kk n) (hx : Ctx P G C c ow sc kk X) {e : Expr} {it : IT} (h : mE (n + 1) c ow sc e (.sumR it) = true) : PE X e (tE P (ev G C (.sumR it))) := by
  simp only [mE] at h
  split at h
  · split at h
    · rename_i a _ f p1 g p2 x p3 p4
      simp only [Bool.and_eq_true] at h
      obtain ⟨⟨⟨h1, h2⟩, h3⟩, h4⟩ := h
      obtain ⟨rfl, hg, hm⟩ := kB_spec hx h1
      obtain ⟨rfl, hg2, hm2⟩ := kB_spec hx h2
      refine (pe_sumRg hx.calm hg hm (prg_1 hg2 hm2 (S.E hx h4) (star_ok h3)) rfl).imp fun σ H Q q => e_sumR (fun loc r loc' e => ?_) q
      simp only [ev] at e
      split at e
      · rename_i m l1 e1
        split at e
        · rename_i hs
          simp only [Bool.and_eq_true, decide_eq_true_eq] at hs
          simp only [Option.some.injEq, Prod.mk.injEq] at e
          obtain ⟨rfl, rfl⟩ := e
          exact ⟨m, e1, hs.1, hs.2, rfl⟩
        · cases e
      · cases e
    · cases h
  · cases h
theorem S_bad {e : Expr} : PE X e (tE P (ev G C .bad)) := by
  refine ⟨fun pins s σ H Q I h => ?_⟩
  obtain ⟨L0, loc, r, loc', R, e, k⟩ := h
  simp only [ev] at e
  cases e
theorem S_lrng (S : Snd P G C c kk n) (hx : Ctx P G C c ow sc kk X) {e : Expr} {it : IT} (h : mE (n + 1) c ow sc e (.lrng it) = true) : PE X e (tE P (ev G C (.lrng it))) := by
  simp only [mE] at h
  split at h
  · split at h
    · rename_i a _ f p1 g p2 x p3 p4
      simp only [Bool.and_eq_true] at h
      obtain ⟨⟨⟨h1, h2⟩, h3⟩, h4⟩ := h
      obtain ⟨rfl, hg, hm⟩ := kB_spec hx h1
      obtain ⟨rfl, hg2, hm2⟩ := kB_spec hx h2
      refine (pe_listRg hx.calm hg hm (prg_1 hg2 hm2 (S.E hx h4) (star_ok h3)) rfl).imp fun σ H Q q => e_lrng1 (fun loc r loc' e => ?_) q
      simp only [ev, evI] at e
      split at e
      · rename_i ds l1 e1
        split at e1
        · rename_i ra l2 e2
          split at e1
          · rename_i m
            split at e1
            · rename_i hs
              simp only [Option.some.injEq, Prod.mk.injEq] at e1
              obtain ⟨rfl, rfl⟩ := e1
              split at e
              · rename_i hb
                simp only [Option.some.injEq, Prod.mk.injEq] at e
                obtain ⟨rfl, rfl⟩ := e
                rw [rng_len] at hb
                exact ⟨m, e2, hs, hb, rfl⟩
              · cases e
            · cases e1
          · cases e1
        · cases e1
      · cases e
    · cases h
  · split at h
    · rename_i a b _ f p1 g p2 x y p3 p4
      simp only [Bool.and_eq_true] at h
      obtain ⟨⟨⟨⟨⟨h1, h2⟩, h3⟩, h3'⟩, h4⟩, h5⟩ := h
      obtain ⟨rfl, hg, hm⟩ := kB_spec hx h1
      obtain ⟨rfl, hg2, hm2⟩ := kB_spec hx h2
      refine (pe_listRg hx.calm hg hm (prg_2 hg2 hm2 (S.E hx h4) (S.E hx h5) (star_ok h3) (star_ok h3') (star_any (es := [y]) (by simp [h3']))) rfl).imp fun σ H Q q => e_lrng2 (fun loc r loc' e => ?_) q
      simp only [ev, evI] at e
      split at e
      · rename_i ds l1 e1
        split at e1
        · rename_i ra l2 e2
          split at e1
          · rename_i rb l3 e3
            split at e1
            · rename_i m n'
              split at e1
              · rename_i hs
                simp only [Option.some.injEq, Prod.mk.injEq] at e1
                obtain ⟨rfl, rfl⟩ := e1
                rw [Bool.and_eq_true] at hs
                split at e
                · rename_i hb
                  simp only [Option.some.injEq, Prod.mk.injEq] at e
                  obtain ⟨rfl, rfl⟩ := e
                  rw [rng_len] at hb
                  exact ⟨m, l2, n', e2, e3, hs.1, hs.2, hb, rfl⟩
                · cases e
              · cases e1
            · cases e1
          · cases e1
        · cases e1
      · cases e
    · cases h
  · cases h
theorem o2_spec {o : O2} {a b : ME} : ∀ loc r loc', ev G C (.o2 o a b) loc = some (r, loc') → ∃ ra l1 rb d e, ev G C a loc = some (ra, l1) ∧ ev G C b l1 = some (rb, loc') ∧ res loc' (sett ra) = some d ∧ res loc' rb = some e ∧ ap2 o d e = some r := fun loc r loc' e => by
  simp only [ev] at e
  split at e
  · rename_i ra l1 h1
    split at e
    · rename_i rb l2 h2
      split at e
      · rename_i d e' h3 h4
        split at e
        · rename_i r' h5
          simp only [Option.some.injEq, Prod.mk.injEq] at e
          obtain ⟨rfl, rfl⟩ := e
          exact ⟨ra, l1, rb, d, e', h1, h2, h3, h4, h5⟩
        · cases e
      · cases e
    · cases e
  · cases e
theorem S_call2 (hx : Ctx P G C c ow sc kk X) {o : O2} {a b : ME} {x y : Expr} {f : Str} {p pos : Pos} (h0 : isO2 o = true) (hk : kB c sc f (nameO2 o) = true) (hs : notStar x = true) (hs2 : notStar y = true) (he : PE X x (tE P (ev G C a))) (he2 : PE X y (tE P (ev G C b))) :
    PE X (.Call (.Name f p) [x, y] [] pos) (tE P (ev G C (.o2 o a b))) := by
  obtain ⟨rfl, hg, hm⟩ := kB_spec hx hk
  have ha : PA X [x, y] (tCons (tE P (ev G C a)) (tCons (tE P (ev G C b)) tNil)) := pa_cons he (pa_cons he2 pa_nil (star_ok hs2)) (star_ok hs)
  have rd : ∀ σ H Q, tE P (ev G C (.o2 o a b)) σ H Q → tCB (r2c P (ap2 o)) (tCons (tE P (ev G C a)) (tCons (tE P (ev G C b)) tNil)) σ H Q := fun σ H Q q => by
    obtain ⟨L0, loc, ra, l1, R, e, k⟩ := o2_read (f := ap2 o) o2_spec q
    refine ⟨L0, loc, ra, l1, R, e, fun v H1 p1 => ?_⟩
    obtain ⟨L1, l2, rb, l3, R2, e2, k2⟩ := k v H1 p1
    exact ⟨L1, l2, rb, l3, R2, e2, fun w H2 p2 => ⟨v, w, rfl, k2 w H2 p2⟩⟩
  have st : ∀ pos, (backTo pos (starEach [y] X.env)).any (·.1) = false := fun pos => star_any (es := [y]) (by simp [hs2])
  cases o <;> first | (cases h0; done) | skip
  · exact (pe_callB (c_max2 hx.calm) hg hm (by decide +kernel) ha (by decide +kernel) (by decide +kernel) (star_ok hs) (st _)).imp rd
  · exact (pe_callB (c_min2 hx.calm) hg hm (by decide +kernel) ha (by decide +kernel) (by decide +kernel) (star_ok hs) (st _)).imp rd
  · exact (pe_callB c_dmod hg hm (by decide +kernel) ha (by decide +kernel) (by decide +kernel) (star_ok hs) (st _)).imp rd
theorem S_o2 (S : Snd P G C c kk n) (hx : Ctx P G C c ow sc kk X) {e : Expr} {o : O2} {a b : ME} (h : mE (n + 1) c ow sc e (.o2 o a b) = true) : PE X e (tE P (ev G C (.o2 o a b))) := by
  simp only [mE] at h
  split at h
  · simp only [Bool.and_eq_true, decide_eq_true_eq] at h
    exact (pe_op (d_bin hx.hK h.1.1) (S.E hx h.1.2) (S.E hx h.2)).imp fun σ H Q q => o2_read o2_spec q
  · simp only [Bool.and_eq_true, decide_eq_true_eq] at h
    exact (pe_cmpR (d_cmp hx.hK hx.units h.1.1.1) (S.E hx h.1.2) (S.E hx h.2) (set_ok h.1.1.2)).imp fun σ H Q q => o2_read o2_spec q
  · simp only [Bool.and_eq_true, decide_eq_true_eq] at h
    obtain ⟨⟨⟨rfl, h2⟩, h3⟩, h4⟩ := h
    exact (pe_ix (d_ix hx.hK) (S.E hx h3) (S.E hx h4) (slice_ok h2)).imp fun σ H Q q => o2_read o2_spec q
  · simp only [Bool.and_eq_true] at h
    obtain ⟨⟨⟨⟨⟨h0, h1⟩, h2⟩, h3⟩, h4⟩, h5⟩ := h
    exact S_call2 hx h0 h1 h2 h3 (S.E hx h4) (S.E hx h5)
  · cases h
theorem ch_spec {o o' : O2} {a b d : ME} : ∀ loc r loc', ev G C (.ch o o' a b d) loc = some (r, loc') → ∃ ra l1 rb l2 x y, ev G C a loc = some (ra, l1) ∧ ev G C b l1 = some (rb, l2) ∧ res l2 (sett ra) = some x ∧ res l2 rb = some y ∧
      ((ap2 o x y = some (.val (.bl true)) ∧ ∃ rc e' f1 k, ev G C d l2 = some (rc, loc') ∧ res loc' (sett rb) = some e' ∧ res loc' rc = some f1 ∧ ap2 o' e' f1 = some (.val (.bl k)) ∧ r = .val (.bl k)) ∨ (ap2 o x y = some (.val (.bl false)) ∧ r = .val (.bl false) ∧ loc' = l2)) := fun loc r loc' e => by
  simp only [ev] at e
  split at e
  · rename_i ra l1 h1
    split at e
    · rename_i rb l2 h2
      split at e
      · rename_i x y h3 h4
        split at e
        · rename_i h5
          split at e
          · rename_i rc l3 h6
            split at e
            · rename_i e' f1 h7 h8
              split at e
              · rename_i k h9
                simp only [Option.some.injEq, Prod.mk.injEq] at e
                obtain ⟨rfl, rfl⟩ := e
                exact ⟨ra, l1, rb, l2, x, y, h1, h2, h3, h4, .inl ⟨h5, rc, e', f1, k, h6, h7, h8, h9, rfl⟩⟩
              · cases e
            · cases e
          · cases e
        · rename_i h5
          simp only [Option.some.injEq, Prod.mk.injEq] at e
          obtain ⟨rfl, rfl⟩ := e
          exact ⟨ra, l1, rb, l2, x, y, h1, h2, h3, h4, .inr ⟨h5, rfl, rfl⟩⟩
        · cases e
      · cases e
    · cases e
  · cases e
theorem last_ok {op op' : CmpOp} {y z : Expr} (h : notSet z = true) : lastMarks [op, op'] [y, z] = false := by
  show behindInMarks op' z = false
  exact set_ok h
theorem S_ch (S : Snd P G C c kk n) (hx : Ctx P G C c ow sc kk X) {e : Expr} {o o' : O2} {a b d : ME} (h : mE (n + 1) c ow sc e (.ch o o' a b d) = true) : PE X e (tE P (ev G C (.ch o o' a b d))) := by
  simp only [mE] at h
  split at h
  · simp only [Bool.and_eq_true, decide_eq_true_eq] at h
    exact (pe_chain (d_cmp hx.hK hx.units h.1.1.1.1.1.1) (d_cmp hx.hK hx.units h.1.1.1.1.1.2) (S.E hx h.1.1.2) (S.E hx h.1.2) (S.E hx h.2) (last_ok h.1.1.1.2)).imp fun σ H Q q => e_ch ch_spec q
  · cases h
theorem ch3_spec {o o' o'' : O2} {a b d g : ME} : ∀ loc r loc', ev G C (.ch3 o o' o'' a b d g) loc = some (r, loc') → ∃ ra l1 rb l2 x y, ev G C a loc = some (ra, l1) ∧ ev G C b l1 = some (rb, l2) ∧ res l2 (sett ra) = some x ∧ res l2 rb = some y ∧
      ((ap2 o x y = some (.val (.bl true)) ∧ ∃ rc l3 e' f1, ev G C d l2 = some (rc, l3) ∧ res l3 (sett rb) = some e' ∧ res l3 rc = some f1 ∧
        ((ap2 o' e' f1 = some (.val (.bl true)) ∧ ∃ rd f2 g1 k, ev G C g l3 = some (rd, loc') ∧ res loc' (sett rc) = some f2 ∧ res loc' rd = some g1 ∧ ap2 o'' f2 g1 = some (.val (.bl k)) ∧ r = .val (.bl k)) ∨ (ap2 o' e' f1 = some (.val (.bl false)) ∧ r = .val (.bl false) ∧ loc' = l3))) ∨
      (ap2 o x y = some (.val (.bl false)) ∧ r = .val (.bl false) ∧ loc' = l2)) := fun loc r loc' e => by
  simp only [ev] at e
  split at e
  · rename_i ra l1 h1
    split at e
    · rename_i rb l2 h2
      split at e
      · rename_i x y h3 h4
        split at e
        · rename_i h5
          split at e
          · rename_i rc l3 h6
            split at e
            · rename_i e' f1 h7 h8
              split at e
              · rename_i h9
                split at e
                · rename_i rd l4 h10
                  split at e
                  · rename_i f2 g1 h11 h12
                    split at e
                    · rename_i k h13
                      simp only [Option.some.injEq, Prod.mk.injEq] at e
                      obtain ⟨rfl, rfl⟩ := e
                      exact ⟨ra, l1, rb, l2, x, y, h1, h2, h3, h4, .inl ⟨h5, rc, l3, e', f1, h6, h7, h8, .inl ⟨h9, rd, f2, g1, k, h10, h11, h12, h13, rfl⟩⟩⟩
                    · cases e
                  · cases e
                · cases e
              · rename_i h9
                simp only [Option.some.injEq, Prod.mk.injEq] at e
                obtain ⟨rfl, rfl⟩ := e
                exact ⟨ra, l1, rb, l2, x, y, h1, h2, h3, h4, .inl ⟨h5, rc, l3, e', f1, h6, h7, h8, .inr ⟨h9, rfl, rfl⟩⟩⟩
              · cases e
            · cases e
          · cases e
        · rename_i h5
          simp only [Option.some.injEq, Prod.mk.injEq] at e
          obtain ⟨rfl, rfl⟩ := e
          exact ⟨ra, l1, rb, l2, x, y, h1, h2, h3, h4, .inr ⟨h5, rfl, rfl⟩⟩
        · cases e
      · cases e
    · cases e
  · cases e
theorem last3_ok {op op' op'' : CmpOp} {y z w : Expr} (h : notSet w = true) : lastMarks [op, op', op''] [y, z, w] = false := by
  show behindInMarks op'' w = false
  exact set_ok h
theorem S_ch3 (S : Snd P G C c kk n) (hx : Ctx P G C c ow sc kk X) {e : Expr} {o o' o'' : O2} {a b d g : ME} (h : mE (n + 1) c ow sc e (.ch3 o o' o'' a b d g) = true) : PE X e (tE P (ev G C (.ch3 o o' o'' a b d g))) := by
  simp only [mE] at h
  split at h
  · simp only [Bool.and_eq_true, decide_eq_true_eq] at h
    obtain ⟨⟨⟨⟨⟨⟨⟨h1, h2⟩, h3⟩, h4⟩, h5⟩, h6⟩, h7⟩, h8⟩ := h
    exact (pe_chain3 (d_cmp hx.hK hx.units h1) (d_cmp hx.hK hx.units h2) (d_cmp hx.hK hx.units h3) (S.E hx h5) (S.E hx h6) (S.E hx h7) (S.E hx h8) (last3_ok h4)).imp fun σ H Q q => e_ch3 ch3_spec q
  · cases h
theorem S_sl (S : Snd P G C c kk n) (hx : Ctx P G C c ow sc kk X) {e : Expr} {a : ME} {lo hi : Option ME} (h : mE (n + 1) c ow sc e (.sl a lo hi) = true) : PE X e (tE P (ev G C (.sl a lo hi))) := by
  simp only [mE] at h
  split at h
  · simp only [Bool.and_eq_true] at h
    refine (pe_slice (d_sl hx.hK) (S.E hx h.1.1) (S.O hx h.1.2) (S.O hx h.2)).imp fun σ H Q q => e_sl (fun loc r loc' e => ?_) q
    simp only [ev] at e
    split at e
    · rename_i ra l1 h1
      split at e
      · rename_i x l2 h2
        split at e
        · rename_i y l3 h3
          split at e
          · rename_i d h4
            split at e
            · rename_i r' h5
              simp only [Option.some.injEq, Prod.mk.injEq] at e
              obtain ⟨rfl, rfl⟩ := e
              exact ⟨ra, l1, x, l2, y, d, h1, h2, h3, h4, h5⟩
            · cases e
          · cases e
        · cases e
      · cases e
    · cases e
  · cases h
theorem and_spec {a b : ME} : ∀ loc r loc', ev G C (.and a b) loc = some (r, loc') → ∃ ra l1 d, ev G C a loc = some (ra, l1) ∧ res l1 ra = some d ∧ ((truth d = some true ∧ ev G C b l1 = some (r, loc')) ∨ (truth d = some false ∧ r = sett ra ∧ loc' = l1)) := fun loc r loc' e => by
  simp only [ev] at e
  split at e
  · rename_i ra l1 h1
    split at e
    · rename_i d h2
      split at e
      · rename_i h3
        exact ⟨ra, l1, d, h1, h2, .inl ⟨h3, e⟩⟩
      · rename_i h3
        simp only [Option.some.injEq, Prod.mk.injEq] at e
        exact ⟨ra, l1, d, h1, h2, .inr ⟨h3, e.1.symm, e.2.symm⟩⟩
      · cases e
    · cases e
  · cases e
theorem or_spec {a b : ME} : ∀ loc r loc', ev G C (.or a b) loc = some (r, loc') → ∃ ra l1 d, ev G C a loc = some (ra, l1) ∧ res l1 ra = some d ∧ ((truth d = some false ∧ ev G C b l1 = some (r, loc')) ∨ (truth d = some true ∧ r = sett ra ∧ loc' = l1)) := fun loc r loc' e => by
  simp only [ev] at e
  split at e
  · rename_i ra l1 h1
    split at e
    · rename_i d h2
      split at e
      · rename_i h3
        simp only [Option.some.injEq, Prod.mk.injEq] at e
        exact ⟨ra, l1, d, h1, h2, .inr ⟨h3, e.1.symm, e.2.symm⟩⟩
      · rename_i h3
        exact ⟨ra, l1, d, h1, h2, .inl ⟨h3, e⟩⟩
      · cases e
    · cases e
  · cases e
theorem S_and (S : Snd P G C c kk n) (hx : Ctx P G C c ow sc kk X) {e : Expr} {a b : ME} (h : mE (n + 1) c ow sc e (.and a b) = true) : PE X e (tE P (ev G C (.and a b))) := by
  simp only [mE] at h
  split at h
  · simp only [Bool.and_eq_true] at h
    exact (pe_andT (S.E hx h.1) (pe_one (S.E hx h.2))).imp fun σ H Q q => e_and hx.hK and_spec q
  · simp only [Bool.and_eq_true] at h
    exact (pe_andT (S.E hx h.1) (S.E hx h.2)).imp fun σ H Q q => e_and hx.hK and_spec q
  · cases h
theorem S_or (S : Snd P G C c kk n) (hx : Ctx P G C c ow sc kk X) {e : Expr} {a b : ME} (h : mE (n + 1) c ow sc e (.or a b) = true) : PE X e (tE P (ev G C (.or a b))) := by
  simp only [mE] at h
  split at h
  · simp only [Bool.and_eq_true] at h
    exact (pe_orT (S.E hx h.1) (pe_one (S.E hx h.2))).imp fun σ H Q q => e_or hx.hK or_spec q
  · simp only [Bool.and_eq_true] at h
    exact (pe_orT (S.E hx h.1) (S.E hx h.2)).imp fun σ H Q q => e_or hx.hK or_spec q
  · cases h
theorem S_not (S : Snd P G C c kk n) (hx : Ctx P G C c ow sc kk X) {e : Expr} {a : ME} (h : mE (n + 1) c ow sc e (.not a) = true) : PE X e (tE P (ev G C (.not a))) := by
  simp only [mE] at h
  split at h
  · refine (pe_notT (S.E hx h)).imp fun σ H Q q => e_not hx.hK (fun loc r loc' e => ?_) q
    simp only [ev] at e
    split at e
    · rename_i ra l1 h1
      split at e
      · rename_i d h2
        split at e
        · rename_i k h3
          simp only [Option.some.injEq, Prod.mk.injEq] at e
          obtain ⟨e1, rfl⟩ := e
          exact ⟨ra, d, k, h1, h2, h3, e1.symm⟩
        · cases e
      · cases e
    · cases e
  · cases h
theorem S_ite (S : Snd P G C c kk n) (hx : Ctx P G C c ow sc kk X) {e : Expr} {t a b : ME} (h : mE (n + 1) c ow sc e (.ite t a b) = true) : PE X e (tE P (ev G C (.ite t a b))) := by
  simp only [mE] at h
  split at h
  · simp only [Bool.and_eq_true] at h
    refine (pe_ifExp (S.T hx h.1.1) (S.E hx h.1.2) (S.E hx h.2)).imp fun σ H Q q => e_ite (fun loc r loc' e => ?_) q
    simp only [ev] at e
    split at e
    · rename_i ra l1 h1
      split at e
      · rename_i d h2
        split at e
        · rename_i h3
          exact ⟨true, l1, evT_of h1 h2 h3, e⟩
        · rename_i h3
          exact ⟨false, l1, evT_of h1 h2 h3, e⟩
        · cases e
      · cases e
    · cases e
  · cases h
theorem doCall_spec {f : Nat} {rs : List R} {loc loc' : Loc} {r : R} (h : doCall C f rs loc = some (r, loc')) : ∃ a a', nodupB (refs rs) = true ∧ argsOf loc rs = some a ∧ C f a = some (r, a') ∧ given rs a' loc = some loc' := by
  unfold doCall at h
  split at h
  · rename_i hn
    split at h
    · rename_i a h1
      split at h
      · rename_i r' a' h2
        split at h
        · rename_i l h3
          simp only [Option.some.injEq, Prod.mk.injEq] at h
          obtain ⟨rfl, rfl⟩ := h
          exact ⟨a, a', hn, h1, h2, h3⟩
        · cases h
      · cases h
    · cases h
  · cases h
theorem S_call (S : Snd P G C c kk n) (hx : Ctx P G C c ow sc kk X) {e : Expr} {f : Nat} {as : List ME} (h : mE (n + 1) c ow sc e (.call f as) = true) : PE X e (tE P (ev G C (.call f as))) := by
  have hg : ∀ loc r loc', ev G C (.call f as) loc = some (r, loc') → ∃ rs l1 a a', evs G C as loc = some (rs, l1) ∧ nodupB (refs rs) = true ∧ argsOf l1 rs = some a ∧ C f a = some (r, a') ∧ given rs a' l1 = some loc' := fun loc r loc' e => by
    simp only [ev] at e
    split at e
    · rename_i rs l1 h1
      obtain ⟨a, a', h2, h3, h4, h5⟩ := doCall_spec e
      exact ⟨rs, l1, a, a', h1, h2, h3, h4, h5⟩
    · cases e
  simp only [mE] at h
  split at h
  · simp only [Bool.and_eq_true, decide_eq_true_eq, Bool.not_eq_true'] at h
    obtain ⟨⟨⟨h1, h2⟩, h3⟩, h4⟩ := h
    obtain ⟨g, fd, ps, F, hm, hk, hb, ar⟩ := hx.fn _ h1
    have has : as = [] := by cases as <;> simp_all
    subst has
    refine (g_call0 F hx.room hx.gd (hx.glb h2) hm hk hb .nil pass0 h3).imp fun σ H Q q => ?_
    have := call_read (C := C f) (ar := ps.length) (E := E0) (fun a r a' e => ⟨ar a r a' e, hx.hC f a r a' e⟩) hg q
    obtain ⟨L0, loc, rs, loc', R, e, k⟩ := this
    simp only [evs, Option.some.injEq, Prod.mk.injEq] at e
    obtain ⟨rfl, rfl⟩ := e
    exact k [] H (.none0 R) rfl
  · simp only [Bool.and_eq_true, decide_eq_true_eq, Bool.not_eq_true'] at h
    obtain ⟨⟨⟨⟨h1, h2⟩, h3⟩, h4⟩, h5⟩ := h
    obtain ⟨g, fd, ps, F, hm, hk, hb, ar⟩ := hx.fn _ h1
    rename_i y ys _
    have h4' : notStar y = true ∧ ys.all notStar = true := by simpa only [List.all_cons, Bool.and_eq_true] using h4
    refine (g_call F hx.room hx.gd (hx.glb h2) hm hk hb .nil pass0 (S.Es hx h5) h3 (star_ok h4'.1) (star_any h4'.2)).imp fun σ H Q q => ?_
    have := call_read (C := C f) (ar := ps.length) (E := E0) (fun a r a' e => ⟨ar a r a' e, hx.hC f a r a' e⟩) hg q
    obtain ⟨L0, loc, rs, loc', R, e, k⟩ := this
    exact ⟨L0, loc, rs, loc', R, e, fun vs H' p rr => by
      show spOf P (C f) ps.length (vs ++ []) H' Q E0
      rw [List.append_nil]
      exact k vs H' p rr⟩
  · cases h
theorem kw_some {pos : Pos} {env : Env} : ∀ {kws : List Keyword} {ks : List Str}, ks.map some = kws.map (·.arg) → (backToKw pos (keywordEach kws env)).all (·.1.isSome) = true ∧ (backToKw pos (keywordEach kws env)).filterMap (·.1) = ks ∧ (backToKw pos (keywordEach kws env)).any (·.1.isNone) = false
  | [], ks, h => by
    have : ks = [] := by cases ks <;> simp_all
    subst this
    exact ⟨rfl, rfl, rfl⟩
  | ⟨nm, v, p⟩ :: kws, ks, h => by
    cases ks with
    | nil => simp at h
    | cons k ks =>
      simp only [List.map_cons, List.cons.injEq] at h
      obtain ⟨h1, h2⟩ := h
      have h1 : some k = nm := h1
      subst h1
      obtain ⟨i1, i2, i3⟩ := kw_some (pos := pos) (env := env) h2
      refine ⟨?_, ?_, ?_⟩
      · show (true && _) = true
        rw [Bool.true_and]; exact i1
      · show (k :: List.filterMap _ _) = k :: ks
        exact congrArg (k :: ·) i2
      · show (false || _) = false
        rw [Bool.false_or]; exact i3
theorem S_callK (S : Snd P G C c kk n) (hx : Ctx P G C c ow sc kk X) {e : Expr} {f : Nat} {as ks : List ME} {p : List Nat} (h : mE (n + 1) c ow sc e (.callK f as ks p) = true) : PE X e (tE P (ev G C (.callK f as ks p))) := by
  simp only [mE] at h
  split at h
  · rename_i x px y ys kws pos
    simp only [Bool.and_eq_true, List.any_eq_true, decide_eq_true_eq, Bool.not_eq_true'] at h
    obtain ⟨⟨⟨⟨⟨⟨q, hq, ⟨⟨⟨rfl, rfl⟩, hks⟩, hnp⟩, rfl⟩, h2⟩, h3⟩, h4⟩, h5⟩, h6⟩ := h
    obtain ⟨g, fd, ps, gB, gV, F, hm, hk, hb, hV, ar⟩ := hx.kw _ hq
    have h4' : notStar y = true ∧ ys.all notStar = true := by simpa only [List.all_cons, Bool.and_eq_true] using h4
    obtain ⟨i1, i2, i3⟩ := kw_some (pos := pos) (env := X.env) hks
    have hpl : ((backTo pos (starEach (y :: ys) X.env)).any (·.1) || (backToKw pos (keywordEach kws X.env)).any (·.1.isNone)) = false := by
      rw [star_any h4, i3]; rfl
    refine (g_callK F hx.room hx.gd (hx.glb h2) hm hk hb pass0 (S.Es hx h5) (S.Ks hx h6) i1 i2 h3 (star_ok h4'.1) hpl).imp fun σ H Q qq => ?_
    obtain ⟨L0, loc, r, loc', R, e, k⟩ := qq
    simp only [ev] at e
    split at e
    · rename_i rs l1 e1
      split at e
      · rename_i ss l2 e2
        split at e
        · rename_i ts e3
          obtain ⟨a, a', d2, d3, d4, d5⟩ := doCall_spec e
          refine ⟨L0, loc, rs, l1, R, e1, fun vs H1 p1 rr => ⟨L0, l1, ss, l2, p1.rel, e2, fun zs H2 p2 rz => ?_⟩⟩
          have rr2 := rr.after p2
          have all := rr2.append rz
          have lv : vs.length = q.np := by rw [← rr.length, evs_len e1, hnp]
          have lz : zs.length = q.ks.length := by
            have h1 := congrArg List.length hks
            rw [← rz.length, evs_len e2, ← mEs_len h6]
            simpa using h1.symm
          show spOf P (C q.f) ps.length (gV vs zs) H2 Q E0
          rw [hV vs zs lv lz]
          have rt : RepRs P L0 l2 σ H2 ts (permV q.perm (vs ++ zs)) := perm_rep all e3
          refine ⟨?_, Lc L0 l2 σ a (permV q.perm (vs ++ zs)), a, r, a', args_rel p2.rel rt d3 d2, d4, hx.hC _ _ _ _ d4, fun v H3 p3 => ?_⟩
          · rw [← rt.length, argsOf_len d3, ar _ _ _ d4]
          · exact k v H3 ((p1.trans p2).trans (call_post p2.rel rt d3 d2 d5 (hx.hC _ _ _ _ d4) p3))
        · cases e
      · cases e
    · cases e
  · cases h
theorem eqI_spec {ne : Bool} {tb : List (Nat × Nat)} {a b : ME} : ∀ loc r loc', ev G C (.eqI ne tb a b) loc = some (r, loc') → ∃ c fs gs f l1 l2 a1 a' x, ev G C a loc = some (.val (.ins c fs), l1) ∧ ev G C b l1 = some (.val (.ins c gs), l2) ∧ tb.lookup c = some f ∧ nodupB (refs [R.val (.ins c fs), R.val (.ins c gs)]) = true ∧
      argsOf l2 [R.val (.ins c fs), R.val (.ins c gs)] = some a1 ∧ C f a1 = some (.val (.bl x), a') ∧ given [R.val (.ins c fs), R.val (.ins c gs)] a' l2 = some loc' ∧ r = .val (.bl (if ne then !x else x)) := fun loc r loc' e => by
  simp only [ev] at e
  split at e
  · rename_i c fs l1 h1
    split at e
    · rename_i c' gs l2 h2
      split at e
      · rename_i f h3
        split at e
        · rename_i hc
          subst hc
          split at e
          · rename_i x l3 h4
            simp only [Option.some.injEq, Prod.mk.injEq] at e
            obtain ⟨e1, rfl⟩ := e
            obtain ⟨a1, a', z1, z2, z3, z4⟩ := doCall_spec h4
            exact ⟨_, fs, gs, f, l1, l2, a1, a', x, h1, h2, h3, z1, z2, z3, z4, e1.symm⟩
          · cases e
        · cases e
      · cases e
    · cases e
  · cases e
theorem kEq_ok (hx : Ctx P G C c ow sc kk X) {tb : List (Nat × Nat)} (h : kEq c tb = true) : ∀ k f, tb.lookup k = some f → MethOk X P C kk k "__eq__" f ∧ NeOk X.K (P.ca k) := fun k f hl => by
  have := List.all_eq_true.mp h _ (lookup_mem hl)
  simp only [Bool.and_eq_true, decide_eq_true_eq] at this
  exact ⟨hx.mt _ this.1, hx.ne _ this.2⟩
theorem S_eqI (S : Snd P G C c kk n) (hx : Ctx P G C c ow sc kk X) {e : Expr} {ne : Bool} {tb : List (Nat × Nat)} {a b : ME} (h : mE (n + 1) c ow sc e (.eqI ne tb a b) = true) : PE X e (tE P (ev G C (.eqI ne tb a b))) := by
  simp only [mE] at h
  split at h
  · simp only [Bool.and_eq_true, decide_eq_true_eq] at h
    obtain ⟨⟨⟨⟨rfl, h2⟩, h3⟩, h4⟩, h5⟩ := h
    exact (pe_cmpR (op_eqI (CX := CX0) hx.gd) (S.E hx h4) (S.E hx h5) (set_ok h3)).imp fun σ H Q q => e_eqI eqI_spec hx.room hx.room1 (kEq_ok hx h2) q
  · cases h
theorem S_mn3 (S : Snd P G C c kk n) (hx : Ctx P G C c ow sc kk X) {e : Expr} {a b d : ME} (h : mE (n + 1) c ow sc e (.mn3 a b d) = true) : PE X e (tE P (ev G C (.mn3 a b d))) := by
  simp only [mE] at h
  split at h
  · rename_i f pf x y z pos
    simp only [Bool.and_eq_true] at h
    obtain ⟨⟨⟨⟨⟨⟨h1, h2⟩, h3⟩, h4⟩, h5⟩, h6⟩, h7⟩ := h
    obtain ⟨rfl, hg, hm⟩ := kB_spec hx h1
    have ha : PA X [x, y, z] (tCons (tE P (ev G C a)) (tCons (tE P (ev G C b)) (tCons (tE P (ev G C d)) tNil))) := pa_cons (S.E hx h5) (pa_cons (S.E hx h6) (pa_cons (S.E hx h7) pa_nil (star_ok h4)) (star_ok h3)) (star_ok h2)
    have hpl : (backTo pos (starEach [y, z] X.env)).any (·.1) = false := star_any (es := [y, z]) (by simp [h3, h4])
    refine (pe_callB (call_min3Nu hx.calm) hg hm (by decide +kernel) ha (by decide +kernel) (by decide +kernel) (star_ok h2) hpl).imp fun σ H Q q => e_mn3 (fun loc r loc' e => ?_) q
    simp only [ev] at e
    split at e
    · rename_i i l1 e1
      split at e
      · rename_i j l2 e2
        split at e
        · rename_i k l3 e3
          simp only [Option.some.injEq, Prod.mk.injEq] at e
          obtain ⟨e4, rfl⟩ := e
          exact ⟨i, j, k, l1, l2, e1, e2, e3, e4.symm⟩
        · cases e
      · cases e
    · cases e
  · cases h
theorem dfR {L0 : Addr → Prop} {loc : Loc} {σ : Sg} {H : Hp} : ∀ ds : List Df, RepRs P L0 loc σ H (ds.map fun d => R.val d.d) (ds.map Df.v)
  | [] => rfl
  | d :: ds => ⟨_, _, rfl, by cases d <;> (show Rep P _ H _ _; simp only [Df.d, Df.v]; unfold Rep; rfl), dfR ds⟩
theorem refs_app : ∀ {rs : List R} {ds : List Df}, refs (rs ++ ds.map fun d => R.val d.d) = refs rs
  | [], [] => rfl
  | [], d :: ds => refs_app (rs := []) (ds := ds)
  | r :: rs, ds => by
    have := refs_app (rs := rs) (ds := ds)
    cases r with
    | ref i => exact congrArg (i :: ·) this
    | val d => exact this
    | new d => exact this
theorem S_callD (S : Snd P G C c kk n) (hx : Ctx P G C c ow sc kk X) {e : Expr} {f : Nat} {as : List ME} {ds : List Df} (h : mE (n + 1) c ow sc e (.callD f as ds) = true) : PE X e (tE P (ev G C (.callD f as ds))) := by
  simp only [mE] at h
  split at h
  · rename_i x p y ys pos
    simp only [Bool.and_eq_true, decide_eq_true_eq, Bool.not_eq_true'] at h
    obtain ⟨⟨⟨⟨h1, h2⟩, h3⟩, h4⟩, h5⟩ := h
    obtain ⟨q, hq, h1⟩ := List.any_eq_true.mp h1
    simp only [Bool.and_eq_true, decide_eq_true_eq] at h1
    obtain ⟨⟨⟨rfl, rfl⟩, h6⟩, rfl⟩ := h1
    obtain ⟨g, fd, ps, us, F, hm, hk, hb, hv, ar⟩ := hx.df _ hq
    have h4' : notStar y = true ∧ ys.all notStar = true := by simpa only [List.all_cons, Bool.and_eq_true] using h4
    refine (g_call F hx.room hx.gd (hx.glb h2) hm hk hb hv pass0 (S.Es hx h5) h3 (star_ok h4'.1) (star_any h4'.2)).imp fun σ H Q q1 => ?_
    obtain ⟨L0, loc, r, loc', R, e, k⟩ := q1
    simp only [ev] at e
    split at e
    · rename_i rs l1 e1
      obtain ⟨a, a', z1, z2, z3, z4⟩ := doCall_spec e
      refine ⟨L0, loc, rs, l1, R, e1, fun vs H1 p1 rr => ?_⟩
      have rr' := rr.append (dfR (P := P) (L0 := L0) (loc := l1) (σ := σ) (H := H1) q.ds)
      have hr := hx.hC _ _ _ _ z3
      refine ⟨?_, Lc L0 l1 σ a (vs ++ q.ds.map Df.v), a, r, a', args_rel p1.rel rr' z2 z1, z3, hr, fun v H2 p2 => ?_⟩
      · rw [← ar _ _ _ z3, ← argsOf_len z2, rr'.length]
      · exact k v H2 (p1.trans (call_post p1.rel rr' z2 z1 z4 hr p2))
    · cases e
  · cases h
theorem S_mx (S : Snd P G C c kk n) (hx : Ctx P G C c ow sc kk X) {e : Expr} {mx : Bool} {a d : ME} (h : mE (n + 1) c ow sc e (.mxD mx a d) = true) : PE X e (tE P (ev G C (.mxD mx a d))) := by
  simp only [mE] at h
  split at h
  · rename_i f pf x kws pos
    simp only [Bool.and_eq_true, decide_eq_true_eq] at h
    obtain ⟨⟨⟨⟨h1, h2⟩, h3⟩, h4⟩, h5⟩ := h
    obtain ⟨rfl, hg, hm⟩ := kB_spec hx h1
    obtain ⟨i1, i2, i3⟩ := kw_some (ks := [("default" : Str)]) (pos := pos) (env := X.env) (kws := kws) h2.symm
    have hb : bootBuiltins (if mx = true then "max" else "min") = some (.builtin (if mx = true then "max" else "min")) := by cases mx <;> decide +kernel
    have hn : (if mx = true then ("max" : Str) else "min") ≠ "__name__" := by cases mx <;> decide +kernel
    have hd : ((if mx = true then ("max" : Str) else "min") == ("__debug__" : Str)) = false := by cases mx <;> decide +kernel
    have hpl : (backTo pos (starEach [x] X.env)).any (·.1) = false := star_any (es := [x]) (by simp [h3])
    refine (pe_callBK (cr_mx hx.calm hx.units mx) hg hm hb (pa_cons (S.E hx h4) pa_nil (star_ok h3)) (S.Ks hx h5) hn hd (by rw [star_ok h3]; rfl) hpl i1 i3 i2).imp fun σ H Q q => e_mx hx.hK (fun loc r loc' e => ?_) q
    simp only [ev] at e
    split at e
    · rename_i ra l1 e1
      split at e
      · rename_i rd l2 e2
        split at e
        · rename_i xx yy e3 e4
          have ed : evs G C [d] l1 = some ([sett rd], l2) := by simp only [evs, e2]
          split at e
          · rename_i e5
            simp only [Option.some.injEq, Prod.mk.injEq] at e
            obtain ⟨rfl, rfl⟩ := e
            exact ⟨ra, l1, rd, xx, yy, [], e1, ed, e3, e4, e5, (fun _ => rfl), (fun n ms z => nomatch z)⟩
          · rename_i n ms e5
            simp only [Option.some.injEq, Prod.mk.injEq] at e
            obtain ⟨rfl, rfl⟩ := e
            exact ⟨ra, l1, rd, xx, yy, n :: ms, e1, ed, e3, e4, e5, (fun z => nomatch z), fun n' ms' z => by cases z; rfl⟩
          · cases e
        · cases e
      · cases e
    · cases e
  · cases h
end
end MP

namespace MP
open PySem PySem.Spec PyProof.Rows L2
section
variable {P : RP} {G : Nat → D} {C : CallS} {c : CK} {ow : Str → Bool} {sc : Scope} {kk n : Nat} {X : Cx}
theorem kT_spec {x : Str} {i : Nat} {pos : Pos} (hx : Ctx P G C c ow sc kk X) (h : kT c ow sc x i = true) : PG X (.Name x pos) (gName i) ∧ X.N[i]? = some x ∧ L2.Loc X.env.scope x ∧ (X.fn x = true ∨ X.env.scope.names.lookup x = some .local) := by
  unfold kT at h
  simp only [Bool.and_eq_true, decide_eq_true_eq] at h
  obtain ⟨h1, h2⟩ := h
  have hi : X.N[i]? = some x := by rw [hx.hN]; exact h1
  have hl : L2.Loc X.env.scope x ∧ (X.fn x = true ∨ X.env.scope.names.lookup x = some .local) := by
    unfold L2.Loc
    rw [hx.hsc]
    split at h2
    · exact ⟨.inl (by assumption), .inr (by assumption)⟩
    · exact ⟨.inr (by assumption), .inl (hx.fnok _ h2)⟩
    · cases h2
  exact ⟨pg_name (by rw [hx.hN]; exact hx.nd) hi hl.1 hl.2, hi, hl.1, hl.2⟩
theorem kTs_spec (hx : Ctx P G C c ow sc kk X) : ∀ {es : List Expr} {is : List Nat}, kTs c ow sc es is = true → PGs X es (gsOf is) ∧ (assignEach es X.env).length = is.length ∧ (assignEach es X.env).findIdx? (·.1) = none
  | [], is, h => by
    cases is with
    | nil => exact ⟨pgs_nil, rfl, rfl⟩
    | cons _ _ => simp only [kTs] at h; cases h
  | e :: es, is, h => by
    simp only [kTs] at h
    split at h
    · rename_i x p i is'
      simp only [Bool.and_eq_true] at h
      obtain ⟨h1, h2, h3⟩ := kTs_spec hx h.2
      refine ⟨pgs_cons (kT_spec hx h.1).1 h1 rfl, ?_, ?_⟩
      · show (assignEach es X.env).length + 1 = is'.length + 1
        rw [h2]
      · show List.findIdx? (·.1) ((false, assign (.Name x p) X.env) :: assignEach es X.env) = none
        rw [List.findIdx?_cons]
        simp only [Bool.false_eq_true, if_false]
        rw [h3]; rfl
    · cases h
theorem kP_spec {tg : Expr} {p : Pat} (hx : Ctx P G C c ow sc kk X) (h : kP c ow sc tg p = true) : PG X tg (tG P p) := by
  cases p with
  | v i =>
    simp only [kP] at h
    split at h
    · exact (kT_spec hx h).1.imp fun v σ H Q q => g_name q
    · cases h
  | tup is =>
    simp only [kP] at h
    split at h
    · obtain ⟨h1, h2, h3⟩ := kTs_spec hx h
      exact (pg_tup hx.calm h1 h2 h3).imp fun v σ H Q q => g_tup hx.hK q
    · cases h
theorem ownP_snd {own : List Nat} : (ownP c own).map (·.2) = own := by
  unfold ownP
  rw [List.map_map]
  exact List.map_id _
/-- the block of a comprehension -/
theorem Ctx.blk (hx : Ctx P G C c ow sc kk X) {scope : Scope} (hk : scope.kind = .function) (s : Shared) (H : Hp) (C' : Addr) (cl : List (Str × Addr)) (fp : List Addr) :
    Ctx P G C c (blkOw scope) (relS scope sc) kk (X.blk s H scope (compEnvC scope cl C' X.env) fp) :=
  ⟨hx.hN, hx.nd, by rw [← hx.hsc]; rfl, hk, hx.hK, hx.calm, PassesOwn.never, hx.room, hx.gd, hx.bl, hx.gl, hx.fn, hx.kw, hx.hC, fun x h => h, hx.cl, hx.mt, hx.ct, hx.room1, hx.df, hx.ne, hx.isc⟩
theorem S_lc (S : Snd P G C c kk n) (hx : Ctx P G C c ow sc kk X) {e : Expr} {own : List Nat} {p : Pat} {it : IT} {cs : List ME} {elt : ME} (h : mE (n + 1) c ow sc e (.lc own p it cs elt) = true) :
    ∃ el tg iter ifs scope pos, e = .ListComp el [⟨tg, iter, ifs, 0⟩] scope pos ∧ ∃ wi g tt te, PI X tg iter wi ∧ BlkOk X.N X.env.scope scope (ownP c own) ∧
      (∀ (s : Shared) (H : Hp) (C : Addr) (cl : List (Str × Addr)) (fp : List Addr), PG (X.blk s H scope (compEnvC scope cl C X.env) fp) tg g) ∧ (∀ (s : Shared) (H : Hp) (C : Addr) (cl : List (Str × Addr)) (fp : List Addr), PTs (X.blk s H scope (compEnvC scope cl C X.env) fp) ifs tt) ∧
      (∀ (s : Shared) (H : Hp) (C : Addr) (cl : List (Str × Addr)) (fp : List Addr), PE (X.blk s H scope (compEnvC scope cl C X.env) fp) el te) ∧ (∀ x, foldedSetIterable iter X.env x = pure x) ∧
      ∀ σ H Q, tE P (ev G C (.lc own p it cs elt)) σ H Q → tLc wi g tt te ((ownP c own).map (·.2)) σ H Q := by
  simp only [mE] at h
  split at h
  · rename_i el tg iter ifs as scope pos
    simp only [Bool.and_eq_true, decide_eq_true_eq, List.all_eq_true] at h
    obtain ⟨⟨⟨⟨⟨⟨⟨h1, h2⟩, h3⟩, h4⟩, h5⟩, h6⟩, h7⟩, h8⟩ := h
    subst h1
    have hb := blkOk_by h2
    have hb' : BlkOk X.N X.env.scope scope (ownP c own) := by rw [hx.hN, hx.hsc]; exact hb
    refine ⟨el, tg, iter, ifs, scope, pos, rfl, _, _, _, _, S.I hx h6, hb', fun s H C' cl fp => kP_spec (hx.blk hb.kind s H C' cl fp) h4, fun s H C' cl fp => S.Cs (hx.blk hb.kind s H C' cl fp) h7, fun s H C' cl fp => S.E (hx.blk hb.kind s H C' cl fp) h8, fold_ok h5, fun σ H Q q => ?_⟩
    rw [ownP_snd]
    refine lc_read (fun i hi => by have := h3 i hi; simpa using this) (fun loc r loc' e => ?_) q
    simp only [ev] at e
    split at e
    · rename_i items l1 e1
      split at e
      · rename_i hc
        simp only [Bool.and_eq_true, List.all_eq_true, decide_eq_true_eq] at hc
        split at e
        · rename_i ds l2 e2
          simp only [Option.some.injEq, Prod.mk.injEq] at e
          exact ⟨items, l1, ds, l2, e1, hc.1, hc.2, e2, e.1.symm, e.2.symm⟩
        · cases e
      · cases e
    · cases e
  · cases h
theorem S_lcE (S : Snd P G C c kk n) (hx : Ctx P G C c ow sc kk X) {e : Expr} {own : List Nat} {p : Pat} {it : IT} {cs : List ME} {elt : ME} (h : mE (n + 1) c ow sc e (.lc own p it cs elt) = true) : PE X e (tE P (ev G C (.lc own p it cs elt))) := by
  obtain ⟨el, tg, iter, ifs, scope, pos, rfl, wi, g, tt, te, h1, h2, h3, h4, h5, h6, h7⟩ := S_lc S hx h
  exact (pe_lc hx.calm (by rw [hx.hN]; exact hx.nd) h1 h2 h3 h4 h5 h6).imp h7

theorem S_lc2 (S : Snd P G C c kk n) (hx : Ctx P G C c ow sc kk X) {e : Expr} {own own1 : List Nat} {p p1 : Pat} {it it1 : IT} {cs cs1 : List ME} {elt : ME} (h : mE (n + 1) c ow sc e (.lc2 own p it cs own1 p1 it1 cs1 elt) = true) :
    ∃ el tg iter ifs tg1 iter1 ifs1 scope pos, e = .ListComp el [⟨tg, iter, ifs, 0⟩, ⟨tg1, iter1, ifs1, 0⟩] scope pos ∧ ∃ wi g tt wi1 g1 tt1 te, PI X tg iter wi ∧ BlkOk X.N X.env.scope scope (ownP c own) ∧ (∀ i ∈ own1, i ∈ (ownP c own).map (·.2)) ∧
      (∀ (s : Shared) (H : Hp) (C : Addr) (cl : List (Str × Addr)) (fp : List Addr), PG (X.blk s H scope (compEnvC scope cl C X.env) fp) tg g) ∧ (∀ (s : Shared) (H : Hp) (C : Addr) (cl : List (Str × Addr)) (fp : List Addr), PTs (X.blk s H scope (compEnvC scope cl C X.env) fp) ifs tt) ∧
      (∀ (s : Shared) (H : Hp) (C : Addr) (cl : List (Str × Addr)) (fp : List Addr), PI (X.blk s H scope (compEnvC scope cl C X.env) fp) tg1 iter1 wi1) ∧
      (∀ (s : Shared) (H : Hp) (C : Addr) (cl : List (Str × Addr)) (fp : List Addr), PG (X.blk s H scope (compEnvC scope cl C X.env) fp) tg1 g1) ∧ (∀ (s : Shared) (H : Hp) (C : Addr) (cl : List (Str × Addr)) (fp : List Addr), PTs (X.blk s H scope (compEnvC scope cl C X.env) fp) ifs1 tt1) ∧
      (∀ (s : Shared) (H : Hp) (C : Addr) (cl : List (Str × Addr)) (fp : List Addr), PE (X.blk s H scope (compEnvC scope cl C X.env) fp) el te) ∧ (∀ x, foldedSetIterable iter X.env x = pure x) ∧ (∀ env x, foldedSetIterable iter1 env x = pure x) ∧
      ∀ σ H Q, tE P (ev G C (.lc2 own p it cs own1 p1 it1 cs1 elt)) σ H Q → tLc2 wi g tt wi1 g1 tt1 te ((ownP c own).map (·.2)) own1 σ H Q := by
  simp only [mE] at h
  split at h
  · rename_i el tg iter ifs as tg1 iter1 ifs1 as1 scope pos
    simp only [Bool.and_eq_true, decide_eq_true_eq, List.all_eq_true] at h
    obtain ⟨⟨⟨⟨⟨⟨⟨⟨⟨⟨⟨⟨h1, h1'⟩, h2⟩, h3, h3', h3''⟩, h4⟩, h5⟩, h6⟩, h7⟩, h8⟩, h9⟩, h10⟩, h11⟩, h12⟩ := h
    subst h1
    subst h1'
    have hb := blkOk_by h2
    have hb' : BlkOk X.N X.env.scope scope (ownP c own) := by rw [hx.hN, hx.hsc]; exact hb
    have o1 : ∀ i ∈ own1, i ∈ own := fun i hi => by have := h3'' i hi; simpa using this
    refine ⟨el, tg, iter, ifs, tg1, iter1, ifs1, scope, pos, rfl, _, _, _, _, _, _, _, S.I hx h6, hb', fun i hi => by rw [ownP_snd]; exact o1 i hi, fun s H C' cl fp => kP_spec (hx.blk hb.kind s H C' cl fp) h4, fun s H C' cl fp => S.Cs (hx.blk hb.kind s H C' cl fp) h7, fun s H C' cl fp => S.I (hx.blk hb.kind s H C' cl fp) h10,
      fun s H C' cl fp => kP_spec (hx.blk hb.kind s H C' cl fp) h8, fun s H C' cl fp => S.Cs (hx.blk hb.kind s H C' cl fp) h11, fun s H C' cl fp => S.E (hx.blk hb.kind s H C' cl fp) h12, fold_ok h5, fun env => fold_ok h9, fun σ H Q q => ?_⟩
    rw [ownP_snd]
    refine lc2_read (fun i hi => by have := h3 i hi; simpa using this) (fun i hi => by have := h3' i hi; simpa using this) o1 (fun loc r loc' e => ?_) q
    simp only [ev] at e
    split at e
    · rename_i items l1 e1
      split at e
      · rename_i hc
        simp only [Bool.and_eq_true, List.all_eq_true, decide_eq_true_eq] at hc
        split at e
        · rename_i ds l2 e2
          split at e
          · rename_i hl
            simp only [Option.some.injEq, Prod.mk.injEq] at e
            exact ⟨items, l1, ds, l2, e1, hc.1, hc.2, hl, e2, e.1.symm, e.2.symm⟩
          · cases e
        · cases e
      · cases e
    · cases e
  · cases h
theorem S_lc2E (S : Snd P G C c kk n) (hx : Ctx P G C c ow sc kk X) {e : Expr} {own own1 : List Nat} {p p1 : Pat} {it it1 : IT} {cs cs1 : List ME} {elt : ME} (h : mE (n + 1) c ow sc e (.lc2 own p it cs own1 p1 it1 cs1 elt) = true) : PE X e (tE P (ev G C (.lc2 own p it cs own1 p1 it1 cs1 elt))) := by
  obtain ⟨el, tg, iter, ifs, tg1, iter1, ifs1, scope, pos, rfl, wi, g, tt, wi1, g1, tt1, te, h1, h2, hv, h3, h4, h5, h6, h7, h8, h9, h10, h11⟩ := S_lc2 S hx h
  exact (pe_lc2 hx.calm (by rw [hx.hN]; exact hx.nd) h1 h2 hv h3 h4 h5 h6 h7 h8 h9 h10).imp h11

/-! methods -/
theorem few {cpos : Pos} {e : Expr} {env : Env} (h : notStar e = true) : ((backTo cpos (starEach [e] env)).all (fun x => !x.1) && (backToKw cpos (keywordEach [] env)).all (fun x => x.1.isSome) && decide ([e].length + ([] : List Keyword).length + (if ([] : List Keyword).isEmpty then 0 else 1) < 30)) = true := by
  rw [star_ok h]; rfl
theorem S_app (S : Snd P G C c kk n) (hx : Ctx P G C c ow sc kk X) {e : Expr} {i : Nat} {a : ME} (h : mE (n + 1) c ow sc e (.app i a) = true) : PE X e (tE P (ev G C (.app i a))) := by
  simp only [mE] at h
  split at h
  · simp only [Bool.and_eq_true, decide_eq_true_eq] at h
    obtain ⟨⟨⟨⟨rfl, h2⟩, h3⟩, h4⟩, h5⟩ := h
    have ha := pa_cons (S.E hx h5) pa_nil (star_ok h4)
    refine (pe_bm PySem.F.plainAttrs_list PySem.F.slot_list_append PySem.F.type_list_append mt_append (kV_spec hx h2) ha rfl (few h4) h3 (star_ok h4) rfl).imp fun σ H Q q => m_arg (fun loc r loc' e => ?_) q
    simp only [ev] at e
    split at e
    · rename_i b0 ds0 h0
      split at e
      · rename_i re l1 h1
        split at e
        · rename_i d b ds hd hl
          split at e
          · rename_i hb
            simp only [Option.some.injEq, Prod.mk.injEq] at e
            exact ⟨b0, ds0, re, l1, b, ds, ds ++ [d], .non, h0, h1, hl, e.1.symm, e.2.symm, fun L1 a x vs H1 Q f1 f2 f3 f4 => ap_app f1 f2 (f3 d hd) hb f4⟩
          · cases e
        · cases e
      · cases e
    · cases e
  · cases h
theorem S_ext (S : Snd P G C c kk n) (hx : Ctx P G C c ow sc kk X) {e : Expr} {i : Nat} {a : ME} (h : mE (n + 1) c ow sc e (.ext i a) = true) : PE X e (tE P (ev G C (.ext i a))) := by
  simp only [mE] at h
  split at h
  · simp only [Bool.and_eq_true, decide_eq_true_eq] at h
    obtain ⟨⟨⟨⟨rfl, h2⟩, h3⟩, h4⟩, h5⟩ := h
    have ha := pa_cons (S.E hx h5) pa_nil (star_ok h4)
    refine (pe_bm PySem.F.plainAttrs_list PySem.F.slot_list_extend PySem.F.type_list_extend mt_extend (kV_spec hx h2) ha rfl (few h4) h3 (star_ok h4) rfl).imp fun σ H Q q => m_arg (fun loc r loc' e => ?_) q
    simp only [ev] at e
    split at e
    · rename_i b0 ds0 h0
      split at e
      · rename_i re l1 h1
        split at e
        · rename_i es b ds hd hl
          split at e
          · rename_i hb
            simp only [Option.some.injEq, Prod.mk.injEq] at e
            exact ⟨b0, ds0, re, l1, b, ds, ds ++ es, .non, h0, h1, hl, e.1.symm, e.2.symm, fun L1 a x vs H1 Q f1 f2 f3 f4 => ap_ext f1 f2 (f3 _ hd) hb f4⟩
          · cases e
        · cases e
      · cases e
    · cases e
  · cases h
theorem S_popAt (S : Snd P G C c kk n) (hx : Ctx P G C c ow sc kk X) {e : Expr} {i : Nat} {a : ME} (h : mE (n + 1) c ow sc e (.popAt i a) = true) : PE X e (tE P (ev G C (.popAt i a))) := by
  simp only [mE] at h
  split at h
  · simp only [Bool.and_eq_true, decide_eq_true_eq] at h
    obtain ⟨⟨⟨⟨rfl, h2⟩, h3⟩, h4⟩, h5⟩ := h
    have ha := pa_cons (S.E hx h5) pa_nil (star_ok h4)
    refine (pe_bm PySem.F.plainAttrs_list PySem.F.slot_list_pop PySem.F.type_list_pop mt_popAt (kV_spec hx h2) ha rfl (few h4) h3 (star_ok h4) rfl).imp fun σ H Q q => m_arg (fun loc r loc' e => ?_) q
    simp only [ev] at e
    split at e
    · rename_i b0 ds0 h0
      split at e
      · rename_i k l1 h1
        split at e
        · rename_i b ds hl
          split at e
          · rename_i hb
            split at e
            · rename_i d hd
              simp only [Option.some.injEq, Prod.mk.injEq] at e
              exact ⟨b0, ds0, _, l1, b, ds, _, d, h0, h1, hl, e.1.symm, e.2.symm, fun L1 a x vs H1 Q f1 f2 f3 f4 => ap_popAt f1 f2 (f3 _ rfl) hb.1 hb.2 hd f4⟩
            · cases e
          · cases e
        · cases e
      · cases e
    · cases e
  · cases h
theorem S_pop (S : Snd P G C c kk n) (hx : Ctx P G C c ow sc kk X) {e : Expr} {i : Nat} (h : mE (n + 1) c ow sc e (.pop i) = true) : PE X e (tE P (ev G C (.pop i))) := by
  simp only [mE] at h
  split at h
  · simp only [Bool.and_eq_true, decide_eq_true_eq] at h
    obtain ⟨⟨rfl, h2⟩, h3⟩ := h
    refine (pe_bm0 PySem.F.plainAttrs_list PySem.F.slot_list_pop PySem.F.type_list_pop mt_pop (kV_spec hx h2) rfl h3).imp fun σ H Q q => m_no (fun loc r loc' e => ?_) q
    simp only [ev] at e
    split at e
    · rename_i b ds hl
      split at e
      · rename_i d hd
        simp only [Option.some.injEq, Prod.mk.injEq] at e
        exact ⟨b, ds, _, d, hl, e.1.symm, e.2.symm, fun L1 a vs H1 Q f1 f2 f4 => ap_pop f1 f2 hd f4⟩
      · cases e
    · cases e
  · cases h
theorem S_clear (S : Snd P G C c kk n) (hx : Ctx P G C c ow sc kk X) {e : Expr} {i : Nat} (h : mE (n + 1) c ow sc e (.clear i) = true) : PE X e (tE P (ev G C (.clear i))) := by
  simp only [mE] at h
  split at h
  · simp only [Bool.and_eq_true, decide_eq_true_eq] at h
    obtain ⟨⟨rfl, h2⟩, h3⟩ := h
    refine (pe_bm0 PySem.F.plainAttrs_list PySem.F.slot_list_clear PySem.F.type_list_clear mt_clear (kV_spec hx h2) rfl h3).imp fun σ H Q q => m_no (fun loc r loc' e => ?_) q
    simp only [ev] at e
    split at e
    · rename_i b ds hl
      simp only [Option.some.injEq, Prod.mk.injEq] at e
      exact ⟨b, ds, _, .non, hl, e.1.symm, e.2.symm, fun L1 a vs H1 Q f1 f2 f4 => ap_clear f1 f4⟩
    · cases e
  · cases h
theorem S_ins0 (S : Snd P G C c kk n) (hx : Ctx P G C c ow sc kk X) {e : Expr} {i : Nat} {a : ME} (h : mE (n + 1) c ow sc e (.ins0 i a) = true) : PE X e (tE P (ev G C (.ins0 i a))) := by
  simp only [mE] at h
  split at h
  · rename_i x p1 at_ ap z y cp
    simp only [Bool.and_eq_true, decide_eq_true_eq] at h
    obtain ⟨⟨⟨⟨⟨rfl, h2⟩, h3⟩, hz⟩, h4⟩, h5⟩ := h
    have hz' : ∃ k p, z = .Constant (.int 0) k p := by
      unfold isZero at hz
      split at hz
      · rw [decide_eq_true_eq] at hz
        subst hz
        exact ⟨_, _, rfl⟩
      · cases hz
    obtain ⟨zk, zp, rfl⟩ := hz'
    have ha : PA X [.Constant (.int 0) zk zp, y] (tCons (tC (.int 0)) (tCons (tE P (ev G C a)) tNil)) := pa_cons pe_int (pa_cons (S.E hx h5) pa_nil (star_ok h4)) rfl
    have st : starEach (Expr.Constant (.int 0) zk zp :: [y]) X.env = (false, eval (Expr.Constant (.int 0) zk zp) X.env) :: starEach [y] X.env := rfl
    refine (pe_bm PySem.F.plainAttrs_list PySem.F.slot_list_insert PySem.F.type_list_insert mt_insert (kV_spec hx h2) ha rfl (by rw [st, star_ok h4]; rfl) h3 st (by rw [star_ok h4]; rfl)).imp fun σ H Q q => m_arg0 (fun loc r loc' e => ?_) q
    simp only [ev] at e
    split at e
    · rename_i b0 ds0 h0
      split at e
      · rename_i re l1 h1
        split at e
        · rename_i d b ds hd hl
          split at e
          · rename_i hb
            simp only [Option.some.injEq, Prod.mk.injEq] at e
            exact ⟨b0, ds0, re, l1, b, ds, d :: ds, .non, h0, h1, hl, e.1.symm, e.2.symm, fun L1 a x vs H1 Q f1 f2 f3 f4 => ap_ins0 f1 f2 (f3 d hd) hb f4⟩
          · cases e
        · cases e
      · cases e
    · cases e
  · cases h
theorem S_dropc (S : Snd P G C c kk n) (hx : Ctx P G C c ow sc kk X) {e : Expr} {a : ME} (h : mE (n + 1) c ow sc e (.dropc a) = true) : PE X e (tE P (ev G C (.dropc a))) := by
  simp only [mE] at h
  split at h
  · simp only [Bool.and_eq_true, decide_eq_true_eq] at h
    obtain ⟨⟨⟨rfl, h2⟩, h3⟩, h4⟩ := h
    refine (pe_bm0 PySem.F.plainAttrs_list PySem.F.slot_list_clear PySem.F.type_list_clear mt_clear (S.E hx h4) (base_ok h2) h3).imp fun σ H Q q => e_dropc (fun loc r loc' e => ?_) q
    simp only [ev] at e
    split at e
    · rename_i ds l1 h1
      simp only [Option.some.injEq, Prod.mk.injEq] at e
      obtain ⟨e1, rfl⟩ := e
      exact ⟨ds, h1, e1.symm⟩
    · cases e
  · cases h
theorem S_dropa (S : Snd P G C c kk n) (hx : Ctx P G C c ow sc kk X) {e : Expr} {a b : ME} (h : mE (n + 1) c ow sc e (.dropa a b) = true) : PE X e (tE P (ev G C (.dropa a b))) := by
  simp only [mE] at h
  split at h
  · simp only [Bool.and_eq_true, decide_eq_true_eq] at h
    obtain ⟨⟨⟨⟨⟨rfl, h2⟩, h3⟩, h4⟩, h5⟩, h6⟩ := h
    refine (pe_bm PySem.F.plainAttrs_list PySem.F.slot_list_append PySem.F.type_list_append mt_append (S.E hx h5) (pa_cons (S.E hx h6) pa_nil (star_ok h4)) (base_ok h2) (few h4) h3 (star_ok h4) rfl).imp fun σ H Q q => e_dropa (fun loc r loc' e => ?_) q
    simp only [ev] at e
    split at e
    · rename_i ds l1 h1
      split at e
      · rename_i rb l2 h2'
        split at e
        · rename_i d hd
          split at e
          · rename_i hb
            simp only [Option.some.injEq, Prod.mk.injEq] at e
            obtain ⟨e1, rfl⟩ := e
            exact ⟨ds, l1, rb, d, h1, h2', hd, hb, e1.symm⟩
          · cases e
        · cases e
      · cases e
    · cases e
  · cases h
/-! the script -/
theorem S_sIx (S : Snd P G C c kk n) (hx : Ctx P G C c ow sc kk X) {e : Expr} {i : Nat} {a : ME} (h : mE (n + 1) c ow sc e (.sIx i a) = true) : PE X e (tE P (ev G C (.sIx i a))) := by
  simp only [mE] at h
  split at h
  · simp only [Bool.and_eq_true] at h
    refine (pe_ix ix_list (kV_spec hx h.1.1) (S.E hx h.2) (slice_ok h.1.2)).imp fun σ H Q q => x_ix hx.hK (fun loc r loc' e => ?_) q
    simp only [ev] at e
    split at e
    · rename_i ns h0
      split at e
      · rename_i k l1 h1
        split at e
        · rename_i hk
          split at e
          · rename_i m hm
            simp only [Option.some.injEq, Prod.mk.injEq] at e
            obtain ⟨e1, rfl⟩ := e
            exact ⟨ns, k, m, h0, h1, hk, hm, e1.symm⟩
          · cases e
        · cases e
      · cases e
    · cases e
  · cases h
theorem S_sLen (S : Snd P G C c kk n) (hx : Ctx P G C c ow sc kk X) {e : Expr} {i : Nat} (h : mE (n + 1) c ow sc e (.sLen i) = true) : PE X e (tE P (ev G C (.sLen i))) := by
  simp only [mE] at h
  split at h
  · simp only [Bool.and_eq_true] at h
    obtain ⟨rfl, hg, hm⟩ := kB_spec hx h.1
    refine (pe_callB call_len_seq hg hm (by decide +kernel) (pa_cons (kV_spec hx h.2) pa_nil rfl) (by decide +kernel) (by decide +kernel) rfl rfl).imp fun σ H Q q => ?_
    refine x_len hx.hK (fun loc r loc' e => ?_) q
    simp only [ev] at e
    split at e
    · rename_i ns h0
      simp only [Option.some.injEq, Prod.mk.injEq] at e
      exact ⟨ns, h0, e.1.symm, e.2.symm⟩
    · cases e
  · cases h
theorem S_sSl (S : Snd P G C c kk n) (hx : Ctx P G C c ow sc kk X) {e : Expr} {i : Nat} {lo hi : Option ME} (h : mE (n + 1) c ow sc e (.sSl i lo hi) = true) : PE X e (tE P (ev G C (.sSl i lo hi))) := by
  simp only [mE] at h
  split at h
  · simp only [Bool.and_eq_true] at h
    refine (pe_slice sl_list (kV_spec hx h.1.1) (S.O hx h.1.2) (S.O hx h.2)).imp fun σ H Q q => x_sl hx.hK (fun loc r loc' e => ?_) q
    simp only [ev] at e
    split at e
    · rename_i ns h0
      split at e
      · rename_i x l1 h1
        split at e
        · rename_i y l2 h2
          simp only [Option.some.injEq, Prod.mk.injEq] at e
          obtain ⟨e1, rfl⟩ := e
          exact ⟨ns, x, l1, y, h0, h1, h2, e1.symm⟩
        · cases e
      · cases e
    · cases e
  · cases h
theorem S_E (S : Snd P G C c kk n) (hx : Ctx P G C c ow sc kk X) {e : Expr} {m : ME} (h : mE (n + 1) c ow sc e m = true) : PE X e (tE P (ev G C m)) := by
  cases m with
  | c d => exact S_c S hx h
  | g k => exact S_g S hx h
  | v i => exact S_v S hx h
  | r i => exact S_r S hx h
  | fz i => exact S_fz S hx h
  | tup es => exact S_tup S hx h
  | lst es => exact S_lst S hx h
  | o1 o a => exact S_o1 S hx h
  | o2 o a b => exact S_o2 S hx h
  | ch o o' a b d => exact S_ch S hx h
  | sl a lo hi => exact S_sl S hx h
  | and a b => exact S_and S hx h
  | or a b => exact S_or S hx h
  | not a => exact S_not S hx h
  | ite t a b => exact S_ite S hx h
  | call f as => exact S_call S hx h
  | callK f as ks p => exact S_callK S hx h
  | lc own p it cs elt => exact S_lcE S hx h
  | app i a => exact S_app S hx h
  | pop i => exact S_pop S hx h
  | popAt i a => exact S_popAt S hx h
  | clear i => exact S_clear S hx h
  | ext i a => exact S_ext S hx h
  | sIx i a => exact S_sIx S hx h
  | sLen i => exact S_sLen S hx h
  | sSl i lo hi => exact S_sSl S hx h
  | lc2 own p it cs own1 p1 it1 cs1 elt => exact S_lc2E S hx h
  | mxD mx a d => exact S_mx S hx h
  | thaw i a => exact S_thaw S hx h
  | ins0 i a => exact S_ins0 S hx h
  | dropc a => exact S_dropc S hx h
  | dropa a b => exact S_dropa S hx h
  | eqI ne tb a b => exact S_eqI S hx h
  | mn3 a b d => exact S_mn3 S hx h
  | callD f as ds => exact S_callD S hx h
  | bad => exact S_bad
  | fld tb a => exact S_fld S hx h
  | meth tb a as => exact S_meth S hx h
  | make k f as => exact S_make S hx h
  | sumR it => exact S_sumR S hx h
  | ch3 o o' o'' a b d g => exact S_ch3 S hx h
  | lrng it => exact S_lrng S hx h
theorem evs_nil {loc loc' : Loc} {rs : List R} (e : evs G C [] loc = some (rs, loc')) : rs = [] ∧ loc' = loc := by
  simp only [evs, Option.some.injEq, Prod.mk.injEq] at e
  exact ⟨e.1.symm, e.2.symm⟩
theorem evs_cons {m : ME} {ms : List ME} {loc loc' : Loc} {rs : List R} (e : evs G C (m :: ms) loc = some (rs, loc')) : ∃ r l1 rs', ev G C m loc = some (r, l1) ∧ evs G C ms l1 = some (rs', loc') ∧ rs = sett r :: rs' := by
  simp only [evs] at e
  split at e
  · rename_i r l1 h1
    split at e
    · rename_i rs' l2 h2
      simp only [Option.some.injEq, Prod.mk.injEq] at e
      obtain ⟨e1, rfl⟩ := e
      exact ⟨r, l1, rs', h1, h2, e1.symm⟩
    · cases e
  · cases e
theorem S_Es (S : Snd P G C c kk n) (hx : Ctx P G C c ow sc kk X) {es : List Expr} {ms : List ME} (h : mEs (n + 1) c ow sc es ms = true) : PA X es (tA P (evs G C ms)) := by
  simp only [mEs] at h
  split at h
  · exact pa_nil.imp fun σ H Q q => a_nil (fun loc rs loc' e => evs_nil e) q
  · simp only [Bool.and_eq_true] at h
    exact (pa_cons (S.E hx h.1.2) (S.Es hx h.2) (star_ok h.1.1)).imp fun σ H Q q => a_cons (fun loc rs loc' e => evs_cons e) q
  · cases h
theorem S_Ks (S : Snd P G C c kk n) (hx : Ctx P G C c ow sc kk X) {ks : List Keyword} {ms : List ME} (h : mEs (n + 1) c ow sc (ks.map (·.value)) ms = true) : PK X ks (tA P (evs G C ms)) := by
  cases ks with
  | nil =>
    cases ms with
    | nil => exact pk_nil.imp fun σ H Q q => a_nil (fun loc rs loc' e => evs_nil e) q
    | cons _ _ => simp [mEs] at h
  | cons k ks =>
    obtain ⟨karg, kval, kpos⟩ := k
    cases ms with
    | nil => simp [mEs] at h
    | cons m ms =>
      simp only [List.map_cons, mEs, Bool.and_eq_true] at h
      exact (pk_cons (S.E hx h.1.2) (S.Ks hx h.2)).imp fun σ H Q q => a_cons (fun loc rs loc' e => evs_cons e) q
theorem S_O (S : Snd P G C c kk n) (hx : Ctx P G C c ow sc kk X) {e : Option Expr} {m : Option ME} (h : mO (n + 1) c ow sc e m = true) : PO X e (tO P (evo G C m)) := by
  simp only [mO] at h
  split at h
  · refine po_none.imp fun σ H Q q => o_none (fun loc o loc' e => ?_) q
    simp only [evo, Option.some.injEq, Prod.mk.injEq] at e
    exact ⟨e.1.symm, e.2.symm⟩
  · refine (po_some (S.E hx h)).imp fun σ H Q q => o_some (fun loc o loc' e => ?_) q
    simp only [evo] at e
    split at e
    · rename_i i l1 h1
      simp only [Option.some.injEq, Prod.mk.injEq] at e
      obtain ⟨e1, rfl⟩ := e
      exact ⟨i, h1, e1.symm⟩
    · cases e
  · cases h
theorem evT_and {a b : ME} : ∀ loc k loc', evT G C (.and a b) loc = some (k, loc') → ∃ d l1, evT G C a loc = some (d, l1) ∧ ((d = true ∧ evT G C b l1 = some (k, loc')) ∨ (d = false ∧ k = false ∧ loc' = l1)) := fun loc k loc' e => by
  obtain ⟨r, d, e1, e2, e3⟩ := evT_spec e
  obtain ⟨ra, l1, da, h1, h2, h3⟩ := and_spec _ _ _ e1
  rcases h3 with ⟨h3, h4⟩ | ⟨h3, rfl, rfl⟩
  · exact ⟨true, l1, evT_of h1 h2 h3, .inl ⟨rfl, evT_of h4 e2 e3⟩⟩
  · rw [res_sett, h2] at e2
    cases e2
    rw [h3] at e3
    cases e3
    exact ⟨false, loc', evT_of h1 h2 h3, .inr ⟨rfl, rfl, rfl⟩⟩
theorem evT_or {a b : ME} : ∀ loc k loc', evT G C (.or a b) loc = some (k, loc') → ∃ d l1, evT G C a loc = some (d, l1) ∧ ((d = false ∧ evT G C b l1 = some (k, loc')) ∨ (d = true ∧ k = true ∧ loc' = l1)) := fun loc k loc' e => by
  obtain ⟨r, d, e1, e2, e3⟩ := evT_spec e
  obtain ⟨ra, l1, da, h1, h2, h3⟩ := or_spec _ _ _ e1
  rcases h3 with ⟨h3, h4⟩ | ⟨h3, rfl, rfl⟩
  · exact ⟨false, l1, evT_of h1 h2 h3, .inl ⟨rfl, evT_of h4 e2 e3⟩⟩
  · rw [res_sett, h2] at e2
    cases e2
    rw [h3] at e3
    cases e3
    exact ⟨true, loc', evT_of h1 h2 h3, .inr ⟨rfl, rfl, rfl⟩⟩
theorem evT_not {a : ME} : ∀ loc k loc', evT G C (.not a) loc = some (k, loc') → ∃ b, evT G C a loc = some (b, loc') ∧ k = !b := fun loc k loc' e => by
  obtain ⟨r, d, e1, e2, e3⟩ := evT_spec e
  simp only [ev] at e1
  split at e1
  · rename_i ra l1 h1
    split at e1
    · rename_i da h2
      split at e1
      · rename_i kb h3
        simp only [Option.some.injEq, Prod.mk.injEq] at e1
        obtain ⟨rfl, rfl⟩ := e1
        cases e2
        cases e3
        exact ⟨kb, evT_of h1 h2 h3, rfl⟩
      · cases e1
    · cases e1
  · cases e1
/-- a comparison answers a truth -/
theorem cmp_bl {o : O2} {op : CmpOp} (ho : cmpOf o = some op) {d e : D} {r : R} (h : ap2 o d e = some r) : ∃ k, r = .val (.bl k) := by
  cases o <;> simp only [cmpOf, reduceCtorEq] at ho
  · simp only [ap2] at h
    split at h
    · cases h; exact ⟨_, rfl⟩
    · obtain ⟨b, hb, rfl⟩ := Option.map_eq_some_iff.mp h; exact ⟨_, rfl⟩
  · simp only [ap2] at h
    split at h
    · cases h; exact ⟨_, rfl⟩
    · obtain ⟨b, hb, rfl⟩ := Option.map_eq_some_iff.mp h; exact ⟨_, rfl⟩
  · simp only [ap2] at h
    split at h
    · cases h; exact ⟨_, rfl⟩
    · obtain ⟨b, hb, rfl⟩ := Option.map_eq_some_iff.mp h; exact ⟨_, rfl⟩
    · cases h
  · simp only [ap2, cmpI] at h; split at h <;> cases h; exact ⟨_, rfl⟩
  · simp only [ap2, cmpI] at h; split at h <;> cases h; exact ⟨_, rfl⟩
  · simp only [ap2, cmpI] at h; split at h <;> cases h; exact ⟨_, rfl⟩
  · simp only [ap2] at h
    split at h
    · split at h <;> cases h; exact ⟨_, rfl⟩
    · split at h <;> cases h; exact ⟨_, rfl⟩
    · cases h
  · simp only [ap2] at h
    split at h
    · split at h <;> cases h; exact ⟨_, rfl⟩
    · split at h <;> cases h; exact ⟨_, rfl⟩
    · cases h
  · simp only [ap2] at h
    split at h <;> cases h <;> exact ⟨_, rfl⟩
  · simp only [ap2] at h
    split at h <;> cases h <;> exact ⟨_, rfl⟩
  · simp only [ap2] at h
    split at h <;> cases h <;> exact ⟨_, rfl⟩
  · simp only [ap2] at h
    split at h <;> cases h <;> exact ⟨_, rfl⟩
theorem evT_cmp {o : O2} {op : CmpOp} (ho : cmpOf o = some op) {a b : ME} : ∀ loc k loc', evT G C (.o2 o a b) loc = some (k, loc') → ev G C (.o2 o a b) loc = some (.val (.bl k), loc') := fun loc k loc' e => by
  obtain ⟨r, d, e1, e2, e3⟩ := evT_spec e
  obtain ⟨ra, l1, rb, x, y, h1, h2, h3, h4, h5⟩ := o2_spec _ _ _ e1
  obtain ⟨k', rfl⟩ := cmp_bl ho h5
  cases e2
  cases e3
  exact e1
theorem evT_eqI {ne : Bool} {tb : List (Nat × Nat)} {a b : ME} : ∀ loc k loc', evT G C (.eqI ne tb a b) loc = some (k, loc') → ev G C (.eqI ne tb a b) loc = some (.val (.bl k), loc') := fun loc k loc' e => by
  obtain ⟨r, d, e1, e2, e3⟩ := evT_spec e
  obtain ⟨c, fs, gs, f, l1, l2, a1, a', x, _, _, _, _, _, _, _, rfl⟩ := eqI_spec _ _ _ e1
  cases e2
  cases e3
  exact e1
theorem evT_ch {o o' : O2} {a b d : ME} : ∀ loc k loc', evT G C (.ch o o' a b d) loc = some (k, loc') → ev G C (.ch o o' a b d) loc = some (.val (.bl k), loc') := fun loc k loc' e => by
  obtain ⟨r, x, e1, e2, e3⟩ := evT_spec e
  obtain ⟨ra, l1, rb, l2, x', y', h1, h2, h3, h4, h5⟩ := ch_spec _ _ _ e1
  rcases h5 with ⟨h5, rc, e', f1, k', h6, h7, h8, h9, rfl⟩ | ⟨h5, rfl, rfl⟩
  · cases e2; cases e3; exact e1
  · cases e2; cases e3; exact e1
theorem evT_ch3 {o o' o'' : O2} {a b d g : ME} : ∀ loc k loc', evT G C (.ch3 o o' o'' a b d g) loc = some (k, loc') → ev G C (.ch3 o o' o'' a b d g) loc = some (.val (.bl k), loc') := fun loc k loc' e => by
  obtain ⟨r, x, e1, e2, e3⟩ := evT_spec e
  obtain ⟨ra, l1, rb, l2, x', y', h1, h2, h3, h4, h5⟩ := ch3_spec _ _ _ e1
  rcases h5 with ⟨h5, rc, l3, e', f1, h6, h7, h8, h9⟩ | ⟨h5, rfl, rfl⟩
  · rcases h9 with ⟨h9, rd, f2, g1, k', h10, h11, h12, h13, rfl⟩ | ⟨h9, rfl, rfl⟩
    · cases e2; cases e3; exact e1
    · cases e2; cases e3; exact e1
  · cases e2; cases e3; exact e1
theorem S_T0 (S : Snd P G C c kk n) (hx : Ctx P G C c ow sc kk X) {e : Expr} {m : ME} (h1 : plainTest e = true) (h2 : mE n c ow sc e m = true) : PT X e (tT P (evT G C m)) :=
  (pt_truth (S.E hx h2) (plain_ok h1)).imp fun σ H Q q => t_of hx.hK (fun loc k loc' e => evT_spec e) q
theorem S_W (S : Snd P G C c kk n) (hx : Ctx P G C c ow sc kk X) {op : BoolOp} {vs : List Expr} {p : Pos} {m : ME} (h : mT (n + 1) c ow sc (.BoolOp op vs p) m = true) : PW X (.BoolOp op vs p) (tT P (evT G C m)) := by
  simp only [mT] at h
  split at h
  · rename_i heq; cases heq
  · rename_i x y p' heq
    cases heq
    split at h
    · simp only [Bool.and_eq_true] at h
      exact (pw_and (S.T hx h.1) (pw_and1 (S.T hx h.2))).imp fun σ H Q q => t_and evT_and q
    · cases h
  · rename_i x y z r p' heq
    cases heq
    split at h
    · simp only [Bool.and_eq_true] at h
      exact (pw_and (S.T hx h.1) (S.W hx h.2)).imp fun σ H Q q => t_and evT_and q
    · cases h
  · rename_i x y p' heq
    cases heq
    split at h
    · simp only [Bool.and_eq_true] at h
      exact (pw_or (S.T hx h.1) (pw_or1 (S.T hx h.2))).imp fun σ H Q q => t_or evT_or q
    · cases h
  · rename_i x y z r p' heq
    cases heq
    split at h
    · simp only [Bool.and_eq_true] at h
      exact (pw_or (S.T hx h.1) (S.W hx h.2)).imp fun σ H Q q => t_or evT_or q
    · cases h
  · rename_i heq; cases heq
  · rename_i heq; cases heq
  · rename_i heq; cases heq
  · simp [plainTest] at h
theorem S_T (S : Snd P G C c kk n) (hx : Ctx P G C c ow sc kk X) {e : Expr} {m : ME} (h : mT (n + 1) c ow sc e m = true) : PT X e (tT P (evT G C m)) := by
  have h0 := h
  simp only [mT] at h
  split at h
  · split at h
    · exact (pt_not (S.T hx h)).imp fun σ H Q q => t_not evT_not q
    · cases h
  · exact (S_W S hx h0).pt
  · exact (S_W S hx h0).pt
  · exact (S_W S hx h0).pt
  · exact (S_W S hx h0).pt
  · split at h
    · simp only [Bool.and_eq_true, decide_eq_true_eq] at h
      refine (pt_cmpR (d_cmp hx.hK hx.units h.1.1.1) (S.E hx h.1.2) (S.E hx h.2) (set_ok h.1.1.2)).imp fun σ H Q q => ?_
      exact o2_read o2_spec (t_bl (evT_cmp h.1.1.1) q)
    · simp only [Bool.and_eq_true, decide_eq_true_eq] at h
      obtain ⟨⟨⟨⟨rfl, h2⟩, h3⟩, h4⟩, h5⟩ := h
      refine (pt_cmpR (op_eqI (CX := CX0) hx.gd) (S.E hx h4) (S.E hx h5) (set_ok h3)).imp fun σ H Q q => ?_
      exact e_eqI eqI_spec hx.room hx.room1 (kEq_ok hx h2) (t_bl evT_eqI q)
    · cases h
  · split at h
    · simp only [Bool.and_eq_true, decide_eq_true_eq] at h
      refine (pt_chain (d_cmp hx.hK hx.units h.1.1.1.1.1.1) (d_cmp hx.hK hx.units h.1.1.1.1.1.2) (S.E hx h.1.1.2) (S.E hx h.1.2) (S.E hx h.2) (last_ok h.1.1.1.2)).imp fun σ H Q q => ?_
      exact e_ch ch_spec (t_bl evT_ch q)
    · cases h
  · split at h
    · simp only [Bool.and_eq_true, decide_eq_true_eq] at h
      obtain ⟨⟨⟨⟨⟨⟨⟨h1, h2⟩, h3⟩, h4⟩, h5⟩, h6⟩, h7⟩, h8⟩ := h
      refine (pt_chain3 (d_cmp hx.hK hx.units h1) (d_cmp hx.hK hx.units h2) (d_cmp hx.hK hx.units h3) (S.E hx h5) (S.E hx h6) (S.E hx h7) (S.E hx h8) (last3_ok h4)).imp fun σ H Q q => ?_
      exact e_ch3 ch3_spec (t_bl evT_ch3 q)
    · cases h
  · simp only [Bool.and_eq_true] at h
    exact S_T0 S hx h.1 h.2
theorem S_Cs (S : Snd P G C c kk n) (hx : Ctx P G C c ow sc kk X) {es : List Expr} {ms : List ME} (h : mC (n + 1) c ow sc es ms = true) : PTs X es (tT P (evC G C ms)) := by
  simp only [mC] at h
  split at h
  · refine ⟨fun pins s σ H Q I q => pts_nil.run pins s σ H Q I ?_⟩
    obtain ⟨L0, loc, b, loc', R, e, k⟩ := q
    simp only [evC, Option.some.injEq, Prod.mk.injEq] at e
    obtain ⟨rfl, rfl⟩ := e
    exact k H (.none0 R)
  · rename_i e m
    refine ⟨fun pins s σ H Q I q => (pts_one (S.T hx h)).run pins s σ H Q I ?_⟩
    obtain ⟨L0, loc, b, loc', R, e, k⟩ := q
    refine ⟨L0, loc, b, loc', R, ?_, k⟩
    simp only [evC] at e
    split at e
    · rename_i r l1 h1
      split at e
      · rename_i d h2
        split at e
        · rename_i h3
          simp only [evC, Option.some.injEq, Prod.mk.injEq] at e
          obtain ⟨rfl, rfl⟩ := e
          exact evT_of h1 h2 h3
        · rename_i h3
          simp only [Option.some.injEq, Prod.mk.injEq] at e
          obtain ⟨rfl, rfl⟩ := e
          exact evT_of h1 h2 h3
        · cases e
      · cases e
    · cases e
  · cases h
theorem S_I (S : Snd P G C c kk n) (hx : Ctx P G C c ow sc kk X) {tg e : Expr} {it : IT} (h : mI (n + 1) c ow sc tg e it = true) : PI X tg e (tI P (evI G C it)) := by
  cases it with
  | seq a =>
    simp only [mI] at h
    refine (pi_list (S.E hx h)).imp fun σ H Q q => i_seq (fun loc items loc' e => ?_) q
    simp only [evI] at e
    split at e
    · rename_i r l1 h1
      split at e
      · rename_i ds h2
        simp only [Option.some.injEq, Prod.mk.injEq] at e
        obtain ⟨rfl, rfl⟩ := e
        exact ⟨r, h1, h2⟩
      · cases e
    · cases e
  | tpl a =>
    simp only [mI] at h
    refine (pi_tup (S.E hx h)).imp fun σ H Q q => i_tpl hx.hK (fun loc items loc' e => ?_) q
    simp only [evI] at e
    split at e
    · rename_i r l1 h1
      split at e
      · rename_i ds h2
        simp only [Option.some.injEq, Prod.mk.injEq] at e
        obtain ⟨rfl, rfl⟩ := e
        exact ⟨r, h1, h2⟩
      · cases e
    · cases e
  | rng1 a =>
    simp only [mI] at h
    split at h
    · simp only [Bool.and_eq_true] at h
      obtain ⟨rfl, hg, hm⟩ := kB_spec hx h.1.1
      refine (pi_range1 hg hm (pa_cons (S.E hx h.2) pa_nil (star_ok h.1.2)) (star_ok h.1.2)).imp fun σ H Q q => i_rng1 (fun loc items loc' e => ?_) q
      simp only [evI] at e
      split at e
      · rename_i r l1 h1
        split at e
        · rename_i m
          split at e
          · rename_i hs
            simp only [Option.some.injEq, Prod.mk.injEq] at e
            obtain ⟨rfl, rfl⟩ := e
            exact ⟨m, h1, hs, rfl⟩
          · cases e
        · cases e
      · cases e
    · cases h
  | rng2 a b =>
    simp only [mI] at h
    split at h
    · simp only [Bool.and_eq_true] at h
      obtain ⟨⟨⟨⟨h1, h2⟩, h3⟩, h4⟩, h5⟩ := h
      obtain ⟨rfl, hg, hm⟩ := kB_spec hx h1
      refine (pi_range2 hg hm (pa_cons (S.E hx h4) (pa_cons (S.E hx h5) pa_nil (star_ok h3)) (star_ok h2)) (by rw [star_ok h2, star_ok h3]; rfl) (by rw [star_ok h3]; rfl)).imp fun σ H Q q => i_rng2 (fun loc items loc' e => ?_) q
      simp only [evI] at e
      split at e
      · rename_i r l1 h1
        split at e
        · rename_i r' l2 h2
          split at e
          · rename_i m1 m2
            split at e
            · rename_i hs
              simp only [Option.some.injEq, Prod.mk.injEq] at e
              simp only [Bool.and_eq_true] at hs
              obtain ⟨rfl, rfl⟩ := e
              exact ⟨_, l1, _, h1, h2, hs.1, hs.2, rfl⟩
            · cases e
          · cases e
        · cases e
      · cases e
    · cases h
  | enum a =>
    simp only [mI] at h
    split at h
    · simp only [Bool.and_eq_true] at h
      obtain ⟨rfl, hg, hm⟩ := kB_spec hx h.1.1
      refine (pi_enum hg hm (pa_cons (S.E hx h.2) pa_nil (star_ok h.1.2)) (star_ok h.1.2)).imp fun σ H Q q => i_enum (fun loc items loc' e => ?_) q
      simp only [evI] at e
      split at e
      · rename_i r l1 h1
        split at e
        · rename_i ds h2
          simp only [Option.some.injEq, Prod.mk.injEq] at e
          obtain ⟨rfl, rfl⟩ := e
          exact ⟨r, ds, h1, h2, rfl⟩
        · cases e
      · cases e
    · cases h
  | zip a b =>
    simp only [mI] at h
    split at h
    · simp only [Bool.and_eq_true] at h
      obtain ⟨⟨⟨⟨h1, h2⟩, h3⟩, h4⟩, h5⟩ := h
      obtain ⟨rfl, hg, hm⟩ := kB_spec hx h1
      refine (RZ.pi_zipA hg hm (pa_cons (S.E hx h4) (pa_cons (S.E hx h5) pa_nil (star_ok h3)) (star_ok h2)) (star_ok h2) (by rw [star_ok h3]; rfl)).imp fun σ H Q q => i_zip hx.hK (fun loc items loc' e => ?_) q
      simp only [evI] at e
      split at e
      · rename_i r l1 h1
        split at e
        · rename_i r' l2 h2
          split at e
          · rename_i ds es h3 h4
            simp only [Option.some.injEq, Prod.mk.injEq] at e
            obtain ⟨rfl, rfl⟩ := e
            exact ⟨r, l1, r', ds, es, h1, h2, .inl ⟨h3, h4⟩, rfl⟩
          · rename_i ds es h3 h4
            simp only [Option.some.injEq, Prod.mk.injEq] at e
            obtain ⟨rfl, rfl⟩ := e
            exact ⟨r, l1, r', ds, es, h1, h2, .inr ⟨h3, h4⟩, rfl⟩
          · cases e
        · cases e
      · cases e
    · cases h
theorem snd_all : ∀ n, Snd P G C c kk n
  | 0 => snd_zero
  | n + 1 =>
    have S := snd_all n
    ⟨fun hx h => S_E S hx h, fun hx h => S_Es S hx h, fun hx h => S_Ks S hx h, fun hx h => S_O S hx h, fun hx h => S_T S hx h, fun hx h => S_W S hx h, fun hx h => S_Cs S hx h, fun hx h => S_I S hx h⟩
end
end MP

namespace MP
open PySem PySem.Spec PyProof.Rows L2

/-! ### the look at statements -/
def isComp : Expr → Bool
  | .ListComp _ _ _ _ => true
  | _ => false
/-- a name that is a cell stands among the targets: the stores are not swapped -/
def someCell (sc : Scope) (es : List Expr) : Bool := es.any fun e => match e with
  | .Name x _ => decide (sc.names.lookup x = some .cell)
  | _ => false
theorem noswap_ok {env : Env} {es vs : List Expr} {k k2 : Nat} {pt pt2 : Pos} (h : someCell env.scope es = true) : swappedStores [.Tuple es k pt] (.Tuple vs k2 pt2) env = pure none := by
  unfold someCell at h
  rw [List.any_eq_true] at h
  obtain ⟨e, he, h1⟩ := h
  cases e <;> first | (exfalso; simp at h1; done) | skip
  rename_i x p
  simp only [decide_eq_true_eq] at h1
  have hk : env.kindOf x = some .cell := h1
  have key : ∀ l : Nat, ((es.filterMap fun | .Name id pos => if env.kindOf id == some .local && pos.line == l then some id else none | _ => none).length != es.length) = true := by
    intro l
    rw [bne_iff_ne]
    intro z
    have z2 : (es.filterMap fun | .Name id pos => if env.kindOf id == some .local && pos.line == l then some id else none | _ => none).length < es.length := by
      rw [List.length_filterMap_eq_countP]
      refine Nat.lt_of_le_of_ne List.countP_le_length (fun q => ?_)
      have := List.countP_eq_length.mp q (.Name x p) he
      simp [hk] at this
    omega
  unfold swappedStores
  simp only
  split
  · rfl
  · split
    · rfl
    · rw [if_pos (by rw [Bool.or_eq_true]; exact .inl (key _))]
      try rfl
def notTup : Expr → Bool
  | .Tuple _ _ _ => false
  | _ => true
def isName : Expr → Bool
  | .Name _ _ => true
  | _ => false
/-- [..] given to a local name on its line -/
def kSw (sc : Scope) (x : Str) (py : Pos) : Expr → Bool
  | .ListComp _ _ scope pos => decide (sc.names.lookup x = some .local) && (py.line == pos.line) && !(scope.names.any fun (n, k) => n == x && (k == .local || k == .cell))
  | _ => false
/-- a name that inner scopes read -/
def kCl (sc : Scope) (x : Str) : Bool := decide (sc.names.lookup x = some .cell)
theorem sw_cell {v : Expr} {x : Str} {p : Pos} {l : Nat} {env : Env} (h : env.scope.names.lookup x = some .cell) : swapsWith v (some (.Name x p)) l env = pure false := by
  have e : env.kindOf x = some .cell := h
  have e2 : (some NameKind.cell == some NameKind.local) = false := rfl
  cases v <;> first | rfl | (unfold swapsWith; simp [e, e2])
def augOf : O2 → Option Operator
  | .add => some .Add
  | .sub => some .Sub
  | _ => none
mutual
def mS : Nat → CK → (Str → Bool) → Scope → Stmt → MS → Bool
  | 0, _, _, _, _, _ => false
  | n + 1, c, ow, sc, s, m => match m with
    | .set p e => match s with
      | .Assign [.Name x py] v _ => kP c ow sc (.Name x py) p && (notComp v || kSw sc x py v || kCl sc x) && mE n c ow sc v e
      | .Assign [.Tuple es k pt] v _ => kP c ow sc (.Tuple es k pt) p && notComp v && (notTup v || someCell sc es) && mE n c ow sc v e
      | _ => false
    | .own i e => match s with
      | .Assign [.Name x py] v _ => kT c ow sc x i && (notComp v || kSw sc x py v || kCl sc x) && mE n c ow sc v e
      | _ => false
    | .par i j a b => match s with
      | .Assign [.Tuple [.Name x px, .Name y py] _ _] (.Tuple [v, w] _ _) _ => decide (c.N[i]? = some x) && decide (c.N[j]? = some y) && decide (i ≠ j) && decide (sc.names.lookup x = some .local) && decide (sc.names.lookup y = some .local) && (py.line == px.line) && decide (x ≠ y) &&
          notStar v && notStar w && !(foldedForSure 8 v && foldedForSure 8 w) && !(constantsAlone 8 v && constantsAlone 8 w) && mE n c ow sc v a && mE n c ow sc w b
      | _ => false
    | .aug i o e => match s with
      | .AugAssign (.Name x _) op v _ => kT c ow sc x i && decide (augOf o = some op) && mE n c ow sc v e
      | _ => false
    | .ex e => match s with
      | .Expr v _ => notComp v && mE n c ow sc v e
      | _ => false
    | .ret e => match s with
      | .Return (some v) _ => mE n c ow sc v e
      | _ => false
    | .retN => match s with
      | .Return none _ => true
      | _ => false
    | .ite t a b => match s with
      | .If x y z _ => mT n c ow sc x t && mSs n c ow sc y a && mSs n c ow sc z b
      | _ => false
    | .loop p it b => match s with
      | .For tg iter body [] _ => kP c ow sc tg p && notSet iter && mI n c ow sc tg iter it && mSs n c ow sc body b
      | _ => false
    | .wh t b => match s with
      | .While x body [] _ => mT n c ow sc x t && mSs n c ow sc body b
      | _ => false
    | .put i k e => match s with
      | .Assign [.Subscript (.Name x _) y _] v _ => kV c sc x i && (notComp v && notSlice y) && mE n c ow sc y k && mE n c ow sc v e
      | _ => false
    | .pass => match s with
      | .Pass _ => true
      | _ => false
    | .brk => match s with
      | .Break _ => true
      | _ => false
    | .cont => match s with
      | .Continue _ => true
      | _ => false
    | .bad => true
    | .par3 i j k a b d => match s with
      | .Assign [.Tuple [.Name x px, .Name y py, .Name z pz] _ _] (.Tuple [u, v, w] _ _) _ => decide (c.N[i]? = some x) && decide (c.N[j]? = some y) && decide (c.N[k]? = some z) && decide (i ≠ j) && decide (i ≠ k) && decide (j ≠ k) && decide (sc.names.lookup x = some .local) && decide (sc.names.lookup y = some .local) && decide (sc.names.lookup z = some .local) && (py.line == px.line) && (pz.line == px.line) && decide (x ≠ y) && decide (x ≠ z) && decide (y ≠ z) &&
          notStar u && notStar v && notStar w && !(foldedForSure 8 u && foldedForSure 8 v && foldedForSure 8 w) && !(constantsAlone 8 u && constantsAlone 8 v && constantsAlone 8 w) && mE n c ow sc u a && mE n c ow sc v b && mE n c ow sc w d
      | _ => false
    | .augL i e => match s with
      | .AugAssign (.Name x _) .Add v _ => kT c ow sc x i && mE n c ow sc v e
      | _ => false
    | .forget _ => false
    | .retO i => match s with
      | .Return (some (.Name x _)) _ => kV c sc x i
      | _ => false
def mSs : Nat → CK → (Str → Bool) → Scope → List Stmt → List MS → Bool
  | 0, _, _, _, _, _ => false
  | n + 1, c, ow, sc, ss, ms => match ms with
    | [] => match ss with
      | [] => true
      | _ => false
    | .forget _ :: ms => mSs n c ow sc ss ms
    | m :: ms => match ss with
      | s :: ss => mS n c ow sc s m && mSs n c ow sc ss ms
      | [] => false
end
section
variable {P : RP} {G : Nat → D} {C : CallS} {c : CK} {ow : Str → Bool} {sc : Scope} {kk n F : Nat} {X : Cx}
/-- a value that is given to a name: its reading, whatever it is -/
theorem set_name (hx : Ctx P G C c ow sc kk X) {x : Str} {i : Nat} {py pos : Pos} {v : Expr} {e : ME} (hk : kT c ow sc x i = true) (hv : (notComp v || kSw sc x py v || kCl sc x) = true) (h : mE n c ow sc v e = true) :
    ∃ te, PS X (.Assign [.Name x py] v pos) (tAsg te (gName i)) ∧ ∀ σ H Q, tE P (ev G C e) σ H Q → te σ H Q := by
  obtain ⟨_, hi, hl, hf⟩ := kT_spec (pos := py) hx hk
  have nd : X.N.Nodup := by rw [hx.hN]; exact hx.nd
  have S := snd_all (P := P) (G := G) (C := C) (c := c) (kk := kk) n
  by_cases hc : notComp v = true
  · exact ⟨_, ps_set nd hi hl (S.E hx h) (comp_ok hc) hf, fun _ _ _ q => q⟩
  by_cases hc2 : kCl sc x = true
  · have e0 : X.env.scope.names.lookup x = some .cell := by rw [hx.hsc]; exact of_decide_eq_true hc2
    exact ⟨_, ps_set nd hi hl (S.E hx h) (sw_cell e0) hf, fun _ _ _ q => q⟩
  · have hs : kSw sc x py v = true := by simpa [hc, hc2] using hv
    cases v <;> first | (exfalso; simp [kSw] at hs; done) | skip
    rename_i el gs scope p
    cases n with
    | zero => simp [mE] at h
    | succ n =>
      have S' := snd_all (P := P) (G := G) (C := C) (c := c) (kk := kk) n
      have hs' := hs
      unfold kSw at hs'
      simp only [Bool.and_eq_true, decide_eq_true_eq, Bool.not_eq_true'] at hs'
      obtain ⟨⟨s1, s2⟩, s3⟩ := hs'
      cases e <;> first | (exfalso; simp [mE] at h; done) | (exfalso; simp only [mE] at h; split at h <;> simp at h; done) | skip
      · rename_i own p' it cs elt
        obtain ⟨el', tg, iter, ifs, scope', pos', heq, wi, g, tt, te, h1, h2, h3, h4, h5, h6, h7⟩ := S_lc S' hx h
        cases heq
        have e0 : X.env.scope.names.lookup x = some .local := by rw [hx.hsc]; exact s1
        have ek : X.env.scope.kind = .function := by rw [hx.hsc]; exact hx.kind
        exact ⟨_, ps_setLc hx.calm nd hi e0 (sw_true ek e0 s2 s3) h1 h2 h3 h4 h5 h6, h7⟩
      · refine ⟨fun _ _ _ => False, ⟨fun pins s σ H D I q => False.elim q⟩, fun σ H Q q => ?_⟩
        obtain ⟨L0, loc, r, loc', R, e, k⟩ := q
        simp only [ev] at e
        cases e
      · rename_i own p' it cs own1 p1 it1 cs1 elt
        obtain ⟨el', tg, iter, ifs, tg1, iter1, ifs1, scope', pos', heq, wi, g, tt, wi1, g1, tt1, te, h1, h2, hv2, h3, h4, h5, h6, h7, h8, h9, h10, h11⟩ := S_lc2 S' hx h
        cases heq
        have e0 : X.env.scope.names.lookup x = some .local := by rw [hx.hsc]; exact s1
        have ek : X.env.scope.kind = .function := by rw [hx.hsc]; exact hx.kind
        exact ⟨_, ps_setLc2 hx.calm nd hi e0 (sw_true ek e0 s2 s3) h1 h2 hv2 h3 h4 h5 h6 h7 h8 h9 h10, h11⟩
      · exact absurd h (by simp [mE, notComp])
theorem swap_ok {env : Env} {x y : Str} {px py pt pt2 : Pos} {kt k2 : Nat} {a b : Expr} (hk : env.scope.kind = .function) (hx : env.scope.names.lookup x = some .local) (hy : env.scope.names.lookup y = some .local) (hl : (py.line == px.line) = true) (hne : x ≠ y)
    (ha : notStar a = true) (hb : notStar b = true) (h1 : (foldedForSure 8 a && foldedForSure 8 b) = false) (h2 : (constantsAlone 8 a && constantsAlone 8 b) = false) :
    swappedStores [.Tuple [.Name x px, .Name y py] kt pt] (.Tuple [a, b] k2 pt2) env = pure (some [x, y]) := by
  have ex : env.kindOf x = some .local := hx
  have ey : env.kindOf y = some .local := hy
  have bk : env.blockKind = .function := by unfold Env.blockKind; rw [hk]; rfl
  have key : ∀ f : Expr → Bool, f a = false → f b = false → [a, b].any f = false := fun f q1 q2 => by
    simp [q1, q2]
  have e2 : ([a, b].all (foldedForSure 8)) = false := by
    show (foldedForSure 8 a && (foldedForSure 8 b && true)) = false
    rw [Bool.and_true]; exact h1
  have e3 : ([a, b].all (constantsAlone 8)) = false := by
    show (constantsAlone 8 a && (constantsAlone 8 b && true)) = false
    rw [Bool.and_true]; exact h2
  have hlx : (px.line == px.line) = true := by simp
  have ne1 : (y == x) = false := by
    rw [beq_eq_false_iff_ne]; exact Ne.symm hne
  have ne2 : (x == y) = false := by
    rw [beq_eq_false_iff_ne]; exact hne
  have ed : [x, y].eraseDups = [x, y] := by
    simp [List.eraseDups_cons, ne1, ne2, hne, Ne.symm hne]
  unfold swappedStores
  simp only [bk, e2, e3, List.length_cons, List.length_nil, Expr.pos, List.head?_cons, Option.map_some, Option.getD_some, List.filterMap_cons, List.filterMap_nil, ex, ey, hl, hlx]
  rw [key _ (by cases a <;> first | rfl | cases ha) (by cases b <;> first | rfl | cases hb)]
  simp [ed]
theorem swap3_ok {env : Env} {x y z : Str} {px py pz pt pt2 : Pos} {kt k2 : Nat} {a b d : Expr} (hk : env.scope.kind = .function) (hx : env.scope.names.lookup x = some .local) (hy : env.scope.names.lookup y = some .local) (hz : env.scope.names.lookup z = some .local) (hl : (py.line == px.line) = true) (hl2 : (pz.line == px.line) = true) (n1 : x ≠ y) (n2 : x ≠ z) (n3 : y ≠ z)
    (ha : notStar a = true) (hb : notStar b = true) (hd : notStar d = true) (h1 : (foldedForSure 8 a && foldedForSure 8 b && foldedForSure 8 d) = false) (h2 : (constantsAlone 8 a && constantsAlone 8 b && constantsAlone 8 d) = false) :
    swappedStores [.Tuple [.Name x px, .Name y py, .Name z pz] kt pt] (.Tuple [a, b, d] k2 pt2) env = pure (some [x, y, z]) := by
  have ex : env.kindOf x = some .local := hx
  have ey : env.kindOf y = some .local := hy
  have ez : env.kindOf z = some .local := hz
  have bk : env.blockKind = .function := by unfold Env.blockKind; rw [hk]; rfl
  have key : ∀ f : Expr → Bool, f a = false → f b = false → f d = false → [a, b, d].any f = false := fun f q1 q2 q3 => by
    simp [q1, q2, q3]
  have e2 : ([a, b, d].all (foldedForSure 8)) = false := by
    show (foldedForSure 8 a && (foldedForSure 8 b && (foldedForSure 8 d && true))) = false
    rw [Bool.and_true, ← Bool.and_assoc]; exact h1
  have e3 : ([a, b, d].all (constantsAlone 8)) = false := by
    show (constantsAlone 8 a && (constantsAlone 8 b && (constantsAlone 8 d && true))) = false
    rw [Bool.and_true, ← Bool.and_assoc]; exact h2
  have hlx : (px.line == px.line) = true := by simp
  have b1 : (y == x) = false := by rw [beq_eq_false_iff_ne]; exact Ne.symm n1
  have b2 : (x == y) = false := by rw [beq_eq_false_iff_ne]; exact n1
  have b3 : (z == x) = false := by rw [beq_eq_false_iff_ne]; exact Ne.symm n2
  have b4 : (x == z) = false := by rw [beq_eq_false_iff_ne]; exact n2
  have b5 : (z == y) = false := by rw [beq_eq_false_iff_ne]; exact Ne.symm n3
  have b6 : (y == z) = false := by rw [beq_eq_false_iff_ne]; exact n3
  have ed : [x, y, z].eraseDups = [x, y, z] := by
    simp [List.eraseDups_cons, b1, b2, b3, b4, b5, b6, n1, n2, n3, Ne.symm n1, Ne.symm n2, Ne.symm n3]
  unfold swappedStores
  simp only [bk, e2, e3, List.length_cons, List.length_nil, Expr.pos, List.head?_cons, Option.map_some, Option.getD_some, List.filterMap_cons, List.filterMap_nil, ex, ey, ez, hl, hl2, hlx]
  rw [key _ (by cases a <;> first | rfl | cases ha) (by cases b <;> first | rfl | cases hb) (by cases d <;> first | rfl | cases hd)]
  simp [ed]
theorem sole_ok {t v : Expr} {l : Nat} {env : Env} (h : notComp v = true) : swapsWithSole [t] v l env = pure false := by
  unfold swapsWithSole
  exact comp_ok h
theorem asub_ok {o i : Expr} {pos : Pos} {env : Env} (h : notSlice i = true) : ∀ v, assign (.Subscript o i pos) env v = (do
      let ov ← holding [v] (eval o env)
      let iv ← holding [v, ov] (eval i env)
      standAt pos
      holding [v, ov, iv] (setItem ov iv v)
      release [v, ov, iv] []) := by
  intro v
  cases i <;> first | rfl | cases h
theorem ip_add' : PIp X .Add (ipI fun i j => i + j) := ip_add
structure SndS (P : RP) (G : Nat → D) (C : CallS) (c : CK) (kk F n : Nat) : Prop where
  S : ∀ {ow : Str → Bool} {sc : Scope} {X : Cx} {s : Stmt} {m : MS}, Ctx P G C c ow sc kk X → mS n c ow sc s m = true → PS X s (tS P (sx G C F m))
  Ss : ∀ {ow : Str → Bool} {sc : Scope} {X : Cx} {ss : List Stmt} {ms : List MS}, Ctx P G C c ow sc kk X → mSs n c ow sc ss ms = true → PSs X ss (tS P (sxs G C F ms))
theorem omap_nx {o : Option Loc} {out : Out} (h : o.map Out.nx = some out) : ∃ l, o = some l ∧ out = .nx l := by
  cases o with
  | none => cases h
  | some l => cases h; exact ⟨l, rfl, rfl⟩
theorem pass_own {M : Model} {A : Around} {env : Env} {xe : Value → Shared → Prop} (h : xe = fun _ _ => False) : PassesOwn M A env xe := by subst h; exact PassesOwn.never
theorem St_S (S : SndS P G C c kk F n) (hx : Ctx P G C c ow sc kk X) {s : Stmt} {m : MS} (h : mS (n + 1) c ow sc s m = true) : PS X s (tS P (sx G C F m)) := by
  have SE := snd_all (P := P) (G := G) (C := C) (c := c) (kk := kk) n
  have nd : X.N.Nodup := by rw [hx.hN]; exact hx.nd
  cases m with
  | set p e =>
    have hg : ∀ loc o, sx G C F (.set p e) loc = some o → ∃ r l1 d l2, ev G C e loc = some (r, l1) ∧ toVal r = some d ∧ bindP p d l1 = some l2 ∧ o = .nx l2 := fun loc o e => by
      simp only [sx] at e
      split at e
      · rename_i r l1 h1
        split at e
        · rename_i d h2
          obtain ⟨l, h3, rfl⟩ := omap_nx e
          exact ⟨r, l1, d, l, h1, h2, h3, rfl⟩
        · cases e
      · cases e
    simp only [mS] at h
    split at h
    · simp only [Bool.and_eq_true] at h
      cases p with
      | v i =>
        obtain ⟨te, h1, h2⟩ := set_name (P := P) (G := G) (C := C) (kk := kk) hx (by simpa only [kP] using h.1.1) h.1.2 h.2
        refine h1.imp fun D σ H q => ?_
        obtain ⟨L0, loc, r, l1, R, e1, k⟩ := s_set hg q
        exact h2 _ _ _ ⟨L0, loc, r, l1, R, e1, fun v H1 p1 => g_name (k v H1 p1)⟩
      | tup is => simp [kP] at h
    · simp only [Bool.and_eq_true] at h
      obtain ⟨⟨⟨h1, h2⟩, h3⟩, h4⟩ := h
      rename_i es k pt v ps
      refine (ps_asg (SE.E hx h4) (kP_spec hx h1) (sole_ok h2) ?_ rfl).imp fun D σ H q => s_set hg q
      by_cases hn : notTup v = true
      · cases v <;> first | rfl | cases hn
      · have hs : someCell X.env.scope es = true := by
          rw [hx.hsc]
          simpa [hn] using h3
        cases v <;> first | rfl | exact noswap_ok hs
    · cases h
  | own i e =>
    simp only [mS] at h
    split at h
    · simp only [Bool.and_eq_true] at h
      obtain ⟨te, h1, h2⟩ := set_name (P := P) (G := G) (C := C) (kk := kk) hx h.1.1 h.1.2 h.2
      refine h1.imp fun D σ H q => ?_
      obtain ⟨L0, loc, r, l1, R, e1, k⟩ := s_own (ge := ev G C e) (i := i) (fun loc o e => by
        simp only [sx] at e
        split at e
        · rename_i ds l1 h1
          obtain ⟨l, h3, rfl⟩ := omap_nx e
          exact ⟨ds, l1, l, h1, h3, rfl⟩
        · cases e) q
      exact h2 _ _ _ ⟨L0, loc, r, l1, R, e1, k⟩
    · cases h
  | par i j a b =>
    simp only [mS] at h
    split at h
    · simp only [Bool.and_eq_true, decide_eq_true_eq, Bool.not_eq_true'] at h
      obtain ⟨⟨⟨⟨⟨⟨⟨⟨⟨⟨⟨⟨h1, h2⟩, h3⟩, h4⟩, h5⟩, h6⟩, h7⟩, h8⟩, h9⟩, h10⟩, h11⟩, h12⟩, h13⟩ := h
      have ek : X.env.scope.kind = .function := by rw [hx.hsc]; exact hx.kind
      have ex := h4
      have ey := h5
      rw [← hx.hsc] at ex ey
      refine (ps_par hx.calm nd (by rw [hx.hN]; exact h1) (by rw [hx.hN]; exact h2) h3 ex ey (pa_cons (SE.E hx h12) (pa_cons (SE.E hx h13) pa_nil (star_ok h9)) (star_ok h8)) (swap_ok ek ex ey h6 h7 h8 h9 h10 h11)).imp fun D σ H q => ?_
      obtain ⟨L0, loc, out, R, e, k⟩ := q
      simp only [sx] at e
      split at e
      · rename_i r l1 e1
        split at e
        · rename_i r' l2 e2
          split at e
          · rename_i d d' e3 e4
            split at e
            · rename_i l3 e5
              obtain ⟨l4, e6, rfl⟩ := omap_nx e
              refine ⟨L0, loc, r, l1, R, e1, fun x H1 p1 => ⟨L0, l1, r', l2, p1.rel, e2, fun y H2 p2 => ⟨x, y, rfl, ?_⟩⟩⟩
              have rx : Rep P (Lv L0 l2 σ) H2 d x := by
                have := (p1.rep.sett).after p2
                rw [tval_sett e3] at this
                exact this
              have q1 := put_dat p2.rel e5 rx
              have q2 := put_dat q1.rel e6 (Rep.keep q1.kp q1.lv _ _ (toVal_rep p2.rep e4))
              exact k _ _ (((p1.trans p2).st.trans q1).trans q2)
            · cases e
          · cases e
        · cases e
      · cases e
    · cases h
  | aug i o e =>
    simp only [mS] at h
    split at h
    · simp only [Bool.and_eq_true, decide_eq_true_eq] at h
      obtain ⟨⟨h1, h2⟩, h3⟩ := h
      rename_i x px op v ps
      obtain ⟨_, hi, hl, hf⟩ := kT_spec (pos := px) hx h1
      have main : ∀ (f : Int → Int → Int), PIp X op (ipI f) → (∀ loc out, sx G C F (.aug i o e) loc = some out → ∃ x y r l1 l2, loc[i]? = some (.dat (.int x)) ∧ ev G C e loc = some (r, l1) ∧ toVal r = some (.int y) ∧ put l1 i (.dat (.int (f x y))) = some l2 ∧ out = .nx l2) →
          PS X (.AugAssign (.Name x px) op v ps) (tS P (sx G C F (.aug i o e))) := fun f hp hm => by
        refine (ps_aug nd hi hl (SE.E hx h3) hp hf).imp fun D σ H q => ?_
        obtain ⟨L0, loc, out, R, e', k⟩ := q
        obtain ⟨a, b, r, l1, l2, hd, e1, hb, e4, rfl⟩ := hm _ _ e'
        obtain ⟨w, f1, f2⟩ := R.dat i _ hd
        refine ⟨w, f1, L0, loc, r, l1, R, e1, fun y H1 p1 => ?_⟩
        have ry := toVal_rep p1.rep hb
        unfold Rep at f2 ry
        exact ⟨a, b, f2, ry, k _ _ (p1.st.trans (put_dat p1.rel e4 rep_int))⟩
      cases o <;> first | (exfalso; simp [augOf] at h2; done) | skip
      · simp only [augOf, Option.some.injEq] at h2
        subst h2
        refine main _ ip_add fun loc out hh => ?_
        simp only [sx] at hh
        split at hh
        · rename_i d hd
          split at hh
          · rename_i r l1 e1
            split at hh
            · rename_i a b hb
              obtain ⟨l2, e4, rfl⟩ := omap_nx hh
              exact ⟨a, b, r, l1, l2, hd, e1, hb, e4, rfl⟩
            · cases hh
          · cases hh
        · cases hh
      · simp only [augOf, Option.some.injEq] at h2
        subst h2
        refine main _ ip_sub fun loc out hh => ?_
        simp only [sx] at hh
        split at hh
        · rename_i d hd
          split at hh
          · rename_i r l1 e1
            split at hh
            · rename_i a b hb
              obtain ⟨l2, e4, rfl⟩ := omap_nx hh
              exact ⟨a, b, r, l1, l2, hd, e1, hb, e4, rfl⟩
            · cases hh
          · cases hh
        · cases hh
    · cases h
  | ex e =>
    simp only [mS] at h
    split at h
    · simp only [Bool.and_eq_true] at h
      refine (ps_expr (SE.E hx h.2) (comp_ok h.1)).imp fun D σ H q => s_ex (fun loc o e => ?_) q
      simp only [sx] at e
      split at e
      · rename_i r l1 h1
        cases e
        exact ⟨r, l1, h1, rfl⟩
      · cases e
    · cases h
  | ret e =>
    simp only [mS] at h
    split at h
    · refine (ps_ret (SE.E hx h)).imp fun D σ H q => s_ret (fun loc o e => ?_) q
      simp only [sx] at e
      split at e
      · rename_i r l1 h1
        split at e
        · cases e
        · cases e
          exact ⟨r, l1, h1, rfl⟩
      · cases e
    · cases h
  | retN =>
    simp only [mS] at h
    split at h
    · exact ps_retN.imp fun D σ H q => s_retN (fun loc o e => by simp only [sx, Option.some.injEq] at e; exact e.symm) q
    · cases h
  | ite t a b =>
    simp only [mS] at h
    split at h
    · simp only [Bool.and_eq_true] at h
      refine (ps_if (SE.T hx h.1.1) (S.Ss hx h.1.2) (S.Ss hx h.2)).imp fun D σ H q => s_if (fun loc o e => ?_) q
      simp only [sx] at e
      split at e
      · rename_i l1 h1
        exact ⟨true, l1, h1, e⟩
      · rename_i l1 h1
        exact ⟨false, l1, h1, e⟩
      · cases e
    · cases h
  | loop p it b =>
    simp only [mS] at h
    split at h
    · simp only [Bool.and_eq_true] at h
      refine (ps_for hx.xe hx.calm (SE.I hx h.1.2) (kP_spec hx h.1.1.1) (S.Ss hx h.2) (fold_ok h.1.1.2)).imp fun D σ H q => s_loop (fun loc o e => ?_) q
      simp only [sx] at e
      split at e
      · rename_i items l1 h1
        exact ⟨items, l1, h1, e⟩
      · cases e
    · cases h
  | wh t b =>
    simp only [mS] at h
    split at h
    · simp only [Bool.and_eq_true] at h
      exact (ps_while hx.xe (SE.T hx h.1) (S.Ss hx h.2)).imp fun D σ H q => s_while (n := F) (fun loc o e => by simpa only [sx] using e) q
    · cases h
  | put i k e =>
    simp only [mS] at h
    split at h
    · simp only [Bool.and_eq_true] at h
      refine (ps_asg (SE.E hx h.2) (pg_sub (kV_spec hx h.1.1.1) (SE.E hx h.1.2) set_list (asub_ok h.1.1.2.2)) (sole_ok h.1.1.2.1) rfl rfl).imp fun D σ H q => s_put (fun loc o e => ?_) q
      simp only [sx] at e
      split at e
      · rename_i r l1 h1
        split at e
        · rename_i b0 ds0 h0
          split at e
          · rename_i n l2 h2
            split at e
            · rename_i d b ds h3 h4
              split at e
              · rename_i h5
                cases e
                exact ⟨r, l1, n, l2, d, b, ds, b0, ds0, h1, h0, h2, h3, h4, h5.1, h5.2, rfl⟩
              · cases e
            · cases e
          · cases e
        · cases e
      · cases e
    · cases h
  | pass =>
    simp only [mS] at h
    split at h
    · exact ps_pass.imp fun D σ H q => s_nil (fun loc => by simp only [sx]) q
    · cases h
  | brk =>
    simp only [mS] at h
    split at h
    · exact ps_break.imp fun D σ H q => s_bk (fun loc o e => by simp only [sx, Option.some.injEq] at e; exact e.symm) q
    · cases h
  | cont =>
    simp only [mS] at h
    split at h
    · exact ps_continue.imp fun D σ H q => s_ct (fun loc o e => by simp only [sx, Option.some.injEq] at e; exact e.symm) q
    · cases h
  | bad =>
    refine ⟨fun pins s σ H D I h => ?_⟩
    obtain ⟨L0, loc, o, R, e, k⟩ := h
    simp only [sx] at e
    cases e
  | forget is => simp [mS] at h
  | augL i e =>
    simp only [mS] at h
    split at h
    · simp only [Bool.and_eq_true] at h
      rename_i x px v ps
      obtain ⟨_, hi, hl, hf⟩ := kT_spec (pos := px) hx h.1
      refine (ps_aug nd hi hl (SE.E hx h.2) iop_ext hf).imp fun D σ H q => s_augL (fun loc o e => ?_) q
      simp only [sx] at e
      split at e
      · rename_i b0 ds0 h0
        split at e
        · rename_i r l1 h1
          split at e
          · rename_i es b ds h2 h3
            split at e
            · rename_i h4
              cases e
              exact ⟨b0, ds0, r, l1, es, b, ds, h0, h1, h2, h3, h4, rfl⟩
            · cases e
          · cases e
        · cases e
      · cases e
    · cases h
  | par3 i j k a b d =>
    simp only [mS] at h
    split at h
    · rename_i x px y py z pz _ _ u v w _ _ _
      simp only [Bool.and_eq_true, decide_eq_true_eq, Bool.not_eq_true'] at h
      obtain ⟨⟨⟨⟨⟨⟨⟨⟨⟨⟨⟨⟨⟨⟨⟨⟨⟨⟨⟨⟨⟨h1, h2⟩, h3⟩, h4⟩, h5⟩, h6⟩, hx1⟩, hx2⟩, hx3⟩, hl1⟩, hl2⟩, n1⟩, n2⟩, n3⟩, u1⟩, u2⟩, u3⟩, f1⟩, f2⟩, m1⟩, m2⟩, m3⟩ := h
      have ek : X.env.scope.kind = .function := by rw [hx.hsc]; exact hx.kind
      have ex := hx1
      have ey := hx2
      have ez := hx3
      rw [← hx.hsc] at ex ey ez
      refine (ps_par3 hx.calm nd (by rw [hx.hN]; exact h1) (by rw [hx.hN]; exact h2) (by rw [hx.hN]; exact h3) h4 h5 h6 ex ey ez (pa_cons (SE.E hx m1) (pa_cons (SE.E hx m2) (pa_cons (SE.E hx m3) pa_nil (star_ok u3)) (star_ok u2)) (star_ok u1)) (swap3_ok ek ex ey ez hl1 hl2 n1 n2 n3 u1 u2 u3 f1 f2)).imp fun D σ H q => ?_
      obtain ⟨L0, loc, out, R, e, kk⟩ := q
      simp only [sx] at e
      split at e
      · rename_i r l1 e1
        split at e
        · rename_i r' l2 e2
          split at e
          · rename_i r'' l3 e3
            split at e
            · rename_i d1 d2 d3 g1 g2 g3
              split at e
              · rename_i l4 e4
                split at e
                · rename_i l5 e5
                  obtain ⟨l6, e6, rfl⟩ := omap_nx e
                  refine ⟨L0, loc, r, l1, R, e1, fun x H1 p1 => ⟨L0, l1, r', l2, p1.rel, e2, fun y H2 p2 => ⟨L0, l2, r'', l3, p2.rel, e3, fun z H3 p3 => ⟨x, y, z, rfl, ?_⟩⟩⟩⟩
                  have rx : Rep P (Lv L0 l3 σ) H3 d1 x := by
                    have := ((p1.rep.sett).after p2)
                    rw [tval_sett g1] at this
                    exact RepR.after (r' := .val d1) this p3
                  have ry : Rep P (Lv L0 l3 σ) H3 d2 y := by
                    have := (p2.rep.sett).after p3
                    rw [tval_sett g2] at this
                    exact this
                  have q1 := put_dat p3.rel e4 rx
                  have q2 := put_dat q1.rel e5 (Rep.keep q1.kp q1.lv _ _ ry)
                  have q12 := q1.trans q2
                  have q3 := put_dat q2.rel e6 (Rep.keep q12.kp q12.lv _ _ (toVal_rep p3.rep g3))
                  exact kk _ _ ((((p1.trans p2).trans p3).st.trans q12).trans q3)
                · cases e
              · cases e
            · cases e
          · cases e
        · cases e
      · cases e
    · cases h
  | retO i =>
    simp only [mS] at h
    split at h
    · refine (ps_ret (kV_spec hx h)).imp fun D σ H q => s_retO (fun loc o e => ?_) q
      simp only [sx] at e
      split at e
      · rename_i ds h1
        cases e
        exact .inl ⟨ds, h1, rfl⟩
      · rename_i d h1
        cases e
        exact .inr ⟨d, h1, rfl⟩
      · cases e
    · cases h
theorem snds_all : ∀ n, SndS P G C c kk F n
  | 0 => ⟨fun _ h => by simp [mS] at h, fun _ h => by simp [mSs] at h⟩
  | n + 1 => by
    have S := snds_all n
    refine ⟨fun hx h => St_S S hx h, fun {ow sc X ss ms} hx h => ?_⟩
    have go : ∀ {m : MS} {ms : List MS} {s : Stmt} {ss : List Stmt}, mS n c ow sc s m = true → mSs n c ow sc ss ms = true → PSs X (s :: ss) (tS P (sxs G C F (m :: ms))) := fun {m ms s ss} h1 h2 => by
      refine (pss_cons (S.S hx h1) (S.Ss hx h2)).imp fun D σ H q => s_seq (fun loc o e => ?_) q
      simp only [sxs] at e
      split at e
      · rename_i l1 h1
        exact .inl ⟨l1, h1, e⟩
      · rename_i h1
        exact .inr ⟨e, fun l z => h1 l (by rw [e, z])⟩
    simp only [mSs] at h
    split at h
    · split at h
      · exact pss_nil.imp fun D σ H q => s_nil (fun loc => by simp only [sxs]) q
      · cases h
    · refine (S.Ss hx h).imp fun D σ H q => ?_
      obtain ⟨L0, loc, out, R, e, k⟩ := q
      simp only [sxs, sx] at e
      split at e
      · rename_i l1 e1
        split at e1
        · rename_i hf
          cases e1
          have p := forget_all R _ hf
          exact ⟨L0, _, out, p.rel, e, k.step p⟩
        · cases e1
      · rename_i hn
        split at e
        · rename_i hf
          exact (hn _ (if_pos hf)).elim
        · cases e
    · split at h
      · simp only [Bool.and_eq_true] at h
        exact go h.1 h.2
      · cases h
end
end MP

namespace MP
open PySem PySem.Spec PyProof.Rows L2
section
variable {P : RP} {H H' : Hp} {L0 : Addr → Prop} {loc loc' : Loc} {σ σ' : Sg}
theorem pad_get {m i : Nat} {s : Slot} (h : (loc ++ List.replicate m Slot.none)[i]? = some s) : (i < loc.length ∧ loc[i]? = some s) ∨ (loc.length ≤ i ∧ s = .none) := by
  by_cases hl : i < loc.length
  · rw [List.getElem?_append_left hl] at h; exact .inl ⟨hl, h⟩
  · rw [List.getElem?_append_right (by omega)] at h
    rw [List.getElem?_replicate] at h
    split at h
    · cases h; exact .inr ⟨by omega, rfl⟩
    · cases h
theorem pad_own (hl : loc.length = σ.length) {m : Nat} {a : Addr} : OwnAt (loc ++ List.replicate m Slot.none) (σ ++ List.replicate m none) a ↔ OwnAt loc σ a := by
  constructor
  · rintro ⟨i, b, ds, e1, e2⟩
    rcases pad_get e1 with ⟨h, e⟩ | ⟨_, e⟩
    · rw [List.getElem?_append_left (by omega)] at e2
      exact ⟨i, b, ds, e, e2⟩
    · cases e
  · rintro ⟨i, b, ds, e1, e2⟩
    have := lt_of_get e1
    exact ⟨i, b, ds, by rw [List.getElem?_append_left this]; exact e1, by rw [List.getElem?_append_left (by omega)]; exact e2⟩
theorem Rel.pad (R : Rel P L0 loc σ H) (m : Nat) : Rel P L0 (loc ++ List.replicate m Slot.none) (σ ++ List.replicate m none) H := by
  have ow := fun a => @pad_own loc σ R.len m a
  have lv : ∀ b, Lv L0 (loc ++ List.replicate m Slot.none) (σ ++ List.replicate m none) b → Lv L0 loc σ b := fun b z => z.imp id (ow b).mp
  have gl : ∀ {i : Nat}, i < loc.length → (σ ++ List.replicate m none)[i]? = σ[i]? := fun {i} h => List.getElem?_append_left (by have := R.len; omega)
  refine ⟨by simp [R.len], R.l0, fun i d e => ?_, fun i b ds e => ?_, fun i j b c ds es a e1 e2 e3 e4 => ?_, fun i ns e => ?_⟩
  · rcases pad_get e with ⟨h, e⟩ | ⟨_, e⟩
    · obtain ⟨v, e1, r⟩ := R.dat i d e
      exact ⟨v, by rw [gl h]; exact e1, Rep.weak lv r⟩
    · cases e
  · rcases pad_get e with ⟨h, e⟩ | ⟨_, e⟩
    · obtain ⟨a, vs, e1, h1, n1, r⟩ := R.own i b ds e
      exact ⟨a, vs, by rw [gl h]; exact e1, h1, n1, Reps.weak lv r⟩
    · cases e
  · rcases pad_get e1 with ⟨h, e1⟩ | ⟨_, e1⟩
    · rcases pad_get e2 with ⟨h', e2⟩ | ⟨_, e2⟩
      · rw [gl h] at e3
        rw [gl h'] at e4
        exact R.inj _ _ _ _ _ _ _ e1 e2 e3 e4
      · cases e2
    · cases e1
  · rcases pad_get e with ⟨h, e⟩ | ⟨_, e⟩
    · obtain ⟨a, e1, h1⟩ := R.scr i ns e
      exact ⟨a, by rw [gl h]; exact e1, h1.keep (fun _ _ z _ => z) fun b z => .inl (lv b z)⟩
    · cases e
theorem lent_spec : ∀ {a l a' : Loc}, lent a l = some a' → a'.length = a.length ∧ ∀ (i : Nat) (s : Slot), a[i]? = some s →
    (∃ ds ds', s = .own true ds ∧ l[i]? = some (.own true ds') ∧ a'[i]? = some (.own true ds')) ∨ ((∀ b ds, s ≠ .own b ds) ∧ a'[i]? = some s)
  | [], l, a', h => by
    simp only [lent, Option.some.injEq] at h
    subst h
    exact ⟨rfl, fun i s e => by simp at e⟩
  | s0 :: a, l, a', h => by
    have step : ∀ {l0 : Slot} {l1 : Loc} {r : Loc} {s1 : Slot}, lent a l1 = some r → ((∃ ds ds', s0 = .own true ds ∧ l0 = .own true ds' ∧ s1 = .own true ds') ∨ ((∀ b ds, s0 ≠ .own b ds) ∧ s1 = s0)) →
        (s1 :: r).length = (s0 :: a).length ∧ ∀ (i : Nat) (s : Slot), (s0 :: a)[i]? = some s →
          (∃ ds ds', s = .own true ds ∧ (l0 :: l1)[i]? = some (.own true ds') ∧ (s1 :: r)[i]? = some (.own true ds')) ∨ ((∀ b ds, s ≠ .own b ds) ∧ (s1 :: r)[i]? = some s) := fun {l0 l1 r s1} h1 h2 => by
      obtain ⟨e1, e2⟩ := lent_spec h1
      refine ⟨by simp [e1], fun i s e => ?_⟩
      cases i with
      | zero =>
        simp at e; subst e
        rcases h2 with ⟨ds, ds', q1, q2, q3⟩ | ⟨q1, q2⟩
        · exact .inl ⟨ds, ds', q1, by simp [q2], by simp [q3]⟩
        · exact .inr ⟨q1, by simp [q2]⟩
      | succ i =>
        rcases e2 i s (by simpa using e) with ⟨ds, ds', q1, q2, q3⟩ | ⟨q1, q2⟩
        · exact .inl ⟨ds, ds', q1, by simpa using q2, by simpa using q3⟩
        · exact .inr ⟨q1, by simpa using q2⟩
    cases s0 with
    | own b ds =>
      simp only [lent] at h
      split at h
      · split at h
        · rename_i ds' l' _ r h1
          cases h
          exact step h1 (.inl ⟨_, _, rfl, rfl, rfl⟩)
        · cases h
      · cases h
    | none =>
      simp only [lent] at h
      split at h
      · split at h
        · rename_i h1
          cases h
          exact step h1 (.inr ⟨(fun _ _ z => nomatch z), rfl⟩)
        · cases h
      · cases h
    | dat d =>
      simp only [lent] at h
      split at h
      · split at h
        · rename_i h1
          cases h
          exact step h1 (.inr ⟨(fun _ _ z => nomatch z), rfl⟩)
        · cases h
      · cases h
    | scr ns =>
      simp only [lent] at h
      split at h
      · split at h
        · rename_i h1
          cases h
          exact step h1 (.inr ⟨(fun _ _ z => nomatch z), rfl⟩)
        · cases h
      · cases h
    | hid =>
      simp only [lent] at h
      split at h
      · split at h
        · rename_i h1
          cases h
          exact step h1 (.inr ⟨(fun _ _ z => nomatch z), rfl⟩)
        · cases h
      · cases h
/-- a def's end -/
theorem end_post {a l a' : Loc} {r : R} {v : V} {m : Nat} (R : Rel P L0 a σ H) (p : StPost P L0 (a ++ List.replicate m Slot.none) (σ ++ List.replicate m none) H l σ' H') (hl : lent a l = some a') (hr : ∀ i, r ≠ .ref i)
    (rr : RepR P L0 l σ' H' r v) (fr' : ∀ ds c, r = .new ds → v = .ref c → H c = none ∨ OwnF (a ++ List.replicate m Slot.none) (σ ++ List.replicate m none) c) : EvPost P L0 a σ H a' r v H' := by
  obtain ⟨ll, ls⟩ := lent_spec hl
  have ow := fun c => @pad_own a σ R.len m c
  have fr : ∀ ds c, r = .new ds → v = .ref c → H c = none := fun ds c e1 e2 => by
    rcases fr' ds c e1 e2 with z | ⟨i, es, z1, z2⟩
    · exact z
    · rcases pad_get z1 with ⟨_, z1⟩ | ⟨_, z1⟩
      · rcases ls i _ z1 with ⟨ds1, ds', q1, _⟩ | ⟨q1, _⟩
        · cases q1
        · exact absurd rfl (q1 _ _)
      · cases z1
  have keep : ∀ b o, H b = some o → ¬ OwnAt a σ b → H' b = some o := fun b o e n => p.keep b o e fun z => n ((ow b).mp z)
  have kp : ∀ b o, H b = some o → ¬ Lv L0 a σ b → H' b = some o := fun b o e n => keep b o e fun z => n (.inr z)
  -- a lent list's slot
  have sl : ∀ {i : Nat} {ds ds' : List D}, a[i]? = some (.own true ds) → l[i]? = some (.own true ds') → σ'[i]? = σ[i]? := fun {i ds ds'} e e' => by
    have hi := lt_of_get e
    obtain ⟨ds2, e2, e3⟩ := p.pin i ds (by rw [List.getElem?_append_left hi]; exact e)
    rw [e3, List.getElem?_append_left (by have := R.len; omega)]
  have at' : ∀ {i : Nat} {s : Slot}, a'[i]? = some s → (∃ ds ds', a[i]? = some (.own true ds) ∧ l[i]? = some (.own true ds') ∧ s = .own true ds') ∨ ((∀ b ds, s ≠ .own b ds) ∧ a[i]? = some s) := fun {i s} e => by
    have hi : i < a.length := by have := lt_of_get e; omega
    have ea := List.getElem?_eq_getElem hi
    rcases ls i _ ea with ⟨ds, ds', q1, q2, q3⟩ | ⟨q1, q2⟩
    · rw [e] at q3; cases q3
      exact .inl ⟨ds, ds', by rw [ea, q1], q2, rfl⟩
    · rw [e] at q2; cases q2
      exact .inr ⟨q1, ea⟩
  have own1 : ∀ b, OwnAt a' σ b → OwnAt a σ b := fun b ⟨i, b', ds, e1, e2⟩ => by
    rcases at' e1 with ⟨ds1, ds', q1, q2, q3⟩ | ⟨q1, q2⟩
    · exact ⟨i, true, ds1, q1, e2⟩
    · exact absurd rfl (q1 b' ds)
  have own2 : ∀ b, OwnAt a' σ b → OwnAt l σ' b := fun b ⟨i, b', ds, e1, e2⟩ => by
    rcases at' e1 with ⟨ds1, ds', q1, q2, q3⟩ | ⟨q1, q2⟩
    · exact ⟨i, true, ds', q2, by rw [sl q1 q2]; exact e2⟩
    · exact absurd rfl (q1 b' ds)
  have main : ∀ E : Addr → Prop, (∀ c, E c → H c = none ∧ ∃ o, H' c = some o) → Rel P (fun c => L0 c ∨ E c) l σ' H' → Rel P (fun c => L0 c ∨ E c) a' σ H' := fun E hE R' => by
    have lE : ∀ c, Lv (fun c => L0 c ∨ E c) a' σ c → Lv L0 a σ c ∨ H c = none := fun c z => by
      rcases z with (z | z) | z
      · exact .inl (.inl z)
      · exact .inr (hE c z).1
      · exact .inl (.inr (own1 c z))
    have gE : ∀ c, Lv (fun c => L0 c ∨ E c) a' σ c → Lv (fun c => L0 c ∨ E c) l σ' c := fun c z => z.imp id (own2 c)
    refine ⟨by rw [ll]; exact R.len, R'.l0, fun i d e => ?_, fun i b ds e => ?_, fun i j b c ds es w e1 e2 e3 e4 => ?_, fun i ns e => ?_⟩
    · rcases at' e with ⟨ds1, ds', q1, q2, q3⟩ | ⟨q1, q2⟩
      · cases q3
      · obtain ⟨v, e1, r⟩ := R.dat i d q2
        exact ⟨v, e1, Rep.keep kp lE d v r⟩
    · rcases at' e with ⟨ds1, ds', q1, q2, q3⟩ | ⟨q1, q2⟩
      · cases q3
        obtain ⟨c, ws, u1, u2, u3, u4⟩ := R'.own _ _ _ q2
        exact ⟨c, ws, by rw [← sl q1 q2]; exact u1, u2, u3, Reps.weak gE u4⟩
      · exact absurd rfl (q1 b ds)
    · rcases at' e1 with ⟨ds1, ds', q1, q2, q3⟩ | ⟨q1, q2⟩
      · rcases at' e2 with ⟨ds2, ds2', p1, p2, p3⟩ | ⟨p1, p2⟩
        · exact R.inj _ _ _ _ _ _ _ q1 p1 e3 e4
        · exact absurd rfl (p1 _ _)
      · exact absurd rfl (q1 _ _)
    · rcases at' e with ⟨ds1, ds', q1, q2, q3⟩ | ⟨q1, q2⟩
      · cases q3
      · obtain ⟨c, e1, h1⟩ := R.scr i ns q2
        exact ⟨c, e1, h1.keep kp lE⟩
  have fE : ∀ {l1 : Loc} {s1 : Sg} {h1 : Hp}, Rel P (fun c => L0 c ∨ False) l1 s1 h1 ↔ Rel P L0 l1 s1 h1 := fun {l1 s1 h1} => by
    have : (fun c => L0 c ∨ False) = L0 := by funext c; simp
    rw [this]
  have ge : ∀ c, Lv L0 a' σ c → Lv L0 l σ' c := fun c z => z.imp id (own2 c)
  refine ⟨fE.mp (main (fun _ => False) (fun _ z => z.elim) (fE.mpr p.rel)), keep, own1, ?_, p.there, fr, fun i ds e => ?_, fun i s e n => ?_⟩
  · cases r with
    | val d => exact Rep.weak ge rr
    | ref i => exact absurd rfl (hr i)
    | new ds =>
      obtain ⟨c, ws, rfl, q1, q2, q3, q4⟩ := rr
      have hf := fr ds c rfl rfl
      refine ⟨c, ws, rfl, q1, fun z => q2 (ge c z), Reps.weak (fun b z => z.imp (ge b) id) q3, main (fun b => b = c) (fun b z => ?_) q4⟩
      subst z; exact ⟨hf, _, q1⟩
  · rcases ls i _ e with ⟨ds1, ds', q1, q2, q3⟩ | ⟨q1, q2⟩
    · exact ⟨ds', q3⟩
    · exact absurd rfl (q1 _ _)
  · rcases ls i _ e with ⟨ds1, ds', q1, q2, q3⟩ | ⟨q1, q2⟩
    · exact absurd q1 (n _ _)
    · exact q2
end

/-! ### a def that makes an instance -/
section
variable {P : RP} {G : Nat → D} {C : CallS} {F : Nat}
/-- the reading while fields are set: k are -/
def tF (P : RP) (run : List D → Loc → Option (List D)) (c k : Nat) : TS := fun D σ H => ∃ (L0 : Addr → Prop) (loc : Loc) (x dx : Addr) (vs : List V) (acc ds : List MP.D), Rel P L0 loc σ H ∧ loc[0]? = some .hid ∧ σ[0]? = some (some (.ref x)) ∧ L0 x ∧
  H x = some (.ins (P.ca c) dx ((P.fl c).zip vs)) ∧ Reps P (Lv L0 loc σ) H acc vs ∧ acc.length = k ∧ k ≤ (P.fl c).length ∧ run acc loc = some ds ∧
  ∀ σ' H', (∀ b o, H b = some o → b ≠ x → ¬ OwnAt loc σ b → H' b = some o) → Rep P (fun b => L0 b ∧ b ≠ x) H' (.ins c ds) (.ref x) → D.nx σ' H'
variable {X : Cx} {c k : Nat}
theorem not_own {L0 : Addr → Prop} {loc : Loc} {σ : Sg} {H : Hp} {x : Addr} (R : Rel P L0 loc σ H) (hx : L0 x) : ¬ OwnAt loc σ x := fun ⟨i, b, ds, e1, e2⟩ => by
  obtain ⟨a, vs, q1, _, q3, _⟩ := R.own i b ds e1
  rw [e2] at q1; cases q1
  exact q3 hx
theorem ct_end {ss : List Stmt} {post : List MS} (h : PSs X ss (tS P (sxs G C F post))) : PSs X ss (tF P (ctRun.ctRunF G C F c post []) c k) := by
  refine h.imp fun D σ H q => ?_
  obtain ⟨L0, loc, x, dx, vs, acc, ds, R, e0, ex, lx, hx, rr, ha, hk, e, kk⟩ := q
  simp only [ctRun.ctRunF] at e
  split at e
  · rename_i l1 e1
    cases e
    have no := not_own R lx
    have rep : Rep P (fun b => Lv L0 loc σ b ∧ b ≠ x) H (.ins c acc) (.ref x) := by
      unfold Rep
      exact ⟨x, dx, vs, rfl, hx, fun z => z.2 rfl, by rw [← rr.length, ha]; exact hk, Reps.weak (fun b z => z.1) rr⟩
    have R' := Rel.made R e0 ex rep no
    refine ⟨_, _, _, R', e1, fun σ' H' p => kk σ' H' (fun b o hb ne nb => ?_) ?_⟩
    · refine p.keep b o hb fun z => nb ?_
      obtain ⟨j, b', es, f1, f2⟩ := z
      rcases getset f1 with ⟨_, f3, _⟩ | ⟨_, f1⟩
      · cases f3
      · exact ⟨j, b', es, f1, f2⟩
    · obtain ⟨v, g1, g2⟩ := R'.dat 0 (.ins c acc) (List.getElem?_set_self (lt_of_get e0))
      rw [ex] at g1; cases g1
      exact Rep.weak (fun b z => .inl z) (Rep.keep p.kp p.lv _ _ g2)
  · cases e
theorem ct_fld {self f : Str} {p1 p2 pos : Pos} {v : Expr} {e : ME} {es : List ME} {ss : List Stmt} {post : List MS} (hs : PE X (.Name self p1) (tVar 0)) (hv : PE X v (tE P (ev G C e))) (hn : (P.fl c).Nodup) (hf : (P.fl c)[k]? = some f) (hl : (P.fl c).length < 1000)
    (hc : Cls X.K (P.ca c)) (ha : NoAttr X.K (P.ca c) f) (h : PSs X ss (tF P (ctRun.ctRunF G C F c post es) c (k + 1))) :
    PSs X (.Assign [.Attribute (.Name self p1) f p2] v pos :: ss) (tF P (ctRun.ctRunF G C F c post (e :: es)) c k) := by
  refine (pss_cons (ps_fld hs hv (by cases v <;> rfl)) h).imp fun D σ H q => ?_
  obtain ⟨L0, loc, x, dx, vs, acc, ds, R, e0, ex, lx, hx, rr, hac, hk, e1, kk⟩ := q
  simp only [ctRun.ctRunF] at e1
  split at e1
  · rename_i r l1 e2
    split at e1
    · rename_i d e3
      refine ⟨L0, loc, r, l1, R, e2, fun y H1 p1 => ?_⟩
      have no := not_own R lx
      have hx1 : H1 x = some (.ins (P.ca c) dx ((P.fl c).zip vs)) := p1.keep x _ hx no
      have ry := toVal_rep p1.rep e3
      have hkl := lt_of_get hf
      have hvl : vs.length = k := by rw [← rr.length, hac]
      refine ⟨_, ex, x, P.ca c, dx, _, rfl, hx1, hc, ha, ?_, ?_⟩
      · rw [List.length_zip]; omega
      · rw [putF_zip hn (by rw [hvl]; exact hf)]
        have kp : ∀ b q, H1 b = some q → ¬ Lv L0 l1 σ b → (upd H1 x (.ins (P.ca c) dx ((P.fl c).zip (vs ++ [y])))) b = some q := fun b q e n => by
          rw [upd_ne (fun z => n (by rw [z]; exact .inl lx))]; exact e
        refine ⟨L0, l1, x, dx, vs ++ [y], acc ++ [d], ds, p1.rel.touch lx, p1.fix 0 _ e0 (fun _ _ z => nomatch z), ex, lx, upd_same, ?_, by simp [hac], by omega, e1, fun σ' H' hkeep hrep => kk σ' H' (fun b o hb ne nb => ?_) hrep⟩
        · refine Reps.keep kp (fun b z => .inl z) _ _ ((Reps.keep p1.kp p1.lv _ _ rr).append (Reps.cons ry Reps.nil))
        · refine hkeep b o ?_ ne fun z => nb (p1.own b z)
          rw [upd_ne ne]
          exact p1.keep b o hb nb
    · cases e1
  · cases e1
theorem ct_pre {s : Stmt} {ss : List Stmt} {m : MS} {pre post : List MS} {es : List ME} (hs : PS X s (tS P (sx G C F m))) (h : PSs X ss (tF P (ctRun G C F c post pre es) c 0)) : PSs X (s :: ss) (tF P (ctRun G C F c post (m :: pre) es) c 0) := by
  refine (pss_cons hs h).imp fun D σ H q => ?_
  obtain ⟨L0, loc, x, dx, vs, acc, ds, R, e0, ex, lx, hx, rr, hac, hk, e1, kk⟩ := q
  simp only [ctRun] at e1
  split at e1
  · rename_i l1 e2
    refine ⟨L0, loc, _, R, e2, fun σ1 H1 p1 => ?_⟩
    have no := not_own R lx
    obtain ⟨h1, h2⟩ := p1.hid 0 e0
    refine ⟨L0, l1, x, dx, vs, acc, ds, p1.rel, h1, h2.trans ex, lx, p1.keep x _ hx no, Reps.keep p1.kp p1.lv _ _ rr, hac, hk, e1, fun σ' H' hkeep hrep => kk σ' H' (fun b o hb ne nb => ?_) hrep⟩
    refine hkeep b o (p1.keep b o hb nb) ne fun z => ?_
    rcases p1.own b z with z | z
    · exact nb z
    · rw [hb] at z; cases z
  · cases e1
/-- the look at such a def's body -/
def kCtF (n : Nat) (c : CK) (sc : Scope) (fl : List Str) (post : List MS) : List ME → Nat → List Stmt → Bool
  | [], _, ss => mSs n c (fun _ => true) sc ss post
  | e :: fs, k, ss => match ss with
    | .Assign [.Attribute (.Name x _) f _] v _ :: ss => kV c sc x 0 && decide (fl[k]? = some f) && mE n c (fun _ => true) sc v e && kCtF n c sc fl post fs (k + 1) ss
    | _ => false
def kCt (n : Nat) (c : CK) (sc : Scope) (fl : List Str) (post : List MS) (fs : List ME) : List MS → List Stmt → Bool
  | [], ss => kCtF n c sc fl post fs 0 ss
  | m :: pre, ss => match ss with
    | s :: ss => mS n c (fun _ => true) sc s m && kCt n c sc fl post fs pre ss
    | [] => false
theorem kCt_run {ck : CK} {sc : Scope} {kk n : Nat} {fl : List Str} {post : List MS} (hx : Ctx P G C ck (fun _ => true) sc kk X) (hfl : P.fl c = fl) (hn : fl.Nodup) (hl : fl.length < 1000) (hc : Cls X.K (P.ca c)) (ha : ∀ f ∈ fl, NoAttr X.K (P.ca c) f) :
    ∀ (fs : List ME) (k : Nat) (ss : List Stmt), kCtF n ck sc fl post fs k ss = true → PSs X ss (tF P (ctRun.ctRunF G C F c post fs) c k)
  | [], k, ss, h => by
    simp only [kCtF] at h
    exact ct_end ((snds_all (F := F) n).Ss hx h)
  | e :: fs, k, ss, h => by
    simp only [kCtF] at h
    split at h
    · rename_i x p1 f p2 v pos ss'
      simp only [Bool.and_eq_true, decide_eq_true_eq] at h
      obtain ⟨⟨⟨h1, h2⟩, h3⟩, h4⟩ := h
      subst hfl
      exact ct_fld (kV_spec hx h1) ((snd_all n).E hx h3) hn h2 hl hc (ha _ (List.mem_of_getElem? h2)) (kCt_run hx rfl hn hl hc ha fs (k + 1) ss' h4)
    · cases h
theorem kCt_go {fs : List ME} {ck : CK} {sc : Scope} {kk n : Nat} {fl : List Str} {post : List MS} (hx : Ctx P G C ck (fun _ => true) sc kk X) (hfl : P.fl c = fl) (hn : fl.Nodup) (hl : fl.length < 1000) (hc : Cls X.K (P.ca c)) (ha : ∀ f ∈ fl, NoAttr X.K (P.ca c) f) :
    ∀ (pre : List MS) (ss : List Stmt), kCt n ck sc fl post fs pre ss = true → PSs X ss (tF P (ctRun G C F c post pre fs) c 0)
  | [], ss, h => by
    simp only [kCt] at h
    have e : ctRun G C F c post [] fs = ctRun.ctRunF G C F c post fs := by funext acc loc; rw [ctRun]
    rw [e]
    exact kCt_run hx hfl hn hl hc ha fs 0 ss h
  | m :: pre, ss, h => by
    simp only [kCt] at h
    split at h
    · simp only [Bool.and_eq_true] at h
      exact ct_pre ((snds_all (F := F) n).S hx h.1) (kCt_go hx hfl hn hl hc ha pre _ h.2)
    · cases h
end

/-! ### a table of defs -/
structure Ent where
  key : Str × Option Str
  name : Str
  qual : Str
  st : Stmt
  N : List Str
  ps : List Str
  d : FD
  dfl : List Df := []
  kwd : List (Str × Df) := []
/-- what is the same for all defs -/
structure Tab where
  bl : List Str
  gl : List (Str × Nat)
  fn : List (Str × Nat)
  kw : List KwSh
  fl : List (List Str) := []
  mt : List (Nat × Str × Nat) := []
  ct : List (Str × Nat × Nat) := []
  df : List DfSh := []
  ne : List Nat := []
  isc : List (Str × Nat) := []
def Tab.ck (t : Tab) (N : List Str) : CK := ⟨N, t.bl, t.gl, t.fn, t.kw, t.fl, t.mt, t.ct, t.df, t.ne, t.isc⟩
/-- the look at an entry -/
def Ent.ok (n : Nat) (t : Tab) (e : Ent) : Bool :=
  (match e.d.ct with
    | none => mSs n (t.ck e.N) (fun _ => true) (defScope e.st) (defBody e.st) e.d.body
    | some ct => match t.fl[ct.c]? with
      | some fl => decide (fl.length < 1000) && kCt n (t.ck e.N) (defScope e.st) fl ct.post ct.fs e.d.body (defBody e.st)
      | none => false) && decide (e.d.arity = e.ps.length) && decide (e.d.slots = e.N.length)
section
variable {Pr : Program} {w : World} {K : PySem.W.Frag} {mg : Str → Option Value} {base : Heap} {P : RP} {G : Nat → D}
/-- what is known of the defs at a level -/
structure TabOk (Pr : Program) (w : World) (K : PySem.W.Frag) (mg : Str → Option Value) (base : Heap) (P : RP) (G : Nat → D) (t : Tab) (C : CallS) (kk : Nat) : Prop where
  hK : P.K = K
  bl : ∀ x ∈ t.bl, mg x = none
  gl : ∀ p ∈ t.gl, ∃ u v, mg p.1 = some u ∧ RelV v u ∧ ∀ L H, Rep P L H (G p.2) v
  fn : ∀ p ∈ t.fn, ∃ f fd ps, GFn Pr w K mg base CX0 kk f fd ps (spOf P (C p.2) ps.length) ∧ mg p.1 = some (.ref f) ∧ PySem.W.keepIn K (.ref f) = true ∧ Binds K fd ps [] ∧ ∀ a r a', C p.2 a = some (r, a') → a.length = ps.length
  kw : ∀ q ∈ t.kw, ∃ f fd ps g gV, GFn Pr w K mg base CX0 kk f fd ps (spOf P (C q.f) ps.length) ∧ mg q.x = some (.ref f) ∧ PySem.W.keepIn K (.ref f) = true ∧ KBinds K fd ps q.ks g gV ∧
    (∀ vs zs : List V, vs.length = q.np → zs.length = q.ks.length → gV vs zs = permV q.perm (vs ++ zs)) ∧ ∀ a r a', C q.f a = some (r, a') → a.length = ps.length
  hC : ∀ j a r a', C j a = some (r, a') → ∀ i, r ≠ .ref i
  cl : ∀ (k : Nat) (fs : List Str), t.fl[k]? = some fs → P.fl k = fs ∧ fs.Nodup ∧ Cls K (P.ca k) ∧ ∀ f ∈ fs, NoAttr K (P.ca k) f
  mt : ∀ q ∈ t.mt, ∃ (k : Nat) (fA : Addr) (fd : FuncData) (ps : List Str), k ≤ kk ∧ Meth K (P.ca q.1) q.2.1 fA ∧ GFn Pr w K mg base CX0 k fA fd ps (spOf P (C q.2.2) ps.length) ∧ Binds K fd ps [] ∧ ∀ a r a', C q.2.2 a = some (r, a') → a.length = ps.length
  ct : ∀ q ∈ t.ct, mg q.1 = some (.ref (P.ca q.2.1)) ∧ ((∀ a, C q.2.2 a = none) ∨ ∃ (k : Nat) (fI : Addr) (fd : FuncData) (ps : List Str), k + 1 ≤ kk ∧ Mk K (P.ca q.2.1) fI ∧ GFn Pr w K mg base CX0 k fI fd ps (spI P (C q.2.2) q.2.1 (ps.length - 1)) ∧ Binds K fd ps [] ∧
    ∀ a r a', C q.2.2 a = some (r, a') → a.length = ps.length - 1)
  df : ∀ q ∈ t.df, ∃ f fd ps us, GFn Pr w K mg base CX0 kk f fd ps (spOf P (C q.f) ps.length) ∧ mg q.x = some (.ref f) ∧ PySem.W.keepIn K (.ref f) = true ∧ Binds K fd ps us ∧ Vals (q.ds.map Df.v) us ∧ ∀ a r a', C q.f a = some (r, a') → a.length = ps.length
  ne : ∀ k ∈ t.ne, NeOk K (P.ca k)
  isc : ∀ q ∈ t.isc, mg q.1 = some (.ref (P.ca q.2)) ∧ Cls K (P.ca q.2) ∧ IscOk K (P.ca q.2)
theorem TabOk.ctx {t : Tab} {C : CallS} {kk : Nat} (T : TabOk Pr w K mg base P G t C kk) {N : List Str} {qual : Str} {scope : Scope} {ps : List Str} {f : Addr} {cdv : Value} {A : Around} {outer : List Env} {s : Shared} {H : Hp} {E : XK} (Sc : FnScope N ps scope)
    (hr : Room kk (A.deeper (envOfC qual scope s.heap.objs.size f cdv))) (hr1 : Room kk (A.deeper (envOfC qual scope s.heap.objs.size f cdv)).in1) (hgd : (A.deeper (envOfC qual scope s.heap.objs.size f cdv)).guards = some []) : Ctx P G C (t.ck N) (fun _ => true) scope kk (cxOf CX0 Pr w K mg base N qual scope f cdv A outer s H E).nox :=
  ⟨rfl, Sc.nd, rfl, Sc.kind, T.hK, rfl, PassesOwn.never, hr, hgd, T.bl, T.gl, T.fn, T.kw, T.hC, fun _ _ => rfl, T.cl, T.mt, T.ct, hr1, T.df, T.ne, T.isc⟩
theorem fn_ok {t : Tab} {C : CallS} {kk n F : Nat} {e : Ent} {dvs : List V} {kws : List (Str × V)} {f : Addr} {fd : FuncData} (T : TabOk Pr w K mg base P G t C kk) (Fn : FunD K e.name e.qual (defArgs e.st) (defBody e.st) (defScope e.st) dvs kws f fd) (Sc : FnScope e.N e.ps (defScope e.st)) (h : e.ok n t = true) (hct : e.d.ct = none) :
    GFn Pr w K mg base CX0 (kk + 1) f fd e.ps (spOf P (runFD G C F e.d) e.ps.length) := by
  unfold Ent.ok at h
  rw [hct] at h
  simp only [Bool.and_eq_true, decide_eq_true_eq] at h
  obtain ⟨⟨h1, h2⟩, h3⟩ := h
  refine GFn.of Fn Sc (fun vs H Q E q => q.1) (fun cdv A outer s H vs Q E hr hr1 hgd q => ?_)
  have hx : Ctx P G C (t.ck e.N) (fun _ => true) (defScope e.st) kk (cxOf CX0 Pr w K mg base e.N e.qual (defScope e.st) f cdv A outer s H E).nox := T.ctx Sc hr hr1 hgd
  refine ⟨_, PSs.nox ((snds_all (F := F) n).Ss hx h1), ?_⟩
  obtain ⟨hl, L0, a, r, a', R, eg, hr', k⟩ := q
  unfold runFD at eg
  have la : a.length = e.d.arity := by have := R.len; rw [List.length_map] at this; omega
  rw [if_pos la] at eg
  have hs : L2.start e.N vs = vs.map some ++ List.replicate (e.d.slots - e.d.arity) none := by
    unfold L2.start
    rw [h3, h2, hl]
  rw [hs]
  have Rp := R.pad (e.d.slots - e.d.arity)
  split at eg
  · rename_i r0 l e1
    split at eg
    · rename_i a0 e2
      cases eg
      exact ⟨L0, _, _, Rp, e1, hr', fun v σ' H' p rr fr => k v H' (end_post R p e2 hr' rr fr)⟩
    · cases eg
  · rename_i l e1
    split at eg
    · rename_i a0 e2
      cases eg
      exact ⟨L0, _, _, Rp, e1, fun σ' H' p => k .non H' (end_post R p e2 hr' repR_non (fun _ _ z => nomatch z))⟩
    · cases eg
  · cases eg
theorem ct_ok {t : Tab} {C : CallS} {kk n F : Nat} {e : Ent} {ct : CT} {dvs : List V} {kws : List (Str × V)} {f : Addr} {fd : FuncData} (T : TabOk Pr w K mg base P G t C kk) (Fn : FunD K e.name e.qual (defArgs e.st) (defBody e.st) (defScope e.st) dvs kws f fd) (Sc : FnScope e.N e.ps (defScope e.st)) (h : e.ok n t = true) (hct : e.d.ct = some ct) :
    GFn Pr w K mg base CX0 (kk + 1) f fd e.ps (spI P (runCT G C F e.d ct) ct.c (e.ps.length - 1)) := by
  unfold Ent.ok at h
  rw [hct] at h
  simp only [Bool.and_eq_true, decide_eq_true_eq] at h
  obtain ⟨⟨h1, h2⟩, h3⟩ := h
  have hpos : ∀ {vs H Q E}, spI P (runCT G C F e.d ct) ct.c (e.ps.length - 1) vs H Q E → vs.length = e.ps.length := fun {vs H Q E} q => by
    obtain ⟨hl, x, dx, ws, L0, a, ds, a', rfl, hx, lx, R, eg, k⟩ := q
    unfold runCT at eg
    split at eg
    · rename_i ha
      omega
    · cases eg
  split at h1
  · rename_i fl hfl
    simp only [Bool.and_eq_true, decide_eq_true_eq] at h1
    obtain ⟨q1, q2, q3, q4⟩ := T.cl _ _ hfl
    refine GFn.of Fn Sc (fun vs H Q E q => hpos q) (fun cdv A outer s H vs Q E hr hr1 hgd q => ?_)
    have hx : Ctx P G C (t.ck e.N) (fun _ => true) (defScope e.st) kk (cxOf CX0 Pr w K mg base e.N e.qual (defScope e.st) f cdv A outer s H E).nox := T.ctx Sc hr hr1 hgd
    refine ⟨_, PSs.nox (kCt_go (F := F) hx q1 q2 h1.1 q3 q4 e.d.body _ h1.2), ?_⟩
    have hl' := hpos q
    obtain ⟨hl, x, dx, ws, L0, a, ds, a', rfl, hxx, lx, R, eg, k⟩ := q
    unfold runCT at eg
    split at eg
    · rename_i ha
      split at eg
      · rename_i hd
        split at eg
        · rename_i ds' e1
          cases eg
          have hs : L2.start e.N (.ref x :: ws) = some (.ref x) :: (ws.map some ++ List.replicate (e.d.slots - e.d.arity) none) := by
            unfold L2.start
            rw [h3, h2, ← hl', List.map_cons, List.cons_append]
          rw [hs]
          have Rp := R.pad (e.d.slots - e.d.arity)
          have no : ∀ b, ¬ OwnAt (Slot.hid :: (a ++ List.replicate (e.d.slots - e.d.arity) Slot.none)) (some (.ref x) :: (ws.map some ++ List.replicate (e.d.slots - e.d.arity) none)) b := fun b ⟨i, b', es, f1, f2⟩ => by
            cases i with
            | zero => simp at f1
            | succ i =>
              rw [List.getElem?_cons_succ] at f1
              rcases pad_get f1 with ⟨_, f1⟩ | ⟨_, f1⟩
              · exact allDat_own hd ⟨i, b', es, f1, (by rw [List.getElem?_cons_succ] at f2; rw [List.getElem?_append_left (by have := R.len; have := lt_of_get f1; omega)] at f2; exact f2)⟩
              · cases f1
          have lvE : ∀ b, Lv L0 (Slot.hid :: (a ++ List.replicate (e.d.slots - e.d.arity) Slot.none)) (some (.ref x) :: (ws.map some ++ List.replicate (e.d.slots - e.d.arity) none)) b → Lv L0 (a ++ List.replicate (e.d.slots - e.d.arity) Slot.none) (ws.map some ++ List.replicate (e.d.slots - e.d.arity) none) b := fun b z => z.elim .inl fun z => absurd z (no b)
          have R2 : Rel P L0 (Slot.hid :: (a ++ List.replicate (e.d.slots - e.d.arity) Slot.none)) (some (.ref x) :: (ws.map some ++ List.replicate (e.d.slots - e.d.arity) none)) H := by
            refine ⟨by rw [List.length_cons, List.length_cons, Rp.len], Rp.l0, fun j d e' => ?_, fun j b es e' => ?_, fun j l b c es fs w f1 f2 f3 f4 => ?_, fun j ns e' => ?_⟩
            · cases j with
              | zero => simp at e'
              | succ j =>
                obtain ⟨v, g1, g2⟩ := Rp.dat j d (by simpa using e')
                exact ⟨v, by simpa using g1, Rep.weak lvE g2⟩
            · cases j with
              | zero => simp at e'
              | succ j =>
                have f1 : (a ++ List.replicate (e.d.slots - e.d.arity) Slot.none)[j]? = some (.own b es) := by simpa using e'
                rcases pad_get f1 with ⟨_, f1⟩ | ⟨_, f1⟩
                · have := List.all_eq_true.mp hd _ (List.mem_of_getElem? f1)
                  cases this
                · cases f1
            · exact absurd ⟨j, b, es, f1, f3⟩ (no w)
            · cases j with
              | zero => simp at e'
              | succ j =>
                have f1 : (a ++ List.replicate (e.d.slots - e.d.arity) Slot.none)[j]? = some (.scr ns) := by simpa using e'
                rcases pad_get f1 with ⟨_, f1⟩ | ⟨_, f1⟩
                · have := List.all_eq_true.mp hd _ (List.mem_of_getElem? f1)
                  cases this
                · cases f1
          refine ⟨L0, _, x, dx, [], [], ds, R2, rfl, rfl, lx, ?_, Reps.nil, rfl, Nat.zero_le _, e1, fun σ' H' kp rep => k H' (fun b o hb ne => kp b o hb ne (no b)) rep⟩
          rw [hxx]
          cases P.fl ct.c <;> rfl
        · cases eg
      · cases eg
    · cases eg
  · cases h1
/-! the whole table -/
theorem callN_ref {T : List FD} {F : Nat} : ∀ (n j : Nat) (a : Loc) (r : R) (a' : Loc), (∀ (d : FD) (l : Loc) (out : Out) (C : CallS), True) → callN G T F n j a = some (r, a') → True := fun _ _ _ _ _ _ _ => trivial
theorem runFD_ar {C : CallS} {F : Nat} {d : FD} {a : Loc} {r : R} {a' : Loc} (h : runFD G C F d a = some (r, a')) : a.length = d.arity := by
  unfold runFD at h
  split at h
  · assumption
  · cases h
def noRef : Out → Prop
  | .rt (.ref _) _ => False
  | _ => True
theorem nr_for {p : Pat} {body : Loc → Option Out} (hb : ∀ l o, body l = some o → noRef o) : ∀ (ds : List D) (l : Loc) (o : Out), forRun p body ds l = some o → noRef o
  | [], l, o, h => by simp only [forRun, Option.some.injEq] at h; subst h; trivial
  | d :: ds, l, o, h => by
    simp only [forRun] at h
    split at h
    · cases h
    · split at h
      · exact nr_for hb ds _ _ h
      · exact nr_for hb ds _ _ h
      · cases h; trivial
      · rename_i e1
        cases h
        exact hb _ _ e1
      · cases h
theorem nr_wh {c : Loc → Option (Bool × Loc)} {body : Loc → Option Out} (hb : ∀ l o, body l = some o → noRef o) : ∀ (n : Nat) (l : Loc) (o : Out), whRun c body n l = some o → noRef o
  | 0, l, o, h => by simp only [whRun] at h; cases h
  | n + 1, l, o, h => by
    simp only [whRun] at h
    split at h
    · split at h
      · exact nr_wh hb n _ _ h
      · exact nr_wh hb n _ _ h
      · cases h; trivial
      · rename_i e1
        cases h
        exact hb _ _ e1
      · cases h
    · cases h; trivial
    · cases h
mutual
theorem nr_sx {C : CallS} {F : Nat} : ∀ (m : MS) (l : Loc) (o : Out), sx G C F m l = some o → noRef o
  | .set p e, l, o, h => by
    simp only [sx] at h
    split at h
    · split at h
      · obtain ⟨l', _, rfl⟩ := omap_nx h; trivial
      · cases h
    · cases h
  | .own i e, l, o, h => by
    simp only [sx] at h
    split at h
    · obtain ⟨l', _, rfl⟩ := omap_nx h; trivial
    · cases h
  | .par i j a b, l, o, h => by
    simp only [sx] at h
    split at h
    · split at h
      · split at h
        · split at h
          · obtain ⟨l', _, rfl⟩ := omap_nx h; trivial
          · cases h
        · cases h
      · cases h
    · cases h
  | .aug i op e, l, o, h => by
    simp only [sx] at h
    split at h
    · split at h
      · split at h
        · split at h
          · obtain ⟨l', _, rfl⟩ := omap_nx h; trivial
          · obtain ⟨l', _, rfl⟩ := omap_nx h; trivial
          · cases h
        · cases h
      · cases h
    · cases h
  | .ex e, l, o, h => by
    simp only [sx] at h
    split at h
    · cases h; trivial
    · cases h
  | .ret e, l, o, h => by
    simp only [sx] at h
    split at h
    · split at h
      · cases h
      · rename_i hn
        simp only [Option.some.injEq] at h
        subst h
        unfold noRef
        split
        · rename_i i l' heq
          cases heq
          exact absurd rfl (hn i)
        · trivial
    · cases h
  | .retN, l, o, h => by simp only [sx, Option.some.injEq] at h; subst h; trivial
  | .ite c t f, l, o, h => by
    simp only [sx] at h
    split at h
    · exact nr_sxs t _ _ h
    · exact nr_sxs f _ _ h
    · cases h
  | .loop p it b, l, o, h => by
    simp only [sx] at h
    split at h
    · exact nr_for (fun l o e => nr_sxs b l o e) _ _ _ h
    · cases h
  | .wh c b, l, o, h => by
    simp only [sx] at h
    exact nr_wh (fun l o e => nr_sxs b l o e) _ _ _ h
  | .put i k e, l, o, h => by
    simp only [sx] at h
    split at h
    · split at h
      · split at h
        · split at h
          · split at h
            · cases h; trivial
            · cases h
          · cases h
        · cases h
      · cases h
    · cases h
  | .pass, l, o, h => by simp only [sx, Option.some.injEq] at h; subst h; trivial
  | .brk, l, o, h => by simp only [sx, Option.some.injEq] at h; subst h; trivial
  | .cont, l, o, h => by simp only [sx, Option.some.injEq] at h; subst h; trivial
  | .bad, l, o, h => by simp only [sx] at h; cases h
  | .retO i, l, o, h => by
    simp only [sx] at h
    split at h
    · cases h; trivial
    · cases h; trivial
    · cases h
  | .forget is, l, o, h => by
    simp only [sx] at h
    split at h
    · cases h; trivial
    · cases h
  | .par3 i j k a b c, l, o, h => by
    simp only [sx] at h
    split at h
    · split at h
      · split at h
        · split at h
          · split at h
            · split at h
              · obtain ⟨l', _, rfl⟩ := omap_nx h; trivial
              · cases h
            · cases h
          · cases h
        · cases h
      · cases h
    · cases h
  | .augL i e, l, o, h => by
    simp only [sx] at h
    split at h
    · split at h
      · split at h
        · split at h
          · cases h; trivial
          · cases h
        · cases h
      · cases h
    · cases h
theorem nr_sxs {C : CallS} {F : Nat} : ∀ (ms : List MS) (l : Loc) (o : Out), sxs G C F ms l = some o → noRef o
  | [], l, o, h => by simp only [sxs, Option.some.injEq] at h; subst h; trivial
  | m :: ms, l, o, h => by
    simp only [sxs] at h
    split at h
    · exact nr_sxs ms _ _ h
    · exact nr_sx m _ _ h
end
theorem runFD_nr {C : CallS} {F : Nat} {d : FD} {a : Loc} {r : R} {a' : Loc} (h : runFD G C F d a = some (r, a')) : ∀ i, r ≠ .ref i := by
  unfold runFD at h
  split at h
  · split at h
    · rename_i r0 l e1
      split at h
      · cases h
        have := nr_sxs _ _ _ e1
        intro i e
        subst e
        exact this
      · cases h
    · split at h
      · cases h; intro i e; cases e
      · cases h
    · cases h
  · cases h
theorem runCT_nr {C : CallS} {F : Nat} {d : FD} {ct : CT} {a : Loc} {r : R} {a' : Loc} (h : runCT G C F d ct a = some (r, a')) : ∀ i, r ≠ .ref i := by
  unfold runCT at h
  split at h
  · split at h
    · split at h
      · cases h; intro i e; cases e
      · cases h
    · cases h
  · cases h
theorem runCT_ar {C : CallS} {F : Nat} {d : FD} {ct : CT} {a : Loc} {r : R} {a' : Loc} (h : runCT G C F d ct a = some (r, a')) : a.length + 1 = d.arity := by
  unfold runCT at h
  split at h
  · assumption
  · cases h
theorem callN_nr {T : List FD} {F : Nat} : ∀ (n j : Nat) (a : Loc) (r : R) (a' : Loc), callN G T F n j a = some (r, a') → ∀ i, r ≠ .ref i
  | 0, j, a, r, a', h => by simp only [callN] at h; cases h
  | n + 1, j, a, r, a', h => by
    simp only [callN] at h
    split at h
    · split at h
      · exact runFD_nr h
      · split at h
        · cases h
        · exact runCT_nr h
    · cases h
theorem callN_eq {T : List FD} {F : Nat} {d : FD} {j : Nat} (hd : T[j]? = some d) (hc : d.ct = none) (n : Nat) : callN G T F (n + 1) j = runFD G (callN G T F n) F d := by
  funext a
  simp only [callN]
  rw [hd]
  simp only [hc]
theorem callN_eqC {T : List FD} {F : Nat} {d : FD} {ct : CT} {j : Nat} (hd : T[j]? = some d) (hc : d.ct = some ct) (n : Nat) : callN G T F (n + 2) j = runCT G (callN G T F n) F d ct := by
  funext a
  simp only [callN]
  rw [hd]
  simp only [hc]
theorem callN_noC {T : List FD} {F : Nat} {d : FD} {ct : CT} {j : Nat} (hd : T[j]? = some d) (hc : d.ct = some ct) (a : Loc) : ∀ n, n ≤ 1 → callN G T F n j a = none
  | 0, _ => by simp only [callN]
  | 1, _ => by
    simp only [callN]
    rw [hd]
    simp only [hc]
  | n + 2, h => absurd h (by omega)
theorem callN_ar {T : List FD} {F : Nat} {d : FD} {j : Nat} (hd : T[j]? = some d) (hc : d.ct = none) : ∀ (n : Nat) (a : Loc) (r : R) (a' : Loc), callN G T F n j a = some (r, a') → a.length = d.arity
  | 0, a, r, a', h => by simp only [callN] at h; cases h
  | n + 1, a, r, a', h => by
    rw [callN_eq hd hc] at h
    exact runFD_ar h
/-- how a def is called with keywords, at its place in the table -/
structure KwOk (K : PySem.W.Frag) (fd : FuncData) (ps : List Str) (q : KwSh) : Prop where
  ex : ∃ g gV, KBinds K fd ps q.ks g gV ∧ ∀ vs zs : List V, vs.length = q.np → zs.length = q.ks.length → gV vs zs = permV q.perm (vs ++ zs)
/-- how a def is called with some of its defaults -/
def DfOk (K : PySem.W.Frag) (fd : FuncData) (ps : List Str) (q : DfSh) : Prop := ∃ us, Vals (q.ds.map Df.v) us ∧ Binds K fd ps us
/-- a def is called by places -/
def Pos_ (t : Tab) (j : Nat) : Prop := (∃ p ∈ t.fn, p.2 = j) ∨ (∃ q ∈ t.mt, q.2.2 = j) ∨ ∃ q ∈ t.ct, q.2.2 = j
/-- the facts of a table; ad: where the defs stand -/
structure Facts (K : PySem.W.Frag) (mg : Str → Option Value) (P : RP) (G : Nat → D) (t : Tab) (es : List Ent) (ad : Nat → Addr) : Prop where
  hK : P.K = K
  bl : ∀ x ∈ t.bl, mg x = none
  gl : ∀ p ∈ t.gl, ∃ u v, mg p.1 = some u ∧ RelV v u ∧ ∀ L H, Rep P L H (G p.2) v
  at_ : ∀ (j : Nat) (e : Ent), es[j]? = some e → ∃ dvs kws fd, FunD K e.name e.qual (defArgs e.st) (defBody e.st) (defScope e.st) dvs kws (ad j) fd ∧ FnScope e.N e.ps (defScope e.st) ∧ (Pos_ t j → Binds K fd e.ps []) ∧ (∀ q ∈ t.kw, q.f = j → KwOk K fd e.ps q) ∧ ∀ q ∈ t.df, q.f = j → DfOk K fd e.ps q
  fn : ∀ p ∈ t.fn, ∃ e, es[p.2]? = some e ∧ e.d.ct = none ∧ mg p.1 = some (.ref (ad p.2))
  kw : ∀ q ∈ t.kw, ∃ e, es[q.f]? = some e ∧ e.d.ct = none ∧ mg q.x = some (.ref (ad q.f))
  cl : ∀ (k : Nat) (fs : List Str), t.fl[k]? = some fs → P.fl k = fs ∧ fs.Nodup ∧ Cls K (P.ca k) ∧ ∀ f ∈ fs, NoAttr K (P.ca k) f
  mt : ∀ q ∈ t.mt, ∃ e, es[q.2.2]? = some e ∧ e.d.ct = none ∧ Meth K (P.ca q.1) q.2.1 (ad q.2.2)
  ct : ∀ q ∈ t.ct, mg q.1 = some (.ref (P.ca q.2.1)) ∧ ∃ e ct, es[q.2.2]? = some e ∧ e.d.ct = some ct ∧ ct.c = q.2.1 ∧ Mk K (P.ca q.2.1) (ad q.2.2)
  df : ∀ q ∈ t.df, ∃ e, es[q.f]? = some e ∧ e.d.ct = none ∧ mg q.x = some (.ref (ad q.f))
  ne : ∀ k ∈ t.ne, NeOk K (P.ca k)
  isc : ∀ q ∈ t.isc, mg q.1 = some (.ref (P.ca q.2)) ∧ Cls K (P.ca q.2) ∧ IscOk K (P.ca q.2)
theorem tab_ok {t : Tab} {es : List Ent} {ad : Nat → Addr} {n F : Nat} (X : Facts K mg P G t es ad) (hok : es.all (·.ok n t) = true) : ∀ kk, TabOk Pr w K mg base P G t (callN G (es.map (·.d)) F kk) kk ∧
    ∀ (j : Nat) (e : Ent) (dvs : List V) (kws : List (Str × V)) (f : Addr) (fd : FuncData), es[j]? = some e → e.d.ct = none → FunD K e.name e.qual (defArgs e.st) (defBody e.st) (defScope e.st) dvs kws f fd → FnScope e.N e.ps (defScope e.st) → GFn Pr w K mg base CX0 kk f fd e.ps (spOf P (callN G (es.map (·.d)) F kk j) e.ps.length) := by
  have eok : ∀ {j : Nat} {e : Ent}, es[j]? = some e → e.ok n t = true := fun {j e} h => by
    rw [List.all_eq_true] at hok
    exact hok e (List.mem_of_getElem? h)
  have ear : ∀ {j : Nat} {e : Ent}, es[j]? = some e → e.d.arity = e.ps.length := fun {j e} h => by
    have := eok h
    unfold Ent.ok at this
    simp only [Bool.and_eq_true, decide_eq_true_eq] at this
    exact this.1.2
  have edj : ∀ {j : Nat} {e : Ent}, es[j]? = some e → (es.map (·.d))[j]? = some e.d := fun {j e} h => by
    rw [List.getElem?_map, h]; rfl
  -- from the defs at a level to the table at it
  have up : ∀ kk, (∀ m, kk = m + 2 → TabOk Pr w K mg base P G t (callN G (es.map (·.d)) F m) m) → (∀ (j : Nat) (e : Ent) (dvs : List V) (kws : List (Str × V)) (f : Addr) (fd : FuncData), es[j]? = some e → e.d.ct = none → FunD K e.name e.qual (defArgs e.st) (defBody e.st) (defScope e.st) dvs kws f fd → FnScope e.N e.ps (defScope e.st) → GFn Pr w K mg base CX0 kk f fd e.ps (spOf P (callN G (es.map (·.d)) F kk j) e.ps.length)) →
      TabOk Pr w K mg base P G t (callN G (es.map (·.d)) F kk) kk := fun kk hT hF => by
    refine ⟨X.hK, X.bl, X.gl, fun p hp => ?_, fun q hq => ?_, callN_nr kk, X.cl, fun q hq => ?_, fun q hq => ?_, fun q hq => ?_, X.ne, X.isc⟩
    · obtain ⟨e, h1, hc, h2⟩ := X.fn p hp
      obtain ⟨dvs, kws, fd, g1, g2, g4, _⟩ := X.at_ _ _ h1
      exact ⟨_, fd, e.ps, hF _ _ _ _ _ _ h1 hc g1 g2, h2, g1.kp, g4 (.inl ⟨p, hp, rfl⟩), fun a r a' h => by rw [callN_ar (edj h1) hc kk a r a' h, ear h1]⟩
    · obtain ⟨e, h1, hc, h2⟩ := X.kw q hq
      obtain ⟨dvs, kws, fd, g1, g2, g4, g5⟩ := X.at_ _ _ h1
      obtain ⟨g, gV, k1, k2⟩ := (g5.1 q hq rfl).ex
      exact ⟨_, fd, e.ps, g, gV, hF _ _ _ _ _ _ h1 hc g1 g2, h2, g1.kp, k1, k2, fun a r a' h => by rw [callN_ar (edj h1) hc kk a r a' h, ear h1]⟩
    · obtain ⟨e, h1, hc, h2⟩ := X.mt q hq
      obtain ⟨dvs, kws, fd, g1, g2, g4, _⟩ := X.at_ _ _ h1
      exact ⟨kk, _, fd, e.ps, Nat.le_refl _, h2, hF _ _ _ _ _ _ h1 hc g1 g2, g4 (.inr (.inl ⟨q, hq, rfl⟩)), fun a r a' h => by rw [callN_ar (edj h1) hc kk a r a' h, ear h1]⟩
    · obtain ⟨h0, e, ct, h1, hc, h2, h3⟩ := X.ct q hq
      obtain ⟨dvs, kws, fd, g1, g2, g4, _⟩ := X.at_ _ _ h1
      refine ⟨h0, ?_⟩
      match kk, hT with
      | 0, _ => exact .inl fun a => callN_noC (edj h1) hc a 0 (by omega)
      | 1, _ => exact .inl fun a => callN_noC (edj h1) hc a 1 (by omega)
      | m + 2, hT =>
        refine .inr ⟨m + 1, _, fd, e.ps, Nat.le_refl _, h3, ?_, g4 (.inr (.inr ⟨q, hq, rfl⟩)), fun a r a' h => ?_⟩
        · rw [callN_eqC (edj h1) hc, ← h2]
          exact ct_ok (F := F) (hT m rfl) g1 g2 (eok h1) hc
        · rw [callN_eqC (edj h1) hc] at h
          have := runCT_ar h
          rw [ear h1] at this
          omega
    · obtain ⟨e, h1, hc, h2⟩ := X.df q hq
      obtain ⟨dvs, kws, fd, g1, g2, _, g5⟩ := X.at_ _ _ h1
      obtain ⟨us, r, b⟩ := g5.2 q hq rfl
      exact ⟨_, fd, e.ps, us, hF _ _ _ _ _ _ h1 hc g1 g2, h2, g1.kp, b, r, fun a r a' h => by rw [callN_ar (edj h1) hc kk a r a' h, ear h1]⟩
  have all : ∀ kk, (TabOk Pr w K mg base P G t (callN G (es.map (·.d)) F kk) kk ∧
    ∀ (j : Nat) (e : Ent) (dvs : List V) (kws : List (Str × V)) (f : Addr) (fd : FuncData), es[j]? = some e → e.d.ct = none → FunD K e.name e.qual (defArgs e.st) (defBody e.st) (defScope e.st) dvs kws f fd → FnScope e.N e.ps (defScope e.st) → GFn Pr w K mg base CX0 kk f fd e.ps (spOf P (callN G (es.map (·.d)) F kk j) e.ps.length)) := fun kk => by
    induction kk using Nat.strongRecOn with
    | ind kk ih =>
      match kk, ih with
      | 0, _ =>
        have h0 : ∀ (j : Nat) (e : Ent) (dvs : List V) (kws : List (Str × V)) (f : Addr) (fd : FuncData), es[j]? = some e → e.d.ct = none → FunD K e.name e.qual (defArgs e.st) (defBody e.st) (defScope e.st) dvs kws f fd → FnScope e.N e.ps (defScope e.st) → GFn Pr w K mg base CX0 0 f fd e.ps (spOf P (callN G (es.map (·.d)) F 0 j) e.ps.length) := fun j e dvs kws f fd _ _ _ _ =>
          ⟨fun vs H Q E h => h.1, fun A outer s H args us vs Q E _ _ _ _ _ h => by
            obtain ⟨_, L0, a, r, a', _, e, _⟩ := h
            cases e⟩
        exact ⟨up 0 (fun m h => absurd h (by omega)) h0, h0⟩
      | kk + 1, ih =>
        have h1 : ∀ (j : Nat) (e : Ent) (dvs : List V) (kws : List (Str × V)) (f : Addr) (fd : FuncData), es[j]? = some e → e.d.ct = none → FunD K e.name e.qual (defArgs e.st) (defBody e.st) (defScope e.st) dvs kws f fd → FnScope e.N e.ps (defScope e.st) → GFn Pr w K mg base CX0 (kk + 1) f fd e.ps (spOf P (callN G (es.map (·.d)) F (kk + 1) j) e.ps.length) := fun j e dvs kws f fd hj hc hf hs => by
          have := fn_ok (F := F) (ih kk (Nat.lt_succ_self _)).1 hf hs (eok hj) hc
          rw [callN_eq (edj hj) hc]
          exact this
        exact ⟨up _ (fun m h => (ih m (by omega)).1) h1, h1⟩
  exact all
/-- the law's promise -/
theorem law_sp {C : CallS} {a : Addr} {H : Hp} {ns : List Int} {a' : Loc} {E : XK} {j : Nat} (hK : P.K = K) (hS : SqL K H a (ns.map V.int)) (h : C j [.scr ns] = some (.val (.bl true), a')) : spOf P (C j) 1 [.ref a] H (fun v _ => v = .bl true) E := by
  refine ⟨rfl, fun _ => False, [.scr ns], _, a', ⟨rfl, fun _ z => z.elim, fun i d e => ?_, fun i b ds e => ?_, fun i j b c ds es w e1 => ?_, fun i n e => ?_⟩, h, (fun i z => nomatch z), fun v H' p => ?_⟩
  · cases i <;> simp at e
  · cases i <;> simp at e
  · cases i <;> simp at e1
  · cases i with
    | zero =>
      simp at e; subst e
      refine ⟨a, rfl, ?_⟩
      rcases hS with hS | hS
      · refine .inl ⟨hS, fun z => ?_⟩
        rcases z with z | ⟨i, b, ds, e1, e2⟩
        · exact z
        · cases i <;> simp at e1
      · exact .inr (.inr (hK ▸ hS))
    | succ i => simp at e
  · have : Rep P (Lv (fun _ => False) a' [some (.ref a)]) H' (.bl true) v := p.rep
    unfold Rep at this; exact this
end
end MP

namespace MP
open PySem PySem.Spec PyProof.Rows L2
/-! ### calls with keywords: how they bind -/
def permA {α : Type} (p : List Nat) (l : List α) : List α := p.filterMap fun i => l[i]?
theorem permV_eq (p : List Nat) (l : List V) : permV p l = permA p l := rfl
theorem vals_perm {xs : List V} {us : List Value} (r : Vals xs us) : ∀ p : List Nat, Vals (permA p xs) (permA p us)
  | [] => .nil
  | i :: p => by
    have ih := vals_perm r p
    unfold permA at ih ⊢
    rw [List.filterMap_cons, List.filterMap_cons]
    cases e : xs[i]? with
    | none =>
      have : us[i]? = none := by
        rw [List.getElem?_eq_none_iff] at e ⊢
        have := r.length
        omega
      rw [this]
      exact ih
    | some x =>
      obtain ⟨u, e1, e2⟩ := r.get e
      rw [e1]
      exact .cons e2 ih
theorem kw_ok {K : PySem.W.Frag} {x qual : Str} {params : Arguments} {body : List Stmt} {scope : Scope} {f : Addr} {fd : FuncData} {ps : List Str} {q : KwSh} {kws : List (Str × V)} (F : FunD K x qual params body scope [] kws f fd) (hp : (ps.length == 0) = false)
    (h : ∀ (kV doc pm : Value) (an : Option Addr) (cdv ct : Value) (us ws : List Value), us.length = q.np → ws.length = q.ks.length → bindArgs (PySem.W.fnOf x qual params body scope .none kV doc pm an cdv ct) ⟨us, q.ks.zip ws⟩ = pure (ps.zip (permA q.perm (us ++ ws)))) : KwOk K fd ps q := by
  obtain ⟨oc, od, dV, kV, doc, pm, an, cdv, ct, osl, rfl, lk, hcd, hD, hK⟩ := F.ex
  rcases hD with ⟨_, rfl⟩ | ⟨e, _⟩
  case inr => exact absurd rfl e
  refine ⟨fun us ws => if us.length = q.np ∧ ws.length = q.ks.length then permA q.perm (us ++ ws) else [], fun vs zs => if vs.length = q.np ∧ zs.length = q.ks.length then permA q.perm (vs ++ zs) else [], ⟨fun s us ws _ hl => ?_, fun {vs us zs ws} r1 r2 => ?_⟩, fun vs zs h1 h2 => (if_pos ⟨h1, h2⟩).trans (permV_eq _ _).symm⟩
  · by_cases c : us.length = q.np ∧ ws.length = q.ks.length
    · show BindsTo _ _ _ (ps.zip (if us.length = q.np ∧ ws.length = q.ks.length then permA q.perm (us ++ ws) else []))
      rw [if_pos c]
      exact .of_eq (h kV doc pm an cdv ct us ws c.1 c.2)
    · replace hl : (if us.length = q.np ∧ ws.length = q.ks.length then permA q.perm (us ++ ws) else []).length = ps.length := hl
      rw [if_neg c] at hl
      have : ps.length = 0 := hl.symm
      rw [this] at hp
      cases hp
  · by_cases c : vs.length = q.np ∧ zs.length = q.ks.length
    · show Vals (if vs.length = q.np ∧ zs.length = q.ks.length then permA q.perm (vs ++ zs) else []) (if us.length = q.np ∧ ws.length = q.ks.length then permA q.perm (us ++ ws) else [])
      rw [if_pos c, if_pos ⟨by rw [← r1.length]; exact c.1, by rw [← r2.length]; exact c.2⟩]
      exact vals_perm (r1.append r2) _
    · show Vals (if vs.length = q.np ∧ zs.length = q.ks.length then permA q.perm (vs ++ zs) else []) (if us.length = q.np ∧ ws.length = q.ks.length then permA q.perm (us ++ ws) else [])
      rw [if_neg c, if_neg (fun z => c ⟨by rw [r1.length]; exact z.1, by rw [r2.length]; exact z.2⟩)]
      exact .nil
/-! ### the facts of a table from the head -/
def Df.dv : Df → He.Dv
  | .int i => .int i | .bl b => .bl b | .non => .non | .str x => .str x
theorem Df.dv_eq (K : PySem.W.Frag) (d : Df) : d.dv.v K = d.v := by cases d <;> rfl
def Ent.dd (e : Ent) : He.DefD := ⟨e.key, e.name, e.qual, defArgs e.st, defBody e.st, defScope e.st, e.dfl.map Df.dv, e.kwd.map fun q => (q.1, q.2.dv)⟩
def Ent.dvs (e : Ent) : List V := e.dfl.map Df.v
def Ent.kws (e : Ent) : List (Str × V) := e.kwd.map fun q => (q.1, q.2.v)
theorem dd_dvs (K : PySem.W.Frag) (e : Ent) : e.dd.dvs K = e.dvs := by
  show (e.dfl.map Df.dv).map (He.Dv.v K) = e.dfl.map Df.v
  rw [List.map_map]
  exact List.map_congr_left fun d _ => d.dv_eq K
theorem dd_kws (K : PySem.W.Frag) (e : Ent) : e.dd.kws K = e.kws := by
  show (e.kwd.map fun q => (q.1, q.2.dv)).map (fun q => (q.1, q.2.v K)) = e.kwd.map fun q => (q.1, q.2.v)
  rw [List.map_map]
  exact List.map_congr_left fun q _ => congrArg (Prod.mk q.1) (q.2.dv_eq K)
/-- one entry's own: scope, binding, keyword calls -/
structure EntOk (t : Tab) (j : Nat) (e : Ent) : Prop where
  sc : FnScope e.N e.ps (defScope e.st)
  bd : Pos_ t j → ∀ {K : PySem.W.Frag} {f : Addr} {fd : FuncData}, FunD K e.name e.qual (defArgs e.st) (defBody e.st) (defScope e.st) e.dvs e.kws f fd → Binds K fd e.ps []
  kw : ∀ {K : PySem.W.Frag} {f : Addr} {fd : FuncData}, FunD K e.name e.qual (defArgs e.st) (defBody e.st) (defScope e.st) e.dvs e.kws f fd → ∀ q ∈ t.kw, q.f = j → KwOk K fd e.ps q
  df : ∀ {K : PySem.W.Frag} {f : Addr} {fd : FuncData}, FunD K e.name e.qual (defArgs e.st) (defBody e.st) (defScope e.st) e.dvs e.kws f fd → ∀ q ∈ t.df, q.f = j → DfOk K fd e.ps q
def allEnt (t : Tab) : Nat → List Ent → Prop
  | _, [] => True
  | j, e :: es => EntOk t j e ∧ allEnt t (j + 1) es
theorem allEnt.get {t : Tab} : ∀ {es : List Ent} {j i : Nat} {e : Ent}, allEnt t j es → es[i]? = some e → EntOk t (j + i) e
  | [], _, _, _, _, h => by simp at h
  | e0 :: es, j, 0, e, h, q => by simp at q; subst q; exact h.1
  | e0 :: es, j, i + 1, e, h, q => by
    have := allEnt.get h.2 (i := i) (e := e) (by simpa using q)
    rw [show j + (i + 1) = j + 1 + i by omega]
    exact this
/-- where the defs stand -/
def adOf (K : PySem.W.Frag) (es : List Ent) (j : Nat) : Addr := match es[j]? with
  | some e => He.fAd K e.key
  | none => 0
theorem adOf_eq {K : PySem.W.Frag} {es : List Ent} {j : Nat} {e : Ent} (h : es[j]? = some e) : adOf K es j = He.fAd K e.key := by unfold adOf; rw [h]
/-! looks for a fact -/
def qGlo (x : Str) : He.Fa → Bool
  | .glo y => decide (y = x)
  | _ => false
def qFree (x : Str) : He.Fa → Bool
  | .free y => decide (y = x)
  | _ => false
def qInt (x : Str) (i : Int) : He.Fa → Bool
  | .int y j => decide (y = x) && decide (j = i)
  | _ => false
def qStr (x z : Str) : He.Fa → Bool
  | .str y w => decide (y = x) && decide (w = z)
  | _ => false
def qCls (x : Str) : He.Fa → Bool
  | .cls y => decide (y = x)
  | _ => false
def qNoat (x f : Str) : He.Fa → Bool
  | .noat y g => decide (y = x) && decide (g = f)
  | _ => false
def qMeth (x f : Str) : He.Fa → Bool
  | .meth y g => decide (y = x) && decide (g = f)
  | _ => false
def qMkr (x : Str) : He.Fa → Bool
  | .mkr y => decide (y = x)
  | _ => false
section
variable {K : PySem.W.Frag} {h : Heap} {mg : Str → Option Value} {fa : List He.Fa} {x f : Str} {i : Int}
def Gets (K : PySem.W.Frag) (fa : List He.Fa) : Prop := ∀ f ∈ fa, f.ok K = true
theorem g_glo (g : Gets K fa) (X : K.In h) (N : h.Ns mainGlobals mg) (q : fa.any (qGlo x) = true) : mg x = some (.ref (He.ga K x)) := by
  obtain ⟨f, hm, h2⟩ := List.any_eq_true.mp q
  cases f <;> first | (cases h2; done) | skip
  cases of_decide_eq_true (show decide (_ = x) = true from h2)
  exact He.glo_ok X N (g _ hm)
theorem g_free (g : Gets K fa) (X : K.In h) (N : h.Ns mainGlobals mg) (q : fa.any (qFree x) = true) : mg x = none := by
  obtain ⟨f, hm, h2⟩ := List.any_eq_true.mp q
  cases f <;> first | (cases h2; done) | skip
  cases of_decide_eq_true (show decide (_ = x) = true from h2)
  exact He.free_ok X N (g _ hm)
theorem g_int (g : Gets K fa) (X : K.In h) (N : h.Ns mainGlobals mg) (q : fa.any (qInt x i) = true) : ∃ t, mg x = some (.int i t) := by
  obtain ⟨f, hm, h2⟩ := List.any_eq_true.mp q
  cases f <;> first | (cases h2; done) | skip
  simp only [qInt, Bool.and_eq_true, decide_eq_true_eq] at h2
  obtain ⟨rfl, rfl⟩ := h2
  exact He.int_ok X N (g _ hm)
theorem g_str {z : Str} (g : Gets K fa) (X : K.In h) (N : h.Ns mainGlobals mg) (q : fa.any (qStr x z) = true) : ∃ t, mg x = some (.str z t) := by
  obtain ⟨f, hm, h2⟩ := List.any_eq_true.mp q
  cases f <;> first | (cases h2; done) | skip
  simp only [qStr, Bool.and_eq_true, decide_eq_true_eq] at h2
  obtain ⟨rfl, rfl⟩ := h2
  exact He.str_ok X N (g _ hm)
theorem g_cls (g : Gets K fa) (q : fa.any (qCls x) = true) : Cls K (He.ga K x) := by
  obtain ⟨f, hm, h2⟩ := List.any_eq_true.mp q
  cases f <;> first | (cases h2; done) | skip
  cases of_decide_eq_true (show decide (_ = x) = true from h2)
  exact He.cls_ok (g _ hm)
theorem g_noat (g : Gets K fa) (q : fa.any (qNoat x f) = true) : NoAttr K (He.ga K x) f := by
  obtain ⟨f, hm, h2⟩ := List.any_eq_true.mp q
  cases f <;> first | (cases h2; done) | skip
  simp only [qNoat, Bool.and_eq_true, decide_eq_true_eq] at h2
  obtain ⟨rfl, rfl⟩ := h2
  exact He.noat_ok (g _ hm)
theorem g_methF (g : Gets K fa) (q : fa.any (qMeth x f) = true) : Meth K (He.ga K x) f (He.ma K (He.ga K x) f) := by
  obtain ⟨f, hm, h2⟩ := List.any_eq_true.mp q
  cases f <;> first | (cases h2; done) | skip
  simp only [qMeth, Bool.and_eq_true, decide_eq_true_eq] at h2
  obtain ⟨rfl, rfl⟩ := h2
  exact He.meth_ok (g _ hm)
theorem g_mkr (g : Gets K fa) (q : fa.any (qMkr x) = true) : Mk K (He.ga K x) (He.ma K (He.ga K x) "__init__") := by
  obtain ⟨f, hm, h2⟩ := List.any_eq_true.mp q
  cases f <;> first | (cases h2; done) | skip
  cases of_decide_eq_true (show decide (_ = x) = true from h2)
  exact He.mkr_ok (g _ hm)
end
/-- where the classes stand, their fields -/
def rpOf (K : PySem.W.Frag) (cn : List Str) (t : Tab) : RP := ⟨K, fun k => He.ga K (cn.getD k ""), fun k => t.fl.getD k []⟩
/-- the look at the table against the facts -/
def tabFa (fa : List He.Fa) (G : Nat → D) (cn : List Str) (t : Tab) (es : List Ent) : Bool :=
  (t.bl.all fun b => fa.any (qFree b)) &&
  (t.gl.all fun p => match G p.2 with
    | .int i => fa.any (qInt p.1 i)
    | .str z => fa.any (qStr p.1 z)
    | .tup ds => (ints? ds).isSome && fa.any (qGlo p.1)
    | _ => false) &&
  (t.fn.all fun p => match es[p.2]? with
    | some e => decide (e.key = (p.1, none)) && e.d.ct.isNone && fa.any (qGlo p.1)
    | none => false) &&
  (t.kw.all fun q => match es[q.f]? with
    | some e => decide (e.key = (q.x, none)) && e.d.ct.isNone && fa.any (qGlo q.x)
    | none => false) &&
  ((List.range t.fl.length).all fun k => decide (t.fl.getD k []).Nodup && fa.any (qCls (cn.getD k "")) && (t.fl.getD k []).all fun f => fa.any (qNoat (cn.getD k "") f)) &&
  (t.mt.all fun q => match es[q.2.2]? with
    | some e => decide (e.key = (cn.getD q.1 "", some q.2.1)) && e.d.ct.isNone && fa.any (qMeth (cn.getD q.1 "") q.2.1)
    | none => false) &&
  (t.ct.all fun q => decide (cn.getD q.2.1 "" = q.1) && match es[q.2.2]? with
    | some e => decide (e.key = (q.1, some ("__init__" : Str))) && (match e.d.ct with
      | some ct => decide (ct.c = q.2.1)
      | none => false) && fa.any (qMkr q.1) && fa.any (qGlo q.1)
    | none => false) &&
  (t.df.all fun q => match es[q.f]? with
    | some e => decide (e.key = (q.x, none)) && e.d.ct.isNone && fa.any (qGlo q.x)
    | none => false) &&
  (t.isc.all fun q => decide (cn.getD q.2 "" = q.1) && fa.any (qGlo q.1) && fa.any (qCls q.1))
/-- further facts of the text's heap -/
def exB (G : Nat → D) (cn : List Str) (t : Tab) (K : PySem.W.Frag) : Bool :=
  (t.ne.all fun k => neB K (He.ga K (cn.getD k ""))) && (t.isc.all fun q => iscB K (He.ga K q.1)) && (t.gl.all fun p => match G p.2 with
    | .tup ds => match ints? ds with
      | some ns => He.tupB K p.1 (ns.map .int)
      | none => false
    | _ => true)
theorem reps_ints {P : RP} {L : Addr → Prop} {H : Hp} : ∀ ns : List Int, Reps P L H (ns.map D.int) (ns.map V.int)
  | [] => Reps.nil
  | n :: ns => by
    rw [List.map_cons, List.map_cons]
    unfold Reps
    exact ⟨_, _, rfl, rep_int, reps_ints ns⟩
theorem facts_of {K : PySem.W.Frag} {h : Heap} {mg : Str → Option Value} {t : Tab} {es : List Ent} {fa : List He.Fa} {cn : List Str} {G : Nat → D} (X : K.In h) (N : h.Ns mainGlobals mg) (c : He.SaysD fa (es.map Ent.dd) K) (hex : exB G cn t K = true) (ok : allEnt t 0 es)
    (hl : tabFa fa G cn t es = true) : Facts K mg (rpOf K cn t) G t es (adOf K es) := by
  have g : Gets K fa := fun f hm => by
    obtain ⟨i, hi⟩ := List.getElem?_of_mem hm
    exact c.fact i hi
  unfold tabFa at hl
  simp only [Bool.and_eq_true] at hl
  obtain ⟨⟨⟨⟨⟨⟨⟨⟨h1, h2⟩, h3⟩, h4⟩, h5⟩, h6⟩, h7⟩, h8⟩, h9⟩ := hl
  unfold exB at hex
  simp only [Bool.and_eq_true] at hex
  obtain ⟨⟨x1, x2⟩, x3⟩ := hex
  refine ⟨rfl, fun x hx => g_free g X N (List.all_eq_true.mp h1 x hx), fun p hp => ?_, fun j e he => ?_, fun p hp => ?_, fun q hq => ?_, fun k fs hk => ?_, fun q hq => ?_, fun q hq => ?_, fun q hq => ?_, fun k hk => neB_ok (List.all_eq_true.mp x1 k hk), fun q hq => ?_⟩
  · have q := List.all_eq_true.mp h2 p hp
    have q3 := List.all_eq_true.mp x3 p hp
    split at q
    · rename_i i hi
      obtain ⟨tk, e⟩ := g_int g X N q
      exact ⟨_, .int i, e, ⟨tk, rfl⟩, fun L H => by rw [hi]; exact rep_int⟩
    · rename_i z hi
      obtain ⟨tk, e⟩ := g_str g X N q
      exact ⟨_, .str z, e, ⟨tk, rfl⟩, fun L H => by rw [hi]; unfold Rep; rfl⟩
    · rename_i ds hi
      simp only [Bool.and_eq_true] at q
      rw [hi] at q3
      simp only at q3
      split at q3
      · rename_i ns hn
        have ht := He.tupB_ok q3 (fun _ => none)
        have ed := ints_spec hn
        refine ⟨_, .ref (He.ga K p.1), g_glo g X N q.2, rfl, fun L H => ?_⟩
        rw [hi, ed]
        have em : (ns.map He.Dv.int).map (He.Dv.v K) = ns.map V.int := by rw [List.map_map]; rfl
        rw [em] at ht
        unfold Rep
        exact ⟨_, _, rfl, .inr ht, reps_ints ns⟩
      · cases q3
    · cases q
  · obtain ⟨fd, F⟩ := c.def_ j (d := e.dd) (by rw [List.getElem?_map, he]; rfl)
    have E := ok.get he
    rw [Nat.zero_add] at E
    have ea : adOf K es j = He.fAd K e.key := by unfold adOf; rw [he]
    rw [ea]
    rw [dd_dvs, dd_kws] at F
    exact ⟨_, _, fd, F, E.sc, fun z => E.bd z F, E.kw F, E.df F⟩
  · have q := List.all_eq_true.mp h3 p hp
    split at q
    · rename_i e he
      simp only [Bool.and_eq_true, decide_eq_true_eq, Option.isNone_iff_eq_none] at q
      refine ⟨e, he, q.1.2, ?_⟩
      rw [adOf_eq he, q.1.1]
      exact g_glo g X N q.2
    · cases q
  · have q := List.all_eq_true.mp h4 q hq
    split at q
    · rename_i e he
      simp only [Bool.and_eq_true, decide_eq_true_eq, Option.isNone_iff_eq_none] at q
      refine ⟨e, he, q.1.2, ?_⟩
      rw [adOf_eq he, q.1.1]
      exact g_glo g X N q.2
    · cases q
  · have hk' := lt_of_get hk
    have q := List.all_eq_true.mp h5 k (List.mem_range.mpr hk')
    simp only [Bool.and_eq_true, decide_eq_true_eq] at q
    have e : t.fl.getD k [] = fs := by rw [List.getD_eq_getElem?_getD, hk]; rfl
    rw [e] at q
    exact ⟨e, q.1.1, g_cls g q.1.2, fun f hf => g_noat g (List.all_eq_true.mp q.2 f hf)⟩
  · have w := List.all_eq_true.mp h6 q hq
    split at w
    · rename_i e he
      simp only [Bool.and_eq_true, decide_eq_true_eq, Option.isNone_iff_eq_none] at w
      refine ⟨e, he, w.1.2, ?_⟩
      rw [adOf_eq he, w.1.1]
      exact g_methF g w.2
    · cases w
  · have w := List.all_eq_true.mp h7 q hq
    simp only [Bool.and_eq_true, decide_eq_true_eq] at w
    obtain ⟨w1, w⟩ := w
    split at w
    · rename_i e he
      simp only [Bool.and_eq_true, decide_eq_true_eq] at w
      obtain ⟨⟨⟨w2, w3⟩, w4⟩, w5⟩ := w
      split at w3
      · rename_i ct hct
        have eC : (rpOf K cn t).ca q.2.1 = He.ga K q.1 := by
          show He.ga K (cn.getD q.2.1 "") = _
          rw [w1]
        refine ⟨by rw [eC]; exact g_glo g X N w5, e, ct, he, hct, of_decide_eq_true w3, ?_⟩
        rw [eC]
        rw [adOf_eq he, w2]
        exact g_mkr g w4
      · cases w3
    · cases w
  · have w := List.all_eq_true.mp h8 q hq
    split at w
    · rename_i e he
      simp only [Bool.and_eq_true, decide_eq_true_eq, Option.isNone_iff_eq_none] at w
      refine ⟨e, he, w.1.2, ?_⟩
      rw [adOf_eq he, w.1.1]
      exact g_glo g X N w.2
    · cases w
  · have w := List.all_eq_true.mp h9 q hq
    simp only [Bool.and_eq_true, decide_eq_true_eq] at w
    have eC : (rpOf K cn t).ca q.2 = He.ga K q.1 := by
      show He.ga K (cn.getD q.2 "") = _
      rw [w.1.1]
    rw [eC]
    exact ⟨g_glo g X N w.1.2, g_cls g w.2, iscB_ok (List.all_eq_true.mp x2 q hq)⟩
/-- from the facts to what a law's walk wants -/
theorem law_end {Pr : Program} {w : World} {K : PySem.W.Frag} {mg : Str → Option Value} {P : RP} {G : Nat → D} {t : Tab} {es : List Ent} {ad : Nat → Addr} {n F kk j : Nat} {e : Ent} {h : Heap} {fa : Addr} (KX : K.In h) (X : Facts K mg P G t es ad) (hok : es.all (·.ok n t) = true) (hj : es[j]? = some e) (hct : e.d.ct = none) {x : Str} (hps : e.ps = [x])
    (hb : ∀ {K : PySem.W.Frag} {f : Addr} {fd : FuncData}, FunD K e.name e.qual (defArgs e.st) (defBody e.st) (defScope e.st) [] [] f fd → ∀ (s : Shared) (u : Value), BindsTo s fd ⟨[u], []⟩ [(x, u)])
    (hd : ∃ fd, FunD K e.name e.qual (defArgs e.st) (defBody e.st) (defScope e.st) [] [] fa fd)
    (hsc : FnScope e.N e.ps (defScope e.st))
    (law : ∀ ns : List Int, ns.length ≤ 63 → ∃ a', callN G (es.map (·.d)) F kk j [.scr ns] = some (.val (.bl true), a')) :
    ∃ (K : PySem.W.Frag) (fd : FuncData) (sp : Sp), K.In h ∧ (∀ (s : Shared) (u : Value), BindsTo s fd ⟨[u], []⟩ [(x, u)]) ∧
        (∀ (H : Hp) (a : Addr) (ns : List Int), ns.length ≤ 63 → SqL K H a (ns.map V.int) → sp [.ref a] H (fun v _ => v = .bl true) fun _ _ _ => False) ∧
        ∀ base : Heap, K.In base → base.Ns mainGlobals mg → GFn Pr w K mg base CX0 kk fa fd [x] sp := by
  obtain ⟨fd, Fd⟩ := hd
  refine ⟨K, fd, spOf P (callN G (es.map (·.d)) F kk j) 1, KX, hb Fd, fun H a ns hl hS => ?_, fun base _ _ => ?_⟩
  · obtain ⟨a', e1⟩ := law ns hl
    exact law_sp X.hK hS e1
  · have := (tab_ok (Pr := Pr) (w := w) (base := base) (F := F) X hok kk).2 j e _ _ fa fd hj hct Fd hsc
    rw [hps] at this
    exact this
end MP

namespace MP
open PySem L2

/-! ### plain tools: calls, loops, comprehensions -/
section
variable {G : Nat → D}
theorem lent_dat : ∀ {ds : List D} {l a' : Loc}, lent (ds.map Slot.dat) l = some a' → a' = ds.map Slot.dat
  | [], l, a', h => by simp only [List.map_nil, lent, Option.some.injEq] at h; exact h.symm
  | d :: ds, l, a', h => by
    simp only [List.map_cons, lent] at h
    split at h
    · split at h
      · rename_i l' r h1
        cases h
        rw [lent_dat h1]; rfl
      · cases h
    · cases h
theorem runFD_dat {C : CallS} {F : Nat} {d : FD} {ds : List D} {r : R} {a' : Loc} (h : runFD G C F d (ds.map Slot.dat) = some (r, a')) : a' = ds.map Slot.dat := by
  unfold runFD at h
  split at h
  · split at h
    · split at h
      · rename_i h1
        cases h
        exact lent_dat h1
      · cases h
    · split at h
      · rename_i h1
        cases h
        exact lent_dat h1
      · cases h
    · cases h
  · cases h
theorem callN_dat {T : List FD} {F : Nat} {n j : Nat} {ds : List D} {r : R} {a' : Loc} (h : callN G T F n j (ds.map Slot.dat) = some (r, a')) : a' = ds.map Slot.dat := by
  cases n with
  | zero => simp only [callN] at h; cases h
  | succ n =>
    simp only [callN] at h
    split at h
    · split at h
      · exact runFD_dat h
      · split at h
        · cases h
        · unfold runCT at h
          split at h
          · split at h
            · split at h
              · cases h; rfl
              · cases h
            · cases h
          · cases h
    · cases h
/-- a call whose arguments are all plain -/
theorem args_dat : ∀ (ds : List D) (loc : Loc), argsOf loc (ds.map R.val) = some (ds.map Slot.dat)
  | [], _ => rfl
  | d :: ds, loc => by
    simp only [List.map_cons, argsOf, argOf]
    rw [args_dat ds loc]
theorem refs_dat : ∀ ds : List D, refs (ds.map R.val) = []
  | [] => rfl
  | d :: ds => by simp only [List.map_cons, refs]; exact refs_dat ds
theorem given_dat : ∀ (ds : List D) (loc : Loc), given (ds.map R.val) (ds.map Slot.dat) loc = some loc
  | [], _ => rfl
  | d :: ds, loc => by simp only [List.map_cons, given]; exact given_dat ds loc
theorem doCall_dat {C : CallS} {f : Nat} {ds : List D} {r : R} {loc : Loc} (h : C f (ds.map Slot.dat) = some (r, ds.map Slot.dat)) : doCall C f (ds.map R.val) loc = some (r, loc) := by
  unfold doCall
  rw [refs_dat, args_dat]
  simp only [nodupB, if_true, h, given_dat]
/-- what a def answers to plain arguments -/
def Ans (C : CallS) (f : Nat) (ds : List D) (r : R) : Prop := C f (ds.map Slot.dat) = some (r, ds.map Slot.dat)
theorem Ans.call {C : CallS} {f : Nat} {ds : List D} {r : R} (h : Ans C f ds r) (loc : Loc) : doCall C f (ds.map R.val) loc = some (r, loc) := doCall_dat h
theorem ans_of {T : List FD} {F n j : Nat} {ds : List D} {r : R} {a' : Loc} (h : callN G T F n j (ds.map Slot.dat) = some (r, a')) : Ans (callN G T F n) j ds r := by
  have := callN_dat h
  subst this
  exact h
/-- a loop that keeps something -/
theorem for_inv {p : Pat} {body : Loc → Option Out} {I : Loc → Prop} {M : D → Prop} (hb : ∀ d loc, M d → I loc → ∃ l1 l2, bindP p d loc = some l1 ∧ (body l1 = some (.nx l2) ∨ body l1 = some (.ct l2)) ∧ I l2) : ∀ (ds : List D) (loc : Loc), (∀ d ∈ ds, M d) → I loc → ∃ l2, forRun p body ds loc = some (.nx l2) ∧ I l2
  | [], loc, _, h => ⟨loc, rfl, h⟩
  | d :: ds, loc, hm, h => by
    obtain ⟨l1, l2, e1, e2, e3⟩ := hb d loc (hm d (List.mem_cons_self ..)) h
    obtain ⟨l3, e4, e5⟩ := for_inv hb ds l2 (fun x hx => hm x (List.mem_cons_of_mem _ hx)) e3
    refine ⟨l3, ?_, e5⟩
    simp only [forRun, e1]
    rcases e2 with e2 | e2 <;> rw [e2] <;> exact e4
/-- a comprehension over one name, no test -/
theorem lc_map {own : List Nat} {p : Pat} {elt : Loc → Option (R × Loc)} {w : Loc} {f : D → D} : ∀ (ds : List D), (∀ d ∈ ds, ∃ l1 r l3, bindP p d w = some l1 ∧ elt l1 = some (r, l3) ∧ toVal r = some (f d) ∧ wipeL l3 own = w) →
    lcRun own p (fun l => some (true, l)) elt ds w = some (ds.map f, w)
  | [], _ => rfl
  | d :: ds, h => by
    obtain ⟨l1, r, l3, e1, e2, e3, e4⟩ := h d (List.mem_cons_self ..)
    simp only [lcRun, e1, e2, e3, e4, lc_map ds (fun x hx => h x (List.mem_cons_of_mem _ hx)), List.map_cons]
/-- the same with a test -/
theorem lc_filter {own : List Nat} {p : Pat} {cond : Loc → Option (Bool × Loc)} {elt : Loc → Option (R × Loc)} {w : Loc} {q : D → Bool} {f : D → D} : ∀ (ds : List D), (∀ d ∈ ds, ∃ l1 l2, bindP p d w = some l1 ∧ cond l1 = some (q d, l2) ∧ (q d = false → wipeL l2 own = w) ∧ (q d = true → ∃ r l3, elt l2 = some (r, l3) ∧ toVal r = some (f d) ∧ wipeL l3 own = w)) →
    lcRun own p cond elt ds w = some ((ds.filter q).map f, w)
  | [], _ => rfl
  | d :: ds, h => by
    obtain ⟨l1, l2, e1, e2, e3, e4⟩ := h d (List.mem_cons_self ..)
    have ih := lc_filter ds (fun x hx => h x (List.mem_cons_of_mem _ hx))
    cases hq : q d with
    | true =>
      obtain ⟨r, l3, g1, g2, g3⟩ := e4 hq
      rw [hq] at e2
      simp only [lcRun, e1, e2, g1, g2, g3, ih, List.filter_cons, hq, if_true, List.map_cons]
    | false =>
      rw [hq] at e2
      have g := e3 hq
      simp only [lcRun, e1, e2, g, ih, List.filter_cons, hq, Bool.false_eq_true, if_false]
theorem rngL_eq : ∀ (n : Nat) (lo : Int), rngL lo n = (List.range n).map fun i : Nat => D.int (lo + (i : Int))
  | 0, _ => rfl
  | n + 1, lo => by
    rw [rngL, rngL_eq n, List.range_succ_eq_map, List.map_cons, List.map_map]
    congr 1
    · simp
    · apply List.map_congr_left
      intro i _
      simp only [Function.comp_apply]
      congr 1
      omega
theorem ints_map : ∀ ns : List Int, ints? (ns.map D.int) = some ns
  | [] => rfl
  | n :: ns => by simp only [List.map_cons, ints?, ints_map ns]
end

/-! ### the laws' well -/
def IsWell (m : Nat) (ds : List D) : Prop := ∃ a c t : Int, ds = [.int a, .int c, .int t] ∧ 0 ≤ t ∧ t ≤ m
theorem pow_ok {x : Int} (h0 : 0 ≤ x) (h : x < 2 ^ 60) : powOk x 5 = true := by
  unfold powOk
  simp only [Bool.and_eq_true, decide_eq_true_eq]
  refine ⟨⟨by decide, by decide⟩, ?_⟩
  omega
theorem mul_ok {x y : Int} (h0 : 0 ≤ x) (h : x < 2 ^ 60) : mulOk x y = true := by
  unfold mulOk
  simp only [Bool.or_eq_true, Bool.and_eq_true, decide_eq_true_eq]
  exact .inl (.inl ⟨by omega, by omega⟩)
theorem fdiv_ok {x : Int} (h0 : 0 < x) (h : x < 2 ^ 62) : fdivOk x = true := by
  unfold fdivOk
  simp only [Bool.and_eq_true, decide_eq_true_eq]
  refine ⟨h0, ?_⟩
  have : x.natAbs < 2 ^ 62 := by omega
  by_cases hz : x.natAbs = 0
  · rw [hz]; decide
  · have := (Nat.log2_lt hz).mpr this
    omega
def drawA : FD := ⟨2, 5, [.ite (.o2 .gt (.o2 .ix (.r 0) (.c (.int 0))) (.c (.int 0))) [.set (.v 4) (.o2 .mod (.o2 .ix (.r 0) (.c (.int 0))) (.r 1)), .put 0 (.c (.int 0)) (.o2 .fdiv (.o2 .ix (.r 0) (.c (.int 0))) (.r 1)), .ret (.r 4)] [], .put 0 (.c (.int 2)) (.o2 .add (.o2 .ix (.r 0) (.c (.int 2))) (.c (.int 1))), .set (.v 2) (.o2 .mod (.o2 .fdiv (.o2 .ix (.r 0) (.c (.int 1))) (.c (.int 2147483629))) (.c (.int 65521))), .set (.v 3) (.o2 .mod (.o2 .pow (.o2 .add (.o2 .add (.o2 .add (.o2 .mod (.o2 .ix (.r 0) (.c (.int 1))) (.c (.int 2147483629))) (.o2 .mul (.c (.int 7919)) (.o2 .ix (.r 0) (.c (.int 2))))) (.r 2)) (.c (.int 1))) (.c (.int 5))) (.c (.int 2147483647))), .set (.v 3) (.o2 .mod (.o2 .mul (.r 3) (.o2 .add (.o2 .add (.o2 .fdiv (.r 3) (.c (.int 1009))) (.c (.int 69621))) (.o2 .ix (.r 0) (.c (.int 2))))) (.c (.int 2147483629))), .ret (.o2 .mod (.o2 .mod (.o2 .mul (.r 3) (.o2 .add (.o2 .fdiv (.r 3) (.c (.int 2003))) (.c (.int 40692)))) (.c (.int 2147483399))) (.r 1))], none⟩
theorem drawA_ok {G : Nat → D} {C : CallS} {F m : Nat} {ds : List D} {n : Int} (hw : IsWell m ds) (h0 : 0 < n) (h1 : n < 2 ^ 60) (hm : m < 2 ^ 40) :
    ∃ r ds', runFD G C F drawA [.own true ds, .dat (.int n)] = some (.val (.int r), [.own true ds', .dat (.int n)]) ∧ 0 ≤ r ∧ r < n ∧ IsWell (m + 1) ds' := by
  obtain ⟨a, c, t, rfl, t0, t1⟩ := hw
  have hf : fdivOk n = true := fdiv_ok h0 (by omega)
  by_cases ha : 0 < a
  · refine ⟨a % n, [.int (a / n), .int c, .int t], ?_, Int.emod_nonneg _ (by omega), Int.emod_lt_of_pos _ h0, _, _, _, rfl, t0, by omega⟩
    simp [runFD, drawA, sxs, sx, evT, ev, res, sett, ap2, cmpI, seqAt, ha, h0, hf, truth, toVal, bindP, put, free, lent]
  · have e1 : c % 2147483629 < 2147483629 := Int.emod_lt_of_pos _ (by decide)
    have e2 : 0 ≤ c % 2147483629 := Int.emod_nonneg _ (by decide)
    have e3 : c / 2147483629 % 65521 < 65521 := Int.emod_lt_of_pos _ (by decide)
    have e4 : 0 ≤ c / 2147483629 % 65521 := Int.emod_nonneg _ (by decide)
    have p1 : powOk (c % 2147483629 + 7919 * (t + 1) + c / 2147483629 % 65521 + 1) 5 = true := pow_ok (by omega) (by omega)
    generalize hx : (c % 2147483629 + 7919 * (t + 1) + c / 2147483629 % 65521 + 1) ^ (5 : Nat) % 2147483647 = x at *
    have x1 : x < 2147483647 := hx ▸ Int.emod_lt_of_pos _ (by decide)
    have x0 : 0 ≤ x := hx ▸ Int.emod_nonneg _ (by decide)
    have p2 : ∀ y, mulOk x y = true := fun y => mul_ok x0 (by omega)
    generalize hy : x * (x / 1009 + 69621 + (t + 1)) % 2147483629 = y at *
    have y1 : y < 2147483629 := hy ▸ Int.emod_lt_of_pos _ (by decide)
    have y0 : 0 ≤ y := hy ▸ Int.emod_nonneg _ (by decide)
    have p3 : ∀ z, mulOk y z = true := fun z => mul_ok y0 (by omega)
    have p4 : mulOk 7919 (t + 1) = true := mul_ok (by decide) (by decide)
    have f1 : fdivOk 2147483629 = true := by decide
    have f2 : fdivOk 1009 = true := by decide
    have f3 : fdivOk 2003 = true := by decide
    refine ⟨y * (y / 2003 + 40692) % 2147483399 % n, [.int a, .int c, .int (t + 1)], ?_, Int.emod_nonneg _ (by omega), Int.emod_lt_of_pos _ h0, _, _, _, rfl, by omega, by omega⟩
    have e5 : (5 : Int).toNat = 5 := rfl
    simp [runFD, drawA, sxs, sx, evT, ev, res, sett, ap2, cmpI, seqAt, ha, h0, truth, toVal, bindP, put, free, lent, f1, f2, f3, p1, p2, p3, p4, e5, hx, hy]
end MP
namespace MP
/-! ### data that are the same -/
mutual
def D.same : D → D → Bool
  | .non, e => match e with | .non => true | _ => false
  | .bl a, e => match e with | .bl b => a == b | _ => false
  | .int i, e => match e with | .int j => i == j | _ => false
  | .str x, e => match e with | .str y => decide (x = y) | _ => false
  | .tup xs, e => match e with | .tup ys => D.sames xs ys | _ => false
  | .lst xs, e => match e with | .lst ys => D.sames xs ys | _ => false
  | .ins _ _, _ => false
def D.sames : List D → List D → Bool
  | [], e => match e with | [] => true | _ => false
  | x :: xs, e => match e with | y :: ys => D.same x y && D.sames xs ys | [] => false
end
mutual
theorem D.same_eq : ∀ {a b : D}, D.same a b = true → a = b
  | .non, b, h => by cases b <;> first | rfl | (simp [D.same] at h)
  | .bl x, b, h => by cases b <;> first | (simp [D.same] at h; rw [h]) | (simp [D.same] at h)
  | .int x, b, h => by cases b <;> first | (simp [D.same] at h; rw [h]) | (simp [D.same] at h)
  | .str x, b, h => by cases b <;> first | (simp [D.same] at h; rw [h]) | (simp [D.same] at h)
  | .tup xs, b, h => by
    cases b <;> first | (exfalso; simp [D.same] at h; done) | skip
    rw [D.sames_eq (show D.sames xs _ = true from by simpa only [D.same] using h)]
  | .lst xs, b, h => by
    cases b <;> first | (exfalso; simp [D.same] at h; done) | skip
    rw [D.sames_eq (show D.sames xs _ = true from by simpa only [D.same] using h)]
  | .ins _ _, b, h => by simp [D.same] at h
theorem D.sames_eq : ∀ {a b : List D}, D.sames a b = true → a = b
  | [], b, h => by cases b <;> first | rfl | (simp [D.sames] at h)
  | x :: xs, b, h => by
    cases b with
    | nil => simp [D.sames] at h
    | cons y ys =>
      simp only [D.sames, Bool.and_eq_true] at h
      rw [D.same_eq h.1, D.sames_eq h.2]
end
/-- the call gives this value -/
def isV (d : D) : Option (R × Loc) → Bool
  | some (.val e, _) => D.same e d
  | _ => false
theorem isV_ok {d : D} {o : Option (R × Loc)} (h : isV d o = true) : ∃ a', o = some (.val d, a') := by
  unfold isV at h
  split at h
  · exact ⟨_, by rw [D.same_eq h]⟩
  · cases h
theorem ans_isV {G : Nat → D} {T : List FD} {F n j : Nat} {ds : List D} {d : D} (h : isV d (callN G T F n j (ds.map Slot.dat)) = true) : Ans (callN G T F n) j ds (.val d) := by
  obtain ⟨a', e⟩ := isV_ok h
  exact ans_of e
end MP
namespace MP
/-! ### lists of ints -/
theorem plains_int (n : Nat) : ∀ xs : List Int, D.plains n (xs.map D.int) = true
  | [] => by simp [D.plains]
  | x :: xs => by simp [D.plains, D.plain, plains_int n xs]
theorem any_int (c : Int) : ∀ xs : List Int, ((xs.map D.int).any fun y => D.beq y (.int c)) = xs.any (fun y => y == c)
  | [] => rfl
  | x :: xs => by simp only [List.map_cons, List.any_cons, any_int c xs, D.beq]
theorem plain_int (n : Nat) (i : Int) : D.plain n (.int i) = true := by cases n <;> rfl
theorem plain_bl (n : Nat) (i : Bool) : D.plain n (.bl i) = true := by cases n <;> rfl
/-- a loop that may answer -/
theorem for_find {p : Pat} {body : Loc → Option Out} {I J : Loc → Prop} {q : D → Bool} {r : R} : ∀ (ds : List D) (loc : Loc),
    (∀ d ∈ ds, ∀ loc, I loc → ∃ l1, bindP p d loc = some l1 ∧ (q d = true → ∃ l2, body l1 = some (.rt r l2) ∧ J l2) ∧ (q d = false → ∃ l2, body l1 = some (.nx l2) ∧ I l2)) → I loc →
    (ds.any q = true → ∃ l2, forRun p body ds loc = some (.rt r l2) ∧ J l2) ∧ (ds.any q = false → ∃ l2, forRun p body ds loc = some (.nx l2) ∧ I l2)
  | [], loc, _, h => ⟨fun e => by simp at e, fun _ => ⟨loc, rfl, h⟩⟩
  | d :: ds, loc, hb, h => by
    obtain ⟨l1, e1, e2, e3⟩ := hb d (List.mem_cons_self ..) loc h
    cases hq : q d with
    | true =>
      obtain ⟨l2, g1, g2⟩ := e2 hq
      refine ⟨fun _ => ⟨l2, by simp only [forRun, e1, g1], g2⟩, fun e => ?_⟩
      simp [hq] at e
    | false =>
      obtain ⟨l2, g1, g2⟩ := e3 hq
      obtain ⟨k1, k2⟩ := for_find ds l2 (fun x hx => hb x (List.mem_cons_of_mem _ hx)) g2
      refine ⟨fun e => ?_, fun e => ?_⟩
      · rw [List.any_cons, hq, Bool.false_or] at e
        obtain ⟨l3, m1, m2⟩ := k1 e
        exact ⟨l3, by simp only [forRun, e1, g1]; exact m1, m2⟩
      · rw [List.any_cons, hq, Bool.false_or] at e
        obtain ⟨l3, m1, m2⟩ := k2 e
        exact ⟨l3, by simp only [forRun, e1, g1]; exact m1, m2⟩
theorem small_of {n : Int} (h0 : 0 ≤ n) (h : n < 2 ^ 60) : small n = true := by
  unfold small
  simp only [Bool.and_eq_true, decide_eq_true_eq]
  omega
end MP
namespace MP
section
variable {G : Nat → D} {C : CallS}
theorem evC_one {m : ME} {loc loc' : Loc} {b : Bool} (h : ev G C m loc = some (.val (.bl b), loc')) : evC G C [m] loc = some (b, loc') := by
  simp only [evC, h, res, truth]
  cases b <;> rfl
theorem evT_bl {m : ME} {loc loc' : Loc} {b : Bool} (h : ev G C m loc = some (.val (.bl b), loc')) : evT G C m loc = some (b, loc') := by
  simp only [evT, h, res, truth]
end
def has (A : List Int) (c : Int) : Bool := A.any (fun y => y == c)
theorem any_has (c : Int) (A : List Int) : (A.any ((fun y => D.beq y (.int c)) ∘ D.int)) = has A c := rfl
def unI : D → Int
  | .int i => i
  | _ => 0
def tupI (xs : List Int) : D := .tup (xs.map D.int)
def lstI (xs : List Int) : D := .lst (xs.map D.int)
end MP
namespace MP
theorem ev_lc_ok {G : Nat → D} {C : CallS} {own : List Nat} {p : Pat} {it : IT} {cs : List ME} {elt : ME} {loc l1 l2 : Loc} {items ds : List D} (h1 : evI G C it loc = some (items, l1)) (h2 : own.all (freeD l1) = true) (h3 : items.length ≤ big)
    (h4 : lcRun own p (evC G C cs) (ev G C elt) items (wipeL l1 own) = some (ds, l2)) : ev G C (.lc own p it cs elt) loc = some (.new ds, back l1 l2 own) := by
  rw [ev, h1]
  simp only [h2, decide_eq_true h3, Bool.and_self, if_true, h4]
end MP
namespace MP
theorem ev_lc_at {G : Nat → D} {C : CallS} (own : List Nat) (p : Pat) (it : IT) (cs : List ME) (elt : ME) (loc l2 : Loc) {items ds : List D} (h1 : evI G C it loc = some (items, loc)) (h2 : own.all (freeD loc) = true) (h3 : items.length ≤ big)
    (h4 : lcRun own p (evC G C cs) (ev G C elt) items (wipeL loc own) = some (ds, l2)) (h5 : back loc l2 own = loc) : ev G C (.lc own p it cs elt) loc = some (.new ds, loc) := by
  rw [ev_lc_ok h1 h2 h3 h4, h5]
end MP

namespace MP
open PySem L2
/-! the evaluator, arm by arm, with all arguments written (printed by geneq.py) -/
@[simp] theorem qev_c (G : Nat → D) (C : CallS) (d : D) (loc : Loc) : ev G C (.c d) loc = (some (.val d, loc)) := by
  first | (rw [ev]; done) | (rw [ev]; rfl)
@[simp] theorem qev_g (G : Nat → D) (C : CallS) (k : Nat) (loc : Loc) : ev G C (.g k) loc = (some (.val (G k), loc)) := by
  first | (rw [ev]; done) | (rw [ev]; rfl)
@[simp] theorem qev_v (G : Nat → D) (C : CallS) (i : Nat) (loc : Loc) : ev G C (.v i) loc = (match loc[i]? with
    | some (.dat d) => some (.val d, loc)
    | _ => none) := by
  first | (rw [ev]; done) | (rw [ev]; rfl)
@[simp] theorem qev_r (G : Nat → D) (C : CallS) (i : Nat) (loc : Loc) : ev G C (.r i) loc = (match loc[i]? with
    | some (.own _ _) => some (.ref i, loc)
    | some (.scr _) => some (.ref i, loc)
    | some (.dat d) => some (.val d, loc)
    | _ => none) := by
  first | (rw [ev]; done) | (rw [ev]; rfl)
@[simp] theorem qev_fz (G : Nat → D) (C : CallS) (i : Nat) (loc : Loc) : ev G C (.fz i) loc = (match loc[i]? with
    | some (.own false ds) => some (.val (.lst ds), loc.set i (.dat (.lst ds)))
    | some (.dat d) => some (.val d, loc)
    | _ => none) := by
  first | (rw [ev]; done) | (rw [ev]; rfl)
@[simp] theorem qev_tup (G : Nat → D) (C : CallS) (es : List ME) (loc : Loc) : ev G C (.tup es) loc = (match evs G C es loc with
    | some (rs, l1) => match rs.mapM toVal with
      | some ds => some (.val (.tup ds), l1)
      | none => none
    | none => none) := by
  first | (rw [ev]; done) | (rw [ev]; rfl)
@[simp] theorem qev_lst (G : Nat → D) (C : CallS) (es : List ME) (loc : Loc) : ev G C (.lst es) loc = (match evs G C es loc with
    | some (rs, l1) => match rs.mapM toVal with
      | some ds => some (.new ds, l1)
      | none => none
    | none => none) := by
  first | (rw [ev]; done) | (rw [ev]; rfl)
@[simp] theorem qev_o1 (G : Nat → D) (C : CallS) (o : O1) (a : ME) (loc : Loc) : ev G C (.o1 o a) loc = (match ev G C a loc with
    | some (r, l1) => match res l1 r with
      | some d => match ap1 o d with
        | some r' => some (r', l1)
        | none => none
      | none => none
    | none => none) := by
  first | (rw [ev]; done) | (rw [ev]; rfl)
@[simp] theorem qev_o2 (G : Nat → D) (C : CallS) (o : O2) (a b : ME) (loc : Loc) : ev G C (.o2 o a b) loc = (match ev G C a loc with
    | some (r, l1) => match ev G C b l1 with
      | some (r', l2) => match res l2 (sett r), res l2 r' with
        | some d, some e => match ap2 o d e with
          | some r'' => some (r'', l2)
          | none => none
        | _, _ => none
      | none => none
    | none => none) := by
  first | (rw [ev]; done) | (rw [ev]; rfl)
@[simp] theorem qev_ch (G : Nat → D) (C : CallS) (o o' : O2) (a b c : ME) (loc : Loc) : ev G C (.ch o o' a b c) loc = (match ev G C a loc with
    | some (ra, l1) => match ev G C b l1 with
      | some (rb, l2) => match res l2 (sett ra), res l2 rb with
        | some d, some e => match ap2 o d e with
          | some (.val (.bl true)) => match ev G C c l2 with
            | some (rc, l3) => match res l3 (sett rb), res l3 rc with
              | some e', some f => match ap2 o' e' f with
                | some (.val (.bl k)) => some (.val (.bl k), l3)
                | _ => none
              | _, _ => none
            | none => none
          | some (.val (.bl false)) => some (.val (.bl false), l2)
          | _ => none
        | _, _ => none
      | none => none
    | none => none) := by
  first | (rw [ev]; done) | (rw [ev]; rfl)
@[simp] theorem qev_sl (G : Nat → D) (C : CallS) (a : ME) (lo hi : Option ME) (loc : Loc) : ev G C (.sl a lo hi) loc = (match ev G C a loc with
    | some (r, l1) => match evo G C lo l1 with
      | some (x, l2) => match evo G C hi l2 with
        | some (y, l3) => match res l3 (sett r) with
          | some d => match apSl d x y with
            | some r' => some (r', l3)
            | none => none
          | none => none
        | none => none
      | none => none
    | none => none) := by
  first | (rw [ev]; done) | (rw [ev]; rfl)
@[simp] theorem qev_and (G : Nat → D) (C : CallS) (a b : ME) (loc : Loc) : ev G C (.and a b) loc = (match ev G C a loc with
    | some (r, l1) => match res l1 r with
      | some d => match truth d with
        | some true => ev G C b l1
        | some false => some (sett r, l1)
        | none => none
      | none => none
    | none => none) := by
  first | (rw [ev]; done) | (rw [ev]; rfl)
@[simp] theorem qev_or (G : Nat → D) (C : CallS) (a b : ME) (loc : Loc) : ev G C (.or a b) loc = (match ev G C a loc with
    | some (r, l1) => match res l1 r with
      | some d => match truth d with
        | some true => some (sett r, l1)
        | some false => ev G C b l1
        | none => none
      | none => none
    | none => none) := by
  first | (rw [ev]; done) | (rw [ev]; rfl)
@[simp] theorem qev_not (G : Nat → D) (C : CallS) (a : ME) (loc : Loc) : ev G C (.not a) loc = (match ev G C a loc with
    | some (r, l1) => match res l1 r with
      | some d => match truth d with
        | some k => some (.val (.bl (!k)), l1)
        | none => none
      | none => none
    | none => none) := by
  first | (rw [ev]; done) | (rw [ev]; rfl)
@[simp] theorem qev_ite (G : Nat → D) (C : CallS) (c a b : ME) (loc : Loc) : ev G C (.ite c a b) loc = (match ev G C c loc with
    | some (r, l1) => match res l1 r with
      | some d => match truth d with
        | some true => ev G C a l1
        | some false => ev G C b l1
        | none => none
      | none => none
    | none => none) := by
  first | (rw [ev]; done) | (rw [ev]; rfl)
@[simp] theorem qev_call (G : Nat → D) (C : CallS) (f : Nat) (as : List ME) (loc : Loc) : ev G C (.call f as) loc = (match evs G C as loc with
    | some (rs, l1) => doCall C f rs l1
    | none => none) := by
  first | (rw [ev]; done) | (rw [ev]; rfl)
@[simp] theorem qev_callK (G : Nat → D) (C : CallS) (f : Nat) (as ks : List ME) (p : List Nat) (loc : Loc) : ev G C (.callK f as ks p) loc = (match evs G C as loc with
    | some (rs, l1) => match evs G C ks l1 with
      | some (ss, l2) => match perm p (rs ++ ss) with
        | some ts => doCall C f ts l2
        | none => none
      | none => none
    | none => none) := by
  first | (rw [ev]; done) | (rw [ev]; rfl)
theorem qev_lc (G : Nat → D) (C : CallS) (own : List Nat) (p : Pat) (it : IT) (cs : List ME) (elt : ME) (loc : Loc) : ev G C (.lc own p it cs elt) loc = (match evI G C it loc with
    | some (items, l1) => if own.all (freeD l1) && decide (items.length ≤ big) then
        match lcRun own p (evC G C cs) (ev G C elt) items (wipeL l1 own) with
        | some (ds, l2) => some (.new ds, back l1 l2 own)
        | none => none
      else none
    | none => none) := by
  first | (rw [ev]; done) | (rw [ev]; rfl)
@[simp] theorem qev_app (G : Nat → D) (C : CallS) (i : Nat) (e : ME) (loc : Loc) : ev G C (.app i e) loc = (match loc[i]? with
    | some (.own _ _) => match ev G C e loc with
      | some (r, l1) => match toVal r, l1[i]? with
        | some d, some (.own b ds) => if ds.length < big then some (.val .non, l1.set i (.own b (ds ++ [d]))) else none
        | _, _ => none
      | none => none
    | _ => none) := by
  first | (rw [ev]; done) | (rw [ev]; rfl)
@[simp] theorem qev_pop (G : Nat → D) (C : CallS) (i : Nat) (loc : Loc) : ev G C (.pop i) loc = (match loc[i]? with
    | some (.own b ds) => match ds.getLast? with
      | some d => some (.val d, loc.set i (.own b ds.dropLast))
      | none => none
    | _ => none) := by
  first | (rw [ev]; done) | (rw [ev]; rfl)
@[simp] theorem qev_popAt (G : Nat → D) (C : CallS) (i : Nat) (e : ME) (loc : Loc) : ev G C (.popAt i e) loc = (match loc[i]? with
    | some (.own _ _) => match ev G C e loc with
      | some (.val (.int k), l1) => match l1[i]? with
        | some (.own b ds) => if 0 ≤ k ∧ k < 2 ^ 62 then match ds[k.toNat]? with
          | some d => some (.val d, l1.set i (.own b (ds.eraseIdx k.toNat)))
          | none => none
          else none
        | _ => none
      | _ => none
    | _ => none) := by
  first | (rw [ev]; done) | (rw [ev]; rfl)
@[simp] theorem qev_clear (G : Nat → D) (C : CallS) (i : Nat) (loc : Loc) : ev G C (.clear i) loc = (match loc[i]? with
    | some (.own b ds) => some (.val .non, loc.set i (.own b []))
    | _ => none) := by
  first | (rw [ev]; done) | (rw [ev]; rfl)
@[simp] theorem qev_ext (G : Nat → D) (C : CallS) (i : Nat) (e : ME) (loc : Loc) : ev G C (.ext i e) loc = (match loc[i]? with
    | some (.own _ _) => match ev G C e loc with
      | some (r, l1) => match toVal r, l1[i]? with
        | some (.lst es), some (.own b ds) => if ds.length + es.length ≤ big then some (.val .non, l1.set i (.own b (ds ++ es))) else none
        | _, _ => none
      | none => none
    | _ => none) := by
  first | (rw [ev]; done) | (rw [ev]; rfl)
@[simp] theorem qev_sIx (G : Nat → D) (C : CallS) (i : Nat) (e : ME) (loc : Loc) : ev G C (.sIx i e) loc = (match loc[i]? with
    | some (.scr ns) => match ev G C e loc with
      | some (.val (.int k), l1) => if 0 ≤ k then match ns[k.toNat]? with
        | some n => some (.val (.int n), l1)
        | none => none
        else none
      | _ => none
    | _ => none) := by
  first | (rw [ev]; done) | (rw [ev]; rfl)
@[simp] theorem qev_sLen (G : Nat → D) (C : CallS) (i : Nat) (loc : Loc) : ev G C (.sLen i) loc = (match loc[i]? with
    | some (.scr ns) => some (.val (.int ns.length), loc)
    | _ => none) := by
  first | (rw [ev]; done) | (rw [ev]; rfl)
@[simp] theorem qev_sSl (G : Nat → D) (C : CallS) (i : Nat) (lo hi : Option ME) (loc : Loc) : ev G C (.sSl i lo hi) loc = (match loc[i]? with
    | some (.scr ns) => match evo G C lo loc with
      | some (x, l1) => match evo G C hi l1 with
        | some (y, l2) => some (.new (cutD (ns.map D.int) x y), l2)
        | none => none
      | none => none
    | _ => none) := by
  first | (rw [ev]; done) | (rw [ev]; rfl)
@[simp] theorem qev_lc2 (G : Nat → D) (C : CallS) (own : List Nat) (p : Pat) (it : IT) (cs : List ME) (own1 : List Nat) (p1 : Pat) (it1 : IT) (cs1 : List ME) (elt : ME) (loc : Loc) : ev G C (.lc2 own p it cs own1 p1 it1 cs1 elt) loc = (match evI G C it loc with
    | some (items, l1) => if own.all (freeD l1) && decide (items.length ≤ big) then
        match lc2Run own p (evC G C cs) own1 (evI G C it1) p1 (evC G C cs1) (ev G C elt) items (wipeL l1 own) with
        | some (ds, l2) => if ds.length ≤ big then some (.new ds, back l1 l2 own) else none
        | none => none
      else none
    | none => none) := by
  first | (rw [ev]; done) | (rw [ev]; rfl)
@[simp] theorem qev_mxD (G : Nat → D) (C : CallS) (mx : Bool) (a d : ME) (loc : Loc) : ev G C (.mxD mx a d) loc = (match ev G C a loc with
    | some (r, l1) => match ev G C d l1 with
      | some (r', l2) => match res l2 (sett r), toVal r' with
        | some x, some y => match seqInts x with
          | some [] => some (.val y, l2)
          | some (n :: ms) => some (.val (.int (mxI mx n ms)), l2)
          | none => none
        | _, _ => none
      | none => none
    | none => none) := by
  first | (rw [ev]; done) | (rw [ev]; rfl)
@[simp] theorem qev_thaw (G : Nat → D) (C : CallS) (i : Nat) (a : ME) (loc : Loc) : ev G C (.thaw i a) loc = (match ev G C a loc with
    | some (r, l1) => match loc[i]?, l1[i]? with
      | some (.own false _), some (.dat (.lst ds)) => if noLsts ds && thawR r && thawB i 0 loc l1 then some (r, l1.set i (.own false ds)) else none
      | _, _ => none
    | none => none) := by
  first | (rw [ev]; done) | (rw [ev]; rfl)
@[simp] theorem qev_fld (G : Nat → D) (C : CallS) (tb : List (Nat × Nat)) (a : ME) (loc : Loc) : ev G C (.fld tb a) loc = (match ev G C a loc with
    | some (.val (.ins c fs), l1) => match tb.lookup c with
      | some k => match fs[k]? with
        | some d => some (.val d, l1)
        | none => none
      | none => none
    | _ => none) := by
  first | (rw [ev]; done) | (rw [ev]; rfl)
@[simp] theorem qev_meth (G : Nat → D) (C : CallS) (tb : List (Nat × Nat)) (a : ME) (as : List ME) (loc : Loc) : ev G C (.meth tb a as) loc = (match ev G C a loc with
    | some (.val (.ins c fs), l1) => match tb.lookup c with
      | some f => match evs G C as l1 with
        | some (rs, l2) => doCall C f (.val (.ins c fs) :: rs) l2
        | none => none
      | none => none
    | _ => none) := by
  first | (rw [ev]; done) | (rw [ev]; rfl)
@[simp] theorem qev_make (G : Nat → D) (C : CallS) (c f : Nat) (as : List ME) (loc : Loc) : ev G C (.make c f as) loc = (match evs G C as loc with
    | some (rs, l1) => match argsOf l1 rs with
      | some a => if allDat a then
          match C f a with
          | some (.val (.ins c' ds), _) => if c' = c then some (.val (.ins c ds), l1) else none
          | _ => none
        else none
      | none => none
    | none => none) := by
  first | (rw [ev]; done) | (rw [ev]; rfl)
@[simp] theorem qev_ch3 (G : Nat → D) (C : CallS) (o o' o'' : O2) (a b c d : ME) (loc : Loc) : ev G C (.ch3 o o' o'' a b c d) loc = (match ev G C a loc with
    | some (ra, l1) => match ev G C b l1 with
      | some (rb, l2) => match res l2 (sett ra), res l2 rb with
        | some x, some y => match ap2 o x y with
          | some (.val (.bl true)) => match ev G C c l2 with
            | some (rc, l3) => match res l3 (sett rb), res l3 rc with
              | some y', some z => match ap2 o' y' z with
                | some (.val (.bl true)) => match ev G C d l3 with
                  | some (rd, l4) => match res l4 (sett rc), res l4 rd with
                    | some z', some w => match ap2 o'' z' w with
                      | some (.val (.bl k)) => some (.val (.bl k), l4)
                      | _ => none
                    | _, _ => none
                  | none => none
                | some (.val (.bl false)) => some (.val (.bl false), l3)
                | _ => none
              | _, _ => none
            | none => none
          | some (.val (.bl false)) => some (.val (.bl false), l2)
          | _ => none
        | _, _ => none
      | none => none
    | none => none) := by
  first | (rw [ev]; done) | (rw [ev]; rfl)
@[simp] theorem qev_ins0 (G : Nat → D) (C : CallS) (i : Nat) (e : ME) (loc : Loc) : ev G C (.ins0 i e) loc = (match loc[i]? with
    | some (.own _ _) => match ev G C e loc with
      | some (r, l1) => match toVal r, l1[i]? with
        | some d, some (.own b ds) => if ds.length < big then some (.val .non, l1.set i (.own b (d :: ds))) else none
        | _, _ => none
      | none => none
    | _ => none) := by
  first | (rw [ev]; done) | (rw [ev]; rfl)
@[simp] theorem qev_dropc (G : Nat → D) (C : CallS) (a : ME) (loc : Loc) : ev G C (.dropc a) loc = (match ev G C a loc with
    | some (.new _, l1) => some (.val .non, l1)
    | _ => none) := by
  first | (rw [ev]; done) | (rw [ev]; rfl)
@[simp] theorem qev_dropa (G : Nat → D) (C : CallS) (a b : ME) (loc : Loc) : ev G C (.dropa a b) loc = (match ev G C a loc with
    | some (.new ds, l1) => match ev G C b l1 with
      | some (r, l2) => match toVal r with
        | some _ => if ds.length < big then some (.val .non, l2) else none
        | none => none
      | none => none
    | _ => none) := by
  first | (rw [ev]; done) | (rw [ev]; rfl)
@[simp] theorem qev_eqI (G : Nat → D) (C : CallS) (ne : Bool) (tb : List (Nat × Nat)) (a b : ME) (loc : Loc) : ev G C (.eqI ne tb a b) loc = (match ev G C a loc with
    | some (.val (.ins c fs), l1) => match ev G C b l1 with
      | some (.val (.ins c' gs), l2) => match tb.lookup c with
        | some f => if c' = c then
            match doCall C f [.val (.ins c fs), .val (.ins c gs)] l2 with
            | some (.val (.bl x), l3) => some (.val (.bl (if ne then !x else x)), l3)
            | _ => none
          else none
        | none => none
      | _ => none
    | _ => none) := by
  first | (rw [ev]; done) | (rw [ev]; rfl)
@[simp] theorem qev_mn3 (G : Nat → D) (C : CallS) (a b c : ME) (loc : Loc) : ev G C (.mn3 a b c) loc = (match ev G C a loc with
    | some (.val (.int i), l1) => match ev G C b l1 with
      | some (.val (.int j), l2) => match ev G C c l2 with
        | some (.val (.int k), l3) => some (.val (.int (if k < (if j < i then j else i) then k else (if j < i then j else i))), l3)
        | _ => none
      | _ => none
    | _ => none) := by
  first | (rw [ev]; done) | (rw [ev]; rfl)
@[simp] theorem qev_callD (G : Nat → D) (C : CallS) (f : Nat) (as : List ME) (ds : List Df) (loc : Loc) : ev G C (.callD f as ds) loc = (match evs G C as loc with
    | some (rs, l1) => doCall C f (rs ++ ds.map fun d => R.val d.d) l1
    | none => none) := by
  first | (rw [ev]; done) | (rw [ev]; rfl)
@[simp] theorem qev_bad (G : Nat → D) (C : CallS)  (loc : Loc) : ev G C (.bad) loc = (none) := by
  first | (rw [ev]; done) | (rw [ev]; rfl)
@[simp] theorem qev_lrng (G : Nat → D) (C : CallS) (it : IT) (loc : Loc) : ev G C (.lrng it) loc = (match evI G C it loc with
    | some (ds, l1) => if ds.length ≤ big then some (.new ds, l1) else none
    | none => none) := by
  first | (rw [ev]; done) | (rw [ev]; rfl)
@[simp] theorem qevs_nil (G : Nat → D) (C : CallS)  (loc : Loc) : evs G C [] loc = (some ([], loc)) := by
  first | (rw [evs]; done) | (rw [evs]; rfl)
@[simp] theorem qevs_cons (G : Nat → D) (C : CallS) (e : ME) (es : List ME) (loc : Loc) : evs G C (e :: es) loc = (match ev G C e loc with
    | some (r, l1) => match evs G C es l1 with
      | some (rs, l2) => some (sett r :: rs, l2)
      | none => none
    | none => none) := by
  first | (rw [evs]; done) | (rw [evs]; rfl)
@[simp] theorem qevo_none (G : Nat → D) (C : CallS)  (loc : Loc) : evo G C none loc = (some (none, loc)) := by
  first | (rw [evo]; done) | (rw [evo]; rfl)
@[simp] theorem qevo_some (G : Nat → D) (C : CallS) (e : ME) (loc : Loc) : evo G C (some e) loc = (match ev G C e loc with
    | some (.val (.int i), l1) => some (some i, l1)
    | _ => none) := by
  first | (rw [evo]; done) | (rw [evo]; rfl)
@[simp] theorem qevC_nil (G : Nat → D) (C : CallS)  (loc : Loc) : evC G C [] loc = (some (true, loc)) := by
  first | (rw [evC]; done) | (rw [evC]; rfl)
@[simp] theorem qevC_cons (G : Nat → D) (C : CallS) (e : ME) (es : List ME) (loc : Loc) : evC G C (e :: es) loc = (match ev G C e loc with
    | some (r, l1) => match res l1 r with
      | some d => match truth d with
        | some true => evC G C es l1
        | some false => some (false, l1)
        | none => none
      | none => none
    | none => none) := by
  first | (rw [evC]; done) | (rw [evC]; rfl)
@[simp] theorem qevI_seq (G : Nat → D) (C : CallS) (a : ME) (loc : Loc) : evI G C (.seq a) loc = (match ev G C a loc with
    | some (r, l1) => match toVal r with
      | some (.lst ds) => some (ds, l1)
      | _ => none
    | none => none) := by
  first | (rw [evI]; done) | (rw [evI]; rfl)
@[simp] theorem qevI_tpl (G : Nat → D) (C : CallS) (a : ME) (loc : Loc) : evI G C (.tpl a) loc = (match ev G C a loc with
    | some (r, l1) => match toVal r with
      | some (.tup ds) => some (ds, l1)
      | _ => none
    | none => none) := by
  first | (rw [evI]; done) | (rw [evI]; rfl)
@[simp] theorem qevI_rng1 (G : Nat → D) (C : CallS) (a : ME) (loc : Loc) : evI G C (.rng1 a) loc = (match ev G C a loc with
    | some (r, l1) => match r with
      | .val (.int n) => if small n then some (rngL 0 n.toNat, l1) else none
      | _ => none
    | none => none) := by
  first | (rw [evI]; done) | (rw [evI]; rfl)
@[simp] theorem qevI_rng2 (G : Nat → D) (C : CallS) (a b : ME) (loc : Loc) : evI G C (.rng2 a b) loc = (match ev G C a loc with
    | some (r, l1) => match ev G C b l1 with
      | some (r', l2) => match r, r' with
        | .val (.int m), .val (.int n) => if small m && small n then some (rngL m (n - m).toNat, l2) else none
        | _, _ => none
      | none => none
    | none => none) := by
  first | (rw [evI]; done) | (rw [evI]; rfl)
@[simp] theorem qevI_enum (G : Nat → D) (C : CallS) (a : ME) (loc : Loc) : evI G C (.enum a) loc = (match ev G C a loc with
    | some (r, l1) => match toVal r with
      | some (.lst ds) => some (enumL 0 ds, l1)
      | _ => none
    | none => none) := by
  first | (rw [evI]; done) | (rw [evI]; rfl)
@[simp] theorem qevI_zip (G : Nat → D) (C : CallS) (a b : ME) (loc : Loc) : evI G C (.zip a b) loc = (match ev G C a loc with
    | some (r, l1) => match ev G C b l1 with
      | some (r', l2) => match toVal r, toVal r' with
        | some (.lst ds), some (.lst es) => some (zipL ds es, l2)
        | some (.tup ds), some (.tup es) => some (zipL ds es, l2)
        | _, _ => none
      | none => none
    | none => none) := by
  first | (rw [evI]; done) | (rw [evI]; rfl)
@[simp] theorem qsx_set (G : Nat → D) (C : CallS) (F : Nat) (p : Pat) (e : ME) (loc : Loc) : sx G C F (.set p e) loc = (match ev G C e loc with
    | some (r, l1) => match toVal r with
      | some d => (bindP p d l1).map .nx
      | none => none
    | none => none) := by
  first | (rw [sx]; done) | (rw [sx]; rfl)
@[simp] theorem qsx_own (G : Nat → D) (C : CallS) (F : Nat) (i : Nat) (e : ME) (loc : Loc) : sx G C F (.own i e) loc = (match ev G C e loc with
    | some (.new ds, l1) => (put l1 i (.own false ds)).map .nx
    | _ => none) := by
  first | (rw [sx]; done) | (rw [sx]; rfl)
@[simp] theorem qsx_par (G : Nat → D) (C : CallS) (F : Nat) (i j : Nat) (a b : ME) (loc : Loc) : sx G C F (.par i j a b) loc = (match ev G C a loc with
    | some (r, l1) => match ev G C b l1 with
      | some (r', l2) => match toVal r, toVal r' with
        | some d, some e => match put l2 i (.dat d) with
          | some l3 => (put l3 j (.dat e)).map .nx
          | none => none
        | _, _ => none
      | none => none
    | none => none) := by
  first | (rw [sx]; done) | (rw [sx]; rfl)
@[simp] theorem qsx_aug (G : Nat → D) (C : CallS) (F : Nat) (i : Nat) (o : O2) (e : ME) (loc : Loc) : sx G C F (.aug i o e) loc = (match loc[i]? with
    | some (.dat d) => match ev G C e loc with
      | some (r, l1) => match d, toVal r with
        | .int x, some (.int y) => match o with
          | .add => (put l1 i (.dat (.int (x + y)))).map .nx
          | .sub => (put l1 i (.dat (.int (x - y)))).map .nx
          | _ => none
        | _, _ => none
      | none => none
    | _ => none) := by
  first | (rw [sx]; done) | (rw [sx]; rfl)
@[simp] theorem qsx_ex (G : Nat → D) (C : CallS) (F : Nat) (e : ME) (loc : Loc) : sx G C F (.ex e) loc = (match ev G C e loc with
    | some (_, l1) => some (.nx l1)
    | none => none) := by
  first | (rw [sx]; done) | (rw [sx]; rfl)
@[simp] theorem qsx_ret (G : Nat → D) (C : CallS) (F : Nat) (e : ME) (loc : Loc) : sx G C F (.ret e) loc = (match ev G C e loc with
    | some (r, l1) => match r with
      | .ref _ => none
      | r => some (.rt r l1)
    | none => none) := by
  first | (rw [sx]; done) | (rw [sx]; rfl)
@[simp] theorem qsx_retN (G : Nat → D) (C : CallS) (F : Nat)  (loc : Loc) : sx G C F (.retN) loc = (some (.rt (.val .non) loc)) := by
  first | (rw [sx]; done) | (rw [sx]; rfl)
@[simp] theorem qsx_ite (G : Nat → D) (C : CallS) (F : Nat) (c : ME) (t f : List MS) (loc : Loc) : sx G C F (.ite c t f) loc = (match evT G C c loc with
    | some (true, l1) => sxs G C F t l1
    | some (false, l1) => sxs G C F f l1
    | none => none) := by
  first | (rw [sx]; done) | (rw [sx]; rfl)
@[simp] theorem qsx_loop (G : Nat → D) (C : CallS) (F : Nat) (p : Pat) (it : IT) (b : List MS) (loc : Loc) : sx G C F (.loop p it b) loc = (match evI G C it loc with
    | some (items, l1) => forRun p (sxs G C F b) items l1
    | none => none) := by
  first | (rw [sx]; done) | (rw [sx]; rfl)
@[simp] theorem qsx_wh (G : Nat → D) (C : CallS) (F : Nat) (c : ME) (b : List MS) (loc : Loc) : sx G C F (.wh c b) loc = (whRun (evT G C c) (sxs G C F b) F loc) := by
  first | (rw [sx]; done) | (rw [sx]; rfl)
@[simp] theorem qsx_put (G : Nat → D) (C : CallS) (F : Nat) (i : Nat) (k e : ME) (loc : Loc) : sx G C F (.put i k e) loc = (match ev G C e loc with
    | some (r, l1) => match l1[i]? with
      | some (.own _ _) => match ev G C k l1 with
        | some (.val (.int n), l2) => match toVal r, l2[i]? with
          | some d, some (.own b ds) => if 0 ≤ n ∧ n < ds.length then some (.nx (l2.set i (.own b (ds.set n.toNat d)))) else none
          | _, _ => none
        | _ => none
      | _ => none
    | none => none) := by
  first | (rw [sx]; done) | (rw [sx]; rfl)
@[simp] theorem qsx_pass (G : Nat → D) (C : CallS) (F : Nat)  (loc : Loc) : sx G C F (.pass) loc = (some (.nx loc)) := by
  first | (rw [sx]; done) | (rw [sx]; rfl)
@[simp] theorem qsx_brk (G : Nat → D) (C : CallS) (F : Nat)  (loc : Loc) : sx G C F (.brk) loc = (some (.bk loc)) := by
  first | (rw [sx]; done) | (rw [sx]; rfl)
@[simp] theorem qsx_cont (G : Nat → D) (C : CallS) (F : Nat)  (loc : Loc) : sx G C F (.cont) loc = (some (.ct loc)) := by
  first | (rw [sx]; done) | (rw [sx]; rfl)
@[simp] theorem qsx_bad (G : Nat → D) (C : CallS) (F : Nat)  (loc : Loc) : sx G C F (.bad) loc = (none) := by
  first | (rw [sx]; done) | (rw [sx]; rfl)
@[simp] theorem qsx_retO (G : Nat → D) (C : CallS) (F : Nat) (i : Nat) (loc : Loc) : sx G C F (.retO i) loc = (match loc[i]? with
    | some (.own false ds) => some (.rt (.new ds) (loc.set i .none))
    | some (.dat d) => some (.rt (.val d) loc)
    | _ => none) := by
  first | (rw [sx]; done) | (rw [sx]; rfl)
@[simp] theorem qsx_forget (G : Nat → D) (C : CallS) (F : Nat) (is : List Nat) (loc : Loc) : sx G C F (.forget is) loc = (if is.all (free loc) then some (.nx (wipeL loc is)) else none) := by
  first | (rw [sx]; done) | (rw [sx]; rfl)
@[simp] theorem qsx_par3 (G : Nat → D) (C : CallS) (F : Nat) (i j k : Nat) (a b c : ME) (loc : Loc) : sx G C F (.par3 i j k a b c) loc = (match ev G C a loc with
    | some (ra, l1) => match ev G C b l1 with
      | some (rb, l2) => match ev G C c l2 with
        | some (rc, l3) => match toVal ra, toVal rb, toVal rc with
          | some x, some y, some z => match put l3 i (.dat x) with
            | some l4 => match put l4 j (.dat y) with
              | some l5 => (put l5 k (.dat z)).map .nx
              | none => none
            | none => none
          | _, _, _ => none
        | none => none
      | none => none
    | none => none) := by
  first | (rw [sx]; done) | (rw [sx]; rfl)
@[simp] theorem qsx_augL (G : Nat → D) (C : CallS) (F : Nat) (i : Nat) (e : ME) (loc : Loc) : sx G C F (.augL i e) loc = (match loc[i]? with
    | some (.own _ _) => match ev G C e loc with
      | some (r, l1) => match toVal r, l1[i]? with
        | some (.lst es), some (.own b ds) => if ds.length + es.length ≤ big then some (.nx (l1.set i (.own b (ds ++ es)))) else none
        | _, _ => none
      | none => none
    | _ => none) := by
  first | (rw [sx]; done) | (rw [sx]; rfl)
@[simp] theorem qsxs_nil (G : Nat → D) (C : CallS) (F : Nat)  (loc : Loc) : sxs G C F [] loc = (some (.nx loc)) := by
  first | (rw [sxs]; done) | (rw [sxs]; rfl)
@[simp] theorem qsxs_cons (G : Nat → D) (C : CallS) (F : Nat) (s : MS) (ss : List MS) (loc : Loc) : sxs G C F (s :: ss) loc = (match sx G C F s loc with
    | some (.nx l1) => sxs G C F ss l1
    | o => o) := by
  first | (rw [sxs]; done) | (rw [sxs]; rfl)
end MP

namespace MP
namespace X
open PySem L2
/-! statements, step by step -/
section
variable {G : Nat → D} {C : CallS} {F : Nat} {loc l1 l2 l3 : Loc} {r r' : R} {d d' : D} {e a b c : ME} {p : Pat} {i j : Nat} {o : Out} {s : MS} {ss t f : List MS} {k : Bool} {ds es : List D}
theorem s_set (h1 : ev G C e loc = some (r, l1)) (h2 : toVal r = some d) (h3 : bindP p d l1 = some l2) : sx G C F (.set p e) loc = some (.nx l2) := by
  rw [sx, h1]; simp only [h2, h3, Option.map_some]
theorem s_own (h1 : ev G C e loc = some (.new ds, l1)) (h3 : put l1 i (.own false ds) = some l2) : sx G C F (.own i e) loc = some (.nx l2) := by
  rw [sx, h1]; simp only [h3, Option.map_some]
theorem s_ret (h1 : ev G C e loc = some (r, l1)) (h2 : ∀ i, r ≠ .ref i) : sx G C F (.ret e) loc = some (.rt r l1) := by
  rw [sx, h1]
  cases r with
  | ref i => exact absurd rfl (h2 i)
  | val d => rfl
  | new ds => rfl
theorem s_retV (h1 : ev G C e loc = some (.val d, l1)) : sx G C F (.ret e) loc = some (.rt (.val d) l1) := s_ret h1 (fun _ z => by cases z)
theorem s_retL (h1 : ev G C e loc = some (.new ds, l1)) : sx G C F (.ret e) loc = some (.rt (.new ds) l1) := s_ret h1 (fun _ z => by cases z)
theorem s_ex (h1 : ev G C e loc = some (r, l1)) : sx G C F (.ex e) loc = some (.nx l1) := by
  rw [sx, h1]
theorem s_T (h1 : evT G C c loc = some (true, l1)) (h2 : sxs G C F t l1 = some o) : sx G C F (.ite c t f) loc = some o := by
  rw [sx, h1]; exact h2
theorem s_F (h1 : evT G C c loc = some (false, l1)) (h2 : sxs G C F f l1 = some o) : sx G C F (.ite c t f) loc = some o := by
  rw [sx, h1]; exact h2
theorem s_loop {it : IT} (h1 : evI G C it loc = some (ds, l1)) (h2 : forRun p (sxs G C F t) ds l1 = some o) : sx G C F (.loop p it t) loc = some o := by
  rw [sx, h1]; exact h2
theorem ss_nx (h1 : sx G C F s loc = some (.nx l1)) (h2 : sxs G C F ss l1 = some o) : sxs G C F (s :: ss) loc = some o := by
  rw [sxs, h1]; exact h2
theorem ss_rt (h1 : sx G C F s loc = some (.rt r l1)) : sxs G C F (s :: ss) loc = some (.rt r l1) := by
  rw [sxs, h1]
theorem ss_rt_of (h1 : sx G C F s loc = some (.rt r l1)) : sxs G C F (s :: ss) loc = some (.rt r l1) := ss_rt h1
theorem ss_nil : sxs G C F [] loc = some (.nx loc) := by rw [sxs]
theorem run_rt {fd : FD} {a a' : Loc} (h0 : a.length = fd.arity) (h1 : sxs G C F fd.body (a ++ List.replicate (fd.slots - fd.arity) .none) = some (.rt r l1)) (h2 : lent a l1 = some a') : runFD G C F fd a = some (r, a') := by
  unfold runFD
  rw [if_pos h0, h1]
  simp only [h2]
theorem run_nx {fd : FD} {a a' : Loc} (h0 : a.length = fd.arity) (h1 : sxs G C F fd.body (a ++ List.replicate (fd.slots - fd.arity) .none) = some (.nx l1)) (h2 : lent a l1 = some a') : runFD G C F fd a = some (.val .non, a') := by
  unfold runFD
  rw [if_pos h0, h1]
  simp only [h2]
/-! expressions, step by step -/
theorem e_r0 (h : loc[i]? = some (.dat d)) : ev G C (.r i) loc = some (.val d, loc) := by rw [ev, h]
theorem e_rO {b : Bool} (h : loc[i]? = some (.own b ds)) : ev G C (.r i) loc = some (.ref i, loc) := by rw [ev, h]
theorem e_fz0 (h : loc[i]? = some (.dat d)) : ev G C (.fz i) loc = some (.val d, loc) := by rw [ev, h]
theorem e_o1 {o : O1} (h1 : ev G C a loc = some (r, l1)) (h2 : res l1 r = some d) (h3 : ap1 o d = some r') : ev G C (.o1 o a) loc = some (r', l1) := by
  rw [ev, h1]; simp only [h2, h3]
theorem e_o2 {o : O2} {r1 r2 : R} (h1 : ev G C a loc = some (r1, l1)) (h2 : ev G C b l1 = some (r2, l2)) (h3 : res l2 (sett r1) = some d) (h4 : res l2 r2 = some d') (h5 : ap2 o d d' = some r) : ev G C (.o2 o a b) loc = some (r, l2) := by
  rw [ev, h1]; simp only [h2, h3, h4, h5]
/-- operands that are plain -/
theorem e_p1 {o : O1} (h1 : ev G C a loc = some (.val d, l1)) (h3 : ap1 o d = some r') : ev G C (.o1 o a) loc = some (r', l1) := e_o1 h1 rfl h3
theorem e_p2 {o : O2} (h1 : ev G C a loc = some (.val d, l1)) (h2 : ev G C b l1 = some (.val d', l2)) (h5 : ap2 o d d' = some r) : ev G C (.o2 o a b) loc = some (r, l2) := e_o2 h1 h2 rfl rfl h5
theorem e_n1 {o : O1} (h1 : ev G C a loc = some (.new ds, l1)) (h3 : ap1 o (.lst ds) = some r') : ev G C (.o1 o a) loc = some (r', l1) := e_o1 h1 rfl h3
theorem e_call {as : List ME} {rs : List R} {fn : Nat} (h1 : evs G C as loc = some (rs, l1)) (h2 : doCall C fn rs l1 = some (r, l2)) : ev G C (.call fn as) loc = some (r, l2) := by
  rw [ev, h1]; exact h2
theorem es_nil : evs G C [] loc = some ([], loc) := by rw [evs]
theorem es_cons {as : List ME} {rs : List R} (h1 : ev G C a loc = some (r, l1)) (h2 : evs G C as l1 = some (rs, l2)) : evs G C (a :: as) loc = some (sett r :: rs, l2) := by
  rw [evs, h1]; simp only [h2]
theorem es_p {as : List ME} {rs : List R} (h1 : ev G C a loc = some (.val d, l1)) (h2 : evs G C as l1 = some (rs, l2)) : evs G C (a :: as) loc = some (.val d :: rs, l2) := es_cons h1 h2
theorem e_callD {as : List ME} {fn : Nat} (h1 : evs G C as loc = some (ds.map R.val, l1)) (h2 : Ans C fn ds r) : ev G C (.call fn as) loc = some (r, l1) := e_call h1 (h2.call _)
theorem e_k : ev G C (.c d) loc = some (.val d, loc) := by rw [ev]
theorem e_callK {as ks : List ME} {rs zs ts : List R} {fn : Nat} {pm : List Nat} (h1 : evs G C as loc = some (rs, l1)) (h2 : evs G C ks l1 = some (zs, l2)) (h3 : perm pm (rs ++ zs) = some ts) (h4 : doCall C fn ts l2 = some (r, l3)) : ev G C (.callK fn as ks pm) loc = some (r, l3) := by
  rw [ev, h1]; simp only [h2, h3, h4]
theorem e_callKD {as ks : List ME} {rs zs : List R} {fn : Nat} {pm : List Nat} (h1 : evs G C as loc = some (rs, l1)) (h2 : evs G C ks l1 = some (zs, l2)) (h3 : perm pm (rs ++ zs) = some (ds.map R.val)) (h4 : Ans C fn ds r) : ev G C (.callK fn as ks pm) loc = some (r, l2) := e_callK h1 h2 h3 (h4.call _)
theorem e_lst {as : List ME} {rs : List R} (h1 : evs G C as loc = some (rs, l1)) (h2 : rs.mapM toVal = some ds) : ev G C (.lst as) loc = some (.new ds, l1) := by
  rw [ev, h1]; simp only [h2]
theorem e_tup {as : List ME} {rs : List R} (h1 : evs G C as loc = some (rs, l1)) (h2 : rs.mapM toVal = some ds) : ev G C (.tup as) loc = some (.val (.tup ds), l1) := by
  rw [ev, h1]; simp only [h2]
theorem t_bl {k : Bool} (h1 : ev G C a loc = some (.val (.bl k), l1)) : evT G C a loc = some (k, l1) := evT_bl h1
/-- a name is bound -/
def fdS (s : Slot) : Prop := s = .none ∨ ∃ d, s = .dat d
theorem bind_v (h : ∃ s, loc[i]? = some s ∧ fdS s) : bindP (.v i) d loc = some (loc.set i (.dat d)) := by
  obtain ⟨s, h1, h2⟩ := h
  have e : free loc i = true := by
    unfold free
    rw [h1]
    rcases h2 with rfl | ⟨x, rfl⟩ <;> rfl
  show put loc i (.dat d) = _
  unfold put
  rw [if_pos e]
def frS (s : Slot) : Prop := fdS s ∨ ∃ ds, s = .own false ds
theorem put_fr {s' : Slot} (h : ∃ s, loc[i]? = some s ∧ frS s) : put loc i s' = some (loc.set i s') := by
  obtain ⟨s, h1, h2⟩ := h
  have e : free loc i = true := by
    unfold free
    rw [h1]
    rcases h2 with (rfl | ⟨x, rfl⟩) | ⟨x, rfl⟩ <;> rfl
  unfold put
  rw [if_pos e]
theorem freeD_fd (h : ∃ s, loc[i]? = some s ∧ fdS s) : freeD loc i = true := by
  obtain ⟨s, h1, h2⟩ := h
  unfold freeD
  rw [h1]
  rcases h2 with rfl | ⟨x, rfl⟩ <;> rfl
theorem fdS_dat {d : D} : fdS (.dat d) := .inr ⟨d, rfl⟩
theorem i_seq (h1 : ev G C a loc = some (r, l1)) (h2 : toVal r = some (.lst ds)) : evI G C (.seq a) loc = some (ds, l1) := by
  rw [evI, h1]; simp only [h2]
theorem i_tpl (h1 : ev G C a loc = some (r, l1)) (h2 : toVal r = some (.tup ds)) : evI G C (.tpl a) loc = some (ds, l1) := by
  rw [evI, h1]; simp only [h2]
theorem i_r1 {n : Int} (h1 : ev G C a loc = some (.val (.int n), l1)) (h2 : small n = true) : evI G C (.rng1 a) loc = some (rngL 0 n.toNat, l1) := by
  rw [evI, h1]; simp only [h2, if_true]
theorem i_r2 {m n : Int} (h1 : ev G C a loc = some (.val (.int m), l1)) (h2 : ev G C b l1 = some (.val (.int n), l2)) (h3 : small m = true) (h4 : small n = true) : evI G C (.rng2 a b) loc = some (rngL m (n - m).toNat, l2) := by
  rw [evI, h1]; simp only [h2, h3, h4, Bool.and_self, if_true]
end
end X
end MP

/-! typed mirrors: what a def answers, as a plain function with values or none; and that the evaluator answers so -/
namespace MP
open PySem L2 X
/-! ### steps that may answer none -/
section
variable {α β γ δ ε : Type}
def bnd (o : Option α) (f : α → Option β) : Option β := match o with
  | some a => f a
  | none => none
def bnd2 (o : Option (α × β)) (f : α → β → Option γ) : Option γ := match o with
  | some (a, b) => f a b
  | none => none
def bnd3 (o : Option (α × β × γ)) (f : α → β → γ → Option δ) : Option δ := match o with
  | some (a, b, c) => f a b c
  | none => none
def bnd4 (o : Option (α × β × γ × δ)) (f : α → β → γ → δ → Option ε) : Option ε := match o with
  | some (a, b, c, d) => f a b c d
  | none => none
theorem bnd_some {o : Option α} {f : α → Option β} {b : β} (h : bnd o f = some b) : ∃ a, o = some a ∧ f a = some b := by
  cases o with
  | none => cases h
  | some a => exact ⟨a, rfl, h⟩
theorem bnd2_some {o : Option (α × β)} {f : α → β → Option γ} {c : γ} (h : bnd2 o f = some c) : ∃ a b, o = some (a, b) ∧ f a b = some c := by
  cases o with
  | none => cases h
  | some a => exact ⟨a.1, a.2, rfl, h⟩
theorem bnd3_some {o : Option (α × β × γ)} {f : α → β → γ → Option δ} {c : δ} (h : bnd3 o f = some c) : ∃ a b e, o = some (a, b, e) ∧ f a b e = some c := by
  cases o with
  | none => cases h
  | some a => exact ⟨a.1, a.2.1, a.2.2, rfl, h⟩
theorem bnd4_some {o : Option (α × β × γ × δ)} {f : α → β → γ → δ → Option ε} {c : ε} (h : bnd4 o f = some c) : ∃ a b e d, o = some (a, b, e, d) ∧ f a b e d = some c := by
  cases o with
  | none => cases h
  | some a => exact ⟨a.1, a.2.1, a.2.2.1, a.2.2.2, rfl, h⟩
theorem cond_some {c : Bool} {x y : Option α} {a : α} (h : cond c x y = some a) : (c = true ∧ x = some a) ∨ (c = false ∧ y = some a) := by
  cases c
  · exact .inr ⟨rfl, h⟩
  · exact .inl ⟨rfl, h⟩
/-- how a piece of a body ends -/
inductive Flow (σ ρ : Type) where
  | nx (s : σ)
  | bk (s : σ)
  | rt (r : ρ)
def lcT (f : α → Option (Option β)) : List α → Option (List β)
  | [] => some []
  | a :: as => match f a with
    | some (some b) => match lcT f as with
      | some bs => some (b :: bs)
      | none => none
    | some none => lcT f as
    | none => none
def lcG (f : α → Option (Option β)) (as : List α) : Option (List β) := match Nat.ble as.length 1000000 with
  | true => lcT f as
  | false => none
/-- the same with lists that are changed -/
def lcS {σ : Type} (f : σ → α → Option (Option β × σ)) : σ → List α → Option (List β × σ)
  | s, [] => some ([], s)
  | s, a :: as => match f s a with
    | some (some b, s') => match lcS f s' as with
      | some (bs, s'') => some (b :: bs, s'')
      | none => none
    | some (none, s') => lcS f s' as
    | none => none
def lcGS {σ : Type} (f : σ → α → Option (Option β × σ)) (s : σ) (as : List α) : Option (List β × σ) := match Nat.ble as.length 1000000 with
  | true => lcS f s as
  | false => none
end
/-! ### ints, quick in the kernel -/
def ltI (i j : Int) : Bool := match i, j with
  | .ofNat a, .ofNat b => Nat.blt a b
  | .ofNat _, .negSucc _ => false
  | .negSucc _, .ofNat _ => true
  | .negSucc a, .negSucc b => Nat.blt b a
def leI (i j : Int) : Bool := match i, j with
  | .ofNat a, .ofNat b => Nat.ble a b
  | .ofNat _, .negSucc _ => false
  | .negSucc _, .ofNat _ => true
  | .negSucc a, .negSucc b => Nat.ble b a
def eqI (i j : Int) : Bool := match i, j with
  | .ofNat a, .ofNat b => Nat.beq a b
  | .ofNat _, .negSucc _ => false
  | .negSucc _, .ofNat _ => false
  | .negSucc a, .negSucc b => Nat.beq a b
theorem ltI_eq (i j : Int) : ltI i j = decide (i < j) := by
  rw [Bool.eq_iff_iff, decide_eq_true_eq]
  cases i <;> cases j <;> simp only [ltI, Nat.blt_eq, Int.ofNat_eq_natCast, Int.negSucc_eq] <;> simp <;> omega
theorem leI_eq (i j : Int) : leI i j = decide (i ≤ j) := by
  rw [Bool.eq_iff_iff, decide_eq_true_eq]
  cases i <;> cases j <;> simp only [leI, Nat.ble_eq, Int.ofNat_eq_natCast, Int.negSucc_eq] <;> simp <;> omega
theorem eqI_iff (i j : Int) : eqI i j = true ↔ i = j := by
  cases i <;> cases j <;> simp only [eqI, Nat.beq_eq, Int.ofNat_eq_natCast, Int.negSucc_eq, Bool.false_eq_true, false_iff] <;> omega
theorem eqI_eq (i j : Int) : eqI i j = (i == j) := by
  rw [Bool.eq_iff_iff, beq_iff_eq, eqI_iff]
theorem eqI_self (i : Int) : eqI i i = true := (eqI_iff i i).mpr rfl
def frN {α : Type} (n : Nat) (k : Nat → α) : α := match n with
  | 0 => k 0
  | m + 1 => k (m + 1)
theorem frN_eq {α : Type} (n : Nat) (k : Nat → α) : frN n k = k n := by cases n <;> rfl
def frI {α : Type} (i : Int) (k : Int → α) : α := match i with
  | .ofNat n => frN n fun n => k (.ofNat n)
  | .negSucc n => frN n fun n => k (.negSucc n)
theorem frI_eq {α : Type} (i : Int) (k : Int → α) : frI i k = k i := by cases i <;> simp only [frI, frN_eq]
def posI (j : Int) : Bool := match j with
  | .ofNat n => Nat.blt 0 n
  | .negSucc _ => false
theorem posI_iff {j : Int} : posI j = true ↔ 0 < j := by
  cases j <;> simp only [posI, Nat.blt_eq, Int.ofNat_eq_natCast, Int.negSucc_eq] <;> simp <;> omega
def absN (i : Int) : Nat := match i with
  | .ofNat n => n
  | .negSucc n => n + 1
theorem absN_eq (i : Int) : absN i = i.natAbs := by cases i <;> rfl
def mulQ (i j : Int) : Bool := Nat.blt (absN i) 18446744073709551616 || Nat.blt (absN j) 18446744073709551616 || Nat.blt (Nat.log2 (absN i) + Nat.log2 (absN j)) 1000000
def modT (i j : Int) : Option Int := match posI j with
  | true => frI (i % j) some
  | false => none
def fdivT (i j : Int) : Option Int := match posI j && Nat.blt (Nat.log2 (absN j)) 9000 with
  | true => frI (i / j) some
  | false => none
def mulT (i j : Int) : Option Int := match mulQ i j with
  | true => frI (i * j) some
  | false => none
def powT (i j : Int) : Option Int := match leI 0 j && leI j 1000000 && Nat.blt (absN i) 18446744073709551616 with
  | true => some (i ^ j.toNat)
  | false => none
def shlT (i j : Int) : Option Int := match leI 0 j && leI j 1000000 && Nat.blt (absN i) 18446744073709551616 with
  | true => some (i * 2 ^ j.toNat)
  | false => none
def shrT (i j : Int) : Option Int := match leI 0 j with
  | true => some (i / 2 ^ j.toNat)
  | false => none
def dmodT (i j : Int) : Option (Int × Int) := match posI j && Nat.blt (Nat.log2 (absN j)) 9000 with
  | true => some (i / j, i % j)
  | false => none
def maxI (i j : Int) : Int := match ltI i j with
  | true => j
  | false => i
def minI (i j : Int) : Int := match ltI j i with
  | true => j
  | false => i
def absI (i : Int) : Int := match i with
  | .ofNat n => .ofNat n
  | .negSucc n => .ofNat (n + 1)
def smallQ (i : Int) : Bool := Nat.blt (absN i) 4611686018427387904
def ixT {α : Type} (xs : List α) (i : Int) : Option α := match i with
  | .ofNat n => xs[n]?
  | .negSucc n => match Nat.ble (n + 1) xs.length with
    | true => xs[xs.length - (n + 1)]?
    | false => none
def addL {α : Type} (xs ys : List α) : Option (List α) := match Nat.ble (xs.length + ys.length) 1000000 with
  | true => some (xs ++ ys)
  | false => none
def repL {α : Type} (xs : List α) (k : Int) : Option (List α) := match leI 0 k && leI k 1000000 && Nat.ble (xs.length * k.toNat) 1000000 with
  | true => some (List.replicate k.toNat xs).flatten
  | false => none
def rngI (lo : Int) : Nat → List Int
  | 0 => []
  | n + 1 => lo :: rngI (lo + 1) n
def rng1T (n : Int) : Option (List Int) := match smallQ n with
  | true => some (rngI 0 n.toNat)
  | false => none
def rng2T (m n : Int) : Option (List Int) := match smallQ m && smallQ n with
  | true => some (rngI m (n - m).toNat)
  | false => none
def fitL {α : Type} (xs : List α) : Option (List α) := match Nat.ble xs.length 1000000 with
  | true => some xs
  | false => none
def enumI {α : Type} : Int → List α → List (Int × α)
  | _, [] => []
  | k, x :: xs => (k, x) :: enumI (k + 1) xs
def cutT {α : Type} (xs : List α) (lo hi : Option Int) : List α := (xs.drop (HT.sIx xs.length 0 lo)).take (HT.sIx xs.length xs.length hi - HT.sIx xs.length 0 lo)
def appT {α : Type} (xs : List α) (x : α) : Option (List α) := match Nat.blt xs.length 1000000 with
  | true => some (xs ++ [x])
  | false => none
def extT {α : Type} (xs ys : List α) : Option (List α) := match Nat.ble (xs.length + ys.length) 1000000 with
  | true => some (xs ++ ys)
  | false => none
def popT {α : Type} (xs : List α) : Option (α × List α) := match xs.getLast? with
  | some x => some (x, xs.dropLast)
  | none => none
def popAtT {α : Type} (xs : List α) (k : Int) : Option (α × List α) := match leI 0 k && ltI k 4611686018427387904 with
  | true => match xs[k.toNat]? with
    | some x => some (x, xs.eraseIdx k.toNat)
    | none => none
  | false => none
def putT {α : Type} (xs : List α) (k : Int) (x : α) : Option (List α) := match leI 0 k && ltI k xs.length with
  | true => some (xs.set k.toNat x)
  | false => none
def optE {α : Type} (F : α → D) : Option α → D
  | none => .non
  | some x => F x
def insI (x : Int) : List Int → List Int
  | [] => [x]
  | y :: ys => match leI x y with
    | true => x :: y :: ys
    | false => y :: insI x ys
def sortI : List Int → List Int
  | [] => []
  | x :: xs => insI x (sortI xs)
def ltLI : List Int → List Int → Bool
  | [], ys => match ys with | [] => false | _ :: _ => true
  | x :: xs, ys => match ys with | [] => false | y :: ys => match eqI x y with
    | true => ltLI xs ys
    | false => ltI x y
def insL (x : List Int) : List (List Int) → List (List Int)
  | [] => [x]
  | y :: ys => match ltLI y x with
    | true => y :: insL x ys
    | false => x :: y :: ys
def sortL : List (List Int) → List (List Int)
  | [] => []
  | x :: xs => insL x (sortL xs)
def sortLT (ts : List (List Int)) : Option (List (List Int)) := match ts.all (fun t => !t.isEmpty) || Nat.ble ts.length 1 with
  | true => some (sortL ts)
  | false => none
def mxT (mx : Bool) (d : Int) (xs : List Int) : Int := match xs with
  | [] => d
  | n :: ms => mxI mx n ms
def sumI : List Int → Int
  | [] => 0
  | x :: xs => x + sumI xs
def eqLs {α : Type} (e : α → α → Bool) : List α → List α → Bool
  | [], ys => match ys with | [] => true | _ => false
  | x :: xs, ys => match ys with | y :: ys => e x y && eqLs e xs ys | [] => false
def eqO {α : Type} (e : α → α → Bool) : Option α → Option α → Bool
  | none, y => match y with | none => true | _ => false
  | some x, y => match y with | some y => e x y | none => false
/-! ### that the evaluator's operations answer so -/
theorem decide_of {p : Prop} [Decidable p] {b : Bool} (h : b = decide p) : decide p = b := h.symm
theorem p_lt (i j : Int) : ap2 .lt (.int i) (.int j) = some (.val (.bl (ltI i j))) := by rw [ltI_eq]; rfl
theorem p_le (i j : Int) : ap2 .le (.int i) (.int j) = some (.val (.bl (leI i j))) := by rw [leI_eq]; rfl
theorem p_gt (i j : Int) : ap2 .gt (.int i) (.int j) = some (.val (.bl (ltI j i))) := by rw [ltI_eq]; rfl
theorem p_ge (i j : Int) : ap2 .ge (.int i) (.int j) = some (.val (.bl (leI j i))) := by rw [leI_eq]; rfl
theorem p_mod {i j k : Int} (h : modT i j = some k) : ap2 .mod (.int i) (.int j) = some (.val (.int k)) := by
  unfold modT at h
  split at h
  · rename_i h1
    rw [frI_eq] at h
    cases h
    show (if _ then _ else _) = _
    rw [if_pos (posI_iff.mp h1)]
  · cases h
theorem fdivQ_ok {j : Int} (h : (posI j && Nat.blt (Nat.log2 (absN j)) 9000) = true) : fdivOk j = true := by
  simp only [Bool.and_eq_true, posI_iff, Nat.blt_eq, absN_eq] at h
  unfold fdivOk
  simp only [Bool.and_eq_true, decide_eq_true_eq]
  exact h
theorem p_fdiv {i j k : Int} (h : fdivT i j = some k) : ap2 .fdiv (.int i) (.int j) = some (.val (.int k)) := by
  unfold fdivT at h
  split at h
  · rename_i h1
    rw [frI_eq] at h
    cases h
    show (if _ then _ else _) = _
    rw [if_pos (fdivQ_ok h1)]
  · cases h
theorem p_dmod {i j : Int} {k : Int × Int} (h : dmodT i j = some k) : ap2 .dmod (.int i) (.int j) = some (.val (.tup [.int k.1, .int k.2])) := by
  unfold dmodT at h
  split at h
  · rename_i h1
    cases h
    show (if _ then _ else _) = _
    rw [if_pos (fdivQ_ok h1)]
  · cases h
theorem mulQ_ok {i j : Int} (h : mulQ i j = true) : mulOk i j = true := by
  unfold mulQ at h
  simp only [Bool.or_eq_true, Nat.blt_eq, absN_eq] at h
  unfold mulOk
  simp only [Bool.or_eq_true, Bool.and_eq_true, decide_eq_true_eq]
  rcases h with (h | h) | h
  · exact .inl (.inl ⟨by omega, by omega⟩)
  · exact .inl (.inr ⟨by omega, by omega⟩)
  · exact .inr h
theorem p_mul {i j k : Int} (h : mulT i j = some k) : ap2 .mul (.int i) (.int j) = some (.val (.int k)) := by
  unfold mulT at h
  split at h
  · rename_i h1
    rw [frI_eq] at h
    cases h
    show (if _ then _ else _) = _
    rw [if_pos (mulQ_ok h1)]
  · cases h
theorem powQ_ok {i j : Int} (h : (leI 0 j && leI j 1000000 && Nat.blt (absN i) 18446744073709551616) = true) : powOk i j = true := by
  simp only [Bool.and_eq_true, leI_eq, decide_eq_true_eq, Nat.blt_eq, absN_eq] at h
  unfold powOk
  simp only [Bool.and_eq_true, decide_eq_true_eq]
  exact ⟨h.1, by omega⟩
theorem p_pow {i j k : Int} (h : powT i j = some k) : ap2 .pow (.int i) (.int j) = some (.val (.int k)) := by
  unfold powT at h
  split at h
  · rename_i h1
    cases h
    show (if _ then _ else _) = _
    rw [if_pos (powQ_ok h1)]
  · cases h
theorem p_shl {i j k : Int} (h : shlT i j = some k) : ap2 .shl (.int i) (.int j) = some (.val (.int k)) := by
  unfold shlT at h
  split at h
  · rename_i h1
    cases h
    show (if _ then _ else _) = _
    rw [if_pos (powQ_ok h1)]
  · cases h
theorem p_shr {i j k : Int} (h : shrT i j = some k) : ap2 .shr (.int i) (.int j) = some (.val (.int k)) := by
  unfold shrT at h
  split at h
  · rename_i h1
    cases h
    rw [leI_eq, decide_eq_true_eq] at h1
    show (if _ then _ else _) = _
    rw [if_pos h1]
  · cases h
theorem p_max (i j : Int) : ap2 .max2 (.int i) (.int j) = some (.val (.int (maxI i j))) := by
  show some (MP.R.val (.int (if j > i then j else i))) = _
  unfold maxI
  by_cases h : j > i
  · rw [if_pos h, show ltI i j = true from by rw [ltI_eq]; exact decide_eq_true h]
  · rw [if_neg h, show ltI i j = false from by rw [ltI_eq]; exact decide_eq_false h]
theorem p_eqN {α : Type} {F : α → D} (xs : List α) : ap2 .eqN (.lst (xs.map F)) (.lst []) = some (.val (.bl xs.isEmpty)) := by
  cases xs <;> rfl
theorem p_neN {α : Type} {F : α → D} (xs : List α) : ap2 .neN (.lst (xs.map F)) (.lst []) = some (.val (.bl (!xs.isEmpty))) := by
  cases xs <;> rfl
theorem p_min (i j : Int) : ap2 .min2 (.int i) (.int j) = some (.val (.int (minI i j))) := by
  show some (MP.R.val (.int (if j < i then j else i))) = _
  unfold minI
  by_cases h : j < i
  · rw [if_pos h, show ltI j i = true from by rw [ltI_eq]; exact decide_eq_true h]
  · rw [if_neg h, show ltI j i = false from by rw [ltI_eq]; exact decide_eq_false h]
theorem p_abs (i : Int) : ap1 .abs (.int i) = some (.val (.int (absI i))) := by
  show some (MP.R.val (.int (if i < 0 then -i else i))) = _
  cases i with
  | ofNat n => rw [if_neg (by simp)]; rfl
  | negSucc n => rw [if_pos (by simp [Int.negSucc_lt_zero])]; rfl
theorem smallQ_ok {i : Int} (h : smallQ i = true) : small i = true := by
  unfold smallQ at h
  rw [Nat.blt_eq, absN_eq] at h
  unfold small
  simp only [Bool.and_eq_true, decide_eq_true_eq]
  omega
theorem seqAt_T {α : Type} {F : α → D} {xs : List α} {i : Int} {x : α} (h : ixT xs i = some x) : seqAt (xs.map F) i = some (F x) := by
  unfold ixT at h
  unfold seqAt
  split at h
  · rename_i n
    rw [if_pos (show (0 : Int) ≤ Int.ofNat n from Int.natCast_nonneg n), show ((Int.ofNat n).toNat) = n from rfl, List.getElem?_map, h]
    rfl
  · rename_i n
    split at h
    · rename_i h1
      rw [Nat.ble_eq] at h1
      rw [if_neg (by omega), if_pos (by rw [List.length_map]; omega), List.length_map, show (Int.negSucc n + (xs.length : Int)).toNat = xs.length - (n + 1) from by omega, List.getElem?_map, h]
      rfl
    · cases h
theorem p_ixL {α : Type} {F : α → D} {xs : List α} {i : Int} {x : α} (h : ixT xs i = some x) : ap2 .ix (.lst (xs.map F)) (.int i) = some (.val (F x)) := by
  show (seqAt _ _).map _ = _
  rw [seqAt_T h]; rfl
theorem p_ixT {α : Type} {F : α → D} {xs : List α} {i : Int} {x : α} (h : ixT xs i = some x) : ap2 .ix (.tup (xs.map F)) (.int i) = some (.val (F x)) := by
  show (seqAt _ _).map _ = _
  rw [seqAt_T h]; rfl
theorem p_ixLD {xs : List D} {i : Int} {x : D} (h : ixT xs i = some x) : ap2 .ix (.lst xs) (.int i) = some (.val x) := by
  have := p_ixL (F := id) h
  rwa [List.map_id] at this
theorem p_ixTD {xs : List D} {i : Int} {x : D} (h : ixT xs i = some x) : ap2 .ix (.tup xs) (.int i) = some (.val x) := by
  have := p_ixT (F := id) h
  rwa [List.map_id] at this
theorem p_len {α : Type} (F : α → D) (xs : List α) : ap1 .len (.lst (xs.map F)) = some (.val (.int (xs.length : Int))) := by
  show some (MP.R.val (.int ((List.map F xs).length : Nat))) = _
  rw [List.length_map]
theorem p_lenT {α : Type} (F : α → D) (xs : List α) : ap1 .len (.tup (xs.map F)) = some (.val (.int (xs.length : Int))) := by
  show some (MP.R.val (.int ((List.map F xs).length : Nat))) = _
  rw [List.length_map]
theorem addL_ok {α : Type} {xs ys zs : List α} (h : addL xs ys = some zs) : zs = xs ++ ys ∧ xs.length + ys.length ≤ big := by
  unfold addL at h
  split at h
  · rename_i h1
    cases h
    exact ⟨rfl, Nat.ble_eq.mp h1⟩
  · cases h
theorem p_addL {α : Type} {F : α → D} {xs ys zs : List α} (h : addL xs ys = some zs) : ap2 .add (.lst (xs.map F)) (.lst (ys.map F)) = some (.new (zs.map F)) := by
  obtain ⟨rfl, h1⟩ := addL_ok h
  show (if _ then _ else _) = _
  rw [if_pos (by rw [List.length_map, List.length_map]; exact h1), List.map_append]
theorem p_addT {α : Type} {F : α → D} {xs ys zs : List α} (h : addL xs ys = some zs) : ap2 .add (.tup (xs.map F)) (.tup (ys.map F)) = some (.val (.tup (zs.map F))) := by
  obtain ⟨rfl, h1⟩ := addL_ok h
  show (if _ then _ else _) = _
  rw [if_pos (by rw [List.length_map, List.length_map]; exact h1), List.map_append]
theorem p_addLD {xs ys zs : List D} (h : addL xs ys = some zs) : ap2 .add (.lst xs) (.lst ys) = some (.new zs) := by
  have := p_addL (F := id) h
  rwa [List.map_id, List.map_id, List.map_id] at this
theorem p_addTD {xs ys zs : List D} (h : addL xs ys = some zs) : ap2 .add (.tup xs) (.tup ys) = some (.val (.tup zs)) := by
  have := p_addT (F := id) h
  rwa [List.map_id, List.map_id, List.map_id] at this
theorem p_repL {α : Type} {F : α → D} {xs zs : List α} {k : Int} (h : repL xs k = some zs) : ap2 .mul (.lst (xs.map F)) (.int k) = some (.new (zs.map F)) := by
  unfold repL at h
  split at h
  · rename_i h1
    cases h
    simp only [Bool.and_eq_true, leI_eq, decide_eq_true_eq, Nat.ble_eq] at h1
    obtain ⟨⟨h2, h3⟩, h4⟩ := h1
    show (if _ then _ else _) = _
    rw [if_pos ⟨h2, by show k ≤ ((1000000 : Nat) : Int); omega, by rw [List.length_map]; exact h4⟩, List.map_flatten, List.map_replicate]
  · cases h
theorem i_len {α : Type} {xs : List α} {b : Bool} (h : Nat.ble xs.length 1000000 = b) (hb : b = true) : xs.length ≤ big := by
  subst hb
  exact Nat.ble_eq.mp h
theorem rngI_map : ∀ (n : Nat) (lo : Int), rngL lo n = (rngI lo n).map D.int
  | 0, _ => rfl
  | n + 1, lo => by rw [rngL, rngI, List.map_cons, rngI_map n]
theorem enumI_map {α : Type} (F : α → D) : ∀ (xs : List α) (k : Int), enumL k (xs.map F) = (enumI k xs).map fun p => D.tup [.int p.1, F p.2]
  | [], _ => rfl
  | x :: xs, k => by rw [List.map_cons, enumL, enumI, List.map_cons, enumI_map F xs]
theorem enumI_mapD : ∀ (xs : List D) (k : Int), enumL k xs = (enumI k xs).map fun p => D.tup [.int p.1, p.2]
  | [], _ => rfl
  | x :: xs, k => by rw [enumL, enumI, List.map_cons, enumI_mapD xs]
theorem zipL_map {α β : Type} (F : α → D) (K : β → D) : ∀ (xs : List α) (ys : List β), zipL (xs.map F) (ys.map K) = (xs.zip ys).map fun p => D.tup [F p.1, K p.2]
  | [], ys => rfl
  | x :: xs, [] => rfl
  | x :: xs, y :: ys => by rw [List.map_cons, List.map_cons, zipL, List.zip_cons_cons, List.map_cons, zipL_map F K xs ys]
theorem zipL_mapD : ∀ (xs ys : List D), zipL xs ys = (xs.zip ys).map fun p => D.tup [p.1, p.2]
  | [], ys => rfl
  | x :: xs, [] => rfl
  | x :: xs, y :: ys => by rw [zipL, List.zip_cons_cons, List.map_cons, zipL_mapD xs ys]
theorem cutT_map {α : Type} (F : α → D) (xs : List α) (lo hi : Option Int) : cutD (xs.map F) lo hi = (cutT xs lo hi).map F := by
  unfold cutD cutT
  rw [List.length_map, List.map_take, List.map_drop]
theorem cutT_D (xs : List D) (lo hi : Option Int) : cutD xs lo hi = cutT xs lo hi := rfl
theorem insI_eq (x : Int) : ∀ ys, insI x ys = insS x ys
  | [] => rfl
  | y :: ys => by
    unfold insI insS
    by_cases h : x ≤ y
    · rw [if_pos h, show leI x y = true from by rw [leI_eq]; exact decide_eq_true h]
    · rw [if_neg h, show leI x y = false from by rw [leI_eq]; exact decide_eq_false h, insI_eq x ys]
theorem sortI_eq : ∀ xs, sortI xs = sortS xs
  | [] => rfl
  | x :: xs => by rw [sortI, sortS, sortI_eq xs, insI_eq]
theorem ltLI_eq : ∀ xs ys, ltLI xs ys = ltL xs ys
  | [], [] => rfl
  | [], _ :: _ => rfl
  | _ :: _, [] => rfl
  | x :: xs, y :: ys => by
    unfold ltLI ltL
    by_cases h : x = y
    · subst h
      simp only [eqI_self, if_true, ltLI_eq xs ys]
    · have : eqI x y = false := by
        cases he : eqI x y with
        | false => rfl
        | true => exact absurd ((eqI_iff x y).mp he) h
      simp only [this, if_neg h, ltI_eq]
theorem insL_eq (x : List Int) : ∀ ys, insL x ys = insT x ys
  | [] => rfl
  | y :: ys => by
    unfold insL insT
    rw [ltLI_eq]
    cases h : ltL y x with
    | true => simp only [if_true, insL_eq x ys]
    | false => simp only [Bool.false_eq_true, if_false]
theorem sortL_eq : ∀ xs, sortL xs = sortT xs
  | [] => rfl
  | x :: xs => by rw [sortL, sortT, sortL_eq xs, insL_eq]
theorem p_sortI (xs : List Int) : ap1 .sorted (.lst (xs.map D.int)) = some (.new ((sortI xs).map D.int)) := by
  simp only [ap1, ints_map, sortI_eq]
theorem ints_none_tup : ∀ {ts : List (List Int)}, ts ≠ [] → ints? (ts.map tupD) = none
  | [], h => absurd rfl h
  | t :: ts, _ => by simp only [List.map_cons, ints?, tupD]
theorem itups_map : ∀ ts : List (List Int), itups? (ts.map tupD) = some ts
  | [] => rfl
  | t :: ts => by simp only [List.map_cons, itups?, tupD, itups_map ts, ints_map, Option.map_some]
theorem ints_none_lst : ∀ {ts : List (List Int)}, ts ≠ [] → ints? (ts.map lstD) = none
  | [], h => absurd rfl h
  | t :: ts, _ => by simp only [List.map_cons, ints?, lstD]
theorem itups_none_lst : ∀ {ts : List (List Int)}, ts ≠ [] → itups? (ts.map lstD) = none
  | [], h => absurd rfl h
  | t :: ts, _ => by simp only [List.map_cons, itups?, lstD]
theorem ilsts_map : ∀ ts : List (List Int), ilsts? (ts.map lstD) = some ts
  | [] => rfl
  | t :: ts => by simp only [List.map_cons, ilsts?, lstD, ilsts_map ts, ints_map, Option.map_some]
theorem p_sortT {ts us : List (List Int)} (h : sortLT ts = some us) : ap1 .sorted (.lst (ts.map tupD)) = some (.new (us.map tupD)) := by
  unfold sortLT at h
  split at h
  · rename_i h1
    cases h
    cases ts with
    | nil => rfl
    | cons t ts =>
      have hs : srtOk (t :: ts) = true := by
        unfold srtOk
        simp only [Bool.or_eq_true, decide_eq_true_eq, Nat.ble_eq] at h1 ⊢
        exact h1
      simp only [ap1, ints_none_tup (List.cons_ne_nil t ts), itups_map, hs, if_true, sortL_eq]
  · cases h
theorem p_sortLL (ts : List (List Int)) : ap1 .sorted (.lst (ts.map lstD)) = some (.new ((sortL ts).map lstD)) := by
  cases ts with
  | nil => rfl
  | cons t ts => simp only [ap1, ints_none_lst (List.cons_ne_nil t ts), itups_none_lst (List.cons_ne_nil t ts), ilsts_map, sortL_eq]
theorem sumI_eq : ∀ xs : List Int, xs.sum = sumI xs
  | [] => rfl
  | x :: xs => by rw [List.sum_cons, sumI, sumI_eq xs]
theorem p_sumL (xs : List Int) : ap1 .sum (.lst (xs.map D.int)) = some (.val (.int (sumI xs))) := by
  simp only [ap1, ints_map, Option.map_some, sumI_eq]
theorem p_sumT (xs : List Int) : ap1 .sum (.tup (xs.map D.int)) = some (.val (.int (sumI xs))) := by
  simp only [ap1, ints_map, Option.map_some, sumI_eq]
theorem bls_map : ∀ ns : List Bool, bls? (ns.map D.bl) = some ns
  | [] => rfl
  | n :: ns => by simp only [List.map_cons, bls?, bls_map ns]
theorem p_all (xs : List Bool) : ap1 .all (.lst (xs.map D.bl)) = some (.val (.bl (xs.all id))) := by
  simp only [ap1, bls_map, Option.map_some]
theorem p_any (xs : List Bool) : ap1 .any (.lst (xs.map D.bl)) = some (.val (.bl (xs.any id))) := by
  simp only [ap1, bls_map, Option.map_some]
/-! equality -/
structure EqE {α : Type} (n : Nat) (F : α → D) (e : α → α → Bool) : Prop where
  pl : ∀ x, D.plain n (F x) = true
  be : ∀ x y, D.beq (F x) (F y) = e x y
theorem EqE.up {α : Type} {n : Nat} {F : α → D} {e : α → α → Bool} (h : EqE n F e) (p : ∀ x, D.plain n (F x) = true → D.plain (n + 1) (F x) = true) : EqE (n + 1) F e := ⟨fun x => p x (h.pl x), h.be⟩
theorem eqe_int {n : Nat} : EqE n D.int eqI := ⟨fun x => plain_int n x, fun x y => (eqI_eq x y).symm⟩
theorem eqe_bl {n : Nat} : EqE n D.bl (fun x y => x == y) := ⟨fun x => plain_bl n x, fun x y => rfl⟩
theorem eqe_non {n : Nat} : EqE n (fun _ : Unit => D.non) (fun _ _ => true) := ⟨fun x => by cases n <;> rfl, fun x y => rfl⟩
section
variable {α β γ δ : Type} {n : Nat} {F : α → D} {K : β → D} {e : α → α → Bool} {k : β → β → Bool} {F3 : γ → D} {e3 : γ → γ → Bool} {F4 : δ → D} {e4 : δ → δ → Bool}
theorem eqe_pls (h : EqE n F e) : ∀ xs : List α, D.plains n (xs.map F) = true
  | [] => by rw [List.map_nil, D.plains]
  | x :: xs => by rw [List.map_cons, D.plains, h.pl, eqe_pls h xs]; rfl
theorem eqe_bes (h : EqE n F e) : ∀ xs ys : List α, D.beqs (xs.map F) (ys.map F) = eqLs e xs ys
  | [], [] => rfl
  | [], _ :: _ => rfl
  | _ :: _, [] => rfl
  | x :: xs, y :: ys => by rw [List.map_cons, List.map_cons, D.beqs, h.be, eqe_bes h xs ys]; rfl
theorem eqe_lst (h : EqE n F e) : EqE (n + 1) (fun xs : List α => D.lst (xs.map F)) (eqLs e) := ⟨fun xs => eqe_pls h xs, fun xs ys => eqe_bes h xs ys⟩
theorem eqe_tup (h : EqE n F e) : EqE (n + 1) (fun xs : List α => D.tup (xs.map F)) (eqLs e) := ⟨fun xs => eqe_pls h xs, fun xs ys => eqe_bes h xs ys⟩
theorem eqe_opt (h : EqE n F e) (hn : ∀ x, F x ≠ .non ∧ D.beq (F x) .non = false ∧ D.beq .non (F x) = false) : EqE n (optE F) (eqO e) := ⟨fun x => by
    cases x with
    | none => cases n <;> rfl
    | some x => exact h.pl x, fun x y => by
    cases x with
    | none =>
      cases y with
      | none => rfl
      | some y => exact (hn y).2.2
    | some x =>
      cases y with
      | none => exact (hn x).2.1
      | some y => exact h.be x y⟩
theorem eqe_p2 (h : EqE n F e) (g : EqE n K k) : EqE (n + 1) (fun x : α × β => D.tup [F x.1, K x.2]) (fun x y => e x.1 y.1 && (k x.2 y.2 && true)) :=
  ⟨fun x => by show (D.plain n (F x.1) && (D.plain n (K x.2) && true)) = true; rw [h.pl, g.pl]; rfl, fun x y => by show (D.beq _ _ && (D.beq _ _ && true)) = _; rw [h.be, g.be]⟩
theorem eqe_p3 (h : EqE n F e) (g : EqE n K k) (h3 : EqE n F3 e3) : EqE (n + 1) (fun x : α × β × γ => D.tup [F x.1, K x.2.1, F3 x.2.2]) (fun x y => e x.1 y.1 && (k x.2.1 y.2.1 && (e3 x.2.2 y.2.2 && true))) :=
  ⟨fun x => by show (D.plain n (F x.1) && (D.plain n (K x.2.1) && (D.plain n (F3 x.2.2) && true))) = true; rw [h.pl, g.pl, h3.pl]; rfl, fun x y => by show (D.beq _ _ && (D.beq _ _ && (D.beq _ _ && true))) = _; rw [h.be, g.be, h3.be]⟩
theorem p_eq (h : EqE 8 F e) (x y : α) : ap2 .eq (F x) (F y) = some (.val (.bl (e x y))) := by
  show (if _ then _ else _) = _
  rw [h.pl, h.pl, if_pos (by rfl), h.be]
theorem p_ne (h : EqE 8 F e) (x y : α) : ap2 .ne (F x) (F y) = some (.val (.bl (!e x y))) := by
  show (if _ then _ else _) = _
  rw [h.pl, h.pl, if_pos (by rfl), h.be]
theorem any_beq (h : EqE n F e) (x : α) : ∀ ys : List α, ((ys.map F).any fun y => D.beq y (F x)) = ys.any (fun y => e y x)
  | [] => rfl
  | y :: ys => by rw [List.map_cons, List.any_cons, List.any_cons, h.be, any_beq h x ys]
theorem p_inL (h : EqE 8 F e) (x : α) (ys : List α) : ap2 .isin (F x) (.lst (ys.map F)) = some (.val (.bl (ys.any fun y => e y x))) := by
  show (if _ then _ else _) = _
  rw [h.pl, eqe_pls h, if_pos (by rfl), any_beq h]
theorem p_inT (h : EqE 8 F e) (x : α) (ys : List α) : ap2 .isin (F x) (.tup (ys.map F)) = some (.val (.bl (ys.any fun y => e y x))) := by
  show (if _ then _ else _) = _
  rw [h.pl, eqe_pls h, if_pos (by rfl), any_beq h]
theorem p_ninL (h : EqE 8 F e) (x : α) (ys : List α) : ap2 .notin (F x) (.lst (ys.map F)) = some (.val (.bl (!ys.any fun y => e y x))) := by
  show (if _ then _ else _) = _
  rw [h.pl, eqe_pls h, if_pos (by rfl), any_beq h]
theorem p_ninT (h : EqE 8 F e) (x : α) (ys : List α) : ap2 .notin (F x) (.tup (ys.map F)) = some (.val (.bl (!ys.any fun y => e y x))) := by
  show (if _ then _ else _) = _
  rw [h.pl, eqe_pls h, if_pos (by rfl), any_beq h]
end
theorem p_eqS (x y : Str) : ap2 .eq (.str x) (.str y) = some (.val (.bl (decide (x = y)))) := by
  show (if _ then _ else _) = _
  split <;> rfl
theorem p_neS (x y : Str) : ap2 .ne (.str x) (.str y) = some (.val (.bl (!decide (x = y)))) := by
  show (if _ then _ else _) = _
  split <;> rfl
/-- data compared, whatever they are -/
def eqD (a b : D) : Option Bool := match D.plain 8 a && D.plain 8 b with
  | true => some (D.beq a b)
  | false => strEq a b
theorem p_eqD {a b : D} {k : Bool} (h : eqD a b = some k) : ap2 .eq a b = some (.val (.bl k)) := by
  unfold eqD at h
  show (if _ then _ else _) = _
  split at h
  · rename_i h1
    cases h
    rw [h1, if_pos rfl]
  · rename_i h1
    rw [h1, if_neg (by decide), h]; rfl
theorem p_neD {a b : D} {k : Bool} (h : eqD a b = some k) : ap2 .ne a b = some (.val (.bl (!k))) := by
  unfold eqD at h
  show (if _ then _ else _) = _
  split at h
  · rename_i h1
    cases h
    rw [h1, if_pos rfl]
  · rename_i h1
    rw [h1, if_neg (by decide), h]; rfl
/-- operations on any data -/
def bo2 (o : O2) (a b : D) : Option Bool := match ap2 o a b with
  | some (.val (.bl k)) => some k
  | _ => none
theorem p_bo2 {o : O2} {a b : D} {k : Bool} (h : bo2 o a b = some k) : ap2 o a b = some (.val (.bl k)) := by
  unfold bo2 at h
  split at h
  · rename_i e; cases h; exact e
  · cases h
def vo2 (o : O2) (a b : D) : Option D := match ap2 o a b with
  | some (.val d) => some d
  | _ => none
theorem p_vo2 {o : O2} {a b : D} {k : D} (h : vo2 o a b = some k) : ap2 o a b = some (.val k) := by
  unfold vo2 at h
  split at h
  · rename_i e; cases h; exact e
  · cases h
def no2 (o : O2) (a b : D) : Option (List D) := match ap2 o a b with
  | some (.new ds) => some ds
  | _ => none
theorem p_no2 {o : O2} {a b : D} {k : List D} (h : no2 o a b = some k) : ap2 o a b = some (.new k) := by
  unfold no2 at h
  split at h
  · rename_i e; cases h; exact e
  · cases h
def io1 (o : O1) (a : D) : Option Int := match ap1 o a with
  | some (.val (.int k)) => some k
  | _ => none
theorem p_io1 {o : O1} {a : D} {k : Int} (h : io1 o a = some k) : ap1 o a = some (.val (.int k)) := by
  unfold io1 at h
  split at h
  · rename_i e; cases h; exact e
  · cases h
def bo1 (o : O1) (a : D) : Option Bool := match ap1 o a with
  | some (.val (.bl k)) => some k
  | _ => none
theorem p_bo1 {o : O1} {a : D} {k : Bool} (h : bo1 o a = some k) : ap1 o a = some (.val (.bl k)) := by
  unfold bo1 at h
  split at h
  · rename_i e; cases h; exact e
  · cases h
def so1 (o : O1) (a : D) : Option Str := match ap1 o a with
  | some (.val (.str k)) => some k
  | _ => none
theorem p_so1 {o : O1} {a : D} {k : Str} (h : so1 o a = some k) : ap1 o a = some (.val (.str k)) := by
  unfold so1 at h
  split at h
  · rename_i e; cases h; exact e
  · cases h
def no1 (o : O1) (a : D) : Option (List D) := match ap1 o a with
  | some (.new k) => some k
  | _ => none
theorem p_no1 {o : O1} {a : D} {k : List D} (h : no1 o a = some k) : ap1 o a = some (.new k) := by
  unfold no1 at h
  split at h
  · rename_i e; cases h; exact e
  · cases h
def vo1 (o : O1) (a : D) : Option D := match ap1 o a with
  | some (.val k) => some k
  | _ => none
theorem p_vo1 {o : O1} {a : D} {k : D} (h : vo1 o a = some k) : ap1 o a = some (.val k) := by
  unfold vo1 at h
  split at h
  · rename_i e; cases h; exact e
  · cases h
theorem p_intB (b : Bool) : ap1 .int (.bl b) = some (.val (.int (cond b 1 0))) := by cases b <;> rfl
theorem p_rev {α : Type} (F : α → D) (xs : List α) : ap1 .rev (.lst (xs.map F)) = some (.new (xs.reverse.map F)) := by
  show some (MP.R.new _) = _
  rw [List.map_reverse]
theorem p_sortP {α : Type} {F : α → D} (k : α → List Int) (hk : ∀ x, F x = tupD (k x)) {xs : List α} {us : List (List Int)} (h : sortLT (xs.map k) = some us) : ap1 .sorted (.lst (xs.map F)) = some (.new (us.map tupD)) := by
  have e : xs.map F = (xs.map k).map tupD := by
    rw [List.map_map]
    exact List.map_congr_left fun x _ => hk x
  rw [e]
  exact p_sortT h
theorem p_ltT (x y : List Int) : ap2 .lt (tupD x) (tupD y) = some (.val (.bl (ltLI x y))) := by
  show (D.ltInts _ _).map _ = _
  unfold D.ltInts
  rw [ints_map, ints_map, ltLI_eq]; rfl
theorem p_isN {α : Type} {F : α → D} (hF : ∀ x, isNon (F x) = false) (o : Option α) : ap2 .is (optE F o) .non = some (.val (.bl o.isNone)) := by
  cases o with
  | none => rfl
  | some x => show some (MP.R.val (.bl (isNon (F x)))) = _; rw [hF]; rfl
theorem p_isnotN {α : Type} {F : α → D} (hF : ∀ x, isNon (F x) = false) (o : Option α) : ap2 .isnot (optE F o) .non = some (.val (.bl o.isSome)) := by
  cases o with
  | none => rfl
  | some x => show some (MP.R.val (.bl (!isNon (F x)))) = _; rw [hF]; rfl
theorem tr_i (n : Int) : truth (.int n) = some (!eqI n 0) := by show some (!(n == 0)) = _; rw [eqI_eq]
theorem tr_l {α : Type} (F : α → D) (xs : List α) : truth (.lst (xs.map F)) = some (!xs.isEmpty) := by cases xs <;> rfl
theorem tr_t {α : Type} (F : α → D) (xs : List α) : truth (.tup (xs.map F)) = some (!xs.isEmpty) := by cases xs <;> rfl
theorem seqInts_list (xs : List Int) : seqInts (.lst (xs.map D.int)) = some xs := ints_map xs
theorem seqInts_tup (xs : List Int) : seqInts (.tup (xs.map D.int)) = some xs := ints_map xs
def lstOf (d : D) : Option (List D) := match d with
  | .lst xs => some xs
  | _ => none
def tupOf (d : D) : Option (List D) := match d with
  | .tup xs => some xs
  | _ => none
section
variable {G : Nat → D} {C : CallS} {loc l1 : Loc} {a : ME} {d : D} {xs : List D}
theorem i_seqD (h1 : ev G C a loc = some (.val d, l1)) (h2 : lstOf d = some xs) : evI G C (.seq a) loc = some (xs, l1) := by
  unfold lstOf at h2
  split at h2
  · cases h2
    exact X.i_seq h1 rfl
  · cases h2
theorem i_tplD (h1 : ev G C a loc = some (.val d, l1)) (h2 : tupOf d = some xs) : evI G C (.tpl a) loc = some (xs, l1) := by
  unfold tupOf at h2
  split at h2
  · cases h2
    exact X.i_tpl h1 rfl
  · cases h2
end
def unp2 {α : Type} (xs : List α) : Option (α × α) := match xs with
  | [a, b] => some (a, b)
  | _ => none
theorem unp2_eq {α : Type} {xs : List α} {a b : α} (h : unp2 xs = some (a, b)) : xs = [a, b] := by
  unfold unp2 at h
  split at h
  · cases h; rfl
  · cases h
def unp3 {α : Type} (xs : List α) : Option (α × α × α) := match xs with
  | [a, b, c] => some (a, b, c)
  | _ => none
theorem unp3_eq {α : Type} {xs : List α} {a b c : α} (h : unp3 xs = some (a, b, c)) : xs = [a, b, c] := by
  unfold unp3 at h
  split at h
  · cases h; rfl
  · cases h
def grd (b : Bool) : Option Unit := match b with
  | true => some ()
  | false => none
theorem grd_no {b : Bool} {u : Unit} (h : grd (!b) = some u) : b = false := by
  cases b with
  | false => rfl
  | true => cases h
theorem noLsts_map {α : Type} {F : α → D} (h : ∀ x, noLst (F x) = true) : ∀ xs : List α, noLsts (xs.map F) = true
  | [] => by rw [List.map_nil, noLsts]
  | x :: xs => by rw [List.map_cons, noLsts, h, noLsts_map h xs]; rfl
theorem noLsts_int (xs : List Int) : noLsts (xs.map D.int) = true := noLsts_map (fun _ => rfl) xs
theorem noLst_tupD (xs : List Int) : noLst (tupD xs) = true := noLsts_int xs
theorem noLsts_tupD (xs : List (List Int)) : noLsts (xs.map tupD) = true := noLsts_map noLst_tupD xs
def optC {α β : Type} (o : Option α) (f : α → Option β) (g : Option β) : Option β := match o with
  | some a => f a
  | none => g
theorem optC_some {α β : Type} {o : Option α} {f : α → Option β} {g : Option β} {b : β} (h : optC o f g = some b) : (∃ a, o = some a ∧ f a = some b) ∨ (o = none ∧ g = some b) := by
  cases o with
  | none => exact .inr ⟨rfl, h⟩
  | some a => exact .inl ⟨a, rfl, h⟩
theorem inj2 {α β : Type} {a c : α} {b d : β} (h : some (a, b) = some (c, d)) : a = c ∧ b = d := by cases h; exact ⟨rfl, rfl⟩
theorem inj3 {α β γ : Type} {a c : α} {b d : β} {e f : γ} (h : some (a, b, e) = some (c, d, f)) : a = c ∧ b = d ∧ e = f := by cases h; exact ⟨rfl, rfl, rfl⟩
theorem inj4 {α β γ δ : Type} {a c : α} {b d : β} {e f : γ} {g i : δ} (h : some (a, b, e, g) = some (c, d, f, i)) : a = c ∧ b = d ∧ e = f ∧ g = i := by cases h; exact ⟨rfl, rfl, rfl, rfl⟩
def insT0 {α : Type} (xs : List α) (x : α) : Option (List α) := match Nat.blt xs.length 1000000 with
  | true => some (x :: xs)
  | false => none
end MP

/-! typed mirrors: expressions and statements, step by step -/
namespace MP
namespace Y
open PySem L2 X
section
variable {G : Nat → D} {C : CallS} {F : Nat} {loc l1 l2 l3 l4 : Loc} {r r' ra rb rc : R} {d d' : D} {e a b c : ME} {i j : Nat} {x y z : Bool} {ds es : List D}
theorem e_g {k : Nat} (h : G k = d) : ev G C (.g k) loc = some (.val d, loc) := by rw [ev, h]
theorem e_fzO (h : loc[i]? = some (.own false ds)) : ev G C (.fz i) loc = some (.val (.lst ds), loc.set i (.dat (.lst ds))) := by rw [ev, h]
theorem e_rS {ns : List Int} (h : loc[i]? = some (.scr ns)) : ev G C (.r i) loc = some (.ref i, loc) := by rw [ev, h]
/-! tests -/
theorem t_val {k : Bool} (h1 : ev G C a loc = some (r, l1)) (h2 : res l1 r = some d) (h3 : truth d = some k) : evT G C a loc = some (k, l1) := evT_of h1 h2 h3
theorem t_b (h1 : ev G C a loc = some (.val (.bl x), l1)) : evT G C a loc = some (x, l1) := evT_bl h1
theorem t_i {n : Int} (h1 : ev G C a loc = some (.val (.int n), l1)) : evT G C a loc = some (!eqI n 0, l1) := evT_of h1 rfl (by show some (!(n == 0)) = _; rw [eqI_eq])
theorem sett_bool (r : R) : res l1 (sett r) = res l1 r := by cases r <;> rfl
theorem t_and (ha : evT G C a loc = some (x, l1)) (hb : evT G C b l1 = some (y, l1)) : evT G C (.and a b) loc = some (x && y, l1) := by
  obtain ⟨r, d, e1, e2, e3⟩ := evT_spec ha
  cases x with
  | true =>
    obtain ⟨r2, d2, f1, f2, f3⟩ := evT_spec hb
    exact evT_of (r := r2) (by rw [ev, e1]; simp only [e2, e3, f1]) f2 f3
  | false => exact evT_of (r := sett r) (by rw [ev, e1]; simp only [e2, e3]) ((sett_bool r).trans e2) e3
theorem t_andT (ha : evT G C a loc = some (x, l1)) (hx : x = true) (hb : evT G C b l1 = some (y, l2)) : evT G C (.and a b) loc = some (y, l2) := by
  subst hx
  obtain ⟨r, d, e1, e2, e3⟩ := evT_spec ha
  obtain ⟨r2, d2, f1, f2, f3⟩ := evT_spec hb
  exact evT_of (r := r2) (by rw [ev, e1]; simp only [e2, e3, f1]) f2 f3
theorem t_andF (ha : evT G C a loc = some (x, l1)) (hx : x = false) : evT G C (.and a b) loc = some (false, l1) := by
  subst hx
  obtain ⟨r, d, e1, e2, e3⟩ := evT_spec ha
  exact evT_of (r := sett r) (by rw [ev, e1]; simp only [e2, e3]) ((sett_bool r).trans e2) e3
theorem t_or (ha : evT G C a loc = some (x, l1)) (hb : evT G C b l1 = some (y, l1)) : evT G C (.or a b) loc = some (x || y, l1) := by
  obtain ⟨r, d, e1, e2, e3⟩ := evT_spec ha
  cases x with
  | false =>
    obtain ⟨r2, d2, f1, f2, f3⟩ := evT_spec hb
    exact evT_of (r := r2) (by rw [ev, e1]; simp only [e2, e3, f1]) f2 f3
  | true => exact evT_of (r := sett r) (by rw [ev, e1]; simp only [e2, e3]) ((sett_bool r).trans e2) e3
theorem t_orF (ha : evT G C a loc = some (x, l1)) (hx : x = false) (hb : evT G C b l1 = some (y, l2)) : evT G C (.or a b) loc = some (y, l2) := by
  subst hx
  obtain ⟨r, d, e1, e2, e3⟩ := evT_spec ha
  obtain ⟨r2, d2, f1, f2, f3⟩ := evT_spec hb
  exact evT_of (r := r2) (by rw [ev, e1]; simp only [e2, e3, f1]) f2 f3
theorem t_orT (ha : evT G C a loc = some (x, l1)) (hx : x = true) : evT G C (.or a b) loc = some (true, l1) := by
  subst hx
  obtain ⟨r, d, e1, e2, e3⟩ := evT_spec ha
  exact evT_of (r := sett r) (by rw [ev, e1]; simp only [e2, e3]) ((sett_bool r).trans e2) e3
theorem t_not (ha : evT G C a loc = some (x, l1)) : evT G C (.not a) loc = some (!x, l1) := by
  obtain ⟨r, d, e1, e2, e3⟩ := evT_spec ha
  exact evT_of (r := .val (.bl (!x))) (by rw [ev, e1]; simp only [e2, e3]) rfl rfl
theorem e_not (ha : evT G C a loc = some (x, l1)) : ev G C (.not a) loc = some (.val (.bl (!x)), l1) := by
  obtain ⟨r, d, e1, e2, e3⟩ := evT_spec ha
  rw [ev, e1]; simp only [e2, e3]
theorem e_and (ha : ev G C a loc = some (.val (.bl x), l1)) (hb : ev G C b l1 = some (.val (.bl y), l1)) : ev G C (.and a b) loc = some (.val (.bl (x && y)), l1) := by
  rw [ev, ha]; simp only [res, truth]
  cases x with
  | true => exact hb
  | false => rfl
theorem e_andT (ha : evT G C a loc = some (x, l1)) (hx : x = true) (hb : ev G C b l1 = some (r, l2)) : ev G C (.and a b) loc = some (r, l2) := by
  subst hx
  obtain ⟨r, d, e1, e2, e3⟩ := evT_spec ha
  rw [ev, e1]; simp only [e2, e3, hb]
theorem e_andF (ha : ev G C a loc = some (.val (.bl x), l1)) (hx : x = false) : ev G C (.and a b) loc = some (.val (.bl false), l1) := by
  subst hx
  rw [ev, ha]; simp only [res, truth, sett]
theorem e_or (ha : ev G C a loc = some (.val (.bl x), l1)) (hb : ev G C b l1 = some (.val (.bl y), l1)) : ev G C (.or a b) loc = some (.val (.bl (x || y)), l1) := by
  rw [ev, ha]; simp only [res, truth]
  cases x with
  | false => exact hb
  | true => rfl
theorem e_orF (ha : evT G C a loc = some (x, l1)) (hx : x = false) (hb : ev G C b l1 = some (r, l2)) : ev G C (.or a b) loc = some (r, l2) := by
  subst hx
  obtain ⟨r, d, e1, e2, e3⟩ := evT_spec ha
  rw [ev, e1]; simp only [e2, e3, hb]
theorem e_orT (ha : ev G C a loc = some (.val (.bl x), l1)) (hx : x = true) : ev G C (.or a b) loc = some (.val (.bl true), l1) := by
  subst hx
  rw [ev, ha]; simp only [res, truth, sett]
theorem e_orTg (ha : ev G C a loc = some (r, l1)) (h2 : res l1 r = some d) (h3 : truth d = some true) : ev G C (.or a b) loc = some (sett r, l1) := by
  rw [ev, ha]; simp only [h2, h3]
theorem e_iteT (hc : evT G C c loc = some (x, l1)) (hx : x = true) (ha : ev G C a l1 = some (r, l2)) : ev G C (.ite c a b) loc = some (r, l2) := by
  subst hx
  obtain ⟨r, d, e1, e2, e3⟩ := evT_spec hc
  rw [ev, e1]; simp only [e2, e3, ha]
theorem e_iteF (hc : evT G C c loc = some (x, l1)) (hx : x = false) (hb : ev G C b l1 = some (r, l2)) : ev G C (.ite c a b) loc = some (r, l2) := by
  subst hx
  obtain ⟨r, d, e1, e2, e3⟩ := evT_spec hc
  rw [ev, e1]; simp only [e2, e3, hb]
/-- both ways without a call -/
theorem e_ite {α : Type} {f : α → D} {u v : α} (hc : evT G C c loc = some (x, l1)) (ha : ev G C a l1 = some (.val (f u), l1)) (hb : ev G C b l1 = some (.val (f v), l1)) : ev G C (.ite c a b) loc = some (.val (f (cond x u v)), l1) := by
  cases x with
  | true => exact e_iteT hc rfl ha
  | false => exact e_iteF hc rfl hb
theorem e_iteN {α : Type} {f : α → List D} {u v : α} (hc : evT G C c loc = some (x, l1)) (ha : ev G C a l1 = some (.new (f u), l1)) (hb : ev G C b l1 = some (.new (f v), l1)) : ev G C (.ite c a b) loc = some (.new (f (cond x u v)), l1) := by
  cases x with
  | true => exact e_iteT hc rfl ha
  | false => exact e_iteF hc rfl hb
/-! chains -/
theorem e_ch {o o' : O2} {f : D} (h1 : ev G C a loc = some (ra, l1)) (h2 : ev G C b l1 = some (rb, l2)) (h3 : res l2 (sett ra) = some d) (h4 : res l2 rb = some d') (h5 : ap2 o d d' = some (.val (.bl x))) (h6 : ev G C c l2 = some (rc, l2)) (h7 : res l2 (sett rb) = some d') (h8 : res l2 rc = some f) (h9 : ap2 o' d' f = some (.val (.bl y))) :
    ev G C (.ch o o' a b c) loc = some (.val (.bl (x && y)), l2) := by
  rw [ev, h1]; simp only [h2, h3, h4, h5]
  cases x with
  | true => simp only [h6, h7, h8, h9, Bool.true_and]
  | false => rfl
theorem e_chT {o o' : O2} {f : D} (h1 : ev G C a loc = some (ra, l1)) (h2 : ev G C b l1 = some (rb, l2)) (h3 : res l2 (sett ra) = some d) (h4 : res l2 rb = some d') (h5 : ap2 o d d' = some (.val (.bl x))) (hx : x = true) (h6 : ev G C c l2 = some (rc, l3)) (h7 : res l3 (sett rb) = some d') (h8 : res l3 rc = some f) (h9 : ap2 o' d' f = some (.val (.bl y))) :
    ev G C (.ch o o' a b c) loc = some (.val (.bl y), l3) := by
  subst hx
  rw [ev, h1]; simp only [h2, h3, h4, h5, h6, h7, h8, h9]
theorem e_chF {o o' : O2} (h1 : ev G C a loc = some (ra, l1)) (h2 : ev G C b l1 = some (rb, l2)) (h3 : res l2 (sett ra) = some d) (h4 : res l2 rb = some d') (h5 : ap2 o d d' = some (.val (.bl x))) (hx : x = false) :
    ev G C (.ch o o' a b c) loc = some (.val (.bl false), l2) := by
  subst hx
  rw [ev, h1]; simp only [h2, h3, h4, h5]
theorem e_ch3 {o o' o'' : O2} {g : ME} {d1 d2 d3 d4 : D} (h1 : ev G C a loc = some (.val d1, loc)) (h2 : ev G C b loc = some (.val d2, loc)) (h3 : ap2 o d1 d2 = some (.val (.bl x))) (h4 : ev G C c loc = some (.val d3, loc)) (h5 : ap2 o' d2 d3 = some (.val (.bl y))) (h6 : ev G C g loc = some (.val d4, loc)) (h7 : ap2 o'' d3 d4 = some (.val (.bl z))) :
    ev G C (.ch3 o o' o'' a b c g) loc = some (.val (.bl (x && (y && z))), loc) := by
  rw [ev, h1]; simp only [h2, res, sett, h3]
  cases x with
  | true =>
    simp only [h4, h5]
    cases y with
    | true => simp only [h6, h7, Bool.true_and]
    | false => rfl
  | false => rfl
/-! slices -/
theorem e_slL {α : Type} {f : α → D} {xs : List α} {lo hi : Option ME} {u v : Option Int} (h1 : ev G C a loc = some (r, l1)) (h2 : evo G C lo l1 = some (u, l2)) (h3 : evo G C hi l2 = some (v, l3)) (h4 : res l3 (sett r) = some (.lst (xs.map f))) : ev G C (.sl a lo hi) loc = some (.new ((cutT xs u v).map f), l3) := by
  rw [ev, h1]; simp only [h2, h3, h4, apSl, cutT_map]
theorem e_slT {α : Type} {f : α → D} {xs : List α} {lo hi : Option ME} {u v : Option Int} (h1 : ev G C a loc = some (r, l1)) (h2 : evo G C lo l1 = some (u, l2)) (h3 : evo G C hi l2 = some (v, l3)) (h4 : res l3 (sett r) = some (.tup (xs.map f))) : ev G C (.sl a lo hi) loc = some (.val (.tup ((cutT xs u v).map f)), l3) := by
  rw [ev, h1]; simp only [h2, h3, h4, apSl, cutT_map]
theorem e_slLD {xs : List D} {lo hi : Option ME} {u v : Option Int} (h1 : ev G C a loc = some (r, l1)) (h2 : evo G C lo l1 = some (u, l2)) (h3 : evo G C hi l2 = some (v, l3)) (h4 : res l3 (sett r) = some (.lst xs)) : ev G C (.sl a lo hi) loc = some (.new (cutT xs u v), l3) := by
  rw [ev, h1]; simp only [h2, h3, h4, apSl, cutT_D]
theorem e_slTD {xs : List D} {lo hi : Option ME} {u v : Option Int} (h1 : ev G C a loc = some (r, l1)) (h2 : evo G C lo l1 = some (u, l2)) (h3 : evo G C hi l2 = some (v, l3)) (h4 : res l3 (sett r) = some (.tup xs)) : ev G C (.sl a lo hi) loc = some (.val (.tup (cutT xs u v)), l3) := by
  rw [ev, h1]; simp only [h2, h3, h4, apSl, cutT_D]
theorem o_n : evo G C none loc = some (none, loc) := by rw [evo]
theorem o_s {n : Int} (h : ev G C a loc = some (.val (.int n), l1)) : evo G C (some a) loc = some (some n, l1) := by rw [evo, h]
theorem e_sSl {ns : List Int} {lo hi : Option ME} {u v : Option Int} (h : loc[i]? = some (.scr ns)) (h2 : evo G C lo loc = some (u, l2)) (h3 : evo G C hi l2 = some (v, l3)) : ev G C (.sSl i lo hi) loc = some (.new ((cutT ns u v).map D.int), l3) := by
  rw [ev, h]; simp only [h2, h3, cutT_map]
theorem e_sLen {ns : List Int} (h : loc[i]? = some (.scr ns)) : ev G C (.sLen i) loc = some (.val (.int ns.length), loc) := by rw [ev, h]
def scrT (ns : List Int) (k : Int) : Option Int := match leI 0 k with
  | true => ns[k.toNat]?
  | false => none
theorem e_sIx {ns : List Int} {k n : Int} (h : loc[i]? = some (.scr ns)) (h1 : ev G C a loc = some (.val (.int k), l1)) (h2 : scrT ns k = some n) : ev G C (.sIx i a) loc = some (.val (.int n), l1) := by
  unfold scrT at h2
  split at h2
  · rename_i h3
    rw [leI_eq, decide_eq_true_eq] at h3
    rw [ev, h]; simp only [h1, if_pos h3, h2]
  · cases h2
/-! iterations -/
theorem i_seqV (h1 : ev G C a loc = some (r, l1)) (h2 : toVal r = some (.lst ds)) : evI G C (.seq a) loc = some (ds, l1) := X.i_seq h1 h2
theorem i_rng1 {n : Int} {xs : List Int} (h1 : ev G C a loc = some (.val (.int n), l1)) (h2 : rng1T n = some xs) : evI G C (.rng1 a) loc = some (xs.map D.int, l1) := by
  unfold rng1T at h2
  split at h2
  · rename_i h3
    cases h2
    rw [X.i_r1 h1 (smallQ_ok h3), rngI_map]
  · cases h2
theorem i_rng2 {m n : Int} {xs : List Int} (h1 : ev G C a loc = some (.val (.int m), l1)) (h2 : ev G C b l1 = some (.val (.int n), l2)) (h3 : rng2T m n = some xs) : evI G C (.rng2 a b) loc = some (xs.map D.int, l2) := by
  unfold rng2T at h3
  split at h3
  · rename_i h4
    cases h3
    rw [Bool.and_eq_true] at h4
    rw [X.i_r2 h1 h2 (smallQ_ok h4.1) (smallQ_ok h4.2), rngI_map]
  · cases h3
theorem i_enum {α : Type} {f : α → D} {xs : List α} (h1 : ev G C a loc = some (r, l1)) (h2 : toVal r = some (.lst (xs.map f))) : evI G C (.enum a) loc = some ((enumI 0 xs).map fun p => D.tup [.int p.1, f p.2], l1) := by
  rw [evI, h1]; simp only [h2, enumI_map]
theorem i_enumD {xs : List D} (h1 : ev G C a loc = some (r, l1)) (h2 : toVal r = some (.lst xs)) : evI G C (.enum a) loc = some ((enumI 0 xs).map fun p => D.tup [.int p.1, p.2], l1) := by
  rw [evI, h1]; simp only [h2, enumI_mapD]
theorem i_zipL {α β : Type} {f : α → D} {k : β → D} {xs : List α} {ys : List β} (h1 : ev G C a loc = some (ra, l1)) (h2 : ev G C b l1 = some (rb, l2)) (h3 : toVal ra = some (.lst (xs.map f))) (h4 : toVal rb = some (.lst (ys.map k))) : evI G C (.zip a b) loc = some ((xs.zip ys).map fun p => D.tup [f p.1, k p.2], l2) := by
  rw [evI, h1]; simp only [h2, h3, h4, zipL_map]
theorem i_zipT {α β : Type} {f : α → D} {k : β → D} {xs : List α} {ys : List β} (h1 : ev G C a loc = some (ra, l1)) (h2 : ev G C b l1 = some (rb, l2)) (h3 : toVal ra = some (.tup (xs.map f))) (h4 : toVal rb = some (.tup (ys.map k))) : evI G C (.zip a b) loc = some ((xs.zip ys).map fun p => D.tup [f p.1, k p.2], l2) := by
  rw [evI, h1]; simp only [h2, h3, h4, zipL_map]
theorem i_zipLD {xs ys : List D} (h1 : ev G C a loc = some (ra, l1)) (h2 : ev G C b l1 = some (rb, l2)) (h3 : toVal ra = some (.lst xs)) (h4 : toVal rb = some (.lst ys)) : evI G C (.zip a b) loc = some ((xs.zip ys).map fun p => D.tup [p.1, p.2], l2) := by
  rw [evI, h1]; simp only [h2, h3, h4, zipL_mapD]
theorem i_zipTD {xs ys : List D} (h1 : ev G C a loc = some (ra, l1)) (h2 : ev G C b l1 = some (rb, l2)) (h3 : toVal ra = some (.tup xs)) (h4 : toVal rb = some (.tup ys)) : evI G C (.zip a b) loc = some ((xs.zip ys).map fun p => D.tup [p.1, p.2], l2) := by
  rw [evI, h1]; simp only [h2, h3, h4, zipL_mapD]
theorem fitL_ok {α : Type} {xs ys : List α} (h : fitL xs = some ys) : ys = xs ∧ xs.length ≤ big := by
  unfold fitL at h
  split at h
  · rename_i h1
    cases h
    exact ⟨rfl, Nat.ble_eq.mp h1⟩
  · cases h
theorem e_lrng {it : IT} {xs ys : List Int} (h : evI G C it loc = some (xs.map D.int, l1)) (hf : fitL xs = some ys) : ev G C (.lrng it) loc = some (.new (ys.map D.int), l1) := by
  obtain ⟨rfl, h1⟩ := fitL_ok hf
  rw [ev, h]; simp only [List.length_map, if_pos h1]
def sumRT (n : Int) : Option Int := match smallQ n && Nat.ble n.toNat 1000000 with
  | true => some (rsum 0 n.toNat)
  | false => none
theorem e_sumR {n k : Int} (h : ev G C a loc = some (.val (.int n), l1)) (hf : sumRT n = some k) : ev G C (.sumR (.rng1 a)) loc = some (.val (.int k), l1) := by
  unfold sumRT at hf
  split at hf
  · rename_i h1
    cases hf
    rw [Bool.and_eq_true, Nat.ble_eq] at h1
    rw [ev, h]; simp only
    rw [if_pos (by rw [smallQ_ok h1.1, Bool.true_and, decide_eq_true_eq]; exact h1.2)]
  · cases hf
theorem e_mxD {mx : Bool} {xs : List Int} {n : Int} (h1 : ev G C a loc = some (ra, l1)) (h2 : ev G C b l1 = some (.val (.int n), l2)) (h3 : res l2 (sett ra) = some d) (h4 : seqInts d = some xs) : ev G C (.mxD mx a b) loc = some (.val (.int (mxT mx n xs)), l2) := by
  rw [ev, h1]; simp only [h2, h3, toVal, h4]
  cases xs <;> rfl
def mxO (mx : Bool) (xs : List Int) : Option Int := match xs with
  | [] => none
  | n :: ms => some (mxI mx n ms)
theorem e_mxDn {mx : Bool} {xs : List Int} (h1 : ev G C a loc = some (ra, l1)) (h2 : ev G C b l1 = some (.val .non, l2)) (h3 : res l2 (sett ra) = some d) (h4 : seqInts d = some xs) : ev G C (.mxD mx a b) loc = some (.val (optE D.int (mxO mx xs)), l2) := by
  rw [ev, h1]; simp only [h2, h3, toVal, h4]
  cases xs <;> rfl
theorem e_mxDo {mx : Bool} {xs : List Int} {o : Option Int} (ho : some (mxO mx xs) = some o) (h1 : ev G C a loc = some (ra, l1)) (h2 : ev G C b l1 = some (.val .non, l2)) (h3 : res l2 (sett ra) = some d) (h4 : seqInts d = some xs) : ev G C (.mxD mx a b) loc = some (.val (optE D.int o), l2) := by
  cases ho
  exact e_mxDn h1 h2 h3 h4
/-! own lists -/
theorem e_app {α : Type} {f : α → D} {b' : Bool} {xs ys zs : List α} {v : α} (h0 : loc[i]? = some (.own b' (xs.map f))) (h1 : ev G C a loc = some (r, l1)) (h2 : toVal r = some (f v)) (h3 : l1[i]? = some (.own b' (ys.map f))) (h4 : appT ys v = some zs) : ev G C (.app i a) loc = some (.val .non, l1.set i (.own b' (zs.map f))) := by
  unfold appT at h4
  split at h4
  · rename_i h5
    cases h4
    rw [ev, h0]; simp only [h1, h2, h3]
    rw [if_pos (by rw [List.length_map]; exact Nat.blt_eq.mp h5), List.map_append]; rfl
  · cases h4
theorem e_appD {b' : Bool} {xs ys zs : List D} {v : D} (h0 : loc[i]? = some (.own b' xs)) (h1 : ev G C a loc = some (r, l1)) (h2 : toVal r = some v) (h3 : l1[i]? = some (.own b' ys)) (h4 : appT ys v = some zs) : ev G C (.app i a) loc = some (.val .non, l1.set i (.own b' zs)) := by
  have := e_app (f := id) (xs := xs) (ys := ys) (G := G) (C := C) (by rw [List.map_id]; exact h0) h1 h2 (by rw [List.map_id]; exact h3) h4
  rwa [List.map_id] at this
theorem e_ins0 {α : Type} {f : α → D} {b' : Bool} {xs ys zs : List α} {v : α} (h0 : loc[i]? = some (.own b' (xs.map f))) (h1 : ev G C a loc = some (r, l1)) (h2 : toVal r = some (f v)) (h3 : l1[i]? = some (.own b' (ys.map f))) (h4 : insT0 ys v = some zs) : ev G C (.ins0 i a) loc = some (.val .non, l1.set i (.own b' (zs.map f))) := by
  unfold insT0 at h4
  split at h4
  · rename_i h5
    cases h4
    rw [ev, h0]; simp only [h1, h2, h3]
    rw [if_pos (by rw [List.length_map]; exact Nat.blt_eq.mp h5), List.map_cons]
  · cases h4
theorem e_ins0D {b' : Bool} {xs ys zs : List D} {v : D} (h0 : loc[i]? = some (.own b' xs)) (h1 : ev G C a loc = some (r, l1)) (h2 : toVal r = some v) (h3 : l1[i]? = some (.own b' ys)) (h4 : insT0 ys v = some zs) : ev G C (.ins0 i a) loc = some (.val .non, l1.set i (.own b' zs)) := by
  have := e_ins0 (f := id) (xs := xs) (ys := ys) (G := G) (C := C) (by rw [List.map_id]; exact h0) h1 h2 (by rw [List.map_id]; exact h3) h4
  rwa [List.map_id] at this
theorem e_dropc (h1 : ev G C a loc = some (.new ds, l1)) : ev G C (.dropc a) loc = some (.val .non, l1) := by rw [ev, h1]
theorem e_dropa {α : Type} {f : α → D} {xs : List α} {u : Unit} (h1 : ev G C a loc = some (.new (xs.map f), l1)) (h2 : ev G C b l1 = some (rb, l2)) (h3 : toVal rb = some d) (h4 : grd (Nat.blt xs.length 1000000) = some u) : ev G C (.dropa a b) loc = some (.val .non, l2) := by
  have h5 : Nat.blt xs.length 1000000 = true := by
    cases hz : Nat.blt xs.length 1000000 with
    | true => rfl
    | false => rw [hz] at h4; cases h4
  rw [ev, h1]; simp only [h2, h3]
  rw [if_pos (by rw [List.length_map]; exact Nat.blt_eq.mp h5)]
theorem e_ext {α : Type} {f : α → D} {b' : Bool} {xs ys zs us : List α} (h0 : loc[i]? = some (.own b' (xs.map f))) (h1 : ev G C a loc = some (r, l1)) (h2 : toVal r = some (.lst (us.map f))) (h3 : l1[i]? = some (.own b' (ys.map f))) (h4 : extT ys us = some zs) : ev G C (.ext i a) loc = some (.val .non, l1.set i (.own b' (zs.map f))) := by
  unfold extT at h4
  split at h4
  · rename_i h5
    cases h4
    rw [ev, h0]; simp only [h1, h2, h3]
    rw [if_pos (by rw [List.length_map, List.length_map]; exact Nat.ble_eq.mp h5), List.map_append]
  · cases h4
theorem s_augL {α : Type} {f : α → D} {b' : Bool} {xs ys zs us : List α} (h0 : loc[i]? = some (.own b' (xs.map f))) (h1 : ev G C a loc = some (r, l1)) (h2 : toVal r = some (.lst (us.map f))) (h3 : l1[i]? = some (.own b' (ys.map f))) (h4 : extT ys us = some zs) : sx G C F (.augL i a) loc = some (.nx (l1.set i (.own b' (zs.map f)))) := by
  unfold extT at h4
  split at h4
  · rename_i h5
    cases h4
    rw [sx, h0]; simp only [h1, h2, h3]
    rw [if_pos (by rw [List.length_map, List.length_map]; exact Nat.ble_eq.mp h5), List.map_append]
  · cases h4
theorem s_augLD {b' : Bool} {xs ys zs us : List D} (h0 : loc[i]? = some (.own b' xs)) (h1 : ev G C a loc = some (r, l1)) (h2 : toVal r = some (.lst us)) (h3 : l1[i]? = some (.own b' ys)) (h4 : extT ys us = some zs) : sx G C F (.augL i a) loc = some (.nx (l1.set i (.own b' zs))) := by
  have := s_augL (f := id) (xs := xs) (ys := ys) (us := us) (G := G) (C := C) (F := F) (by rw [List.map_id]; exact h0) h1 (by rw [List.map_id]; exact h2) (by rw [List.map_id]; exact h3) h4
  rwa [List.map_id] at this
theorem e_clear {b' : Bool} (h0 : loc[i]? = some (.own b' ds)) : ev G C (.clear i) loc = some (.val .non, loc.set i (.own b' [])) := by rw [ev, h0]
theorem getLast_map {α : Type} (f : α → D) (xs : List α) : (xs.map f).getLast? = xs.getLast?.map f := by
  rw [List.getLast?_map]
theorem e_pop {α : Type} {f : α → D} {b' : Bool} {xs : List α} {p : α × List α} (h0 : loc[i]? = some (.own b' (xs.map f))) (h1 : popT xs = some p) : ev G C (.pop i) loc = some (.val (f p.1), loc.set i (.own b' (p.2.map f))) := by
  unfold popT at h1
  split at h1
  · rename_i x hx
    cases h1
    rw [ev, h0]; simp only [getLast_map, hx, Option.map_some, List.map_dropLast]
  · cases h1
theorem e_popD {b' : Bool} {xs : List D} {p : D × List D} (h0 : loc[i]? = some (.own b' xs)) (h1 : popT xs = some p) : ev G C (.pop i) loc = some (.val p.1, loc.set i (.own b' p.2)) := by
  have := e_pop (f := id) (xs := xs) (G := G) (C := C) (by rw [List.map_id]; exact h0) h1
  rwa [List.map_id] at this
theorem map_era {α : Type} (f : α → D) : ∀ (xs : List α) (n : Nat), (xs.map f).eraseIdx n = (xs.eraseIdx n).map f
  | [], n => rfl
  | x :: xs, 0 => rfl
  | x :: xs, n + 1 => by simp only [List.map_cons, List.eraseIdx_cons_succ, map_era f xs n]
theorem e_popAt {α : Type} {f : α → D} {b' : Bool} {xs ys : List α} {k : Int} {p : α × List α} (h0 : loc[i]? = some (.own b' (xs.map f))) (h1 : ev G C a loc = some (.val (.int k), l1)) (h2 : l1[i]? = some (.own b' (ys.map f))) (h3 : popAtT ys k = some p) : ev G C (.popAt i a) loc = some (.val (f p.1), l1.set i (.own b' (p.2.map f))) := by
  unfold popAtT at h3
  split at h3
  · rename_i h4
    split at h3
    · rename_i x hx
      cases h3
      simp only [Bool.and_eq_true, leI_eq, ltI_eq, decide_eq_true_eq] at h4
      rw [ev, h0]; simp only [h1, h2]
      rw [if_pos ⟨h4.1, by omega⟩, List.getElem?_map, hx]
      simp only [Option.map_some, map_era]
    · cases h3
  · cases h3
theorem e_popAtD {b' : Bool} {xs ys : List D} {k : Int} {p : D × List D} (h0 : loc[i]? = some (.own b' xs)) (h1 : ev G C a loc = some (.val (.int k), l1)) (h2 : l1[i]? = some (.own b' ys)) (h3 : popAtT ys k = some p) : ev G C (.popAt i a) loc = some (.val p.1, l1.set i (.own b' p.2)) := by
  have := e_popAt (f := id) (xs := xs) (ys := ys) (G := G) (C := C) (by rw [List.map_id]; exact h0) h1 (by rw [List.map_id]; exact h2) h3
  rwa [List.map_id] at this
theorem s_put {α : Type} {f : α → D} {b' b'' : Bool} {xs ys zs : List α} {k : Int} {v : α} (h1 : ev G C a loc = some (r, l1)) (h2 : l1[i]? = some (.own b' (xs.map f))) (h3 : ev G C b l1 = some (.val (.int k), l2)) (h4 : toVal r = some (f v)) (h5 : l2[i]? = some (.own b' (ys.map f))) (h6 : putT ys k v = some zs) : sx G C F (.put i b a) loc = some (.nx (l2.set i (.own b' (zs.map f)))) := by
  unfold putT at h6
  split at h6
  · rename_i h7
    cases h6
    simp only [Bool.and_eq_true, leI_eq, ltI_eq, decide_eq_true_eq] at h7
    rw [sx, h1]; simp only [h2, h3, h4, h5]
    rw [if_pos ⟨h7.1, by rw [List.length_map]; exact h7.2⟩, List.map_set]
  · cases h6
theorem s_putD {b' : Bool} {xs ys zs : List D} {k : Int} {v : D} (h1 : ev G C a loc = some (r, l1)) (h2 : l1[i]? = some (.own b' xs)) (h3 : ev G C b l1 = some (.val (.int k), l2)) (h4 : toVal r = some v) (h5 : l2[i]? = some (.own b' ys)) (h6 : putT ys k v = some zs) : sx G C F (.put i b a) loc = some (.nx (l2.set i (.own b' zs))) := by
  have := s_put (f := id) (xs := xs) (ys := ys) (G := G) (C := C) (F := F) (b'' := b') h1 (by rw [List.map_id]; exact h2) h3 h4 (by rw [List.map_id]; exact h5) h6
  rwa [List.map_id] at this
/-! calls -/
theorem do_val {j : Nat} {ds : List D} (h : C j (ds.map Slot.dat) = some (r, ds.map Slot.dat)) : doCall C j (ds.map R.val) loc = some (r, loc) := doCall_dat h
theorem given_vals : ∀ (ds : List D) (loc : Loc), given (ds.map R.val) (ds.map Slot.dat) loc = some loc := given_dat
theorem do_ref1 {j i : Nat} {b : Bool} {es es' ds : List D} (hi : loc[i]? = some (.own b es)) (h : C j (.own true es :: ds.map Slot.dat) = some (r, .own true es' :: ds.map Slot.dat)) : doCall C j (.ref i :: ds.map R.val) loc = some (r, loc.set i (.own b es')) := by
  unfold doCall
  have hr : refs (.ref i :: ds.map R.val) = [i] := by rw [refs, refs_dat]
  rw [hr]
  simp only [nodupB, List.contains_nil, Bool.not_false, Bool.and_self, if_true, argsOf, argOf, hi, args_dat, h, given]
  rw [given_dat]
theorem do_scr1 {j i : Nat} {ns : List Int} {ds : List D} (hi : loc[i]? = some (.scr ns)) (h : C j (.scr ns :: ds.map Slot.dat) = some (r, .scr ns :: ds.map Slot.dat)) : doCall C j (.ref i :: ds.map R.val) loc = some (r, loc) := by
  unfold doCall
  have hr : refs (.ref i :: ds.map R.val) = [i] := by rw [refs, refs_dat]
  rw [hr]
  simp only [nodupB, List.contains_nil, Bool.not_false, Bool.and_self, if_true, argsOf, argOf, hi, args_dat, h, given]
  rw [given_dat]
theorem e_call {as : List ME} {rs : List R} {fn : Nat} (h1 : evs G C as loc = some (rs, l1)) (h2 : doCall C fn rs l1 = some (r, l2)) : ev G C (.call fn as) loc = some (r, l2) := X.e_call h1 h2
theorem e_eqI {k fn : Nat} {tb : List (Nat × Nat)} {fs gs : List D} {x : Bool} (h : ev G C a loc = some (.val (.ins k fs), l1)) (h2 : ev G C b l1 = some (.val (.ins k gs), l2)) (h1 : tb.lookup k = some fn) (h3 : doCall C fn [.val (.ins k fs), .val (.ins k gs)] l2 = some (.val (.bl x), l3)) : ev G C (.eqI false tb a b) loc = some (.val (.bl x), l3) := by
  rw [ev, h]; simp only [h2, h1, h3, if_true]; rfl
theorem e_neI {k fn : Nat} {tb : List (Nat × Nat)} {fs gs : List D} {x : Bool} (h : ev G C a loc = some (.val (.ins k fs), l1)) (h2 : ev G C b l1 = some (.val (.ins k gs), l2)) (h1 : tb.lookup k = some fn) (h3 : doCall C fn [.val (.ins k fs), .val (.ins k gs)] l2 = some (.val (.bl x), l3)) : ev G C (.eqI true tb a b) loc = some (.val (.bl (!x)), l3) := by
  rw [ev, h]; simp only [h2, h1, h3, if_true]
theorem e_callD {as : List ME} {rs : List R} {fn : Nat} {ds : List Df} (h1 : evs G C as loc = some (rs, l1)) (h2 : doCall C fn (rs ++ ds.map fun d => R.val d.d) l1 = some (r, l2)) : ev G C (.callD fn as ds) loc = some (r, l2) := by
  rw [ev, h1]; exact h2
theorem min_if (i j : Int) : (if j < i then j else i) = minI i j := by
  have := p_min i j
  simp only [ap2, Option.some.injEq, R.val.injEq, D.int.injEq] at this
  exact this
theorem e_mn3 {i j k : Int} {a b c : ME} (h1 : ev G C a loc = some (.val (.int i), l1)) (h2 : ev G C b l1 = some (.val (.int j), l2)) (h3 : ev G C c l2 = some (.val (.int k), l3)) : ev G C (.mn3 a b c) loc = some (.val (.int (minI (minI i j) k)), l3) := by
  rw [ev, h1]; simp only [h2, h3, min_if]
theorem e_fld {k n : Nat} {tb : List (Nat × Nat)} {fs : List D} (h : ev G C a loc = some (.val (.ins k fs), l1)) (h1 : tb.lookup k = some n) (h2 : fs[n]? = some d) : ev G C (.fld tb a) loc = some (.val d, l1) := by
  rw [ev, h]; simp only [h1, h2]
theorem e_meth {k fn : Nat} {tb : List (Nat × Nat)} {fs : List D} {as : List ME} {rs : List R} (h : ev G C a loc = some (.val (.ins k fs), l1)) (h1 : tb.lookup k = some fn) (h2 : evs G C as l1 = some (rs, l2)) (h3 : doCall C fn (.val (.ins k fs) :: rs) l2 = some (r, l3)) : ev G C (.meth tb a as) loc = some (r, l3) := by
  rw [ev, h]; simp only [h1, h2, h3]
theorem all_dat : ∀ ds : List D, allDat (ds.map Slot.dat) = true
  | [] => rfl
  | d :: ds => by rw [List.map_cons]; show (true && allDat (ds.map Slot.dat)) = true; rw [all_dat ds]; rfl
theorem e_make {k fn : Nat} {as : List ME} {ds fs : List D} (h1 : evs G C as loc = some (ds.map R.val, l1)) (h2 : C fn (ds.map Slot.dat) = some (.val (.ins k fs), ds.map Slot.dat)) : ev G C (.make k fn as) loc = some (.val (.ins k fs), l1) := by
  rw [ev, h1]; simp only [args_dat, all_dat, if_true, h2]
theorem e_thaw {ds0 : List D} (h1 : ev G C a loc = some (r, l1)) (h2 : loc[i]? = some (.own false ds0)) (h3 : l1[i]? = some (.dat (.lst ds))) (h4 : noLsts ds = true) (h5 : thawR r = true) (h6 : thawB i 0 loc l1 = true) : ev G C (.thaw i a) loc = some (r, l1.set i (.own false ds)) := by
  rw [ev, h1]; simp only [h2, h3, h4, h5, h6, Bool.and_self, if_true]
/-! comprehensions -/
theorem c_nil : evC G C [] loc = some (true, loc) := by rw [evC]
theorem c_oneT (h : evT G C a loc = some (x, l1)) (hx : x = true) : evC G C [a] loc = some (true, l1) := by
  subst hx
  obtain ⟨r, d, e1, e2, e3⟩ := evT_spec h
  rw [evC, e1]; simp only [e2, e3, evC]
theorem c_oneF (h : evT G C a loc = some (x, l1)) (hx : x = false) : evC G C [a] loc = some (false, l1) := by
  subst hx
  obtain ⟨r, d, e1, e2, e3⟩ := evT_spec h
  rw [evC, e1]; simp only [e2, e3]
theorem c_one (h : evT G C a loc = some (x, l1)) : evC G C [a] loc = some (x, l1) := by
  obtain ⟨r, d, e1, e2, e3⟩ := evT_spec h
  rw [evC, e1]; simp only [e2, e3]
  cases x with
  | true => simp only [evC]
  | false => rfl
end
section
variable {G : Nat → D} {C : CallS} {α β σ : Type}
theorem lcT_run {own : List Nat} {p : Pat} {cond : Loc → Option (Bool × Loc)} {elt : Loc → Option (R × Loc)} {w : Loc} {ga : α → D} {gb : β → D} {f : α → Option (Option β)}
    (hb : ∀ a o, f a = some o → ∃ l1 l2, bindP p (ga a) w = some l1 ∧ cond l1 = some (o.isSome, l2) ∧ match o with | none => wipeL l2 own = w | some b => ∃ r l3, elt l2 = some (r, l3) ∧ toVal r = some (gb b) ∧ wipeL l3 own = w) :
    ∀ (xs : List α) (ys : List β), lcT f xs = some ys → lcRun own p cond elt (xs.map ga) w = some (ys.map gb, w)
  | [], ys, h => by
    rw [lcT] at h
    cases h
    rfl
  | a :: as, ys, h => by
    rw [lcT] at h
    split at h
    · rename_i b h1
      split at h
      · rename_i bs h2
        cases h
        obtain ⟨l1, l2, e1, e2, r, l3, e3, e4, e5⟩ := hb a _ h1
        simp only [Option.isSome_some] at e2
        simp only [List.map_cons, lcRun, e1, e2, e3, e4, e5, lcT_run hb as bs h2]
      · cases h
    · rename_i h1
      obtain ⟨l1, l2, e1, e2, e5⟩ := hb a _ h1
      simp only [Option.isSome_none] at e2
      simp only [List.map_cons, lcRun, e1, e2, e5, lcT_run hb as ys h]
    · cases h
theorem lcS_run {own : List Nat} {p : Pat} {cond : Loc → Option (Bool × Loc)} {elt : Loc → Option (R × Loc)} {L : σ → Loc} {ga : α → D} {gb : β → D} {f : σ → α → Option (Option β × σ)}
    (hb : ∀ s a o s', f s a = some (o, s') → ∃ l1 l2, bindP p (ga a) (L s) = some l1 ∧ cond l1 = some (o.isSome, l2) ∧ match o with | none => wipeL l2 own = L s' | some b => ∃ r l3, elt l2 = some (r, l3) ∧ toVal r = some (gb b) ∧ wipeL l3 own = L s') :
    ∀ (xs : List α) (s : σ) (ys : List β) (s' : σ), lcS f s xs = some (ys, s') → lcRun own p cond elt (xs.map ga) (L s) = some (ys.map gb, L s')
  | [], s, ys, s', h => by
    rw [lcS] at h
    cases h
    rfl
  | a :: as, s, ys, s', h => by
    rw [lcS] at h
    split at h
    · rename_i b s1 h1
      split at h
      · rename_i bs s2 h2
        cases h
        obtain ⟨l1, l2, e1, e2, r, l3, e3, e4, e5⟩ := hb s a _ _ h1
        simp only [Option.isSome_some] at e2
        simp only [List.map_cons, lcRun, e1, e2, e3, e4, e5, lcS_run hb as s1 bs s' h2]
      · cases h
    · rename_i s1 h1
      obtain ⟨l1, l2, e1, e2, e5⟩ := hb s a _ _ h1
      simp only [Option.isSome_none] at e2
      simp only [List.map_cons, lcRun, e1, e2, e5, lcS_run hb as s1 ys s' h]
    · cases h
theorem e_lc {own : List Nat} {p : Pat} {it : IT} {cs : List ME} {elt : ME} {loc l1 w : Loc} {ga : α → D} {gb : β → D} {f : α → Option (Option β)} {xs : List α} {ys : List β} (h1 : evI G C it loc = some (xs.map ga, l1)) (h2 : own.all (freeD l1) = true) (hw : wipeL l1 own = w) (h3 : lcG f xs = some ys)
    (hb : ∀ a o, f a = some o → ∃ m1 m2, bindP p (ga a) w = some m1 ∧ evC G C cs m1 = some (o.isSome, m2) ∧ match o with | none => wipeL m2 own = w | some b => ∃ r m3, ev G C elt m2 = some (r, m3) ∧ toVal r = some (gb b) ∧ wipeL m3 own = w) (h5 : back l1 w own = l1) :
    ev G C (.lc own p it cs elt) loc = some (.new (ys.map gb), l1) := by
  subst hw
  unfold lcG at h3
  split at h3
  · rename_i hz
    rw [ev, h1]
    have hz' : (xs.map ga).length ≤ big := by rw [List.length_map]; exact Nat.ble_eq.mp hz
    have hr : lcRun own p (evC G C cs) (ev G C elt) (xs.map ga) (wipeL l1 own) = some (ys.map gb, wipeL l1 own) := lcT_run (own := own) (p := p) (cond := evC G C cs) (elt := ev G C elt) hb xs ys h3
    simp only [h2, decide_eq_true hz', Bool.and_self, if_true, hr, h5]
  · cases h3
theorem e_lcS {own : List Nat} {p : Pat} {it : IT} {cs : List ME} {elt : ME} {loc l1 l2 : Loc} {L : σ → Loc} {ga : α → D} {gb : β → D} {f : σ → α → Option (Option β × σ)} {xs : List α} {ys : List β} {s s' : σ} (h1 : evI G C it loc = some (xs.map ga, l1)) (h2 : own.all (freeD l1) = true) (hw : wipeL l1 own = L s) (h3 : lcGS f s xs = some (ys, s'))
    (hb : ∀ s a o s', f s a = some (o, s') → ∃ m1 m2, bindP p (ga a) (L s) = some m1 ∧ evC G C cs m1 = some (o.isSome, m2) ∧ match o with | none => wipeL m2 own = L s' | some b => ∃ r m3, ev G C elt m2 = some (r, m3) ∧ toVal r = some (gb b) ∧ wipeL m3 own = L s') (h5 : back l1 (L s') own = l2) :
    ev G C (.lc own p it cs elt) loc = some (.new (ys.map gb), l2) := by
  unfold lcGS at h3
  split at h3
  · rename_i hz
    rw [ev, h1]
    have hz' : (xs.map ga).length ≤ big := by rw [List.length_map]; exact Nat.ble_eq.mp hz
    have hr : lcRun own p (evC G C cs) (ev G C elt) (xs.map ga) (L s) = some (ys.map gb, L s') := lcS_run (own := own) (p := p) (cond := evC G C cs) (elt := ev G C elt) hb xs s ys s' h3
    simp only [h2, decide_eq_true hz', Bool.and_self, if_true, hw, hr, h5]
  · cases h3
/-- two sources -/
def lc2G {γ : Type} (f : α → Option (Option (List γ))) : List α → Option (List γ)
  | [] => some []
  | a :: as => match f a with
    | some (some bs) => match lc2G f as with
      | some cs => some (bs ++ cs)
      | none => none
    | some none => lc2G f as
    | none => none
theorem lc2_run {own own1 : List Nat} {p p1 : Pat} {cond cond1 : Loc → Option (Bool × Loc)} {src : Loc → Option (List D × Loc)} {elt : Loc → Option (R × Loc)} {w : Loc} {ga : α → D} {gc : β → D} {f : α → Option (Option (List β))}
    (hb : ∀ a o, f a = some o → ∃ l1 l2, bindP p (ga a) w = some l1 ∧ cond l1 = some (o.isSome, l2) ∧ match o with | none => wipeL l2 own = w | some bs => ∃ items l3 l4, src l2 = some (items, l3) ∧ own1.all (freeD l3) = true ∧ items.length ≤ big ∧ lcRun own1 p1 cond1 elt items (wipeL l3 own1) = some (bs.map gc, l4) ∧ wipeL l4 own = w) :
    ∀ (xs : List α) (ys : List β), lc2G f xs = some ys → lc2Run own p cond own1 src p1 cond1 elt (xs.map ga) w = some (ys.map gc, w)
  | [], ys, h => by
    rw [lc2G] at h
    cases h
    rfl
  | a :: as, ys, h => by
    rw [lc2G] at h
    split at h
    · rename_i b h1
      split at h
      · rename_i bs h2
        cases h
        obtain ⟨l1, l2, e1, e2, items, l3, l4, e3, e4, e5, e6, e7⟩ := hb a _ h1
        simp only [Option.isSome_some] at e2
        simp only [List.map_cons, lc2Run, e1, e2, e3, e4, decide_eq_true e5, Bool.and_self, if_true, e6, e7, lc2_run hb as bs h2, List.map_append]
      · cases h
    · rename_i h1
      obtain ⟨l1, l2, e1, e2, e5⟩ := hb a _ h1
      simp only [Option.isSome_none] at e2
      simp only [List.map_cons, lc2Run, e1, e2, e5, lc2_run hb as ys h]
    · cases h
theorem e_lc2 {own own1 : List Nat} {p p1 : Pat} {it it1 : IT} {cs cs1 : List ME} {elt : ME} {loc l1 w : Loc} {ga : α → D} {gc : β → D} {f : α → Option (Option (List β))} {xs : List α} {ys zs : List β} (h1 : evI G C it loc = some (xs.map ga, l1)) (h2 : own.all (freeD l1) = true) (hw : wipeL l1 own = w) (hz : Nat.ble xs.length 1000000 = true) (h3 : lc2G f xs = some ys) (h6 : fitL ys = some zs)
    (hb : ∀ a o, f a = some o → ∃ l1 l2, bindP p (ga a) w = some l1 ∧ evC G C cs l1 = some (o.isSome, l2) ∧ match o with | none => wipeL l2 own = w | some bs => ∃ items l3 l4, evI G C it1 l2 = some (items, l3) ∧ own1.all (freeD l3) = true ∧ items.length ≤ big ∧ lcRun own1 p1 (evC G C cs1) (ev G C elt) items (wipeL l3 own1) = some (bs.map gc, l4) ∧ wipeL l4 own = w) (h5 : back l1 w own = l1) :
    ev G C (.lc2 own p it cs own1 p1 it1 cs1 elt) loc = some (.new (zs.map gc), l1) := by
  subst hw
  obtain ⟨rfl, hf⟩ := fitL_ok h6
  rw [ev, h1]
  have hz' : (xs.map ga).length ≤ big := by rw [List.length_map]; exact Nat.ble_eq.mp hz
  have hr := lc2_run (own := own) (p := p) (cond := evC G C cs) (src := evI G C it1) (cond1 := evC G C cs1) (elt := ev G C elt) hb xs zs h3
  have hf' : (zs.map gc).length ≤ big := by rw [List.length_map]; exact hf
  simp only [h2, decide_eq_true hz', Bool.and_self, if_true, hr, h5, if_pos hf']
/-- two sources, both lengths looked at -/
def lc2F {γ : Type} (f : α → Option (Option (List γ))) (xs : List α) : Option (List γ) := match Nat.ble xs.length 1000000 with
  | true => match lc2G f xs with
    | some ys => fitL ys
    | none => none
  | false => none
theorem lcG_run {own : List Nat} {p : Pat} {cond : Loc → Option (Bool × Loc)} {elt : Loc → Option (R × Loc)} {w : Loc} {ga : α → D} {gb : β → D} {f : α → Option (Option β)} {xs : List α} {ys : List β} (h3 : lcG f xs = some ys)
    (hb : ∀ a o, f a = some o → ∃ l1 l2, bindP p (ga a) w = some l1 ∧ cond l1 = some (o.isSome, l2) ∧ match o with | none => wipeL l2 own = w | some b => ∃ r l3, elt l2 = some (r, l3) ∧ toVal r = some (gb b) ∧ wipeL l3 own = w) :
    (xs.map ga).length ≤ big ∧ lcRun own p cond elt (xs.map ga) w = some (ys.map gb, w) := by
  unfold lcG at h3
  split at h3
  · rename_i hz
    exact ⟨by rw [List.length_map]; exact Nat.ble_eq.mp hz, lcT_run hb xs ys h3⟩
  · cases h3
theorem e_lc2F {own own1 : List Nat} {p p1 : Pat} {it it1 : IT} {cs cs1 : List ME} {elt : ME} {loc l1 w : Loc} {ga : α → D} {gc : β → D} {f : α → Option (Option (List β))} {xs : List α} {zs : List β} (h1 : evI G C it loc = some (xs.map ga, l1)) (h2 : own.all (freeD l1) = true) (hw : wipeL l1 own = w) (h3 : lc2F f xs = some zs)
    (hb : ∀ a o, f a = some o → ∃ l1 l2, bindP p (ga a) w = some l1 ∧ evC G C cs l1 = some (o.isSome, l2) ∧ match o with | none => wipeL l2 own = w | some bs => ∃ items l3 l4, evI G C it1 l2 = some (items, l3) ∧ own1.all (freeD l3) = true ∧ items.length ≤ big ∧ lcRun own1 p1 (evC G C cs1) (ev G C elt) items (wipeL l3 own1) = some (bs.map gc, l4) ∧ wipeL l4 own = w) (h5 : back l1 w own = l1) :
    ev G C (.lc2 own p it cs own1 p1 it1 cs1 elt) loc = some (.new (zs.map gc), l1) := by
  unfold lc2F at h3
  split at h3
  · rename_i hz
    split at h3
    · rename_i ys h4
      exact e_lc2 h1 h2 hw hz h4 h3 hb h5
    · cases h3
  · cases h3
end
/-! statements -/
section
variable {G : Nat → D} {C : CallS} {F : Nat}
/-- pieces of a body, one behind another -/
def sxK (G : Nat → D) (C : CallS) (F : Nat) : List (List MS) → Loc → Option Out
  | [], loc => some (.nx loc)
  | ss :: K, loc => match sxs G C F ss loc with
    | some (.nx l1) => sxK G C F K l1
    | o => o
def FinP (G : Nat → D) (C : CallS) (F : Nat) (P : Option Out → Prop) (K : List (List MS)) (loc : Loc) : Prop := P (sxK G C F K loc)
variable {P : Option Out → Prop} {K : List (List MS)} {loc l1 l2 l3 l4 l5 : Loc} {s : MS} {ss t f : List MS} {c e a b : ME} {x : Bool} {r ra rb rc : R} {d d1 d2 d3 : D} {i j k : Nat} {p : Pat} {ds : List D}
theorem k_nx (h1 : sx G C F s loc = some (.nx l1)) (h2 : FinP G C F P (ss :: K) l1) : FinP G C F P ((s :: ss) :: K) loc := by
  unfold FinP at h2 ⊢
  have e : sxK G C F ((s :: ss) :: K) loc = sxK G C F (ss :: K) l1 := by
    simp only [sxK, sxs, h1]
  rw [e]; exact h2
theorem k_nil (h2 : FinP G C F P K loc) : FinP G C F P ([] :: K) loc := by
  unfold FinP at h2 ⊢
  simp only [sxK, sxs]; exact h2
theorem k_end (h : P (some (.nx loc))) : FinP G C F P [] loc := h
theorem sxs_stop {o : Out} (h1 : sx G C F s loc = some o) (hn : ∀ l, o ≠ .nx l) : sxK G C F ((s :: ss) :: K) loc = some o := by
  cases o with
  | nx l => exact absurd rfl (hn l)
  | rt r l => simp only [sxK, sxs, h1]
  | bk l => simp only [sxK, sxs, h1]
  | ct l => simp only [sxK, sxs, h1]
theorem k_rt (h1 : sx G C F s loc = some (.rt r l1)) (h : P (some (.rt r l1))) : FinP G C F P ((s :: ss) :: K) loc := by
  unfold FinP
  rw [sxs_stop h1 (fun _ z => by cases z)]; exact h
theorem k_bk (h : P (some (.bk loc))) : FinP G C F P ((.brk :: ss) :: K) loc := by
  unfold FinP
  rw [sxs_stop (o := .bk loc) (by rw [sx]) (fun _ z => by cases z)]; exact h
theorem k_ct (h : P (some (.ct loc))) : FinP G C F P ((.cont :: ss) :: K) loc := by
  unfold FinP
  rw [sxs_stop (o := .ct loc) (by rw [sx]) (fun _ z => by cases z)]; exact h
theorem k_T (h1 : evT G C c loc = some (x, l1)) (hx : x = true) (h2 : FinP G C F P (t :: ss :: K) l1) : FinP G C F P ((.ite c t f :: ss) :: K) loc := by
  subst hx
  unfold FinP at h2 ⊢
  have e : sxK G C F ((.ite c t f :: ss) :: K) loc = sxK G C F (t :: ss :: K) l1 := by
    simp only [sxK, sxs, sx, h1]
    cases sxs G C F t l1 with
    | none => rfl
    | some o => cases o <;> rfl
  rw [e]; exact h2
theorem k_F (h1 : evT G C c loc = some (x, l1)) (hx : x = false) (h2 : FinP G C F P (f :: ss :: K) l1) : FinP G C F P ((.ite c t f :: ss) :: K) loc := by
  subst hx
  unfold FinP at h2 ⊢
  have e : sxK G C F ((.ite c t f :: ss) :: K) loc = sxK G C F (f :: ss :: K) l1 := by
    simp only [sxK, sxs, sx, h1]
    cases sxs G C F f l1 with
    | none => rfl
    | some o => cases o <;> rfl
  rw [e]; exact h2
theorem k_J (hJ : FinP G C F (fun o => o = some (.nx l1)) [[s]] loc) (h : FinP G C F P (ss :: K) l1) : FinP G C F P ((s :: ss) :: K) loc := by
  refine k_nx ?_ h
  unfold FinP at hJ
  simp only [sxK, sxs] at hJ
  cases h1 : sx G C F s loc with
  | none => rw [h1] at hJ; cases hJ
  | some o =>
    rw [h1] at hJ
    cases o with
    | nx l => simpa only [sxs] using hJ
    | rt r l => cases hJ
    | bk l => cases hJ
    | ct l => cases hJ
/-! single statements -/
theorem s_set (h1 : ev G C e loc = some (r, l1)) (h2 : toVal r = some d) (h3 : bindP p d l1 = some l2) : sx G C F (.set p e) loc = some (.nx l2) := X.s_set h1 h2 h3
theorem s_own (h1 : ev G C e loc = some (.new ds, l1)) (h3 : put l1 i (.own false ds) = some l2) : sx G C F (.own i e) loc = some (.nx l2) := X.s_own h1 h3
theorem s_ex (h1 : ev G C e loc = some (r, l1)) : sx G C F (.ex e) loc = some (.nx l1) := X.s_ex h1
theorem s_retV (h1 : ev G C e loc = some (.val d, l1)) : sx G C F (.ret e) loc = some (.rt (.val d) l1) := X.s_retV h1
theorem s_retL (h1 : ev G C e loc = some (.new ds, l1)) : sx G C F (.ret e) loc = some (.rt (.new ds) l1) := X.s_retL h1
theorem s_retN : sx G C F .retN loc = some (.rt (.val .non) loc) := by rw [sx]
theorem s_retO (h : loc[i]? = some (.own false ds)) : sx G C F (.retO i) loc = some (.rt (.new ds) (loc.set i .none)) := by rw [sx, h]
theorem s_pass : sx G C F .pass loc = some (.nx loc) := by rw [sx]
theorem s_forget {is : List Nat} (h : is.all (free loc) = true) (h2 : wipeL loc is = l1) : sx G C F (.forget is) loc = some (.nx l1) := by rw [sx, if_pos h, h2]
theorem s_par (h1 : ev G C a loc = some (ra, l1)) (h2 : ev G C b l1 = some (rb, l2)) (h3 : toVal ra = some d) (h4 : toVal rb = some d1) (h5 : put l2 i (.dat d) = some l3) (h6 : put l3 j (.dat d1) = some l4) : sx G C F (.par i j a b) loc = some (.nx l4) := by
  rw [sx, h1]; simp only [h2, h3, h4, h5, h6, Option.map_some]
theorem s_par3 (h1 : ev G C a loc = some (ra, l1)) (h2 : ev G C b l1 = some (rb, l2)) (h7 : ev G C c l2 = some (rc, l3)) (h3 : toVal ra = some d) (h4 : toVal rb = some d1) (h8 : toVal rc = some d2) (h5 : put l3 i (.dat d) = some l4) (h6 : put l4 j (.dat d1) = some l5) {l6 : Loc} (h9 : put l5 k (.dat d2) = some l6) : sx G C F (.par3 i j k a b c) loc = some (.nx l6) := by
  rw [sx, h1]; simp only [h2, h7, h3, h4, h8, h5, h6, h9, Option.map_some]
theorem s_augA {n m : Int} (h0 : loc[i]? = some (.dat (.int n))) (h1 : ev G C e loc = some (r, l1)) (h2 : toVal r = some (.int m)) (h3 : put l1 i (.dat (.int (n + m))) = some l2) : sx G C F (.aug i .add e) loc = some (.nx l2) := by
  rw [sx, h0]; simp only [h1, h2, h3, Option.map_some]
theorem s_augS {n m : Int} (h0 : loc[i]? = some (.dat (.int n))) (h1 : ev G C e loc = some (r, l1)) (h2 : toVal r = some (.int m)) (h3 : put l1 i (.dat (.int (n - m))) = some l2) : sx G C F (.aug i .sub e) loc = some (.nx l2) := by
  rw [sx, h0]; simp only [h1, h2, h3, Option.map_some]
end
/-! loops -/
/-- the last of a loop: it is through, or an answer -/
inductive Stop (σ ρ : Type) where
  | on (s : σ)
  | rt (r : ρ)
section
variable {G : Nat → D} {C : CallS} {F : Nat} {α β σ ρ : Type}
def bndS (o : Option (Stop σ ρ)) (f : σ → Option β) (g : ρ → Option β) : Option β := match o with
  | some (.on s) => f s
  | some (.rt r) => g r
  | none => none
def forT (f : σ → α → Option (Flow σ ρ)) : σ → List α → Option (Stop σ ρ)
  | s, [] => some (.on s)
  | s, x :: xs => match f s x with
    | some (.nx s') => forT f s' xs
    | some (.bk s') => some (.on s')
    | some (.rt r) => some (.rt r)
    | none => none
def foldT (f : σ → α → Option σ) : σ → List α → Option σ
  | s, [] => some s
  | s, x :: xs => match f s x with
    | some s' => foldT f s' xs
    | none => none
def whT (c : σ → Option Bool) (f : σ → Option (Flow σ ρ)) : Nat → σ → Option (Stop σ ρ)
  | 0, _ => none
  | n + 1, s => match c s with
    | some true => match f s with
      | some (.nx s') => whT c f n s'
      | some (.bk s') => some (.on s')
      | some (.rt r) => some (.rt r)
      | none => none
    | some false => some (.on s)
    | none => none
variable {P : Option Out → Prop} {K : List (List MS)} {loc l1 : Loc} {ss body : List MS} {p : Pat} {it : IT} {c : ME} {L : σ → Loc} {RP : ρ → R → Loc → Prop} {g : α → D} {xs : List α} {s0 : σ} {res : β} {k1 : σ → Option β} {k2 : ρ → Option β}
def FlowOk (L : σ → Loc) (RP : ρ → R → Loc → Prop) (fl : Flow σ ρ) (o : Option Out) : Prop := match fl with
  | .nx s => o = some (.nx (L s)) ∨ o = some (.ct (L s))
  | .bk s => o = some (.bk (L s))
  | .rt r => ∃ l R, o = some (.rt R l) ∧ RP r R l
def FoldOk (L : σ → Loc) (s : σ) (o : Option Out) : Prop := o = some (.nx (L s)) ∨ o = some (.ct (L s))
def StopOk (L : σ → Loc) (RP : ρ → R → Loc → Prop) (fl : Stop σ ρ) (o : Option Out) : Prop := match fl with
  | .on s => o = some (.nx (L s))
  | .rt r => ∃ l R, o = some (.rt R l) ∧ RP r R l
theorem sxK_one {b : List MS} {l : Loc} : sxK G C F [b] l = sxs G C F b l := by
  simp only [sxK]
  cases sxs G C F b l with
  | none => rfl
  | some o => cases o <;> rfl
theorem for_run {f : σ → α → Option (Flow σ ρ)} (hb : ∀ s x o, f s x = some o → ∃ l1, bindP p (g x) (L s) = some l1 ∧ FinP G C F (FlowOk L RP o) [body] l1) :
    ∀ (xs : List α) (s : σ) (o : Stop σ ρ), forT f s xs = some o → StopOk L RP o (forRun p (sxs G C F body) (xs.map g) (L s))
  | [], s, o, h => by
    rw [forT] at h
    cases h
    rfl
  | x :: xs, s, o, h => by
    rw [forT] at h
    split at h
    · rename_i s' h1
      obtain ⟨l1, e1, e2⟩ := hb s x _ h1
      unfold FinP at e2
      rw [sxK_one] at e2
      have ih := for_run hb xs s' o h
      rcases e2 with e2 | e2 <;> simp only [List.map_cons, forRun, e1, e2] <;> exact ih
    · rename_i s' h1
      obtain ⟨l1, e1, e2⟩ := hb s x _ h1
      unfold FinP at e2
      rw [sxK_one] at e2
      cases h
      have e2' : sxs G C F body l1 = some (.bk (L s')) := e2
      show forRun p _ _ _ = _
      simp only [List.map_cons, forRun, e1, e2']
    · rename_i r h1
      obtain ⟨l1, e1, e2⟩ := hb s x _ h1
      unfold FinP at e2
      rw [sxK_one] at e2
      cases h
      obtain ⟨l, R, e3, e4⟩ := e2
      exact ⟨l, R, by simp only [List.map_cons, forRun, e1, e3], e4⟩
    · cases h
theorem fold_run {f : σ → α → Option σ} (hb : ∀ s x o, f s x = some o → ∃ l1, bindP p (g x) (L s) = some l1 ∧ FinP G C F (FoldOk L o) [body] l1) :
    ∀ (xs : List α) (s : σ) (o : σ), foldT f s xs = some o → forRun p (sxs G C F body) (xs.map g) (L s) = some (.nx (L o))
  | [], s, o, h => by
    rw [foldT] at h
    cases h
    rfl
  | x :: xs, s, o, h => by
    rw [foldT] at h
    split at h
    · rename_i s' h1
      obtain ⟨l1, e1, e2⟩ := hb s x _ h1
      unfold FinP at e2
      rw [sxK_one] at e2
      have ih := fold_run hb xs s' o h
      rcases e2 with e2 | e2 <;> simp only [List.map_cons, forRun, e1, e2] <;> exact ih
    · cases h
theorem k_for {f : σ → α → Option (Flow σ ρ)} (h1 : evI G C it loc = some (xs.map g, l1)) (hl : l1 = L s0) (h : bndS (forT f s0 xs) k1 k2 = some res)
    (hb : ∀ s x o, f s x = some o → ∃ l1, bindP p (g x) (L s) = some l1 ∧ FinP G C F (FlowOk L RP o) [body] l1)
    (h2 : ∀ s, k1 s = some res → FinP G C F P (ss :: K) (L s)) (h3 : ∀ r, k2 r = some res → ∀ R l, RP r R l → P (some (.rt R l))) : FinP G C F P ((.loop p it body :: ss) :: K) loc := by
  subst hl
  cases hf : forT f s0 xs with
  | none => rw [hf] at h; cases h
  | some o =>
    rw [hf] at h
    have hr := for_run hb xs s0 o hf
    have he : sx G C F (.loop p it body) loc = forRun p (sxs G C F body) (xs.map g) (L s0) := by rw [sx, h1]
    cases o with
    | on s => exact k_nx (he.trans hr) (h2 s h)
    | rt r =>
      obtain ⟨l, R, e3, e4⟩ := hr
      exact k_rt (he.trans e3) (h3 r h R l e4)
theorem k_fold {f : σ → α → Option σ} (h1 : evI G C it loc = some (xs.map g, l1)) (hl : l1 = L s0) (h : bnd (foldT f s0 xs) k1 = some res)
    (hb : ∀ s x o, f s x = some o → ∃ l1, bindP p (g x) (L s) = some l1 ∧ FinP G C F (FoldOk L o) [body] l1)
    (h2 : ∀ s, k1 s = some res → FinP G C F P (ss :: K) (L s)) : FinP G C F P ((.loop p it body :: ss) :: K) loc := by
  subst hl
  obtain ⟨s, hf, h⟩ := bnd_some h
  have hr := fold_run hb xs s0 s hf
  have he : sx G C F (.loop p it body) loc = forRun p (sxs G C F body) (xs.map g) (L s0) := by rw [sx, h1]
  exact k_nx (he.trans hr) (h2 s h)
theorem wh_run {ct : σ → Option Bool} {f : σ → Option (Flow σ ρ)} (hc : ∀ s b, ct s = some b → evT G C c (L s) = some (b, L s)) (hb : ∀ s o, f s = some o → FinP G C F (FlowOk L RP o) [body] (L s)) :
    ∀ (n : Nat) (s : σ) (o : Stop σ ρ), whT ct f n s = some o → StopOk L RP o (whRun (evT G C c) (sxs G C F body) n (L s))
  | 0, s, o, h => by rw [whT] at h; cases h
  | n + 1, s, o, h => by
    rw [whT] at h
    split at h
    · rename_i h0
      have e1 := hc s _ h0
      split at h
      · rename_i s' h1
        have e2 := hb s _ h1
        unfold FinP at e2
        rw [sxK_one] at e2
        have ih := wh_run hc hb n s' o h
        rcases e2 with e2 | e2 <;> simp only [whRun, e1, e2] <;> exact ih
      · rename_i s' h1
        have e2 := hb s _ h1
        unfold FinP at e2
        rw [sxK_one] at e2
        cases h
        have e2' : sxs G C F body (L s) = some (.bk (L s')) := e2
        show whRun _ _ _ _ = _
        simp only [whRun, e1, e2']
      · rename_i r h1
        have e2 := hb s _ h1
        unfold FinP at e2
        rw [sxK_one] at e2
        cases h
        obtain ⟨l, R, e3, e4⟩ := e2
        exact ⟨l, R, by simp only [whRun, e1, e3], e4⟩
      · cases h
    · rename_i h0
      have e1 := hc s _ h0
      cases h
      show whRun _ _ _ _ = _
      simp only [whRun, e1]
    · cases h
theorem k_wh {ct : σ → Option Bool} {f : σ → Option (Flow σ ρ)} (hl : loc = L s0) (h : bndS (whT ct f F s0) k1 k2 = some res)
    (hc : ∀ s b, ct s = some b → evT G C c (L s) = some (b, L s)) (hb : ∀ s o, f s = some o → FinP G C F (FlowOk L RP o) [body] (L s))
    (h2 : ∀ s, k1 s = some res → FinP G C F P (ss :: K) (L s)) (h3 : ∀ r, k2 r = some res → ∀ R l, RP r R l → P (some (.rt R l))) : FinP G C F P ((.wh c body :: ss) :: K) loc := by
  subst hl
  cases hf : whT ct f F s0 with
  | none => rw [hf] at h; cases h
  | some o =>
    rw [hf] at h
    have hr := wh_run hc hb F s0 o hf
    have he : sx G C F (.wh c body) (L s0) = whRun (evT G C c) (sxs G C F body) F (L s0) := by rw [sx]
    cases o with
    | on s => exact k_nx (he.trans hr) (h2 s h)
    | rt r =>
      obtain ⟨l, R, e3, e4⟩ := hr
      exact k_rt (he.trans e3) (h3 r h R l e4)
end
/-! defs -/
section
variable {G : Nat → D} {C : CallS} {F : Nat}
/-- how a def ends -/
def Ends (r : R) (a a' : Loc) (o : Option Out) : Prop := (∃ l, o = some (.rt r l) ∧ lent a l = some a') ∨ (r = .val .non ∧ ∃ l, o = some (.nx l) ∧ lent a l = some a')
theorem run_of {d : FD} {a a' l0 : Loc} {r : R} (h0 : a.length = d.arity) (hl : a ++ List.replicate (d.slots - d.arity) .none = l0) (h : FinP G C F (Ends r a a') [d.body] l0) : runFD G C F d a = some (r, a') := by
  subst hl
  unfold FinP at h
  rw [sxK_one] at h
  rcases h with ⟨l, e1, e2⟩ | ⟨rfl, l, e1, e2⟩
  · exact run_rt h0 e1 e2
  · exact run_nx h0 e1 e2
theorem call_of {T : List FD} {k j : Nat} {d : FD} {a a' l0 : Loc} {r : R} (hj : T[j]? = some d) (hc : d.ct = none) (h0 : a.length = d.arity) (hl : a ++ List.replicate (d.slots - d.arity) .none = l0) (h : FinP G (callN G T F k) F (Ends r a a') [d.body] l0) : callN G T F (k + 1) j a = some (r, a') := by
  rw [callN_eq hj hc]
  exact run_of h0 hl h
theorem ends_rt {r : R} {a a' l : Loc} (h : lent a l = some a') : Ends r a a' (some (.rt r l)) := .inl ⟨l, rfl, h⟩
theorem ends_nx {a a' l : Loc} (h : lent a l = some a') : Ends (.val .non) a a' (some (.nx l)) := .inr ⟨rfl, l, rfl, h⟩
theorem ctRun_pre {c : Nat} {post : List MS} {fs : List ME} {acc : List D} : ∀ (pre : List MS) (loc l1 : Loc), sxs G C F pre loc = some (.nx l1) → ctRun G C F c post pre fs acc loc = ctRun.ctRunF G C F c post fs acc l1
  | [], loc, l1, h => by
    rw [sxs] at h
    cases h
    rw [ctRun]
  | m :: pre, loc, l1, h => by
    rw [sxs] at h
    rw [ctRun]
    cases h1 : sx G C F m loc with
    | none => rw [h1] at h; cases h
    | some o =>
      rw [h1] at h
      cases o with
      | nx l => exact ctRun_pre pre l l1 h
      | rt r l => cases h
      | bk l => cases h
      | ct l => cases h
/-- the fields, one behind another -/
inductive Flds (G : Nat → D) (C : CallS) : List ME → List D → Loc → Loc → Prop
  | nil {loc : Loc} : Flds G C [] [] loc loc
  | cons {e : ME} {es : List ME} {d : D} {ds : List D} {r : R} {loc l1 l2 : Loc} (h1 : ev G C e loc = some (r, l1)) (h2 : toVal r = some d) (h3 : Flds G C es ds l1 l2) : Flds G C (e :: es) (d :: ds) loc l2
theorem flds_run {c : Nat} {post : List MS} {fs : List ME} {ds : List D} {loc l1 : Loc} (h : Flds G C fs ds loc l1) : ∀ {acc : List D} {l2 : Loc}, sxs G C F post (l1.set 0 (.dat (.ins c (acc ++ ds)))) = some (.nx l2) → ctRun.ctRunF G C F c post fs acc loc = some (acc ++ ds) := by
  induction h with
  | nil =>
    intro acc l2 h2
    rw [List.append_nil] at h2 ⊢
    rw [ctRun.ctRunF, h2]
  | cons h1 h2 h3 ih =>
    intro acc l2 h4
    rw [ctRun.ctRunF, h1]
    simp only [h2]
    have := ih (acc := acc ++ [_]) (l2 := l2) (by rw [List.append_assoc]; exact h4)
    rw [this, List.append_assoc]; rfl
theorem make_of {T : List FD} {k j n : Nat} {d : FD} {fs : List ME} {ds es : List D} {l0 l1 l2 : Loc} (hj : T[j]? = some d) (hc : d.ct = some ⟨n, fs, []⟩) (h0 : ds.length + 1 = d.arity) (hl : .hid :: (ds.map Slot.dat ++ List.replicate (d.slots - d.arity) .none) = l0)
    (h : FinP G (callN G T F k) F (fun o => o = some (.nx l1)) [d.body] l0) (hf : Flds G (callN G T F k) fs es l1 l2) : callN G T F (k + 2) j (ds.map Slot.dat) = some (.val (.ins n es), ds.map Slot.dat) := by
  subst hl
  unfold FinP at h
  rw [sxK_one] at h
  rw [callN_eqC hj hc]
  unfold runCT
  rw [if_pos (by rw [List.length_map]; exact h0), if_pos (all_dat ds), ctRun_pre _ _ _ h]
  have := flds_run (F := F) (c := n) (post := []) hf (acc := []) (l2 := l2.set 0 (.dat (.ins n ([] ++ es)))) (by rw [sxs])
  rw [List.nil_append] at this
  rw [this]
end
end Y
end MP

/-! plain tools over typed mirrors: wells and draws, cells, loops, ends of turnings -/
namespace MP
namespace Z
open PySem L2
/-! steps that answer -/
section
variable {α β γ σ ρ : Type}
theorem bnd_eq {o : Option α} {a : α} {f : α → Option β} (h : o = some a) : bnd o f = f a := by rw [h]; rfl
theorem bnd2_eq {o : Option (α × β)} {a : α} {b : β} {f : α → β → Option γ} (h : o = some (a, b)) : bnd2 o f = f a b := by rw [h]; rfl
theorem for_all {f : σ → α → Option (Flow σ ρ)} {s : σ} {xs : List α} (h : ∀ x ∈ xs, f s x = some (.nx s)) : Y.forT f s xs = some (.on s) := by
  induction xs with
  | nil => rw [Y.forT]
  | cons x xs ih => rw [Y.forT, h x (List.mem_cons_self ..)]; exact ih fun y hy => h y (List.mem_cons_of_mem _ hy)
/-- a loop that keeps something, turn by turn -/
theorem fold_inv {f : σ → Int → Option σ} {I : Nat → σ → Prop} {n : Nat} {lo : Int} : ∀ (r k : Nat) (s : σ), k + r = n → I k s → (∀ k s, k < n → I k s → ∃ s', f s (lo + (k : Int)) = some s' ∧ I (k + 1) s') → ∃ s', Y.foldT f s (rngI (lo + (k : Int)) r) = some s' ∧ I n s'
  | 0, k, s, hk, h, _ => ⟨s, by rw [rngI, Y.foldT], by rw [← hk]; exact h⟩
  | r + 1, k, s, hk, h, hf => by
    obtain ⟨s1, e1, h1⟩ := hf k s (by omega) h
    obtain ⟨s2, e2, h2⟩ := fold_inv r (k + 1) s1 (by omega) h1 hf
    refine ⟨s2, ?_, h2⟩
    rw [rngI, Y.foldT, e1]
    have : lo + (k : Int) + 1 = lo + ((k + 1 : Nat) : Int) := by omega
    rw [this]; exact e2
end
/-! operations that answer -/
theorem mod_pos {x n : Int} (h : 0 < n) : modT x n = some (x % n) := by
  unfold modT
  rw [posI_iff.mpr h]
  simp only [frI_eq]
theorem fdiv_pos {x n : Int} (h : 0 < n) (h1 : n < 2 ^ 62) : fdivT x n = some (x / n) := by
  unfold fdivT
  have : (posI n && Nat.blt (Nat.log2 (absN n)) 9000) = true := by
    rw [Bool.and_eq_true]
    refine ⟨posI_iff.mpr h, ?_⟩
    rw [Nat.blt_eq, absN_eq]
    have h2 : n.natAbs < 2 ^ 62 := by omega
    by_cases hz : n.natAbs = 0
    · rw [hz]; decide
    · have := (Nat.log2_lt hz).mpr h2
      omega
  rw [this]
  simp only [frI_eq]
theorem mul_l {x y : Int} (h : -(2 ^ 60) < x) (h1 : x < 2 ^ 60) : mulT x y = some (x * y) := by
  unfold mulT
  have : mulQ x y = true := by
    unfold mulQ
    simp only [Bool.or_eq_true, Nat.blt_eq, absN_eq]
    exact .inl (.inl (by omega))
  rw [this]
  simp only [frI_eq]
theorem mul_r {x y : Int} (h : -(2 ^ 60) < y) (h1 : y < 2 ^ 60) : mulT x y = some (x * y) := by
  unfold mulT
  have : mulQ x y = true := by
    unfold mulQ
    simp only [Bool.or_eq_true, Nat.blt_eq, absN_eq]
    exact .inl (.inr (by omega))
  rw [this]
  simp only [frI_eq]
theorem pow5 {x : Int} (h : 0 ≤ x) (h1 : x < 2 ^ 60) : powT x 5 = some (x ^ 5) := by
  unfold powT
  have : (leI 0 5 && leI 5 1000000 && Nat.blt (absN x) 18446744073709551616) = true := by
    simp only [Bool.and_eq_true, Nat.blt_eq, absN_eq]
    exact ⟨by decide, by omega⟩
  rw [this]; rfl
theorem rng1 {n : Int} (h : 0 ≤ n) (h1 : n < 2 ^ 60) : rng1T n = some (rngI 0 n.toNat) := by
  unfold rng1T
  have : smallQ n = true := by
    unfold smallQ; rw [Nat.blt_eq, absN_eq]; omega
  rw [this]
theorem rng2 {m n : Int} (h : -(2 ^ 60) < m) (h1 : m < 2 ^ 60) (h2 : -(2 ^ 60) < n) (h3 : n < 2 ^ 60) : rng2T m n = some (rngI m (n - m).toNat) := by
  unfold rng2T
  have : (smallQ m && smallQ n) = true := by
    rw [Bool.and_eq_true]; unfold smallQ; rw [Nat.blt_eq, Nat.blt_eq, absN_eq, absN_eq]; omega
  rw [this]
theorem fit {α : Type} {xs : List α} (h : xs.length ≤ 1000) : fitL xs = some xs := by
  unfold fitL
  rw [Nat.ble_eq.mpr (show xs.length ≤ 1000000 by omega)]
theorem app {α : Type} {xs : List α} {x : α} (h : xs.length ≤ 1000) : appT xs x = some (xs ++ [x]) := by
  unfold appT
  rw [Nat.blt_eq.mpr (show xs.length < 1000000 by omega)]
theorem ix_at {α : Type} {xs : List α} {i : Nat} : ixT xs (i : Int) = xs[i]? := rfl
theorem popAt {α : Type} {xs : List α} {i : Nat} {x : α} (h : xs[i]? = some x) (hi : i < 2 ^ 60) : popAtT xs (i : Int) = some (x, xs.eraseIdx i) := by
  unfold popAtT
  have : (leI 0 (i : Int) && ltI (i : Int) 4611686018427387904) = true := by
    simp only [Bool.and_eq_true, leI_eq, ltI_eq, decide_eq_true_eq]; omega
  rw [this]
  simp only [Int.toNat_natCast, h]
theorem addL_le {α : Type} {xs ys : List α} (h : xs.length + ys.length ≤ 1000) : addL xs ys = some (xs ++ ys) := by
  unfold addL
  rw [Nat.ble_eq.mpr (show xs.length + ys.length ≤ 1000000 by omega)]
theorem rngI_len : ∀ (n : Nat) (lo : Int), (rngI lo n).length = n
  | 0, _ => rfl
  | n + 1, lo => by rw [rngI, List.length_cons, rngI_len n]
theorem ltI_t {i j : Int} (h : i < j) : ltI i j = true := by rw [ltI_eq]; exact decide_eq_true h
theorem ltI_f {i j : Int} (h : ¬ i < j) : ltI i j = false := by rw [ltI_eq]; exact decide_eq_false h
theorem eqI_t {i j : Int} (h : i = j) : eqI i j = true := (eqI_iff i j).mpr h
theorem eqI_f {i j : Int} (h : i ≠ j) : eqI i j = false := by
  cases he : eqI i j with
  | false => rfl
  | true => exact absurd ((eqI_iff i j).mp he) h
/-! wells -/
def IsW (m : Nat) (w : List Int) : Prop := ∃ a c t : Int, w = [a, c, t] ∧ 0 ≤ t ∧ t ≤ m
theorem IsW.mono {m k : Nat} {w : List Int} (h : IsW m w) (hk : m ≤ k) : IsW k w := by
  obtain ⟨a, c, t, h1, h2, h3⟩ := h
  exact ⟨a, c, t, h1, h2, by omega⟩
/-- a draw -/
def Draws (d : List Int → Int → Option (Int × List Int)) : Prop := ∀ (m : Nat) (w : List Int) (n : Int), IsW m w → 0 < n → n < 2 ^ 60 → m < 2 ^ 40 → ∃ x w', d w n = some (x, w') ∧ 0 ≤ x ∧ x < n ∧ IsW (m + 1) w'
def drawTA (p0 : List Int) (p1 : Int) : Option (Int × (List Int)) := bnd (ixT p0 0) fun v1 => cond (ltI 0 v1) (bnd (ixT p0 0) fun v2 => bnd (modT v2 p1) fun v3 => bnd (ixT p0 0) fun v4 => bnd (fdivT v4 p1) fun v5 => bnd (putT p0 0 (v5)) fun v6 => some (v3, v6)) (bnd (ixT p0 2) fun v7 => bnd (putT p0 2 ((v7 + 1))) fun v8 => bnd (ixT v8 1) fun v9 => bnd (fdivT v9 2147483629) fun v10 => bnd (modT v10 65521) fun v11 => bnd (ixT v8 1) fun v12 => bnd (modT v12 2147483629) fun v13 => bnd (ixT v8 2) fun v14 => bnd (mulT 7919 v14) fun v15 => bnd (powT (((v13 + v15) + v11) + 1) 5) fun v16 => bnd (modT v16 2147483647) fun v17 => bnd (fdivT v17 1009) fun v18 => bnd (ixT v8 2) fun v19 => bnd (mulT v17 ((v18 + 69621) + v19)) fun v20 => bnd (modT v20 2147483629) fun v21 => bnd (fdivT v21 2003) fun v22 => bnd (mulT v21 (v22 + 40692)) fun v23 => bnd (modT v23 2147483399) fun v24 => bnd (modT v24 p1) fun v25 => some (v25, v8))
def drawTB (p0 : List Int) (p1 : Int) : Option (Int × (List Int)) := bnd (ixT p0 0) fun v1 => cond (ltI 0 v1) (bnd (ixT p0 0) fun v2 => bnd (modT v2 p1) fun v3 => bnd (ixT p0 0) fun v4 => bnd (fdivT v4 p1) fun v5 => bnd (putT p0 0 (v5)) fun v6 => some (v3, v6)) (bnd (ixT p0 2) fun v7 => bnd (putT p0 2 ((v7 + 1))) fun v8 => bnd (ixT v8 1) fun v9 => bnd (modT v9 2147483587) fun v10 => bnd (ixT v8 1) fun v11 => bnd (fdivT v11 2147483587) fun v12 => bnd (modT v12 90001) fun v13 => bnd (mulT v13 23) fun v14 => bnd (ixT v8 2) fun v15 => bnd (mulT 6373 v15) fun v16 => bnd (powT (((v10 + v14) + v16) + 11) 5) fun v17 => bnd (modT v17 2147483629) fun v18 => bnd (fdivT v18 977) fun v19 => bnd (ixT v8 2) fun v20 => bnd (mulT v18 ((v19 + 48611) + v20)) fun v21 => bnd (modT v21 2147483647) fun v22 => bnd (fdivT v22 1999) fun v23 => bnd (mulT v22 (v23 + 30011)) fun v24 => bnd (modT v24 2147483579) fun v25 => bnd (modT v25 p1) fun v26 => some (v26, v8))
theorem drawsA : Draws drawTA := fun m w n hw h0 h1 hm => by
  obtain ⟨a, c, t, rfl, t0, t1⟩ := hw
  unfold drawTA
  rw [bnd_eq (show ixT [a, c, t] 0 = some a from rfl)]
  by_cases ha : 0 < a
  · refine ⟨a % n, [a / n, c, t], ?_, Int.emod_nonneg _ (by omega), Int.emod_lt_of_pos _ h0, _, _, _, rfl, t0, by omega⟩
    rw [ltI_t ha, cond_true, bnd_eq (show ixT [a, c, t] 0 = some a from rfl), bnd_eq (mod_pos h0), bnd_eq (show ixT [a, c, t] 0 = some a from rfl), bnd_eq (fdiv_pos h0 (by omega))]
    rfl
  · rw [ltI_f ha]
    simp only [cond_false]
    rw [bnd_eq (show ixT [a, c, t] 2 = some t from rfl), bnd_eq (show putT [a, c, t] 2 (t + 1) = some [a, c, t + 1] from rfl), bnd_eq (show ixT [a, c, t + 1] 1 = some c from rfl), bnd_eq (fdiv_pos (by decide) (by decide)), bnd_eq (mod_pos (by decide)), bnd_eq (show ixT [a, c, t + 1] 1 = some c from rfl), bnd_eq (mod_pos (by decide)), bnd_eq (show ixT [a, c, t + 1] 2 = some (t + 1) from rfl), bnd_eq (mul_l (by decide) (by decide))]
    have e1 : c % 2147483629 < 2147483629 := Int.emod_lt_of_pos _ (by decide)
    have e2 : 0 ≤ c % 2147483629 := Int.emod_nonneg _ (by decide)
    have e3 : c / 2147483629 % 65521 < 65521 := Int.emod_lt_of_pos _ (by decide)
    have e4 : 0 ≤ c / 2147483629 % 65521 := Int.emod_nonneg _ (by decide)
    rw [bnd_eq (pow5 (by omega) (by omega)), bnd_eq (mod_pos (by decide))]
    generalize hx : (c % 2147483629 + 7919 * (t + 1) + c / 2147483629 % 65521 + 1) ^ (5 : Nat) % 2147483647 = x at *
    have x1 : x < 2147483647 := hx ▸ Int.emod_lt_of_pos _ (by decide)
    have x0 : 0 ≤ x := hx ▸ Int.emod_nonneg _ (by decide)
    rw [bnd_eq (fdiv_pos (by decide) (by decide)), bnd_eq (show ixT [a, c, t + 1] 2 = some (t + 1) from rfl), bnd_eq (mul_l (by omega) (by omega)), bnd_eq (mod_pos (by decide))]
    generalize hy : x * (x / 1009 + 69621 + (t + 1)) % 2147483629 = y at *
    have y1 : y < 2147483629 := hy ▸ Int.emod_lt_of_pos _ (by decide)
    have y0 : 0 ≤ y := hy ▸ Int.emod_nonneg _ (by decide)
    rw [bnd_eq (fdiv_pos (by decide) (by decide)), bnd_eq (mul_l (by omega) (by omega)), bnd_eq (mod_pos (by decide)), bnd_eq (mod_pos h0)]
    exact ⟨_, _, rfl, Int.emod_nonneg _ (by omega), Int.emod_lt_of_pos _ h0, _, _, _, rfl, by omega, by omega⟩
theorem drawsB : Draws drawTB := fun m w n hw h0 h1 hm => by
  obtain ⟨a, c, t, rfl, t0, t1⟩ := hw
  unfold drawTB
  rw [bnd_eq (show ixT [a, c, t] 0 = some a from rfl)]
  by_cases ha : 0 < a
  · refine ⟨a % n, [a / n, c, t], ?_, Int.emod_nonneg _ (by omega), Int.emod_lt_of_pos _ h0, _, _, _, rfl, t0, by omega⟩
    rw [ltI_t ha, cond_true, bnd_eq (show ixT [a, c, t] 0 = some a from rfl), bnd_eq (mod_pos h0), bnd_eq (show ixT [a, c, t] 0 = some a from rfl), bnd_eq (fdiv_pos h0 (by omega))]
    rfl
  · rw [ltI_f ha]
    simp only [cond_false]
    rw [bnd_eq (show ixT [a, c, t] 2 = some t from rfl), bnd_eq (show putT [a, c, t] 2 (t + 1) = some [a, c, t + 1] from rfl), bnd_eq (show ixT [a, c, t + 1] 1 = some c from rfl), bnd_eq (mod_pos (by decide)), bnd_eq (show ixT [a, c, t + 1] 1 = some c from rfl), bnd_eq (fdiv_pos (by decide) (by decide)), bnd_eq (mod_pos (by decide))]
    have e1 : c % 2147483587 < 2147483587 := Int.emod_lt_of_pos _ (by decide)
    have e2 : 0 ≤ c % 2147483587 := Int.emod_nonneg _ (by decide)
    have e3 : c / 2147483587 % 90001 < 90001 := Int.emod_lt_of_pos _ (by decide)
    have e4 : 0 ≤ c / 2147483587 % 90001 := Int.emod_nonneg _ (by decide)
    rw [bnd_eq (mul_r (by decide) (by decide)), bnd_eq (show ixT [a, c, t + 1] 2 = some (t + 1) from rfl), bnd_eq (mul_l (by decide) (by decide)), bnd_eq (pow5 (by omega) (by omega)), bnd_eq (mod_pos (by decide))]
    generalize hx : (c % 2147483587 + c / 2147483587 % 90001 * 23 + 6373 * (t + 1) + 11) ^ (5 : Nat) % 2147483629 = x at *
    have x1 : x < 2147483629 := hx ▸ Int.emod_lt_of_pos _ (by decide)
    have x0 : 0 ≤ x := hx ▸ Int.emod_nonneg _ (by decide)
    rw [bnd_eq (fdiv_pos (by decide) (by decide)), bnd_eq (show ixT [a, c, t + 1] 2 = some (t + 1) from rfl), bnd_eq (mul_l (by omega) (by omega)), bnd_eq (mod_pos (by decide))]
    generalize hy : x * (x / 977 + 48611 + (t + 1)) % 2147483647 = y at *
    have y1 : y < 2147483647 := hy ▸ Int.emod_lt_of_pos _ (by decide)
    have y0 : 0 ≤ y := hy ▸ Int.emod_nonneg _ (by decide)
    rw [bnd_eq (fdiv_pos (by decide) (by decide)), bnd_eq (mul_l (by omega) (by omega)), bnd_eq (mod_pos (by decide)), bnd_eq (mod_pos h0)]
    exact ⟨_, _, rfl, Int.emod_nonneg _ (by omega), Int.emod_lt_of_pos _ h0, _, _, _, rfl, by omega, by omega⟩
def wellTA (p0 : Int) : Option (List Int) := bnd (powT 10 18) fun v1 => bnd (ixT [0, p0] (cond (leI v1 p0) 1 0)) fun v2 => some [v2, p0, 0]
def wellTB (p0 : Int) : Option (List Int) := bnd (powT 10 18) fun v1 => bnd (mulT p0 (cond (leI v1 p0) 1 0)) fun v2 => some [v2, p0, 0]
theorem wellsA (c : Int) : ∃ w, wellTA c = some w ∧ IsW 0 w := by
  unfold wellTA
  rw [bnd_eq (show powT 10 18 = some 1000000000000000000 from by decide +kernel)]
  cases leI 1000000000000000000 c with
  | true => exact ⟨[c, c, 0], rfl, _, _, _, rfl, by decide, by decide⟩
  | false => exact ⟨[0, c, 0], rfl, _, _, _, rfl, by decide, by decide⟩
theorem wellsB (c : Int) : ∃ w, wellTB c = some w ∧ IsW 0 w := by
  unfold wellTB
  rw [bnd_eq (show powT 10 18 = some 1000000000000000000 from by decide +kernel)]
  have h : ∃ v, mulT c (cond (leI 1000000000000000000 c) 1 0) = some v := by
    cases leI 1000000000000000000 c with
    | true => exact ⟨_, mul_r (by decide) (by decide)⟩
    | false => exact ⟨_, mul_r (by decide) (by decide)⟩
  obtain ⟨v, hv⟩ := h
  rw [bnd_eq hv]
  exact ⟨_, rfl, _, _, _, rfl, by decide, by decide⟩
def cellT (p0 : List Int) (p1 : Int) : Option Int := cond (ltI p1 ((List.length p0 : Nat) : Int)) (bnd (Y.scrT p0 p1) fun v1 => some v1) (some 0)
theorem cell0 (ns : List Int) : ∃ c, cellT ns 0 = some c := by
  unfold cellT
  cases ns with
  | nil => exact ⟨0, rfl⟩
  | cons n ns => exact ⟨n, by rw [ltI_t (by rw [List.length_cons]; omega)]; rfl⟩
/-- the cells that a law goes through -/
theorem cells {ns : List Int} {k : Int} (hl : ns.length ≤ 63) : ∃ xs, bnd (cellT ns 0) (fun v => addL [v] (cutT ns (some 1) (some k))) = some xs := by
  obtain ⟨c, hc⟩ := cell0 ns
  refine ⟨[c] ++ cutT ns (some 1) (some k), ?_⟩
  rw [bnd_eq hc]
  refine addL_le ?_
  unfold cutT
  rw [List.length_take, List.length_drop]
  simp only [List.length_cons, List.length_nil]
  omega
/-! ends of turnings -/
/-- each thing with what is left without it -/
def picks : List Int → List Int → List (Int × List Int)
  | _, [] => []
  | pre, x :: xs => (x, pre ++ xs) :: picks (pre ++ [x]) xs
theorem picks_at : ∀ (xs pre : List Int) (i : Nat) (x : Int), xs[i]? = some x → (x, pre ++ xs.eraseIdx i) ∈ picks pre xs
  | [], pre, i, x, h => by simp at h
  | y :: ys, pre, 0, x, h => by
    simp at h
    subst h
    exact List.mem_cons_self ..
  | y :: ys, pre, i + 1, x, h => by
    refine List.mem_cons_of_mem _ ?_
    have := picks_at ys (pre ++ [y]) i x (by simpa using h)
    rw [List.append_assoc] at this
    exact this
def allE (chk : List Int → Bool) (n : Int) : Nat → Int → List Int → List Int → Bool
  | 0, _, found, _ => chk found
  | r + 1, a, found, left => (picks [] left).all fun p => match ltI p.1 a with
    | true => frI (p.1 + n) fun e => allE chk n r (a + 1) (found ++ [e]) p.2
    | false => match eqI p.1 a with
      | true => frI (p.1 + n) (fun e => allE chk n r (a + 1) (found ++ [e]) p.2) && allE chk n r (a + 1) (found ++ [p.1]) p.2
      | false => allE chk n r (a + 1) (found ++ [p.1]) p.2
/-- a step of drawing ends -/
def endStep (n : Int) (d : List Int → Int → Option (Int × List Int)) (s3 : (List Int) × (List Int) × (List Int)) (x4 : Int) : Option ((List Int) × (List Int) × (List Int)) := bnd2 (d (s3.1) (((List.length s3.2.1 : Nat) : Int))) fun v6 v7 => bnd (popAtT s3.2.1 v6) fun v8 => bnd2 (cond (ltI v8.1 x4) (some (true, v7)) (bnd2 (cond (eqI v8.1 x4) (bnd2 (d (v7) (2)) fun v9 v10 => some ((eqI v9 0), v10)) (some (false, v7))) fun v11 v12 => some (v11, v12))) fun v13 v14 => bnd (cond v13 (some (v8.1 + n)) (some v8.1)) fun v15 => bnd (appT s3.2.2 (v15)) fun v16 => some (v14, (v8).2, v16)
def endsT (d : List Int → Int → Option (Int × List Int)) (p0 : List Int) (p1 : Int) : Option ((List Int) × (List Int)) := bnd (rng2T 1 (p1 + 1)) fun v1 => bnd (fitL v1) fun v2 => bnd (rng2T 1 (p1 + 1)) fun v3 => bnd (Y.foldT (endStep p1 d) (p0, v2, []) v3) fun v17 => some (v17.2.2, v17.1)
theorem ends_chk {d : List Int → Int → Option (Int × List Int)} (hd : Draws d) {chk : List Int → Bool} {m : Nat} {w : List Int} {n : Nat} (hw : IsW m w) (hm : m < 2 ^ 30) (h6 : n ≤ 6) (h : allE chk n n 1 [] (rngI 1 n) = true) :
    ∃ E w', endsT d w (n : Int) = some (E, w') ∧ chk E = true ∧ E.length = n ∧ IsW (m + 2 * n) w' := by
  unfold endsT
  rw [bnd_eq (rng2 (by decide) (by decide) (by omega) (by omega)), show ((n : Int) + 1 - 1).toNat = n by omega, bnd_eq (fit (by rw [rngI_len]; omega)), bnd_eq (rng2 (by decide) (by decide) (by omega) (by omega)), show ((n : Int) + 1 - 1).toNat = n by omega]
  obtain ⟨s, e1, hs⟩ := fold_inv (f := endStep (n : Int) d) (n := n) (lo := 1) (I := fun k s => IsW (m + 2 * k) s.1 ∧ s.2.1.length + k = n ∧ s.2.2.length = k ∧ allE chk n (n - k) (1 + (k : Int)) s.2.2 s.2.1 = true) n 0 (w, rngI 1 n, []) (by omega) ⟨by simpa using hw, by rw [rngI_len]; rfl, rfl, by simpa using h⟩ (fun k s hk hI => by
    obtain ⟨w, left, found⟩ := s
    obtain ⟨h1, h2, h3, h4⟩ := hI
    simp only at h1 h2 h3 h4
    unfold endStep
    simp only
    obtain ⟨x, w1, d1, d2, d3, d4⟩ := hd _ w (left.length : Int) h1 (by omega) (by omega) (by omega)
    obtain ⟨i, rfl⟩ : ∃ i : Nat, x = (i : Int) := ⟨x.toNat, by omega⟩
    have hi : i < left.length := by omega
    rw [bnd2_eq d1, bnd_eq (popAt (List.getElem?_eq_getElem hi) (by omega))]
    obtain ⟨r, hr⟩ : ∃ r, n - k = r + 1 := ⟨n - k - 1, by omega⟩
    rw [hr, allE, List.all_eq_true] at h4
    have h5 := h4 _ (picks_at left [] i left[i] (List.getElem?_eq_getElem hi))
    simp only [List.nil_append, frI_eq] at h5
    have hr2 : n - (k + 1) = r := by omega
    have ek : (1 : Int) + ((k + 1 : Nat) : Int) = 1 + (k : Int) + 1 := by omega
    have hl : (left.eraseIdx i).length + (k + 1) = n := by
      rw [List.length_eraseIdx_of_lt hi]; omega
    cases hlt : ltI left[i] (1 + (k : Int)) with
    | true =>
      rw [hlt] at h5
      refine ⟨(w1, left.eraseIdx i, found ++ [left[i] + (n : Int)]), ?_, d4.mono (by omega), hl, by simp [h3], by rw [hr2, ek]; exact h5⟩
      simp only [cond_true, cond_false, bnd2, bnd, app (show found.length ≤ 1000 by omega)]
    | false =>
      rw [hlt] at h5
      cases heq : eqI left[i] (1 + (k : Int)) with
      | true =>
        rw [heq] at h5
        simp only [Bool.and_eq_true] at h5
        obtain ⟨y, w2, f1, f2, f3, f4⟩ := hd _ w1 2 d4 (by decide) (by decide) (by omega)
        show ∃ s', bnd2 (bnd2 (bnd2 (d w1 2) _) _) _ = _ ∧ _
        rw [bnd2_eq f1]
        cases hy : eqI y 0 with
        | true =>
          refine ⟨(w2, left.eraseIdx i, found ++ [left[i] + (n : Int)]), ?_, f4.mono (by omega), hl, by simp [h3], by rw [hr2, ek]; exact h5.1⟩
          simp only [cond_true, cond_false, bnd2, bnd, app (show found.length ≤ 1000 by omega)]
        | false =>
          refine ⟨(w2, left.eraseIdx i, found ++ [left[i]]), ?_, f4.mono (by omega), hl, by simp [h3], by rw [hr2, ek]; exact h5.2⟩
          simp only [cond_true, cond_false, bnd2, bnd, app (show found.length ≤ 1000 by omega)]
      | false =>
        rw [heq] at h5
        refine ⟨(w1, left.eraseIdx i, found ++ [left[i]]), ?_, d4.mono (by omega), hl, by simp [h3], by rw [hr2, ek]; exact h5⟩
        simp only [cond_true, cond_false, bnd2, bnd, app (show found.length ≤ 1000 by omega)])
  have e1' : Y.foldT (endStep (n : Int) d) (w, rngI 1 n, []) (rngI 1 n) = some s := by
    have := e1
    simp only [Int.natCast_zero, Int.add_zero] at this
    exact this
  rw [bnd_eq e1']
  obtain ⟨h1, h2, h3, h4⟩ := hs
  rw [Nat.sub_self, allE] at h4
  exact ⟨_, _, rfl, h4, h3, h1⟩
end Z
end MP

/-! the tables of the law: terms of the evaluator, entries, head (printed by gen.py) -/
namespace MP
namespace T
open PySem PySem.Spec PyProof.Rows L2
def top (i : Nat) : Stmt := PySem.Challenge.pw_rillwise_k29_whole_even_and_odd_sizes.main.body.getD i (.Pass ⟨0, 0, 0, 0⟩)
def f0 : FD := ⟨2, 2, [.ite (.o2 .lt (.r 1) (.sLen 0)) [.ret (.sIx 0 (.r 1))] [], .ret (.c (.int 0))], none⟩
def f1 : FD := ⟨1, 1, [.ret (.lst [.o2 .ix (.lst [.c (.int 0), .r 0]) (.o1 .int (.o2 .ge (.r 0) (.o2 .pow (.c (.int 10)) (.c (.int 18))))), .r 0, .c (.int 0)])], none⟩
def f2 : FD := ⟨2, 5, [.ite (.o2 .gt (.o2 .ix (.r 0) (.c (.int 0))) (.c (.int 0))) [.set (.v 4) (.o2 .mod (.o2 .ix (.r 0) (.c (.int 0))) (.r 1)), .put 0 (.c (.int 0)) (.o2 .fdiv (.o2 .ix (.r 0) (.c (.int 0))) (.r 1)), .ret (.r 4)] [], .put 0 (.c (.int 2)) (.o2 .add (.o2 .ix (.r 0) (.c (.int 2))) (.c (.int 1))), .set (.v 2) (.o2 .mod (.o2 .fdiv (.o2 .ix (.r 0) (.c (.int 1))) (.c (.int 2147483629))) (.c (.int 65521))), .set (.v 3) (.o2 .mod (.o2 .pow (.o2 .add (.o2 .add (.o2 .add (.o2 .mod (.o2 .ix (.r 0) (.c (.int 1))) (.c (.int 2147483629))) (.o2 .mul (.c (.int 7919)) (.o2 .ix (.r 0) (.c (.int 2))))) (.r 2)) (.c (.int 1))) (.c (.int 5))) (.c (.int 2147483647))), .set (.v 3) (.o2 .mod (.o2 .mul (.r 3) (.o2 .add (.o2 .add (.o2 .fdiv (.r 3) (.c (.int 1009))) (.c (.int 69621))) (.o2 .ix (.r 0) (.c (.int 2))))) (.c (.int 2147483629))), .ret (.o2 .mod (.o2 .mod (.o2 .mul (.r 3) (.o2 .add (.o2 .fdiv (.r 3) (.c (.int 2003))) (.c (.int 40692)))) (.c (.int 2147483399))) (.r 1))], none⟩
def f3 : FD := ⟨2, 3, [.set (.v 2) (.o1 .len (.r 0)), .ret (.o2 .add (.o2 .ix (.r 0) (.o2 .mod (.o2 .sub (.r 1) (.c (.int 1))) (.r 2))) (.o2 .mul (.o2 .fdiv (.o2 .sub (.r 1) (.c (.int 1))) (.r 2)) (.r 2)))], none⟩
def f4 : FD := ⟨1, 6, [.set (.v 1) (.o1 .len (.r 0)), .set (.v 2) (.o2 .fdiv (.o2 .sub (.o1 .sum (.r 0)) (.o2 .fdiv (.o2 .mul (.r 1) (.o2 .add (.r 1) (.c (.int 1)))) (.c (.int 2)))) (.r 1)), .set (.v 3) (.o2 .mul (.r 2) (.o2 .sub (.r 1) (.r 2))), .loop (.v 4) (.rng2 (.c (.int 1)) (.o2 .add (.r 1) (.c (.int 1)))) [.set (.v 3) (.o2 .sub (.r 3) (.o1 .len (.lc [5] (.v 5) (.rng2 (.o2 .add (.r 4) (.c (.int 1))) (.o2 .add (.o2 .add (.r 4) (.r 1)) (.c (.int 1)))) [.o2 .lt (.call 3 [.r 0, .r 5]) (.call 3 [.r 0, .r 4])] (.r 5)))), .forget [4]], .ret (.r 3)], none⟩
def f5 : FD := ⟨1, 1, [.ret (.o1 .list (.fld [(0, 0)] (.r 0)))], none⟩
def f6 : FD := ⟨1, 2, [.ret (.o1 .sum (.lc [1] (.v 1) (.seq (.r 0)) [] (.o2 .sub (.c (.int 1)) (.o2 .mul (.c (.int 2)) (.o2 .mod (.call 4 [.meth [(0, 5)] (.r 1) []]) (.c (.int 2)))))))], none⟩
def f7 : FD := ⟨3, 3, [.ret (.and (.o1 (.isi .int) (.r 0)) (.and (.not (.o1 (.isi .bool) (.r 0))) (.ch .le .le (.r 1) (.r 0) (.r 2))))], none⟩
def f8 : FD := ⟨1, 5, [.ite (.or (.not (.o1 (.isi .list) (.r 0))) (.not (.ch .le .le (.c (.int 1)) (.o1 .len (.r 0)) (.g 0)))) [.bad] [], .set (.v 1) (.o1 .len (.r 0)), .loop (.tup [2, 3]) (.enum (.r 0)) [.ite (.not (.callK 7 [.r 3] [.o2 .add (.r 2) (.c (.int 1)), .o2 .add (.o2 .add (.r 2) (.c (.int 1))) (.r 1)] [0, 1, 2])) [.bad] [], .forget [2, 3]], .loop (.tup [2, 3]) (.enum (.r 0)) [.ite (.o2 .isin (.o2 .mod (.r 3) (.r 1)) (.lc [4] (.v 4) (.seq (.sl (.r 0) .none (.some (.r 2)))) [] (.o2 .mod (.r 4) (.r 1)))) [.bad] [], .forget [2, 3]]], none⟩
def f9 : FD := ⟨2, 2, [.ex (.call 8 [.r 1])], some ⟨0, [.o1 .tuple (.r 1)], []⟩⟩
def f10 : FD := ⟨3, 7, [.ite (.o2 .eq (.o1 .len (.r 2)) (.r 0)) [.ret (.o2 .mul (.lst [.r 2]) (.o1 .int (.o2 .eq (.o2 .sub (.o1 .sum (.r 2)) (.sumR (.rng1 (.o2 .add (.r 0) (.c (.int 1)))))) (.o2 .mul (.r 1) (.r 0)))))] [], .set (.v 3) (.o2 .add (.o1 .len (.r 2)) (.c (.int 1))), .set (.v 4) (.lc [6] (.v 6) (.seq (.r 2)) [] (.o2 .mod (.r 6) (.r 0))), .own 5 (.lst []), .loop (.v 6) (.rng2 (.r 3) (.o2 .add (.o2 .add (.r 3) (.r 0)) (.c (.int 1)))) [.ite (.o2 .notin (.o2 .mod (.r 6) (.r 0)) (.r 4)) [.augL 5 (.call 10 [.r 0, .r 1, .o2 .add (.r 2) (.lst [.r 6])])] [], .forget [6]], .retO 5], none⟩
def f11 : FD := ⟨2, 3, [.ite (.or (.not (.callK 7 [.r 0] [.c (.int 1), .g 0] [0, 1, 2])) (.not (.callK 7 [.r 1] [.c (.int 0), .r 0] [0, 1, 2]))) [.bad] [], .ret (.lc [2] (.v 2) (.seq (.call 10 [.r 0, .r 1, .lst []])) [] (.make 0 9 [.r 2]))], none⟩
def f12 : FD := ⟨2, 2, [.ret (.o2 .ix (.r 1) (.call 2 [.r 0, .o1 .len (.r 1)]))], none⟩
def f13 : FD := ⟨2, 2, [.ret (.and (.o1 (.isC 0) (.r 1)) (.o2 .eq (.fld [(0, 0)] (.r 0)) (.fld [(0, 0)] (.r 1))))], none⟩
def f14 : FD := ⟨1, 1, [.ret (.o1 .len (.fld [(0, 0)] (.r 0)))], none⟩
def f15 : FD := ⟨1, 1, [.ret (.o2 .fdiv (.o2 .sub (.o1 .sum (.fld [(0, 0)] (.r 0))) (.sumR (.rng1 (.o2 .add (.o1 .len (.fld [(0, 0)] (.r 0))) (.c (.int 1)))))) (.o1 .len (.fld [(0, 0)] (.r 0))))], none⟩
def f16 : FD := ⟨2, 2, [.ite (.o2 .ne (.meth [(0, 14)] (.r 0) []) (.meth [(0, 14)] (.r 1) [])) [.bad] [], .ite (.o2 .ne (.meth [(0, 15)] (.r 0) []) (.meth [(0, 15)] (.r 1) [])) [.bad] []], none⟩
def f17 : FD := ⟨2, 6, [.set (.v 2) (.lst [.tup []]), .loop (.v 3) (.rng1 (.r 1)) [.set (.v 2) (.lc2 [4, 5] (.v 4) (.seq (.r 2)) [] [5] (.v 5) (.rng2 (.o2 .add (.mxD true (.r 4) (.c (.int 0))) (.c (.int 1))) (.o2 .add (.r 0) (.c (.int 1)))) [] (.o2 .add (.r 4) (.tup [.r 5]))), .forget [3]], .ret (.r 2)], none⟩
def f18 : FD := ⟨3, 4, [.ret (.o1 .sorted (.lc [3] (.v 3) (.tpl (.r 0)) [] (.o2 .mod (.o2 .sub (.r 3) (.r 1)) (.r 2))))], none⟩
def f19 : FD := ⟨4, 8, [.par 4 5 (.call 18 [.r 0, .r 2, .r 3]) (.call 18 [.r 1, .r 2, .r 3]), .ret (.o1 .all (.lc [6, 7] (.tup [6, 7]) (.zip (.r 4) (.r 5)) [] (.o2 .ge (.r 6) (.r 7))))], none⟩
def f20 : FD := ⟨2, 6, [.own 2 (.lst []), .loop (.v 3) (.seq (.call 17 [.r 0, .o1 .len (.o2 .ix (.r 1) (.c (.int 0)))])) [.ite (.o1 .all (.lc [4, 5] (.tup [4, 5]) (.enum (.r 1)) [] (.callK 19 [.r 3, .r 5] [.o2 .add (.r 4) (.c (.int 1)), .r 0] [0, 1, 2, 3]))) [.ex (.app 2 (.r 3))] [], .forget [3]], .ret (.fz 2)], none⟩
def f21 : FD := ⟨2, 3, [.set (.v 2) (.o1 .len (.fld [(0, 0)] (.r 0))), .ret (.o2 .add (.o2 .ix (.fld [(0, 0)] (.r 0)) (.o2 .mod (.o2 .sub (.r 1) (.c (.int 1))) (.r 2))) (.o2 .mul (.o2 .fdiv (.o2 .sub (.r 1) (.c (.int 1))) (.r 2)) (.r 2)))], none⟩
def f22 : FD := ⟨1, 7, [.set (.v 1) (.o1 .len (.fld [(0, 0)] (.r 0))), .own 2 (.lst []), .loop (.v 3) (.rng2 (.c (.int 1)) (.o2 .add (.r 1) (.c (.int 1)))) [.set (.v 4) (.lc [5] (.v 5) (.rng2 (.o2 .sub (.r 3) (.r 1)) (.r 3)) [.o2 .ge (.meth [(0, 21)] (.r 0) [.r 5]) (.r 3)] (.meth [(0, 21)] (.r 0) [.r 5])), .ex (.app 2 (.o1 .tuple (.o1 .sorted (.lc [6] (.v 6) (.seq (.r 4)) [] (.o2 .add (.o2 .mod (.o2 .sub (.r 6) (.c (.int 1))) (.r 1)) (.c (.int 1))))))), .forget [3, 4]], .ret (.fz 2)], none⟩
def f23 : FD := ⟨1, 1, [.ret (.call 20 [.o1 .len (.fld [(0, 0)] (.r 0)), .meth [(0, 22)] (.r 0) []])], none⟩
def f24 : FD := ⟨2, 4, [.set (.v 2) (.meth [(0, 23)] (.r 0) []), .ret (.o1 .all (.lc [3] (.v 3) (.seq (.r 1)) [] (.o2 .isin (.r 3) (.r 2))))], none⟩
def f25 : FD := ⟨2, 2, [.ex (.call 16 [.r 0, .r 1]), .ret (.call 24 [.r 1, .meth [(0, 23)] (.r 0) []])], none⟩
def f26 : FD := ⟨3, 9, [.set (.v 3) (.call 11 [.r 1, .r 2]), .set (.v 4) (.call 12 [.r 0, .r 3]), .set (.v 5) (.lc [8] (.v 8) (.seq (.r 3)) [.and (.eqI true [(0, 13)] (.r 8) (.r 4)) (.call 25 [.r 8, .r 4])] (.r 8)), .ite (.o2 .eqN (.r 5) (.lst [])) [.ret (.c (.bl true))] [], .set (.v 6) (.call 12 [.r 0, .r 5]), .set (.v 7) (.lc [8] (.v 8) (.seq (.r 5)) [.call 25 [.r 6, .r 8]] (.r 8)), .ret (.o2 .eq (.call 6 [.o2 .add (.r 7) (.lst [.r 4])]) (.c (.int 0)))], none⟩
def f27 : FD := ⟨1, 5, [.loop (.v 1) (.seq (.o2 .add (.lst [.call 0 [.r 0, .c (.int 0)]]) (.sSl 0 (.some (.c (.int 1))) (.some (.c (.int 2)))))) [.own 2 (.call 1 [.r 1]), .set (.v 3) (.o2 .add (.c (.int 1)) (.call 2 [.r 2, .c (.int 5)])), .set (.v 4) (.call 2 [.r 2, .o2 .add (.r 3) (.c (.int 1))]), .ite (.or (.o2 .ne (.call 6 [.call 11 [.r 3, .r 4]]) (.c (.int 1))) (.not (.call 26 [.r 2, .o2 .min2 (.r 3) (.c (.int 4)), .mn3 (.r 4) (.r 3) (.c (.int 4))]))) [.ret (.c (.bl false))] [], .forget [1, 2, 3, 4]], .ret (.c (.bl true))], none⟩
def e0 : Ent := ⟨("_law_cell_at", none), "_law_cell_at", "_law_cell_at", top 23, ["_law_script", "_law_k"], ["_law_script", "_law_k"], f0, [], []⟩
def e1 : Ent := ⟨("_law_well", none), "_law_well", "_law_well", top 24, ["_law_cell"], ["_law_cell"], f1, [], []⟩
def e2 : Ent := ⟨("_law_draw", none), "_law_draw", "_law_draw", top 25, ["_law_well_here", "_law_many", "_law_salt", "_law_number", "_law_found"], ["_law_well_here", "_law_many"], f2, [], []⟩
def e3 : Ent := ⟨("_law_end", none), "_law_end", "_law_end", top 27, ["_law_ends", "_law_a", "_law_n"], ["_law_ends", "_law_a"], f3, [], []⟩
def e4 : Ent := ⟨("_law_size", none), "_law_size", "_law_size", top 28, ["_law_ends", "_law_n", "_law_k", "_law_found", "_law_a", "_law_b"], ["_law_ends"], f4, [], []⟩
def e5 : Ent := ⟨("Turning", some "ends"), "ends", "Turning.ends", inClass (top 15) 1, ["self"], ["self"], f5, [], []⟩
def e6 : Ent := ⟨("_law_sum", none), "_law_sum", "_law_sum", top 29, ["_law_some", "_law_one_here"], ["_law_some"], f6, [], []⟩
def e7 : Ent := ⟨("is_count", none), "is_count", "is_count", top 7, ["thing", "least", "most"], ["thing", "least", "most"], f7, [], []⟩
def e8 : Ent := ⟨("check_ends", none), "check_ends", "check_ends", top 14, ["ends", "many", "at", "end", "other"], ["ends"], f8, [], []⟩
def e9 : Ent := ⟨("Turning", some "__init__"), "__init__", "Turning.__init__", inClass (top 15) 0, ["self", "ends"], ["self", "ends"], f9, [], []⟩
def e10 : Ent := ⟨("all_ends", none), "all_ends", "all_ends", top 16, ["columns", "rows", "begun", "at", "taken", "found", "end"], ["columns", "rows", "begun"], f10, [], []⟩
def e11 : Ent := ⟨("turnings", none), "turnings", "turnings", top 17, ["columns", "rows", "ends"], ["columns", "rows"], f11, [], []⟩
def e12 : Ent := ⟨("_law_one", none), "_law_one", "_law_one", top 26, ["_law_well_here", "_law_some"], ["_law_well_here", "_law_some"], f12, [], []⟩
def e13 : Ent := ⟨("Turning", some "__eq__"), "__eq__", "Turning.__eq__", inClass (top 15) 9, ["self", "other"], ["self", "other"], f13, [], []⟩
def e14 : Ent := ⟨("Turning", some "columns"), "columns", "Turning.columns", inClass (top 15) 2, ["self"], ["self"], f14, [], []⟩
def e15 : Ent := ⟨("Turning", some "rows"), "rows", "Turning.rows", inClass (top 15) 3, ["self"], ["self"], f15, [], []⟩
def e16 : Ent := ⟨("check_like", none), "check_like", "check_like", top 21, ["one", "other"], ["one", "other"], f16, [], []⟩
def e17 : Ent := ⟨("every", none), "every", "every", top 8, ["columns", "rows", "found", "k", "some", "one"], ["columns", "rows"], f17, [], []⟩
def e18 : Ent := ⟨("steps_from", none), "steps_from", "steps_from", top 9, ["choice", "first", "columns", "one"], ["choice", "first", "columns"], f18, [], []⟩
def e19 : Ent := ⟨("no_less", none), "no_less", "no_less", top 10, ["choice", "other", "first", "columns", "far", "near", "one", "two"], ["choice", "other", "first", "columns"], f19, [], []⟩
def e20 : Ent := ⟨("spread", none), "spread", "spread", top 12, ["columns", "ring", "found", "choice", "at", "one"], ["columns", "ring"], f20, [], []⟩
def e21 : Ent := ⟨("Turning", some "end"), "end", "Turning.end", inClass (top 15) 4, ["self", "column", "many"], ["self", "column"], f21, [], []⟩
def e22 : Ent := ⟨("Turning", some "ring"), "ring", "Turning.ring", inClass (top 15) 6, ["self", "many", "found", "first", "some", "b", "one"], ["self"], f22, [], []⟩
def e23 : Ent := ⟨("Turning", some "lot"), "lot", "Turning.lot", inClass (top 15) 7, ["self"], ["self"], f23, [], []⟩
def e24 : Ent := ⟨("bears", none), "bears", "bears", top 19, ["turning", "choices", "lot", "choice"], ["turning", "choices"], f24, [], []⟩
def e25 : Ent := ⟨("is_within", none), "is_within", "is_within", top 20, ["one", "other"], ["one", "other"], f25, [], []⟩
def e26 : Ent := ⟨("_law_between_right", none), "_law_between_right", "_law_between_right", top 30, ["_law_well_here", "_law_n", "_law_k", "_law_some", "_law_top", "_law_under", "_law_low", "_law_between", "_law_one_here"], ["_law_well_here", "_law_n", "_law_k"], f26, [], []⟩
def e27 : Ent := ⟨("law", none), "law", "law", top 31, ["_law_script", "_law_cell", "_law_well_here", "_law_n", "_law_k"], ["_law_script"], f27, [], []⟩
def Gd : Nat → D := fun k => [D.int 6].getD k .non
def tab : Tab := ⟨["all", "bool", "enumerate", "int", "isinstance", "len", "list", "max", "min", "range", "sorted", "sum", "tuple", "zip"], [("MOST_COLUMNS", 0)], [("_law_cell_at", 0), ("_law_well", 1), ("_law_draw", 2), ("_law_end", 3), ("_law_size", 4), ("_law_sum", 6), ("check_ends", 8), ("all_ends", 10), ("turnings", 11), ("_law_one", 12), ("check_like", 16), ("every", 17), ("steps_from", 18), ("spread", 20), ("bears", 24), ("is_within", 25), ("_law_between_right", 26), ("law", 27)], [⟨"is_count", 7, ["least", "most"], 1, [0, 1, 2]⟩, ⟨"no_less", 19, ["first", "columns"], 2, [0, 1, 2, 3]⟩], [["goals"]], [(0, "ends", 5), (0, "__eq__", 13), (0, "columns", 14), (0, "rows", 15), (0, "end", 21), (0, "ring", 22), (0, "lot", 23)], [("Turning", 0, 9)], [], [0], [("Turning", 0)]⟩
def cn : List Str := ["Turning"]
def es : List Ent := [e0, e1, e2, e3, e4, e5, e6, e7, e8, e9, e10, e11, e12, e13, e14, e15, e16, e17, e18, e19, e20, e21, e22, e23, e24, e25, e26, e27]
theorem look0 : e0.ok 60 tab = true := by decide +kernel
theorem look1 : e1.ok 60 tab = true := by decide +kernel
theorem look2 : e2.ok 60 tab = true := by decide +kernel
theorem look3 : e3.ok 60 tab = true := by decide +kernel
theorem look4 : e4.ok 60 tab = true := by decide +kernel
theorem look5 : e5.ok 60 tab = true := by decide +kernel
theorem look6 : e6.ok 60 tab = true := by decide +kernel
theorem look7 : e7.ok 60 tab = true := by decide +kernel
theorem look8 : e8.ok 60 tab = true := by decide +kernel
theorem look9 : e9.ok 60 tab = true := by decide +kernel
theorem look10 : e10.ok 60 tab = true := by decide +kernel
theorem look11 : e11.ok 60 tab = true := by decide +kernel
theorem look12 : e12.ok 60 tab = true := by decide +kernel
theorem look13 : e13.ok 60 tab = true := by decide +kernel
theorem look14 : e14.ok 60 tab = true := by decide +kernel
theorem look15 : e15.ok 60 tab = true := by decide +kernel
theorem look16 : e16.ok 60 tab = true := by decide +kernel
theorem look17 : e17.ok 60 tab = true := by decide +kernel
theorem look18 : e18.ok 60 tab = true := by decide +kernel
theorem look19 : e19.ok 60 tab = true := by decide +kernel
theorem look20 : e20.ok 60 tab = true := by decide +kernel
theorem look21 : e21.ok 60 tab = true := by decide +kernel
theorem look22 : e22.ok 60 tab = true := by decide +kernel
theorem look23 : e23.ok 60 tab = true := by decide +kernel
theorem look24 : e24.ok 60 tab = true := by decide +kernel
theorem look25 : e25.ok 60 tab = true := by decide +kernel
theorem look26 : e26.ok 60 tab = true := by decide +kernel
theorem look27 : e27.ok 60 tab = true := by decide +kernel
theorem look : es.all (·.ok 60 tab) = true := by unfold es; simp only [List.all_cons, List.all_nil, Bool.and_true, Bool.and_eq_true, look0, look1, look2, look3, look4, look5, look6, look7, look8, look9, look10, look11, look12, look13, look14, look15, look16, look17, look18, look19, look20, look21, look22, look23, look24, look25, look26, look27, and_self]
theorem kb0 {K : PySem.W.Frag} {f : Addr} {fd : FuncData} (F : FunD K e7.name e7.qual (defArgs e7.st) (defBody e7.st) (defScope e7.st) e7.dvs e7.kws f fd) : KwOk K fd e7.ps ⟨"is_count", 7, ["least", "most"], 1, [0, 1, 2]⟩ := kw_ok F rfl (fun _ _ _ _ _ _ us ws h1 h2 => match us, ws, h1, h2 with | [_], [_, _], _, _ => rfl)
theorem kb1 {K : PySem.W.Frag} {f : Addr} {fd : FuncData} (F : FunD K e19.name e19.qual (defArgs e19.st) (defBody e19.st) (defScope e19.st) e19.dvs e19.kws f fd) : KwOk K fd e19.ps ⟨"no_less", 19, ["first", "columns"], 2, [0, 1, 2, 3]⟩ := kw_ok F rfl (fun _ _ _ _ _ _ us ws h1 h2 => match us, ws, h1, h2 with | [_, _], [_, _], _, _ => rfl)
theorem eo0 : EntOk tab 0 e0 where
  sc := ⟨rfl, rfl, rfl, by decide +kernel, rfl, by decide +kernel, by decide +kernel⟩
  bd := fun _ {_ _ _} F => F.bindsN fun _ _ _ _ _ _ us hl => match us, hl with | [_, _], _ => rfl
  kw := fun F q hq e => by
    unfold tab at hq
    simp only [List.mem_cons, List.mem_nil_iff, or_false] at hq
    rcases hq with rfl | rfl
    · exact absurd (show 7 = 0 from e) (by decide)
    · exact absurd (show 19 = 0 from e) (by decide)
  df := fun F q hq e => nomatch hq
theorem eo1 : EntOk tab 1 e1 where
  sc := ⟨rfl, rfl, rfl, by decide +kernel, rfl, by decide +kernel, by decide +kernel⟩
  bd := fun _ {_ _ _} F => F.bindsN fun _ _ _ _ _ _ us hl => match us, hl with | [_], _ => rfl
  kw := fun F q hq e => by
    unfold tab at hq
    simp only [List.mem_cons, List.mem_nil_iff, or_false] at hq
    rcases hq with rfl | rfl
    · exact absurd (show 7 = 1 from e) (by decide)
    · exact absurd (show 19 = 1 from e) (by decide)
  df := fun F q hq e => nomatch hq
theorem eo2 : EntOk tab 2 e2 where
  sc := ⟨rfl, rfl, rfl, by decide +kernel, rfl, by decide +kernel, by decide +kernel⟩
  bd := fun _ {_ _ _} F => F.bindsN fun _ _ _ _ _ _ us hl => match us, hl with | [_, _], _ => rfl
  kw := fun F q hq e => by
    unfold tab at hq
    simp only [List.mem_cons, List.mem_nil_iff, or_false] at hq
    rcases hq with rfl | rfl
    · exact absurd (show 7 = 2 from e) (by decide)
    · exact absurd (show 19 = 2 from e) (by decide)
  df := fun F q hq e => nomatch hq
theorem eo3 : EntOk tab 3 e3 where
  sc := ⟨rfl, rfl, rfl, by decide +kernel, rfl, by decide +kernel, by decide +kernel⟩
  bd := fun _ {_ _ _} F => F.bindsN fun _ _ _ _ _ _ us hl => match us, hl with | [_, _], _ => rfl
  kw := fun F q hq e => by
    unfold tab at hq
    simp only [List.mem_cons, List.mem_nil_iff, or_false] at hq
    rcases hq with rfl | rfl
    · exact absurd (show 7 = 3 from e) (by decide)
    · exact absurd (show 19 = 3 from e) (by decide)
  df := fun F q hq e => nomatch hq
theorem eo4 : EntOk tab 4 e4 where
  sc := ⟨rfl, rfl, rfl, by decide +kernel, rfl, by decide +kernel, by decide +kernel⟩
  bd := fun _ {_ _ _} F => F.bindsN fun _ _ _ _ _ _ us hl => match us, hl with | [_], _ => rfl
  kw := fun F q hq e => by
    unfold tab at hq
    simp only [List.mem_cons, List.mem_nil_iff, or_false] at hq
    rcases hq with rfl | rfl
    · exact absurd (show 7 = 4 from e) (by decide)
    · exact absurd (show 19 = 4 from e) (by decide)
  df := fun F q hq e => nomatch hq
theorem eo5 : EntOk tab 5 e5 where
  sc := ⟨rfl, rfl, rfl, by decide +kernel, rfl, by decide +kernel, by decide +kernel⟩
  bd := fun _ {_ _ _} F => F.bindsN fun _ _ _ _ _ _ us hl => match us, hl with | [_], _ => rfl
  kw := fun F q hq e => by
    unfold tab at hq
    simp only [List.mem_cons, List.mem_nil_iff, or_false] at hq
    rcases hq with rfl | rfl
    · exact absurd (show 7 = 5 from e) (by decide)
    · exact absurd (show 19 = 5 from e) (by decide)
  df := fun F q hq e => nomatch hq
theorem eo6 : EntOk tab 6 e6 where
  sc := ⟨rfl, rfl, rfl, by decide +kernel, rfl, by decide +kernel, by decide +kernel⟩
  bd := fun _ {_ _ _} F => F.bindsN fun _ _ _ _ _ _ us hl => match us, hl with | [_], _ => rfl
  kw := fun F q hq e => by
    unfold tab at hq
    simp only [List.mem_cons, List.mem_nil_iff, or_false] at hq
    rcases hq with rfl | rfl
    · exact absurd (show 7 = 6 from e) (by decide)
    · exact absurd (show 19 = 6 from e) (by decide)
  df := fun F q hq e => nomatch hq
theorem eo7 : EntOk tab 7 e7 where
  sc := ⟨rfl, rfl, rfl, by decide +kernel, rfl, by decide +kernel, by decide +kernel⟩
  bd := fun z => absurd z (by unfold Pos_ tab; decide)
  kw := fun F q hq e => by
    unfold tab at hq
    simp only [List.mem_cons, List.mem_nil_iff, or_false] at hq
    rcases hq with rfl | rfl
    · exact kb0 F
    · exact absurd (show 19 = 7 from e) (by decide)
  df := fun F q hq e => nomatch hq
theorem eo8 : EntOk tab 8 e8 where
  sc := ⟨rfl, rfl, rfl, by decide +kernel, rfl, by decide +kernel, by decide +kernel⟩
  bd := fun _ {_ _ _} F => F.bindsN fun _ _ _ _ _ _ us hl => match us, hl with | [_], _ => rfl
  kw := fun F q hq e => by
    unfold tab at hq
    simp only [List.mem_cons, List.mem_nil_iff, or_false] at hq
    rcases hq with rfl | rfl
    · exact absurd (show 7 = 8 from e) (by decide)
    · exact absurd (show 19 = 8 from e) (by decide)
  df := fun F q hq e => nomatch hq
theorem eo9 : EntOk tab 9 e9 where
  sc := ⟨rfl, rfl, rfl, by decide +kernel, rfl, by decide +kernel, by decide +kernel⟩
  bd := fun _ {_ _ _} F => F.bindsN fun _ _ _ _ _ _ us hl => match us, hl with | [_, _], _ => rfl
  kw := fun F q hq e => by
    unfold tab at hq
    simp only [List.mem_cons, List.mem_nil_iff, or_false] at hq
    rcases hq with rfl | rfl
    · exact absurd (show 7 = 9 from e) (by decide)
    · exact absurd (show 19 = 9 from e) (by decide)
  df := fun F q hq e => nomatch hq
theorem eo10 : EntOk tab 10 e10 where
  sc := ⟨rfl, rfl, rfl, by decide +kernel, rfl, by decide +kernel, by decide +kernel⟩
  bd := fun _ {_ _ _} F => F.bindsN fun _ _ _ _ _ _ us hl => match us, hl with | [_, _, _], _ => rfl
  kw := fun F q hq e => by
    unfold tab at hq
    simp only [List.mem_cons, List.mem_nil_iff, or_false] at hq
    rcases hq with rfl | rfl
    · exact absurd (show 7 = 10 from e) (by decide)
    · exact absurd (show 19 = 10 from e) (by decide)
  df := fun F q hq e => nomatch hq
theorem eo11 : EntOk tab 11 e11 where
  sc := ⟨rfl, rfl, rfl, by decide +kernel, rfl, by decide +kernel, by decide +kernel⟩
  bd := fun _ {_ _ _} F => F.bindsN fun _ _ _ _ _ _ us hl => match us, hl with | [_, _], _ => rfl
  kw := fun F q hq e => by
    unfold tab at hq
    simp only [List.mem_cons, List.mem_nil_iff, or_false] at hq
    rcases hq with rfl | rfl
    · exact absurd (show 7 = 11 from e) (by decide)
    · exact absurd (show 19 = 11 from e) (by decide)
  df := fun F q hq e => nomatch hq
theorem eo12 : EntOk tab 12 e12 where
  sc := ⟨rfl, rfl, rfl, by decide +kernel, rfl, by decide +kernel, by decide +kernel⟩
  bd := fun _ {_ _ _} F => F.bindsN fun _ _ _ _ _ _ us hl => match us, hl with | [_, _], _ => rfl
  kw := fun F q hq e => by
    unfold tab at hq
    simp only [List.mem_cons, List.mem_nil_iff, or_false] at hq
    rcases hq with rfl | rfl
    · exact absurd (show 7 = 12 from e) (by decide)
    · exact absurd (show 19 = 12 from e) (by decide)
  df := fun F q hq e => nomatch hq
theorem eo13 : EntOk tab 13 e13 where
  sc := ⟨rfl, rfl, rfl, by decide +kernel, rfl, by decide +kernel, by decide +kernel⟩
  bd := fun _ {_ _ _} F => F.bindsN fun _ _ _ _ _ _ us hl => match us, hl with | [_, _], _ => rfl
  kw := fun F q hq e => by
    unfold tab at hq
    simp only [List.mem_cons, List.mem_nil_iff, or_false] at hq
    rcases hq with rfl | rfl
    · exact absurd (show 7 = 13 from e) (by decide)
    · exact absurd (show 19 = 13 from e) (by decide)
  df := fun F q hq e => nomatch hq
theorem eo14 : EntOk tab 14 e14 where
  sc := ⟨rfl, rfl, rfl, by decide +kernel, rfl, by decide +kernel, by decide +kernel⟩
  bd := fun _ {_ _ _} F => F.bindsN fun _ _ _ _ _ _ us hl => match us, hl with | [_], _ => rfl
  kw := fun F q hq e => by
    unfold tab at hq
    simp only [List.mem_cons, List.mem_nil_iff, or_false] at hq
    rcases hq with rfl | rfl
    · exact absurd (show 7 = 14 from e) (by decide)
    · exact absurd (show 19 = 14 from e) (by decide)
  df := fun F q hq e => nomatch hq
theorem eo15 : EntOk tab 15 e15 where
  sc := ⟨rfl, rfl, rfl, by decide +kernel, rfl, by decide +kernel, by decide +kernel⟩
  bd := fun _ {_ _ _} F => F.bindsN fun _ _ _ _ _ _ us hl => match us, hl with | [_], _ => rfl
  kw := fun F q hq e => by
    unfold tab at hq
    simp only [List.mem_cons, List.mem_nil_iff, or_false] at hq
    rcases hq with rfl | rfl
    · exact absurd (show 7 = 15 from e) (by decide)
    · exact absurd (show 19 = 15 from e) (by decide)
  df := fun F q hq e => nomatch hq
theorem eo16 : EntOk tab 16 e16 where
  sc := ⟨rfl, rfl, rfl, by decide +kernel, rfl, by decide +kernel, by decide +kernel⟩
  bd := fun _ {_ _ _} F => F.bindsN fun _ _ _ _ _ _ us hl => match us, hl with | [_, _], _ => rfl
  kw := fun F q hq e => by
    unfold tab at hq
    simp only [List.mem_cons, List.mem_nil_iff, or_false] at hq
    rcases hq with rfl | rfl
    · exact absurd (show 7 = 16 from e) (by decide)
    · exact absurd (show 19 = 16 from e) (by decide)
  df := fun F q hq e => nomatch hq
theorem eo17 : EntOk tab 17 e17 where
  sc := ⟨rfl, rfl, rfl, by decide +kernel, rfl, by decide +kernel, by decide +kernel⟩
  bd := fun _ {_ _ _} F => F.bindsN fun _ _ _ _ _ _ us hl => match us, hl with | [_, _], _ => rfl
  kw := fun F q hq e => by
    unfold tab at hq
    simp only [List.mem_cons, List.mem_nil_iff, or_false] at hq
    rcases hq with rfl | rfl
    · exact absurd (show 7 = 17 from e) (by decide)
    · exact absurd (show 19 = 17 from e) (by decide)
  df := fun F q hq e => nomatch hq
theorem eo18 : EntOk tab 18 e18 where
  sc := ⟨rfl, rfl, rfl, by decide +kernel, rfl, by decide +kernel, by decide +kernel⟩
  bd := fun _ {_ _ _} F => F.bindsN fun _ _ _ _ _ _ us hl => match us, hl with | [_, _, _], _ => rfl
  kw := fun F q hq e => by
    unfold tab at hq
    simp only [List.mem_cons, List.mem_nil_iff, or_false] at hq
    rcases hq with rfl | rfl
    · exact absurd (show 7 = 18 from e) (by decide)
    · exact absurd (show 19 = 18 from e) (by decide)
  df := fun F q hq e => nomatch hq
theorem eo19 : EntOk tab 19 e19 where
  sc := ⟨rfl, rfl, rfl, by decide +kernel, rfl, by decide +kernel, by decide +kernel⟩
  bd := fun z => absurd z (by unfold Pos_ tab; decide)
  kw := fun F q hq e => by
    unfold tab at hq
    simp only [List.mem_cons, List.mem_nil_iff, or_false] at hq
    rcases hq with rfl | rfl
    · exact absurd (show 7 = 19 from e) (by decide)
    · exact kb1 F
  df := fun F q hq e => nomatch hq
theorem eo20 : EntOk tab 20 e20 where
  sc := ⟨rfl, rfl, rfl, by decide +kernel, rfl, by decide +kernel, by decide +kernel⟩
  bd := fun _ {_ _ _} F => F.bindsN fun _ _ _ _ _ _ us hl => match us, hl with | [_, _], _ => rfl
  kw := fun F q hq e => by
    unfold tab at hq
    simp only [List.mem_cons, List.mem_nil_iff, or_false] at hq
    rcases hq with rfl | rfl
    · exact absurd (show 7 = 20 from e) (by decide)
    · exact absurd (show 19 = 20 from e) (by decide)
  df := fun F q hq e => nomatch hq
theorem eo21 : EntOk tab 21 e21 where
  sc := ⟨rfl, rfl, rfl, by decide +kernel, rfl, by decide +kernel, by decide +kernel⟩
  bd := fun _ {_ _ _} F => F.bindsN fun _ _ _ _ _ _ us hl => match us, hl with | [_, _], _ => rfl
  kw := fun F q hq e => by
    unfold tab at hq
    simp only [List.mem_cons, List.mem_nil_iff, or_false] at hq
    rcases hq with rfl | rfl
    · exact absurd (show 7 = 21 from e) (by decide)
    · exact absurd (show 19 = 21 from e) (by decide)
  df := fun F q hq e => nomatch hq
theorem eo22 : EntOk tab 22 e22 where
  sc := ⟨rfl, rfl, rfl, by decide +kernel, rfl, by decide +kernel, by decide +kernel⟩
  bd := fun _ {_ _ _} F => F.bindsN fun _ _ _ _ _ _ us hl => match us, hl with | [_], _ => rfl
  kw := fun F q hq e => by
    unfold tab at hq
    simp only [List.mem_cons, List.mem_nil_iff, or_false] at hq
    rcases hq with rfl | rfl
    · exact absurd (show 7 = 22 from e) (by decide)
    · exact absurd (show 19 = 22 from e) (by decide)
  df := fun F q hq e => nomatch hq
theorem eo23 : EntOk tab 23 e23 where
  sc := ⟨rfl, rfl, rfl, by decide +kernel, rfl, by decide +kernel, by decide +kernel⟩
  bd := fun _ {_ _ _} F => F.bindsN fun _ _ _ _ _ _ us hl => match us, hl with | [_], _ => rfl
  kw := fun F q hq e => by
    unfold tab at hq
    simp only [List.mem_cons, List.mem_nil_iff, or_false] at hq
    rcases hq with rfl | rfl
    · exact absurd (show 7 = 23 from e) (by decide)
    · exact absurd (show 19 = 23 from e) (by decide)
  df := fun F q hq e => nomatch hq
theorem eo24 : EntOk tab 24 e24 where
  sc := ⟨rfl, rfl, rfl, by decide +kernel, rfl, by decide +kernel, by decide +kernel⟩
  bd := fun _ {_ _ _} F => F.bindsN fun _ _ _ _ _ _ us hl => match us, hl with | [_, _], _ => rfl
  kw := fun F q hq e => by
    unfold tab at hq
    simp only [List.mem_cons, List.mem_nil_iff, or_false] at hq
    rcases hq with rfl | rfl
    · exact absurd (show 7 = 24 from e) (by decide)
    · exact absurd (show 19 = 24 from e) (by decide)
  df := fun F q hq e => nomatch hq
theorem eo25 : EntOk tab 25 e25 where
  sc := ⟨rfl, rfl, rfl, by decide +kernel, rfl, by decide +kernel, by decide +kernel⟩
  bd := fun _ {_ _ _} F => F.bindsN fun _ _ _ _ _ _ us hl => match us, hl with | [_, _], _ => rfl
  kw := fun F q hq e => by
    unfold tab at hq
    simp only [List.mem_cons, List.mem_nil_iff, or_false] at hq
    rcases hq with rfl | rfl
    · exact absurd (show 7 = 25 from e) (by decide)
    · exact absurd (show 19 = 25 from e) (by decide)
  df := fun F q hq e => nomatch hq
theorem eo26 : EntOk tab 26 e26 where
  sc := ⟨rfl, rfl, rfl, by decide +kernel, rfl, by decide +kernel, by decide +kernel⟩
  bd := fun _ {_ _ _} F => F.bindsN fun _ _ _ _ _ _ us hl => match us, hl with | [_, _, _], _ => rfl
  kw := fun F q hq e => by
    unfold tab at hq
    simp only [List.mem_cons, List.mem_nil_iff, or_false] at hq
    rcases hq with rfl | rfl
    · exact absurd (show 7 = 26 from e) (by decide)
    · exact absurd (show 19 = 26 from e) (by decide)
  df := fun F q hq e => nomatch hq
theorem eo27 : EntOk tab 27 e27 where
  sc := ⟨rfl, rfl, rfl, by decide +kernel, rfl, by decide +kernel, by decide +kernel⟩
  bd := fun _ {_ _ _} F => F.bindsN fun _ _ _ _ _ _ us hl => match us, hl with | [_], _ => rfl
  kw := fun F q hq e => by
    unfold tab at hq
    simp only [List.mem_cons, List.mem_nil_iff, or_false] at hq
    rcases hq with rfl | rfl
    · exact absurd (show 7 = 27 from e) (by decide)
    · exact absurd (show 19 = 27 from e) (by decide)
  df := fun F q hq e => nomatch hq
theorem eoks : allEnt tab 0 es := ⟨eo0, eo1, eo2, eo3, eo4, eo5, eo6, eo7, eo8, eo9, eo10, eo11, eo12, eo13, eo14, eo15, eo16, eo17, eo18, eo19, eo20, eo21, eo22, eo23, eo24, eo25, eo26, eo27, trivial⟩
def fa : List He.Fa := [.glo "_law_cell_at", .glo "_law_well", .glo "_law_draw", .glo "_law_end", .glo "_law_size", .glo "_law_sum", .glo "is_count", .glo "check_ends", .glo "all_ends", .glo "turnings", .glo "_law_one", .glo "check_like", .glo "every", .glo "steps_from", .glo "no_less", .glo "spread", .glo "bears", .glo "is_within", .glo "_law_between_right", .glo "law", .free "all", .free "bool", .free "enumerate", .free "int", .free "isinstance", .free "len", .free "list", .free "max", .free "min", .free "range", .free "sorted", .free "sum", .free "tuple", .free "zip", .int "MOST_COLUMNS" 6, .glo "Turning", .cls "Turning", .mkr "Turning", .noat "Turning" "goals", .meth "Turning" "ends", .meth "Turning" "__eq__", .meth "Turning" "columns", .meth "Turning" "rows", .meth "Turning" "end", .meth "Turning" "ring", .meth "Turning" "lot"]
theorem tabfa : tabFa fa Gd cn tab es = true := by decide +kernel
def fnD : List He.DefD := es.map Ent.dd
abbrev Rw : PySem.W.OpenRow := PySem.W.OpenLaw.row PySem.Challenge.rw_rillwise_k29_whole_even_and_odd_sizes
abbrev hk : PySem.W.Hook := He.hookX 5 fa fnD [] [] (exB Gd cn tab)
def obx (s : PySem.W.SharedT) : He.AlX := He.obsX 5 fa fnD [] [] (exB Gd cn tab) (HandSHeadRun.getT s)
theorem obx_eq (s : PySem.W.SharedT) : obx s = hk.obs s.abs := He.obsX_eq (HandSHeadRun.getT_eq s)
def loose : List Str := ["RillError", "BadNumber", "Unlike", "BadTurning", "is_count", "every", "steps_from", "no_less", "spread", "check_ends", "Turning", "all_ends", "turnings", "bears", "is_within", "check_like", "_law_cell_at", "_law_well", "_law_draw", "_law_one", "_law_end", "_law_size", "_law_sum", "_law_between_right", "MOST_COLUMNS"]
theorem run (w : World) : HandSHeadRun.RunEq Rw (PySem.W.view Rw.prog [31]) hk obx 4000 loose w := by
  intro os
  kernel_rfl
def depth : Nat := 14
def tb : List FD := [f0, f1, f2, f3, f4, f5, f6, f7, f8, f9, f10, f11, f12, f13, f14, f15, f16, f17, f18, f19, f20, f21, f22, f23, f24, f25, f26, f27]
end T
end MP

namespace MP
namespace T
open PySem L2
/-! _law_cell_at -/
def m0 (p0 : (List Int)) (p1 : Int) : Option Int := cond (ltI p1 ((List.length p0 : Nat) : Int)) (bnd (Y.scrT p0 p1) fun v1 => some v1) (some 0)
theorem a0 {m : Nat} {p0 : (List Int)} {p1 : Int} {r : Int} (h : m0 p0 p1 = some r) : callN Gd tb 40 (m + 1) 0 [.scr p0, .dat (D.int p1)] = some ((R.val (D.int r)), [.scr p0, .dat (D.int p1)]) := by
  unfold m0 at h
  refine Y.call_of (d := f0) (l0 := [.scr p0, .dat (D.int p1)]) rfl rfl rfl rfl ?_
  rcases cond_some h with ⟨hc, h⟩ | ⟨hc, h⟩
  · refine Y.k_T (Y.t_b (X.e_o2 (o := .lt) (l1 := [.scr p0, .dat (D.int p1)]) (l2 := [.scr p0, .dat (D.int p1)]) (r1 := (R.val (D.int p1))) (r2 := (R.val (D.int ((List.length p0 : Nat) : Int)))) (d := (D.int p1)) (d' := (D.int ((List.length p0 : Nat) : Int))) (r := (R.val (D.bl (ltI p1 ((List.length p0 : Nat) : Int))))) (X.e_r0 rfl) (Y.e_sLen (ns := p0) rfl) rfl rfl (p_lt p1 ((List.length p0 : Nat) : Int)))) hc ?_
    obtain ⟨v1, h1, h⟩ := bnd_some h
    have hz := Option.some.inj h
    subst hz
    exact Y.k_rt (Y.s_retV (Y.e_sIx (ns := p0) (k := p1) rfl (X.e_r0 rfl) h1)) (Y.ends_rt rfl)
  · refine Y.k_F (Y.t_b (X.e_o2 (o := .lt) (l1 := [.scr p0, .dat (D.int p1)]) (l2 := [.scr p0, .dat (D.int p1)]) (r1 := (R.val (D.int p1))) (r2 := (R.val (D.int ((List.length p0 : Nat) : Int)))) (d := (D.int p1)) (d' := (D.int ((List.length p0 : Nat) : Int))) (r := (R.val (D.bl (ltI p1 ((List.length p0 : Nat) : Int))))) (X.e_r0 rfl) (Y.e_sLen (ns := p0) rfl) rfl rfl (p_lt p1 ((List.length p0 : Nat) : Int)))) hc ?_
    refine Y.k_nil ?_
    have hz := Option.some.inj h
    subst hz
    exact Y.k_rt (Y.s_retV X.e_k) (Y.ends_rt rfl)
/-! _law_well -/
def m1 (p0 : Int) : Option (List Int) := bnd (powT 10 18) fun v1 => bnd (ixT [0, p0] (cond (leI v1 p0) 1 0)) fun v2 => some [v2, p0, 0]
theorem a1 {m : Nat} {p0 : Int} {r : (List Int)} (h : m1 p0 = some r) : callN Gd tb 40 (m + 1) 1 [.dat (D.int p0)] = some ((R.new (List.map D.int r)), [.dat (D.int p0)]) := by
  unfold m1 at h
  refine Y.call_of (d := f1) (l0 := [.dat (D.int p0)]) rfl rfl rfl rfl ?_
  obtain ⟨v1, h1, h⟩ := bnd_some h
  obtain ⟨v2, h2, h⟩ := bnd_some h
  have hz := Option.some.inj h
  subst hz
  exact Y.k_rt (Y.s_retL (X.e_lst (ds := [(D.int v2), (D.int p0), (D.int 0)]) (X.es_cons (r := (R.val (D.int v2))) (l1 := [.dat (D.int p0)]) (X.e_o2 (o := .ix) (l1 := [.dat (D.int p0)]) (l2 := [.dat (D.int p0)]) (r1 := (R.new (List.map D.int [0, p0]))) (r2 := (R.val (D.int (cond (leI v1 p0) 1 0)))) (d := (D.lst (List.map D.int [0, p0]))) (d' := (D.int (cond (leI v1 p0) 1 0))) (r := (R.val (D.int v2))) (X.e_lst (ds := [(D.int 0), (D.int p0)]) (X.es_cons (r := (R.val (D.int 0))) (l1 := [.dat (D.int p0)]) X.e_k (X.es_cons (r := (R.val (D.int p0))) (l1 := [.dat (D.int p0)]) (X.e_r0 rfl) X.es_nil)) rfl) (X.e_o1 (o := .int) (l1 := [.dat (D.int p0)]) (r := (R.val (D.bl (leI v1 p0)))) (d := (D.bl (leI v1 p0))) (r' := (R.val (D.int (cond (leI v1 p0) 1 0)))) (X.e_o2 (o := .ge) (l1 := [.dat (D.int p0)]) (l2 := [.dat (D.int p0)]) (r1 := (R.val (D.int p0))) (r2 := (R.val (D.int v1))) (d := (D.int p0)) (d' := (D.int v1)) (r := (R.val (D.bl (leI v1 p0)))) (X.e_r0 rfl) (X.e_o2 (o := .pow) (l1 := [.dat (D.int p0)]) (l2 := [.dat (D.int p0)]) (r1 := (R.val (D.int 10))) (r2 := (R.val (D.int 18))) (d := (D.int 10)) (d' := (D.int 18)) (r := (R.val (D.int v1))) X.e_k X.e_k rfl rfl (p_pow h1)) rfl rfl (p_ge p0 v1)) rfl (p_intB (leI v1 p0))) rfl rfl (p_ixL (F := D.int) h2)) (X.es_cons (r := (R.val (D.int p0))) (l1 := [.dat (D.int p0)]) (X.e_r0 rfl) (X.es_cons (r := (R.val (D.int 0))) (l1 := [.dat (D.int p0)]) X.e_k X.es_nil))) rfl)) (Y.ends_rt rfl)
/-! _law_draw -/
def m2 (p0 : (List Int)) (p1 : Int) : Option (Int × (List Int)) := bnd (ixT p0 0) fun v1 => cond (ltI 0 v1) (bnd (ixT p0 0) fun v2 => bnd (modT v2 p1) fun v3 => bnd (ixT p0 0) fun v4 => bnd (fdivT v4 p1) fun v5 => bnd (putT p0 0 (v5)) fun v6 => some (v3, v6)) (bnd (ixT p0 2) fun v7 => bnd (putT p0 2 ((v7 + 1))) fun v8 => bnd (ixT v8 1) fun v9 => bnd (fdivT v9 2147483629) fun v10 => bnd (modT v10 65521) fun v11 => bnd (ixT v8 1) fun v12 => bnd (modT v12 2147483629) fun v13 => bnd (ixT v8 2) fun v14 => bnd (mulT 7919 v14) fun v15 => bnd (powT (((v13 + v15) + v11) + 1) 5) fun v16 => bnd (modT v16 2147483647) fun v17 => bnd (fdivT v17 1009) fun v18 => bnd (ixT v8 2) fun v19 => bnd (mulT v17 ((v18 + 69621) + v19)) fun v20 => bnd (modT v20 2147483629) fun v21 => bnd (fdivT v21 2003) fun v22 => bnd (mulT v21 (v22 + 40692)) fun v23 => bnd (modT v23 2147483399) fun v24 => bnd (modT v24 p1) fun v25 => some (v25, v8))
theorem a2 {m : Nat} {p0 : (List Int)} {p1 : Int} {r : Int} {w0 : (List Int)} (h : m2 p0 p1 = some (r, w0)) : callN Gd tb 40 (m + 1) 2 [.own true (List.map D.int p0), .dat (D.int p1)] = some ((R.val (D.int r)), [.own true (List.map D.int w0), .dat (D.int p1)]) := by
  unfold m2 at h
  refine Y.call_of (d := f2) (l0 := [.own true (List.map D.int p0), .dat (D.int p1), .none, .none, .none]) rfl rfl rfl rfl ?_
  obtain ⟨v1, h1, h⟩ := bnd_some h
  rcases cond_some h with ⟨hc, h⟩ | ⟨hc, h⟩
  · refine Y.k_T (Y.t_b (X.e_o2 (o := .gt) (l1 := [.own true (List.map D.int p0), .dat (D.int p1), .none, .none, .none]) (l2 := [.own true (List.map D.int p0), .dat (D.int p1), .none, .none, .none]) (r1 := (R.val (D.int v1))) (r2 := (R.val (D.int 0))) (d := (D.int v1)) (d' := (D.int 0)) (r := (R.val (D.bl (ltI 0 v1)))) (X.e_o2 (o := .ix) (l1 := [.own true (List.map D.int p0), .dat (D.int p1), .none, .none, .none]) (l2 := [.own true (List.map D.int p0), .dat (D.int p1), .none, .none, .none]) (r1 := (R.ref 0)) (r2 := (R.val (D.int 0))) (d := (D.lst (List.map D.int p0))) (d' := (D.int 0)) (r := (R.val (D.int v1))) (X.e_rO rfl) X.e_k rfl rfl (p_ixL (F := D.int) h1)) X.e_k rfl rfl (p_gt v1 0))) hc ?_
    obtain ⟨v2, h2, h⟩ := bnd_some h
    obtain ⟨v3, h3, h⟩ := bnd_some h
    refine Y.k_nx (l1 := [.own true (List.map D.int p0), .dat (D.int p1), .none, .none, .dat (D.int v3)]) (Y.s_set (r := (R.val (D.int v3))) (l1 := [.own true (List.map D.int p0), .dat (D.int p1), .none, .none, .none]) (d := (D.int v3)) (X.e_o2 (o := .mod) (l1 := [.own true (List.map D.int p0), .dat (D.int p1), .none, .none, .none]) (l2 := [.own true (List.map D.int p0), .dat (D.int p1), .none, .none, .none]) (r1 := (R.val (D.int v2))) (r2 := (R.val (D.int p1))) (d := (D.int v2)) (d' := (D.int p1)) (r := (R.val (D.int v3))) (X.e_o2 (o := .ix) (l1 := [.own true (List.map D.int p0), .dat (D.int p1), .none, .none, .none]) (l2 := [.own true (List.map D.int p0), .dat (D.int p1), .none, .none, .none]) (r1 := (R.ref 0)) (r2 := (R.val (D.int 0))) (d := (D.lst (List.map D.int p0))) (d' := (D.int 0)) (r := (R.val (D.int v2))) (X.e_rO rfl) X.e_k rfl rfl (p_ixL (F := D.int) h2)) (X.e_r0 rfl) rfl rfl (p_mod h3)) rfl rfl) ?_
    obtain ⟨v4, h4, h⟩ := bnd_some h
    obtain ⟨v5, h5, h⟩ := bnd_some h
    obtain ⟨v6, h6, h⟩ := bnd_some h
    refine Y.k_nx (l1 := [.own true (List.map D.int v6), .dat (D.int p1), .none, .none, .dat (D.int v3)]) (Y.s_put (f := D.int) (b' := true) (b'' := false) (xs := p0) (ys := p0) (k := 0) (v := v5) (r := (R.val (D.int v5))) (l1 := [.own true (List.map D.int p0), .dat (D.int p1), .none, .none, .dat (D.int v3)]) (l2 := [.own true (List.map D.int p0), .dat (D.int p1), .none, .none, .dat (D.int v3)]) (X.e_o2 (o := .fdiv) (l1 := [.own true (List.map D.int p0), .dat (D.int p1), .none, .none, .dat (D.int v3)]) (l2 := [.own true (List.map D.int p0), .dat (D.int p1), .none, .none, .dat (D.int v3)]) (r1 := (R.val (D.int v4))) (r2 := (R.val (D.int p1))) (d := (D.int v4)) (d' := (D.int p1)) (r := (R.val (D.int v5))) (X.e_o2 (o := .ix) (l1 := [.own true (List.map D.int p0), .dat (D.int p1), .none, .none, .dat (D.int v3)]) (l2 := [.own true (List.map D.int p0), .dat (D.int p1), .none, .none, .dat (D.int v3)]) (r1 := (R.ref 0)) (r2 := (R.val (D.int 0))) (d := (D.lst (List.map D.int p0))) (d' := (D.int 0)) (r := (R.val (D.int v4))) (X.e_rO rfl) X.e_k rfl rfl (p_ixL (F := D.int) h4)) (X.e_r0 rfl) rfl rfl (p_fdiv h5)) rfl X.e_k rfl rfl h6) ?_
    obtain ⟨hz0, hz1⟩ := inj2 h
    subst hz0
    subst hz1
    exact Y.k_rt (Y.s_retV (X.e_r0 rfl)) (Y.ends_rt rfl)
  · refine Y.k_F (Y.t_b (X.e_o2 (o := .gt) (l1 := [.own true (List.map D.int p0), .dat (D.int p1), .none, .none, .none]) (l2 := [.own true (List.map D.int p0), .dat (D.int p1), .none, .none, .none]) (r1 := (R.val (D.int v1))) (r2 := (R.val (D.int 0))) (d := (D.int v1)) (d' := (D.int 0)) (r := (R.val (D.bl (ltI 0 v1)))) (X.e_o2 (o := .ix) (l1 := [.own true (List.map D.int p0), .dat (D.int p1), .none, .none, .none]) (l2 := [.own true (List.map D.int p0), .dat (D.int p1), .none, .none, .none]) (r1 := (R.ref 0)) (r2 := (R.val (D.int 0))) (d := (D.lst (List.map D.int p0))) (d' := (D.int 0)) (r := (R.val (D.int v1))) (X.e_rO rfl) X.e_k rfl rfl (p_ixL (F := D.int) h1)) X.e_k rfl rfl (p_gt v1 0))) hc ?_
    refine Y.k_nil ?_
    obtain ⟨v7, h7, h⟩ := bnd_some h
    obtain ⟨v8, h8, h⟩ := bnd_some h
    refine Y.k_nx (l1 := [.own true (List.map D.int v8), .dat (D.int p1), .none, .none, .none]) (Y.s_put (f := D.int) (b' := true) (b'' := false) (xs := p0) (ys := p0) (k := 2) (v := (v7 + 1)) (r := (R.val (D.int (v7 + 1)))) (l1 := [.own true (List.map D.int p0), .dat (D.int p1), .none, .none, .none]) (l2 := [.own true (List.map D.int p0), .dat (D.int p1), .none, .none, .none]) (X.e_o2 (o := .add) (l1 := [.own true (List.map D.int p0), .dat (D.int p1), .none, .none, .none]) (l2 := [.own true (List.map D.int p0), .dat (D.int p1), .none, .none, .none]) (r1 := (R.val (D.int v7))) (r2 := (R.val (D.int 1))) (d := (D.int v7)) (d' := (D.int 1)) (r := (R.val (D.int (v7 + 1)))) (X.e_o2 (o := .ix) (l1 := [.own true (List.map D.int p0), .dat (D.int p1), .none, .none, .none]) (l2 := [.own true (List.map D.int p0), .dat (D.int p1), .none, .none, .none]) (r1 := (R.ref 0)) (r2 := (R.val (D.int 2))) (d := (D.lst (List.map D.int p0))) (d' := (D.int 2)) (r := (R.val (D.int v7))) (X.e_rO rfl) X.e_k rfl rfl (p_ixL (F := D.int) h7)) X.e_k rfl rfl rfl) rfl X.e_k rfl rfl h8) ?_
    obtain ⟨v9, h9, h⟩ := bnd_some h
    obtain ⟨v10, h10, h⟩ := bnd_some h
    obtain ⟨v11, h11, h⟩ := bnd_some h
    refine Y.k_nx (l1 := [.own true (List.map D.int v8), .dat (D.int p1), .dat (D.int v11), .none, .none]) (Y.s_set (r := (R.val (D.int v11))) (l1 := [.own true (List.map D.int v8), .dat (D.int p1), .none, .none, .none]) (d := (D.int v11)) (X.e_o2 (o := .mod) (l1 := [.own true (List.map D.int v8), .dat (D.int p1), .none, .none, .none]) (l2 := [.own true (List.map D.int v8), .dat (D.int p1), .none, .none, .none]) (r1 := (R.val (D.int v10))) (r2 := (R.val (D.int 65521))) (d := (D.int v10)) (d' := (D.int 65521)) (r := (R.val (D.int v11))) (X.e_o2 (o := .fdiv) (l1 := [.own true (List.map D.int v8), .dat (D.int p1), .none, .none, .none]) (l2 := [.own true (List.map D.int v8), .dat (D.int p1), .none, .none, .none]) (r1 := (R.val (D.int v9))) (r2 := (R.val (D.int 2147483629))) (d := (D.int v9)) (d' := (D.int 2147483629)) (r := (R.val (D.int v10))) (X.e_o2 (o := .ix) (l1 := [.own true (List.map D.int v8), .dat (D.int p1), .none, .none, .none]) (l2 := [.own true (List.map D.int v8), .dat (D.int p1), .none, .none, .none]) (r1 := (R.ref 0)) (r2 := (R.val (D.int 1))) (d := (D.lst (List.map D.int v8))) (d' := (D.int 1)) (r := (R.val (D.int v9))) (X.e_rO rfl) X.e_k rfl rfl (p_ixL (F := D.int) h9)) X.e_k rfl rfl (p_fdiv h10)) X.e_k rfl rfl (p_mod h11)) rfl rfl) ?_
    obtain ⟨v12, h12, h⟩ := bnd_some h
    obtain ⟨v13, h13, h⟩ := bnd_some h
    obtain ⟨v14, h14, h⟩ := bnd_some h
    obtain ⟨v15, h15, h⟩ := bnd_some h
    obtain ⟨v16, h16, h⟩ := bnd_some h
    obtain ⟨v17, h17, h⟩ := bnd_some h
    refine Y.k_nx (l1 := [.own true (List.map D.int v8), .dat (D.int p1), .dat (D.int v11), .dat (D.int v17), .none]) (Y.s_set (r := (R.val (D.int v17))) (l1 := [.own true (List.map D.int v8), .dat (D.int p1), .dat (D.int v11), .none, .none]) (d := (D.int v17)) (X.e_o2 (o := .mod) (l1 := [.own true (List.map D.int v8), .dat (D.int p1), .dat (D.int v11), .none, .none]) (l2 := [.own true (List.map D.int v8), .dat (D.int p1), .dat (D.int v11), .none, .none]) (r1 := (R.val (D.int v16))) (r2 := (R.val (D.int 2147483647))) (d := (D.int v16)) (d' := (D.int 2147483647)) (r := (R.val (D.int v17))) (X.e_o2 (o := .pow) (l1 := [.own true (List.map D.int v8), .dat (D.int p1), .dat (D.int v11), .none, .none]) (l2 := [.own true (List.map D.int v8), .dat (D.int p1), .dat (D.int v11), .none, .none]) (r1 := (R.val (D.int (((v13 + v15) + v11) + 1)))) (r2 := (R.val (D.int 5))) (d := (D.int (((v13 + v15) + v11) + 1))) (d' := (D.int 5)) (r := (R.val (D.int v16))) (X.e_o2 (o := .add) (l1 := [.own true (List.map D.int v8), .dat (D.int p1), .dat (D.int v11), .none, .none]) (l2 := [.own true (List.map D.int v8), .dat (D.int p1), .dat (D.int v11), .none, .none]) (r1 := (R.val (D.int ((v13 + v15) + v11)))) (r2 := (R.val (D.int 1))) (d := (D.int ((v13 + v15) + v11))) (d' := (D.int 1)) (r := (R.val (D.int (((v13 + v15) + v11) + 1)))) (X.e_o2 (o := .add) (l1 := [.own true (List.map D.int v8), .dat (D.int p1), .dat (D.int v11), .none, .none]) (l2 := [.own true (List.map D.int v8), .dat (D.int p1), .dat (D.int v11), .none, .none]) (r1 := (R.val (D.int (v13 + v15)))) (r2 := (R.val (D.int v11))) (d := (D.int (v13 + v15))) (d' := (D.int v11)) (r := (R.val (D.int ((v13 + v15) + v11)))) (X.e_o2 (o := .add) (l1 := [.own true (List.map D.int v8), .dat (D.int p1), .dat (D.int v11), .none, .none]) (l2 := [.own true (List.map D.int v8), .dat (D.int p1), .dat (D.int v11), .none, .none]) (r1 := (R.val (D.int v13))) (r2 := (R.val (D.int v15))) (d := (D.int v13)) (d' := (D.int v15)) (r := (R.val (D.int (v13 + v15)))) (X.e_o2 (o := .mod) (l1 := [.own true (List.map D.int v8), .dat (D.int p1), .dat (D.int v11), .none, .none]) (l2 := [.own true (List.map D.int v8), .dat (D.int p1), .dat (D.int v11), .none, .none]) (r1 := (R.val (D.int v12))) (r2 := (R.val (D.int 2147483629))) (d := (D.int v12)) (d' := (D.int 2147483629)) (r := (R.val (D.int v13))) (X.e_o2 (o := .ix) (l1 := [.own true (List.map D.int v8), .dat (D.int p1), .dat (D.int v11), .none, .none]) (l2 := [.own true (List.map D.int v8), .dat (D.int p1), .dat (D.int v11), .none, .none]) (r1 := (R.ref 0)) (r2 := (R.val (D.int 1))) (d := (D.lst (List.map D.int v8))) (d' := (D.int 1)) (r := (R.val (D.int v12))) (X.e_rO rfl) X.e_k rfl rfl (p_ixL (F := D.int) h12)) X.e_k rfl rfl (p_mod h13)) (X.e_o2 (o := .mul) (l1 := [.own true (List.map D.int v8), .dat (D.int p1), .dat (D.int v11), .none, .none]) (l2 := [.own true (List.map D.int v8), .dat (D.int p1), .dat (D.int v11), .none, .none]) (r1 := (R.val (D.int 7919))) (r2 := (R.val (D.int v14))) (d := (D.int 7919)) (d' := (D.int v14)) (r := (R.val (D.int v15))) X.e_k (X.e_o2 (o := .ix) (l1 := [.own true (List.map D.int v8), .dat (D.int p1), .dat (D.int v11), .none, .none]) (l2 := [.own true (List.map D.int v8), .dat (D.int p1), .dat (D.int v11), .none, .none]) (r1 := (R.ref 0)) (r2 := (R.val (D.int 2))) (d := (D.lst (List.map D.int v8))) (d' := (D.int 2)) (r := (R.val (D.int v14))) (X.e_rO rfl) X.e_k rfl rfl (p_ixL (F := D.int) h14)) rfl rfl (p_mul h15)) rfl rfl rfl) (X.e_r0 rfl) rfl rfl rfl) X.e_k rfl rfl rfl) X.e_k rfl rfl (p_pow h16)) X.e_k rfl rfl (p_mod h17)) rfl rfl) ?_
    obtain ⟨v18, h18, h⟩ := bnd_some h
    obtain ⟨v19, h19, h⟩ := bnd_some h
    obtain ⟨v20, h20, h⟩ := bnd_some h
    obtain ⟨v21, h21, h⟩ := bnd_some h
    refine Y.k_nx (l1 := [.own true (List.map D.int v8), .dat (D.int p1), .dat (D.int v11), .dat (D.int v21), .none]) (Y.s_set (r := (R.val (D.int v21))) (l1 := [.own true (List.map D.int v8), .dat (D.int p1), .dat (D.int v11), .dat (D.int v17), .none]) (d := (D.int v21)) (X.e_o2 (o := .mod) (l1 := [.own true (List.map D.int v8), .dat (D.int p1), .dat (D.int v11), .dat (D.int v17), .none]) (l2 := [.own true (List.map D.int v8), .dat (D.int p1), .dat (D.int v11), .dat (D.int v17), .none]) (r1 := (R.val (D.int v20))) (r2 := (R.val (D.int 2147483629))) (d := (D.int v20)) (d' := (D.int 2147483629)) (r := (R.val (D.int v21))) (X.e_o2 (o := .mul) (l1 := [.own true (List.map D.int v8), .dat (D.int p1), .dat (D.int v11), .dat (D.int v17), .none]) (l2 := [.own true (List.map D.int v8), .dat (D.int p1), .dat (D.int v11), .dat (D.int v17), .none]) (r1 := (R.val (D.int v17))) (r2 := (R.val (D.int ((v18 + 69621) + v19)))) (d := (D.int v17)) (d' := (D.int ((v18 + 69621) + v19))) (r := (R.val (D.int v20))) (X.e_r0 rfl) (X.e_o2 (o := .add) (l1 := [.own true (List.map D.int v8), .dat (D.int p1), .dat (D.int v11), .dat (D.int v17), .none]) (l2 := [.own true (List.map D.int v8), .dat (D.int p1), .dat (D.int v11), .dat (D.int v17), .none]) (r1 := (R.val (D.int (v18 + 69621)))) (r2 := (R.val (D.int v19))) (d := (D.int (v18 + 69621))) (d' := (D.int v19)) (r := (R.val (D.int ((v18 + 69621) + v19)))) (X.e_o2 (o := .add) (l1 := [.own true (List.map D.int v8), .dat (D.int p1), .dat (D.int v11), .dat (D.int v17), .none]) (l2 := [.own true (List.map D.int v8), .dat (D.int p1), .dat (D.int v11), .dat (D.int v17), .none]) (r1 := (R.val (D.int v18))) (r2 := (R.val (D.int 69621))) (d := (D.int v18)) (d' := (D.int 69621)) (r := (R.val (D.int (v18 + 69621)))) (X.e_o2 (o := .fdiv) (l1 := [.own true (List.map D.int v8), .dat (D.int p1), .dat (D.int v11), .dat (D.int v17), .none]) (l2 := [.own true (List.map D.int v8), .dat (D.int p1), .dat (D.int v11), .dat (D.int v17), .none]) (r1 := (R.val (D.int v17))) (r2 := (R.val (D.int 1009))) (d := (D.int v17)) (d' := (D.int 1009)) (r := (R.val (D.int v18))) (X.e_r0 rfl) X.e_k rfl rfl (p_fdiv h18)) X.e_k rfl rfl rfl) (X.e_o2 (o := .ix) (l1 := [.own true (List.map D.int v8), .dat (D.int p1), .dat (D.int v11), .dat (D.int v17), .none]) (l2 := [.own true (List.map D.int v8), .dat (D.int p1), .dat (D.int v11), .dat (D.int v17), .none]) (r1 := (R.ref 0)) (r2 := (R.val (D.int 2))) (d := (D.lst (List.map D.int v8))) (d' := (D.int 2)) (r := (R.val (D.int v19))) (X.e_rO rfl) X.e_k rfl rfl (p_ixL (F := D.int) h19)) rfl rfl rfl) rfl rfl (p_mul h20)) X.e_k rfl rfl (p_mod h21)) rfl rfl) ?_
    obtain ⟨v22, h22, h⟩ := bnd_some h
    obtain ⟨v23, h23, h⟩ := bnd_some h
    obtain ⟨v24, h24, h⟩ := bnd_some h
    obtain ⟨v25, h25, h⟩ := bnd_some h
    obtain ⟨hz0, hz1⟩ := inj2 h
    subst hz0
    subst hz1
    exact Y.k_rt (Y.s_retV (X.e_o2 (o := .mod) (l1 := [.own true (List.map D.int v8), .dat (D.int p1), .dat (D.int v11), .dat (D.int v21), .none]) (l2 := [.own true (List.map D.int v8), .dat (D.int p1), .dat (D.int v11), .dat (D.int v21), .none]) (r1 := (R.val (D.int v24))) (r2 := (R.val (D.int p1))) (d := (D.int v24)) (d' := (D.int p1)) (r := (R.val (D.int v25))) (X.e_o2 (o := .mod) (l1 := [.own true (List.map D.int v8), .dat (D.int p1), .dat (D.int v11), .dat (D.int v21), .none]) (l2 := [.own true (List.map D.int v8), .dat (D.int p1), .dat (D.int v11), .dat (D.int v21), .none]) (r1 := (R.val (D.int v23))) (r2 := (R.val (D.int 2147483399))) (d := (D.int v23)) (d' := (D.int 2147483399)) (r := (R.val (D.int v24))) (X.e_o2 (o := .mul) (l1 := [.own true (List.map D.int v8), .dat (D.int p1), .dat (D.int v11), .dat (D.int v21), .none]) (l2 := [.own true (List.map D.int v8), .dat (D.int p1), .dat (D.int v11), .dat (D.int v21), .none]) (r1 := (R.val (D.int v21))) (r2 := (R.val (D.int (v22 + 40692)))) (d := (D.int v21)) (d' := (D.int (v22 + 40692))) (r := (R.val (D.int v23))) (X.e_r0 rfl) (X.e_o2 (o := .add) (l1 := [.own true (List.map D.int v8), .dat (D.int p1), .dat (D.int v11), .dat (D.int v21), .none]) (l2 := [.own true (List.map D.int v8), .dat (D.int p1), .dat (D.int v11), .dat (D.int v21), .none]) (r1 := (R.val (D.int v22))) (r2 := (R.val (D.int 40692))) (d := (D.int v22)) (d' := (D.int 40692)) (r := (R.val (D.int (v22 + 40692)))) (X.e_o2 (o := .fdiv) (l1 := [.own true (List.map D.int v8), .dat (D.int p1), .dat (D.int v11), .dat (D.int v21), .none]) (l2 := [.own true (List.map D.int v8), .dat (D.int p1), .dat (D.int v11), .dat (D.int v21), .none]) (r1 := (R.val (D.int v21))) (r2 := (R.val (D.int 2003))) (d := (D.int v21)) (d' := (D.int 2003)) (r := (R.val (D.int v22))) (X.e_r0 rfl) X.e_k rfl rfl (p_fdiv h22)) X.e_k rfl rfl rfl) rfl rfl (p_mul h23)) X.e_k rfl rfl (p_mod h24)) (X.e_r0 rfl) rfl rfl (p_mod h25))) (Y.ends_rt rfl)
/-! _law_end -/
def m3 (p0 : (List Int)) (p1 : Int) : Option Int := bnd (modT (p1 - 1) ((List.length p0 : Nat) : Int)) fun v1 => bnd (ixT p0 v1) fun v2 => bnd (fdivT (p1 - 1) ((List.length p0 : Nat) : Int)) fun v3 => bnd (mulT v3 ((List.length p0 : Nat) : Int)) fun v4 => some (v2 + v4)
theorem a3 {m : Nat} {p0 : (List Int)} {p1 : Int} {r : Int} (h : m3 p0 p1 = some r) : callN Gd tb 40 (m + 1) 3 [.dat (lstD p0), .dat (D.int p1)] = some ((R.val (D.int r)), [.dat (lstD p0), .dat (D.int p1)]) := by
  unfold m3 at h
  refine Y.call_of (d := f3) (l0 := [.dat (lstD p0), .dat (D.int p1), .none]) rfl rfl rfl rfl ?_
  refine Y.k_nx (l1 := [.dat (lstD p0), .dat (D.int p1), .dat (D.int ((List.length p0 : Nat) : Int))]) (Y.s_set (r := (R.val (D.int ((List.length p0 : Nat) : Int)))) (l1 := [.dat (lstD p0), .dat (D.int p1), .none]) (d := (D.int ((List.length p0 : Nat) : Int))) (X.e_o1 (o := .len) (l1 := [.dat (lstD p0), .dat (D.int p1), .none]) (r := (R.val (lstD p0))) (d := (lstD p0)) (r' := (R.val (D.int ((List.length p0 : Nat) : Int)))) (X.e_r0 rfl) rfl (p_len D.int p0)) rfl rfl) ?_
  obtain ⟨v1, h1, h⟩ := bnd_some h
  obtain ⟨v2, h2, h⟩ := bnd_some h
  obtain ⟨v3, h3, h⟩ := bnd_some h
  obtain ⟨v4, h4, h⟩ := bnd_some h
  have hz := Option.some.inj h
  subst hz
  exact Y.k_rt (Y.s_retV (X.e_o2 (o := .add) (l1 := [.dat (lstD p0), .dat (D.int p1), .dat (D.int ((List.length p0 : Nat) : Int))]) (l2 := [.dat (lstD p0), .dat (D.int p1), .dat (D.int ((List.length p0 : Nat) : Int))]) (r1 := (R.val (D.int v2))) (r2 := (R.val (D.int v4))) (d := (D.int v2)) (d' := (D.int v4)) (r := (R.val (D.int (v2 + v4)))) (X.e_o2 (o := .ix) (l1 := [.dat (lstD p0), .dat (D.int p1), .dat (D.int ((List.length p0 : Nat) : Int))]) (l2 := [.dat (lstD p0), .dat (D.int p1), .dat (D.int ((List.length p0 : Nat) : Int))]) (r1 := (R.val (lstD p0))) (r2 := (R.val (D.int v1))) (d := (lstD p0)) (d' := (D.int v1)) (r := (R.val (D.int v2))) (X.e_r0 rfl) (X.e_o2 (o := .mod) (l1 := [.dat (lstD p0), .dat (D.int p1), .dat (D.int ((List.length p0 : Nat) : Int))]) (l2 := [.dat (lstD p0), .dat (D.int p1), .dat (D.int ((List.length p0 : Nat) : Int))]) (r1 := (R.val (D.int (p1 - 1)))) (r2 := (R.val (D.int ((List.length p0 : Nat) : Int)))) (d := (D.int (p1 - 1))) (d' := (D.int ((List.length p0 : Nat) : Int))) (r := (R.val (D.int v1))) (X.e_o2 (o := .sub) (l1 := [.dat (lstD p0), .dat (D.int p1), .dat (D.int ((List.length p0 : Nat) : Int))]) (l2 := [.dat (lstD p0), .dat (D.int p1), .dat (D.int ((List.length p0 : Nat) : Int))]) (r1 := (R.val (D.int p1))) (r2 := (R.val (D.int 1))) (d := (D.int p1)) (d' := (D.int 1)) (r := (R.val (D.int (p1 - 1)))) (X.e_r0 rfl) X.e_k rfl rfl rfl) (X.e_r0 rfl) rfl rfl (p_mod h1)) rfl rfl (p_ixL (F := D.int) h2)) (X.e_o2 (o := .mul) (l1 := [.dat (lstD p0), .dat (D.int p1), .dat (D.int ((List.length p0 : Nat) : Int))]) (l2 := [.dat (lstD p0), .dat (D.int p1), .dat (D.int ((List.length p0 : Nat) : Int))]) (r1 := (R.val (D.int v3))) (r2 := (R.val (D.int ((List.length p0 : Nat) : Int)))) (d := (D.int v3)) (d' := (D.int ((List.length p0 : Nat) : Int))) (r := (R.val (D.int v4))) (X.e_o2 (o := .fdiv) (l1 := [.dat (lstD p0), .dat (D.int p1), .dat (D.int ((List.length p0 : Nat) : Int))]) (l2 := [.dat (lstD p0), .dat (D.int p1), .dat (D.int ((List.length p0 : Nat) : Int))]) (r1 := (R.val (D.int (p1 - 1)))) (r2 := (R.val (D.int ((List.length p0 : Nat) : Int)))) (d := (D.int (p1 - 1))) (d' := (D.int ((List.length p0 : Nat) : Int))) (r := (R.val (D.int v3))) (X.e_o2 (o := .sub) (l1 := [.dat (lstD p0), .dat (D.int p1), .dat (D.int ((List.length p0 : Nat) : Int))]) (l2 := [.dat (lstD p0), .dat (D.int p1), .dat (D.int ((List.length p0 : Nat) : Int))]) (r1 := (R.val (D.int p1))) (r2 := (R.val (D.int 1))) (d := (D.int p1)) (d' := (D.int 1)) (r := (R.val (D.int (p1 - 1)))) (X.e_r0 rfl) X.e_k rfl rfl rfl) (X.e_r0 rfl) rfl rfl (p_fdiv h3)) (X.e_r0 rfl) rfl rfl (p_mul h4)) rfl rfl rfl)) (Y.ends_rt rfl)
/-! _law_size -/
def m4 (p0 : (List Int)) : Option Int := bnd (mulT ((List.length p0 : Nat) : Int) (((List.length p0 : Nat) : Int) + 1)) fun v1 => bnd (fdivT v1 2) fun v2 => bnd (fdivT ((sumI p0) - v2) ((List.length p0 : Nat) : Int)) fun v3 => bnd (mulT v3 (((List.length p0 : Nat) : Int) - v3)) fun v4 => bnd (rng2T 1 (((List.length p0 : Nat) : Int) + 1)) fun v5 => bnd (Y.foldT (fun (s5 : Int) (x6 : Int) => bnd (rng2T (x6 + 1) ((x6 + ((List.length p0 : Nat) : Int)) + 1)) fun v8 => bnd (lcG (fun v9 : Int => bnd (m3 (p0) (v9)) fun v10 => bnd (m3 (p0) (x6)) fun v11 => cond (ltI v10 v11) (some (some v9)) (some none)) v8) fun v12 => some (s5 - ((List.length v12 : Nat) : Int))) v4 v5) fun v13 => some v13
theorem a4 {m : Nat} {p0 : (List Int)} {r : Int} (h : m4 p0 = some r) : callN Gd tb 40 (m + 2) 4 [.dat (lstD p0)] = some ((R.val (D.int r)), [.dat (lstD p0)]) := by
  unfold m4 at h
  refine Y.call_of (d := f4) (l0 := [.dat (lstD p0), .none, .none, .none, .none, .none]) rfl rfl rfl rfl ?_
  refine Y.k_nx (l1 := [.dat (lstD p0), .dat (D.int ((List.length p0 : Nat) : Int)), .none, .none, .none, .none]) (Y.s_set (r := (R.val (D.int ((List.length p0 : Nat) : Int)))) (l1 := [.dat (lstD p0), .none, .none, .none, .none, .none]) (d := (D.int ((List.length p0 : Nat) : Int))) (X.e_o1 (o := .len) (l1 := [.dat (lstD p0), .none, .none, .none, .none, .none]) (r := (R.val (lstD p0))) (d := (lstD p0)) (r' := (R.val (D.int ((List.length p0 : Nat) : Int)))) (X.e_r0 rfl) rfl (p_len D.int p0)) rfl rfl) ?_
  obtain ⟨v1, h1, h⟩ := bnd_some h
  obtain ⟨v2, h2, h⟩ := bnd_some h
  obtain ⟨v3, h3, h⟩ := bnd_some h
  refine Y.k_nx (l1 := [.dat (lstD p0), .dat (D.int ((List.length p0 : Nat) : Int)), .dat (D.int v3), .none, .none, .none]) (Y.s_set (r := (R.val (D.int v3))) (l1 := [.dat (lstD p0), .dat (D.int ((List.length p0 : Nat) : Int)), .none, .none, .none, .none]) (d := (D.int v3)) (X.e_o2 (o := .fdiv) (l1 := [.dat (lstD p0), .dat (D.int ((List.length p0 : Nat) : Int)), .none, .none, .none, .none]) (l2 := [.dat (lstD p0), .dat (D.int ((List.length p0 : Nat) : Int)), .none, .none, .none, .none]) (r1 := (R.val (D.int ((sumI p0) - v2)))) (r2 := (R.val (D.int ((List.length p0 : Nat) : Int)))) (d := (D.int ((sumI p0) - v2))) (d' := (D.int ((List.length p0 : Nat) : Int))) (r := (R.val (D.int v3))) (X.e_o2 (o := .sub) (l1 := [.dat (lstD p0), .dat (D.int ((List.length p0 : Nat) : Int)), .none, .none, .none, .none]) (l2 := [.dat (lstD p0), .dat (D.int ((List.length p0 : Nat) : Int)), .none, .none, .none, .none]) (r1 := (R.val (D.int (sumI p0)))) (r2 := (R.val (D.int v2))) (d := (D.int (sumI p0))) (d' := (D.int v2)) (r := (R.val (D.int ((sumI p0) - v2)))) (X.e_o1 (o := .sum) (l1 := [.dat (lstD p0), .dat (D.int ((List.length p0 : Nat) : Int)), .none, .none, .none, .none]) (r := (R.val (lstD p0))) (d := (lstD p0)) (r' := (R.val (D.int (sumI p0)))) (X.e_r0 rfl) rfl (p_sumL p0)) (X.e_o2 (o := .fdiv) (l1 := [.dat (lstD p0), .dat (D.int ((List.length p0 : Nat) : Int)), .none, .none, .none, .none]) (l2 := [.dat (lstD p0), .dat (D.int ((List.length p0 : Nat) : Int)), .none, .none, .none, .none]) (r1 := (R.val (D.int v1))) (r2 := (R.val (D.int 2))) (d := (D.int v1)) (d' := (D.int 2)) (r := (R.val (D.int v2))) (X.e_o2 (o := .mul) (l1 := [.dat (lstD p0), .dat (D.int ((List.length p0 : Nat) : Int)), .none, .none, .none, .none]) (l2 := [.dat (lstD p0), .dat (D.int ((List.length p0 : Nat) : Int)), .none, .none, .none, .none]) (r1 := (R.val (D.int ((List.length p0 : Nat) : Int)))) (r2 := (R.val (D.int (((List.length p0 : Nat) : Int) + 1)))) (d := (D.int ((List.length p0 : Nat) : Int))) (d' := (D.int (((List.length p0 : Nat) : Int) + 1))) (r := (R.val (D.int v1))) (X.e_r0 rfl) (X.e_o2 (o := .add) (l1 := [.dat (lstD p0), .dat (D.int ((List.length p0 : Nat) : Int)), .none, .none, .none, .none]) (l2 := [.dat (lstD p0), .dat (D.int ((List.length p0 : Nat) : Int)), .none, .none, .none, .none]) (r1 := (R.val (D.int ((List.length p0 : Nat) : Int)))) (r2 := (R.val (D.int 1))) (d := (D.int ((List.length p0 : Nat) : Int))) (d' := (D.int 1)) (r := (R.val (D.int (((List.length p0 : Nat) : Int) + 1)))) (X.e_r0 rfl) X.e_k rfl rfl rfl) rfl rfl (p_mul h1)) X.e_k rfl rfl (p_fdiv h2)) rfl rfl rfl) (X.e_r0 rfl) rfl rfl (p_fdiv h3)) rfl rfl) ?_
  obtain ⟨v4, h4, h⟩ := bnd_some h
  refine Y.k_nx (l1 := [.dat (lstD p0), .dat (D.int ((List.length p0 : Nat) : Int)), .dat (D.int v3), .dat (D.int v4), .none, .none]) (Y.s_set (r := (R.val (D.int v4))) (l1 := [.dat (lstD p0), .dat (D.int ((List.length p0 : Nat) : Int)), .dat (D.int v3), .none, .none, .none]) (d := (D.int v4)) (X.e_o2 (o := .mul) (l1 := [.dat (lstD p0), .dat (D.int ((List.length p0 : Nat) : Int)), .dat (D.int v3), .none, .none, .none]) (l2 := [.dat (lstD p0), .dat (D.int ((List.length p0 : Nat) : Int)), .dat (D.int v3), .none, .none, .none]) (r1 := (R.val (D.int v3))) (r2 := (R.val (D.int (((List.length p0 : Nat) : Int) - v3)))) (d := (D.int v3)) (d' := (D.int (((List.length p0 : Nat) : Int) - v3))) (r := (R.val (D.int v4))) (X.e_r0 rfl) (X.e_o2 (o := .sub) (l1 := [.dat (lstD p0), .dat (D.int ((List.length p0 : Nat) : Int)), .dat (D.int v3), .none, .none, .none]) (l2 := [.dat (lstD p0), .dat (D.int ((List.length p0 : Nat) : Int)), .dat (D.int v3), .none, .none, .none]) (r1 := (R.val (D.int ((List.length p0 : Nat) : Int)))) (r2 := (R.val (D.int v3))) (d := (D.int ((List.length p0 : Nat) : Int))) (d' := (D.int v3)) (r := (R.val (D.int (((List.length p0 : Nat) : Int) - v3)))) (X.e_r0 rfl) (X.e_r0 rfl) rfl rfl rfl) rfl rfl (p_mul h4)) rfl rfl) ?_
  obtain ⟨v5, h5, h⟩ := bnd_some h
  refine Y.k_fold (L := (fun s5 : Int => [.dat (lstD p0), .dat (D.int ((List.length p0 : Nat) : Int)), .dat (D.int v3), .dat (D.int s5), .none, .none])) (g := D.int) (s0 := v4) (xs := v5) (Y.i_rng2 (m := 1) (n := (((List.length p0 : Nat) : Int) + 1)) (l1 := [.dat (lstD p0), .dat (D.int ((List.length p0 : Nat) : Int)), .dat (D.int v3), .dat (D.int v4), .none, .none]) X.e_k (X.e_o2 (o := .add) (l1 := [.dat (lstD p0), .dat (D.int ((List.length p0 : Nat) : Int)), .dat (D.int v3), .dat (D.int v4), .none, .none]) (l2 := [.dat (lstD p0), .dat (D.int ((List.length p0 : Nat) : Int)), .dat (D.int v3), .dat (D.int v4), .none, .none]) (r1 := (R.val (D.int ((List.length p0 : Nat) : Int)))) (r2 := (R.val (D.int 1))) (d := (D.int ((List.length p0 : Nat) : Int))) (d' := (D.int 1)) (r := (R.val (D.int (((List.length p0 : Nat) : Int) + 1)))) (X.e_r0 rfl) X.e_k rfl rfl rfl) h5) rfl h ?_ ?_
  · intro s5 x6 o h
    try dsimp only at h
    refine ⟨[.dat (lstD p0), .dat (D.int ((List.length p0 : Nat) : Int)), .dat (D.int v3), .dat (D.int s5), .dat (D.int x6), .none], rfl, ?_⟩
    obtain ⟨v8, h6, h⟩ := bnd_some h
    obtain ⟨v12, h9, h⟩ := bnd_some h
    have q9 : ev Gd (callN Gd tb 40 (m + 1)) (.lc [5] (.v 5) (.rng2 (.o2 .add (.r 4) (.c (.int 1))) (.o2 .add (.o2 .add (.r 4) (.r 1)) (.c (.int 1)))) [.o2 .lt (.call 3 [.r 0, .r 5]) (.call 3 [.r 0, .r 4])] (.r 5)) [.dat (lstD p0), .dat (D.int ((List.length p0 : Nat) : Int)), .dat (D.int v3), .dat (D.int s5), .dat (D.int x6), .none] = some ((R.new (List.map D.int v12)), [.dat (lstD p0), .dat (D.int ((List.length p0 : Nat) : Int)), .dat (D.int v3), .dat (D.int s5), .dat (D.int x6), .none]) := Y.e_lc (w := [.dat (lstD p0), .dat (D.int ((List.length p0 : Nat) : Int)), .dat (D.int v3), .dat (D.int s5), .dat (D.int x6), .none]) (ga := D.int) (gb := D.int) (Y.i_rng2 (m := (x6 + 1)) (n := ((x6 + ((List.length p0 : Nat) : Int)) + 1)) (l1 := [.dat (lstD p0), .dat (D.int ((List.length p0 : Nat) : Int)), .dat (D.int v3), .dat (D.int s5), .dat (D.int x6), .none]) (X.e_o2 (o := .add) (l1 := [.dat (lstD p0), .dat (D.int ((List.length p0 : Nat) : Int)), .dat (D.int v3), .dat (D.int s5), .dat (D.int x6), .none]) (l2 := [.dat (lstD p0), .dat (D.int ((List.length p0 : Nat) : Int)), .dat (D.int v3), .dat (D.int s5), .dat (D.int x6), .none]) (r1 := (R.val (D.int x6))) (r2 := (R.val (D.int 1))) (d := (D.int x6)) (d' := (D.int 1)) (r := (R.val (D.int (x6 + 1)))) (X.e_r0 rfl) X.e_k rfl rfl rfl) (X.e_o2 (o := .add) (l1 := [.dat (lstD p0), .dat (D.int ((List.length p0 : Nat) : Int)), .dat (D.int v3), .dat (D.int s5), .dat (D.int x6), .none]) (l2 := [.dat (lstD p0), .dat (D.int ((List.length p0 : Nat) : Int)), .dat (D.int v3), .dat (D.int s5), .dat (D.int x6), .none]) (r1 := (R.val (D.int (x6 + ((List.length p0 : Nat) : Int))))) (r2 := (R.val (D.int 1))) (d := (D.int (x6 + ((List.length p0 : Nat) : Int)))) (d' := (D.int 1)) (r := (R.val (D.int ((x6 + ((List.length p0 : Nat) : Int)) + 1)))) (X.e_o2 (o := .add) (l1 := [.dat (lstD p0), .dat (D.int ((List.length p0 : Nat) : Int)), .dat (D.int v3), .dat (D.int s5), .dat (D.int x6), .none]) (l2 := [.dat (lstD p0), .dat (D.int ((List.length p0 : Nat) : Int)), .dat (D.int v3), .dat (D.int s5), .dat (D.int x6), .none]) (r1 := (R.val (D.int x6))) (r2 := (R.val (D.int ((List.length p0 : Nat) : Int)))) (d := (D.int x6)) (d' := (D.int ((List.length p0 : Nat) : Int))) (r := (R.val (D.int (x6 + ((List.length p0 : Nat) : Int))))) (X.e_r0 rfl) (X.e_r0 rfl) rfl rfl rfl) X.e_k rfl rfl rfl) h6) rfl rfl h9 (by
        intro v9 o h
        try dsimp only at h
        obtain ⟨v10, h7, h⟩ := bnd_some h
        obtain ⟨v11, h8, h⟩ := bnd_some h
        rcases cond_some h with ⟨hc, h⟩ | ⟨hc, h⟩
        · skip
          have hz := Option.some.inj h
          subst hz
          exact ⟨[.dat (lstD p0), .dat (D.int ((List.length p0 : Nat) : Int)), .dat (D.int v3), .dat (D.int s5), .dat (D.int x6), .dat (D.int v9)], [.dat (lstD p0), .dat (D.int ((List.length p0 : Nat) : Int)), .dat (D.int v3), .dat (D.int s5), .dat (D.int x6), .dat (D.int v9)], rfl, Y.c_oneT (Y.t_b (X.e_o2 (o := .lt) (l1 := [.dat (lstD p0), .dat (D.int ((List.length p0 : Nat) : Int)), .dat (D.int v3), .dat (D.int s5), .dat (D.int x6), .dat (D.int v9)]) (l2 := [.dat (lstD p0), .dat (D.int ((List.length p0 : Nat) : Int)), .dat (D.int v3), .dat (D.int s5), .dat (D.int x6), .dat (D.int v9)]) (r1 := (R.val (D.int v10))) (r2 := (R.val (D.int v11))) (d := (D.int v10)) (d' := (D.int v11)) (r := (R.val (D.bl (ltI v10 v11)))) (Y.e_call (rs := [(R.val (lstD p0)), (R.val (D.int v9))]) (l1 := [.dat (lstD p0), .dat (D.int ((List.length p0 : Nat) : Int)), .dat (D.int v3), .dat (D.int s5), .dat (D.int x6), .dat (D.int v9)]) (r := (R.val (D.int v10))) (X.es_cons (r := (R.val (lstD p0))) (l1 := [.dat (lstD p0), .dat (D.int ((List.length p0 : Nat) : Int)), .dat (D.int v3), .dat (D.int s5), .dat (D.int x6), .dat (D.int v9)]) (X.e_r0 rfl) (X.es_cons (r := (R.val (D.int v9))) (l1 := [.dat (lstD p0), .dat (D.int ((List.length p0 : Nat) : Int)), .dat (D.int v3), .dat (D.int s5), .dat (D.int x6), .dat (D.int v9)]) (X.e_r0 rfl) X.es_nil)) (Y.do_val (ds := [(lstD p0), (D.int v9)]) (a3 (m := m + 0) h7))) (Y.e_call (rs := [(R.val (lstD p0)), (R.val (D.int x6))]) (l1 := [.dat (lstD p0), .dat (D.int ((List.length p0 : Nat) : Int)), .dat (D.int v3), .dat (D.int s5), .dat (D.int x6), .dat (D.int v9)]) (r := (R.val (D.int v11))) (X.es_cons (r := (R.val (lstD p0))) (l1 := [.dat (lstD p0), .dat (D.int ((List.length p0 : Nat) : Int)), .dat (D.int v3), .dat (D.int s5), .dat (D.int x6), .dat (D.int v9)]) (X.e_r0 rfl) (X.es_cons (r := (R.val (D.int x6))) (l1 := [.dat (lstD p0), .dat (D.int ((List.length p0 : Nat) : Int)), .dat (D.int v3), .dat (D.int s5), .dat (D.int x6), .dat (D.int v9)]) (X.e_r0 rfl) X.es_nil)) (Y.do_val (ds := [(lstD p0), (D.int x6)]) (a3 (m := m + 0) h8))) rfl rfl (p_lt v10 v11))) hc, (R.val (D.int v9)), [.dat (lstD p0), .dat (D.int ((List.length p0 : Nat) : Int)), .dat (D.int v3), .dat (D.int s5), .dat (D.int x6), .dat (D.int v9)], (X.e_r0 rfl), rfl, rfl⟩
        · skip
          have hz := Option.some.inj h
          subst hz
          exact ⟨[.dat (lstD p0), .dat (D.int ((List.length p0 : Nat) : Int)), .dat (D.int v3), .dat (D.int s5), .dat (D.int x6), .dat (D.int v9)], [.dat (lstD p0), .dat (D.int ((List.length p0 : Nat) : Int)), .dat (D.int v3), .dat (D.int s5), .dat (D.int x6), .dat (D.int v9)], rfl, Y.c_oneF (Y.t_b (X.e_o2 (o := .lt) (l1 := [.dat (lstD p0), .dat (D.int ((List.length p0 : Nat) : Int)), .dat (D.int v3), .dat (D.int s5), .dat (D.int x6), .dat (D.int v9)]) (l2 := [.dat (lstD p0), .dat (D.int ((List.length p0 : Nat) : Int)), .dat (D.int v3), .dat (D.int s5), .dat (D.int x6), .dat (D.int v9)]) (r1 := (R.val (D.int v10))) (r2 := (R.val (D.int v11))) (d := (D.int v10)) (d' := (D.int v11)) (r := (R.val (D.bl (ltI v10 v11)))) (Y.e_call (rs := [(R.val (lstD p0)), (R.val (D.int v9))]) (l1 := [.dat (lstD p0), .dat (D.int ((List.length p0 : Nat) : Int)), .dat (D.int v3), .dat (D.int s5), .dat (D.int x6), .dat (D.int v9)]) (r := (R.val (D.int v10))) (X.es_cons (r := (R.val (lstD p0))) (l1 := [.dat (lstD p0), .dat (D.int ((List.length p0 : Nat) : Int)), .dat (D.int v3), .dat (D.int s5), .dat (D.int x6), .dat (D.int v9)]) (X.e_r0 rfl) (X.es_cons (r := (R.val (D.int v9))) (l1 := [.dat (lstD p0), .dat (D.int ((List.length p0 : Nat) : Int)), .dat (D.int v3), .dat (D.int s5), .dat (D.int x6), .dat (D.int v9)]) (X.e_r0 rfl) X.es_nil)) (Y.do_val (ds := [(lstD p0), (D.int v9)]) (a3 (m := m + 0) h7))) (Y.e_call (rs := [(R.val (lstD p0)), (R.val (D.int x6))]) (l1 := [.dat (lstD p0), .dat (D.int ((List.length p0 : Nat) : Int)), .dat (D.int v3), .dat (D.int s5), .dat (D.int x6), .dat (D.int v9)]) (r := (R.val (D.int v11))) (X.es_cons (r := (R.val (lstD p0))) (l1 := [.dat (lstD p0), .dat (D.int ((List.length p0 : Nat) : Int)), .dat (D.int v3), .dat (D.int s5), .dat (D.int x6), .dat (D.int v9)]) (X.e_r0 rfl) (X.es_cons (r := (R.val (D.int x6))) (l1 := [.dat (lstD p0), .dat (D.int ((List.length p0 : Nat) : Int)), .dat (D.int v3), .dat (D.int s5), .dat (D.int x6), .dat (D.int v9)]) (X.e_r0 rfl) X.es_nil)) (Y.do_val (ds := [(lstD p0), (D.int x6)]) (a3 (m := m + 0) h8))) rfl rfl (p_lt v10 v11))) hc, rfl⟩) rfl
    refine Y.k_nx (l1 := [.dat (lstD p0), .dat (D.int ((List.length p0 : Nat) : Int)), .dat (D.int v3), .dat (D.int (s5 - ((List.length v12 : Nat) : Int))), .dat (D.int x6), .none]) (Y.s_set (r := (R.val (D.int (s5 - ((List.length v12 : Nat) : Int))))) (l1 := [.dat (lstD p0), .dat (D.int ((List.length p0 : Nat) : Int)), .dat (D.int v3), .dat (D.int s5), .dat (D.int x6), .none]) (d := (D.int (s5 - ((List.length v12 : Nat) : Int)))) (X.e_o2 (o := .sub) (l1 := [.dat (lstD p0), .dat (D.int ((List.length p0 : Nat) : Int)), .dat (D.int v3), .dat (D.int s5), .dat (D.int x6), .none]) (l2 := [.dat (lstD p0), .dat (D.int ((List.length p0 : Nat) : Int)), .dat (D.int v3), .dat (D.int s5), .dat (D.int x6), .none]) (r1 := (R.val (D.int s5))) (r2 := (R.val (D.int ((List.length v12 : Nat) : Int)))) (d := (D.int s5)) (d' := (D.int ((List.length v12 : Nat) : Int))) (r := (R.val (D.int (s5 - ((List.length v12 : Nat) : Int))))) (X.e_r0 rfl) (X.e_o1 (o := .len) (l1 := [.dat (lstD p0), .dat (D.int ((List.length p0 : Nat) : Int)), .dat (D.int v3), .dat (D.int s5), .dat (D.int x6), .none]) (r := (R.new (List.map D.int v12))) (d := (D.lst (List.map D.int v12))) (r' := (R.val (D.int ((List.length v12 : Nat) : Int)))) q9 rfl (p_len D.int v12)) rfl rfl rfl) rfl rfl) ?_
    refine Y.k_nx (l1 := [.dat (lstD p0), .dat (D.int ((List.length p0 : Nat) : Int)), .dat (D.int v3), .dat (D.int (s5 - ((List.length v12 : Nat) : Int))), .none, .none]) (Y.s_forget rfl rfl) ?_
    refine Y.k_nil ?_
    refine Y.k_end ?_
    have hz := Option.some.inj h
    subst hz
    exact .inl rfl
  · intro v13 h
    try dsimp only at h
    have hz := Option.some.inj h
    subst hz
    exact Y.k_rt (Y.s_retV (X.e_r0 rfl)) (Y.ends_rt rfl)
/-! Turning.ends -/
def m5 (p0 : (List Int)) : Option (List Int) := some p0
theorem a5 {m : Nat} {p0 : (List Int)} {r : (List Int)} (h : m5 p0 = some r) : callN Gd tb 40 (m + 1) 5 [.dat (D.ins 0 [(tupD p0)])] = some ((R.new (List.map D.int r)), [.dat (D.ins 0 [(tupD p0)])]) := by
  unfold m5 at h
  refine Y.call_of (d := f5) (l0 := [.dat (D.ins 0 [(tupD p0)])]) rfl rfl rfl rfl ?_
  have hz := Option.some.inj h
  subst hz
  exact Y.k_rt (Y.s_retL (X.e_o1 (o := .list) (l1 := [.dat (D.ins 0 [(tupD p0)])]) (r := (R.val (tupD p0))) (d := (tupD p0)) (r' := (R.new (List.map D.int p0))) (Y.e_fld (k := 0) (n := 0) (fs := [(tupD p0)]) (d := (tupD p0)) (X.e_r0 rfl) rfl rfl) rfl rfl)) (Y.ends_rt rfl)
/-! _law_sum -/
def m6 (p0 : (List (List Int))) : Option Int := bnd (lcG (fun v1 : (List Int) => bnd (m5 (v1)) fun v2 => bnd (m4 (v2)) fun v3 => bnd (modT v3 2) fun v4 => bnd (mulT 2 v4) fun v5 => some (some (1 - v5))) p0) fun v6 => some (sumI v6)
theorem a6 {m : Nat} {p0 : (List (List Int))} {r : Int} (h : m6 p0 = some r) : callN Gd tb 40 (m + 3) 6 [.dat (D.lst (List.map (fun x : (List Int) => (D.ins 0 [(tupD x)])) p0))] = some ((R.val (D.int r)), [.dat (D.lst (List.map (fun x : (List Int) => (D.ins 0 [(tupD x)])) p0))]) := by
  unfold m6 at h
  refine Y.call_of (d := f6) (l0 := [.dat (D.lst (List.map (fun x : (List Int) => (D.ins 0 [(tupD x)])) p0)), .none]) rfl rfl rfl rfl ?_
  obtain ⟨v6, h5, h⟩ := bnd_some h
  have q5 : ev Gd (callN Gd tb 40 (m + 2)) (.lc [1] (.v 1) (.seq (.r 0)) [] (.o2 .sub (.c (.int 1)) (.o2 .mul (.c (.int 2)) (.o2 .mod (.call 4 [.meth [(0, 5)] (.r 1) []]) (.c (.int 2)))))) [.dat (D.lst (List.map (fun x : (List Int) => (D.ins 0 [(tupD x)])) p0)), .none] = some ((R.new (List.map D.int v6)), [.dat (D.lst (List.map (fun x : (List Int) => (D.ins 0 [(tupD x)])) p0)), .none]) := Y.e_lc (w := [.dat (D.lst (List.map (fun x : (List Int) => (D.ins 0 [(tupD x)])) p0)), .none]) (ga := (fun x : (List Int) => (D.ins 0 [(tupD x)]))) (gb := D.int) (X.i_seq (r := (R.val (D.lst (List.map (fun x : (List Int) => (D.ins 0 [(tupD x)])) p0)))) (X.e_r0 rfl) rfl) rfl rfl h5 (by
      intro v1 o h
      try dsimp only at h
      obtain ⟨v2, h1, h⟩ := bnd_some h
      obtain ⟨v3, h2, h⟩ := bnd_some h
      obtain ⟨v4, h3, h⟩ := bnd_some h
      obtain ⟨v5, h4, h⟩ := bnd_some h
      have hz := Option.some.inj h
      subst hz
      exact ⟨[.dat (D.lst (List.map (fun x : (List Int) => (D.ins 0 [(tupD x)])) p0)), .dat (D.ins 0 [(tupD v1)])], [.dat (D.lst (List.map (fun x : (List Int) => (D.ins 0 [(tupD x)])) p0)), .dat (D.ins 0 [(tupD v1)])], rfl, Y.c_nil, (R.val (D.int (1 - v5))), [.dat (D.lst (List.map (fun x : (List Int) => (D.ins 0 [(tupD x)])) p0)), .dat (D.ins 0 [(tupD v1)])], (X.e_o2 (o := .sub) (l1 := [.dat (D.lst (List.map (fun x : (List Int) => (D.ins 0 [(tupD x)])) p0)), .dat (D.ins 0 [(tupD v1)])]) (l2 := [.dat (D.lst (List.map (fun x : (List Int) => (D.ins 0 [(tupD x)])) p0)), .dat (D.ins 0 [(tupD v1)])]) (r1 := (R.val (D.int 1))) (r2 := (R.val (D.int v5))) (d := (D.int 1)) (d' := (D.int v5)) (r := (R.val (D.int (1 - v5)))) X.e_k (X.e_o2 (o := .mul) (l1 := [.dat (D.lst (List.map (fun x : (List Int) => (D.ins 0 [(tupD x)])) p0)), .dat (D.ins 0 [(tupD v1)])]) (l2 := [.dat (D.lst (List.map (fun x : (List Int) => (D.ins 0 [(tupD x)])) p0)), .dat (D.ins 0 [(tupD v1)])]) (r1 := (R.val (D.int 2))) (r2 := (R.val (D.int v4))) (d := (D.int 2)) (d' := (D.int v4)) (r := (R.val (D.int v5))) X.e_k (X.e_o2 (o := .mod) (l1 := [.dat (D.lst (List.map (fun x : (List Int) => (D.ins 0 [(tupD x)])) p0)), .dat (D.ins 0 [(tupD v1)])]) (l2 := [.dat (D.lst (List.map (fun x : (List Int) => (D.ins 0 [(tupD x)])) p0)), .dat (D.ins 0 [(tupD v1)])]) (r1 := (R.val (D.int v3))) (r2 := (R.val (D.int 2))) (d := (D.int v3)) (d' := (D.int 2)) (r := (R.val (D.int v4))) (Y.e_call (rs := [(R.val (D.lst (List.map D.int v2)))]) (l1 := [.dat (D.lst (List.map (fun x : (List Int) => (D.ins 0 [(tupD x)])) p0)), .dat (D.ins 0 [(tupD v1)])]) (r := (R.val (D.int v3))) (X.es_cons (r := (R.new (List.map D.int v2))) (l1 := [.dat (D.lst (List.map (fun x : (List Int) => (D.ins 0 [(tupD x)])) p0)), .dat (D.ins 0 [(tupD v1)])]) (Y.e_meth (k := 0) (fn := 5) (fs := [(tupD v1)]) (rs := []) (l1 := [.dat (D.lst (List.map (fun x : (List Int) => (D.ins 0 [(tupD x)])) p0)), .dat (D.ins 0 [(tupD v1)])]) (l2 := [.dat (D.lst (List.map (fun x : (List Int) => (D.ins 0 [(tupD x)])) p0)), .dat (D.ins 0 [(tupD v1)])]) (r := (R.new (List.map D.int v2))) (X.e_r0 rfl) rfl X.es_nil (Y.do_val (ds := [(D.ins 0 [(tupD v1)])]) (a5 (m := m + 1) h1))) X.es_nil) (Y.do_val (ds := [(D.lst (List.map D.int v2))]) (a4 (m := m + 0) h2))) X.e_k rfl rfl (p_mod h3)) rfl rfl (p_mul h4)) rfl rfl rfl), rfl, rfl⟩) rfl
  have hz := Option.some.inj h
  subst hz
  exact Y.k_rt (Y.s_retV (X.e_o1 (o := .sum) (l1 := [.dat (D.lst (List.map (fun x : (List Int) => (D.ins 0 [(tupD x)])) p0)), .none]) (r := (R.new (List.map D.int v6))) (d := (D.lst (List.map D.int v6))) (r' := (R.val (D.int (sumI v6)))) q5 rfl (p_sumL v6))) (Y.ends_rt rfl)
/-! is_count -/
def m7 (p0 : Int) (p1 : Int) (p2 : Int) : Option Bool := some (true && ((!false) && ((leI p1 p0) && (leI p0 p2))))
theorem a7 {m : Nat} {p0 : Int} {p1 : Int} {p2 : Int} {r : Bool} (h : m7 p0 p1 p2 = some r) : callN Gd tb 40 (m + 1) 7 [.dat (D.int p0), .dat (D.int p1), .dat (D.int p2)] = some ((R.val (D.bl r)), [.dat (D.int p0), .dat (D.int p1), .dat (D.int p2)]) := by
  unfold m7 at h
  refine Y.call_of (d := f7) (l0 := [.dat (D.int p0), .dat (D.int p1), .dat (D.int p2)]) rfl rfl rfl rfl ?_
  have hz := Option.some.inj h
  subst hz
  exact Y.k_rt (Y.s_retV (Y.e_and (x := true) (y := ((!false) && ((leI p1 p0) && (leI p0 p2)))) (X.e_o1 (o := (.isi .int)) (l1 := [.dat (D.int p0), .dat (D.int p1), .dat (D.int p2)]) (r := (R.val (D.int p0))) (d := (D.int p0)) (r' := (R.val (D.bl true))) (X.e_r0 rfl) rfl rfl) (Y.e_and (x := (!false)) (y := ((leI p1 p0) && (leI p0 p2))) (Y.e_not (Y.t_b (X.e_o1 (o := (.isi .bool)) (l1 := [.dat (D.int p0), .dat (D.int p1), .dat (D.int p2)]) (r := (R.val (D.int p0))) (d := (D.int p0)) (r' := (R.val (D.bl false))) (X.e_r0 rfl) rfl rfl))) (Y.e_ch (o := .le) (o' := .le) (l1 := [.dat (D.int p0), .dat (D.int p1), .dat (D.int p2)]) (l2 := [.dat (D.int p0), .dat (D.int p1), .dat (D.int p2)]) (ra := (R.val (D.int p1))) (rb := (R.val (D.int p0))) (d := (D.int p1)) (d' := (D.int p0)) (x := (leI p1 p0)) (rc := (R.val (D.int p2))) (f := (D.int p2)) (y := (leI p0 p2)) (X.e_r0 rfl) (X.e_r0 rfl) rfl rfl (p_le p1 p0) (X.e_r0 rfl) rfl rfl (p_le p0 p2))))) (Y.ends_rt rfl)
/-! check_ends -/
def m8 (p0 : (List Int)) : Option Unit := cond ((!true) || (!((leI 1 ((List.length p0 : Nat) : Int)) && (leI ((List.length p0 : Nat) : Int) 6)))) (none) (bnd (Y.foldT (fun (s0 : Unit) (x1 : (Int × Int)) => bnd (m7 (x1.2) ((x1.1 + 1)) (((x1.1 + 1) + ((List.length p0 : Nat) : Int)))) fun v3 => cond (!v3) (none) (some ())) () (enumI 0 p0)) fun v4 => bnd (Y.foldT (fun (s4 : Unit) (x5 : (Int × Int)) => bnd (modT x5.2 ((List.length p0 : Nat) : Int)) fun v7 => bnd (lcG (fun v8 : Int => bnd (modT v8 ((List.length p0 : Nat) : Int)) fun v9 => some (some v9)) (cutT p0 none (some x5.1))) fun v10 => cond (List.any v10 (fun y => eqI y v7)) (none) (some ())) () (enumI 0 p0)) fun v11 => some ())
theorem a8 {m : Nat} {p0 : (List Int)} {r : Unit} (h : m8 p0 = some r) : callN Gd tb 40 (m + 2) 8 [.dat (lstD p0)] = some ((R.val D.non), [.dat (lstD p0)]) := by
  unfold m8 at h
  refine Y.call_of (d := f8) (l0 := [.dat (lstD p0), .none, .none, .none, .none]) rfl rfl rfl rfl ?_
  rcases cond_some h with ⟨hc, h⟩ | ⟨hc, h⟩
  · refine Y.k_T (Y.t_or (Y.t_not (Y.t_b (X.e_o1 (o := (.isi .list)) (l1 := [.dat (lstD p0), .none, .none, .none, .none]) (r := (R.val (lstD p0))) (d := (lstD p0)) (r' := (R.val (D.bl true))) (X.e_r0 rfl) rfl rfl))) (Y.t_not (Y.t_b (Y.e_ch (o := .le) (o' := .le) (l1 := [.dat (lstD p0), .none, .none, .none, .none]) (l2 := [.dat (lstD p0), .none, .none, .none, .none]) (ra := (R.val (D.int 1))) (rb := (R.val (D.int ((List.length p0 : Nat) : Int)))) (d := (D.int 1)) (d' := (D.int ((List.length p0 : Nat) : Int))) (x := (leI 1 ((List.length p0 : Nat) : Int))) (rc := (R.val (D.int 6))) (f := (D.int 6)) (y := (leI ((List.length p0 : Nat) : Int) 6)) X.e_k (X.e_o1 (o := .len) (l1 := [.dat (lstD p0), .none, .none, .none, .none]) (r := (R.val (lstD p0))) (d := (lstD p0)) (r' := (R.val (D.int ((List.length p0 : Nat) : Int)))) (X.e_r0 rfl) rfl (p_len D.int p0)) rfl rfl (p_le 1 ((List.length p0 : Nat) : Int)) (Y.e_g rfl) rfl rfl (p_le ((List.length p0 : Nat) : Int) 6))))) hc ?_
    cases h
  · refine Y.k_F (Y.t_or (Y.t_not (Y.t_b (X.e_o1 (o := (.isi .list)) (l1 := [.dat (lstD p0), .none, .none, .none, .none]) (r := (R.val (lstD p0))) (d := (lstD p0)) (r' := (R.val (D.bl true))) (X.e_r0 rfl) rfl rfl))) (Y.t_not (Y.t_b (Y.e_ch (o := .le) (o' := .le) (l1 := [.dat (lstD p0), .none, .none, .none, .none]) (l2 := [.dat (lstD p0), .none, .none, .none, .none]) (ra := (R.val (D.int 1))) (rb := (R.val (D.int ((List.length p0 : Nat) : Int)))) (d := (D.int 1)) (d' := (D.int ((List.length p0 : Nat) : Int))) (x := (leI 1 ((List.length p0 : Nat) : Int))) (rc := (R.val (D.int 6))) (f := (D.int 6)) (y := (leI ((List.length p0 : Nat) : Int) 6)) X.e_k (X.e_o1 (o := .len) (l1 := [.dat (lstD p0), .none, .none, .none, .none]) (r := (R.val (lstD p0))) (d := (lstD p0)) (r' := (R.val (D.int ((List.length p0 : Nat) : Int)))) (X.e_r0 rfl) rfl (p_len D.int p0)) rfl rfl (p_le 1 ((List.length p0 : Nat) : Int)) (Y.e_g rfl) rfl rfl (p_le ((List.length p0 : Nat) : Int) 6))))) hc ?_
    refine Y.k_nil ?_
    refine Y.k_nx (l1 := [.dat (lstD p0), .dat (D.int ((List.length p0 : Nat) : Int)), .none, .none, .none]) (Y.s_set (r := (R.val (D.int ((List.length p0 : Nat) : Int)))) (l1 := [.dat (lstD p0), .none, .none, .none, .none]) (d := (D.int ((List.length p0 : Nat) : Int))) (X.e_o1 (o := .len) (l1 := [.dat (lstD p0), .none, .none, .none, .none]) (r := (R.val (lstD p0))) (d := (lstD p0)) (r' := (R.val (D.int ((List.length p0 : Nat) : Int)))) (X.e_r0 rfl) rfl (p_len D.int p0)) rfl rfl) ?_
    refine Y.k_fold (L := (fun s0 : Unit => [.dat (lstD p0), .dat (D.int ((List.length p0 : Nat) : Int)), .none, .none, .none])) (g := (fun x : (Int × Int) => (D.tup [(D.int x.1), (D.int x.2)]))) (s0 := ()) (xs := (enumI 0 p0)) (Y.i_enum (f := D.int) (xs := p0) (r := (R.val (lstD p0))) (X.e_r0 rfl) rfl) rfl h ?_ ?_
    · intro s0 x1 o h
      try dsimp only at h
      refine ⟨[.dat (lstD p0), .dat (D.int ((List.length p0 : Nat) : Int)), .dat (D.int x1.1), .dat (D.int x1.2), .none], rfl, ?_⟩
      obtain ⟨v3, h1, h⟩ := bnd_some h
      rcases cond_some h with ⟨hc, h⟩ | ⟨hc, h⟩
      · refine Y.k_T (Y.t_not (Y.t_b (X.e_callK (rs := [(R.val (D.int x1.2))]) (zs := [(R.val (D.int (x1.1 + 1))), (R.val (D.int ((x1.1 + 1) + ((List.length p0 : Nat) : Int))))]) (ts := [(R.val (D.int x1.2)), (R.val (D.int (x1.1 + 1))), (R.val (D.int ((x1.1 + 1) + ((List.length p0 : Nat) : Int))))]) (l1 := [.dat (lstD p0), .dat (D.int ((List.length p0 : Nat) : Int)), .dat (D.int x1.1), .dat (D.int x1.2), .none]) (l2 := [.dat (lstD p0), .dat (D.int ((List.length p0 : Nat) : Int)), .dat (D.int x1.1), .dat (D.int x1.2), .none]) (r := (R.val (D.bl v3))) (X.es_cons (r := (R.val (D.int x1.2))) (l1 := [.dat (lstD p0), .dat (D.int ((List.length p0 : Nat) : Int)), .dat (D.int x1.1), .dat (D.int x1.2), .none]) (X.e_r0 rfl) X.es_nil) (X.es_cons (r := (R.val (D.int (x1.1 + 1)))) (l1 := [.dat (lstD p0), .dat (D.int ((List.length p0 : Nat) : Int)), .dat (D.int x1.1), .dat (D.int x1.2), .none]) (X.e_o2 (o := .add) (l1 := [.dat (lstD p0), .dat (D.int ((List.length p0 : Nat) : Int)), .dat (D.int x1.1), .dat (D.int x1.2), .none]) (l2 := [.dat (lstD p0), .dat (D.int ((List.length p0 : Nat) : Int)), .dat (D.int x1.1), .dat (D.int x1.2), .none]) (r1 := (R.val (D.int x1.1))) (r2 := (R.val (D.int 1))) (d := (D.int x1.1)) (d' := (D.int 1)) (r := (R.val (D.int (x1.1 + 1)))) (X.e_r0 rfl) X.e_k rfl rfl rfl) (X.es_cons (r := (R.val (D.int ((x1.1 + 1) + ((List.length p0 : Nat) : Int))))) (l1 := [.dat (lstD p0), .dat (D.int ((List.length p0 : Nat) : Int)), .dat (D.int x1.1), .dat (D.int x1.2), .none]) (X.e_o2 (o := .add) (l1 := [.dat (lstD p0), .dat (D.int ((List.length p0 : Nat) : Int)), .dat (D.int x1.1), .dat (D.int x1.2), .none]) (l2 := [.dat (lstD p0), .dat (D.int ((List.length p0 : Nat) : Int)), .dat (D.int x1.1), .dat (D.int x1.2), .none]) (r1 := (R.val (D.int (x1.1 + 1)))) (r2 := (R.val (D.int ((List.length p0 : Nat) : Int)))) (d := (D.int (x1.1 + 1))) (d' := (D.int ((List.length p0 : Nat) : Int))) (r := (R.val (D.int ((x1.1 + 1) + ((List.length p0 : Nat) : Int))))) (X.e_o2 (o := .add) (l1 := [.dat (lstD p0), .dat (D.int ((List.length p0 : Nat) : Int)), .dat (D.int x1.1), .dat (D.int x1.2), .none]) (l2 := [.dat (lstD p0), .dat (D.int ((List.length p0 : Nat) : Int)), .dat (D.int x1.1), .dat (D.int x1.2), .none]) (r1 := (R.val (D.int x1.1))) (r2 := (R.val (D.int 1))) (d := (D.int x1.1)) (d' := (D.int 1)) (r := (R.val (D.int (x1.1 + 1)))) (X.e_r0 rfl) X.e_k rfl rfl rfl) (X.e_r0 rfl) rfl rfl rfl) X.es_nil)) rfl (Y.do_val (ds := [(D.int x1.2), (D.int (x1.1 + 1)), (D.int ((x1.1 + 1) + ((List.length p0 : Nat) : Int)))]) (a7 (m := m + 0) h1))))) hc ?_
        cases h
      · refine Y.k_F (Y.t_not (Y.t_b (X.e_callK (rs := [(R.val (D.int x1.2))]) (zs := [(R.val (D.int (x1.1 + 1))), (R.val (D.int ((x1.1 + 1) + ((List.length p0 : Nat) : Int))))]) (ts := [(R.val (D.int x1.2)), (R.val (D.int (x1.1 + 1))), (R.val (D.int ((x1.1 + 1) + ((List.length p0 : Nat) : Int))))]) (l1 := [.dat (lstD p0), .dat (D.int ((List.length p0 : Nat) : Int)), .dat (D.int x1.1), .dat (D.int x1.2), .none]) (l2 := [.dat (lstD p0), .dat (D.int ((List.length p0 : Nat) : Int)), .dat (D.int x1.1), .dat (D.int x1.2), .none]) (r := (R.val (D.bl v3))) (X.es_cons (r := (R.val (D.int x1.2))) (l1 := [.dat (lstD p0), .dat (D.int ((List.length p0 : Nat) : Int)), .dat (D.int x1.1), .dat (D.int x1.2), .none]) (X.e_r0 rfl) X.es_nil) (X.es_cons (r := (R.val (D.int (x1.1 + 1)))) (l1 := [.dat (lstD p0), .dat (D.int ((List.length p0 : Nat) : Int)), .dat (D.int x1.1), .dat (D.int x1.2), .none]) (X.e_o2 (o := .add) (l1 := [.dat (lstD p0), .dat (D.int ((List.length p0 : Nat) : Int)), .dat (D.int x1.1), .dat (D.int x1.2), .none]) (l2 := [.dat (lstD p0), .dat (D.int ((List.length p0 : Nat) : Int)), .dat (D.int x1.1), .dat (D.int x1.2), .none]) (r1 := (R.val (D.int x1.1))) (r2 := (R.val (D.int 1))) (d := (D.int x1.1)) (d' := (D.int 1)) (r := (R.val (D.int (x1.1 + 1)))) (X.e_r0 rfl) X.e_k rfl rfl rfl) (X.es_cons (r := (R.val (D.int ((x1.1 + 1) + ((List.length p0 : Nat) : Int))))) (l1 := [.dat (lstD p0), .dat (D.int ((List.length p0 : Nat) : Int)), .dat (D.int x1.1), .dat (D.int x1.2), .none]) (X.e_o2 (o := .add) (l1 := [.dat (lstD p0), .dat (D.int ((List.length p0 : Nat) : Int)), .dat (D.int x1.1), .dat (D.int x1.2), .none]) (l2 := [.dat (lstD p0), .dat (D.int ((List.length p0 : Nat) : Int)), .dat (D.int x1.1), .dat (D.int x1.2), .none]) (r1 := (R.val (D.int (x1.1 + 1)))) (r2 := (R.val (D.int ((List.length p0 : Nat) : Int)))) (d := (D.int (x1.1 + 1))) (d' := (D.int ((List.length p0 : Nat) : Int))) (r := (R.val (D.int ((x1.1 + 1) + ((List.length p0 : Nat) : Int))))) (X.e_o2 (o := .add) (l1 := [.dat (lstD p0), .dat (D.int ((List.length p0 : Nat) : Int)), .dat (D.int x1.1), .dat (D.int x1.2), .none]) (l2 := [.dat (lstD p0), .dat (D.int ((List.length p0 : Nat) : Int)), .dat (D.int x1.1), .dat (D.int x1.2), .none]) (r1 := (R.val (D.int x1.1))) (r2 := (R.val (D.int 1))) (d := (D.int x1.1)) (d' := (D.int 1)) (r := (R.val (D.int (x1.1 + 1)))) (X.e_r0 rfl) X.e_k rfl rfl rfl) (X.e_r0 rfl) rfl rfl rfl) X.es_nil)) rfl (Y.do_val (ds := [(D.int x1.2), (D.int (x1.1 + 1)), (D.int ((x1.1 + 1) + ((List.length p0 : Nat) : Int)))]) (a7 (m := m + 0) h1))))) hc ?_
        refine Y.k_nil ?_
        refine Y.k_nx (l1 := [.dat (lstD p0), .dat (D.int ((List.length p0 : Nat) : Int)), .none, .none, .none]) (Y.s_forget rfl rfl) ?_
        refine Y.k_nil ?_
        refine Y.k_end ?_
        have hz := Option.some.inj h
        subst hz
        exact .inl rfl
    · intro v4 h
      try dsimp only at h
      refine Y.k_fold (L := (fun s4 : Unit => [.dat (lstD p0), .dat (D.int ((List.length p0 : Nat) : Int)), .none, .none, .none])) (g := (fun x : (Int × Int) => (D.tup [(D.int x.1), (D.int x.2)]))) (s0 := ()) (xs := (enumI 0 p0)) (Y.i_enum (f := D.int) (xs := p0) (r := (R.val (lstD p0))) (X.e_r0 rfl) rfl) rfl h ?_ ?_
      · intro s4 x5 o h
        try dsimp only at h
        refine ⟨[.dat (lstD p0), .dat (D.int ((List.length p0 : Nat) : Int)), .dat (D.int x5.1), .dat (D.int x5.2), .none], rfl, ?_⟩
        obtain ⟨v7, h2, h⟩ := bnd_some h
        obtain ⟨v10, h4, h⟩ := bnd_some h
        have q4 : ev Gd (callN Gd tb 40 (m + 1)) (.lc [4] (.v 4) (.seq (.sl (.r 0) .none (.some (.r 2)))) [] (.o2 .mod (.r 4) (.r 1))) [.dat (lstD p0), .dat (D.int ((List.length p0 : Nat) : Int)), .dat (D.int x5.1), .dat (D.int x5.2), .none] = some ((R.new (List.map D.int v10)), [.dat (lstD p0), .dat (D.int ((List.length p0 : Nat) : Int)), .dat (D.int x5.1), .dat (D.int x5.2), .none]) := Y.e_lc (w := [.dat (lstD p0), .dat (D.int ((List.length p0 : Nat) : Int)), .dat (D.int x5.1), .dat (D.int x5.2), .none]) (ga := D.int) (gb := D.int) (X.i_seq (r := (R.new (List.map D.int (cutT p0 none (some x5.1))))) (Y.e_slL (f := D.int) (xs := p0) (u := none) (v := (some x5.1)) (l1 := [.dat (lstD p0), .dat (D.int ((List.length p0 : Nat) : Int)), .dat (D.int x5.1), .dat (D.int x5.2), .none]) (l2 := [.dat (lstD p0), .dat (D.int ((List.length p0 : Nat) : Int)), .dat (D.int x5.1), .dat (D.int x5.2), .none]) (l3 := [.dat (lstD p0), .dat (D.int ((List.length p0 : Nat) : Int)), .dat (D.int x5.1), .dat (D.int x5.2), .none]) (r := (R.val (lstD p0))) (X.e_r0 rfl) Y.o_n (Y.o_s (X.e_r0 rfl)) rfl) rfl) rfl rfl h4 (by
            intro v8 o h
            try dsimp only at h
            obtain ⟨v9, h3, h⟩ := bnd_some h
            have hz := Option.some.inj h
            subst hz
            exact ⟨[.dat (lstD p0), .dat (D.int ((List.length p0 : Nat) : Int)), .dat (D.int x5.1), .dat (D.int x5.2), .dat (D.int v8)], [.dat (lstD p0), .dat (D.int ((List.length p0 : Nat) : Int)), .dat (D.int x5.1), .dat (D.int x5.2), .dat (D.int v8)], rfl, Y.c_nil, (R.val (D.int v9)), [.dat (lstD p0), .dat (D.int ((List.length p0 : Nat) : Int)), .dat (D.int x5.1), .dat (D.int x5.2), .dat (D.int v8)], (X.e_o2 (o := .mod) (l1 := [.dat (lstD p0), .dat (D.int ((List.length p0 : Nat) : Int)), .dat (D.int x5.1), .dat (D.int x5.2), .dat (D.int v8)]) (l2 := [.dat (lstD p0), .dat (D.int ((List.length p0 : Nat) : Int)), .dat (D.int x5.1), .dat (D.int x5.2), .dat (D.int v8)]) (r1 := (R.val (D.int v8))) (r2 := (R.val (D.int ((List.length p0 : Nat) : Int)))) (d := (D.int v8)) (d' := (D.int ((List.length p0 : Nat) : Int))) (r := (R.val (D.int v9))) (X.e_r0 rfl) (X.e_r0 rfl) rfl rfl (p_mod h3)), rfl, rfl⟩) rfl
        rcases cond_some h with ⟨hc, h⟩ | ⟨hc, h⟩
        · refine Y.k_T (Y.t_b (X.e_o2 (o := .isin) (l1 := [.dat (lstD p0), .dat (D.int ((List.length p0 : Nat) : Int)), .dat (D.int x5.1), .dat (D.int x5.2), .none]) (l2 := [.dat (lstD p0), .dat (D.int ((List.length p0 : Nat) : Int)), .dat (D.int x5.1), .dat (D.int x5.2), .none]) (r1 := (R.val (D.int v7))) (r2 := (R.new (List.map D.int v10))) (d := (D.int v7)) (d' := (D.lst (List.map D.int v10))) (r := (R.val (D.bl (List.any v10 (fun y => eqI y v7))))) (X.e_o2 (o := .mod) (l1 := [.dat (lstD p0), .dat (D.int ((List.length p0 : Nat) : Int)), .dat (D.int x5.1), .dat (D.int x5.2), .none]) (l2 := [.dat (lstD p0), .dat (D.int ((List.length p0 : Nat) : Int)), .dat (D.int x5.1), .dat (D.int x5.2), .none]) (r1 := (R.val (D.int x5.2))) (r2 := (R.val (D.int ((List.length p0 : Nat) : Int)))) (d := (D.int x5.2)) (d' := (D.int ((List.length p0 : Nat) : Int))) (r := (R.val (D.int v7))) (X.e_r0 rfl) (X.e_r0 rfl) rfl rfl (p_mod h2)) q4 rfl rfl (p_inL (F := D.int) eqe_int v7 v10))) hc ?_
          cases h
        · refine Y.k_F (Y.t_b (X.e_o2 (o := .isin) (l1 := [.dat (lstD p0), .dat (D.int ((List.length p0 : Nat) : Int)), .dat (D.int x5.1), .dat (D.int x5.2), .none]) (l2 := [.dat (lstD p0), .dat (D.int ((List.length p0 : Nat) : Int)), .dat (D.int x5.1), .dat (D.int x5.2), .none]) (r1 := (R.val (D.int v7))) (r2 := (R.new (List.map D.int v10))) (d := (D.int v7)) (d' := (D.lst (List.map D.int v10))) (r := (R.val (D.bl (List.any v10 (fun y => eqI y v7))))) (X.e_o2 (o := .mod) (l1 := [.dat (lstD p0), .dat (D.int ((List.length p0 : Nat) : Int)), .dat (D.int x5.1), .dat (D.int x5.2), .none]) (l2 := [.dat (lstD p0), .dat (D.int ((List.length p0 : Nat) : Int)), .dat (D.int x5.1), .dat (D.int x5.2), .none]) (r1 := (R.val (D.int x5.2))) (r2 := (R.val (D.int ((List.length p0 : Nat) : Int)))) (d := (D.int x5.2)) (d' := (D.int ((List.length p0 : Nat) : Int))) (r := (R.val (D.int v7))) (X.e_r0 rfl) (X.e_r0 rfl) rfl rfl (p_mod h2)) q4 rfl rfl (p_inL (F := D.int) eqe_int v7 v10))) hc ?_
          refine Y.k_nil ?_
          refine Y.k_nx (l1 := [.dat (lstD p0), .dat (D.int ((List.length p0 : Nat) : Int)), .none, .none, .none]) (Y.s_forget rfl rfl) ?_
          refine Y.k_nil ?_
          refine Y.k_end ?_
          have hz := Option.some.inj h
          subst hz
          exact .inl rfl
      · intro v11 h
        try dsimp only at h
        refine Y.k_nil ?_
        refine Y.k_end ?_
        have hz := Option.some.inj h
        subst hz
        exact Y.ends_nx rfl
/-! Turning.__init__ -/
def m9 (p1 : (List Int)) : Option (List Int) := bnd (m8 (p1)) fun v1 => some p1
theorem a9 {m : Nat} {p1 : (List Int)} {r : (List Int)} (h : m9 p1 = some r) : callN Gd tb 40 (m + 4) 9 (List.map Slot.dat [(lstD p1)]) = some (R.val (D.ins 0 [(tupD r)]), List.map Slot.dat [(lstD p1)]) := by
  unfold m9 at h
  obtain ⟨v1, h1, h⟩ := bnd_some h
  have hz := Option.some.inj h
  subst hz
  refine Y.make_of (d := f9) (l0 := [.hid, .dat (lstD p1)]) (l1 := [.hid, .dat (lstD p1)]) (ds := [(lstD p1)]) rfl rfl rfl rfl ?_ (Y.Flds.cons (r := (R.val (tupD p1))) (d := (tupD p1)) (l1 := [.hid, .dat (lstD p1)]) (X.e_o1 (o := .tuple) (l1 := [.hid, .dat (lstD p1)]) (r := (R.val (lstD p1))) (d := (lstD p1)) (r' := (R.val (tupD p1))) (X.e_r0 rfl) rfl rfl) rfl Y.Flds.nil)
  refine Y.k_nx (l1 := [.hid, .dat (lstD p1)]) (Y.s_ex (r := (R.val D.non)) (Y.e_call (rs := [(R.val (lstD p1))]) (l1 := [.hid, .dat (lstD p1)]) (r := (R.val D.non)) (X.es_cons (r := (R.val (lstD p1))) (l1 := [.hid, .dat (lstD p1)]) (X.e_r0 rfl) X.es_nil) (Y.do_val (ds := [(lstD p1)]) (a8 (m := m + 0) h1)))) ?_
  refine Y.k_nil ?_
  refine Y.k_end ?_
  rfl
/-! all_ends -/
def m10 : Nat → Int → Int → (List Int) → Option (List (List Int))
  | 0, _, _, _ => none
  | n + 1, p0, p1, p2 => cond (eqI ((List.length p2 : Nat) : Int) p0) (bnd (Y.sumRT (p0 + 1)) fun v1 => bnd (mulT p1 p0) fun v2 => bnd (repL [p2] (cond (eqI ((sumI p2) - v1) v2) 1 0)) fun v3 => some v3) (bnd (lcG (fun v4 : Int => bnd (modT v4 p0) fun v5 => some (some v5)) p2) fun v6 => bnd (rng2T (((List.length p2 : Nat) : Int) + 1) (((((List.length p2 : Nat) : Int) + 1) + p0) + 1)) fun v7 => bnd (Y.foldT (fun (s7 : (List (List Int))) (x8 : Int) => bnd (modT x8 p0) fun v10 => cond (!List.any v6 (fun y => eqI y v10)) (bnd (addL p2 [x8]) fun v11 => bnd (m10 n (p0) (p1) (v11)) fun v12 => bnd (extT s7 (v12)) fun v13 => some v13) (some s7)) [] v7) fun v14 => some v14)
theorem a10r {m : Nat} : ∀ (n : Nat) {p0 : Int} {p1 : Int} {p2 : (List Int)} {r : (List (List Int))} (h : m10 n p0 p1 p2 = some r), callN Gd tb 40 (m + n + 0) 10 [.dat (D.int p0), .dat (D.int p1), .dat (lstD p2)] = some ((R.new (List.map lstD r)), [.dat (D.int p0), .dat (D.int p1), .dat (lstD p2)])
  | 0, _, _, _, _, h => by
    cases h
  | n + 1, p0, p1, p2, r, h => by
    unfold m10 at h
    have ih : ∀ {p0 : Int} {p1 : Int} {p2 : (List Int)} {r : (List (List Int))}, m10 n p0 p1 p2 = some r → callN Gd tb 40 (m + n + 0) 10 [.dat (D.int p0), .dat (D.int p1), .dat (lstD p2)] = some ((R.new (List.map lstD r)), [.dat (D.int p0), .dat (D.int p1), .dat (lstD p2)]) := fun {_ _ _ _} h => a10r n h
    show callN Gd tb 40 (m + n + 0 + 1) 10 _ = _
    refine Y.call_of (d := f10) (l0 := [.dat (D.int p0), .dat (D.int p1), .dat (lstD p2), .none, .none, .none, .none]) rfl rfl rfl rfl ?_
    rcases cond_some h with ⟨hc, h⟩ | ⟨hc, h⟩
    · refine Y.k_T (Y.t_b (X.e_o2 (o := .eq) (l1 := [.dat (D.int p0), .dat (D.int p1), .dat (lstD p2), .none, .none, .none, .none]) (l2 := [.dat (D.int p0), .dat (D.int p1), .dat (lstD p2), .none, .none, .none, .none]) (r1 := (R.val (D.int ((List.length p2 : Nat) : Int)))) (r2 := (R.val (D.int p0))) (d := (D.int ((List.length p2 : Nat) : Int))) (d' := (D.int p0)) (r := (R.val (D.bl (eqI ((List.length p2 : Nat) : Int) p0)))) (X.e_o1 (o := .len) (l1 := [.dat (D.int p0), .dat (D.int p1), .dat (lstD p2), .none, .none, .none, .none]) (r := (R.val (lstD p2))) (d := (lstD p2)) (r' := (R.val (D.int ((List.length p2 : Nat) : Int)))) (X.e_r0 rfl) rfl (p_len D.int p2)) (X.e_r0 rfl) rfl rfl (p_eq (F := D.int) eqe_int ((List.length p2 : Nat) : Int) p0))) hc ?_
      obtain ⟨v1, h1, h⟩ := bnd_some h
      obtain ⟨v2, h2, h⟩ := bnd_some h
      obtain ⟨v3, h3, h⟩ := bnd_some h
      have hz := Option.some.inj h
      subst hz
      exact Y.k_rt (Y.s_retL (X.e_o2 (o := .mul) (l1 := [.dat (D.int p0), .dat (D.int p1), .dat (lstD p2), .none, .none, .none, .none]) (l2 := [.dat (D.int p0), .dat (D.int p1), .dat (lstD p2), .none, .none, .none, .none]) (r1 := (R.new (List.map lstD [p2]))) (r2 := (R.val (D.int (cond (eqI ((sumI p2) - v1) v2) 1 0)))) (d := (D.lst (List.map lstD [p2]))) (d' := (D.int (cond (eqI ((sumI p2) - v1) v2) 1 0))) (r := (R.new (List.map lstD v3))) (X.e_lst (ds := [(lstD p2)]) (X.es_cons (r := (R.val (lstD p2))) (l1 := [.dat (D.int p0), .dat (D.int p1), .dat (lstD p2), .none, .none, .none, .none]) (X.e_r0 rfl) X.es_nil) rfl) (X.e_o1 (o := .int) (l1 := [.dat (D.int p0), .dat (D.int p1), .dat (lstD p2), .none, .none, .none, .none]) (r := (R.val (D.bl (eqI ((sumI p2) - v1) v2)))) (d := (D.bl (eqI ((sumI p2) - v1) v2))) (r' := (R.val (D.int (cond (eqI ((sumI p2) - v1) v2) 1 0)))) (X.e_o2 (o := .eq) (l1 := [.dat (D.int p0), .dat (D.int p1), .dat (lstD p2), .none, .none, .none, .none]) (l2 := [.dat (D.int p0), .dat (D.int p1), .dat (lstD p2), .none, .none, .none, .none]) (r1 := (R.val (D.int ((sumI p2) - v1)))) (r2 := (R.val (D.int v2))) (d := (D.int ((sumI p2) - v1))) (d' := (D.int v2)) (r := (R.val (D.bl (eqI ((sumI p2) - v1) v2)))) (X.e_o2 (o := .sub) (l1 := [.dat (D.int p0), .dat (D.int p1), .dat (lstD p2), .none, .none, .none, .none]) (l2 := [.dat (D.int p0), .dat (D.int p1), .dat (lstD p2), .none, .none, .none, .none]) (r1 := (R.val (D.int (sumI p2)))) (r2 := (R.val (D.int v1))) (d := (D.int (sumI p2))) (d' := (D.int v1)) (r := (R.val (D.int ((sumI p2) - v1)))) (X.e_o1 (o := .sum) (l1 := [.dat (D.int p0), .dat (D.int p1), .dat (lstD p2), .none, .none, .none, .none]) (r := (R.val (lstD p2))) (d := (lstD p2)) (r' := (R.val (D.int (sumI p2)))) (X.e_r0 rfl) rfl (p_sumL p2)) (Y.e_sumR (n := (p0 + 1)) (X.e_o2 (o := .add) (l1 := [.dat (D.int p0), .dat (D.int p1), .dat (lstD p2), .none, .none, .none, .none]) (l2 := [.dat (D.int p0), .dat (D.int p1), .dat (lstD p2), .none, .none, .none, .none]) (r1 := (R.val (D.int p0))) (r2 := (R.val (D.int 1))) (d := (D.int p0)) (d' := (D.int 1)) (r := (R.val (D.int (p0 + 1)))) (X.e_r0 rfl) X.e_k rfl rfl rfl) h1) rfl rfl rfl) (X.e_o2 (o := .mul) (l1 := [.dat (D.int p0), .dat (D.int p1), .dat (lstD p2), .none, .none, .none, .none]) (l2 := [.dat (D.int p0), .dat (D.int p1), .dat (lstD p2), .none, .none, .none, .none]) (r1 := (R.val (D.int p1))) (r2 := (R.val (D.int p0))) (d := (D.int p1)) (d' := (D.int p0)) (r := (R.val (D.int v2))) (X.e_r0 rfl) (X.e_r0 rfl) rfl rfl (p_mul h2)) rfl rfl (p_eq (F := D.int) eqe_int ((sumI p2) - v1) v2)) rfl (p_intB (eqI ((sumI p2) - v1) v2))) rfl rfl (p_repL (F := lstD) h3))) (Y.ends_rt rfl)
    · refine Y.k_F (Y.t_b (X.e_o2 (o := .eq) (l1 := [.dat (D.int p0), .dat (D.int p1), .dat (lstD p2), .none, .none, .none, .none]) (l2 := [.dat (D.int p0), .dat (D.int p1), .dat (lstD p2), .none, .none, .none, .none]) (r1 := (R.val (D.int ((List.length p2 : Nat) : Int)))) (r2 := (R.val (D.int p0))) (d := (D.int ((List.length p2 : Nat) : Int))) (d' := (D.int p0)) (r := (R.val (D.bl (eqI ((List.length p2 : Nat) : Int) p0)))) (X.e_o1 (o := .len) (l1 := [.dat (D.int p0), .dat (D.int p1), .dat (lstD p2), .none, .none, .none, .none]) (r := (R.val (lstD p2))) (d := (lstD p2)) (r' := (R.val (D.int ((List.length p2 : Nat) : Int)))) (X.e_r0 rfl) rfl (p_len D.int p2)) (X.e_r0 rfl) rfl rfl (p_eq (F := D.int) eqe_int ((List.length p2 : Nat) : Int) p0))) hc ?_
      refine Y.k_nil ?_
      refine Y.k_nx (l1 := [.dat (D.int p0), .dat (D.int p1), .dat (lstD p2), .dat (D.int (((List.length p2 : Nat) : Int) + 1)), .none, .none, .none]) (Y.s_set (r := (R.val (D.int (((List.length p2 : Nat) : Int) + 1)))) (l1 := [.dat (D.int p0), .dat (D.int p1), .dat (lstD p2), .none, .none, .none, .none]) (d := (D.int (((List.length p2 : Nat) : Int) + 1))) (X.e_o2 (o := .add) (l1 := [.dat (D.int p0), .dat (D.int p1), .dat (lstD p2), .none, .none, .none, .none]) (l2 := [.dat (D.int p0), .dat (D.int p1), .dat (lstD p2), .none, .none, .none, .none]) (r1 := (R.val (D.int ((List.length p2 : Nat) : Int)))) (r2 := (R.val (D.int 1))) (d := (D.int ((List.length p2 : Nat) : Int))) (d' := (D.int 1)) (r := (R.val (D.int (((List.length p2 : Nat) : Int) + 1)))) (X.e_o1 (o := .len) (l1 := [.dat (D.int p0), .dat (D.int p1), .dat (lstD p2), .none, .none, .none, .none]) (r := (R.val (lstD p2))) (d := (lstD p2)) (r' := (R.val (D.int ((List.length p2 : Nat) : Int)))) (X.e_r0 rfl) rfl (p_len D.int p2)) X.e_k rfl rfl rfl) rfl rfl) ?_
      obtain ⟨v6, h5, h⟩ := bnd_some h
      have q5 : ev Gd (callN Gd tb 40 (m + n + 0)) (.lc [6] (.v 6) (.seq (.r 2)) [] (.o2 .mod (.r 6) (.r 0))) [.dat (D.int p0), .dat (D.int p1), .dat (lstD p2), .dat (D.int (((List.length p2 : Nat) : Int) + 1)), .none, .none, .none] = some ((R.new (List.map D.int v6)), [.dat (D.int p0), .dat (D.int p1), .dat (lstD p2), .dat (D.int (((List.length p2 : Nat) : Int) + 1)), .none, .none, .none]) := Y.e_lc (w := [.dat (D.int p0), .dat (D.int p1), .dat (lstD p2), .dat (D.int (((List.length p2 : Nat) : Int) + 1)), .none, .none, .none]) (ga := D.int) (gb := D.int) (X.i_seq (r := (R.val (lstD p2))) (X.e_r0 rfl) rfl) rfl rfl h5 (by
          intro v4 o h
          try dsimp only at h
          obtain ⟨v5, h4, h⟩ := bnd_some h
          have hz := Option.some.inj h
          subst hz
          exact ⟨[.dat (D.int p0), .dat (D.int p1), .dat (lstD p2), .dat (D.int (((List.length p2 : Nat) : Int) + 1)), .none, .none, .dat (D.int v4)], [.dat (D.int p0), .dat (D.int p1), .dat (lstD p2), .dat (D.int (((List.length p2 : Nat) : Int) + 1)), .none, .none, .dat (D.int v4)], rfl, Y.c_nil, (R.val (D.int v5)), [.dat (D.int p0), .dat (D.int p1), .dat (lstD p2), .dat (D.int (((List.length p2 : Nat) : Int) + 1)), .none, .none, .dat (D.int v4)], (X.e_o2 (o := .mod) (l1 := [.dat (D.int p0), .dat (D.int p1), .dat (lstD p2), .dat (D.int (((List.length p2 : Nat) : Int) + 1)), .none, .none, .dat (D.int v4)]) (l2 := [.dat (D.int p0), .dat (D.int p1), .dat (lstD p2), .dat (D.int (((List.length p2 : Nat) : Int) + 1)), .none, .none, .dat (D.int v4)]) (r1 := (R.val (D.int v4))) (r2 := (R.val (D.int p0))) (d := (D.int v4)) (d' := (D.int p0)) (r := (R.val (D.int v5))) (X.e_r0 rfl) (X.e_r0 rfl) rfl rfl (p_mod h4)), rfl, rfl⟩) rfl
      refine Y.k_nx (l1 := [.dat (D.int p0), .dat (D.int p1), .dat (lstD p2), .dat (D.int (((List.length p2 : Nat) : Int) + 1)), .dat (lstD v6), .none, .none]) (Y.s_set (r := (R.new (List.map D.int v6))) (l1 := [.dat (D.int p0), .dat (D.int p1), .dat (lstD p2), .dat (D.int (((List.length p2 : Nat) : Int) + 1)), .none, .none, .none]) (d := (lstD v6)) q5 rfl rfl) ?_
      refine Y.k_nx (l1 := [.dat (D.int p0), .dat (D.int p1), .dat (lstD p2), .dat (D.int (((List.length p2 : Nat) : Int) + 1)), .dat (lstD v6), .own false (List.map lstD []), .none]) (Y.s_own (l1 := [.dat (D.int p0), .dat (D.int p1), .dat (lstD p2), .dat (D.int (((List.length p2 : Nat) : Int) + 1)), .dat (lstD v6), .none, .none]) (ds := (List.map lstD [])) (X.e_lst (ds := []) X.es_nil rfl) rfl) ?_
      obtain ⟨v7, h6, h⟩ := bnd_some h
      refine Y.k_fold (L := (fun s7 : (List (List Int)) => [.dat (D.int p0), .dat (D.int p1), .dat (lstD p2), .dat (D.int (((List.length p2 : Nat) : Int) + 1)), .dat (lstD v6), .own false (List.map lstD s7), .none])) (g := D.int) (s0 := []) (xs := v7) (Y.i_rng2 (m := (((List.length p2 : Nat) : Int) + 1)) (n := (((((List.length p2 : Nat) : Int) + 1) + p0) + 1)) (l1 := [.dat (D.int p0), .dat (D.int p1), .dat (lstD p2), .dat (D.int (((List.length p2 : Nat) : Int) + 1)), .dat (lstD v6), .own false (List.map lstD []), .none]) (X.e_r0 rfl) (X.e_o2 (o := .add) (l1 := [.dat (D.int p0), .dat (D.int p1), .dat (lstD p2), .dat (D.int (((List.length p2 : Nat) : Int) + 1)), .dat (lstD v6), .own false (List.map lstD []), .none]) (l2 := [.dat (D.int p0), .dat (D.int p1), .dat (lstD p2), .dat (D.int (((List.length p2 : Nat) : Int) + 1)), .dat (lstD v6), .own false (List.map lstD []), .none]) (r1 := (R.val (D.int ((((List.length p2 : Nat) : Int) + 1) + p0)))) (r2 := (R.val (D.int 1))) (d := (D.int ((((List.length p2 : Nat) : Int) + 1) + p0))) (d' := (D.int 1)) (r := (R.val (D.int (((((List.length p2 : Nat) : Int) + 1) + p0) + 1)))) (X.e_o2 (o := .add) (l1 := [.dat (D.int p0), .dat (D.int p1), .dat (lstD p2), .dat (D.int (((List.length p2 : Nat) : Int) + 1)), .dat (lstD v6), .own false (List.map lstD []), .none]) (l2 := [.dat (D.int p0), .dat (D.int p1), .dat (lstD p2), .dat (D.int (((List.length p2 : Nat) : Int) + 1)), .dat (lstD v6), .own false (List.map lstD []), .none]) (r1 := (R.val (D.int (((List.length p2 : Nat) : Int) + 1)))) (r2 := (R.val (D.int p0))) (d := (D.int (((List.length p2 : Nat) : Int) + 1))) (d' := (D.int p0)) (r := (R.val (D.int ((((List.length p2 : Nat) : Int) + 1) + p0)))) (X.e_r0 rfl) (X.e_r0 rfl) rfl rfl rfl) X.e_k rfl rfl rfl) h6) rfl h ?_ ?_
      · intro s7 x8 o h
        try dsimp only at h
        refine ⟨[.dat (D.int p0), .dat (D.int p1), .dat (lstD p2), .dat (D.int (((List.length p2 : Nat) : Int) + 1)), .dat (lstD v6), .own false (List.map lstD s7), .dat (D.int x8)], rfl, ?_⟩
        obtain ⟨v10, h7, h⟩ := bnd_some h
        rcases cond_some h with ⟨hc, h⟩ | ⟨hc, h⟩
        · refine Y.k_T (Y.t_b (X.e_o2 (o := .notin) (l1 := [.dat (D.int p0), .dat (D.int p1), .dat (lstD p2), .dat (D.int (((List.length p2 : Nat) : Int) + 1)), .dat (lstD v6), .own false (List.map lstD s7), .dat (D.int x8)]) (l2 := [.dat (D.int p0), .dat (D.int p1), .dat (lstD p2), .dat (D.int (((List.length p2 : Nat) : Int) + 1)), .dat (lstD v6), .own false (List.map lstD s7), .dat (D.int x8)]) (r1 := (R.val (D.int v10))) (r2 := (R.val (lstD v6))) (d := (D.int v10)) (d' := (lstD v6)) (r := (R.val (D.bl (!List.any v6 (fun y => eqI y v10))))) (X.e_o2 (o := .mod) (l1 := [.dat (D.int p0), .dat (D.int p1), .dat (lstD p2), .dat (D.int (((List.length p2 : Nat) : Int) + 1)), .dat (lstD v6), .own false (List.map lstD s7), .dat (D.int x8)]) (l2 := [.dat (D.int p0), .dat (D.int p1), .dat (lstD p2), .dat (D.int (((List.length p2 : Nat) : Int) + 1)), .dat (lstD v6), .own false (List.map lstD s7), .dat (D.int x8)]) (r1 := (R.val (D.int x8))) (r2 := (R.val (D.int p0))) (d := (D.int x8)) (d' := (D.int p0)) (r := (R.val (D.int v10))) (X.e_r0 rfl) (X.e_r0 rfl) rfl rfl (p_mod h7)) (X.e_r0 rfl) rfl rfl (p_ninL (F := D.int) eqe_int v10 v6))) hc ?_
          obtain ⟨v11, h8, h⟩ := bnd_some h
          obtain ⟨v12, h9, h⟩ := bnd_some h
          obtain ⟨v13, h10, h⟩ := bnd_some h
          refine Y.k_nx (l1 := [.dat (D.int p0), .dat (D.int p1), .dat (lstD p2), .dat (D.int (((List.length p2 : Nat) : Int) + 1)), .dat (lstD v6), .own false (List.map lstD v13), .dat (D.int x8)]) (Y.s_augL (f := lstD) (b' := false) (xs := s7) (ys := s7) (us := v12) (r := (R.new (List.map lstD v12))) (l1 := [.dat (D.int p0), .dat (D.int p1), .dat (lstD p2), .dat (D.int (((List.length p2 : Nat) : Int) + 1)), .dat (lstD v6), .own false (List.map lstD s7), .dat (D.int x8)]) rfl (Y.e_call (rs := [(R.val (D.int p0)), (R.val (D.int p1)), (R.val (D.lst (List.map D.int v11)))]) (l1 := [.dat (D.int p0), .dat (D.int p1), .dat (lstD p2), .dat (D.int (((List.length p2 : Nat) : Int) + 1)), .dat (lstD v6), .own false (List.map lstD s7), .dat (D.int x8)]) (r := (R.new (List.map lstD v12))) (X.es_cons (r := (R.val (D.int p0))) (l1 := [.dat (D.int p0), .dat (D.int p1), .dat (lstD p2), .dat (D.int (((List.length p2 : Nat) : Int) + 1)), .dat (lstD v6), .own false (List.map lstD s7), .dat (D.int x8)]) (X.e_r0 rfl) (X.es_cons (r := (R.val (D.int p1))) (l1 := [.dat (D.int p0), .dat (D.int p1), .dat (lstD p2), .dat (D.int (((List.length p2 : Nat) : Int) + 1)), .dat (lstD v6), .own false (List.map lstD s7), .dat (D.int x8)]) (X.e_r0 rfl) (X.es_cons (r := (R.new (List.map D.int v11))) (l1 := [.dat (D.int p0), .dat (D.int p1), .dat (lstD p2), .dat (D.int (((List.length p2 : Nat) : Int) + 1)), .dat (lstD v6), .own false (List.map lstD s7), .dat (D.int x8)]) (X.e_o2 (o := .add) (l1 := [.dat (D.int p0), .dat (D.int p1), .dat (lstD p2), .dat (D.int (((List.length p2 : Nat) : Int) + 1)), .dat (lstD v6), .own false (List.map lstD s7), .dat (D.int x8)]) (l2 := [.dat (D.int p0), .dat (D.int p1), .dat (lstD p2), .dat (D.int (((List.length p2 : Nat) : Int) + 1)), .dat (lstD v6), .own false (List.map lstD s7), .dat (D.int x8)]) (r1 := (R.val (lstD p2))) (r2 := (R.new (List.map D.int [x8]))) (d := (lstD p2)) (d' := (D.lst (List.map D.int [x8]))) (r := (R.new (List.map D.int v11))) (X.e_r0 rfl) (X.e_lst (ds := [(D.int x8)]) (X.es_cons (r := (R.val (D.int x8))) (l1 := [.dat (D.int p0), .dat (D.int p1), .dat (lstD p2), .dat (D.int (((List.length p2 : Nat) : Int) + 1)), .dat (lstD v6), .own false (List.map lstD s7), .dat (D.int x8)]) (X.e_r0 rfl) X.es_nil) rfl) rfl rfl (p_addL (F := D.int) h8)) X.es_nil))) (Y.do_val (ds := [(D.int p0), (D.int p1), (D.lst (List.map D.int v11))]) (ih h9))) rfl rfl h10) ?_
          refine Y.k_nil ?_
          refine Y.k_nx (l1 := [.dat (D.int p0), .dat (D.int p1), .dat (lstD p2), .dat (D.int (((List.length p2 : Nat) : Int) + 1)), .dat (lstD v6), .own false (List.map lstD v13), .none]) (Y.s_forget rfl rfl) ?_
          refine Y.k_nil ?_
          refine Y.k_end ?_
          have hz := Option.some.inj h
          subst hz
          exact .inl rfl
        · refine Y.k_F (Y.t_b (X.e_o2 (o := .notin) (l1 := [.dat (D.int p0), .dat (D.int p1), .dat (lstD p2), .dat (D.int (((List.length p2 : Nat) : Int) + 1)), .dat (lstD v6), .own false (List.map lstD s7), .dat (D.int x8)]) (l2 := [.dat (D.int p0), .dat (D.int p1), .dat (lstD p2), .dat (D.int (((List.length p2 : Nat) : Int) + 1)), .dat (lstD v6), .own false (List.map lstD s7), .dat (D.int x8)]) (r1 := (R.val (D.int v10))) (r2 := (R.val (lstD v6))) (d := (D.int v10)) (d' := (lstD v6)) (r := (R.val (D.bl (!List.any v6 (fun y => eqI y v10))))) (X.e_o2 (o := .mod) (l1 := [.dat (D.int p0), .dat (D.int p1), .dat (lstD p2), .dat (D.int (((List.length p2 : Nat) : Int) + 1)), .dat (lstD v6), .own false (List.map lstD s7), .dat (D.int x8)]) (l2 := [.dat (D.int p0), .dat (D.int p1), .dat (lstD p2), .dat (D.int (((List.length p2 : Nat) : Int) + 1)), .dat (lstD v6), .own false (List.map lstD s7), .dat (D.int x8)]) (r1 := (R.val (D.int x8))) (r2 := (R.val (D.int p0))) (d := (D.int x8)) (d' := (D.int p0)) (r := (R.val (D.int v10))) (X.e_r0 rfl) (X.e_r0 rfl) rfl rfl (p_mod h7)) (X.e_r0 rfl) rfl rfl (p_ninL (F := D.int) eqe_int v10 v6))) hc ?_
          refine Y.k_nil ?_
          refine Y.k_nx (l1 := [.dat (D.int p0), .dat (D.int p1), .dat (lstD p2), .dat (D.int (((List.length p2 : Nat) : Int) + 1)), .dat (lstD v6), .own false (List.map lstD s7), .none]) (Y.s_forget rfl rfl) ?_
          refine Y.k_nil ?_
          refine Y.k_end ?_
          have hz := Option.some.inj h
          subst hz
          exact .inl rfl
      · intro v14 h
        try dsimp only at h
        have hz := Option.some.inj h
        subst hz
        exact Y.k_rt (Y.s_retO rfl) (Y.ends_rt rfl)
theorem a10 {m : Nat} {p0 : Int} {p1 : Int} {p2 : (List Int)} {r : (List (List Int))} (h : m10 8 p0 p1 p2 = some r) : callN Gd tb 40 (m + 8) 10 [.dat (D.int p0), .dat (D.int p1), .dat (lstD p2)] = some ((R.new (List.map lstD r)), [.dat (D.int p0), .dat (D.int p1), .dat (lstD p2)]) := a10r (m := m) 8 h
/-! turnings -/
def m11 (p0 : Int) (p1 : Int) : Option (List (List Int)) := bnd (m7 (p0) (1) (6)) fun v1 => bnd (cond (!v1) (some true) (bnd (m7 (p1) (0) (p0)) fun v2 => some (!v2))) fun v3 => cond v3 (none) (bnd (m10 8 (p0) (p1) ([])) fun v4 => bnd (lcG (fun v5 : (List Int) => bnd (m9 (v5)) fun v6 => some (some v6)) v4) fun v7 => some v7)
theorem a11 {m : Nat} {p0 : Int} {p1 : Int} {r : (List (List Int))} (h : m11 p0 p1 = some r) : callN Gd tb 40 (m + 9) 11 [.dat (D.int p0), .dat (D.int p1)] = some ((R.new (List.map (fun x : (List Int) => (D.ins 0 [(tupD x)])) r)), [.dat (D.int p0), .dat (D.int p1)]) := by
  unfold m11 at h
  refine Y.call_of (d := f11) (l0 := [.dat (D.int p0), .dat (D.int p1), .none]) rfl rfl rfl rfl ?_
  obtain ⟨v1, h1, h⟩ := bnd_some h
  obtain ⟨v3, h3, h⟩ := bnd_some h
  have q3 : evT Gd (callN Gd tb 40 (m + 8)) (.or (.not (.callK 7 [.r 0] [.c (.int 1), .g 0] [0, 1, 2])) (.not (.callK 7 [.r 1] [.c (.int 0), .r 0] [0, 1, 2]))) [.dat (D.int p0), .dat (D.int p1), .none] = some (v3, [.dat (D.int p0), .dat (D.int p1), .none]) := by
    rcases cond_some h3 with ⟨hc, h⟩ | ⟨hc, h⟩
    · skip
      have hz := Option.some.inj h
      subst hz
      exact Y.t_orT (Y.t_not (Y.t_b (X.e_callK (rs := [(R.val (D.int p0))]) (zs := [(R.val (D.int 1)), (R.val (D.int 6))]) (ts := [(R.val (D.int p0)), (R.val (D.int 1)), (R.val (D.int 6))]) (l1 := [.dat (D.int p0), .dat (D.int p1), .none]) (l2 := [.dat (D.int p0), .dat (D.int p1), .none]) (r := (R.val (D.bl v1))) (X.es_cons (r := (R.val (D.int p0))) (l1 := [.dat (D.int p0), .dat (D.int p1), .none]) (X.e_r0 rfl) X.es_nil) (X.es_cons (r := (R.val (D.int 1))) (l1 := [.dat (D.int p0), .dat (D.int p1), .none]) X.e_k (X.es_cons (r := (R.val (D.int 6))) (l1 := [.dat (D.int p0), .dat (D.int p1), .none]) (Y.e_g rfl) X.es_nil)) rfl (Y.do_val (ds := [(D.int p0), (D.int 1), (D.int 6)]) (a7 (m := m + 7) h1))))) hc
    · skip
      obtain ⟨v2, h2, h⟩ := bnd_some h
      have hz := Option.some.inj h
      subst hz
      exact Y.t_orF (l1 := [.dat (D.int p0), .dat (D.int p1), .none]) (Y.t_not (Y.t_b (X.e_callK (rs := [(R.val (D.int p0))]) (zs := [(R.val (D.int 1)), (R.val (D.int 6))]) (ts := [(R.val (D.int p0)), (R.val (D.int 1)), (R.val (D.int 6))]) (l1 := [.dat (D.int p0), .dat (D.int p1), .none]) (l2 := [.dat (D.int p0), .dat (D.int p1), .none]) (r := (R.val (D.bl v1))) (X.es_cons (r := (R.val (D.int p0))) (l1 := [.dat (D.int p0), .dat (D.int p1), .none]) (X.e_r0 rfl) X.es_nil) (X.es_cons (r := (R.val (D.int 1))) (l1 := [.dat (D.int p0), .dat (D.int p1), .none]) X.e_k (X.es_cons (r := (R.val (D.int 6))) (l1 := [.dat (D.int p0), .dat (D.int p1), .none]) (Y.e_g rfl) X.es_nil)) rfl (Y.do_val (ds := [(D.int p0), (D.int 1), (D.int 6)]) (a7 (m := m + 7) h1))))) hc (Y.t_not (Y.t_b (X.e_callK (rs := [(R.val (D.int p1))]) (zs := [(R.val (D.int 0)), (R.val (D.int p0))]) (ts := [(R.val (D.int p1)), (R.val (D.int 0)), (R.val (D.int p0))]) (l1 := [.dat (D.int p0), .dat (D.int p1), .none]) (l2 := [.dat (D.int p0), .dat (D.int p1), .none]) (r := (R.val (D.bl v2))) (X.es_cons (r := (R.val (D.int p1))) (l1 := [.dat (D.int p0), .dat (D.int p1), .none]) (X.e_r0 rfl) X.es_nil) (X.es_cons (r := (R.val (D.int 0))) (l1 := [.dat (D.int p0), .dat (D.int p1), .none]) X.e_k (X.es_cons (r := (R.val (D.int p0))) (l1 := [.dat (D.int p0), .dat (D.int p1), .none]) (X.e_r0 rfl) X.es_nil)) rfl (Y.do_val (ds := [(D.int p1), (D.int 0), (D.int p0)]) (a7 (m := m + 7) h2)))))
  rcases cond_some h with ⟨hc, h⟩ | ⟨hc, h⟩
  · refine Y.k_T q3 hc ?_
    cases h
  · refine Y.k_F q3 hc ?_
    refine Y.k_nil ?_
    obtain ⟨v4, h4, h⟩ := bnd_some h
    obtain ⟨v7, h6, h⟩ := bnd_some h
    have q6 : ev Gd (callN Gd tb 40 (m + 8)) (.lc [2] (.v 2) (.seq (.call 10 [.r 0, .r 1, .lst []])) [] (.make 0 9 [.r 2])) [.dat (D.int p0), .dat (D.int p1), .none] = some ((R.new (List.map (fun x : (List Int) => (D.ins 0 [(tupD x)])) v7)), [.dat (D.int p0), .dat (D.int p1), .none]) := Y.e_lc (w := [.dat (D.int p0), .dat (D.int p1), .none]) (ga := lstD) (gb := (fun x : (List Int) => (D.ins 0 [(tupD x)]))) (X.i_seq (r := (R.new (List.map lstD v4))) (Y.e_call (rs := [(R.val (D.int p0)), (R.val (D.int p1)), (R.val (D.lst []))]) (l1 := [.dat (D.int p0), .dat (D.int p1), .none]) (r := (R.new (List.map lstD v4))) (X.es_cons (r := (R.val (D.int p0))) (l1 := [.dat (D.int p0), .dat (D.int p1), .none]) (X.e_r0 rfl) (X.es_cons (r := (R.val (D.int p1))) (l1 := [.dat (D.int p0), .dat (D.int p1), .none]) (X.e_r0 rfl) (X.es_cons (r := (R.new [])) (l1 := [.dat (D.int p0), .dat (D.int p1), .none]) (X.e_lst (ds := []) X.es_nil rfl) X.es_nil))) (Y.do_val (ds := [(D.int p0), (D.int p1), (D.lst [])]) (a10 (m := m + 0) h4))) rfl) rfl rfl h6 (by
        intro v5 o h
        try dsimp only at h
        obtain ⟨v6, h5, h⟩ := bnd_some h
        have hz := Option.some.inj h
        subst hz
        exact ⟨[.dat (D.int p0), .dat (D.int p1), .dat (lstD v5)], [.dat (D.int p0), .dat (D.int p1), .dat (lstD v5)], rfl, Y.c_nil, (R.val (D.ins 0 [(tupD v6)])), [.dat (D.int p0), .dat (D.int p1), .dat (lstD v5)], (Y.e_make (k := 0) (ds := [(lstD v5)]) (fs := [(tupD v6)]) (l1 := [.dat (D.int p0), .dat (D.int p1), .dat (lstD v5)]) (X.es_cons (r := (R.val (lstD v5))) (l1 := [.dat (D.int p0), .dat (D.int p1), .dat (lstD v5)]) (X.e_r0 rfl) X.es_nil) (a9 (m := m + 4) h5)), rfl, rfl⟩) rfl
    have hz := Option.some.inj h
    subst hz
    exact Y.k_rt (Y.s_retL q6) (Y.ends_rt rfl)
/-! _law_one -/
def m12 (p0 : (List Int)) (p1 : (List (List Int))) : Option ((List Int) × (List Int)) := bnd2 (m2 (p0) (((List.length p1 : Nat) : Int))) fun v1 v2 => bnd (ixT p1 v1) fun v3 => some (v3, v2)
theorem a12 {m : Nat} {p0 : (List Int)} {p1 : (List (List Int))} {r : (List Int)} {w0 : (List Int)} (h : m12 p0 p1 = some (r, w0)) : callN Gd tb 40 (m + 2) 12 [.own true (List.map D.int p0), .dat (D.lst (List.map (fun x : (List Int) => (D.ins 0 [(tupD x)])) p1))] = some ((R.val (D.ins 0 [(tupD r)])), [.own true (List.map D.int w0), .dat (D.lst (List.map (fun x : (List Int) => (D.ins 0 [(tupD x)])) p1))]) := by
  unfold m12 at h
  refine Y.call_of (d := f12) (l0 := [.own true (List.map D.int p0), .dat (D.lst (List.map (fun x : (List Int) => (D.ins 0 [(tupD x)])) p1))]) rfl rfl rfl rfl ?_
  obtain ⟨v1, v2, h1, h⟩ := bnd2_some h
  obtain ⟨v3, h2, h⟩ := bnd_some h
  obtain ⟨hz0, hz1⟩ := inj2 h
  subst hz0
  subst hz1
  exact Y.k_rt (Y.s_retV (X.e_o2 (o := .ix) (l1 := [.own true (List.map D.int p0), .dat (D.lst (List.map (fun x : (List Int) => (D.ins 0 [(tupD x)])) p1))]) (l2 := [.own true (List.map D.int v2), .dat (D.lst (List.map (fun x : (List Int) => (D.ins 0 [(tupD x)])) p1))]) (r1 := (R.val (D.lst (List.map (fun x : (List Int) => (D.ins 0 [(tupD x)])) p1)))) (r2 := (R.val (D.int v1))) (d := (D.lst (List.map (fun x : (List Int) => (D.ins 0 [(tupD x)])) p1))) (d' := (D.int v1)) (r := (R.val (D.ins 0 [(tupD v3)]))) (X.e_r0 rfl) (Y.e_call (rs := [(R.ref 0), (R.val (D.int ((List.length p1 : Nat) : Int)))]) (l1 := [.own true (List.map D.int p0), .dat (D.lst (List.map (fun x : (List Int) => (D.ins 0 [(tupD x)])) p1))]) (r := (R.val (D.int v1))) (X.es_cons (r := (R.ref 0)) (l1 := [.own true (List.map D.int p0), .dat (D.lst (List.map (fun x : (List Int) => (D.ins 0 [(tupD x)])) p1))]) (X.e_rO rfl) (X.es_cons (r := (R.val (D.int ((List.length p1 : Nat) : Int)))) (l1 := [.own true (List.map D.int p0), .dat (D.lst (List.map (fun x : (List Int) => (D.ins 0 [(tupD x)])) p1))]) (X.e_o1 (o := .len) (l1 := [.own true (List.map D.int p0), .dat (D.lst (List.map (fun x : (List Int) => (D.ins 0 [(tupD x)])) p1))]) (r := (R.val (D.lst (List.map (fun x : (List Int) => (D.ins 0 [(tupD x)])) p1)))) (d := (D.lst (List.map (fun x : (List Int) => (D.ins 0 [(tupD x)])) p1))) (r' := (R.val (D.int ((List.length p1 : Nat) : Int)))) (X.e_r0 rfl) rfl (p_len (fun x : (List Int) => (D.ins 0 [(tupD x)])) p1)) X.es_nil)) (Y.do_ref1 (i := 0) (es := (List.map D.int p0)) (es' := (List.map D.int v2)) (ds := [(D.int ((List.length p1 : Nat) : Int))]) rfl (a2 (m := m + 0) h1))) rfl rfl (p_ixL (F := (fun x : (List Int) => (D.ins 0 [(tupD x)]))) h2))) (Y.ends_rt rfl)
/-! Turning.__eq__ -/
def m13 (p0 : (List Int)) (p1 : (List Int)) : Option Bool := some (true && ((eqLs eqI) p0 p1))
theorem a13 {m : Nat} {p0 : (List Int)} {p1 : (List Int)} {r : Bool} (h : m13 p0 p1 = some r) : callN Gd tb 40 (m + 1) 13 [.dat (D.ins 0 [(tupD p0)]), .dat (D.ins 0 [(tupD p1)])] = some ((R.val (D.bl r)), [.dat (D.ins 0 [(tupD p0)]), .dat (D.ins 0 [(tupD p1)])]) := by
  unfold m13 at h
  refine Y.call_of (d := f13) (l0 := [.dat (D.ins 0 [(tupD p0)]), .dat (D.ins 0 [(tupD p1)])]) rfl rfl rfl rfl ?_
  have hz := Option.some.inj h
  subst hz
  exact Y.k_rt (Y.s_retV (Y.e_and (x := true) (y := ((eqLs eqI) p0 p1)) (X.e_o1 (o := (.isC 0)) (l1 := [.dat (D.ins 0 [(tupD p0)]), .dat (D.ins 0 [(tupD p1)])]) (r := (R.val (D.ins 0 [(tupD p1)]))) (d := (D.ins 0 [(tupD p1)])) (r' := (R.val (D.bl true))) (X.e_r0 rfl) rfl rfl) (X.e_o2 (o := .eq) (l1 := [.dat (D.ins 0 [(tupD p0)]), .dat (D.ins 0 [(tupD p1)])]) (l2 := [.dat (D.ins 0 [(tupD p0)]), .dat (D.ins 0 [(tupD p1)])]) (r1 := (R.val (tupD p0))) (r2 := (R.val (tupD p1))) (d := (tupD p0)) (d' := (tupD p1)) (r := (R.val (D.bl ((eqLs eqI) p0 p1)))) (Y.e_fld (k := 0) (n := 0) (fs := [(tupD p0)]) (d := (tupD p0)) (X.e_r0 rfl) rfl rfl) (Y.e_fld (k := 0) (n := 0) (fs := [(tupD p1)]) (d := (tupD p1)) (X.e_r0 rfl) rfl rfl) rfl rfl (p_eq (F := tupD) (eqe_tup eqe_int) p0 p1)))) (Y.ends_rt rfl)
/-! Turning.columns -/
def m14 (p0 : (List Int)) : Option Int := some ((List.length p0 : Nat) : Int)
theorem a14 {m : Nat} {p0 : (List Int)} {r : Int} (h : m14 p0 = some r) : callN Gd tb 40 (m + 1) 14 [.dat (D.ins 0 [(tupD p0)])] = some ((R.val (D.int r)), [.dat (D.ins 0 [(tupD p0)])]) := by
  unfold m14 at h
  refine Y.call_of (d := f14) (l0 := [.dat (D.ins 0 [(tupD p0)])]) rfl rfl rfl rfl ?_
  have hz := Option.some.inj h
  subst hz
  exact Y.k_rt (Y.s_retV (X.e_o1 (o := .len) (l1 := [.dat (D.ins 0 [(tupD p0)])]) (r := (R.val (tupD p0))) (d := (tupD p0)) (r' := (R.val (D.int ((List.length p0 : Nat) : Int)))) (Y.e_fld (k := 0) (n := 0) (fs := [(tupD p0)]) (d := (tupD p0)) (X.e_r0 rfl) rfl rfl) rfl (p_lenT D.int p0))) (Y.ends_rt rfl)
/-! Turning.rows -/
def m15 (p0 : (List Int)) : Option Int := bnd (Y.sumRT (((List.length p0 : Nat) : Int) + 1)) fun v1 => bnd (fdivT ((sumI p0) - v1) ((List.length p0 : Nat) : Int)) fun v2 => some v2
theorem a15 {m : Nat} {p0 : (List Int)} {r : Int} (h : m15 p0 = some r) : callN Gd tb 40 (m + 1) 15 [.dat (D.ins 0 [(tupD p0)])] = some ((R.val (D.int r)), [.dat (D.ins 0 [(tupD p0)])]) := by
  unfold m15 at h
  refine Y.call_of (d := f15) (l0 := [.dat (D.ins 0 [(tupD p0)])]) rfl rfl rfl rfl ?_
  obtain ⟨v1, h1, h⟩ := bnd_some h
  obtain ⟨v2, h2, h⟩ := bnd_some h
  have hz := Option.some.inj h
  subst hz
  exact Y.k_rt (Y.s_retV (X.e_o2 (o := .fdiv) (l1 := [.dat (D.ins 0 [(tupD p0)])]) (l2 := [.dat (D.ins 0 [(tupD p0)])]) (r1 := (R.val (D.int ((sumI p0) - v1)))) (r2 := (R.val (D.int ((List.length p0 : Nat) : Int)))) (d := (D.int ((sumI p0) - v1))) (d' := (D.int ((List.length p0 : Nat) : Int))) (r := (R.val (D.int v2))) (X.e_o2 (o := .sub) (l1 := [.dat (D.ins 0 [(tupD p0)])]) (l2 := [.dat (D.ins 0 [(tupD p0)])]) (r1 := (R.val (D.int (sumI p0)))) (r2 := (R.val (D.int v1))) (d := (D.int (sumI p0))) (d' := (D.int v1)) (r := (R.val (D.int ((sumI p0) - v1)))) (X.e_o1 (o := .sum) (l1 := [.dat (D.ins 0 [(tupD p0)])]) (r := (R.val (tupD p0))) (d := (tupD p0)) (r' := (R.val (D.int (sumI p0)))) (Y.e_fld (k := 0) (n := 0) (fs := [(tupD p0)]) (d := (tupD p0)) (X.e_r0 rfl) rfl rfl) rfl (p_sumT p0)) (Y.e_sumR (n := (((List.length p0 : Nat) : Int) + 1)) (X.e_o2 (o := .add) (l1 := [.dat (D.ins 0 [(tupD p0)])]) (l2 := [.dat (D.ins 0 [(tupD p0)])]) (r1 := (R.val (D.int ((List.length p0 : Nat) : Int)))) (r2 := (R.val (D.int 1))) (d := (D.int ((List.length p0 : Nat) : Int))) (d' := (D.int 1)) (r := (R.val (D.int (((List.length p0 : Nat) : Int) + 1)))) (X.e_o1 (o := .len) (l1 := [.dat (D.ins 0 [(tupD p0)])]) (r := (R.val (tupD p0))) (d := (tupD p0)) (r' := (R.val (D.int ((List.length p0 : Nat) : Int)))) (Y.e_fld (k := 0) (n := 0) (fs := [(tupD p0)]) (d := (tupD p0)) (X.e_r0 rfl) rfl rfl) rfl (p_lenT D.int p0)) X.e_k rfl rfl rfl) h1) rfl rfl rfl) (X.e_o1 (o := .len) (l1 := [.dat (D.ins 0 [(tupD p0)])]) (r := (R.val (tupD p0))) (d := (tupD p0)) (r' := (R.val (D.int ((List.length p0 : Nat) : Int)))) (Y.e_fld (k := 0) (n := 0) (fs := [(tupD p0)]) (d := (tupD p0)) (X.e_r0 rfl) rfl rfl) rfl (p_lenT D.int p0)) rfl rfl (p_fdiv h2))) (Y.ends_rt rfl)
/-! check_like -/
def m16 (p0 : (List Int)) (p1 : (List Int)) : Option Unit := bnd (m14 (p0)) fun v1 => bnd (m14 (p1)) fun v2 => cond (!eqI v1 v2) (none) (bnd (m15 (p0)) fun v3 => bnd (m15 (p1)) fun v4 => cond (!eqI v3 v4) (none) (some ()))
theorem a16 {m : Nat} {p0 : (List Int)} {p1 : (List Int)} {r : Unit} (h : m16 p0 p1 = some r) : callN Gd tb 40 (m + 2) 16 [.dat (D.ins 0 [(tupD p0)]), .dat (D.ins 0 [(tupD p1)])] = some ((R.val D.non), [.dat (D.ins 0 [(tupD p0)]), .dat (D.ins 0 [(tupD p1)])]) := by
  unfold m16 at h
  refine Y.call_of (d := f16) (l0 := [.dat (D.ins 0 [(tupD p0)]), .dat (D.ins 0 [(tupD p1)])]) rfl rfl rfl rfl ?_
  obtain ⟨v1, h1, h⟩ := bnd_some h
  obtain ⟨v2, h2, h⟩ := bnd_some h
  rcases cond_some h with ⟨hc, h⟩ | ⟨hc, h⟩
  · refine Y.k_T (Y.t_b (X.e_o2 (o := .ne) (l1 := [.dat (D.ins 0 [(tupD p0)]), .dat (D.ins 0 [(tupD p1)])]) (l2 := [.dat (D.ins 0 [(tupD p0)]), .dat (D.ins 0 [(tupD p1)])]) (r1 := (R.val (D.int v1))) (r2 := (R.val (D.int v2))) (d := (D.int v1)) (d' := (D.int v2)) (r := (R.val (D.bl (!eqI v1 v2)))) (Y.e_meth (k := 0) (fn := 14) (fs := [(tupD p0)]) (rs := []) (l1 := [.dat (D.ins 0 [(tupD p0)]), .dat (D.ins 0 [(tupD p1)])]) (l2 := [.dat (D.ins 0 [(tupD p0)]), .dat (D.ins 0 [(tupD p1)])]) (r := (R.val (D.int v1))) (X.e_r0 rfl) rfl X.es_nil (Y.do_val (ds := [(D.ins 0 [(tupD p0)])]) (a14 (m := m + 0) h1))) (Y.e_meth (k := 0) (fn := 14) (fs := [(tupD p1)]) (rs := []) (l1 := [.dat (D.ins 0 [(tupD p0)]), .dat (D.ins 0 [(tupD p1)])]) (l2 := [.dat (D.ins 0 [(tupD p0)]), .dat (D.ins 0 [(tupD p1)])]) (r := (R.val (D.int v2))) (X.e_r0 rfl) rfl X.es_nil (Y.do_val (ds := [(D.ins 0 [(tupD p1)])]) (a14 (m := m + 0) h2))) rfl rfl (p_ne (F := D.int) eqe_int v1 v2))) hc ?_
    cases h
  · refine Y.k_F (Y.t_b (X.e_o2 (o := .ne) (l1 := [.dat (D.ins 0 [(tupD p0)]), .dat (D.ins 0 [(tupD p1)])]) (l2 := [.dat (D.ins 0 [(tupD p0)]), .dat (D.ins 0 [(tupD p1)])]) (r1 := (R.val (D.int v1))) (r2 := (R.val (D.int v2))) (d := (D.int v1)) (d' := (D.int v2)) (r := (R.val (D.bl (!eqI v1 v2)))) (Y.e_meth (k := 0) (fn := 14) (fs := [(tupD p0)]) (rs := []) (l1 := [.dat (D.ins 0 [(tupD p0)]), .dat (D.ins 0 [(tupD p1)])]) (l2 := [.dat (D.ins 0 [(tupD p0)]), .dat (D.ins 0 [(tupD p1)])]) (r := (R.val (D.int v1))) (X.e_r0 rfl) rfl X.es_nil (Y.do_val (ds := [(D.ins 0 [(tupD p0)])]) (a14 (m := m + 0) h1))) (Y.e_meth (k := 0) (fn := 14) (fs := [(tupD p1)]) (rs := []) (l1 := [.dat (D.ins 0 [(tupD p0)]), .dat (D.ins 0 [(tupD p1)])]) (l2 := [.dat (D.ins 0 [(tupD p0)]), .dat (D.ins 0 [(tupD p1)])]) (r := (R.val (D.int v2))) (X.e_r0 rfl) rfl X.es_nil (Y.do_val (ds := [(D.ins 0 [(tupD p1)])]) (a14 (m := m + 0) h2))) rfl rfl (p_ne (F := D.int) eqe_int v1 v2))) hc ?_
    refine Y.k_nil ?_
    obtain ⟨v3, h3, h⟩ := bnd_some h
    obtain ⟨v4, h4, h⟩ := bnd_some h
    rcases cond_some h with ⟨hc, h⟩ | ⟨hc, h⟩
    · refine Y.k_T (Y.t_b (X.e_o2 (o := .ne) (l1 := [.dat (D.ins 0 [(tupD p0)]), .dat (D.ins 0 [(tupD p1)])]) (l2 := [.dat (D.ins 0 [(tupD p0)]), .dat (D.ins 0 [(tupD p1)])]) (r1 := (R.val (D.int v3))) (r2 := (R.val (D.int v4))) (d := (D.int v3)) (d' := (D.int v4)) (r := (R.val (D.bl (!eqI v3 v4)))) (Y.e_meth (k := 0) (fn := 15) (fs := [(tupD p0)]) (rs := []) (l1 := [.dat (D.ins 0 [(tupD p0)]), .dat (D.ins 0 [(tupD p1)])]) (l2 := [.dat (D.ins 0 [(tupD p0)]), .dat (D.ins 0 [(tupD p1)])]) (r := (R.val (D.int v3))) (X.e_r0 rfl) rfl X.es_nil (Y.do_val (ds := [(D.ins 0 [(tupD p0)])]) (a15 (m := m + 0) h3))) (Y.e_meth (k := 0) (fn := 15) (fs := [(tupD p1)]) (rs := []) (l1 := [.dat (D.ins 0 [(tupD p0)]), .dat (D.ins 0 [(tupD p1)])]) (l2 := [.dat (D.ins 0 [(tupD p0)]), .dat (D.ins 0 [(tupD p1)])]) (r := (R.val (D.int v4))) (X.e_r0 rfl) rfl X.es_nil (Y.do_val (ds := [(D.ins 0 [(tupD p1)])]) (a15 (m := m + 0) h4))) rfl rfl (p_ne (F := D.int) eqe_int v3 v4))) hc ?_
      cases h
    · refine Y.k_F (Y.t_b (X.e_o2 (o := .ne) (l1 := [.dat (D.ins 0 [(tupD p0)]), .dat (D.ins 0 [(tupD p1)])]) (l2 := [.dat (D.ins 0 [(tupD p0)]), .dat (D.ins 0 [(tupD p1)])]) (r1 := (R.val (D.int v3))) (r2 := (R.val (D.int v4))) (d := (D.int v3)) (d' := (D.int v4)) (r := (R.val (D.bl (!eqI v3 v4)))) (Y.e_meth (k := 0) (fn := 15) (fs := [(tupD p0)]) (rs := []) (l1 := [.dat (D.ins 0 [(tupD p0)]), .dat (D.ins 0 [(tupD p1)])]) (l2 := [.dat (D.ins 0 [(tupD p0)]), .dat (D.ins 0 [(tupD p1)])]) (r := (R.val (D.int v3))) (X.e_r0 rfl) rfl X.es_nil (Y.do_val (ds := [(D.ins 0 [(tupD p0)])]) (a15 (m := m + 0) h3))) (Y.e_meth (k := 0) (fn := 15) (fs := [(tupD p1)]) (rs := []) (l1 := [.dat (D.ins 0 [(tupD p0)]), .dat (D.ins 0 [(tupD p1)])]) (l2 := [.dat (D.ins 0 [(tupD p0)]), .dat (D.ins 0 [(tupD p1)])]) (r := (R.val (D.int v4))) (X.e_r0 rfl) rfl X.es_nil (Y.do_val (ds := [(D.ins 0 [(tupD p1)])]) (a15 (m := m + 0) h4))) rfl rfl (p_ne (F := D.int) eqe_int v3 v4))) hc ?_
      refine Y.k_nil ?_
      refine Y.k_nil ?_
      refine Y.k_end ?_
      have hz := Option.some.inj h
      subst hz
      exact Y.ends_nx rfl
/-! every -/
def m17 (p0 : Int) (p1 : Int) : Option (List (List Int)) := bnd (rng1T p1) fun v1 => bnd (Y.foldT (fun (s1 : (List (List Int))) (x2 : Int) => bnd (Y.lc2F (fun v4 : (List Int) => bnd (rng2T ((mxT true 0 v4) + 1) (p0 + 1)) fun v5 => bnd (lcG (fun v6 : Int => bnd (addL v4 [v6]) fun v7 => some (some v7)) v5) fun v8 => some (some v8)) s1) fun v9 => some v9) [[]] v1) fun v10 => some v10
theorem a17 {m : Nat} {p0 : Int} {p1 : Int} {r : (List (List Int))} (h : m17 p0 p1 = some r) : callN Gd tb 40 (m + 1) 17 [.dat (D.int p0), .dat (D.int p1)] = some ((R.val (D.lst (List.map tupD r))), [.dat (D.int p0), .dat (D.int p1)]) := by
  unfold m17 at h
  refine Y.call_of (d := f17) (l0 := [.dat (D.int p0), .dat (D.int p1), .none, .none, .none, .none]) rfl rfl rfl rfl ?_
  refine Y.k_nx (l1 := [.dat (D.int p0), .dat (D.int p1), .dat (D.lst (List.map tupD [[]])), .none, .none, .none]) (Y.s_set (r := (R.new (List.map (fun x : (List D) => (D.tup x)) [[]]))) (l1 := [.dat (D.int p0), .dat (D.int p1), .none, .none, .none, .none]) (d := (D.lst (List.map tupD [[]]))) (X.e_lst (ds := [(D.tup [])]) (X.es_cons (r := (R.val (D.tup []))) (l1 := [.dat (D.int p0), .dat (D.int p1), .none, .none, .none, .none]) (X.e_tup X.es_nil rfl) X.es_nil) rfl) rfl rfl) ?_
  obtain ⟨v1, h1, h⟩ := bnd_some h
  refine Y.k_fold (L := (fun s1 : (List (List Int)) => [.dat (D.int p0), .dat (D.int p1), .dat (D.lst (List.map tupD s1)), .none, .none, .none])) (g := D.int) (s0 := [[]]) (xs := v1) (Y.i_rng1 (n := p1) (X.e_r0 rfl) h1) rfl h ?_ ?_
  · intro s1 x2 o h
    try dsimp only at h
    refine ⟨[.dat (D.int p0), .dat (D.int p1), .dat (D.lst (List.map tupD s1)), .dat (D.int x2), .none, .none], rfl, ?_⟩
    obtain ⟨v9, h5, h⟩ := bnd_some h
    have q5 : ev Gd (callN Gd tb 40 (m + 0)) (.lc2 [4, 5] (.v 4) (.seq (.r 2)) [] [5] (.v 5) (.rng2 (.o2 .add (.mxD true (.r 4) (.c (.int 0))) (.c (.int 1))) (.o2 .add (.r 0) (.c (.int 1)))) [] (.o2 .add (.r 4) (.tup [.r 5]))) [.dat (D.int p0), .dat (D.int p1), .dat (D.lst (List.map tupD s1)), .dat (D.int x2), .none, .none] = some ((R.new (List.map tupD v9)), [.dat (D.int p0), .dat (D.int p1), .dat (D.lst (List.map tupD s1)), .dat (D.int x2), .none, .none]) := Y.e_lc2F (w := [.dat (D.int p0), .dat (D.int p1), .dat (D.lst (List.map tupD s1)), .dat (D.int x2), .none, .none]) (ga := tupD) (gc := tupD) (X.i_seq (r := (R.val (D.lst (List.map tupD s1)))) (X.e_r0 rfl) rfl) rfl rfl h5 (by
        intro v4 o h
        try dsimp only at h
        obtain ⟨v5, h2, h⟩ := bnd_some h
        obtain ⟨v8, h4, h⟩ := bnd_some h
        have hz := Option.some.inj h
        subst hz
        obtain ⟨z1, z2⟩ := Y.lcG_run (own := [5]) (p := .v 5) (cond := evC Gd (callN Gd tb 40 (m + 0)) []) (elt := ev Gd (callN Gd tb 40 (m + 0)) (.o2 .add (.r 4) (.tup [.r 5]))) (w := [.dat (D.int p0), .dat (D.int p1), .dat (D.lst (List.map tupD s1)), .dat (D.int x2), .dat (tupD v4), .none]) (ga := D.int) (gb := tupD) h4 (by
            intro v6 o h
            try dsimp only at h
            obtain ⟨v7, h3, h⟩ := bnd_some h
            have hz := Option.some.inj h
            subst hz
            exact ⟨[.dat (D.int p0), .dat (D.int p1), .dat (D.lst (List.map tupD s1)), .dat (D.int x2), .dat (tupD v4), .dat (D.int v6)], [.dat (D.int p0), .dat (D.int p1), .dat (D.lst (List.map tupD s1)), .dat (D.int x2), .dat (tupD v4), .dat (D.int v6)], rfl, Y.c_nil, (R.val (tupD v7)), [.dat (D.int p0), .dat (D.int p1), .dat (D.lst (List.map tupD s1)), .dat (D.int x2), .dat (tupD v4), .dat (D.int v6)], (X.e_o2 (o := .add) (l1 := [.dat (D.int p0), .dat (D.int p1), .dat (D.lst (List.map tupD s1)), .dat (D.int x2), .dat (tupD v4), .dat (D.int v6)]) (l2 := [.dat (D.int p0), .dat (D.int p1), .dat (D.lst (List.map tupD s1)), .dat (D.int x2), .dat (tupD v4), .dat (D.int v6)]) (r1 := (R.val (tupD v4))) (r2 := (R.val (tupD [v6]))) (d := (tupD v4)) (d' := (tupD [v6])) (r := (R.val (tupD v7))) (X.e_r0 rfl) (X.e_tup (X.es_cons (r := (R.val (D.int v6))) (l1 := [.dat (D.int p0), .dat (D.int p1), .dat (D.lst (List.map tupD s1)), .dat (D.int x2), .dat (tupD v4), .dat (D.int v6)]) (X.e_r0 rfl) X.es_nil) rfl) rfl rfl (p_addT (F := D.int) h3)), rfl, rfl⟩)
        exact ⟨[.dat (D.int p0), .dat (D.int p1), .dat (D.lst (List.map tupD s1)), .dat (D.int x2), .dat (tupD v4), .none], [.dat (D.int p0), .dat (D.int p1), .dat (D.lst (List.map tupD s1)), .dat (D.int x2), .dat (tupD v4), .none], rfl, Y.c_nil, _, [.dat (D.int p0), .dat (D.int p1), .dat (D.lst (List.map tupD s1)), .dat (D.int x2), .dat (tupD v4), .none], [.dat (D.int p0), .dat (D.int p1), .dat (D.lst (List.map tupD s1)), .dat (D.int x2), .dat (tupD v4), .none], (Y.i_rng2 (m := ((mxT true 0 v4) + 1)) (n := (p0 + 1)) (l1 := [.dat (D.int p0), .dat (D.int p1), .dat (D.lst (List.map tupD s1)), .dat (D.int x2), .dat (tupD v4), .none]) (X.e_o2 (o := .add) (l1 := [.dat (D.int p0), .dat (D.int p1), .dat (D.lst (List.map tupD s1)), .dat (D.int x2), .dat (tupD v4), .none]) (l2 := [.dat (D.int p0), .dat (D.int p1), .dat (D.lst (List.map tupD s1)), .dat (D.int x2), .dat (tupD v4), .none]) (r1 := (R.val (D.int (mxT true 0 v4)))) (r2 := (R.val (D.int 1))) (d := (D.int (mxT true 0 v4))) (d' := (D.int 1)) (r := (R.val (D.int ((mxT true 0 v4) + 1)))) (Y.e_mxD (xs := v4) (n := 0) (ra := (R.val (tupD v4))) (l1 := [.dat (D.int p0), .dat (D.int p1), .dat (D.lst (List.map tupD s1)), .dat (D.int x2), .dat (tupD v4), .none]) (d := (tupD v4)) (X.e_r0 rfl) X.e_k rfl (seqInts_tup v4)) X.e_k rfl rfl rfl) (X.e_o2 (o := .add) (l1 := [.dat (D.int p0), .dat (D.int p1), .dat (D.lst (List.map tupD s1)), .dat (D.int x2), .dat (tupD v4), .none]) (l2 := [.dat (D.int p0), .dat (D.int p1), .dat (D.lst (List.map tupD s1)), .dat (D.int x2), .dat (tupD v4), .none]) (r1 := (R.val (D.int p0))) (r2 := (R.val (D.int 1))) (d := (D.int p0)) (d' := (D.int 1)) (r := (R.val (D.int (p0 + 1)))) (X.e_r0 rfl) X.e_k rfl rfl rfl) h2), rfl, z1, z2, rfl⟩) rfl
    refine Y.k_nx (l1 := [.dat (D.int p0), .dat (D.int p1), .dat (D.lst (List.map tupD v9)), .dat (D.int x2), .none, .none]) (Y.s_set (r := (R.new (List.map tupD v9))) (l1 := [.dat (D.int p0), .dat (D.int p1), .dat (D.lst (List.map tupD s1)), .dat (D.int x2), .none, .none]) (d := (D.lst (List.map tupD v9))) q5 rfl rfl) ?_
    refine Y.k_nx (l1 := [.dat (D.int p0), .dat (D.int p1), .dat (D.lst (List.map tupD v9)), .none, .none, .none]) (Y.s_forget rfl rfl) ?_
    refine Y.k_nil ?_
    refine Y.k_end ?_
    have hz := Option.some.inj h
    subst hz
    exact .inl rfl
  · intro v10 h
    try dsimp only at h
    have hz := Option.some.inj h
    subst hz
    exact Y.k_rt (Y.s_retV (X.e_r0 rfl)) (Y.ends_rt rfl)
/-! steps_from -/
def m18 (p0 : (List Int)) (p1 : Int) (p2 : Int) : Option (List Int) := bnd (lcG (fun v1 : Int => bnd (modT (v1 - p1) p2) fun v2 => some (some v2)) p0) fun v3 => some (sortI v3)
theorem a18 {m : Nat} {p0 : (List Int)} {p1 : Int} {p2 : Int} {r : (List Int)} (h : m18 p0 p1 p2 = some r) : callN Gd tb 40 (m + 1) 18 [.dat (tupD p0), .dat (D.int p1), .dat (D.int p2)] = some ((R.new (List.map D.int r)), [.dat (tupD p0), .dat (D.int p1), .dat (D.int p2)]) := by
  unfold m18 at h
  refine Y.call_of (d := f18) (l0 := [.dat (tupD p0), .dat (D.int p1), .dat (D.int p2), .none]) rfl rfl rfl rfl ?_
  obtain ⟨v3, h2, h⟩ := bnd_some h
  have q2 : ev Gd (callN Gd tb 40 (m + 0)) (.lc [3] (.v 3) (.tpl (.r 0)) [] (.o2 .mod (.o2 .sub (.r 3) (.r 1)) (.r 2))) [.dat (tupD p0), .dat (D.int p1), .dat (D.int p2), .none] = some ((R.new (List.map D.int v3)), [.dat (tupD p0), .dat (D.int p1), .dat (D.int p2), .none]) := Y.e_lc (w := [.dat (tupD p0), .dat (D.int p1), .dat (D.int p2), .none]) (ga := D.int) (gb := D.int) (X.i_tpl (r := (R.val (tupD p0))) (X.e_r0 rfl) rfl) rfl rfl h2 (by
      intro v1 o h
      try dsimp only at h
      obtain ⟨v2, h1, h⟩ := bnd_some h
      have hz := Option.some.inj h
      subst hz
      exact ⟨[.dat (tupD p0), .dat (D.int p1), .dat (D.int p2), .dat (D.int v1)], [.dat (tupD p0), .dat (D.int p1), .dat (D.int p2), .dat (D.int v1)], rfl, Y.c_nil, (R.val (D.int v2)), [.dat (tupD p0), .dat (D.int p1), .dat (D.int p2), .dat (D.int v1)], (X.e_o2 (o := .mod) (l1 := [.dat (tupD p0), .dat (D.int p1), .dat (D.int p2), .dat (D.int v1)]) (l2 := [.dat (tupD p0), .dat (D.int p1), .dat (D.int p2), .dat (D.int v1)]) (r1 := (R.val (D.int (v1 - p1)))) (r2 := (R.val (D.int p2))) (d := (D.int (v1 - p1))) (d' := (D.int p2)) (r := (R.val (D.int v2))) (X.e_o2 (o := .sub) (l1 := [.dat (tupD p0), .dat (D.int p1), .dat (D.int p2), .dat (D.int v1)]) (l2 := [.dat (tupD p0), .dat (D.int p1), .dat (D.int p2), .dat (D.int v1)]) (r1 := (R.val (D.int v1))) (r2 := (R.val (D.int p1))) (d := (D.int v1)) (d' := (D.int p1)) (r := (R.val (D.int (v1 - p1)))) (X.e_r0 rfl) (X.e_r0 rfl) rfl rfl rfl) (X.e_r0 rfl) rfl rfl (p_mod h1)), rfl, rfl⟩) rfl
  have hz := Option.some.inj h
  subst hz
  exact Y.k_rt (Y.s_retL (X.e_o1 (o := .sorted) (l1 := [.dat (tupD p0), .dat (D.int p1), .dat (D.int p2), .none]) (r := (R.new (List.map D.int v3))) (d := (D.lst (List.map D.int v3))) (r' := (R.new (List.map D.int (sortI v3)))) q2 rfl (p_sortI v3))) (Y.ends_rt rfl)
/-! no_less -/
def m19 (p0 : (List Int)) (p1 : (List Int)) (p2 : Int) (p3 : Int) : Option Bool := bnd (m18 (p0) (p2) (p3)) fun v1 => bnd (m18 (p1) (p2) (p3)) fun v2 => bnd (lcG (fun v3 : (Int × Int) => some (some (leI v3.2 v3.1))) (List.zip v1 v2)) fun v4 => some (List.all v4 id)
theorem a19 {m : Nat} {p0 : (List Int)} {p1 : (List Int)} {p2 : Int} {p3 : Int} {r : Bool} (h : m19 p0 p1 p2 p3 = some r) : callN Gd tb 40 (m + 2) 19 [.dat (tupD p0), .dat (tupD p1), .dat (D.int p2), .dat (D.int p3)] = some ((R.val (D.bl r)), [.dat (tupD p0), .dat (tupD p1), .dat (D.int p2), .dat (D.int p3)]) := by
  unfold m19 at h
  refine Y.call_of (d := f19) (l0 := [.dat (tupD p0), .dat (tupD p1), .dat (D.int p2), .dat (D.int p3), .none, .none, .none, .none]) rfl rfl rfl rfl ?_
  obtain ⟨v1, h1, h⟩ := bnd_some h
  obtain ⟨v2, h2, h⟩ := bnd_some h
  refine Y.k_nx (l1 := [.dat (tupD p0), .dat (tupD p1), .dat (D.int p2), .dat (D.int p3), .dat (lstD v1), .dat (lstD v2), .none, .none]) (Y.s_par (l1 := [.dat (tupD p0), .dat (tupD p1), .dat (D.int p2), .dat (D.int p3), .none, .none, .none, .none]) (l2 := [.dat (tupD p0), .dat (tupD p1), .dat (D.int p2), .dat (D.int p3), .none, .none, .none, .none]) (ra := (R.new (List.map D.int v1))) (rb := (R.new (List.map D.int v2))) (d := (D.lst (List.map D.int v1))) (d1 := (D.lst (List.map D.int v2))) (Y.e_call (rs := [(R.val (tupD p0)), (R.val (D.int p2)), (R.val (D.int p3))]) (l1 := [.dat (tupD p0), .dat (tupD p1), .dat (D.int p2), .dat (D.int p3), .none, .none, .none, .none]) (r := (R.new (List.map D.int v1))) (X.es_cons (r := (R.val (tupD p0))) (l1 := [.dat (tupD p0), .dat (tupD p1), .dat (D.int p2), .dat (D.int p3), .none, .none, .none, .none]) (X.e_r0 rfl) (X.es_cons (r := (R.val (D.int p2))) (l1 := [.dat (tupD p0), .dat (tupD p1), .dat (D.int p2), .dat (D.int p3), .none, .none, .none, .none]) (X.e_r0 rfl) (X.es_cons (r := (R.val (D.int p3))) (l1 := [.dat (tupD p0), .dat (tupD p1), .dat (D.int p2), .dat (D.int p3), .none, .none, .none, .none]) (X.e_r0 rfl) X.es_nil))) (Y.do_val (ds := [(tupD p0), (D.int p2), (D.int p3)]) (a18 (m := m + 0) h1))) (Y.e_call (rs := [(R.val (tupD p1)), (R.val (D.int p2)), (R.val (D.int p3))]) (l1 := [.dat (tupD p0), .dat (tupD p1), .dat (D.int p2), .dat (D.int p3), .none, .none, .none, .none]) (r := (R.new (List.map D.int v2))) (X.es_cons (r := (R.val (tupD p1))) (l1 := [.dat (tupD p0), .dat (tupD p1), .dat (D.int p2), .dat (D.int p3), .none, .none, .none, .none]) (X.e_r0 rfl) (X.es_cons (r := (R.val (D.int p2))) (l1 := [.dat (tupD p0), .dat (tupD p1), .dat (D.int p2), .dat (D.int p3), .none, .none, .none, .none]) (X.e_r0 rfl) (X.es_cons (r := (R.val (D.int p3))) (l1 := [.dat (tupD p0), .dat (tupD p1), .dat (D.int p2), .dat (D.int p3), .none, .none, .none, .none]) (X.e_r0 rfl) X.es_nil))) (Y.do_val (ds := [(tupD p1), (D.int p2), (D.int p3)]) (a18 (m := m + 0) h2))) rfl rfl rfl rfl) ?_
  obtain ⟨v4, h3, h⟩ := bnd_some h
  have q3 : ev Gd (callN Gd tb 40 (m + 1)) (.lc [6, 7] (.tup [6, 7]) (.zip (.r 4) (.r 5)) [] (.o2 .ge (.r 6) (.r 7))) [.dat (tupD p0), .dat (tupD p1), .dat (D.int p2), .dat (D.int p3), .dat (lstD v1), .dat (lstD v2), .none, .none] = some ((R.new (List.map D.bl v4)), [.dat (tupD p0), .dat (tupD p1), .dat (D.int p2), .dat (D.int p3), .dat (lstD v1), .dat (lstD v2), .none, .none]) := Y.e_lc (w := [.dat (tupD p0), .dat (tupD p1), .dat (D.int p2), .dat (D.int p3), .dat (lstD v1), .dat (lstD v2), .none, .none]) (ga := (fun x : (Int × Int) => (D.tup [(D.int x.1), (D.int x.2)]))) (gb := D.bl) (Y.i_zipL (f := D.int) (k := D.int) (xs := v1) (ys := v2) (ra := (R.val (lstD v1))) (rb := (R.val (lstD v2))) (l1 := [.dat (tupD p0), .dat (tupD p1), .dat (D.int p2), .dat (D.int p3), .dat (lstD v1), .dat (lstD v2), .none, .none]) (X.e_r0 rfl) (X.e_r0 rfl) rfl rfl) rfl rfl h3 (by
      intro v3 o h
      try dsimp only at h
      have hz := Option.some.inj h
      subst hz
      exact ⟨[.dat (tupD p0), .dat (tupD p1), .dat (D.int p2), .dat (D.int p3), .dat (lstD v1), .dat (lstD v2), .dat (D.int v3.1), .dat (D.int v3.2)], [.dat (tupD p0), .dat (tupD p1), .dat (D.int p2), .dat (D.int p3), .dat (lstD v1), .dat (lstD v2), .dat (D.int v3.1), .dat (D.int v3.2)], rfl, Y.c_nil, (R.val (D.bl (leI v3.2 v3.1))), [.dat (tupD p0), .dat (tupD p1), .dat (D.int p2), .dat (D.int p3), .dat (lstD v1), .dat (lstD v2), .dat (D.int v3.1), .dat (D.int v3.2)], (X.e_o2 (o := .ge) (l1 := [.dat (tupD p0), .dat (tupD p1), .dat (D.int p2), .dat (D.int p3), .dat (lstD v1), .dat (lstD v2), .dat (D.int v3.1), .dat (D.int v3.2)]) (l2 := [.dat (tupD p0), .dat (tupD p1), .dat (D.int p2), .dat (D.int p3), .dat (lstD v1), .dat (lstD v2), .dat (D.int v3.1), .dat (D.int v3.2)]) (r1 := (R.val (D.int v3.1))) (r2 := (R.val (D.int v3.2))) (d := (D.int v3.1)) (d' := (D.int v3.2)) (r := (R.val (D.bl (leI v3.2 v3.1)))) (X.e_r0 rfl) (X.e_r0 rfl) rfl rfl (p_ge v3.1 v3.2)), rfl, rfl⟩) rfl
  have hz := Option.some.inj h
  subst hz
  exact Y.k_rt (Y.s_retV (X.e_o1 (o := .all) (l1 := [.dat (tupD p0), .dat (tupD p1), .dat (D.int p2), .dat (D.int p3), .dat (lstD v1), .dat (lstD v2), .none, .none]) (r := (R.new (List.map D.bl v4))) (d := (D.lst (List.map D.bl v4))) (r' := (R.val (D.bl (List.all v4 id)))) q3 rfl (p_all v4))) (Y.ends_rt rfl)
/-! spread -/
def m20 (p0 : Int) (p1 : (List (List Int))) : Option (List (List Int)) := bnd (ixT p1 0) fun v1 => bnd (m17 (p0) (((List.length v1 : Nat) : Int))) fun v2 => bnd (Y.foldT (fun (s2 : (List (List Int))) (x3 : (List Int)) => bnd (lcG (fun v5 : (Int × (List Int)) => bnd (m19 (x3) (v5.2) ((v5.1 + 1)) (p0)) fun v6 => some (some v6)) (enumI 0 p1)) fun v7 => cond (List.all v7 id) (bnd (appT s2 (x3)) fun v8 => some v8) (some s2)) [] v2) fun v9 => some v9
theorem a20 {m : Nat} {p0 : Int} {p1 : (List (List Int))} {r : (List (List Int))} (h : m20 p0 p1 = some r) : callN Gd tb 40 (m + 3) 20 [.dat (D.int p0), .dat (D.lst (List.map tupD p1))] = some ((R.val (D.lst (List.map tupD r))), [.dat (D.int p0), .dat (D.lst (List.map tupD p1))]) := by
  unfold m20 at h
  refine Y.call_of (d := f20) (l0 := [.dat (D.int p0), .dat (D.lst (List.map tupD p1)), .none, .none, .none, .none]) rfl rfl rfl rfl ?_
  refine Y.k_nx (l1 := [.dat (D.int p0), .dat (D.lst (List.map tupD p1)), .own false (List.map tupD []), .none, .none, .none]) (Y.s_own (l1 := [.dat (D.int p0), .dat (D.lst (List.map tupD p1)), .none, .none, .none, .none]) (ds := (List.map tupD [])) (X.e_lst (ds := []) X.es_nil rfl) rfl) ?_
  obtain ⟨v1, h1, h⟩ := bnd_some h
  obtain ⟨v2, h2, h⟩ := bnd_some h
  refine Y.k_fold (L := (fun s2 : (List (List Int)) => [.dat (D.int p0), .dat (D.lst (List.map tupD p1)), .own false (List.map tupD s2), .none, .none, .none])) (g := tupD) (s0 := []) (xs := v2) (X.i_seq (r := (R.val (D.lst (List.map tupD v2)))) (Y.e_call (rs := [(R.val (D.int p0)), (R.val (D.int ((List.length v1 : Nat) : Int)))]) (l1 := [.dat (D.int p0), .dat (D.lst (List.map tupD p1)), .own false (List.map tupD []), .none, .none, .none]) (r := (R.val (D.lst (List.map tupD v2)))) (X.es_cons (r := (R.val (D.int p0))) (l1 := [.dat (D.int p0), .dat (D.lst (List.map tupD p1)), .own false (List.map tupD []), .none, .none, .none]) (X.e_r0 rfl) (X.es_cons (r := (R.val (D.int ((List.length v1 : Nat) : Int)))) (l1 := [.dat (D.int p0), .dat (D.lst (List.map tupD p1)), .own false (List.map tupD []), .none, .none, .none]) (X.e_o1 (o := .len) (l1 := [.dat (D.int p0), .dat (D.lst (List.map tupD p1)), .own false (List.map tupD []), .none, .none, .none]) (r := (R.val (tupD v1))) (d := (tupD v1)) (r' := (R.val (D.int ((List.length v1 : Nat) : Int)))) (X.e_o2 (o := .ix) (l1 := [.dat (D.int p0), .dat (D.lst (List.map tupD p1)), .own false (List.map tupD []), .none, .none, .none]) (l2 := [.dat (D.int p0), .dat (D.lst (List.map tupD p1)), .own false (List.map tupD []), .none, .none, .none]) (r1 := (R.val (D.lst (List.map tupD p1)))) (r2 := (R.val (D.int 0))) (d := (D.lst (List.map tupD p1))) (d' := (D.int 0)) (r := (R.val (tupD v1))) (X.e_r0 rfl) X.e_k rfl rfl (p_ixL (F := tupD) h1)) rfl (p_lenT D.int v1)) X.es_nil)) (Y.do_val (ds := [(D.int p0), (D.int ((List.length v1 : Nat) : Int))]) (a17 (m := m + 1) h2))) rfl) rfl h ?_ ?_
  · intro s2 x3 o h
    try dsimp only at h
    refine ⟨[.dat (D.int p0), .dat (D.lst (List.map tupD p1)), .own false (List.map tupD s2), .dat (tupD x3), .none, .none], rfl, ?_⟩
    obtain ⟨v7, h4, h⟩ := bnd_some h
    have q4 : ev Gd (callN Gd tb 40 (m + 2)) (.lc [4, 5] (.tup [4, 5]) (.enum (.r 1)) [] (.callK 19 [.r 3, .r 5] [.o2 .add (.r 4) (.c (.int 1)), .r 0] [0, 1, 2, 3])) [.dat (D.int p0), .dat (D.lst (List.map tupD p1)), .own false (List.map tupD s2), .dat (tupD x3), .none, .none] = some ((R.new (List.map D.bl v7)), [.dat (D.int p0), .dat (D.lst (List.map tupD p1)), .own false (List.map tupD s2), .dat (tupD x3), .none, .none]) := Y.e_lc (w := [.dat (D.int p0), .dat (D.lst (List.map tupD p1)), .own false (List.map tupD s2), .dat (tupD x3), .none, .none]) (ga := (fun x : (Int × (List Int)) => (D.tup [(D.int x.1), (tupD x.2)]))) (gb := D.bl) (Y.i_enum (f := tupD) (xs := p1) (r := (R.val (D.lst (List.map tupD p1)))) (X.e_r0 rfl) rfl) rfl rfl h4 (by
        intro v5 o h
        try dsimp only at h
        obtain ⟨v6, h3, h⟩ := bnd_some h
        have hz := Option.some.inj h
        subst hz
        exact ⟨[.dat (D.int p0), .dat (D.lst (List.map tupD p1)), .own false (List.map tupD s2), .dat (tupD x3), .dat (D.int v5.1), .dat (tupD v5.2)], [.dat (D.int p0), .dat (D.lst (List.map tupD p1)), .own false (List.map tupD s2), .dat (tupD x3), .dat (D.int v5.1), .dat (tupD v5.2)], rfl, Y.c_nil, (R.val (D.bl v6)), [.dat (D.int p0), .dat (D.lst (List.map tupD p1)), .own false (List.map tupD s2), .dat (tupD x3), .dat (D.int v5.1), .dat (tupD v5.2)], (X.e_callK (rs := [(R.val (tupD x3)), (R.val (tupD v5.2))]) (zs := [(R.val (D.int (v5.1 + 1))), (R.val (D.int p0))]) (ts := [(R.val (tupD x3)), (R.val (tupD v5.2)), (R.val (D.int (v5.1 + 1))), (R.val (D.int p0))]) (l1 := [.dat (D.int p0), .dat (D.lst (List.map tupD p1)), .own false (List.map tupD s2), .dat (tupD x3), .dat (D.int v5.1), .dat (tupD v5.2)]) (l2 := [.dat (D.int p0), .dat (D.lst (List.map tupD p1)), .own false (List.map tupD s2), .dat (tupD x3), .dat (D.int v5.1), .dat (tupD v5.2)]) (r := (R.val (D.bl v6))) (X.es_cons (r := (R.val (tupD x3))) (l1 := [.dat (D.int p0), .dat (D.lst (List.map tupD p1)), .own false (List.map tupD s2), .dat (tupD x3), .dat (D.int v5.1), .dat (tupD v5.2)]) (X.e_r0 rfl) (X.es_cons (r := (R.val (tupD v5.2))) (l1 := [.dat (D.int p0), .dat (D.lst (List.map tupD p1)), .own false (List.map tupD s2), .dat (tupD x3), .dat (D.int v5.1), .dat (tupD v5.2)]) (X.e_r0 rfl) X.es_nil)) (X.es_cons (r := (R.val (D.int (v5.1 + 1)))) (l1 := [.dat (D.int p0), .dat (D.lst (List.map tupD p1)), .own false (List.map tupD s2), .dat (tupD x3), .dat (D.int v5.1), .dat (tupD v5.2)]) (X.e_o2 (o := .add) (l1 := [.dat (D.int p0), .dat (D.lst (List.map tupD p1)), .own false (List.map tupD s2), .dat (tupD x3), .dat (D.int v5.1), .dat (tupD v5.2)]) (l2 := [.dat (D.int p0), .dat (D.lst (List.map tupD p1)), .own false (List.map tupD s2), .dat (tupD x3), .dat (D.int v5.1), .dat (tupD v5.2)]) (r1 := (R.val (D.int v5.1))) (r2 := (R.val (D.int 1))) (d := (D.int v5.1)) (d' := (D.int 1)) (r := (R.val (D.int (v5.1 + 1)))) (X.e_r0 rfl) X.e_k rfl rfl rfl) (X.es_cons (r := (R.val (D.int p0))) (l1 := [.dat (D.int p0), .dat (D.lst (List.map tupD p1)), .own false (List.map tupD s2), .dat (tupD x3), .dat (D.int v5.1), .dat (tupD v5.2)]) (X.e_r0 rfl) X.es_nil)) rfl (Y.do_val (ds := [(tupD x3), (tupD v5.2), (D.int (v5.1 + 1)), (D.int p0)]) (a19 (m := m + 0) h3))), rfl, rfl⟩) rfl
    rcases cond_some h with ⟨hc, h⟩ | ⟨hc, h⟩
    · refine Y.k_T (Y.t_b (X.e_o1 (o := .all) (l1 := [.dat (D.int p0), .dat (D.lst (List.map tupD p1)), .own false (List.map tupD s2), .dat (tupD x3), .none, .none]) (r := (R.new (List.map D.bl v7))) (d := (D.lst (List.map D.bl v7))) (r' := (R.val (D.bl (List.all v7 id)))) q4 rfl (p_all v7))) hc ?_
      obtain ⟨v8, h5, h⟩ := bnd_some h
      refine Y.k_nx (l1 := [.dat (D.int p0), .dat (D.lst (List.map tupD p1)), .own false (List.map tupD v8), .dat (tupD x3), .none, .none]) (Y.s_ex (r := (R.val D.non)) (Y.e_app (f := tupD) (b' := false) (xs := s2) (ys := s2) (v := x3) (r := (R.val (tupD x3))) (l1 := [.dat (D.int p0), .dat (D.lst (List.map tupD p1)), .own false (List.map tupD s2), .dat (tupD x3), .none, .none]) rfl (X.e_r0 rfl) rfl rfl h5)) ?_
      refine Y.k_nil ?_
      refine Y.k_nx (l1 := [.dat (D.int p0), .dat (D.lst (List.map tupD p1)), .own false (List.map tupD v8), .none, .none, .none]) (Y.s_forget rfl rfl) ?_
      refine Y.k_nil ?_
      refine Y.k_end ?_
      have hz := Option.some.inj h
      subst hz
      exact .inl rfl
    · refine Y.k_F (Y.t_b (X.e_o1 (o := .all) (l1 := [.dat (D.int p0), .dat (D.lst (List.map tupD p1)), .own false (List.map tupD s2), .dat (tupD x3), .none, .none]) (r := (R.new (List.map D.bl v7))) (d := (D.lst (List.map D.bl v7))) (r' := (R.val (D.bl (List.all v7 id)))) q4 rfl (p_all v7))) hc ?_
      refine Y.k_nil ?_
      refine Y.k_nx (l1 := [.dat (D.int p0), .dat (D.lst (List.map tupD p1)), .own false (List.map tupD s2), .none, .none, .none]) (Y.s_forget rfl rfl) ?_
      refine Y.k_nil ?_
      refine Y.k_end ?_
      have hz := Option.some.inj h
      subst hz
      exact .inl rfl
  · intro v9 h
    try dsimp only at h
    have hz := Option.some.inj h
    subst hz
    exact Y.k_rt (Y.s_retV (Y.e_fzO rfl)) (Y.ends_rt rfl)
/-! Turning.end -/
def m21 (p0 : (List Int)) (p1 : Int) : Option Int := bnd (modT (p1 - 1) ((List.length p0 : Nat) : Int)) fun v1 => bnd (ixT p0 v1) fun v2 => bnd (fdivT (p1 - 1) ((List.length p0 : Nat) : Int)) fun v3 => bnd (mulT v3 ((List.length p0 : Nat) : Int)) fun v4 => some (v2 + v4)
theorem a21 {m : Nat} {p0 : (List Int)} {p1 : Int} {r : Int} (h : m21 p0 p1 = some r) : callN Gd tb 40 (m + 1) 21 [.dat (D.ins 0 [(tupD p0)]), .dat (D.int p1)] = some ((R.val (D.int r)), [.dat (D.ins 0 [(tupD p0)]), .dat (D.int p1)]) := by
  unfold m21 at h
  refine Y.call_of (d := f21) (l0 := [.dat (D.ins 0 [(tupD p0)]), .dat (D.int p1), .none]) rfl rfl rfl rfl ?_
  refine Y.k_nx (l1 := [.dat (D.ins 0 [(tupD p0)]), .dat (D.int p1), .dat (D.int ((List.length p0 : Nat) : Int))]) (Y.s_set (r := (R.val (D.int ((List.length p0 : Nat) : Int)))) (l1 := [.dat (D.ins 0 [(tupD p0)]), .dat (D.int p1), .none]) (d := (D.int ((List.length p0 : Nat) : Int))) (X.e_o1 (o := .len) (l1 := [.dat (D.ins 0 [(tupD p0)]), .dat (D.int p1), .none]) (r := (R.val (tupD p0))) (d := (tupD p0)) (r' := (R.val (D.int ((List.length p0 : Nat) : Int)))) (Y.e_fld (k := 0) (n := 0) (fs := [(tupD p0)]) (d := (tupD p0)) (X.e_r0 rfl) rfl rfl) rfl (p_lenT D.int p0)) rfl rfl) ?_
  obtain ⟨v1, h1, h⟩ := bnd_some h
  obtain ⟨v2, h2, h⟩ := bnd_some h
  obtain ⟨v3, h3, h⟩ := bnd_some h
  obtain ⟨v4, h4, h⟩ := bnd_some h
  have hz := Option.some.inj h
  subst hz
  exact Y.k_rt (Y.s_retV (X.e_o2 (o := .add) (l1 := [.dat (D.ins 0 [(tupD p0)]), .dat (D.int p1), .dat (D.int ((List.length p0 : Nat) : Int))]) (l2 := [.dat (D.ins 0 [(tupD p0)]), .dat (D.int p1), .dat (D.int ((List.length p0 : Nat) : Int))]) (r1 := (R.val (D.int v2))) (r2 := (R.val (D.int v4))) (d := (D.int v2)) (d' := (D.int v4)) (r := (R.val (D.int (v2 + v4)))) (X.e_o2 (o := .ix) (l1 := [.dat (D.ins 0 [(tupD p0)]), .dat (D.int p1), .dat (D.int ((List.length p0 : Nat) : Int))]) (l2 := [.dat (D.ins 0 [(tupD p0)]), .dat (D.int p1), .dat (D.int ((List.length p0 : Nat) : Int))]) (r1 := (R.val (tupD p0))) (r2 := (R.val (D.int v1))) (d := (tupD p0)) (d' := (D.int v1)) (r := (R.val (D.int v2))) (Y.e_fld (k := 0) (n := 0) (fs := [(tupD p0)]) (d := (tupD p0)) (X.e_r0 rfl) rfl rfl) (X.e_o2 (o := .mod) (l1 := [.dat (D.ins 0 [(tupD p0)]), .dat (D.int p1), .dat (D.int ((List.length p0 : Nat) : Int))]) (l2 := [.dat (D.ins 0 [(tupD p0)]), .dat (D.int p1), .dat (D.int ((List.length p0 : Nat) : Int))]) (r1 := (R.val (D.int (p1 - 1)))) (r2 := (R.val (D.int ((List.length p0 : Nat) : Int)))) (d := (D.int (p1 - 1))) (d' := (D.int ((List.length p0 : Nat) : Int))) (r := (R.val (D.int v1))) (X.e_o2 (o := .sub) (l1 := [.dat (D.ins 0 [(tupD p0)]), .dat (D.int p1), .dat (D.int ((List.length p0 : Nat) : Int))]) (l2 := [.dat (D.ins 0 [(tupD p0)]), .dat (D.int p1), .dat (D.int ((List.length p0 : Nat) : Int))]) (r1 := (R.val (D.int p1))) (r2 := (R.val (D.int 1))) (d := (D.int p1)) (d' := (D.int 1)) (r := (R.val (D.int (p1 - 1)))) (X.e_r0 rfl) X.e_k rfl rfl rfl) (X.e_r0 rfl) rfl rfl (p_mod h1)) rfl rfl (p_ixT (F := D.int) h2)) (X.e_o2 (o := .mul) (l1 := [.dat (D.ins 0 [(tupD p0)]), .dat (D.int p1), .dat (D.int ((List.length p0 : Nat) : Int))]) (l2 := [.dat (D.ins 0 [(tupD p0)]), .dat (D.int p1), .dat (D.int ((List.length p0 : Nat) : Int))]) (r1 := (R.val (D.int v3))) (r2 := (R.val (D.int ((List.length p0 : Nat) : Int)))) (d := (D.int v3)) (d' := (D.int ((List.length p0 : Nat) : Int))) (r := (R.val (D.int v4))) (X.e_o2 (o := .fdiv) (l1 := [.dat (D.ins 0 [(tupD p0)]), .dat (D.int p1), .dat (D.int ((List.length p0 : Nat) : Int))]) (l2 := [.dat (D.ins 0 [(tupD p0)]), .dat (D.int p1), .dat (D.int ((List.length p0 : Nat) : Int))]) (r1 := (R.val (D.int (p1 - 1)))) (r2 := (R.val (D.int ((List.length p0 : Nat) : Int)))) (d := (D.int (p1 - 1))) (d' := (D.int ((List.length p0 : Nat) : Int))) (r := (R.val (D.int v3))) (X.e_o2 (o := .sub) (l1 := [.dat (D.ins 0 [(tupD p0)]), .dat (D.int p1), .dat (D.int ((List.length p0 : Nat) : Int))]) (l2 := [.dat (D.ins 0 [(tupD p0)]), .dat (D.int p1), .dat (D.int ((List.length p0 : Nat) : Int))]) (r1 := (R.val (D.int p1))) (r2 := (R.val (D.int 1))) (d := (D.int p1)) (d' := (D.int 1)) (r := (R.val (D.int (p1 - 1)))) (X.e_r0 rfl) X.e_k rfl rfl rfl) (X.e_r0 rfl) rfl rfl (p_fdiv h3)) (X.e_r0 rfl) rfl rfl (p_mul h4)) rfl rfl rfl)) (Y.ends_rt rfl)
/-! Turning.ring -/
def m22 (p0 : (List Int)) : Option (List (List Int)) := bnd (rng2T 1 (((List.length p0 : Nat) : Int) + 1)) fun v1 => bnd (Y.foldT (fun (s1 : (List (List Int))) (x2 : Int) => bnd (rng2T (x2 - ((List.length p0 : Nat) : Int)) x2) fun v4 => bnd (lcG (fun v5 : Int => bnd (m21 (p0) (v5)) fun v6 => cond (leI x2 v6) (bnd (m21 (p0) (v5)) fun v7 => some (some v7)) (some none)) v4) fun v8 => bnd (lcG (fun v9 : Int => bnd (modT (v9 - 1) ((List.length p0 : Nat) : Int)) fun v10 => some (some (v10 + 1))) v8) fun v11 => bnd (appT s1 ((sortI v11))) fun v12 => some v12) [] v1) fun v13 => some v13
theorem a22 {m : Nat} {p0 : (List Int)} {r : (List (List Int))} (h : m22 p0 = some r) : callN Gd tb 40 (m + 2) 22 [.dat (D.ins 0 [(tupD p0)])] = some ((R.val (D.lst (List.map tupD r))), [.dat (D.ins 0 [(tupD p0)])]) := by
  unfold m22 at h
  refine Y.call_of (d := f22) (l0 := [.dat (D.ins 0 [(tupD p0)]), .none, .none, .none, .none, .none, .none]) rfl rfl rfl rfl ?_
  refine Y.k_nx (l1 := [.dat (D.ins 0 [(tupD p0)]), .dat (D.int ((List.length p0 : Nat) : Int)), .none, .none, .none, .none, .none]) (Y.s_set (r := (R.val (D.int ((List.length p0 : Nat) : Int)))) (l1 := [.dat (D.ins 0 [(tupD p0)]), .none, .none, .none, .none, .none, .none]) (d := (D.int ((List.length p0 : Nat) : Int))) (X.e_o1 (o := .len) (l1 := [.dat (D.ins 0 [(tupD p0)]), .none, .none, .none, .none, .none, .none]) (r := (R.val (tupD p0))) (d := (tupD p0)) (r' := (R.val (D.int ((List.length p0 : Nat) : Int)))) (Y.e_fld (k := 0) (n := 0) (fs := [(tupD p0)]) (d := (tupD p0)) (X.e_r0 rfl) rfl rfl) rfl (p_lenT D.int p0)) rfl rfl) ?_
  refine Y.k_nx (l1 := [.dat (D.ins 0 [(tupD p0)]), .dat (D.int ((List.length p0 : Nat) : Int)), .own false (List.map tupD []), .none, .none, .none, .none]) (Y.s_own (l1 := [.dat (D.ins 0 [(tupD p0)]), .dat (D.int ((List.length p0 : Nat) : Int)), .none, .none, .none, .none, .none]) (ds := (List.map tupD [])) (X.e_lst (ds := []) X.es_nil rfl) rfl) ?_
  obtain ⟨v1, h1, h⟩ := bnd_some h
  refine Y.k_fold (L := (fun s1 : (List (List Int)) => [.dat (D.ins 0 [(tupD p0)]), .dat (D.int ((List.length p0 : Nat) : Int)), .own false (List.map tupD s1), .none, .none, .none, .none])) (g := D.int) (s0 := []) (xs := v1) (Y.i_rng2 (m := 1) (n := (((List.length p0 : Nat) : Int) + 1)) (l1 := [.dat (D.ins 0 [(tupD p0)]), .dat (D.int ((List.length p0 : Nat) : Int)), .own false (List.map tupD []), .none, .none, .none, .none]) X.e_k (X.e_o2 (o := .add) (l1 := [.dat (D.ins 0 [(tupD p0)]), .dat (D.int ((List.length p0 : Nat) : Int)), .own false (List.map tupD []), .none, .none, .none, .none]) (l2 := [.dat (D.ins 0 [(tupD p0)]), .dat (D.int ((List.length p0 : Nat) : Int)), .own false (List.map tupD []), .none, .none, .none, .none]) (r1 := (R.val (D.int ((List.length p0 : Nat) : Int)))) (r2 := (R.val (D.int 1))) (d := (D.int ((List.length p0 : Nat) : Int))) (d' := (D.int 1)) (r := (R.val (D.int (((List.length p0 : Nat) : Int) + 1)))) (X.e_r0 rfl) X.e_k rfl rfl rfl) h1) rfl h ?_ ?_
  · intro s1 x2 o h
    try dsimp only at h
    refine ⟨[.dat (D.ins 0 [(tupD p0)]), .dat (D.int ((List.length p0 : Nat) : Int)), .own false (List.map tupD s1), .dat (D.int x2), .none, .none, .none], rfl, ?_⟩
    obtain ⟨v4, h2, h⟩ := bnd_some h
    obtain ⟨v8, h5, h⟩ := bnd_some h
    have q5 : ev Gd (callN Gd tb 40 (m + 1)) (.lc [5] (.v 5) (.rng2 (.o2 .sub (.r 3) (.r 1)) (.r 3)) [.o2 .ge (.meth [(0, 21)] (.r 0) [.r 5]) (.r 3)] (.meth [(0, 21)] (.r 0) [.r 5])) [.dat (D.ins 0 [(tupD p0)]), .dat (D.int ((List.length p0 : Nat) : Int)), .own false (List.map tupD s1), .dat (D.int x2), .none, .none, .none] = some ((R.new (List.map D.int v8)), [.dat (D.ins 0 [(tupD p0)]), .dat (D.int ((List.length p0 : Nat) : Int)), .own false (List.map tupD s1), .dat (D.int x2), .none, .none, .none]) := Y.e_lc (w := [.dat (D.ins 0 [(tupD p0)]), .dat (D.int ((List.length p0 : Nat) : Int)), .own false (List.map tupD s1), .dat (D.int x2), .none, .none, .none]) (ga := D.int) (gb := D.int) (Y.i_rng2 (m := (x2 - ((List.length p0 : Nat) : Int))) (n := x2) (l1 := [.dat (D.ins 0 [(tupD p0)]), .dat (D.int ((List.length p0 : Nat) : Int)), .own false (List.map tupD s1), .dat (D.int x2), .none, .none, .none]) (X.e_o2 (o := .sub) (l1 := [.dat (D.ins 0 [(tupD p0)]), .dat (D.int ((List.length p0 : Nat) : Int)), .own false (List.map tupD s1), .dat (D.int x2), .none, .none, .none]) (l2 := [.dat (D.ins 0 [(tupD p0)]), .dat (D.int ((List.length p0 : Nat) : Int)), .own false (List.map tupD s1), .dat (D.int x2), .none, .none, .none]) (r1 := (R.val (D.int x2))) (r2 := (R.val (D.int ((List.length p0 : Nat) : Int)))) (d := (D.int x2)) (d' := (D.int ((List.length p0 : Nat) : Int))) (r := (R.val (D.int (x2 - ((List.length p0 : Nat) : Int))))) (X.e_r0 rfl) (X.e_r0 rfl) rfl rfl rfl) (X.e_r0 rfl) h2) rfl rfl h5 (by
        intro v5 o h
        try dsimp only at h
        obtain ⟨v6, h3, h⟩ := bnd_some h
        rcases cond_some h with ⟨hc, h⟩ | ⟨hc, h⟩
        · skip
          obtain ⟨v7, h4, h⟩ := bnd_some h
          have hz := Option.some.inj h
          subst hz
          exact ⟨[.dat (D.ins 0 [(tupD p0)]), .dat (D.int ((List.length p0 : Nat) : Int)), .own false (List.map tupD s1), .dat (D.int x2), .none, .dat (D.int v5), .none], [.dat (D.ins 0 [(tupD p0)]), .dat (D.int ((List.length p0 : Nat) : Int)), .own false (List.map tupD s1), .dat (D.int x2), .none, .dat (D.int v5), .none], rfl, Y.c_oneT (Y.t_b (X.e_o2 (o := .ge) (l1 := [.dat (D.ins 0 [(tupD p0)]), .dat (D.int ((List.length p0 : Nat) : Int)), .own false (List.map tupD s1), .dat (D.int x2), .none, .dat (D.int v5), .none]) (l2 := [.dat (D.ins 0 [(tupD p0)]), .dat (D.int ((List.length p0 : Nat) : Int)), .own false (List.map tupD s1), .dat (D.int x2), .none, .dat (D.int v5), .none]) (r1 := (R.val (D.int v6))) (r2 := (R.val (D.int x2))) (d := (D.int v6)) (d' := (D.int x2)) (r := (R.val (D.bl (leI x2 v6)))) (Y.e_meth (k := 0) (fn := 21) (fs := [(tupD p0)]) (rs := [(R.val (D.int v5))]) (l1 := [.dat (D.ins 0 [(tupD p0)]), .dat (D.int ((List.length p0 : Nat) : Int)), .own false (List.map tupD s1), .dat (D.int x2), .none, .dat (D.int v5), .none]) (l2 := [.dat (D.ins 0 [(tupD p0)]), .dat (D.int ((List.length p0 : Nat) : Int)), .own false (List.map tupD s1), .dat (D.int x2), .none, .dat (D.int v5), .none]) (r := (R.val (D.int v6))) (X.e_r0 rfl) rfl (X.es_cons (r := (R.val (D.int v5))) (l1 := [.dat (D.ins 0 [(tupD p0)]), .dat (D.int ((List.length p0 : Nat) : Int)), .own false (List.map tupD s1), .dat (D.int x2), .none, .dat (D.int v5), .none]) (X.e_r0 rfl) X.es_nil) (Y.do_val (ds := [(D.ins 0 [(tupD p0)]), (D.int v5)]) (a21 (m := m + 0) h3))) (X.e_r0 rfl) rfl rfl (p_ge v6 x2))) hc, (R.val (D.int v7)), [.dat (D.ins 0 [(tupD p0)]), .dat (D.int ((List.length p0 : Nat) : Int)), .own false (List.map tupD s1), .dat (D.int x2), .none, .dat (D.int v5), .none], (Y.e_meth (k := 0) (fn := 21) (fs := [(tupD p0)]) (rs := [(R.val (D.int v5))]) (l1 := [.dat (D.ins 0 [(tupD p0)]), .dat (D.int ((List.length p0 : Nat) : Int)), .own false (List.map tupD s1), .dat (D.int x2), .none, .dat (D.int v5), .none]) (l2 := [.dat (D.ins 0 [(tupD p0)]), .dat (D.int ((List.length p0 : Nat) : Int)), .own false (List.map tupD s1), .dat (D.int x2), .none, .dat (D.int v5), .none]) (r := (R.val (D.int v7))) (X.e_r0 rfl) rfl (X.es_cons (r := (R.val (D.int v5))) (l1 := [.dat (D.ins 0 [(tupD p0)]), .dat (D.int ((List.length p0 : Nat) : Int)), .own false (List.map tupD s1), .dat (D.int x2), .none, .dat (D.int v5), .none]) (X.e_r0 rfl) X.es_nil) (Y.do_val (ds := [(D.ins 0 [(tupD p0)]), (D.int v5)]) (a21 (m := m + 0) h4))), rfl, rfl⟩
        · skip
          have hz := Option.some.inj h
          subst hz
          exact ⟨[.dat (D.ins 0 [(tupD p0)]), .dat (D.int ((List.length p0 : Nat) : Int)), .own false (List.map tupD s1), .dat (D.int x2), .none, .dat (D.int v5), .none], [.dat (D.ins 0 [(tupD p0)]), .dat (D.int ((List.length p0 : Nat) : Int)), .own false (List.map tupD s1), .dat (D.int x2), .none, .dat (D.int v5), .none], rfl, Y.c_oneF (Y.t_b (X.e_o2 (o := .ge) (l1 := [.dat (D.ins 0 [(tupD p0)]), .dat (D.int ((List.length p0 : Nat) : Int)), .own false (List.map tupD s1), .dat (D.int x2), .none, .dat (D.int v5), .none]) (l2 := [.dat (D.ins 0 [(tupD p0)]), .dat (D.int ((List.length p0 : Nat) : Int)), .own false (List.map tupD s1), .dat (D.int x2), .none, .dat (D.int v5), .none]) (r1 := (R.val (D.int v6))) (r2 := (R.val (D.int x2))) (d := (D.int v6)) (d' := (D.int x2)) (r := (R.val (D.bl (leI x2 v6)))) (Y.e_meth (k := 0) (fn := 21) (fs := [(tupD p0)]) (rs := [(R.val (D.int v5))]) (l1 := [.dat (D.ins 0 [(tupD p0)]), .dat (D.int ((List.length p0 : Nat) : Int)), .own false (List.map tupD s1), .dat (D.int x2), .none, .dat (D.int v5), .none]) (l2 := [.dat (D.ins 0 [(tupD p0)]), .dat (D.int ((List.length p0 : Nat) : Int)), .own false (List.map tupD s1), .dat (D.int x2), .none, .dat (D.int v5), .none]) (r := (R.val (D.int v6))) (X.e_r0 rfl) rfl (X.es_cons (r := (R.val (D.int v5))) (l1 := [.dat (D.ins 0 [(tupD p0)]), .dat (D.int ((List.length p0 : Nat) : Int)), .own false (List.map tupD s1), .dat (D.int x2), .none, .dat (D.int v5), .none]) (X.e_r0 rfl) X.es_nil) (Y.do_val (ds := [(D.ins 0 [(tupD p0)]), (D.int v5)]) (a21 (m := m + 0) h3))) (X.e_r0 rfl) rfl rfl (p_ge v6 x2))) hc, rfl⟩) rfl
    refine Y.k_nx (l1 := [.dat (D.ins 0 [(tupD p0)]), .dat (D.int ((List.length p0 : Nat) : Int)), .own false (List.map tupD s1), .dat (D.int x2), .dat (lstD v8), .none, .none]) (Y.s_set (r := (R.new (List.map D.int v8))) (l1 := [.dat (D.ins 0 [(tupD p0)]), .dat (D.int ((List.length p0 : Nat) : Int)), .own false (List.map tupD s1), .dat (D.int x2), .none, .none, .none]) (d := (lstD v8)) q5 rfl rfl) ?_
    obtain ⟨v11, h7, h⟩ := bnd_some h
    have q7 : ev Gd (callN Gd tb 40 (m + 1)) (.lc [6] (.v 6) (.seq (.r 4)) [] (.o2 .add (.o2 .mod (.o2 .sub (.r 6) (.c (.int 1))) (.r 1)) (.c (.int 1)))) [.dat (D.ins 0 [(tupD p0)]), .dat (D.int ((List.length p0 : Nat) : Int)), .own false (List.map tupD s1), .dat (D.int x2), .dat (lstD v8), .none, .none] = some ((R.new (List.map D.int v11)), [.dat (D.ins 0 [(tupD p0)]), .dat (D.int ((List.length p0 : Nat) : Int)), .own false (List.map tupD s1), .dat (D.int x2), .dat (lstD v8), .none, .none]) := Y.e_lc (w := [.dat (D.ins 0 [(tupD p0)]), .dat (D.int ((List.length p0 : Nat) : Int)), .own false (List.map tupD s1), .dat (D.int x2), .dat (lstD v8), .none, .none]) (ga := D.int) (gb := D.int) (X.i_seq (r := (R.val (lstD v8))) (X.e_r0 rfl) rfl) rfl rfl h7 (by
        intro v9 o h
        try dsimp only at h
        obtain ⟨v10, h6, h⟩ := bnd_some h
        have hz := Option.some.inj h
        subst hz
        exact ⟨[.dat (D.ins 0 [(tupD p0)]), .dat (D.int ((List.length p0 : Nat) : Int)), .own false (List.map tupD s1), .dat (D.int x2), .dat (lstD v8), .none, .dat (D.int v9)], [.dat (D.ins 0 [(tupD p0)]), .dat (D.int ((List.length p0 : Nat) : Int)), .own false (List.map tupD s1), .dat (D.int x2), .dat (lstD v8), .none, .dat (D.int v9)], rfl, Y.c_nil, (R.val (D.int (v10 + 1))), [.dat (D.ins 0 [(tupD p0)]), .dat (D.int ((List.length p0 : Nat) : Int)), .own false (List.map tupD s1), .dat (D.int x2), .dat (lstD v8), .none, .dat (D.int v9)], (X.e_o2 (o := .add) (l1 := [.dat (D.ins 0 [(tupD p0)]), .dat (D.int ((List.length p0 : Nat) : Int)), .own false (List.map tupD s1), .dat (D.int x2), .dat (lstD v8), .none, .dat (D.int v9)]) (l2 := [.dat (D.ins 0 [(tupD p0)]), .dat (D.int ((List.length p0 : Nat) : Int)), .own false (List.map tupD s1), .dat (D.int x2), .dat (lstD v8), .none, .dat (D.int v9)]) (r1 := (R.val (D.int v10))) (r2 := (R.val (D.int 1))) (d := (D.int v10)) (d' := (D.int 1)) (r := (R.val (D.int (v10 + 1)))) (X.e_o2 (o := .mod) (l1 := [.dat (D.ins 0 [(tupD p0)]), .dat (D.int ((List.length p0 : Nat) : Int)), .own false (List.map tupD s1), .dat (D.int x2), .dat (lstD v8), .none, .dat (D.int v9)]) (l2 := [.dat (D.ins 0 [(tupD p0)]), .dat (D.int ((List.length p0 : Nat) : Int)), .own false (List.map tupD s1), .dat (D.int x2), .dat (lstD v8), .none, .dat (D.int v9)]) (r1 := (R.val (D.int (v9 - 1)))) (r2 := (R.val (D.int ((List.length p0 : Nat) : Int)))) (d := (D.int (v9 - 1))) (d' := (D.int ((List.length p0 : Nat) : Int))) (r := (R.val (D.int v10))) (X.e_o2 (o := .sub) (l1 := [.dat (D.ins 0 [(tupD p0)]), .dat (D.int ((List.length p0 : Nat) : Int)), .own false (List.map tupD s1), .dat (D.int x2), .dat (lstD v8), .none, .dat (D.int v9)]) (l2 := [.dat (D.ins 0 [(tupD p0)]), .dat (D.int ((List.length p0 : Nat) : Int)), .own false (List.map tupD s1), .dat (D.int x2), .dat (lstD v8), .none, .dat (D.int v9)]) (r1 := (R.val (D.int v9))) (r2 := (R.val (D.int 1))) (d := (D.int v9)) (d' := (D.int 1)) (r := (R.val (D.int (v9 - 1)))) (X.e_r0 rfl) X.e_k rfl rfl rfl) (X.e_r0 rfl) rfl rfl (p_mod h6)) X.e_k rfl rfl rfl), rfl, rfl⟩) rfl
    obtain ⟨v12, h8, h⟩ := bnd_some h
    refine Y.k_nx (l1 := [.dat (D.ins 0 [(tupD p0)]), .dat (D.int ((List.length p0 : Nat) : Int)), .own false (List.map tupD v12), .dat (D.int x2), .dat (lstD v8), .none, .none]) (Y.s_ex (r := (R.val D.non)) (Y.e_app (f := tupD) (b' := false) (xs := s1) (ys := s1) (v := (sortI v11)) (r := (R.val (tupD (sortI v11)))) (l1 := [.dat (D.ins 0 [(tupD p0)]), .dat (D.int ((List.length p0 : Nat) : Int)), .own false (List.map tupD s1), .dat (D.int x2), .dat (lstD v8), .none, .none]) rfl (X.e_o1 (o := .tuple) (l1 := [.dat (D.ins 0 [(tupD p0)]), .dat (D.int ((List.length p0 : Nat) : Int)), .own false (List.map tupD s1), .dat (D.int x2), .dat (lstD v8), .none, .none]) (r := (R.new (List.map D.int (sortI v11)))) (d := (D.lst (List.map D.int (sortI v11)))) (r' := (R.val (tupD (sortI v11)))) (X.e_o1 (o := .sorted) (l1 := [.dat (D.ins 0 [(tupD p0)]), .dat (D.int ((List.length p0 : Nat) : Int)), .own false (List.map tupD s1), .dat (D.int x2), .dat (lstD v8), .none, .none]) (r := (R.new (List.map D.int v11))) (d := (D.lst (List.map D.int v11))) (r' := (R.new (List.map D.int (sortI v11)))) q7 rfl (p_sortI v11)) rfl rfl) rfl rfl h8)) ?_
    refine Y.k_nx (l1 := [.dat (D.ins 0 [(tupD p0)]), .dat (D.int ((List.length p0 : Nat) : Int)), .own false (List.map tupD v12), .none, .none, .none, .none]) (Y.s_forget rfl rfl) ?_
    refine Y.k_nil ?_
    refine Y.k_end ?_
    have hz := Option.some.inj h
    subst hz
    exact .inl rfl
  · intro v13 h
    try dsimp only at h
    have hz := Option.some.inj h
    subst hz
    exact Y.k_rt (Y.s_retV (Y.e_fzO rfl)) (Y.ends_rt rfl)
/-! Turning.lot -/
def m23 (p0 : (List Int)) : Option (List (List Int)) := bnd (m22 (p0)) fun v1 => bnd (m20 (((List.length p0 : Nat) : Int)) (v1)) fun v2 => some v2
theorem a23 {m : Nat} {p0 : (List Int)} {r : (List (List Int))} (h : m23 p0 = some r) : callN Gd tb 40 (m + 4) 23 [.dat (D.ins 0 [(tupD p0)])] = some ((R.val (D.lst (List.map tupD r))), [.dat (D.ins 0 [(tupD p0)])]) := by
  unfold m23 at h
  refine Y.call_of (d := f23) (l0 := [.dat (D.ins 0 [(tupD p0)])]) rfl rfl rfl rfl ?_
  obtain ⟨v1, h1, h⟩ := bnd_some h
  obtain ⟨v2, h2, h⟩ := bnd_some h
  have hz := Option.some.inj h
  subst hz
  exact Y.k_rt (Y.s_retV (Y.e_call (rs := [(R.val (D.int ((List.length p0 : Nat) : Int))), (R.val (D.lst (List.map tupD v1)))]) (l1 := [.dat (D.ins 0 [(tupD p0)])]) (r := (R.val (D.lst (List.map tupD v2)))) (X.es_cons (r := (R.val (D.int ((List.length p0 : Nat) : Int)))) (l1 := [.dat (D.ins 0 [(tupD p0)])]) (X.e_o1 (o := .len) (l1 := [.dat (D.ins 0 [(tupD p0)])]) (r := (R.val (tupD p0))) (d := (tupD p0)) (r' := (R.val (D.int ((List.length p0 : Nat) : Int)))) (Y.e_fld (k := 0) (n := 0) (fs := [(tupD p0)]) (d := (tupD p0)) (X.e_r0 rfl) rfl rfl) rfl (p_lenT D.int p0)) (X.es_cons (r := (R.val (D.lst (List.map tupD v1)))) (l1 := [.dat (D.ins 0 [(tupD p0)])]) (Y.e_meth (k := 0) (fn := 22) (fs := [(tupD p0)]) (rs := []) (l1 := [.dat (D.ins 0 [(tupD p0)])]) (l2 := [.dat (D.ins 0 [(tupD p0)])]) (r := (R.val (D.lst (List.map tupD v1)))) (X.e_r0 rfl) rfl X.es_nil (Y.do_val (ds := [(D.ins 0 [(tupD p0)])]) (a22 (m := m + 1) h1))) X.es_nil)) (Y.do_val (ds := [(D.int ((List.length p0 : Nat) : Int)), (D.lst (List.map tupD v1))]) (a20 (m := m + 0) h2)))) (Y.ends_rt rfl)
/-! bears -/
def m24 (p0 : (List Int)) (p1 : (List (List Int))) : Option Bool := bnd (m23 (p0)) fun v1 => bnd (lcG (fun v2 : (List Int) => some (some (List.any v1 (fun y => (eqLs eqI) y v2)))) p1) fun v3 => some (List.all v3 id)
theorem a24 {m : Nat} {p0 : (List Int)} {p1 : (List (List Int))} {r : Bool} (h : m24 p0 p1 = some r) : callN Gd tb 40 (m + 5) 24 [.dat (D.ins 0 [(tupD p0)]), .dat (D.lst (List.map tupD p1))] = some ((R.val (D.bl r)), [.dat (D.ins 0 [(tupD p0)]), .dat (D.lst (List.map tupD p1))]) := by
  unfold m24 at h
  refine Y.call_of (d := f24) (l0 := [.dat (D.ins 0 [(tupD p0)]), .dat (D.lst (List.map tupD p1)), .none, .none]) rfl rfl rfl rfl ?_
  obtain ⟨v1, h1, h⟩ := bnd_some h
  refine Y.k_nx (l1 := [.dat (D.ins 0 [(tupD p0)]), .dat (D.lst (List.map tupD p1)), .dat (D.lst (List.map tupD v1)), .none]) (Y.s_set (r := (R.val (D.lst (List.map tupD v1)))) (l1 := [.dat (D.ins 0 [(tupD p0)]), .dat (D.lst (List.map tupD p1)), .none, .none]) (d := (D.lst (List.map tupD v1))) (Y.e_meth (k := 0) (fn := 23) (fs := [(tupD p0)]) (rs := []) (l1 := [.dat (D.ins 0 [(tupD p0)]), .dat (D.lst (List.map tupD p1)), .none, .none]) (l2 := [.dat (D.ins 0 [(tupD p0)]), .dat (D.lst (List.map tupD p1)), .none, .none]) (r := (R.val (D.lst (List.map tupD v1)))) (X.e_r0 rfl) rfl X.es_nil (Y.do_val (ds := [(D.ins 0 [(tupD p0)])]) (a23 (m := m + 0) h1))) rfl rfl) ?_
  obtain ⟨v3, h2, h⟩ := bnd_some h
  have q2 : ev Gd (callN Gd tb 40 (m + 4)) (.lc [3] (.v 3) (.seq (.r 1)) [] (.o2 .isin (.r 3) (.r 2))) [.dat (D.ins 0 [(tupD p0)]), .dat (D.lst (List.map tupD p1)), .dat (D.lst (List.map tupD v1)), .none] = some ((R.new (List.map D.bl v3)), [.dat (D.ins 0 [(tupD p0)]), .dat (D.lst (List.map tupD p1)), .dat (D.lst (List.map tupD v1)), .none]) := Y.e_lc (w := [.dat (D.ins 0 [(tupD p0)]), .dat (D.lst (List.map tupD p1)), .dat (D.lst (List.map tupD v1)), .none]) (ga := tupD) (gb := D.bl) (X.i_seq (r := (R.val (D.lst (List.map tupD p1)))) (X.e_r0 rfl) rfl) rfl rfl h2 (by
      intro v2 o h
      try dsimp only at h
      have hz := Option.some.inj h
      subst hz
      exact ⟨[.dat (D.ins 0 [(tupD p0)]), .dat (D.lst (List.map tupD p1)), .dat (D.lst (List.map tupD v1)), .dat (tupD v2)], [.dat (D.ins 0 [(tupD p0)]), .dat (D.lst (List.map tupD p1)), .dat (D.lst (List.map tupD v1)), .dat (tupD v2)], rfl, Y.c_nil, (R.val (D.bl (List.any v1 (fun y => (eqLs eqI) y v2)))), [.dat (D.ins 0 [(tupD p0)]), .dat (D.lst (List.map tupD p1)), .dat (D.lst (List.map tupD v1)), .dat (tupD v2)], (X.e_o2 (o := .isin) (l1 := [.dat (D.ins 0 [(tupD p0)]), .dat (D.lst (List.map tupD p1)), .dat (D.lst (List.map tupD v1)), .dat (tupD v2)]) (l2 := [.dat (D.ins 0 [(tupD p0)]), .dat (D.lst (List.map tupD p1)), .dat (D.lst (List.map tupD v1)), .dat (tupD v2)]) (r1 := (R.val (tupD v2))) (r2 := (R.val (D.lst (List.map tupD v1)))) (d := (tupD v2)) (d' := (D.lst (List.map tupD v1))) (r := (R.val (D.bl (List.any v1 (fun y => (eqLs eqI) y v2))))) (X.e_r0 rfl) (X.e_r0 rfl) rfl rfl (p_inL (F := tupD) (eqe_tup eqe_int) v2 v1)), rfl, rfl⟩) rfl
  have hz := Option.some.inj h
  subst hz
  exact Y.k_rt (Y.s_retV (X.e_o1 (o := .all) (l1 := [.dat (D.ins 0 [(tupD p0)]), .dat (D.lst (List.map tupD p1)), .dat (D.lst (List.map tupD v1)), .none]) (r := (R.new (List.map D.bl v3))) (d := (D.lst (List.map D.bl v3))) (r' := (R.val (D.bl (List.all v3 id)))) q2 rfl (p_all v3))) (Y.ends_rt rfl)
/-! is_within -/
def m25 (p0 : (List Int)) (p1 : (List Int)) : Option Bool := bnd (m16 (p0) (p1)) fun v1 => bnd (m23 (p0)) fun v2 => bnd (m24 (p1) (v2)) fun v3 => some v3
theorem a25 {m : Nat} {p0 : (List Int)} {p1 : (List Int)} {r : Bool} (h : m25 p0 p1 = some r) : callN Gd tb 40 (m + 6) 25 [.dat (D.ins 0 [(tupD p0)]), .dat (D.ins 0 [(tupD p1)])] = some ((R.val (D.bl r)), [.dat (D.ins 0 [(tupD p0)]), .dat (D.ins 0 [(tupD p1)])]) := by
  unfold m25 at h
  refine Y.call_of (d := f25) (l0 := [.dat (D.ins 0 [(tupD p0)]), .dat (D.ins 0 [(tupD p1)])]) rfl rfl rfl rfl ?_
  obtain ⟨v1, h1, h⟩ := bnd_some h
  refine Y.k_nx (l1 := [.dat (D.ins 0 [(tupD p0)]), .dat (D.ins 0 [(tupD p1)])]) (Y.s_ex (r := (R.val D.non)) (Y.e_call (rs := [(R.val (D.ins 0 [(tupD p0)])), (R.val (D.ins 0 [(tupD p1)]))]) (l1 := [.dat (D.ins 0 [(tupD p0)]), .dat (D.ins 0 [(tupD p1)])]) (r := (R.val D.non)) (X.es_cons (r := (R.val (D.ins 0 [(tupD p0)]))) (l1 := [.dat (D.ins 0 [(tupD p0)]), .dat (D.ins 0 [(tupD p1)])]) (X.e_r0 rfl) (X.es_cons (r := (R.val (D.ins 0 [(tupD p1)]))) (l1 := [.dat (D.ins 0 [(tupD p0)]), .dat (D.ins 0 [(tupD p1)])]) (X.e_r0 rfl) X.es_nil)) (Y.do_val (ds := [(D.ins 0 [(tupD p0)]), (D.ins 0 [(tupD p1)])]) (a16 (m := m + 3) h1)))) ?_
  obtain ⟨v2, h2, h⟩ := bnd_some h
  obtain ⟨v3, h3, h⟩ := bnd_some h
  have hz := Option.some.inj h
  subst hz
  exact Y.k_rt (Y.s_retV (Y.e_call (rs := [(R.val (D.ins 0 [(tupD p1)])), (R.val (D.lst (List.map tupD v2)))]) (l1 := [.dat (D.ins 0 [(tupD p0)]), .dat (D.ins 0 [(tupD p1)])]) (r := (R.val (D.bl v3))) (X.es_cons (r := (R.val (D.ins 0 [(tupD p1)]))) (l1 := [.dat (D.ins 0 [(tupD p0)]), .dat (D.ins 0 [(tupD p1)])]) (X.e_r0 rfl) (X.es_cons (r := (R.val (D.lst (List.map tupD v2)))) (l1 := [.dat (D.ins 0 [(tupD p0)]), .dat (D.ins 0 [(tupD p1)])]) (Y.e_meth (k := 0) (fn := 23) (fs := [(tupD p0)]) (rs := []) (l1 := [.dat (D.ins 0 [(tupD p0)]), .dat (D.ins 0 [(tupD p1)])]) (l2 := [.dat (D.ins 0 [(tupD p0)]), .dat (D.ins 0 [(tupD p1)])]) (r := (R.val (D.lst (List.map tupD v2)))) (X.e_r0 rfl) rfl X.es_nil (Y.do_val (ds := [(D.ins 0 [(tupD p0)])]) (a23 (m := m + 1) h2))) X.es_nil)) (Y.do_val (ds := [(D.ins 0 [(tupD p1)]), (D.lst (List.map tupD v2))]) (a24 (m := m + 0) h3)))) (Y.ends_rt rfl)
/-! _law_between_right -/
def m26 (p0 : (List Int)) (p1 : Int) (p2 : Int) : Option (Bool × (List Int)) := bnd (m11 (p1) (p2)) fun v1 => bnd2 (m12 (p0) (v1)) fun v2 v3 => bnd (lcG (fun v4 : (List Int) => bnd (m13 (v4) (v2)) fun v5 => bnd (cond (!v5) (bnd (m25 (v4) (v2)) fun v6 => some v6) (some false)) fun v7 => cond v7 (some (some v4)) (some none)) v1) fun v8 => cond (List.isEmpty v8) (some (true, v3)) (bnd2 (m12 (v3) (v8)) fun v9 v10 => bnd (lcG (fun v11 : (List Int) => bnd (m25 (v9) (v11)) fun v12 => cond v12 (some (some v11)) (some none)) v8) fun v13 => bnd (addL v13 [v2]) fun v14 => bnd (m6 (v14)) fun v15 => some ((eqI v15 0), v10))
theorem a26 {m : Nat} {p0 : (List Int)} {p1 : Int} {p2 : Int} {r : Bool} {w0 : (List Int)} (h : m26 p0 p1 p2 = some (r, w0)) : callN Gd tb 40 (m + 10) 26 [.own true (List.map D.int p0), .dat (D.int p1), .dat (D.int p2)] = some ((R.val (D.bl r)), [.own true (List.map D.int w0), .dat (D.int p1), .dat (D.int p2)]) := by
  unfold m26 at h
  refine Y.call_of (d := f26) (l0 := [.own true (List.map D.int p0), .dat (D.int p1), .dat (D.int p2), .none, .none, .none, .none, .none, .none]) rfl rfl rfl rfl ?_
  obtain ⟨v1, h1, h⟩ := bnd_some h
  refine Y.k_nx (l1 := [.own true (List.map D.int p0), .dat (D.int p1), .dat (D.int p2), .dat (D.lst (List.map (fun x : (List Int) => (D.ins 0 [(tupD x)])) v1)), .none, .none, .none, .none, .none]) (Y.s_set (r := (R.new (List.map (fun x : (List Int) => (D.ins 0 [(tupD x)])) v1))) (l1 := [.own true (List.map D.int p0), .dat (D.int p1), .dat (D.int p2), .none, .none, .none, .none, .none, .none]) (d := (D.lst (List.map (fun x : (List Int) => (D.ins 0 [(tupD x)])) v1))) (Y.e_call (rs := [(R.val (D.int p1)), (R.val (D.int p2))]) (l1 := [.own true (List.map D.int p0), .dat (D.int p1), .dat (D.int p2), .none, .none, .none, .none, .none, .none]) (r := (R.new (List.map (fun x : (List Int) => (D.ins 0 [(tupD x)])) v1))) (X.es_cons (r := (R.val (D.int p1))) (l1 := [.own true (List.map D.int p0), .dat (D.int p1), .dat (D.int p2), .none, .none, .none, .none, .none, .none]) (X.e_r0 rfl) (X.es_cons (r := (R.val (D.int p2))) (l1 := [.own true (List.map D.int p0), .dat (D.int p1), .dat (D.int p2), .none, .none, .none, .none, .none, .none]) (X.e_r0 rfl) X.es_nil)) (Y.do_val (ds := [(D.int p1), (D.int p2)]) (a11 (m := m + 0) h1))) rfl rfl) ?_
  obtain ⟨v2, v3, h2, h⟩ := bnd2_some h
  refine Y.k_nx (l1 := [.own true (List.map D.int v3), .dat (D.int p1), .dat (D.int p2), .dat (D.lst (List.map (fun x : (List Int) => (D.ins 0 [(tupD x)])) v1)), .dat (D.ins 0 [(tupD v2)]), .none, .none, .none, .none]) (Y.s_set (r := (R.val (D.ins 0 [(tupD v2)]))) (l1 := [.own true (List.map D.int v3), .dat (D.int p1), .dat (D.int p2), .dat (D.lst (List.map (fun x : (List Int) => (D.ins 0 [(tupD x)])) v1)), .none, .none, .none, .none, .none]) (d := (D.ins 0 [(tupD v2)])) (Y.e_call (rs := [(R.ref 0), (R.val (D.lst (List.map (fun x : (List Int) => (D.ins 0 [(tupD x)])) v1)))]) (l1 := [.own true (List.map D.int p0), .dat (D.int p1), .dat (D.int p2), .dat (D.lst (List.map (fun x : (List Int) => (D.ins 0 [(tupD x)])) v1)), .none, .none, .none, .none, .none]) (r := (R.val (D.ins 0 [(tupD v2)]))) (X.es_cons (r := (R.ref 0)) (l1 := [.own true (List.map D.int p0), .dat (D.int p1), .dat (D.int p2), .dat (D.lst (List.map (fun x : (List Int) => (D.ins 0 [(tupD x)])) v1)), .none, .none, .none, .none, .none]) (X.e_rO rfl) (X.es_cons (r := (R.val (D.lst (List.map (fun x : (List Int) => (D.ins 0 [(tupD x)])) v1)))) (l1 := [.own true (List.map D.int p0), .dat (D.int p1), .dat (D.int p2), .dat (D.lst (List.map (fun x : (List Int) => (D.ins 0 [(tupD x)])) v1)), .none, .none, .none, .none, .none]) (X.e_r0 rfl) X.es_nil)) (Y.do_ref1 (i := 0) (es := (List.map D.int p0)) (es' := (List.map D.int v3)) (ds := [(D.lst (List.map (fun x : (List Int) => (D.ins 0 [(tupD x)])) v1))]) rfl (a12 (m := m + 7) h2))) rfl rfl) ?_
  obtain ⟨v8, h6, h⟩ := bnd_some h
  have q6 : ev Gd (callN Gd tb 40 (m + 9)) (.lc [8] (.v 8) (.seq (.r 3)) [.and (.eqI true [(0, 13)] (.r 8) (.r 4)) (.call 25 [.r 8, .r 4])] (.r 8)) [.own true (List.map D.int v3), .dat (D.int p1), .dat (D.int p2), .dat (D.lst (List.map (fun x : (List Int) => (D.ins 0 [(tupD x)])) v1)), .dat (D.ins 0 [(tupD v2)]), .none, .none, .none, .none] = some ((R.new (List.map (fun x : (List Int) => (D.ins 0 [(tupD x)])) v8)), [.own true (List.map D.int v3), .dat (D.int p1), .dat (D.int p2), .dat (D.lst (List.map (fun x : (List Int) => (D.ins 0 [(tupD x)])) v1)), .dat (D.ins 0 [(tupD v2)]), .none, .none, .none, .none]) := Y.e_lc (w := [.own true (List.map D.int v3), .dat (D.int p1), .dat (D.int p2), .dat (D.lst (List.map (fun x : (List Int) => (D.ins 0 [(tupD x)])) v1)), .dat (D.ins 0 [(tupD v2)]), .none, .none, .none, .none]) (ga := (fun x : (List Int) => (D.ins 0 [(tupD x)]))) (gb := (fun x : (List Int) => (D.ins 0 [(tupD x)]))) (X.i_seq (r := (R.val (D.lst (List.map (fun x : (List Int) => (D.ins 0 [(tupD x)])) v1)))) (X.e_r0 rfl) rfl) rfl rfl h6 (by
      intro v4 o h
      try dsimp only at h
      obtain ⟨v5, h3, h⟩ := bnd_some h
      obtain ⟨v7, h5, h⟩ := bnd_some h
      have q5 : evT Gd (callN Gd tb 40 (m + 9)) (.and (.eqI true [(0, 13)] (.r 8) (.r 4)) (.call 25 [.r 8, .r 4])) [.own true (List.map D.int v3), .dat (D.int p1), .dat (D.int p2), .dat (D.lst (List.map (fun x : (List Int) => (D.ins 0 [(tupD x)])) v1)), .dat (D.ins 0 [(tupD v2)]), .none, .none, .none, .dat (D.ins 0 [(tupD v4)])] = some (v7, [.own true (List.map D.int v3), .dat (D.int p1), .dat (D.int p2), .dat (D.lst (List.map (fun x : (List Int) => (D.ins 0 [(tupD x)])) v1)), .dat (D.ins 0 [(tupD v2)]), .none, .none, .none, .dat (D.ins 0 [(tupD v4)])]) := by
        rcases cond_some h5 with ⟨hc, h⟩ | ⟨hc, h⟩
        · skip
          obtain ⟨v6, h4, h⟩ := bnd_some h
          have hz := Option.some.inj h
          subst hz
          exact Y.t_andT (l1 := [.own true (List.map D.int v3), .dat (D.int p1), .dat (D.int p2), .dat (D.lst (List.map (fun x : (List Int) => (D.ins 0 [(tupD x)])) v1)), .dat (D.ins 0 [(tupD v2)]), .none, .none, .none, .dat (D.ins 0 [(tupD v4)])]) (Y.t_b (Y.e_neI (k := 0) (fn := 13) (fs := [(tupD v4)]) (gs := [(tupD v2)]) (l1 := [.own true (List.map D.int v3), .dat (D.int p1), .dat (D.int p2), .dat (D.lst (List.map (fun x : (List Int) => (D.ins 0 [(tupD x)])) v1)), .dat (D.ins 0 [(tupD v2)]), .none, .none, .none, .dat (D.ins 0 [(tupD v4)])]) (l2 := [.own true (List.map D.int v3), .dat (D.int p1), .dat (D.int p2), .dat (D.lst (List.map (fun x : (List Int) => (D.ins 0 [(tupD x)])) v1)), .dat (D.ins 0 [(tupD v2)]), .none, .none, .none, .dat (D.ins 0 [(tupD v4)])]) (x := v5) (X.e_r0 rfl) (X.e_r0 rfl) rfl (Y.do_val (ds := [(D.ins 0 [(tupD v4)]), (D.ins 0 [(tupD v2)])]) (a13 (m := m + 8) h3)))) hc (Y.t_b (Y.e_call (rs := [(R.val (D.ins 0 [(tupD v4)])), (R.val (D.ins 0 [(tupD v2)]))]) (l1 := [.own true (List.map D.int v3), .dat (D.int p1), .dat (D.int p2), .dat (D.lst (List.map (fun x : (List Int) => (D.ins 0 [(tupD x)])) v1)), .dat (D.ins 0 [(tupD v2)]), .none, .none, .none, .dat (D.ins 0 [(tupD v4)])]) (r := (R.val (D.bl v6))) (X.es_cons (r := (R.val (D.ins 0 [(tupD v4)]))) (l1 := [.own true (List.map D.int v3), .dat (D.int p1), .dat (D.int p2), .dat (D.lst (List.map (fun x : (List Int) => (D.ins 0 [(tupD x)])) v1)), .dat (D.ins 0 [(tupD v2)]), .none, .none, .none, .dat (D.ins 0 [(tupD v4)])]) (X.e_r0 rfl) (X.es_cons (r := (R.val (D.ins 0 [(tupD v2)]))) (l1 := [.own true (List.map D.int v3), .dat (D.int p1), .dat (D.int p2), .dat (D.lst (List.map (fun x : (List Int) => (D.ins 0 [(tupD x)])) v1)), .dat (D.ins 0 [(tupD v2)]), .none, .none, .none, .dat (D.ins 0 [(tupD v4)])]) (X.e_r0 rfl) X.es_nil)) (Y.do_val (ds := [(D.ins 0 [(tupD v4)]), (D.ins 0 [(tupD v2)])]) (a25 (m := m + 3) h4))))
        · skip
          have hz := Option.some.inj h
          subst hz
          exact Y.t_andF (Y.t_b (Y.e_neI (k := 0) (fn := 13) (fs := [(tupD v4)]) (gs := [(tupD v2)]) (l1 := [.own true (List.map D.int v3), .dat (D.int p1), .dat (D.int p2), .dat (D.lst (List.map (fun x : (List Int) => (D.ins 0 [(tupD x)])) v1)), .dat (D.ins 0 [(tupD v2)]), .none, .none, .none, .dat (D.ins 0 [(tupD v4)])]) (l2 := [.own true (List.map D.int v3), .dat (D.int p1), .dat (D.int p2), .dat (D.lst (List.map (fun x : (List Int) => (D.ins 0 [(tupD x)])) v1)), .dat (D.ins 0 [(tupD v2)]), .none, .none, .none, .dat (D.ins 0 [(tupD v4)])]) (x := v5) (X.e_r0 rfl) (X.e_r0 rfl) rfl (Y.do_val (ds := [(D.ins 0 [(tupD v4)]), (D.ins 0 [(tupD v2)])]) (a13 (m := m + 8) h3)))) hc
      rcases cond_some h with ⟨hc, h⟩ | ⟨hc, h⟩
      · skip
        have hz := Option.some.inj h
        subst hz
        exact ⟨[.own true (List.map D.int v3), .dat (D.int p1), .dat (D.int p2), .dat (D.lst (List.map (fun x : (List Int) => (D.ins 0 [(tupD x)])) v1)), .dat (D.ins 0 [(tupD v2)]), .none, .none, .none, .dat (D.ins 0 [(tupD v4)])], [.own true (List.map D.int v3), .dat (D.int p1), .dat (D.int p2), .dat (D.lst (List.map (fun x : (List Int) => (D.ins 0 [(tupD x)])) v1)), .dat (D.ins 0 [(tupD v2)]), .none, .none, .none, .dat (D.ins 0 [(tupD v4)])], rfl, Y.c_oneT q5 hc, (R.val (D.ins 0 [(tupD v4)])), [.own true (List.map D.int v3), .dat (D.int p1), .dat (D.int p2), .dat (D.lst (List.map (fun x : (List Int) => (D.ins 0 [(tupD x)])) v1)), .dat (D.ins 0 [(tupD v2)]), .none, .none, .none, .dat (D.ins 0 [(tupD v4)])], (X.e_r0 rfl), rfl, rfl⟩
      · skip
        have hz := Option.some.inj h
        subst hz
        exact ⟨[.own true (List.map D.int v3), .dat (D.int p1), .dat (D.int p2), .dat (D.lst (List.map (fun x : (List Int) => (D.ins 0 [(tupD x)])) v1)), .dat (D.ins 0 [(tupD v2)]), .none, .none, .none, .dat (D.ins 0 [(tupD v4)])], [.own true (List.map D.int v3), .dat (D.int p1), .dat (D.int p2), .dat (D.lst (List.map (fun x : (List Int) => (D.ins 0 [(tupD x)])) v1)), .dat (D.ins 0 [(tupD v2)]), .none, .none, .none, .dat (D.ins 0 [(tupD v4)])], rfl, Y.c_oneF q5 hc, rfl⟩) rfl
  refine Y.k_nx (l1 := [.own true (List.map D.int v3), .dat (D.int p1), .dat (D.int p2), .dat (D.lst (List.map (fun x : (List Int) => (D.ins 0 [(tupD x)])) v1)), .dat (D.ins 0 [(tupD v2)]), .dat (D.lst (List.map (fun x : (List Int) => (D.ins 0 [(tupD x)])) v8)), .none, .none, .none]) (Y.s_set (r := (R.new (List.map (fun x : (List Int) => (D.ins 0 [(tupD x)])) v8))) (l1 := [.own true (List.map D.int v3), .dat (D.int p1), .dat (D.int p2), .dat (D.lst (List.map (fun x : (List Int) => (D.ins 0 [(tupD x)])) v1)), .dat (D.ins 0 [(tupD v2)]), .none, .none, .none, .none]) (d := (D.lst (List.map (fun x : (List Int) => (D.ins 0 [(tupD x)])) v8))) q6 rfl rfl) ?_
  rcases cond_some h with ⟨hc, h⟩ | ⟨hc, h⟩
  · refine Y.k_T (Y.t_b (X.e_o2 (o := .eqN) (l1 := [.own true (List.map D.int v3), .dat (D.int p1), .dat (D.int p2), .dat (D.lst (List.map (fun x : (List Int) => (D.ins 0 [(tupD x)])) v1)), .dat (D.ins 0 [(tupD v2)]), .dat (D.lst (List.map (fun x : (List Int) => (D.ins 0 [(tupD x)])) v8)), .none, .none, .none]) (l2 := [.own true (List.map D.int v3), .dat (D.int p1), .dat (D.int p2), .dat (D.lst (List.map (fun x : (List Int) => (D.ins 0 [(tupD x)])) v1)), .dat (D.ins 0 [(tupD v2)]), .dat (D.lst (List.map (fun x : (List Int) => (D.ins 0 [(tupD x)])) v8)), .none, .none, .none]) (r1 := (R.val (D.lst (List.map (fun x : (List Int) => (D.ins 0 [(tupD x)])) v8)))) (r2 := (R.new [])) (d := (D.lst (List.map (fun x : (List Int) => (D.ins 0 [(tupD x)])) v8))) (d' := (D.lst [])) (r := (R.val (D.bl (List.isEmpty v8)))) (X.e_r0 rfl) (X.e_lst (ds := []) X.es_nil rfl) rfl rfl (p_eqN (F := (fun x : (List Int) => (D.ins 0 [(tupD x)]))) v8))) hc ?_
    obtain ⟨hz0, hz1⟩ := inj2 h
    subst hz0
    subst hz1
    exact Y.k_rt (Y.s_retV X.e_k) (Y.ends_rt rfl)
  · refine Y.k_F (Y.t_b (X.e_o2 (o := .eqN) (l1 := [.own true (List.map D.int v3), .dat (D.int p1), .dat (D.int p2), .dat (D.lst (List.map (fun x : (List Int) => (D.ins 0 [(tupD x)])) v1)), .dat (D.ins 0 [(tupD v2)]), .dat (D.lst (List.map (fun x : (List Int) => (D.ins 0 [(tupD x)])) v8)), .none, .none, .none]) (l2 := [.own true (List.map D.int v3), .dat (D.int p1), .dat (D.int p2), .dat (D.lst (List.map (fun x : (List Int) => (D.ins 0 [(tupD x)])) v1)), .dat (D.ins 0 [(tupD v2)]), .dat (D.lst (List.map (fun x : (List Int) => (D.ins 0 [(tupD x)])) v8)), .none, .none, .none]) (r1 := (R.val (D.lst (List.map (fun x : (List Int) => (D.ins 0 [(tupD x)])) v8)))) (r2 := (R.new [])) (d := (D.lst (List.map (fun x : (List Int) => (D.ins 0 [(tupD x)])) v8))) (d' := (D.lst [])) (r := (R.val (D.bl (List.isEmpty v8)))) (X.e_r0 rfl) (X.e_lst (ds := []) X.es_nil rfl) rfl rfl (p_eqN (F := (fun x : (List Int) => (D.ins 0 [(tupD x)]))) v8))) hc ?_
    refine Y.k_nil ?_
    obtain ⟨v9, v10, h7, h⟩ := bnd2_some h
    refine Y.k_nx (l1 := [.own true (List.map D.int v10), .dat (D.int p1), .dat (D.int p2), .dat (D.lst (List.map (fun x : (List Int) => (D.ins 0 [(tupD x)])) v1)), .dat (D.ins 0 [(tupD v2)]), .dat (D.lst (List.map (fun x : (List Int) => (D.ins 0 [(tupD x)])) v8)), .dat (D.ins 0 [(tupD v9)]), .none, .none]) (Y.s_set (r := (R.val (D.ins 0 [(tupD v9)]))) (l1 := [.own true (List.map D.int v10), .dat (D.int p1), .dat (D.int p2), .dat (D.lst (List.map (fun x : (List Int) => (D.ins 0 [(tupD x)])) v1)), .dat (D.ins 0 [(tupD v2)]), .dat (D.lst (List.map (fun x : (List Int) => (D.ins 0 [(tupD x)])) v8)), .none, .none, .none]) (d := (D.ins 0 [(tupD v9)])) (Y.e_call (rs := [(R.ref 0), (R.val (D.lst (List.map (fun x : (List Int) => (D.ins 0 [(tupD x)])) v8)))]) (l1 := [.own true (List.map D.int v3), .dat (D.int p1), .dat (D.int p2), .dat (D.lst (List.map (fun x : (List Int) => (D.ins 0 [(tupD x)])) v1)), .dat (D.ins 0 [(tupD v2)]), .dat (D.lst (List.map (fun x : (List Int) => (D.ins 0 [(tupD x)])) v8)), .none, .none, .none]) (r := (R.val (D.ins 0 [(tupD v9)]))) (X.es_cons (r := (R.ref 0)) (l1 := [.own true (List.map D.int v3), .dat (D.int p1), .dat (D.int p2), .dat (D.lst (List.map (fun x : (List Int) => (D.ins 0 [(tupD x)])) v1)), .dat (D.ins 0 [(tupD v2)]), .dat (D.lst (List.map (fun x : (List Int) => (D.ins 0 [(tupD x)])) v8)), .none, .none, .none]) (X.e_rO rfl) (X.es_cons (r := (R.val (D.lst (List.map (fun x : (List Int) => (D.ins 0 [(tupD x)])) v8)))) (l1 := [.own true (List.map D.int v3), .dat (D.int p1), .dat (D.int p2), .dat (D.lst (List.map (fun x : (List Int) => (D.ins 0 [(tupD x)])) v1)), .dat (D.ins 0 [(tupD v2)]), .dat (D.lst (List.map (fun x : (List Int) => (D.ins 0 [(tupD x)])) v8)), .none, .none, .none]) (X.e_r0 rfl) X.es_nil)) (Y.do_ref1 (i := 0) (es := (List.map D.int v3)) (es' := (List.map D.int v10)) (ds := [(D.lst (List.map (fun x : (List Int) => (D.ins 0 [(tupD x)])) v8))]) rfl (a12 (m := m + 7) h7))) rfl rfl) ?_
    obtain ⟨v13, h9, h⟩ := bnd_some h
    have q9 : ev Gd (callN Gd tb 40 (m + 9)) (.lc [8] (.v 8) (.seq (.r 5)) [.call 25 [.r 6, .r 8]] (.r 8)) [.own true (List.map D.int v10), .dat (D.int p1), .dat (D.int p2), .dat (D.lst (List.map (fun x : (List Int) => (D.ins 0 [(tupD x)])) v1)), .dat (D.ins 0 [(tupD v2)]), .dat (D.lst (List.map (fun x : (List Int) => (D.ins 0 [(tupD x)])) v8)), .dat (D.ins 0 [(tupD v9)]), .none, .none] = some ((R.new (List.map (fun x : (List Int) => (D.ins 0 [(tupD x)])) v13)), [.own true (List.map D.int v10), .dat (D.int p1), .dat (D.int p2), .dat (D.lst (List.map (fun x : (List Int) => (D.ins 0 [(tupD x)])) v1)), .dat (D.ins 0 [(tupD v2)]), .dat (D.lst (List.map (fun x : (List Int) => (D.ins 0 [(tupD x)])) v8)), .dat (D.ins 0 [(tupD v9)]), .none, .none]) := Y.e_lc (w := [.own true (List.map D.int v10), .dat (D.int p1), .dat (D.int p2), .dat (D.lst (List.map (fun x : (List Int) => (D.ins 0 [(tupD x)])) v1)), .dat (D.ins 0 [(tupD v2)]), .dat (D.lst (List.map (fun x : (List Int) => (D.ins 0 [(tupD x)])) v8)), .dat (D.ins 0 [(tupD v9)]), .none, .none]) (ga := (fun x : (List Int) => (D.ins 0 [(tupD x)]))) (gb := (fun x : (List Int) => (D.ins 0 [(tupD x)]))) (X.i_seq (r := (R.val (D.lst (List.map (fun x : (List Int) => (D.ins 0 [(tupD x)])) v8)))) (X.e_r0 rfl) rfl) rfl rfl h9 (by
        intro v11 o h
        try dsimp only at h
        obtain ⟨v12, h8, h⟩ := bnd_some h
        rcases cond_some h with ⟨hc, h⟩ | ⟨hc, h⟩
        · skip
          have hz := Option.some.inj h
          subst hz
          exact ⟨[.own true (List.map D.int v10), .dat (D.int p1), .dat (D.int p2), .dat (D.lst (List.map (fun x : (List Int) => (D.ins 0 [(tupD x)])) v1)), .dat (D.ins 0 [(tupD v2)]), .dat (D.lst (List.map (fun x : (List Int) => (D.ins 0 [(tupD x)])) v8)), .dat (D.ins 0 [(tupD v9)]), .none, .dat (D.ins 0 [(tupD v11)])], [.own true (List.map D.int v10), .dat (D.int p1), .dat (D.int p2), .dat (D.lst (List.map (fun x : (List Int) => (D.ins 0 [(tupD x)])) v1)), .dat (D.ins 0 [(tupD v2)]), .dat (D.lst (List.map (fun x : (List Int) => (D.ins 0 [(tupD x)])) v8)), .dat (D.ins 0 [(tupD v9)]), .none, .dat (D.ins 0 [(tupD v11)])], rfl, Y.c_oneT (Y.t_b (Y.e_call (rs := [(R.val (D.ins 0 [(tupD v9)])), (R.val (D.ins 0 [(tupD v11)]))]) (l1 := [.own true (List.map D.int v10), .dat (D.int p1), .dat (D.int p2), .dat (D.lst (List.map (fun x : (List Int) => (D.ins 0 [(tupD x)])) v1)), .dat (D.ins 0 [(tupD v2)]), .dat (D.lst (List.map (fun x : (List Int) => (D.ins 0 [(tupD x)])) v8)), .dat (D.ins 0 [(tupD v9)]), .none, .dat (D.ins 0 [(tupD v11)])]) (r := (R.val (D.bl v12))) (X.es_cons (r := (R.val (D.ins 0 [(tupD v9)]))) (l1 := [.own true (List.map D.int v10), .dat (D.int p1), .dat (D.int p2), .dat (D.lst (List.map (fun x : (List Int) => (D.ins 0 [(tupD x)])) v1)), .dat (D.ins 0 [(tupD v2)]), .dat (D.lst (List.map (fun x : (List Int) => (D.ins 0 [(tupD x)])) v8)), .dat (D.ins 0 [(tupD v9)]), .none, .dat (D.ins 0 [(tupD v11)])]) (X.e_r0 rfl) (X.es_cons (r := (R.val (D.ins 0 [(tupD v11)]))) (l1 := [.own true (List.map D.int v10), .dat (D.int p1), .dat (D.int p2), .dat (D.lst (List.map (fun x : (List Int) => (D.ins 0 [(tupD x)])) v1)), .dat (D.ins 0 [(tupD v2)]), .dat (D.lst (List.map (fun x : (List Int) => (D.ins 0 [(tupD x)])) v8)), .dat (D.ins 0 [(tupD v9)]), .none, .dat (D.ins 0 [(tupD v11)])]) (X.e_r0 rfl) X.es_nil)) (Y.do_val (ds := [(D.ins 0 [(tupD v9)]), (D.ins 0 [(tupD v11)])]) (a25 (m := m + 3) h8)))) hc, (R.val (D.ins 0 [(tupD v11)])), [.own true (List.map D.int v10), .dat (D.int p1), .dat (D.int p2), .dat (D.lst (List.map (fun x : (List Int) => (D.ins 0 [(tupD x)])) v1)), .dat (D.ins 0 [(tupD v2)]), .dat (D.lst (List.map (fun x : (List Int) => (D.ins 0 [(tupD x)])) v8)), .dat (D.ins 0 [(tupD v9)]), .none, .dat (D.ins 0 [(tupD v11)])], (X.e_r0 rfl), rfl, rfl⟩
        · skip
          have hz := Option.some.inj h
          subst hz
          exact ⟨[.own true (List.map D.int v10), .dat (D.int p1), .dat (D.int p2), .dat (D.lst (List.map (fun x : (List Int) => (D.ins 0 [(tupD x)])) v1)), .dat (D.ins 0 [(tupD v2)]), .dat (D.lst (List.map (fun x : (List Int) => (D.ins 0 [(tupD x)])) v8)), .dat (D.ins 0 [(tupD v9)]), .none, .dat (D.ins 0 [(tupD v11)])], [.own true (List.map D.int v10), .dat (D.int p1), .dat (D.int p2), .dat (D.lst (List.map (fun x : (List Int) => (D.ins 0 [(tupD x)])) v1)), .dat (D.ins 0 [(tupD v2)]), .dat (D.lst (List.map (fun x : (List Int) => (D.ins 0 [(tupD x)])) v8)), .dat (D.ins 0 [(tupD v9)]), .none, .dat (D.ins 0 [(tupD v11)])], rfl, Y.c_oneF (Y.t_b (Y.e_call (rs := [(R.val (D.ins 0 [(tupD v9)])), (R.val (D.ins 0 [(tupD v11)]))]) (l1 := [.own true (List.map D.int v10), .dat (D.int p1), .dat (D.int p2), .dat (D.lst (List.map (fun x : (List Int) => (D.ins 0 [(tupD x)])) v1)), .dat (D.ins 0 [(tupD v2)]), .dat (D.lst (List.map (fun x : (List Int) => (D.ins 0 [(tupD x)])) v8)), .dat (D.ins 0 [(tupD v9)]), .none, .dat (D.ins 0 [(tupD v11)])]) (r := (R.val (D.bl v12))) (X.es_cons (r := (R.val (D.ins 0 [(tupD v9)]))) (l1 := [.own true (List.map D.int v10), .dat (D.int p1), .dat (D.int p2), .dat (D.lst (List.map (fun x : (List Int) => (D.ins 0 [(tupD x)])) v1)), .dat (D.ins 0 [(tupD v2)]), .dat (D.lst (List.map (fun x : (List Int) => (D.ins 0 [(tupD x)])) v8)), .dat (D.ins 0 [(tupD v9)]), .none, .dat (D.ins 0 [(tupD v11)])]) (X.e_r0 rfl) (X.es_cons (r := (R.val (D.ins 0 [(tupD v11)]))) (l1 := [.own true (List.map D.int v10), .dat (D.int p1), .dat (D.int p2), .dat (D.lst (List.map (fun x : (List Int) => (D.ins 0 [(tupD x)])) v1)), .dat (D.ins 0 [(tupD v2)]), .dat (D.lst (List.map (fun x : (List Int) => (D.ins 0 [(tupD x)])) v8)), .dat (D.ins 0 [(tupD v9)]), .none, .dat (D.ins 0 [(tupD v11)])]) (X.e_r0 rfl) X.es_nil)) (Y.do_val (ds := [(D.ins 0 [(tupD v9)]), (D.ins 0 [(tupD v11)])]) (a25 (m := m + 3) h8)))) hc, rfl⟩) rfl
    refine Y.k_nx (l1 := [.own true (List.map D.int v10), .dat (D.int p1), .dat (D.int p2), .dat (D.lst (List.map (fun x : (List Int) => (D.ins 0 [(tupD x)])) v1)), .dat (D.ins 0 [(tupD v2)]), .dat (D.lst (List.map (fun x : (List Int) => (D.ins 0 [(tupD x)])) v8)), .dat (D.ins 0 [(tupD v9)]), .dat (D.lst (List.map (fun x : (List Int) => (D.ins 0 [(tupD x)])) v13)), .none]) (Y.s_set (r := (R.new (List.map (fun x : (List Int) => (D.ins 0 [(tupD x)])) v13))) (l1 := [.own true (List.map D.int v10), .dat (D.int p1), .dat (D.int p2), .dat (D.lst (List.map (fun x : (List Int) => (D.ins 0 [(tupD x)])) v1)), .dat (D.ins 0 [(tupD v2)]), .dat (D.lst (List.map (fun x : (List Int) => (D.ins 0 [(tupD x)])) v8)), .dat (D.ins 0 [(tupD v9)]), .none, .none]) (d := (D.lst (List.map (fun x : (List Int) => (D.ins 0 [(tupD x)])) v13))) q9 rfl rfl) ?_
    obtain ⟨v14, h10, h⟩ := bnd_some h
    obtain ⟨v15, h11, h⟩ := bnd_some h
    obtain ⟨hz0, hz1⟩ := inj2 h
    subst hz0
    subst hz1
    exact Y.k_rt (Y.s_retV (X.e_o2 (o := .eq) (l1 := [.own true (List.map D.int v10), .dat (D.int p1), .dat (D.int p2), .dat (D.lst (List.map (fun x : (List Int) => (D.ins 0 [(tupD x)])) v1)), .dat (D.ins 0 [(tupD v2)]), .dat (D.lst (List.map (fun x : (List Int) => (D.ins 0 [(tupD x)])) v8)), .dat (D.ins 0 [(tupD v9)]), .dat (D.lst (List.map (fun x : (List Int) => (D.ins 0 [(tupD x)])) v13)), .none]) (l2 := [.own true (List.map D.int v10), .dat (D.int p1), .dat (D.int p2), .dat (D.lst (List.map (fun x : (List Int) => (D.ins 0 [(tupD x)])) v1)), .dat (D.ins 0 [(tupD v2)]), .dat (D.lst (List.map (fun x : (List Int) => (D.ins 0 [(tupD x)])) v8)), .dat (D.ins 0 [(tupD v9)]), .dat (D.lst (List.map (fun x : (List Int) => (D.ins 0 [(tupD x)])) v13)), .none]) (r1 := (R.val (D.int v15))) (r2 := (R.val (D.int 0))) (d := (D.int v15)) (d' := (D.int 0)) (r := (R.val (D.bl (eqI v15 0)))) (Y.e_call (rs := [(R.val (D.lst (List.map (fun x : (List Int) => (D.ins 0 [(tupD x)])) v14)))]) (l1 := [.own true (List.map D.int v10), .dat (D.int p1), .dat (D.int p2), .dat (D.lst (List.map (fun x : (List Int) => (D.ins 0 [(tupD x)])) v1)), .dat (D.ins 0 [(tupD v2)]), .dat (D.lst (List.map (fun x : (List Int) => (D.ins 0 [(tupD x)])) v8)), .dat (D.ins 0 [(tupD v9)]), .dat (D.lst (List.map (fun x : (List Int) => (D.ins 0 [(tupD x)])) v13)), .none]) (r := (R.val (D.int v15))) (X.es_cons (r := (R.new (List.map (fun x : (List Int) => (D.ins 0 [(tupD x)])) v14))) (l1 := [.own true (List.map D.int v10), .dat (D.int p1), .dat (D.int p2), .dat (D.lst (List.map (fun x : (List Int) => (D.ins 0 [(tupD x)])) v1)), .dat (D.ins 0 [(tupD v2)]), .dat (D.lst (List.map (fun x : (List Int) => (D.ins 0 [(tupD x)])) v8)), .dat (D.ins 0 [(tupD v9)]), .dat (D.lst (List.map (fun x : (List Int) => (D.ins 0 [(tupD x)])) v13)), .none]) (X.e_o2 (o := .add) (l1 := [.own true (List.map D.int v10), .dat (D.int p1), .dat (D.int p2), .dat (D.lst (List.map (fun x : (List Int) => (D.ins 0 [(tupD x)])) v1)), .dat (D.ins 0 [(tupD v2)]), .dat (D.lst (List.map (fun x : (List Int) => (D.ins 0 [(tupD x)])) v8)), .dat (D.ins 0 [(tupD v9)]), .dat (D.lst (List.map (fun x : (List Int) => (D.ins 0 [(tupD x)])) v13)), .none]) (l2 := [.own true (List.map D.int v10), .dat (D.int p1), .dat (D.int p2), .dat (D.lst (List.map (fun x : (List Int) => (D.ins 0 [(tupD x)])) v1)), .dat (D.ins 0 [(tupD v2)]), .dat (D.lst (List.map (fun x : (List Int) => (D.ins 0 [(tupD x)])) v8)), .dat (D.ins 0 [(tupD v9)]), .dat (D.lst (List.map (fun x : (List Int) => (D.ins 0 [(tupD x)])) v13)), .none]) (r1 := (R.val (D.lst (List.map (fun x : (List Int) => (D.ins 0 [(tupD x)])) v13)))) (r2 := (R.new (List.map (fun x : (List Int) => (D.ins 0 [(tupD x)])) [v2]))) (d := (D.lst (List.map (fun x : (List Int) => (D.ins 0 [(tupD x)])) v13))) (d' := (D.lst (List.map (fun x : (List Int) => (D.ins 0 [(tupD x)])) [v2]))) (r := (R.new (List.map (fun x : (List Int) => (D.ins 0 [(tupD x)])) v14))) (X.e_r0 rfl) (X.e_lst (ds := [(D.ins 0 [(tupD v2)])]) (X.es_cons (r := (R.val (D.ins 0 [(tupD v2)]))) (l1 := [.own true (List.map D.int v10), .dat (D.int p1), .dat (D.int p2), .dat (D.lst (List.map (fun x : (List Int) => (D.ins 0 [(tupD x)])) v1)), .dat (D.ins 0 [(tupD v2)]), .dat (D.lst (List.map (fun x : (List Int) => (D.ins 0 [(tupD x)])) v8)), .dat (D.ins 0 [(tupD v9)]), .dat (D.lst (List.map (fun x : (List Int) => (D.ins 0 [(tupD x)])) v13)), .none]) (X.e_r0 rfl) X.es_nil) rfl) rfl rfl (p_addL (F := (fun x : (List Int) => (D.ins 0 [(tupD x)]))) h10)) X.es_nil) (Y.do_val (ds := [(D.lst (List.map (fun x : (List Int) => (D.ins 0 [(tupD x)])) v14))]) (a6 (m := m + 6) h11))) X.e_k rfl rfl (p_eq (F := D.int) eqe_int v15 0))) (Y.ends_rt rfl)
/-! law -/
def m27 (p0 : (List Int)) : Option Bool := bnd (m0 (p0) (0)) fun v1 => bnd (addL [v1] (cutT p0 (some 1) (some 2))) fun v2 => Y.bndS (Y.forT (ρ := Bool) (fun (s2 : Unit) (x3 : Int) => bnd (m1 (x3)) fun v5 => bnd2 (m2 (v5) (5)) fun v6 v7 => bnd2 (m2 (v7) (((1 + v6) + 1))) fun v8 v9 => bnd (m11 ((1 + v6)) (v8)) fun v10 => bnd (m6 (v10)) fun v11 => bnd2 (cond (!eqI v11 1) (some (true, v9)) (bnd2 (m26 (v9) ((minI (1 + v6) 4)) ((minI (minI v8 (1 + v6)) 4))) fun v12 v13 => some ((!v12), v13))) fun v14 v15 => cond v14 (some (.rt false)) (some (.nx ()))) () v2) (fun v16 => some true) (fun r => some r)
theorem a27 {m : Nat} {p0 : (List Int)} {r : Bool} (h : m27 p0 = some r) : callN Gd tb 40 (m + 11) 27 [.scr p0] = some ((R.val (D.bl r)), [.scr p0]) := by
  unfold m27 at h
  refine Y.call_of (d := f27) (l0 := [.scr p0, .none, .none, .none, .none]) rfl rfl rfl rfl ?_
  obtain ⟨v1, h1, h⟩ := bnd_some h
  obtain ⟨v2, h2, h⟩ := bnd_some h
  refine Y.k_for (L := (fun s2 : Unit => [.scr p0, .none, .none, .none, .none])) (g := D.int) (s0 := ()) (xs := v2) (RP := (fun r R0 l => R0 = (R.val (D.bl r)) ∧ lent [.scr p0] l = some [.scr p0])) (X.i_seq (r := (R.new (List.map D.int v2))) (X.e_o2 (o := .add) (l1 := [.scr p0, .none, .none, .none, .none]) (l2 := [.scr p0, .none, .none, .none, .none]) (r1 := (R.new (List.map D.int [v1]))) (r2 := (R.new (List.map D.int (cutT p0 (some 1) (some 2))))) (d := (D.lst (List.map D.int [v1]))) (d' := (D.lst (List.map D.int (cutT p0 (some 1) (some 2))))) (r := (R.new (List.map D.int v2))) (X.e_lst (ds := [(D.int v1)]) (X.es_cons (r := (R.val (D.int v1))) (l1 := [.scr p0, .none, .none, .none, .none]) (Y.e_call (rs := [(R.ref 0), (R.val (D.int 0))]) (l1 := [.scr p0, .none, .none, .none, .none]) (r := (R.val (D.int v1))) (X.es_cons (r := (R.ref 0)) (l1 := [.scr p0, .none, .none, .none, .none]) (Y.e_rS rfl) (X.es_cons (r := (R.val (D.int 0))) (l1 := [.scr p0, .none, .none, .none, .none]) X.e_k X.es_nil)) (Y.do_scr1 (i := 0) (ds := [(D.int 0)]) rfl (a0 (m := m + 9) h1))) X.es_nil) rfl) (Y.e_sSl (ns := p0) (u := (some 1)) (v := (some 2)) rfl (Y.o_s X.e_k) (Y.o_s X.e_k)) rfl rfl (p_addL (F := D.int) h2)) rfl) rfl h ?_ ?_ ?_
  · intro s2 x3 o h
    try dsimp only at h
    refine ⟨[.scr p0, .dat (D.int x3), .none, .none, .none], rfl, ?_⟩
    obtain ⟨v5, h3, h⟩ := bnd_some h
    refine Y.k_nx (l1 := [.scr p0, .dat (D.int x3), .own false (List.map D.int v5), .none, .none]) (Y.s_own (l1 := [.scr p0, .dat (D.int x3), .none, .none, .none]) (ds := (List.map D.int v5)) (Y.e_call (rs := [(R.val (D.int x3))]) (l1 := [.scr p0, .dat (D.int x3), .none, .none, .none]) (r := (R.new (List.map D.int v5))) (X.es_cons (r := (R.val (D.int x3))) (l1 := [.scr p0, .dat (D.int x3), .none, .none, .none]) (X.e_r0 rfl) X.es_nil) (Y.do_val (ds := [(D.int x3)]) (a1 (m := m + 9) h3))) rfl) ?_
    obtain ⟨v6, v7, h4, h⟩ := bnd2_some h
    refine Y.k_nx (l1 := [.scr p0, .dat (D.int x3), .own false (List.map D.int v7), .dat (D.int (1 + v6)), .none]) (Y.s_set (r := (R.val (D.int (1 + v6)))) (l1 := [.scr p0, .dat (D.int x3), .own false (List.map D.int v7), .none, .none]) (d := (D.int (1 + v6))) (X.e_o2 (o := .add) (l1 := [.scr p0, .dat (D.int x3), .own false (List.map D.int v5), .none, .none]) (l2 := [.scr p0, .dat (D.int x3), .own false (List.map D.int v7), .none, .none]) (r1 := (R.val (D.int 1))) (r2 := (R.val (D.int v6))) (d := (D.int 1)) (d' := (D.int v6)) (r := (R.val (D.int (1 + v6)))) X.e_k (Y.e_call (rs := [(R.ref 2), (R.val (D.int 5))]) (l1 := [.scr p0, .dat (D.int x3), .own false (List.map D.int v5), .none, .none]) (r := (R.val (D.int v6))) (X.es_cons (r := (R.ref 2)) (l1 := [.scr p0, .dat (D.int x3), .own false (List.map D.int v5), .none, .none]) (X.e_rO rfl) (X.es_cons (r := (R.val (D.int 5))) (l1 := [.scr p0, .dat (D.int x3), .own false (List.map D.int v5), .none, .none]) X.e_k X.es_nil)) (Y.do_ref1 (i := 2) (es := (List.map D.int v5)) (es' := (List.map D.int v7)) (ds := [(D.int 5)]) rfl (a2 (m := m + 9) h4))) rfl rfl rfl) rfl rfl) ?_
    obtain ⟨v8, v9, h5, h⟩ := bnd2_some h
    refine Y.k_nx (l1 := [.scr p0, .dat (D.int x3), .own false (List.map D.int v9), .dat (D.int (1 + v6)), .dat (D.int v8)]) (Y.s_set (r := (R.val (D.int v8))) (l1 := [.scr p0, .dat (D.int x3), .own false (List.map D.int v9), .dat (D.int (1 + v6)), .none]) (d := (D.int v8)) (Y.e_call (rs := [(R.ref 2), (R.val (D.int ((1 + v6) + 1)))]) (l1 := [.scr p0, .dat (D.int x3), .own false (List.map D.int v7), .dat (D.int (1 + v6)), .none]) (r := (R.val (D.int v8))) (X.es_cons (r := (R.ref 2)) (l1 := [.scr p0, .dat (D.int x3), .own false (List.map D.int v7), .dat (D.int (1 + v6)), .none]) (X.e_rO rfl) (X.es_cons (r := (R.val (D.int ((1 + v6) + 1)))) (l1 := [.scr p0, .dat (D.int x3), .own false (List.map D.int v7), .dat (D.int (1 + v6)), .none]) (X.e_o2 (o := .add) (l1 := [.scr p0, .dat (D.int x3), .own false (List.map D.int v7), .dat (D.int (1 + v6)), .none]) (l2 := [.scr p0, .dat (D.int x3), .own false (List.map D.int v7), .dat (D.int (1 + v6)), .none]) (r1 := (R.val (D.int (1 + v6)))) (r2 := (R.val (D.int 1))) (d := (D.int (1 + v6))) (d' := (D.int 1)) (r := (R.val (D.int ((1 + v6) + 1)))) (X.e_r0 rfl) X.e_k rfl rfl rfl) X.es_nil)) (Y.do_ref1 (i := 2) (es := (List.map D.int v7)) (es' := (List.map D.int v9)) (ds := [(D.int ((1 + v6) + 1))]) rfl (a2 (m := m + 9) h5))) rfl rfl) ?_
    obtain ⟨v10, h6, h⟩ := bnd_some h
    obtain ⟨v11, h7, h⟩ := bnd_some h
    obtain ⟨v14, v15, h9, h⟩ := bnd2_some h
    have q9 : evT Gd (callN Gd tb 40 (m + 10)) (.or (.o2 .ne (.call 6 [.call 11 [.r 3, .r 4]]) (.c (.int 1))) (.not (.call 26 [.r 2, .o2 .min2 (.r 3) (.c (.int 4)), .mn3 (.r 4) (.r 3) (.c (.int 4))]))) [.scr p0, .dat (D.int x3), .own false (List.map D.int v9), .dat (D.int (1 + v6)), .dat (D.int v8)] = some (v14, [.scr p0, .dat (D.int x3), .own false (List.map D.int v15), .dat (D.int (1 + v6)), .dat (D.int v8)]) := by
      rcases cond_some h9 with ⟨hc, h⟩ | ⟨hc, h⟩
      · skip
        obtain ⟨hz0, hz1⟩ := inj2 h
        subst hz0
        subst hz1
        exact Y.t_orT (Y.t_b (X.e_o2 (o := .ne) (l1 := [.scr p0, .dat (D.int x3), .own false (List.map D.int v9), .dat (D.int (1 + v6)), .dat (D.int v8)]) (l2 := [.scr p0, .dat (D.int x3), .own false (List.map D.int v9), .dat (D.int (1 + v6)), .dat (D.int v8)]) (r1 := (R.val (D.int v11))) (r2 := (R.val (D.int 1))) (d := (D.int v11)) (d' := (D.int 1)) (r := (R.val (D.bl (!eqI v11 1)))) (Y.e_call (rs := [(R.val (D.lst (List.map (fun x : (List Int) => (D.ins 0 [(tupD x)])) v10)))]) (l1 := [.scr p0, .dat (D.int x3), .own false (List.map D.int v9), .dat (D.int (1 + v6)), .dat (D.int v8)]) (r := (R.val (D.int v11))) (X.es_cons (r := (R.new (List.map (fun x : (List Int) => (D.ins 0 [(tupD x)])) v10))) (l1 := [.scr p0, .dat (D.int x3), .own false (List.map D.int v9), .dat (D.int (1 + v6)), .dat (D.int v8)]) (Y.e_call (rs := [(R.val (D.int (1 + v6))), (R.val (D.int v8))]) (l1 := [.scr p0, .dat (D.int x3), .own false (List.map D.int v9), .dat (D.int (1 + v6)), .dat (D.int v8)]) (r := (R.new (List.map (fun x : (List Int) => (D.ins 0 [(tupD x)])) v10))) (X.es_cons (r := (R.val (D.int (1 + v6)))) (l1 := [.scr p0, .dat (D.int x3), .own false (List.map D.int v9), .dat (D.int (1 + v6)), .dat (D.int v8)]) (X.e_r0 rfl) (X.es_cons (r := (R.val (D.int v8))) (l1 := [.scr p0, .dat (D.int x3), .own false (List.map D.int v9), .dat (D.int (1 + v6)), .dat (D.int v8)]) (X.e_r0 rfl) X.es_nil)) (Y.do_val (ds := [(D.int (1 + v6)), (D.int v8)]) (a11 (m := m + 1) h6))) X.es_nil) (Y.do_val (ds := [(D.lst (List.map (fun x : (List Int) => (D.ins 0 [(tupD x)])) v10))]) (a6 (m := m + 7) h7))) X.e_k rfl rfl (p_ne (F := D.int) eqe_int v11 1))) hc
      · skip
        obtain ⟨v12, v13, h8, h⟩ := bnd2_some h
        obtain ⟨hz0, hz1⟩ := inj2 h
        subst hz0
        subst hz1
        exact Y.t_orF (l1 := [.scr p0, .dat (D.int x3), .own false (List.map D.int v9), .dat (D.int (1 + v6)), .dat (D.int v8)]) (Y.t_b (X.e_o2 (o := .ne) (l1 := [.scr p0, .dat (D.int x3), .own false (List.map D.int v9), .dat (D.int (1 + v6)), .dat (D.int v8)]) (l2 := [.scr p0, .dat (D.int x3), .own false (List.map D.int v9), .dat (D.int (1 + v6)), .dat (D.int v8)]) (r1 := (R.val (D.int v11))) (r2 := (R.val (D.int 1))) (d := (D.int v11)) (d' := (D.int 1)) (r := (R.val (D.bl (!eqI v11 1)))) (Y.e_call (rs := [(R.val (D.lst (List.map (fun x : (List Int) => (D.ins 0 [(tupD x)])) v10)))]) (l1 := [.scr p0, .dat (D.int x3), .own false (List.map D.int v9), .dat (D.int (1 + v6)), .dat (D.int v8)]) (r := (R.val (D.int v11))) (X.es_cons (r := (R.new (List.map (fun x : (List Int) => (D.ins 0 [(tupD x)])) v10))) (l1 := [.scr p0, .dat (D.int x3), .own false (List.map D.int v9), .dat (D.int (1 + v6)), .dat (D.int v8)]) (Y.e_call (rs := [(R.val (D.int (1 + v6))), (R.val (D.int v8))]) (l1 := [.scr p0, .dat (D.int x3), .own false (List.map D.int v9), .dat (D.int (1 + v6)), .dat (D.int v8)]) (r := (R.new (List.map (fun x : (List Int) => (D.ins 0 [(tupD x)])) v10))) (X.es_cons (r := (R.val (D.int (1 + v6)))) (l1 := [.scr p0, .dat (D.int x3), .own false (List.map D.int v9), .dat (D.int (1 + v6)), .dat (D.int v8)]) (X.e_r0 rfl) (X.es_cons (r := (R.val (D.int v8))) (l1 := [.scr p0, .dat (D.int x3), .own false (List.map D.int v9), .dat (D.int (1 + v6)), .dat (D.int v8)]) (X.e_r0 rfl) X.es_nil)) (Y.do_val (ds := [(D.int (1 + v6)), (D.int v8)]) (a11 (m := m + 1) h6))) X.es_nil) (Y.do_val (ds := [(D.lst (List.map (fun x : (List Int) => (D.ins 0 [(tupD x)])) v10))]) (a6 (m := m + 7) h7))) X.e_k rfl rfl (p_ne (F := D.int) eqe_int v11 1))) hc (Y.t_not (Y.t_b (Y.e_call (rs := [(R.ref 2), (R.val (D.int (minI (1 + v6) 4))), (R.val (D.int (minI (minI v8 (1 + v6)) 4)))]) (l1 := [.scr p0, .dat (D.int x3), .own false (List.map D.int v9), .dat (D.int (1 + v6)), .dat (D.int v8)]) (r := (R.val (D.bl v12))) (X.es_cons (r := (R.ref 2)) (l1 := [.scr p0, .dat (D.int x3), .own false (List.map D.int v9), .dat (D.int (1 + v6)), .dat (D.int v8)]) (X.e_rO rfl) (X.es_cons (r := (R.val (D.int (minI (1 + v6) 4)))) (l1 := [.scr p0, .dat (D.int x3), .own false (List.map D.int v9), .dat (D.int (1 + v6)), .dat (D.int v8)]) (X.e_o2 (o := .min2) (l1 := [.scr p0, .dat (D.int x3), .own false (List.map D.int v9), .dat (D.int (1 + v6)), .dat (D.int v8)]) (l2 := [.scr p0, .dat (D.int x3), .own false (List.map D.int v9), .dat (D.int (1 + v6)), .dat (D.int v8)]) (r1 := (R.val (D.int (1 + v6)))) (r2 := (R.val (D.int 4))) (d := (D.int (1 + v6))) (d' := (D.int 4)) (r := (R.val (D.int (minI (1 + v6) 4)))) (X.e_r0 rfl) X.e_k rfl rfl (p_min (1 + v6) 4)) (X.es_cons (r := (R.val (D.int (minI (minI v8 (1 + v6)) 4)))) (l1 := [.scr p0, .dat (D.int x3), .own false (List.map D.int v9), .dat (D.int (1 + v6)), .dat (D.int v8)]) (Y.e_mn3 (i := v8) (j := (1 + v6)) (k := 4) (l1 := [.scr p0, .dat (D.int x3), .own false (List.map D.int v9), .dat (D.int (1 + v6)), .dat (D.int v8)]) (l2 := [.scr p0, .dat (D.int x3), .own false (List.map D.int v9), .dat (D.int (1 + v6)), .dat (D.int v8)]) (X.e_r0 rfl) (X.e_r0 rfl) X.e_k) X.es_nil))) (Y.do_ref1 (i := 2) (es := (List.map D.int v9)) (es' := (List.map D.int v13)) (ds := [(D.int (minI (1 + v6) 4)), (D.int (minI (minI v8 (1 + v6)) 4))]) rfl (a26 (m := m + 0) h8)))))
    rcases cond_some h with ⟨hc, h⟩ | ⟨hc, h⟩
    · refine Y.k_T q9 hc ?_
      have hz := Option.some.inj h
      subst hz
      refine Y.k_rt (Y.s_retV X.e_k) ?_
      exact ⟨_, _, rfl, rfl, rfl⟩
    · refine Y.k_F q9 hc ?_
      refine Y.k_nil ?_
      refine Y.k_nx (l1 := [.scr p0, .none, .none, .none, .none]) (Y.s_forget rfl rfl) ?_
      refine Y.k_nil ?_
      refine Y.k_end ?_
      have hz := Option.some.inj h
      subst hz
      exact .inl rfl
  · intro v16 h
    try dsimp only at h
    have hz := Option.some.inj h
    subst hz
    exact Y.k_rt (Y.s_retV X.e_k) (Y.ends_rt rfl)
  · intro r h R l rp
    try dsimp only at h
    cases h
    obtain ⟨hR, hl⟩ := rp
    subst hR
    exact .inl ⟨l, rfl, hl⟩
end T
end MP

/-! k29: the plain law (printed by gen29.py) -/
namespace MP
namespace T
open PySem L2
abbrev Row := List Int × List (List Int) × Int
def r10 : List Row := [([1], [[]], 1)]
def r11 : List Row := [([2], [[1]], 1)]
def r20 : List Row := [([1, 2], [[]], 1)]
def r21 : List Row := [([1, 4], [[2]], 1), ([2, 3], [[1], [2]], -1), ([3, 2], [[1]], 1)]
def r22 : List Row := [([3, 4], [[1, 2]], 1)]
def r30 : List Row := [([1, 2, 3], [[]], 1)]
def r31 : List Row := [([1, 2, 6], [[3]], 1), ([1, 3, 5], [[2], [3]], -1), ([1, 5, 3], [[2]], 1), ([2, 3, 4], [[1], [2], [3]], 1), ([2, 4, 3], [[1], [2]], -1), ([3, 2, 4], [[1], [3]], -1), ([4, 2, 3], [[1]], 1)]
def r32 : List Row := [([1, 5, 6], [[2, 3]], 1), ([2, 4, 6], [[1, 3], [2, 3]], -1), ([3, 4, 5], [[1, 2], [1, 3], [2, 3]], 1), ([3, 5, 4], [[1, 2], [2, 3]], -1), ([4, 2, 6], [[1, 3]], 1), ([4, 3, 5], [[1, 2], [1, 3]], -1), ([4, 5, 3], [[1, 2]], 1)]
def r33 : List Row := [([4, 5, 6], [[1, 2, 3]], 1)]
def r40 : List Row := [([1, 2, 3, 4], [[]], 1)]
def r41 : List Row := [([1, 2, 3, 8], [[4]], 1), ([1, 2, 4, 7], [[3], [4]], -1), ([1, 2, 7, 4], [[3]], 1), ([1, 3, 4, 6], [[2], [3], [4]], 1), ([1, 3, 6, 4], [[2], [3]], -1), ([1, 4, 3, 6], [[2], [4]], -1), ([1, 6, 3, 4], [[2]], 1), ([2, 3, 4, 5], [[1], [2], [3], [4]], -1), ([2, 3, 5, 4], [[1], [2], [3]], 1), ([2, 4, 3, 5], [[1], [2], [4]], 1), ([2, 5, 3, 4], [[1], [2]], -1), ([3, 2, 4, 5], [[1], [3], [4]], 1), ([3, 2, 5, 4], [[1], [3]], -1), ([4, 2, 3, 5], [[1], [4]], -1), ([5, 2, 3, 4], [[1]], 1)]
def r42 : List Row := [([1, 2, 7, 8], [[3, 4]], 1), ([1, 3, 6, 8], [[2, 4], [3, 4]], -1), ([1, 4, 6, 7], [[2, 3], [2, 4], [3, 4]], 1), ([1, 4, 7, 6], [[2, 3], [3, 4]], -1), ([1, 6, 3, 8], [[2, 4]], 1), ([1, 6, 4, 7], [[2, 3], [2, 4]], -1), ([1, 6, 7, 4], [[2, 3]], 1), ([2, 3, 5, 8], [[1, 4], [2, 4], [3, 4]], 1), ([2, 4, 5, 7], [[1, 3], [1, 4], [2, 3], [2, 4], [3, 4]], -1), ([2, 4, 7, 5], [[1, 3], [2, 3], [3, 4]], 1), ([2, 5, 3, 8], [[1, 4], [2, 4]], -1), ([2, 5, 4, 7], [[1, 3], [1, 4], [2, 3], [2, 4]], 1), ([2, 5, 7, 4], [[1, 3], [2, 3]], -1), ([3, 2, 5, 8], [[1, 4], [3, 4]], -1), ([3, 4, 5, 6], [[1, 2], [1, 3], [1, 4], [2, 3], [2, 4], [3, 4]], 1), ([3, 4, 6, 5], [[1, 2], [1, 3], [2, 3], [2, 4], [3, 4]], -1), ([3, 5, 4, 6], [[1, 2], [1, 3], [1, 4], [2, 3], [2, 4]], -1), ([3, 5, 6, 4], [[1, 2], [1, 3], [2, 3]], 1), ([3, 6, 4, 5], [[1, 2], [2, 3], [2, 4]], 1), ([3, 6, 5, 4], [[1, 2], [2, 3]], -1), ([4, 2, 5, 7], [[1, 3], [1, 4], [3, 4]], 1), ([4, 2, 7, 5], [[1, 3], [3, 4]], -1), ([4, 3, 5, 6], [[1, 2], [1, 3], [1, 4], [2, 4], [3, 4]], -1), ([4, 3, 6, 5], [[1, 2], [1, 3], [2, 4], [3, 4]], 1), ([4, 5, 3, 6], [[1, 2], [1, 4], [2, 4]], 1), ([4, 6, 3, 5], [[1, 2], [2, 4]], -1), ([5, 2, 3, 8], [[1, 4]], 1), ([5, 2, 4, 7], [[1, 3], [1, 4]], -1), ([5, 2, 7, 4], [[1, 3]], 1), ([5, 3, 4, 6], [[1, 2], [1, 3], [1, 4]], 1), ([5, 3, 6, 4], [[1, 2], [1, 3]], -1), ([5, 4, 3, 6], [[1, 2], [1, 4]], -1), ([5, 6, 3, 4], [[1, 2]], 1)]
def r43 : List Row := [([1, 6, 7, 8], [[2, 3, 4]], 1), ([2, 5, 7, 8], [[1, 3, 4], [2, 3, 4]], -1), ([3, 5, 6, 8], [[1, 2, 4], [1, 3, 4], [2, 3, 4]], 1), ([3, 6, 5, 8], [[1, 2, 4], [2, 3, 4]], -1), ([4, 5, 6, 7], [[1, 2, 3], [1, 2, 4], [1, 3, 4], [2, 3, 4]], -1), ([4, 5, 7, 6], [[1, 2, 3], [1, 3, 4], [2, 3, 4]], 1), ([4, 6, 5, 7], [[1, 2, 3], [1, 2, 4], [2, 3, 4]], 1), ([4, 6, 7, 5], [[1, 2, 3], [2, 3, 4]], -1), ([5, 2, 7, 8], [[1, 3, 4]], 1), ([5, 3, 6, 8], [[1, 2, 4], [1, 3, 4]], -1), ([5, 4, 6, 7], [[1, 2, 3], [1, 2, 4], [1, 3, 4]], 1), ([5, 4, 7, 6], [[1, 2, 3], [1, 3, 4]], -1), ([5, 6, 3, 8], [[1, 2, 4]], 1), ([5, 6, 4, 7], [[1, 2, 3], [1, 2, 4]], -1), ([5, 6, 7, 4], [[1, 2, 3]], 1)]
def r44 : List Row := [([5, 6, 7, 8], [[1, 2, 3, 4]], 1)]
/-! ### lists looked through -/
theorem lcG_some {α β : Type} {f : α → Option (Option β)} {g : α → β} {as : List α} (hl : as.length ≤ 1000000) (h : ∀ a ∈ as, f a = some (some (g a))) : lcG f as = some (as.map g) := by
  have key : ∀ as : List α, (∀ a ∈ as, f a = some (some (g a))) → lcT f as = some (as.map g) := fun as => by
    induction as with
    | nil => intro _; rfl
    | cons a as ih =>
      intro h
      rw [lcT, h a (List.mem_cons_self ..)]
      simp only [ih fun b hb => h b (List.mem_cons_of_mem _ hb), List.map_cons]
  unfold lcG
  rw [Nat.ble_eq_true_of_le hl]
  exact key as h
theorem lcG_filt {α β γ : Type} {f : β → Option (Option γ)} {e : α → β} {g : α → γ} {p : α → Bool} {rs : List α} (hl : rs.length ≤ 1000000) (h : ∀ a ∈ rs, f (e a) = cond (p a) (some (some (g a))) (some none)) : lcG f (rs.map e) = some ((rs.filter p).map g) := by
  have key : ∀ rs : List α, (∀ a ∈ rs, f (e a) = cond (p a) (some (some (g a))) (some none)) → lcT f (rs.map e) = some ((rs.filter p).map g) := fun rs => by
    induction rs with
    | nil => intro _; rfl
    | cons a as ih =>
      intro h
      have i := ih fun b hb => h b (List.mem_cons_of_mem _ hb)
      rw [List.map_cons, lcT, h a (List.mem_cons_self ..), List.filter_cons]
      cases hp : p a with
      | true => simp only [cond_true, i, if_true, List.map_cons]
      | false => simp only [cond_false, i, Bool.false_eq_true, if_false]
  unfold lcG
  rw [List.length_map, Nat.ble_eq_true_of_le hl]
  exact key rs h
/-- a filter, forced -/
def filt {α : Type} (p : α → Bool) (rs : List α) : Option (List α) := lcT (fun r => cond (p r) (some (some r)) (some none)) rs
theorem filt_eq {α : Type} (p : α → Bool) : ∀ rs : List α, filt p rs = some (rs.filter p)
  | [] => rfl
  | a :: as => by
    have i := filt_eq p as
    unfold filt at i ⊢
    rw [lcT, List.filter_cons]
    cases hp : p a with
    | true => simp only [cond_true, i, if_true]
    | false => simp only [cond_false, i, Bool.false_eq_true, if_false]
theorem eqLs_int : ∀ {x y : List Int}, eqLs eqI x y = true → x = y
  | [], [], _ => rfl
  | [], _ :: _, h => by cases h
  | _ :: _, [], h => by cases h
  | x :: xs, y :: ys, h => by
    rw [eqLs, Bool.and_eq_true] at h
    rw [(eqI_iff x y).mp h.1, eqLs_int h.2]
theorem eqLs_ints : ∀ {x y : List (List Int)}, eqLs (eqLs eqI) x y = true → x = y
  | [], [], _ => rfl
  | [], _ :: _, h => by cases h
  | _ :: _, [], h => by cases h
  | x :: xs, y :: ys, h => by
    rw [eqLs, Bool.and_eq_true] at h
    rw [eqLs_int h.1, eqLs_ints h.2]
/-! ### the rows -/
def sgnF (v1 : List Int) : Option (Option Int) := bnd (m5 (v1)) fun v2 => bnd (m4 (v2)) fun v3 => bnd (modT v3 2) fun v4 => bnd (mulT 2 v4) fun v5 => some (some (1 - v5))
def rowOk (n k : Int) (r : Row) : Bool := (match m14 r.1 with | some s => eqI s n | none => false) && ((match m15 r.1 with | some s => eqI s k | none => false) && ((match m23 r.1 with | some l => eqLs (eqLs eqI) l r.2.1 | none => false) && ((match sgnF r.1 with | some (some s) => eqI s r.2.2 | _ => false) && Nat.ble r.2.1.length 100)))
structure RowOk (n k : Int) (r : Row) : Prop where
  c : m14 r.1 = some n
  k : m15 r.1 = some k
  l : m23 r.1 = some r.2.1
  s : sgnF r.1 = some (some r.2.2)
  z : r.2.1.length ≤ 100
theorem rowOk_spec {n k : Int} {r : Row} (h : rowOk n k r = true) : RowOk n k r := by
  unfold rowOk at h
  simp only [Bool.and_eq_true] at h
  obtain ⟨h1, h2, h3, h4, h5⟩ := h
  refine ⟨?_, ?_, ?_, ?_, Nat.ble_eq.mp h5⟩
  · split at h1
    · rename_i s e
      rw [e, (eqI_iff _ _).mp h1]
    · cases h1
  · split at h2
    · rename_i s e
      rw [e, (eqI_iff _ _).mp h2]
    · cases h2
  · split at h3
    · rename_i s e
      rw [e, eqLs_ints h3]
    · cases h3
  · split at h4
    · rename_i s e
      rw [e, (eqI_iff _ _).mp h4]
    · cases h4
def rowsOk (n k : Int) (rs : List Row) : Bool := (match m11 n k with | some l => eqLs (eqLs eqI) l (rs.map (·.1)) | none => false) && (Nat.ble rs.length 400 && rs.all (rowOk n k))
theorem rowsOk_spec {n k : Int} {rs : List Row} (h : rowsOk n k rs = true) : m11 n k = some (rs.map (·.1)) ∧ rs.length ≤ 400 ∧ ∀ r ∈ rs, RowOk n k r := by
  unfold rowsOk at h
  simp only [Bool.and_eq_true] at h
  obtain ⟨h1, h2, h3⟩ := h
  refine ⟨?_, Nat.ble_eq.mp h2, fun r hr => rowOk_spec (List.all_eq_true.mp h3 r hr)⟩
  split at h1
  · rename_i l hl
    rw [hl, eqLs_ints h1]
  · cases h1
/-- what is_within says, by the rows -/
def wB (r q : Row) : Bool := r.2.1.all fun c => q.2.1.any fun y => (eqLs eqI) y c
theorem all_map {α : Type} (g : α → Bool) : ∀ l : List α, List.all (l.map g) id = l.all g
  | [] => rfl
  | a :: l => by simp only [List.map_cons, List.all_cons, id, all_map g l]
theorem within_eq {n k : Int} {r q : Row} (hr : RowOk n k r) (hq : RowOk n k q) : m25 r.1 q.1 = some (wB r q) := by
  have e1 : m16 r.1 q.1 = some () := by
    unfold m16
    rw [Z.bnd_eq hr.c, Z.bnd_eq hq.c, show eqI n n = true from Z.eqI_t rfl]
    show (bnd (m15 r.1) fun v3 => bnd (m15 q.1) fun v4 => cond (!eqI v3 v4) none (some ())) = _
    rw [Z.bnd_eq hr.k, Z.bnd_eq hq.k, show eqI k k = true from Z.eqI_t rfl]
    rfl
  have e2 : m24 q.1 r.2.1 = some (wB r q) := by
    unfold m24
    rw [Z.bnd_eq hq.l, Z.bnd_eq (lcG_some (g := fun c => List.any q.2.1 fun y => (eqLs eqI) y c) (Nat.le_trans hr.z (by decide)) fun _ _ => rfl), all_map]
    rfl
  unfold m25
  rw [Z.bnd_eq e1, Z.bnd_eq hr.l, Z.bnd_eq e2]
theorem sum_eq {n k : Int} {rs : List Row} (hl : rs.length ≤ 1000) (h : ∀ r ∈ rs, RowOk n k r) : m6 (rs.map (·.1)) = some (sumI (rs.map (·.2.2))) := by
  have e : lcG sgnF (rs.map (·.1)) = some (rs.map (·.2.2)) := by
    have := lcG_filt (f := sgnF) (e := fun r : Row => r.1) (g := fun r : Row => r.2.2) (p := fun _ => true) (rs := rs) (Nat.le_trans hl (by decide)) fun r hr => (h r hr).s
    rw [this, List.filter_eq_self.mpr fun _ _ => rfl]
  unfold m6
  show (bnd (lcG sgnF (rs.map (·.1))) fun v6 => some (sumI v6)) = _
  rw [Z.bnd_eq e]
theorem one_eq {m : Nat} {w : List Int} {rs : List (List Int)} (hw : Z.IsW m w) (hm : m < 2 ^ 40) (h0 : rs ≠ []) (hl : rs.length ≤ 1000) : ∃ x w', m12 w rs = some (x, w') ∧ x ∈ rs ∧ Z.IsW (m + 1) w' := by
  have h1 : 0 < rs.length := List.length_pos_iff.mpr h0
  obtain ⟨i, w', d1, d2, d3, hw'⟩ := Z.drawsA m w (rs.length : Int) hw (by omega) (by omega) hm
  obtain ⟨j, rfl⟩ : ∃ j : Nat, i = (j : Int) := ⟨i.toNat, by omega⟩
  have hj : j < rs.length := by omega
  refine ⟨rs[j], w', ?_, List.getElem_mem hj, hw'⟩
  unfold m12
  rw [Z.bnd2_eq (show m2 w ((rs.length : Nat) : Int) = some ((j : Int), w') from d1), Z.ix_at, List.getElem?_eq_getElem hj]
  rfl
/-! ### between two -/
def lowOk (U : List Row) (top low : Row) : Bool := match filt (wB low) U with
  | some B => eqI (sumI ((B ++ [top]).map (·.2.2))) 0
  | none => false
def topOk (rs : List Row) (top : Row) : Bool := match filt (fun r => !(eqLs eqI r.1 top.1) && wB r top) rs with
  | some U => List.isEmpty U || U.all (lowOk U top)
  | none => false
theorem between_eq {n k : Int} {rs : List Row} {w : List Int} {m : Nat} (hw : Z.IsW m w) (hm : m < 2 ^ 30) (h : m11 n k = some (rs.map (·.1))) (hl : rs.length ≤ 400) (hr : ∀ r ∈ rs, RowOk n k r) (h0 : rs ≠ []) (hc : rs.all (topOk rs) = true) : ∃ w', m26 w n k = some (true, w') := by
  obtain ⟨x, w1, e1, hx, hw1⟩ := one_eq (rs := rs.map (·.1)) hw (by omega) (by simpa using h0) (by rw [List.length_map]; omega)
  obtain ⟨top, ht, rfl⟩ := List.mem_map.mp hx
  have htop := List.all_eq_true.mp hc top ht
  unfold m26
  rw [Z.bnd_eq h, Z.bnd2_eq e1]
  have eU : lcG (fun v4 : (List Int) => bnd (m13 (v4) (top.1)) fun v5 => bnd (cond (!v5) (bnd (m25 (v4) (top.1)) fun v6 => some v6) (some false)) fun v7 => cond v7 (some (some v4)) (some none)) (rs.map (·.1)) = some ((rs.filter (fun r => !(eqLs eqI r.1 top.1) && wB r top)).map (·.1)) := by
    refine lcG_filt (e := fun r : Row => r.1) (g := fun r : Row => r.1) (Nat.le_trans hl (by decide)) fun r hr' => ?_
    show (bnd (some (true && eqLs eqI r.1 top.1)) fun v5 => bnd (cond (!v5) (bnd (m25 r.1 top.1) fun v6 => some v6) (some false)) fun v7 => cond v7 (some (some r.1)) (some none)) = _
    rw [Z.bnd_eq rfl, within_eq (hr r hr') (hr top ht)]
    cases eqLs eqI r.1 top.1 <;> rfl
  rw [Z.bnd_eq eU]
  unfold topOk at htop
  rw [filt_eq] at htop
  replace htop : (List.isEmpty (rs.filter (fun r => !(eqLs eqI r.1 top.1) && wB r top)) || (rs.filter (fun r => !(eqLs eqI r.1 top.1) && wB r top)).all (lowOk (rs.filter (fun r => !(eqLs eqI r.1 top.1) && wB r top)) top)) = true := htop
  have hU : ∀ r ∈ rs.filter (fun r => !(eqLs eqI r.1 top.1) && wB r top), RowOk n k r := fun r h => hr r (List.mem_filter.mp h).1
  have lU : (rs.filter (fun r => !(eqLs eqI r.1 top.1) && wB r top)).length ≤ 400 := Nat.le_trans (List.length_filter_le ..) hl
  generalize rs.filter (fun r => !(eqLs eqI r.1 top.1) && wB r top) = U at htop hU lU
  cases U with
  | nil => exact ⟨w1, rfl⟩
  | cons u U =>
    replace htop : (u :: U).all (lowOk (u :: U) top) = true := htop
    generalize hV : u :: U = V at htop hU lU
    have hV0 : V.map (fun r : Row => r.1) ≠ [] := by subst hV; simp
    have hVe : List.isEmpty (V.map (fun r : Row => r.1)) = false := by subst hV; rfl
    rw [hVe]
    show ∃ w', (bnd2 (m12 w1 (V.map (·.1))) fun v9 v10 => bnd (lcG (fun v11 : (List Int) => bnd (m25 (v9) (v11)) fun v12 => cond v12 (some (some v11)) (some none)) (V.map (·.1))) fun v13 => bnd (addL v13 [top.1]) fun v14 => bnd (m6 (v14)) fun v15 => some ((eqI v15 0), v10)) = some (true, w')
    obtain ⟨y, w2, e2, hy, _⟩ := one_eq hw1 (by omega) hV0 (by rw [List.length_map]; omega)
    obtain ⟨low, hlow, rfl⟩ := List.mem_map.mp hy
    have h5 := List.all_eq_true.mp htop low hlow
    rw [Z.bnd2_eq e2]
    have eB : lcG (fun v11 : (List Int) => bnd (m25 (low.1) (v11)) fun v12 => cond v12 (some (some v11)) (some none)) (V.map (·.1)) = some ((V.filter (wB low)).map (·.1)) := by
      refine lcG_filt (e := fun r : Row => r.1) (g := fun r : Row => r.1) (Nat.le_trans lU (by decide)) fun r hr' => ?_
      show (bnd (m25 low.1 r.1) fun v12 => cond v12 (some (some r.1)) (some none)) = _
      rw [within_eq (hU low hlow) (hU r hr')]
      rfl
    rw [Z.bnd_eq eB]
    have lB : (V.filter (wB low)).length ≤ 400 := Nat.le_trans (List.length_filter_le ..) lU
    have hB : ∀ r ∈ V.filter (wB low) ++ [top], RowOk n k r := fun r h => by
      rcases List.mem_append.mp h with h | h
      · exact hU r (List.mem_filter.mp h).1
      · rw [List.mem_singleton.mp h]; exact hr top ht
    rw [Z.bnd_eq (Z.addL_le (xs := (V.filter (wB low)).map (·.1)) (ys := [top.1]) (by rw [List.length_map]; simp; omega))]
    have e6 := sum_eq (rs := V.filter (wB low) ++ [top]) (by rw [List.length_append]; simp; omega) hB
    rw [List.map_append] at e6
    rw [Z.bnd_eq (show m6 ((V.filter (wB low)).map (·.1) ++ [top.1]) = _ from e6)]
    unfold lowOk at h5
    rw [filt_eq] at h5
    rw [← List.map_append] at *
    exact ⟨w2, by rw [show eqI (sumI ((V.filter (wB low) ++ [top]).map (·.2.2))) 0 = true from h5]⟩
/-! ### the tables -/
def sumOk (n k : Int) : Bool := match m11 n k with
  | some l => match m6 l with
    | some s => eqI s 1
    | none => false
  | none => false
theorem sumOk_spec {n k : Int} (h : sumOk n k = true) : ∃ l, m11 n k = some l ∧ m6 l = some 1 := by
  unfold sumOk at h
  split at h
  · rename_i l hl
    split at h
    · rename_i s hs
      exact ⟨l, hl, by rw [hs, (eqI_iff _ _).mp h]⟩
    · cases h
  · cases h
theorem su10 : sumOk 1 0 = true := by decide +kernel
theorem su11 : sumOk 1 1 = true := by decide +kernel
theorem su20 : sumOk 2 0 = true := by decide +kernel
theorem su21 : sumOk 2 1 = true := by decide +kernel
theorem su22 : sumOk 2 2 = true := by decide +kernel
theorem su30 : sumOk 3 0 = true := by decide +kernel
theorem su31 : sumOk 3 1 = true := by decide +kernel
theorem su32 : sumOk 3 2 = true := by decide +kernel
theorem su33 : sumOk 3 3 = true := by decide +kernel
theorem su40 : sumOk 4 0 = true := by decide +kernel
theorem su41 : sumOk 4 1 = true := by decide +kernel
theorem su42 : sumOk 4 2 = true := by decide +kernel
theorem su43 : sumOk 4 3 = true := by decide +kernel
theorem su44 : sumOk 4 4 = true := by decide +kernel
theorem su50 : sumOk 5 0 = true := by decide +kernel
theorem su51 : sumOk 5 1 = true := by decide +kernel
theorem su52 : sumOk 5 2 = true := by decide +kernel
theorem su53 : sumOk 5 3 = true := by decide +kernel
theorem su54 : sumOk 5 4 = true := by decide +kernel
theorem su55 : sumOk 5 5 = true := by decide +kernel
theorem ok10 : rowsOk 1 0 r10 = true := by decide +kernel
theorem be10 : r10.all (topOk r10) = true := by decide +kernel
theorem ok11 : rowsOk 1 1 r11 = true := by decide +kernel
theorem be11 : r11.all (topOk r11) = true := by decide +kernel
theorem ok20 : rowsOk 2 0 r20 = true := by decide +kernel
theorem be20 : r20.all (topOk r20) = true := by decide +kernel
theorem ok21 : rowsOk 2 1 r21 = true := by decide +kernel
theorem be21 : r21.all (topOk r21) = true := by decide +kernel
theorem ok22 : rowsOk 2 2 r22 = true := by decide +kernel
theorem be22 : r22.all (topOk r22) = true := by decide +kernel
theorem ok30 : rowsOk 3 0 r30 = true := by decide +kernel
theorem be30 : r30.all (topOk r30) = true := by decide +kernel
theorem ok31 : rowsOk 3 1 r31 = true := by decide +kernel
theorem be31 : r31.all (topOk r31) = true := by decide +kernel
theorem ok32 : rowsOk 3 2 r32 = true := by decide +kernel
theorem be32 : r32.all (topOk r32) = true := by decide +kernel
theorem ok33 : rowsOk 3 3 r33 = true := by decide +kernel
theorem be33 : r33.all (topOk r33) = true := by decide +kernel
theorem ok40 : rowsOk 4 0 r40 = true := by decide +kernel
theorem be40 : r40.all (topOk r40) = true := by decide +kernel
theorem ok41 : rowsOk 4 1 r41 = true := by decide +kernel
theorem be41 : r41.all (topOk r41) = true := by decide +kernel
theorem ok42 : rowsOk 4 2 r42 = true := by decide +kernel
theorem be42 : r42.all (topOk r42) = true := by decide +kernel
theorem ok43 : rowsOk 4 3 r43 = true := by decide +kernel
theorem be43 : r43.all (topOk r43) = true := by decide +kernel
theorem ok44 : rowsOk 4 4 r44 = true := by decide +kernel
theorem be44 : r44.all (topOk r44) = true := by decide +kernel
theorem sums {n k : Nat} (h1 : 0 < n) (h5 : n ≤ 5) (hk : k ≤ n) : ∃ l, m11 (n : Int) (k : Int) = some l ∧ m6 l = some 1 := by
  have hn : n = 1 ∨ n = 2 ∨ n = 3 ∨ n = 4 ∨ n = 5 := by omega
  rcases hn with rfl | rfl | rfl | rfl | rfl
  · have hk : k = 0 ∨ k = 1 := by omega
    rcases hk with rfl | rfl
    · exact sumOk_spec su10
    · exact sumOk_spec su11
  · have hk : k = 0 ∨ k = 1 ∨ k = 2 := by omega
    rcases hk with rfl | rfl | rfl
    · exact sumOk_spec su20
    · exact sumOk_spec su21
    · exact sumOk_spec su22
  · have hk : k = 0 ∨ k = 1 ∨ k = 2 ∨ k = 3 := by omega
    rcases hk with rfl | rfl | rfl | rfl
    · exact sumOk_spec su30
    · exact sumOk_spec su31
    · exact sumOk_spec su32
    · exact sumOk_spec su33
  · have hk : k = 0 ∨ k = 1 ∨ k = 2 ∨ k = 3 ∨ k = 4 := by omega
    rcases hk with rfl | rfl | rfl | rfl | rfl
    · exact sumOk_spec su40
    · exact sumOk_spec su41
    · exact sumOk_spec su42
    · exact sumOk_spec su43
    · exact sumOk_spec su44
  · have hk : k = 0 ∨ k = 1 ∨ k = 2 ∨ k = 3 ∨ k = 4 ∨ k = 5 := by omega
    rcases hk with rfl | rfl | rfl | rfl | rfl | rfl
    · exact sumOk_spec su50
    · exact sumOk_spec su51
    · exact sumOk_spec su52
    · exact sumOk_spec su53
    · exact sumOk_spec su54
    · exact sumOk_spec su55
theorem betw {n k : Nat} {w : List Int} {m : Nat} (hw : Z.IsW m w) (hm : m < 2 ^ 30) (h1 : 0 < n) (h4 : n ≤ 4) (hk : k ≤ n) : ∃ w', m26 w (n : Int) (k : Int) = some (true, w') := by
  have hn : n = 1 ∨ n = 2 ∨ n = 3 ∨ n = 4 := by omega
  rcases hn with rfl | rfl | rfl | rfl
  · have hk : k = 0 ∨ k = 1 := by omega
    rcases hk with rfl | rfl
    · obtain ⟨z1, z2, z3⟩ := rowsOk_spec ok10
      exact between_eq hw hm z1 z2 z3 (by unfold r10; exact List.cons_ne_nil _ _) be10
    · obtain ⟨z1, z2, z3⟩ := rowsOk_spec ok11
      exact between_eq hw hm z1 z2 z3 (by unfold r11; exact List.cons_ne_nil _ _) be11
  · have hk : k = 0 ∨ k = 1 ∨ k = 2 := by omega
    rcases hk with rfl | rfl | rfl
    · obtain ⟨z1, z2, z3⟩ := rowsOk_spec ok20
      exact between_eq hw hm z1 z2 z3 (by unfold r20; exact List.cons_ne_nil _ _) be20
    · obtain ⟨z1, z2, z3⟩ := rowsOk_spec ok21
      exact between_eq hw hm z1 z2 z3 (by unfold r21; exact List.cons_ne_nil _ _) be21
    · obtain ⟨z1, z2, z3⟩ := rowsOk_spec ok22
      exact between_eq hw hm z1 z2 z3 (by unfold r22; exact List.cons_ne_nil _ _) be22
  · have hk : k = 0 ∨ k = 1 ∨ k = 2 ∨ k = 3 := by omega
    rcases hk with rfl | rfl | rfl | rfl
    · obtain ⟨z1, z2, z3⟩ := rowsOk_spec ok30
      exact between_eq hw hm z1 z2 z3 (by unfold r30; exact List.cons_ne_nil _ _) be30
    · obtain ⟨z1, z2, z3⟩ := rowsOk_spec ok31
      exact between_eq hw hm z1 z2 z3 (by unfold r31; exact List.cons_ne_nil _ _) be31
    · obtain ⟨z1, z2, z3⟩ := rowsOk_spec ok32
      exact between_eq hw hm z1 z2 z3 (by unfold r32; exact List.cons_ne_nil _ _) be32
    · obtain ⟨z1, z2, z3⟩ := rowsOk_spec ok33
      exact between_eq hw hm z1 z2 z3 (by unfold r33; exact List.cons_ne_nil _ _) be33
  · have hk : k = 0 ∨ k = 1 ∨ k = 2 ∨ k = 3 ∨ k = 4 := by omega
    rcases hk with rfl | rfl | rfl | rfl | rfl
    · obtain ⟨z1, z2, z3⟩ := rowsOk_spec ok40
      exact between_eq hw hm z1 z2 z3 (by unfold r40; exact List.cons_ne_nil _ _) be40
    · obtain ⟨z1, z2, z3⟩ := rowsOk_spec ok41
      exact between_eq hw hm z1 z2 z3 (by unfold r41; exact List.cons_ne_nil _ _) be41
    · obtain ⟨z1, z2, z3⟩ := rowsOk_spec ok42
      exact between_eq hw hm z1 z2 z3 (by unfold r42; exact List.cons_ne_nil _ _) be42
    · obtain ⟨z1, z2, z3⟩ := rowsOk_spec ok43
      exact between_eq hw hm z1 z2 z3 (by unfold r43; exact List.cons_ne_nil _ _) be43
    · obtain ⟨z1, z2, z3⟩ := rowsOk_spec ok44
      exact between_eq hw hm z1 z2 z3 (by unfold r44; exact List.cons_ne_nil _ _) be44
theorem turn (x3 : Int) : (bnd (m1 (x3)) fun v5 => bnd2 (m2 (v5) (5)) fun v6 v7 => bnd2 (m2 (v7) (((1 + v6) + 1))) fun v8 v9 => bnd (m11 ((1 + v6)) (v8)) fun v10 => bnd (m6 (v10)) fun v11 => bnd2 (cond (!eqI v11 1) (some (true, v9)) (bnd2 (m26 (v9) ((minI (1 + v6) 4)) ((minI (minI v8 (1 + v6)) 4))) fun v12 v13 => some ((!v12), v13))) fun v14 v15 => cond v14 (some (Flow.rt (σ := Unit) (ρ := Bool) false)) (some (.nx ()))) = some (.nx ()) := by
  obtain ⟨w, e1, hw⟩ := Z.wellsA x3
  rw [Z.bnd_eq (show m1 x3 = some w from e1)]
  obtain ⟨x, w1, d1, d2, d3, hw1⟩ := Z.drawsA 0 w 5 hw (by decide) (by decide) (by decide)
  rw [Z.bnd2_eq (show m2 w 5 = some (x, w1) from d1)]
  obtain ⟨n, hn⟩ : ∃ n : Nat, 1 + x = (n : Int) := ⟨(1 + x).toNat, by omega⟩
  rw [hn]
  obtain ⟨y, w2, f1, f2, f3, hw2⟩ := Z.drawsA _ w1 ((n : Int) + 1) hw1 (by omega) (by omega) (by decide)
  rw [Z.bnd2_eq (show m2 w1 ((n : Int) + 1) = some (y, w2) from f1)]
  obtain ⟨k, rfl⟩ : ∃ k : Nat, y = (k : Int) := ⟨y.toNat, by omega⟩
  obtain ⟨l, g1, g2⟩ := sums (n := n) (k := k) (by omega) (by omega) (by omega)
  rw [Z.bnd_eq g1, Z.bnd_eq g2]
  have em1 : minI (n : Int) 4 = ((min n 4 : Nat) : Int) := by
    rw [← Y.min_if]
    split <;> omega
  have em2 : minI (minI (k : Int) (n : Int)) 4 = ((min k 4 : Nat) : Int) := by
    rw [← Y.min_if, ← Y.min_if]
    split <;> split <;> omega
  obtain ⟨w3, q⟩ := betw (n := min n 4) (k := min k 4) hw2 (by decide) (by omega) (by omega) (by omega)
  rw [em1, em2]
  show (bnd2 (bnd2 (m26 w2 ((min n 4 : Nat) : Int) ((min k 4 : Nat) : Int)) fun v12 v13 => some ((!v12), v13)) fun v14 v15 => cond v14 (some (Flow.rt (σ := Unit) (ρ := Bool) false)) (some (.nx ()))) = some (.nx ())
  rw [Z.bnd2_eq q]
  rfl
theorem law_plain (ns : List Int) (hl : ns.length ≤ 63) : m27 ns = some true := by
  obtain ⟨xs, hx⟩ := Z.cells (ns := ns) (k := 2) hl
  unfold m27
  show bnd (Z.cellT ns 0) (fun v1 => bnd (addL [v1] (cutT ns (some 1) (some 2))) fun v2 => Y.bndS (Y.forT (ρ := Bool) (fun (s2 : Unit) (x3 : Int) => bnd (m1 (x3)) fun v5 => bnd2 (m2 (v5) (5)) fun v6 v7 => bnd2 (m2 (v7) (((1 + v6) + 1))) fun v8 v9 => bnd (m11 ((1 + v6)) (v8)) fun v10 => bnd (m6 (v10)) fun v11 => bnd2 (cond (!eqI v11 1) (some (true, v9)) (bnd2 (m26 (v9) ((minI (1 + v6) 4)) ((minI (minI v8 (1 + v6)) 4))) fun v12 v13 => some ((!v12), v13))) fun v14 v15 => cond v14 (some (.rt false)) (some (.nx ()))) () v2) (fun v16 => some true) (fun r => some r)) = some true
  obtain ⟨c, hc⟩ := Z.cell0 ns
  rw [Z.bnd_eq hc] at hx ⊢
  rw [Z.bnd_eq hx, Z.for_all (fun x _ => turn x)]
  rfl
theorem law_true (ns : List Int) (hl : ns.length ≤ 63) : ∃ a', callN Gd (es.map (·.d)) 40 depth 27 [.scr ns] = some (.val (.bl true), a') :=
  ⟨_, a27 (m := depth - 11) (law_plain ns hl)⟩
end T
end MP

open PySem PySem.W PySem.Calls PyProof.Rows
theorem PySem.Challenge.cw_rillwise_k29_whole_even_and_odd_sizes_holds : PySem.Challenge.rw_rillwise_k29_whole_even_and_odd_sizes.Holds := by
  w_on; o_law
  refine HandSHeadRun.head_any (r := MP.T.Rw) (q := view MP.T.Rw.prog [31]) (H := MP.T.hk) (ob := MP.T.obx) (M := 4000) (loose := MP.T.loose)
    (d := HandSHeadRun.topDef MP.T.Rw.prog 31) (kwd := []) MP.T.obx_eq (by kernel_rfl) (fun s => by kernel_rfl) MP.T.run (by kernel_rfl)
    (by kernel_rfl) (by kernel_rfl) (by rfl) (by first | assumption | decide +kernel) (by decide +kernel) ⟨rfl, rfl, rfl, rfl, rfl, by decide +kernel⟩ ?hw ?hc
  case hw => w_witness2
  case hc =>
    refine MP.walk_g (l := PySem.Challenge.rw_rillwise_k29_whole_even_and_odd_sizes) (n := 63) (k := MP.T.depth) (x := "_law_script") (CX := L2.CX0) rfl (by decide) (by kernel_rfl) ⟨rfl, by decide, by decide⟩ ?F (fun _ _ _ _ z => z)
    intro w mg fa h Y N hm0
    obtain ⟨K, KX, cx⟩ := Y
    have c := cx.t.d
    have hm : mg "law" = some (.ref fa) := by
      have e : (HandSHeadRun.topDef MP.T.Rw.prog 31).name = ("law" : PySem.Str) := by kernel_rfl
      exact (congrArg mg e).symm.trans hm0
    have X := MP.facts_of (G := MP.T.Gd) (cn := MP.T.cn) KX N c cx.more MP.T.eoks MP.T.tabfa
    obtain ⟨fd, Fd⟩ := c.def_ 27 (d := MP.T.e27.dd) rfl
    have e1 := hm.symm.trans (He.glo_ok KX N (c.fact 19 (f := .glo "law") rfl))
    cases e1
    exact MP.law_end KX X MP.T.look (j := 27) (e := MP.T.e27) rfl rfl rfl (fun F s u => L2.FunD.bindsA (ps := ["_law_script"]) F (fun _ _ _ _ _ _ us hl => match us, hl with | [_], _ => rfl) s [u] rfl) ⟨fd, Fd⟩ MP.T.eo27.sc MP.T.law_true

