import PyProof.Rows.All
import Wide.All
import OpenK.AllK
import Wide.FinOn
import HandS.ForExc
import HandS.ExcIs
import HandS.TryMany
import KE.KExcSuper
import HandS.Defaults
import HandS.HeadWalk
import KE.KExcIs
import HandS.ForMost
import HandS.Evl
import HandS.Walk
import HandS.Deep
import HandS.IsInst
import HandS.Wide
import HandS.SetKeys
import HandS.ExcOwn
import KE.DataFind
import HandS.ExcField
import HandS.Style
import HandS.Lambda
import HandS.Property
import HandS.ListItems
import HandS.WordsDict
import HandS.NoneIn
import HandS.Small
import HandS.ClsMeth
import HandS.IterVal
import HandS.OwnIter
import KE.KeyNested
import KE.KDictKeyed
import HandS.TupLe
import HandS.MakeKwOnly
import HandS.Star
import KE.KParD
import HandS.DictComp
import HandS.Conv
import HandS.TupLen
import KE.SortKeyHeap
import HandS.SortKw
import HandS.ExcValue
import KE.KOpsOwn
import HandS.EndTab
import HandS.Strs
import PyProof.MeetsIn
import PyProof.TwoTypes
import PyProof.Rows.TupDisplay
import KE.KDictCopyH
import PySem.Challenge.RW_tiredpots_k05_value_of_a_form
import HandS.EndBits
import KE.RegKSuper
set_option Elab.async false
set_option linter.all false
set_option maxRecDepth 100000
set_option maxHeartbeats 2000000
namespace L2
open PySem PySem.Spec PyProof.Rows
/-! ### defs called where an exception is handled -/
structure RoomW (k : Nat) (A : Around) : Prop where
  dp : A.depth + 3 * k + 5 < recursionLimit
  un : A.units + 16 * k + 200 < cLine
theorem RoomW.mono {j k : Nat} {A : Around} (r : RoomW k A) (h : j ≤ k) : RoomW j A := ⟨by have := r.dp; omega, by have := r.un; omega⟩
theorem RoomW.deeper {k : Nat} {A : Around} (r : RoomW (k + 1) A) (env : Env) : RoomW k (A.deeper env) :=
  ⟨by have := r.dp; show A.depth + 1 + 3 * k + 5 < _; omega, by have := r.un; show A.units + 3 + 16 * k + 200 < _; omega⟩
theorem RoomW.depth {k : Nat} {A : Around} (r : RoomW k A) : A.depth < recursionLimit := by have := r.dp; omega
theorem RoomW.units {k : Nat} {A : Around} (r : RoomW k A) : A.units + 65 < cLine := by have := r.un; omega
theorem roomW_of {k : Nat} {A : Around} (r : Room k A) (o : Option Value) : RoomW k (A.mark o) := ⟨r.dp, r.un⟩
structure FnW (P : Program) (w : World) (K : PySem.W.Frag) (mg : Str → Option Value) (base : Heap) (CX : CXT) (k : Nat) (f : Addr) (fd : FuncData) (ps : List Str) (sp : Sp) : Prop where
  len : ∀ vs H Q E, sp vs H Q E → vs.length = ps.length
  run : ∀ (A : Around) (outer : List Env) (s : Shared) (H : Hp) (args : Args) (us : List Value) (vs : List V) (Q : VK) (E : XK), RoomW k A → Env0 P w K mg base A outer s H → BindsTo s fd args (ps.zip us) → Vals vs us → sp vs H Q E →
    codeAny (model P w) A (.call (.ref f) args) (CR CX outer P w H s Q E) s
def cxW (CX : CXT) (P : Program) (w : World) (K : PySem.W.Frag) (mg : Str → Option Value) (base : Heap) (N : List Str) (qual : Str) (scope : Scope) (f : Addr) (cd : Value) (A : Around) (outer : List Env) (s : Shared) (H : Hp) (E : XK) : Cx :=
  { cxOf CX P w K mg base N qual scope f cd A outer s H E with calm := false }
theorem inv_startW {CX : CXT} {P : Program} {w : World} {K : PySem.W.Frag} {mg : Str → Option Value} {base : Heap} {N ps : List Str} {qual : Str} {scope : Scope} {f : Addr} {cd : Value} {A : Around} {outer : List Env} {s s1 : Shared} {H : Hp} {E : XK} {us : List Value} {vs : List V}
    (S : FnScope N ps scope) (e0 : Env0 P w K mg base A outer s H) (hl : vs.length = ps.length) (r : Vals vs us)
    (x : InCallC s s.heap.objs.size (bindL (envOfC qual scope s.heap.objs.size f cd).kindOf (ps.zip us) fun _ => none) (cellsFrom (s.heap.objs.size + 1) scope.names []) (bindC (envOfC qual scope s.heap.objs.size f cd).kindOf (ps.zip us) fun _ => none) s1) :
    Inv (cxW CX P w K mg base N qual scope f cd A outer s H E) [] (start N vs) H s1 := by
  have hpl : ps.length ≤ N.length := by have := congrArg List.length S.pre; rw [List.length_take] at this; omega
  obtain ⟨h1, tk, rfl, hk⟩ := x.done
  have noA : ∀ b : Addr, b ∉ (cxW CX P w K mg base N qual scope f cd A outer s H E).ex := fun b z => absurd (show b ∈ ([] : List Addr) from z) (by simp)
  refine ⟨⟨e0.mod, S.kind, rfl, rfl, Nat.le_refl _, fun y z c h1 h2 => ?_, fun y hy => ?_, fun y c _ h => ?_, (fun z => Bool.noConfusion (show false = true from z)), Around.frames_deeper e0.frames, .inr ⟨rfl, rfl⟩, fun b z => absurd z (noA b), e0.bs, e0.bsz, fun b _ _ => noA b, fun b z => absurd z (noA b), e0.funs, e0.frf⟩,
    rfl, e0.bare, Un.kept hk, ⟨_, x.toInCall.ns, fun i y v h1 h2 h3 => ?_⟩, fun y c h => ⟨_, x.cell y c h⟩, e0.hok.fresh (Nat.le_refl _), fun y c h => ?_, fun p hp => absurd (show p ∈ ([] : List (Addr × Obj)) from hp) (by simp), e0.hok.kept hk, ?_⟩
  · exact name_of_addr x.apart (PySem.mem_of_lookup h1) (PySem.mem_of_lookup h2)
  · have hy : scope.names.lookup y = some .cell ∨ scope.names.lookup y = some .free := hy
    rcases hy with hy | hy
    · exact cell_has hy
    · exact absurd rfl (S.nofree _ (PySem.mem_of_lookup hy))
  · exact Nat.le_of_lt (x.above y c (PySem.mem_of_lookup h))
  · have hi : i < vs.length := by
      unfold start at h2
      by_cases hi : i < vs.length
      · exact hi
      · rw [List.getElem?_append_right (by simpa using hi)] at h2
        rw [List.getElem?_replicate] at h2
        split at h2 <;> cases h2
    have ha : vs[i]? = some v := by
      unfold start at h2
      rw [List.getElem?_append_left (by simpa using hi), List.getElem?_map] at h2
      cases e : vs[i]? with
      | none => rw [e] at h2; cases h2
      | some a => rw [e] at h2; cases h2; rfl
    obtain ⟨u, hu, rv⟩ := r.get ha
    have hp : ps[i]? = some y := by
      rw [← S.pre, List.getElem?_take_of_lt (by omega)]; exact h1
    have ndP : ps.Nodup := by rw [← S.pre]; exact S.nd.sublist (List.take_sublist _ _)
    refine ⟨u, rv, ?_⟩
    rcases S.par y (List.mem_of_getElem? hp) with k | k
    · exact .inl ⟨k, bindL_get ndP hp hu k⟩
    · obtain ⟨c, e⟩ := cell_has (n := s.heap.objs.size + 1) k
      refine .inr ⟨.inl k, c, e, ?_⟩
      have q := x.cell y c e
      rw [bindC_get ndP hp hu (by show scope.names.lookup y ≠ _; rw [k]; decide)] at q
      exact q
  · exact e0.hok.fresh (Nat.le_of_lt (x.above y c (PySem.mem_of_lookup h)))
  · unfold start
    show _ = N.length
    rw [List.length_append, List.length_map, List.length_replicate]
    omega

theorem fn_ofW {CX : CXT} {P : Program} {w : World} {K : PySem.W.Frag} {mg : Str → Option Value} {base : Heap} {k : Nat} {f : Addr} {name qual : Str} {params : Arguments} {body : List Stmt} {scope : Scope} {dV kV doc pm cdv ct oc : Value} {an od : Option Addr}
    {osl : Array (Option Value)} {N ps : List Str} {sp : Sp} (lk : K.lookup f = some ⟨oc, od, .func (PySem.W.fnOf name qual params body scope dV kV doc pm an cdv ct), osl⟩) (hcd : PySem.W.codeIn K cdv qual = true) (S : FnScope N ps scope)
    (len : ∀ vs H Q E, sp vs H Q E → vs.length = ps.length)
    (hbody : ∀ (A : Around) (outer : List Env) (s : Shared) (H : Hp) (vs : List V) (Q : VK) (E : XK), RoomW k (A.deeper (envOfC qual scope s.heap.objs.size f cdv)) → sp vs H Q E →
      ∃ t, PSs (cxW CX P w K mg base N qual scope f cdv A outer s H E) body t ∧ t { nx := fun _ H' => Q .non H', rt := Q } (start N vs) H) :
    FnW P w K mg base CX (k + 1) f (PySem.W.fnOf name qual params body scope dV kV doc pm an cdv ct) ps sp := by
  refine ⟨len, fun A outer s H args us vs Q E hr e0 hb r hsp => ?_⟩
  have hl := len _ _ _ _ hsp
  have KX : K.In s.heap := e0.mod.kin.keeps fun b o e => (e0.bs b o e).1
  have lim : s.heap.NoLimit := e0.mod.nolimit.keeps fun b o e => (e0.bs b o e).1
  have hkind : ∀ y ∈ ps.zip us, scope.names.lookup y.1 = some .local ∨ (scope.names.lookup y.1 = some .cell ∧ ((cellsFrom (s.heap.objs.size + 1) scope.names []).lookup y.1).isSome = true) := fun ⟨n, v⟩ hy => by
    rcases S.par n (List.of_mem_zip hy).1 with q | q
    · exact .inl q
    · exact .inr ⟨q, PySem.W.cellsFrom_some _ _ _ (.inl q)⟩
  refine codeAny_call_function hr.depth (KX _ _ lk) rfl S.co S.gen rfl (PySem.W.codeRec_of KX hcd) (hb _ _ _ _ ?_)
  refine wpAny_newFunctionEnv_cells S.kind hkind fun env he s1 x => ?_
  subst he
  refine ⟨lim.keeps x.toInCall.keep, codeAny_func ?_⟩
  obtain ⟨t, ht, hq⟩ := hbody A outer s H vs Q E (hr.deeper _) hsp
  have I : Inv (cxW CX P w K mg base N qual scope f cdv A outer s H E) [] (start N vs) H s1 := inv_startW S e0 hl r x
  refine wpAny_mono (ht.run [] s1 (start N vs) H _ I hq) (fun fl s' hs => ?_) fun e s' hs => hs
  have fin : ∀ {σ' : St} {H' : Hp} {v : V} {u : Value}, Inv (cxW CX P w K mg base N qual scope f cdv A outer s H E) [] σ' H' s' → RelV v u → Q v H' → CE outer P w H s Q u s' :=
    fun {σ' H' v u} J rv q => ⟨v, H', J.os, J.bare, J.base, J.hok, rv, q⟩
  cases fl with
  | ret u =>
    obtain ⟨v, σ', H', J, rv, q⟩ := hs
    exact fin J rv q
  | next =>
    obtain ⟨σ', H', J, q⟩ := hs
    exact fin (v := V.non) (u := Value.none) J rfl q
  | brk =>
    obtain ⟨_, _, _, q⟩ := hs
    exact False.elim q
  | cont =>
    obtain ⟨_, _, _, q⟩ := hs
    exact False.elim q
theorem Fun.okW {P : Program} {w : World} {K : PySem.W.Frag} {mg : Str → Option Value} {base : Heap} {x qual : Str} {st : Stmt} {f : Addr} {fd : FuncData} {N ps : List Str} {k : Nat} {sp : Sp} (F : Fun K x qual st f fd) (S : FnScope N ps (defScope st)) (len : ∀ vs H Q E, sp vs H Q E → vs.length = ps.length)
    (hbody : ∀ (cdv : Value) (A : Around) (outer : List Env) (s : Shared) (H : Hp) (vs : List V) (Q : VK) (E : XK), RoomW k (A.deeper (envOfC qual (defScope st) s.heap.objs.size f cdv)) → sp vs H Q E →
      ∃ t, PSs (cxW CX0 P w K mg base N qual (defScope st) f cdv A outer s H E).nox (defBody st) t ∧ t { nx := fun _ H' => Q .non H', rt := Q } (start N vs) H) : FnW P w K mg base CX0 (k + 1) f fd ps sp := by
  obtain ⟨oc, od, kV, doc, pm, an, cdv, ct, osl, rfl, lk, hcd⟩ := F.ex
  refine fn_ofW lk hcd S len fun A outer s H vs Q E hr hsp => ?_
  obtain ⟨t, h, q⟩ := hbody cdv A outer s H vs Q E hr hsp
  exact ⟨t, h.nox, q⟩
section
variable {X : Cx} {CX : CXT} {k : Nat} {f C : Addr} {fd : FuncData} {ps : List Str} {sp : Sp} {dvs : List V} {ds : List Value} {E : XK} {x m : Str} {p pos apos : Pos} {e o : Expr} {es : List Expr} {ta : TE} {t : TA}
theorem run_fnW {pins : List (Addr × Obj)} {σ : St} {H : Hp} {s : Shared} {Q : VK} {us : List Value} {vs : List V} (F : FnW X.prog X.w X.K X.mg X.base CX k f fd ps sp) (hr : RoomW k X.A) (hb : Binds X.K fd ps ds) (hd : Vals dvs ds) (hx : Passes CX X E)
    (I : Inv X pins σ H s) (r : Vals vs us) (h : sp (vs ++ dvs) H Q E) : wpAny (model X.prog X.w) X.A (call (.ref f) us) (EP X pins σ Q) X.xe s := by
  have r2 : Vals (vs ++ dvs) (us ++ ds) := r.append hd
  have hl : (us ++ ds).length = ps.length := by rw [← r2.length]; exact F.len _ _ _ _ h
  refine wpAny_call (codeAny_mono (F.run X.A X.stack s H ⟨us, []⟩ (us ++ ds) (vs ++ dvs) Q E hr I.env0 (hb s us I.kIn hl) r2 h) fun r s' hq => ?_)
  cases r with
  | error e => exact hx pins σ H s e s' I hq
  | ok fl =>
    cases fl with
    | ret u => exact I.after hq
    | next => exact False.elim hq
    | brk => exact False.elim hq
    | cont => exact False.elim hq
theorem pe_callW (F : FnW X.prog X.w X.K X.mg X.base CX k f fd ps sp) (hr : RoomW k X.A) (hg : Gl X x) (hm : X.mg x = some (.ref f)) (hk : PySem.W.keepIn X.K (.ref f) = true) (hb : Binds X.K fd ps ds) (hd : Vals dvs ds) (hx : Passes CX X E)
    (ha : PA X (e :: es) t) (hdb : (x == ("__debug__" : Str)) = false := by decide) (he : starEach (e :: es) X.env = (false, eval e X.env) :: starEach es X.env := by rfl) (hpl : (backTo pos (starEach es X.env)).any (·.1) = false := by rfl) :
    PE X (.Call (.Name x p) (e :: es) [] pos) (tCall sp dvs E t) := by
  refine ⟨fun pins s σ H Q I h => ?_⟩
  refine wpAny_Call_Name_kw (ld_glob I hg hm ?_ hdb)
  refine PySem.W.callWith_K (h₀ := X.base) I.ok.mod.kin hk (thn (ha.run pos pins s σ H _ I h) fun us s1 ⟨vs, H1, I1, r, q⟩ => ⟨I1.kIn, ?_⟩) he hpl
  exact run_fnW F hr hb hd hx I1 r q
end
end L2
set_option Elab.async false
set_option linter.all false
set_option maxRecDepth 100000
set_option maxHeartbeats 2000000
namespace PySem
namespace DyeX
open PySem.W PySem.Calls PyProof.Rows PySem.HandSPX
/-! ### the text of DyeError.__init__ -/
def iA (p1 p2 p3 p4 : Pos) (j : Nat) : Arguments := { posonlyargs := [], args := [{ arg := "self", annotation := none, pos := p1 }, { arg := "thing", annotation := none, pos := p2 }, { arg := "words", annotation := none, pos := p3 }], vararg := none, kwonlyargs := [], kw_defaults := [], kwarg := none, defaults := [(.Constant (.str "refused") j p4)] }
def iB (a1 a2 a3 a4 a5 a6 q1 q2 q3 q4 : Pos) : List Stmt := [.Expr (.Call (.Attribute (.Call (.Name "super" a1) [] [] a2) "__init__" a3) [.Name "words" a4] [] a5) a6, .Assign [.Attribute (.Name "self" q1) "thing" q2] (.Name "thing" q3) q4]
def iS : Scope := { kind := .function, names := [(PySem.Str.ofString "self", .local), (PySem.Str.ofString "thing", .local), (PySem.Str.ofString "words", .local), (PySem.Str.ofString "__class__", .free), (PySem.Str.ofString "super", .globalImplicit)], isGenerator := false, isCoroutine := false, more := [] }
/-- what the written part says of an own error at C (DyeError, or a class of it without more), of DyeError at D and its __init__ at fI -/
structure DyeTxt (prog : Program) (K : Frag) (D C fI : Addr) : Prop where
  cls : ∃ nm q N bs bm sn sub ab col dd k0 k1 k2 k3 k5, K.lookup C = some (excClassObj nm q C N bs bm true sn sub ab col dd k0 k1 k2 k3 k5 "ValueError.__new__") ∧ refsVE bm = true
  sa : findIn K (.ref C) "__setattr__" = some (some (.builtin "object.__setattr__"))
  noN : findIn K (.ref C) "thing" = some none
  iC : findIn K (.ref C) "__init__" = some (some (.ref fI))
  tC : typeIn K (.ref fI) = some (.type "function")
  kC : keepIn K (.ref C) = true
  exC : subIn K (.ref C) (.type "BaseException") = some true
  tyC : typeIn K (.ref C) = some (.type "type")
  q : excInitIn K C veTail "ValueError.__new__" = true
  hm : ks_superIn K C D "__init__" = some (some (.builtin "ValueError.__init__"))
  hB : subIn K (.ref C) (.type "ValueError") = some true
  hsub : mroIn K C (.ref D) = some true
  hsuper : nsIn K mainGlobals "super" = some none
  ho : nsIn K cStatics "thirdparty.any" = some none
  htop : (prog.main.scope.names.lookup ("super" : Str)).isSome = false
  fn : ∃ (dT : Addr) (dO : Obj) (dI : Value) (dN : Nat) (oc : Value) (od : Option Addr) (doc pm : Value) (an : Option Addr) (ct : Value) (cda cc : Addr) (osl : Array (Option Value)) (p1 p2 p3 p4 : Pos) (j : Nat) (a1 a2 a3 a4 a5 a6 q1 q2 q3 q4 : Pos)
      (ccl cl : Value) (cdd cld : Option Addr) (ccs csl : Array (Option Value)) (vs : Array Value) (file : Str) (tf : Tok) (cdD : ClassData),
    (a3.endLine == a5.line) = true ∧ K.lookup fI = some ⟨oc, od, .func (ksFn "__init__" "DyeError.__init__" (iA p1 p2 p3 p4 j) (iB a1 a2 a3 a4 a5 a6 q1 q2 q3 q4) iS (.ref dT) .none doc pm an (.ref cda) ct cc), osl⟩ ∧ K.lookup dT = some dO ∧ dO.data = .seq #[dI] dN ∧ codeIn K (.ref cda) "DyeError.__init__" = true ∧
    K.lookup cda = some ⟨ccl, cdd, .fields vs, ccs⟩ ∧ vs[2]? = some (.str file tf) ∧ ((prog.main.file : Str) == file) = true ∧ K.lookup cc = some ⟨cl, cld, .cell (some (.ref D)), csl⟩ ∧ clsIn K D = some cdD
/-- what __init__ leaves of a fresh exception at x -/
structure InitEnd (h h' : Heap) (x C dx t1 : Addr) (v : Value) : Prop where
  keep : ∀ b o, b ≠ x → h.get? b = some o → h'.get? b = some o
  obj : h'.get? x = some { cls := .ref C, dict := some dx, data := .fields #[.ref t1, .none, .none, .none, .bool false, .none] }
  dbig : h.objs.size ≤ dx
  dne : dx ≠ x
  ns : h'.Ns1 dx (fun y => if y = "thing" then some v else none)
structure OwnMade (h h' : Heap) (e C d : Addr) (v : Value) : Prop where
  keep : ∀ b o, h.get? b = some o → h'.get? b = some o
  new : h.objs.size ≤ e
  obj : ∃ oe vs, h'.get? e = some oe ∧ oe.cls = .ref C ∧ oe.dict = some d ∧ oe.data = .fields vs ∧ vs[1]? = some .none
  dbig : h.objs.size ≤ d
  dne : d ≠ e
  ns : h'.Ns1 d (fun y => if y = "thing" then some v else none)
theorem two_size (v u : Value) : [v, u].length ≤ sizeLine := by rw [sizeLine_eq]; exact (by decide : 2 ≤ 16777216)
theorem one_size (v : Value) : [v].length ≤ sizeLine := by rw [sizeLine_eq]; exact (by decide : 1 ≤ 16777216)
section
variable {prog : Program} {w : World} {A : Around} {E : Value → Shared → Prop} {R : Result → Shared → Prop} {s : Shared} {K : Frag} {mg mb : Str → Option Value} {D C fI : Addr}
theorem dye_init (T : DyeTxt prog K D C fI) {x t0 : Addr} {v u : Value} (X : K.In s.heap) (hlim : s.heap.NoLimit) (Gm : s.heap.Ns mainGlobals mg) (Gb : s.heap.Ns builtinsNs mb) (hb : ∀ y : Str, y ≠ "__name__" → mb y = bootBuiltins y)
    (hx : s.heap.get? x = some (excO C t0)) (hnx : K.lookup x = none) (hnm : x ≠ mainGlobals) (hnb : x ≠ builtinsNs) (hroom : A.depth < recursionLimit)
    (hq : ∀ h' tk dx t1, InitEnd s.heap h' x C dx t1 v → R (.ok (.ret .none)) { s with heap := h', toks := tk }) :
    codeAny (model prog w) A (.call (.ref fI) ⟨[.ref x, v, u], []⟩) R s := by
  obtain ⟨dT, dO, dI, dN, oc, od, doc, pm, an, ct, cda, cc, osl, p1, p2, p3, p4, j, a1, a2, a3, a4, a5, a6, q1, q2, q3, q4, ccl, cl, cdd, cld, ccs, csl, vs, file, tf, cdD, hline, hfI, hdT, hdO, hcd, hcda, hvs, hfile, hcc, hD⟩ := T.fn
  obtain ⟨nm, q, N, bs, bm, sn, sub, ab, col, dd, k0, k1, k2, k3, k5, hC, hbm⟩ := T.cls
  have hcl : clsIn K C = some { name := nm, bases := bs, mro := .ref C :: bm, ns := N, qualname := q, hasDict := true, slotNames := sn, subclasses := sub, abstract := ab, collection := col, hasDel := false } := by unfold clsIn; rw [hC] <;> rfl
  -- the ground: the heap without x
  have Xg : K.In (hideAll s.heap [x]) := fun a o e => hideAll_get _ (X a o e) fun hm => by
    have : a = x := by simpa using hm
    rw [this, hnx] at e; cases e
  refine ks_codeAny_call_defAt (fd := ksFn "__init__" "DyeError.__init__" (iA p1 p2 p3 p4 j) (iB a1 a2 a3 a4 a5 a6 q1 q2 q3 q4) iS (.ref dT) .none doc pm an (.ref cda) ct cc) (body := iB a1 a2 a3 a4 a5 a6 q1 q2 q3 q4) (binds := [("self", .ref x), ("thing", v), ("words", u)])
    hroom (X _ _ hfI) rfl hlim (codeRec_of X hcd) rfl (L2.BindsTo.of_looks fun M => L2.looks_items X hdT hdO (PySem.W.Looks.of_pure (by first | rfl | with_unfolding_all rfl))) (by intro y hy; simp only [ksFn, fnX, iS, List.mem_cons, List.not_mem_nil, or_false] at hy; rcases hy with rfl | rfl | rfl | rfl | rfl <;> (intro z; cases z)) (by intro y hy; simp only [List.mem_cons, List.not_mem_nil, or_false] at hy; rcases hy with rfl | rfl | rfl <;> rfl) (fun h₁ hns hk₁ => ?_) rfl rfl rfl
  have F : Fr (hideAll s.heap [x]) s.heap.objs.size h₁ (fun y => [(("self" : Str), Value.ref x), ("thing", v), ("words", u)].reverse.lookup y) := ⟨hns, fun b o e => hk₁ b o (of_hideAll _ e), Nat.le_of_eq (hideAll_size _ _)⟩
  have hxL : x ≠ s.heap.objs.size := Nat.ne_of_lt (Heap.lt_size hx)
  have hx0 : (hideAll s.heap [x]).get? x = none := hideAll_none _ (by simp)
  have N0 : News (hideAll s.heap [x]) s.heap.objs.size h₁ [(x, excObj C t0 none .none)] := fun p hp => by
    have : p = (x, excObj C t0 none .none) := by simpa using hp
    rw [this]
    exact ⟨hk₁ _ _ hx, hxL, hx0⟩
  have I0 : PySem.W.InstAt h₁ x (excObj C t0 none .none) C none := ⟨hk₁ _ _ hx, rfl, rfl, trivial⟩
  have X1 : K.In h₁ := X.keeps hk₁
  have hbase : ∀ {whole : Sem Value} {Q : Value → Shared → Prop} {s1 : Shared}, s1.heap = h₁ → (∀ so h', Fr (hideAll s.heap [x]) s.heap.objs.size h' (fun y => [(("self" : Str), Value.ref x), ("thing", v), ("words", u)].reverse.lookup y) → News (hideAll s.heap [x]) s.heap.objs.size h' ((so, ks_superObj D x C) :: [(x, excObj C t0 none .none)]) → (∀ b o, h₁.get? b = some o → h'.get? b = some o) → x < so → Q (.ref so) { s1 with heap := h' }) →
      _root_.PySem.wpAt (model prog w) (A.deeper (ksEnv "DyeError.__init__" iS s.heap.objs.size fI (.ref cda) cc)) (.func (iB a1 a2 a3 a4 a5 a6 q1 q2 q3 q4) (ksEnv "DyeError.__init__" iS s.heap.objs.size fI (.ref cda) cc))
        (attributeBase (.Call (.Name "super" a1) [] [] a2) "__init__" (ksEnv "DyeError.__init__" iS s.heap.objs.size fI (.ref cda) cc) whole) Q
        (fun e s' => wpAny (model prog w) (A.deeper (ksEnv "DyeError.__init__" iS s.heap.objs.size fI (.ref cda) cc)) (leaving (ksEnv "DyeError.__init__" iS s.heap.objs.size fI (.ref cda) cc) e) (fun _ s'' => R (.error e) s'') (fun e' s'' => R (.error e') s'') s') s1 := by
    intro whole Q s1 e1 hQ
    obtain ⟨hh, g, d, t, os⟩ := s1
    have e1 : hh = h₁ := e1
    subst e1
    obtain ⟨oD, hD1, hD2⟩ : ∃ oD, hh.get? D = some oD ∧ oD.data = .cls cdD := by
      unfold clsIn at hD
      split at hD
      · rename_i c d cd' sl ho
        cases hD
        exact ⟨_, X1 _ _ ho, rfl⟩
      · cases hD
    refine ks_wpAt_super_base (env := ksEnv "DyeError.__init__" iS s.heap.objs.size fI (.ref cda) cc) rfl rfl rfl rfl (X1 _ _ hfI) rfl rfl rfl (X1 _ _ hcda) rfl hvs hfile T.htop ?_
    refine ks_loadName_global rfl rfl (loadGlobal_builtin (env := ksEnv "DyeError.__init__" iS s.heap.objs.size fI (.ref cda) cc) (Gm.keeps hk₁) (mg_none_of X Gm T.hsuper) (Gb.keeps hk₁) ((hb _ (by decide +kernel)).trans (by decide +kernel)) ⟨rfl, ?_⟩)
    refine wpAny_loadName_free rfl rfl rfl ⟨_, X1 _ _ hcc, rfl⟩ ?_
    refine wpAny_loadName_local rfl rfl hns (by rfl) ?_
    refine ks_wpAny_isType_cls hD1 hD2 ⟨rfl, ?_⟩
    refine ks_wpAny_call_super hD1 hD2 I0.at_ I0.cls (fun c e => ?_) (looks_mroIn X1 T.hsub) (fun h' e k => ?_)
    · have := I0.no
      unfold notCls at this
      rw [e] at this
      exact Bool.noConfusion this
    · obtain ⟨F', N', l'⟩ := ks_newsPush (s := ⟨hh, g, d, t, os⟩) F N0 rfl e k
      exact hQ _ _ F' N' k (l' (x, excObj C t0 none .none) List.mem_cons_self)
  refine ks_wpAt_execs_cons (ks_wpAt_Expr_any ?_ rfl)
  refine ks_wpAt_MethodCall (pl := L2.plainOf (.Call (.Name "super" a1) [] [] a2) (ksEnv "DyeError.__init__" iS s.heap.objs.size fI (.ref cda) cc)) (hbase rfl fun so h2 F2 N2 k2 lso => ?_) ?_
  · have X2 : K.In (hideAll s.heap [x]) := Xg
    have Ix2 : PySem.W.InstAt h2 x (excObj C t0 none .none) C none := ⟨k2 _ _ (hk₁ _ _ hx), rfl, rfl, trivial⟩
    refine kxs_method kxs_ValueError F2 X2 N2 List.mem_cons_self Ix2 T.ho T.hm T.hB rfl fun q h3 F3 N3 l3 => ?_
    refine kxs_callWith1 N3 List.mem_cons_self ?_ rfl rfl
    refine Calls.spliced_cons (wpAny_Name (wpAny_loadName_local rfl rfl F3.ns (by rfl) ?_) (by decide))
    refine Calls.spliced_nil ⟨kxs_at N3 List.mem_cons_self, ?_⟩
    have q1 : x < q := l3 (x, excObj C t0 none .none) (by simp)
    refine kxs_call F3 X2 N3 _root_.PySem.F.excBase_ValueError T.q List.mem_cons_self (.tail (Nat.ne_of_gt q1) (.tail (Nat.ne_of_gt lso) (.head (fun p hp => nomatch hp)))) (one_size u) fun t' h4 F4 N4 l4 => ?_
    have X4 : K.In h4 := Xg.keeps F4.keep
    have hx4 : h4.get? x = some (excO C t') := (N4 (x, excObj C t' none .none) (by simp)).1
    refine ks_wpAt_execs_cons (ks_wpAt_Assign_Attr (wpAt_of_wpAny (wpAny_Name (wpAny_loadName_local (v := v) rfl rfl F4.ns (by rfl) (wpAny_Name (wpAny_loadName_local (v := .ref x) rfl rfl F4.ns (by rfl) ?_) (by decide))) (by decide))) rfl)
    refine set_plain X4 (ox := excO C t') (od := none) ⟨hx4, rfl, rfl, trivial⟩ T.sa ?_
    refine exc_osa X4 hx4 hcl (show refsVE (.ref C :: bm) = true from hbm) rfl T.noN (fun h5 tk5 dx k5' dn dne hx5 hn5 => ?_)
    refine wpAt_of_wpAny (wpAny_execs_nil (hq h5 tk5 dx t' ⟨fun b o hb' e => ?_, hx5, ?_, dne, hn5⟩))
    · exact k5' b o hb' (F4.keep b o (hideAll_get _ e fun hm => hb' (by simpa using hm)))
    · have z : s.heap.objs.size < h4.objs.size := F4.ns.lt
      exact Nat.le_of_lt (Nat.lt_of_lt_of_le z dn)
  · have e : ∀ ov, methodCall (.Call (.Name "super" a1) [] [] a2) "__init__" a3 a5 (ksEnv "DyeError.__init__" iS s.heap.objs.size fI (.ref cda) cc) ov 1 (backTo a5 (starEach [.Name "words" a4] (ksEnv "DyeError.__init__" iS s.heap.objs.size fI (.ref cda) cc))) [] = (do
        let (f, first) ← holding [ov] (getMethod ov "__init__" (L2.plainOf (.Call (.Name "super" a1) [] [] a2) (ksEnv "DyeError.__init__" iS s.heap.objs.size fI (.ref cda) cc)))
        callWith a5 f first (backTo a5 (starEach [.Name "words" a4] (ksEnv "DyeError.__init__" iS s.heap.objs.size fI (.ref cda) cc))) []) := fun ov => L2.mcall_line rfl hline
    exact congrArg (fun k => attributeBase (.Call (.Name "super" a1) [] [] a2) "__init__" (ksEnv "DyeError.__init__" iS s.heap.objs.size fI (.ref cda) cc) (eval (.Call (.Name "super" a1) [] [] a2) (ksEnv "DyeError.__init__" iS s.heap.objs.size fI (.ref cda) cc)) >>= fun ov => standAt a3.atName >>= fun _ => k ov) (funext e)
theorem dye_made (T : DyeTxt prog K D C fI) {v u : Value} (X : K.In s.heap) (hlim : s.heap.NoLimit) (Gm : s.heap.Ns mainGlobals mg) (Gb : s.heap.Ns builtinsNs mb) (hb : ∀ y : Str, y ≠ "__name__" → mb y = bootBuiltins y) (hroom : A.depth + 1 < recursionLimit)
    (hq : ∀ h' tk e d, OwnMade s.heap h' e C d v → R (.ok (.ret (.ref e))) { s with heap := h', toks := tk }) :
    codeAny (model prog w) A (.call (.ref C) ⟨[v, u], []⟩) R s := by
  obtain ⟨nm, q, N, bs, bm, sn, sub, ab, col, dd, k0, k1, k2, k3, k5, hC, hbm⟩ := T.cls
  obtain ⟨hp, g, dr, tk, os⟩ := s
  have k : ∀ b o, hp.get? b = some o → ((hp.push (kdv_tup [v, u])).push (excO C hp.objs.size)).get? b = some o := fun b o e => Heap.get?_push_of_some _ (Heap.get?_push_of_some _ e)
  have hget : ((hp.push (kdv_tup [v, u])).push (excO C hp.objs.size)).get? (hp.objs.size + 1) = some (excO C hp.objs.size) := by heap_get
  have hnx : K.lookup (hp.objs.size + 1) = none := by
    cases e : K.lookup (hp.objs.size + 1) with
    | none => rfl
    | some o =>
      have z : hp.get? (hp.objs.size + 1) = some o := X _ _ e
      exact absurd (Nat.lt_of_succ_lt (Heap.lt_size z)) (Nat.lt_irrefl _)
  have n1 : hp.objs.size + 1 ≠ mainGlobals := fun z => by have := Gm.lt; rw [← z] at this; exact absurd (Nat.lt_of_succ_lt this) (Nat.lt_irrefl _)
  have n2 : hp.objs.size + 1 ≠ builtinsNs := fun z => by have := Gb.lt; rw [← z] at this; exact absurd (Nat.lt_of_succ_lt this) (Nat.lt_irrefl _)
  refine call_own F.excBase_ValueError (fun X => refsVE_contains X bm hbm) (X _ _ hC) (looks_findIn X T.iC) (fun self => bind_fn X self T.tC) (two_size v u) ?_
  refine dye_init (s := ⟨(hp.push (kdv_tup [v, u])).push (excO C hp.objs.size), g, dr, tk, os⟩) T (X.keeps k) (hlim.keeps k) (Gm.keeps k) (Gb.keeps k) hb hget hnx n1 n2 ?_ fun h' tk' dx t1 ⟨k', hx, dn, dne, hns⟩ => ?_
  · show A.depth + 1 < recursionLimit
    exact hroom
  · have old : ∀ b o, hp.get? b = some o → h'.get? b = some o := fun b o e => k' b o (Nat.ne_of_lt (Nat.lt_succ_of_lt (Heap.lt_size e))) (k b o e)
    have z : hp.objs.size + 1 + 1 ≤ dx := by
      first
        | (simpa only [Heap.size_push] using dn)
        | exact dn
        | (have q := dn; rw [Heap.size_push, Heap.size_push] at q; exact q)
    exact ⟨rfl, hq h' tk' (hp.objs.size + 1) dx ⟨old, Nat.le_succ _, ⟨_, _, hx, rfl, rfl, rfl, rfl⟩, Nat.le_trans (Nat.le_trans (Nat.le_succ _) (Nat.le_succ _)) z, dne, hns⟩⟩
end
end DyeX
end PySem
namespace L2
open PySem PySem.Spec PyProof.Rows
theorem relO_thing {v : V} {v' : Value} (r : RelV v v') (f : Str) : RelO (List.lookup f [(("thing" : Str), v)]) (if f = "thing" then some v' else none) := by
  by_cases hw : f = "thing"
  · subst hw
    rw [if_pos rfl]
    have q : List.lookup ("thing" : Str) [(("thing" : Str), v)] = some v := by simp [List.lookup]
    rw [q]
    exact r
  · rw [if_neg hw]
    have qw : (f == ("thing" : Str)) = false := by simpa using hw
    have q2 : List.lookup f [(("thing" : Str), v)] = none := by simp [List.lookup, qw]
    rw [q2]
    trivial
section
variable {X : Cx} {D C fI : Addr}
/-- C(thing, words) -/
def tMkDye (C : Addr) (ta : TA) : St → Hp → XK → Prop := fun σ H Q => ta σ H fun vs H1 => ∃ v u, vs = [v, u] ∧ ∀ d, H1 d = none → Q (.ref C) (some d) (upd H1 d (.xd [(("thing" : Str), v)]))
theorem pmk_dye {x : Str} {a b : Expr} {ta : TA} {p pos : Pos} {k : Nat} (T : PySem.DyeX.DyeTxt X.prog X.K D C fI) (gC : X.mg x = some (.ref C)) (hr : Room k X.A) (ha : PA X [a, b] ta) (hg : Gl X x) (hdb : (x == ("__debug__" : Str)) = false)
    (he : starEach (a :: [b]) X.env = (false, eval a X.env) :: starEach [b] X.env) (hpl : (backTo pos (starEach [b] X.env)).any (·.1) = false) :
    PMk X (.Call (.Name x p) [a, b] [] pos) (tMkDye C ta) := by
  intro pins s σ H Q I h
  refine wpAny_Call_Name_kw (ld_glob I hg gC ?_ hdb)
  refine PySem.W.callWith_K (h₀ := X.base) I.ok.mod.kin T.kC (thn (ha.run pos pins s σ H _ I h) fun us s1 hh => ?_) he hpl
  obtain ⟨vs, H1, I1, r1, v, u, ev, q1⟩ := hh
  subst ev
  refine ⟨I1.kIn, ?_⟩
  obtain ⟨v', u', rfl, rv, ru⟩ := vals2 r1
  show wpAny _ _ (call (.ref C) [v', u']) _ _ _
  have hlim := I1.nolimit
  have hglob := I1.mod.glob.keeps I1.bk
  obtain ⟨mb, hblt, hboot⟩ := I1.mod.blt
  have hblt := hblt.keeps I1.bk
  obtain ⟨hp, g, dr, tk, os⟩ := s1
  refine wpAny_call (PySem.DyeX.dye_made T I1.kIn hlim hglob hblt hboot (by have := hr.dp; omega) fun h' tk' e d M => ?_)
  show MkP X pins σ Q (.ref e) ⟨h', g, dr, tk', os⟩
  obtain ⟨oe, fv, hoe, hc, hd, hdat, h1⟩ := M.obj
  have hns := M.ns
  obtain ⟨G', g1, g2⟩ := restrict h' fun b => decide (b ≠ e)
  have gk : ∀ b, b ≠ e → G'.get? b = h'.get? b := fun b hb => g1 b (decide_eq_true hb)
  have ge : G'.get? e = none := g2 e (by simp)
  have old : ∀ b o, hp.get? b = some o → G'.get? b = some o := fun b o q => (gk b (Nat.ne_of_lt (Nat.lt_of_lt_of_le (Heap.lt_size q) M.new))).trans (M.keep b o q)
  have ob : ObjOk X.prog X.w (upd H1 d (.xd [(("thing" : Str), v)])) G' d (.xd [(("thing" : Str), v)]) :=
    ⟨_, hns.at (fun o q => (gk d M.dne).trans q), fun f => relO_thing rv f⟩
  have J : Inv X pins σ (upd H1 d (.xd [(("thing" : Str), v)])) ⟨G', g, dr, tk', os⟩ := I1.laid (t' := tk') old M.dbig ob
  refine ⟨e, oe, fv, ⟨G', g, dr, tk', os⟩, _, .ref C, some d, rfl, J, fun b o q => ?_, ge, hoe, ⟨hc, hd⟩, hdat, h1, ?_, rfl, I1.bare, raises_own T.exC T.tyC, q1 d (I1.hok.fresh M.dbig)⟩
  · by_cases hb : b = e
    · have q' : G'.get? b = some o := q
      rw [hb, ge] at q'; cases q'
    · exact (gk b hb).symm.trans q
  · rw [upd_ne (Ne.symm M.dne)]
    exact I1.hok.fresh M.new
/-- raise C(thing, words) -/
def tRaiseDye (C : Addr) (W : WX) (ta : TA) : TS := fun _ σ H => tMkDye C ta σ H fun cls d H' => W cls d σ H'
theorem ps_raiseDye {x : Str} {a b : Expr} {ta : TA} {W : WX} {p pos pos2 : Pos} {k : Nat} (hc : X.calm = true) (T : PySem.DyeX.DyeTxt X.prog X.K D C fI) (gC : X.mg x = some (.ref C)) (hr : Room k X.A) (tk : Takes X W) (ha : PA X [a, b] ta) (hg : Gl X x := by rfl) (hdb : (x == ("__debug__" : Str)) = false := by decide)
    (he : starEach (a :: [b]) X.env = (false, eval a X.env) :: starEach [b] X.env := by rfl) (hpl : (backTo pos (starEach [b] X.env)).any (·.1) = false := by rfl) :
    PS X (.Raise (some (.Call (.Name x p) [a, b] [] pos)) none pos2) (tRaiseDye C W ta) := ps_raise hc tk (pmk_dye T gC hr ha hg hdb he hpl)
end
end L2
set_option Elab.async false
set_option linter.all false
set_option maxRecDepth 100000
set_option maxHeartbeats 2000000
namespace L2
open PySem PySem.Spec PyProof.Rows
/-! ### a caught exception, tracked -/
/-- the exception at a: its class, its own dict -/
def EXO (a : Addr) (cls : Value) (d : Option Addr) : HO := .ext fun h => ∃ oe vs, h.get? a = some oe ∧ oe.cls = cls ∧ oe.dict = d ∧ oe.data = .fields vs
theorem exo_ok' {P : Program} {w : World} {H : Hp} {h : Heap} {a : Addr} {cls : Value} {d : Option Addr} {oe : Obj} {vs : Array Value} (e : h.get? a = some oe) (h1 : oe.cls = cls) (h2 : oe.dict = d) (h3 : oe.data = .fields vs) : ObjOk P w H h a (EXO a cls d) :=
  ⟨⟨oe, vs, e, h1, h2, h3⟩, ⟨oe, e⟩, fun _ h2 ⟨o, vs, q, x⟩ k => ⟨o, vs, k o q, x⟩⟩
theorem exo_of {P : Program} {w : World} {H : Hp} {h : Heap} {a : Addr} {cls : Value} {d : Option Addr} (hok : HOk P w H h) (e : H a = some (EXO a cls d)) : ∃ oe vs, h.get? a = some oe ∧ oe.cls = cls ∧ oe.dict = d ∧ oe.data = .fields vs := (hok a _ e).1
section
variable {X : Cx} {pins : List (Addr × Obj)} {σ : St} {H : Hp} {s : Shared}
/-- into an except suite, the exception tracked -/
theorem Inv.suiteT (I : Inv X pins σ H s) {a : Addr} {oe : Obj} {vs : Array Value} {cls : Value} {d : Option Addr} (ha : s.heap.get? a = some oe) (h1 : oe.cls = cls) (h2 : oe.dict = d) (hd : oe.data = .fields vs) (na : H a = none)
    (n0 : X.s_0.heap.get? a = none) (npin : ∀ p ∈ X.pn ++ pins, p.1 ≠ a) (nL : a ≠ X.env.locals) :
    Inv (X.suite a (X.pn ++ pins)) [] σ (upd H a (EXO a cls d)) s := by
  have ne : ∀ b o, H b = some o → b ≠ a := fun b o e => ne_of_none e na
  refine ⟨I.ok.suite _ _, I.os, I.bare, ⟨I.base.keep, I.base.slot, fun b o e n hx => ?_, I.base.there, fun b xs e => ?_, fun b o xs e => ?_, fun b ps e => ?_⟩, I.loc, I.cell, ?_, fun x c e => ?_, fun p hp => ?_, fun b u e => ?_, I.len⟩
  · have q : b ≠ a := fun z => by rw [z, n0] at e; cases e
    rw [upd_ne q]; exact I.base.free b o e n hx
  · have q := I.base.tups b xs e
    rw [upd_ne (ne _ _ q)]; exact q
  · have q := I.base.frzs b o xs e
    rw [upd_ne (ne _ _ q)]; exact q
  · obtain ⟨m, q⟩ := I.base.tbls b ps e
    exact ⟨m, by rw [upd_ne (ne _ _ q)]; exact q⟩
  · rw [upd_ne (Ne.symm nL)]; exact I.free
  · have q : c ≠ a := fun z => by
      obtain ⟨v, o, ho, hv⟩ := I.cell x c e
      rw [z, ha] at ho; cases ho; rw [hd] at hv; cases hv
    rw [upd_ne q]; exact I.freeC x c e
  · have hp' : p ∈ X.pn ++ pins := by rw [List.append_nil] at hp; exact hp
    obtain ⟨q1, q2, q3, q4, q5⟩ := I.pin p hp'
    exact ⟨q1, by rw [upd_ne (npin p hp')]; exact q2, q3, q4, q5⟩
  · by_cases q : b = a
    · subst q; rw [upd_same] at e; cases e
      exact exo_ok' ha h1 h2 hd
    · rw [upd_ne q] at e
      refine (I.hok b u e).stay (fun _ _ _ z => z) (fun c z => ?_) fun c xs z => ?_
      · rw [upd_ne (ne _ _ z)]; exact z
      · rw [upd_ne (ne _ _ z)]; exact z
theorem Inv.unsuiteT {a : Addr} {pn' : List (Addr × Obj)} (I : Inv (X.suite a (X.pn ++ pins)) pn' σ H s) (ok : X.Ok) : Inv X pins σ H s :=
  ⟨ok, I.os, I.bare, I.base, I.loc, I.cell, I.free, I.freeC, fun p hp => I.pin p (List.mem_append_left _ hp), I.hok, I.len⟩
end
/-- what the clauses wish of an exception of the body, one after the other; i: the slot of «as n» -/
def endI (i : Option Nat) (σ : St) : St := match i with | some i => σ.set i none | none => σ
def setI (i : Option Nat) (a : Addr) (σ : St) : St := match i with | some i => σ.set i (some (.ref a)) | none => σ
def wManyA (K : PySem.W.Frag) (Wout : WX) (D : Ends) : List (Value × Option Nat × TS) → WX
  | [] => Wout
  | (c, i, ts) :: r => fun cls d σ H => ∃ b, PySem.W.exmOne K cls c = some b ∧ (b = true → ∀ a, H a = none → ts { nx := fun σ' H' => D.nx (endI i σ') H', rt := D.rt, bk := fun σ' H' => D.bk (endI i σ') H', ct := fun σ' H' => D.ct (endI i σ') H' } (setI i a σ) (upd H a (EXO a cls d))) ∧ (b = false → wManyA K Wout D r cls d σ H)
inductive HdsOkA (X : Cx) : List ExceptHandler → List (Value × Option Nat × TS) → Prop
  | nil : HdsOkA X [] []
  | bare {x : Str} {c : Value} {ts : TS} {b₀ : Stmt} {suite : List Stmt} {np pos' : Pos} {hds : List ExceptHandler} {l : List (Value × Option Nat × TS)} (hc : Names X x c)
      (hsu : ∀ (a : Addr) (pn : List (Addr × Obj)), PSs (X.suite a pn) (b₀ :: suite) ts) (r : HdsOkA X hds l) :
      HdsOkA X (.ExceptHandler (some (.Name x np)) none (b₀ :: suite) pos' :: hds) ((c, none, ts) :: l)
  | as_ {x n : Str} {c : Value} {i : Nat} {ts : TS} {b₀ : Stmt} {suite : List Stmt} {np pos' : Pos} {hds : List ExceptHandler} {l : List (Value × Option Nat × TS)} (hc : Names X x c) (hi : X.N[i]? = some n) (hln : X.env.kindOf n = some .local)
      (hsu : ∀ (a : Addr) (pn : List (Addr × Obj)), PSs (X.suite a pn) (b₀ :: suite) ts) (r : HdsOkA X hds l) :
      HdsOkA X (.ExceptHandler (some (.Name x np)) (some n) (b₀ :: suite) pos' :: hds) ((c, some i, ts) :: l)
section
variable {X : Cx} {body : List Stmt} {h₀ : ExceptHandler} {hds : List ExceptHandler} {l : List (Value × Option Nat × TS)} {pos : Pos} {tb : WX → TS} {Wout : WX}
theorem ps_try_manyA (hs : X.stack = X.env :: X.outer) (hf : X.env.frame = some X.env.locals) (hN : X.N.Nodup) (hex : X.ex = []) (tk : Takes X Wout)
    (hb : ∀ (W : WX) (pn : List (Addr × Obj)) (xe : Value → Shared → Prop), Takes (X.tr pn xe) W → PassesOwn (model X.prog X.w) X.A X.env xe → PSs (X.tr pn xe) body (tb W))
    (hh : HdsOkA X (h₀ :: hds) l) : PS X (.Try body (h₀ :: hds) [] [] pos) (fun D σ H => tb (wManyA X.K Wout D l) D σ H) := by
  refine ⟨fun pins s σ H D I h => ?_⟩
  have ok := I.ok
  have hfr : X.A.frames = some (X.env :: X.outer) := by rw [ok.frames, hs]
  refine wpAny_Try_except ?_
  refine wpAny_mono ((hb (wManyA X.K Wout D l) (X.pn ++ pins) (fun e s₁ => wpAny (model X.prog X.w) X.A (noteFrame e X.env) (fun _ s₂ => wpAny (model X.prog X.w) X.A (setFlight e none) (fun _ s₃ =>
    wpAny (model X.prog X.w) X.A (handleBy e X.env (h₀ :: hds)) (SP X pins D) X.xe s₃) X.xe s₂) X.xe s₁) (fun u s' xx => ?_) PassesOwn.looking).run [] s σ H D (I.toTry _) h) (fun f s1 hsp => ?_) (fun e s1 he => he)
  · -- the catch
    obtain ⟨a, B, sI, pins', σ', H', cls, d, rfl, J', nb, up, sky, na, os, ag, w⟩ := xx
    have J : Inv X pins σ' H' sI := J'.ofTry ok
    have sky' : Sky B (X.env :: X.outer) a (Zc cls d) X.env.locals s'.heap := by rw [← hs]; exact sky
    show wpAny (model X.prog X.w) X.A (noteFrame (.ref a) X.env) _ _ _
    refine Sky.land Zc.steady hfr hf sky' fun h3 fl3 up3 => ?_
    have J3 : Inv X pins σ' H' { s' with heap := h3 } := J.landed nb fl3.1 (up.trans up3) os ag
    obtain ⟨oe3, vs3, he3, hz3, hd3⟩ := fl3.there
    have notFr : ∀ {h : Heap} {o : Obj} {vs : Array Value}, h.FunFrames B (X.env :: X.outer) → h.get? a = some o → o.data = .fields vs → a ∉ frs (X.env :: X.outer) := fun {h o vs} ff e dd hm => by
      obtain ⟨_, o', e', hnf⟩ := ff.mem hm
      rw [e] at e'; cases e'
      exact hnf _ dd
    have nfr := notFr fl3.2.2.1 he3 hd3
    have nL : a ≠ X.env.locals := fun z => nfr (List.mem_filterMap.mpr ⟨X.env, List.mem_cons_self, by rw [hf, z]⟩)
    have nF : a ∉ X.fs := fun hm => by
      obtain ⟨e, he, q⟩ := List.mem_filterMap.mp hm
      exact nfr (List.mem_filterMap.mpr ⟨e, List.mem_cons_of_mem _ he, q⟩)
    have S3 := J3.suite he3 hd3 na nL nF
    have gI : sI.heap.get? a = none := by
      cases q : sI.heap.get? a with
      | none => rfl
      | some o =>
        have z := nb a o q (by rw [hs]; exact nfr)
        rw [fl3.2.1] at z; cases z
    have n0 : X.s_0.heap.get? a = none := by
      cases q : X.s_0.heap.get? a with
      | none => rfl
      | some o =>
        obtain ⟨o', z⟩ := J.base.there a o q (by rw [hex]; simp)
        rw [gI] at z; cases z
    have npin : ∀ p ∈ X.pn ++ pins, p.1 ≠ a := fun p hp z => by
      have := (J.pin p hp).1
      rw [z, gI] at this; cases this
    have go : ∀ {hds' : List ExceptHandler} {l' : List (Value × Option Nat × TS)}, HdsOkA X hds' l' → wManyA X.K Wout D l' cls d σ' H' →
        wpAny (model X.prog X.w) X.A (handleBy (.ref a) X.env hds') (SP X pins D) X.xe { s' with heap := h3 } := by
      intro hds' l' hk
      induction hk with
      | nil =>
        intro w
        refine wpAny_handleBy_nil ?_
        obtain ⟨k1, k2, k3, oe, vs, T, oT, ts', he, hz, hd, h1, hr⟩ := id fl3
        unfold PySem.passOn
        refine wpAny_bind (wpAny_field he hd h1 ?_)
        rw [if_neg (show ¬ ((Value.ref T == Value.none) = true) from by simp)]
        have fin : wpAny (model X.prog X.w) X.A (setFlight (.ref a) X.env.frame) (fun _ s4 => wpAny (model X.prog X.w) X.A (throw (.ref a) : Sem Flow) (SP X pins D) X.xe s4) X.xe { s' with heap := h3 } := by
          rw [hf]
          refine HandSPX.setFlight_upZ fl3 fun h4 hh4 up4 => wpAny_throw (tk _ _ ?_)
          exact ⟨a, B, sI, pins, σ', H', cls, d, rfl, J, nb, (up.trans up3).trans up4, .inr (.inr (by rw [hs]; exact hh4)), na, os, ag, w⟩
        first
          | exact wpAny_bind (wpAny_pure (wpAny_bind fin))
          | exact wpAny_bind fin
      | @bare x c ts b₀ suite np pos' hds2 l2 hc hsu r ih =>
        intro w
        obtain ⟨b, hb1, hyes, hno⟩ := w
        refine wpAny_handleBy_cons (codeAny_handlers_test ?_) (by intro q; cases q)
        have LT : PySem.W.Looks (model X.prog X.w) h3 (typeOf (.ref a)) cls := fun A Q E s k q => wpAny_typeOf_ref (k _ _ he3) (by rw [hz3.1]; exact q)
        have LM := PySem.W.exm_one (M := model X.prog X.w) (J3.kIn) LT hb1
        have test : ∀ {Q : Value → Shared → Prop} {E : Value → Shared → Prop}, Q c { s' with heap := h3 } → wpAny (model X.prog X.w) (X.A.mark (some (.ref a))) (eval (.Name x np) X.env) Q E { s' with heap := h3 } := fun {Q E} q => by
          obtain ⟨hg, hdbg, hm | ⟨hm, hv, hnn⟩⟩ := hc
          · exact ld_glob (X := X.suite a ((a, oe3) :: (X.pn ++ pins))) S3 hg hm q hdbg
          · exact ld_blt (X := X.suite a ((a, oe3) :: (X.pn ++ pins))) S3 hg hm hv q hnn hdbg
        refine test (LM.here ?_)
        cases b with
        | true =>
          refine codeAny_handlers_suite ?_
          refine HandSPX.lands_againZ fl3 fun h4 fl4 up4 => ?_
          have J4 : Inv X pins σ' H' { s' with heap := h4 } := J.landed nb fl4.1 ((up.trans up3).trans up4) os ag
          obtain ⟨oe4, vs4, he4, hz4, hd4⟩ := fl4.there
          have S4 := J4.suiteT he4 hz4.1 hz4.2 hd4 na n0 npin nL
          refine wpAny_mono ((hsu a (X.pn ++ pins)).run [] _ _ _ _ S4 (hyes rfl a na)) (fun f s6 hsp => ?_) (fun _ _ z => False.elim z)
          cases f with
          | next =>
            obtain ⟨σ6, H6, S6, q6⟩ := hsp
            exact ⟨_, _, S6.unsuiteT ok, q6⟩
          | brk =>
            obtain ⟨σ6, H6, S6, q6⟩ := hsp
            exact ⟨_, _, S6.unsuiteT ok, q6⟩
          | cont =>
            obtain ⟨σ6, H6, S6, q6⟩ := hsp
            exact ⟨_, _, S6.unsuiteT ok, q6⟩
          | ret u =>
            obtain ⟨v6, σ6, H6, S6, r6, q6⟩ := hsp
            exact ⟨_, _, _, S6.unsuiteT ok, r6, q6⟩
        | false =>
          show wpAny _ X.A (handleBy (.ref a) X.env hds2) _ _ _
          exact ih (hno rfl)
      | @as_ x n c i ts b₀ suite np pos' hds2 l2 hc hi hln hsu r ih =>
        intro w
        obtain ⟨b, hb1, hyes, hno⟩ := w
        refine wpAny_handleBy_cons (codeAny_handlers_test ?_) (by intro q; cases q)
        have LT : PySem.W.Looks (model X.prog X.w) h3 (typeOf (.ref a)) cls := fun A Q E s k q => wpAny_typeOf_ref (k _ _ he3) (by rw [hz3.1]; exact q)
        have LM := PySem.W.exm_one (M := model X.prog X.w) (J3.kIn) LT hb1
        have test : ∀ {Q : Value → Shared → Prop} {E : Value → Shared → Prop}, Q c { s' with heap := h3 } → wpAny (model X.prog X.w) (X.A.mark (some (.ref a))) (eval (.Name x np) X.env) Q E { s' with heap := h3 } := fun {Q E} q => by
          obtain ⟨hg, hdbg, hm | ⟨hm, hv, hnn⟩⟩ := hc
          · exact ld_glob (X := X.suite a ((a, oe3) :: (X.pn ++ pins))) S3 hg hm q hdbg
          · exact ld_blt (X := X.suite a ((a, oe3) :: (X.pn ++ pins))) S3 hg hm hv q hnn hdbg
        refine test (LM.here ?_)
        cases b with
        | true =>
          refine codeAny_handlers_suite_as ?_
          refine HandSPX.lands_againZ fl3 fun h4 fl4 up4 => ?_
          have J4 : Inv X pins σ' H' { s' with heap := h4 } := J.landed nb fl4.1 ((up.trans up3).trans up4) os ag
          obtain ⟨oe4, vs4, he4, hz4, hd4⟩ := fl4.there
          have S4 := J4.suiteT he4 hz4.1 hz4.2 hd4 na n0 npin nL
          refine store_ok (X := X.suite a (X.pn ++ pins)) (v := .ref a) S4 hN hi (.inl hln) rfl (fun s5 S5 => ?_) (.inr hln)
          refine wpAny_mono ((hsu a (X.pn ++ pins)).run [] s5 _ _ _ S5 (hyes rfl a na)) (fun f s6 hsp => ?_) (fun _ _ z => False.elim z)
          have end_ : ∀ {σ6 : St} {H6 : Hp} {Q : Shared → Prop}, Inv (X.suite a (X.pn ++ pins)) [] σ6 H6 s6 → (∀ s7, Inv X pins (σ6.set i none) H6 s7 → Q s7) →
              wpAny (model X.prog X.w) X.A (do bindName X.env n .none; unbindBehindTheSuite X.env n pos') (fun _ s7 => Q s7) X.xe s6 := fun {σ6 H6 Q} S6 hq => gone_ok (S6.unsuiteT ok) hN hi hln hq
          cases f with
          | next =>
            obtain ⟨σ6, H6, S6, q6⟩ := hsp
            exact end_ S6 fun s7 J7 => ⟨_, _, J7, q6⟩
          | brk =>
            obtain ⟨σ6, H6, S6, q6⟩ := hsp
            exact end_ S6 fun s7 J7 => ⟨_, _, J7, q6⟩
          | cont =>
            obtain ⟨σ6, H6, S6, q6⟩ := hsp
            exact end_ S6 fun s7 J7 => ⟨_, _, J7, q6⟩
          | ret u =>
            obtain ⟨v6, σ6, H6, S6, r6, q6⟩ := hsp
            exact end_ S6 fun s7 J7 => ⟨_, _, _, J7, r6, q6⟩
        | false =>
          show wpAny _ X.A (handleBy (.ref a) X.env hds2) _ _ _
          exact ih (hno rfl)
    exact go hh w
  · cases f with
    | next =>
      obtain ⟨σ', H', J', q⟩ := hsp
      exact wpAny_execs_nil ⟨σ', H', J'.ofTry ok, q⟩
    | brk =>
      obtain ⟨σ', H', J', q⟩ := hsp
      exact ⟨σ', H', J'.ofTry ok, q⟩
    | cont =>
      obtain ⟨σ', H', J', q⟩ := hsp
      exact ⟨σ', H', J'.ofTry ok, q⟩
    | ret u =>
      obtain ⟨v, σ', H', J', r, q⟩ := hsp
      exact ⟨v, σ', H', J'.ofTry ok, r, q⟩
end
end L2
set_option Elab.async false
set_option linter.all false
set_option maxRecDepth 100000
set_option maxHeartbeats 2000000
namespace T3
open PySem L2
open Evl (Ex)

/-- values of the pure layer: tuples, frozen lists and frozen instances are values -/
inductive D where
  | non | bl (b : Bool) | int (i : Int) | str (x : Str) | ty (n : String) | ref (a : Addr)
  | tup (xs : List D) | lst (xs : List D)
  | ins (C : Addr) (ns : List Str) (vs : List D)

mutual
/-- the value d is v, its frozen parts in F -/
def RD (F : Hp) : D → V → Prop
  | .non, v => v = .non
  | .bl b, v => v = .bl b
  | .int i, v => v = .int i
  | .str x, v => v = .str x
  | .ty n, v => v = .ty n
  | .ref a, v => v = .ref a
  | .tup ds, v => ∃ a vs, v = .ref a ∧ F a = some (.tup vs) ∧ RDs F ds vs
  | .lst ds, v => ∃ a vs, v = .ref a ∧ F a = some (.lst vs) ∧ RDs F ds vs
  | .ins C ns ds, v => ∃ a dx vs, v = .ref a ∧ F a = some (.ins C dx (ns.zip vs)) ∧ ns.length = vs.length ∧ RDs F ds vs
def RDs (F : Hp) : List D → List V → Prop
  | [], vs => vs = []
  | d :: ds, vs => ∃ v r, vs = v :: r ∧ RD F d v ∧ RDs F ds r
end
mutual
theorem RD.mono {F F' : Hp} (e : Ex F F') : ∀ {d : D} {v : V}, RD F d v → RD F' d v
  | .non, _, h => h
  | .bl _, _, h => h
  | .int _, _, h => h
  | .str _, _, h => h
  | .ty _, _, h => h
  | .ref _, _, h => h
  | .tup _, _, ⟨a, vs, e1, h, r⟩ => ⟨a, vs, e1, e a _ h, RDs.mono e r⟩
  | .lst _, _, ⟨a, vs, e1, h, r⟩ => ⟨a, vs, e1, e a _ h, RDs.mono e r⟩
  | .ins _ _ _, _, ⟨a, dx, vs, e1, h, hl, r⟩ => ⟨a, dx, vs, e1, e a _ h, hl, RDs.mono e r⟩
theorem RDs.mono {F F' : Hp} (e : Ex F F') : ∀ {ds : List D} {vs : List V}, RDs F ds vs → RDs F' ds vs
  | [], _, h => h
  | _ :: _, _, ⟨v, r, e1, h, hr⟩ => ⟨v, r, e1, RD.mono e h, RDs.mono e hr⟩
end
theorem RDs.length {F : Hp} : ∀ {ds : List D} {vs : List V}, RDs F ds vs → ds.length = vs.length
  | [], vs, h => by rw [show vs = [] from h]; rfl
  | _ :: _, _, ⟨v, r, e1, h, hr⟩ => by rw [e1, List.length_cons, List.length_cons, RDs.length hr]
theorem RDs.append {F : Hp} : ∀ {ds es : List D} {vs us : List V}, RDs F ds vs → RDs F es us → RDs F (ds ++ es) (vs ++ us)
  | [], _, _, _, h, h2 => by rw [show _ = [] from h]; exact h2
  | _ :: _, _, _, us, ⟨v, r, e1, h, hr⟩, h2 => ⟨v, r ++ us, by rw [e1]; rfl, h, RDs.append hr h2⟩
theorem RDs.get {F : Hp} : ∀ {ds : List D} {vs : List V} {i : Nat} {v : V}, RDs F ds vs → vs[i]? = some v → ∃ d, ds[i]? = some d ∧ RD F d v
  | [], _, _, _, h, e => by rw [show _ = [] from h] at e; simp at e
  | d :: _, _, 0, v, ⟨v', r, e1, h, hr⟩, e => by subst e1; simp at e; subst e; exact ⟨d, rfl, h⟩
  | _ :: _, _, i + 1, v, ⟨v', r, e1, h, hr⟩, e => by
    subst e1
    obtain ⟨d, h1, h2⟩ := RDs.get (i := i) (v := v) hr (by simpa using e)
    exact ⟨d, by simpa using h1, h2⟩
theorem RDs.at {F : Hp} {ds : List D} {vs : List V} {i : Nat} {d : D} (h : RDs F ds vs) (e : ds[i]? = some d) : ∃ v, vs[i]? = some v ∧ RD F d v := by
  have hi : i < ds.length := (List.getElem?_eq_some_iff.mp e).1
  have hv : i < vs.length := by rw [← h.length]; exact hi
  obtain ⟨d', h1, h2⟩ := h.get (i := i) (v := vs[i]) (by simp [hv])
  rw [e] at h1; cases h1
  exact ⟨vs[i], by simp [hv], h2⟩
theorem RDs.of {F : Hp} : ∀ {ds : List D} {vs : List V}, ds.length = vs.length → (∀ (i : Nat) d v, ds[i]? = some d → vs[i]? = some v → RD F d v) → RDs F ds vs
  | [], [], _, _ => rfl
  | [], _ :: _, h, _ => by simp at h
  | _ :: _, [], h, _ => by simp at h
  | d :: ds, v :: vs, h, k => ⟨v, vs, rfl, k 0 d v rfl rfl, RDs.of (by simpa using h) fun i d v a b => k (i + 1) d v (by simpa using a) (by simpa using b)⟩
theorem RDs.take {F : Hp} {ds : List D} {vs : List V} (n : Nat) (h : RDs F ds vs) : RDs F (ds.take n) (vs.take n) := RDs.of (by simp [h.length]) fun i d v a b => by
  rw [List.getElem?_take] at a b
  split at a
  · rw [if_pos (by assumption)] at b
    obtain ⟨v', h1, h2⟩ := h.at a
    rw [b] at h1; cases h1; exact h2
  · cases a
theorem RDs.drop {F : Hp} {ds : List D} {vs : List V} (n : Nat) (h : RDs F ds vs) : RDs F (ds.drop n) (vs.drop n) := RDs.of (by simp [h.length]) fun i d v a b => by
  rw [List.getElem?_drop] at a b
  obtain ⟨v', h1, h2⟩ := h.at a
  rw [b] at h1; cases h1; exact h2
theorem RDs.set {F : Hp} {ds : List D} {vs : List V} {d : D} {v : V} (n : Nat) (h : RDs F ds vs) (r : RD F d v) : RDs F (ds.set n d) (vs.set n v) := RDs.of (by simp [h.length]) fun i d' v' a b => by
  by_cases e : n = i
  · subst e
    have hi : n < ds.length := by have := (List.getElem?_eq_some_iff.mp a).1; simpa using this
    have hv : n < vs.length := by rw [← h.length]; exact hi
    rw [List.getElem?_set_self hi] at a
    rw [List.getElem?_set_self hv] at b
    cases a; cases b; exact r
  · rw [List.getElem?_set_ne e] at a b
    obtain ⟨v'', h1, h2⟩ := h.at a
    rw [b] at h1; cases h1; exact h2
theorem RDs.reverse {F : Hp} {ds : List D} {vs : List V} (h : RDs F ds vs) : RDs F ds.reverse vs.reverse := RDs.of (by simp [h.length]) fun i d v a b => by
  have hi : i < ds.length := by have := (List.getElem?_eq_some_iff.mp a).1; simpa using this
  have hv : i < vs.length := by rw [← h.length]; exact hi
  rw [List.getElem?_reverse hi] at a
  rw [List.getElem?_reverse hv, ← h.length] at b
  obtain ⟨v'', h1, h2⟩ := h.at a
  rw [b] at h1; cases h1; exact h2
theorem RDs.eraseIdx {F : Hp} {ds : List D} {vs : List V} (n : Nat) (h : RDs F ds vs) : RDs F (ds.eraseIdx n) (vs.eraseIdx n) := by
  rw [List.eraseIdx_eq_take_drop_succ, List.eraseIdx_eq_take_drop_succ]
  exact (h.take n).append (h.drop (n + 1))
theorem RDs.one {F : Hp} {d : D} {v : V} (r : RD F d v) : RDs F [d] [v] := ⟨v, [], rfl, r, rfl⟩
theorem RDs.snoc {F : Hp} {ds : List D} {vs : List V} {d : D} {v : V} (h : RDs F ds vs) (r : RD F d v) : RDs F (ds ++ [d]) (vs ++ [v]) := h.append (.one r)

def isNon : D → Bool
  | .non => true
  | _ => false
theorem RD.isNon {F : Hp} {x : D} {v : V} (h : RD F x v) : decide (v = .non) = T3.isNon x := by
  cases x with
  | non => rw [show v = .non from h]; rfl
  | bl b => rw [show v = .bl b from h]; rfl
  | int b => rw [show v = .int b from h]; rfl
  | str b => rw [show v = .str b from h]; rfl
  | ty b => rw [show v = .ty b from h]; rfl
  | ref b => rw [show v = .ref b from h]; rfl
  | tup _ => obtain ⟨_, _, e, _⟩ := h; subst e; rfl
  | lst _ => obtain ⟨_, _, e, _⟩ := h; subst e; rfl
  | ins _ _ _ => obtain ⟨_, _, _, e, _⟩ := h; subst e; rfl
/-- a scalar as a value -/
def dV : V → D
  | .non => .non
  | .bl b => .bl b
  | .int i => .int i
  | .str x => .str x
  | .ty n => .ty n
  | .ref a => .ref a
  | .byt _ => .non
  | .flt _ => .non

/-! ### owned objects -/
structure GenR where
  R : Hp → HO → Prop
  mono : ∀ F F' ho, Ex F F' → R F ho → R F' ho
  nt : ∀ F xs, ¬ R F (.tup xs)
inductive DO where
  | lst (ds : List D)
  | ins (C : Addr) (fs : List (Str × D))
  | dK (kvs : List (Key × D))
  | dT (kvs : List (List Key × D))
  | raw (o : HO)
  | exc (a C : Addr) (thing : D)
  | tab (q : Str)
  | gen (g : GenR)
abbrev Mem := Addr → Option DO
abbrev Sig := List (Option D)
def PKV {κ : Type} (F : Hp) : List (κ × D) → List (κ × V) → Prop := Paired fun p q => p.1 = q.1 ∧ RD F p.2 q.2
theorem PKV.mono {κ : Type} {F F' : Hp} (e : Ex F F') {l : List (κ × D)} {m : List (κ × V)} (h : PKV F l m) : PKV F' l m := Paired.mapP h fun _ _ q => ⟨q.1, q.2.mono e⟩
def RO (F : Hp) : DO → HO → Prop
  | .lst ds, ho => ∃ vs, ho = .lst vs ∧ RDs F ds vs
  | .ins C fs, ho => ∃ dx fv, ho = .ins C dx fv ∧ PKV F fs fv
  | .dK kvs, ho => ∃ kv, ho = .dK kv ∧ PKV F kvs kv
  | .dT kvs, ho => ∃ kv, ho = .dT kv ∧ PKV F kvs kv
  | .raw o, ho => ho = o ∧ ∀ xs, o ≠ HO.tup xs
  | .exc a C th, ho => ∃ dd v, ho = EXO a (.ref C) (some dd) ∧ F dd = some (.xd [(("thing" : Str), v)]) ∧ RD F th v
  | .tab q, ho => ∃ ps : Array Value, ho = .tbl ps ∧ TriplesOk ps.toList ∧ ∀ (pos : Pos) (cv : Value), codeAmong pos ps.toList = some cv → ∃ c, cv = .ref c ∧ F c = some (LamX.CodeO c q)
  | .gen g, ho => g.R F ho
theorem RO.mono {F F' : Hp} (e : Ex F F') : ∀ {o : DO} {ho : HO}, RO F o ho → RO F' o ho
  | .lst _, _, ⟨vs, e1, r⟩ => ⟨vs, e1, r.mono e⟩
  | .ins _ _, _, ⟨dx, fv, e1, r⟩ => ⟨dx, fv, e1, r.mono e⟩
  | .dK _, _, ⟨kv, e1, r⟩ => ⟨kv, e1, r.mono e⟩
  | .dT _, _, ⟨kv, e1, r⟩ => ⟨kv, e1, r.mono e⟩
  | .raw _, _, h => h
  | .exc _ _ _, _, ⟨dd, v, e1, h, r⟩ => ⟨dd, v, e1, e dd _ h, r.mono e⟩
  | .tab _, _, ⟨ps, e1, t, h⟩ => ⟨ps, e1, t, fun pos cv hc => let ⟨c, a, b⟩ := h pos cv hc; ⟨c, a, e c _ b⟩⟩
  | .gen g, _, h => g.mono _ _ _ e h
def mput (M : Mem) (a : Addr) (o : DO) : Mem := fun b => if b = a then some o else M b
def mdel (M : Mem) (a : Addr) : Mem := fun b => if b = a then none else M b
theorem mput_same {M : Mem} {a : Addr} {o : DO} : mput M a o a = some o := if_pos rfl
theorem mput_ne {M : Mem} {a b : Addr} {o : DO} (h : b ≠ a) : mput M a o b = M b := if_neg h
theorem mdel_same {M : Mem} {a : Addr} : mdel M a a = none := if_pos rfl
theorem mdel_ne {M : Mem} {a b : Addr} (h : b ≠ a) : mdel M a b = M b := if_neg h
theorem mput_mput {M : Mem} {a : Addr} {o u : DO} : mput (mput M a o) a u = mput M a u := by funext b; unfold mput; split <;> rfl
theorem mdel_mput {M : Mem} {a : Addr} {o : DO} (h : M a = none) : mdel (mput M a o) a = M := by
  funext b; unfold mdel; split
  · rename_i e; rw [e, h]
  · rename_i e; exact mput_ne e
theorem mput_self {M : Mem} {a : Addr} {o : DO} (h : M a = some o) : mput M a o = M := by
  funext b; unfold mput; split
  · rename_i e; rw [e, h]
  · rfl
theorem mput_comm {M : Mem} {a b : Addr} {o u : DO} (h : a ≠ b) : mput (mput M a o) b u = mput (mput M b u) a o := by
  funext c; unfold mput
  by_cases h1 : c = a
  · subst h1; rw [if_neg h, if_pos rfl, if_pos rfl]
  · by_cases h2 : c = b
    · subst h2; rw [if_pos rfl, if_neg h1, if_pos rfl]
    · rw [if_neg h2, if_neg h1, if_neg h1, if_neg h2]
theorem mne {M : Mem} {a b : Addr} {o : DO} (h : M a = some o) (h' : M b = none) : a ≠ b := by
  intro e; subst e; rw [h] at h'; cases h'

/-- the state: frozen F, owned M, the layer's heap H -/
structure St3 (F : Hp) (M : Mem) (H : Hp) : Prop where
  fz : Ex F H
  own : ∀ a o, M a = some o → F a = none ∧ ∃ ho, H a = some ho ∧ RO F o ho
theorem St3.nn {F : Hp} {M : Mem} {H : Hp} (s : St3 F M H) {p : Addr} (h : H p = none) : F p = none ∧ M p = none := by
  refine ⟨Evl.fresh_back s.fz h, ?_⟩
  cases q : M p with
  | none => rfl
  | some o => obtain ⟨_, ho, e, _⟩ := s.own p o q; rw [h] at e; cases e
/-- a new frozen object -/
theorem St3.new {F : Hp} {M : Mem} {H : Hp} (s : St3 F M H) {p : Addr} {o : HO} (h : H p = none) : St3 (upd F p o) M (upd H p o) ∧ Ex F (upd F p o) := by
  obtain ⟨f0, m0⟩ := s.nn h
  have e0 : Ex F (upd F p o) := Ex.new f0
  refine ⟨⟨fun a u e => ?_, fun a u e => ?_⟩, e0⟩
  · by_cases q : a = p
    · subst q; rw [upd_same] at e ⊢; exact e
    · rw [upd_ne q] at e ⊢; exact s.fz a u e
  · have q : a ≠ p := mne e m0
    obtain ⟨x, ho, y, z⟩ := s.own a u e
    exact ⟨by rw [upd_ne q]; exact x, ho, by rw [upd_ne q]; exact y, z.mono e0⟩
/-- a new owned object -/
theorem St3.newO {F : Hp} {M : Mem} {H : Hp} (s : St3 F M H) {p : Addr} {o : HO} {d : DO} (h : H p = none) (r : RO F d o) : St3 F (mput M p d) (upd H p o) := by
  obtain ⟨f0, m0⟩ := s.nn h
  refine ⟨fun a u e => ?_, fun a u e => ?_⟩
  · rw [upd_ne (ne_of_none e f0)]; exact s.fz a u e
  · by_cases q : a = p
    · subst q; rw [mput_same] at e; cases e
      exact ⟨f0, o, upd_same, r⟩
    · rw [mput_ne q] at e
      obtain ⟨x, ho, y, z⟩ := s.own a u e
      exact ⟨x, ho, by rw [upd_ne q]; exact y, z⟩
/-- an owned object changed -/
theorem St3.put {F : Hp} {M : Mem} {H : Hp} (s : St3 F M H) {p : Addr} {o : HO} {d d' : DO} (h : M p = some d) (r : RO F d' o) : St3 F (mput M p d') (upd H p o) := by
  obtain ⟨f0, ho, hp, _⟩ := s.own p d h
  refine ⟨fun a u e => ?_, fun a u e => ?_⟩
  · rw [upd_ne (ne_of_none e f0)]; exact s.fz a u e
  · by_cases q : a = p
    · subst q; rw [mput_same] at e; cases e
      exact ⟨f0, o, upd_same, r⟩
    · rw [mput_ne q] at e
      obtain ⟨x, ho, y, z⟩ := s.own a u e
      exact ⟨x, ho, by rw [upd_ne q]; exact y, z⟩
/-- forget an owned object -/
theorem St3.drop {F : Hp} {M : Mem} {H : Hp} (s : St3 F M H) (p : Addr) : St3 F (mdel M p) H := by
  refine ⟨s.fz, fun a u e => ?_⟩
  by_cases q : a = p
  · subst q; rw [mdel_same] at e; cases e
  · rw [mdel_ne q] at e; exact s.own a u e
/-- freeze an owned object -/
theorem St3.freeze {F : Hp} {M : Mem} {H : Hp} (s : St3 F M H) {p : Addr} {o : HO} {d : DO} (h : M p = some d) (hp : H p = some o) : St3 (upd F p o) (mdel M p) H ∧ Ex F (upd F p o) := by
  obtain ⟨f0, _⟩ := s.own p d h
  have e0 : Ex F (upd F p o) := Ex.new f0
  refine ⟨⟨fun a u e => ?_, fun a u e => ?_⟩, e0⟩
  · by_cases q : a = p
    · subst q; rw [upd_same] at e; cases e; exact hp
    · rw [upd_ne q] at e; exact s.fz a u e
  · by_cases q : a = p
    · subst q; rw [mdel_same] at e; cases e
    · rw [mdel_ne q] at e
      obtain ⟨x, ho, y, z⟩ := s.own a u e
      exact ⟨by rw [upd_ne q]; exact x, ho, y, z.mono e0⟩

/-- the slots -/
def SRel (F : Hp) (σ : Sig) (σv : St) : Prop := σ.length = σv.length ∧ ∀ (i : Nat) (d : D), σ[i]? = some (some d) → ∃ v, σv[i]? = some (some v) ∧ RD F d v
theorem SRel.mono {F F' : Hp} {σ : Sig} {σv : St} (h : SRel F σ σv) (e : Ex F F') : SRel F' σ σv := ⟨h.1, fun i d q => let ⟨v, a, b⟩ := h.2 i d q; ⟨v, a, b.mono e⟩⟩
theorem SRel.set {F : Hp} {σ : Sig} {σv : St} {i : Nat} {d : D} {v : V} (h : SRel F σ σv) (r : RD F d v) : SRel F (σ.set i (some d)) (σv.set i (some v)) := by
  refine ⟨by simp [h.1], fun j d' q => ?_⟩
  by_cases e : i = j
  · subst e
    have hi : i < σ.length := by have := (List.getElem?_eq_some_iff.mp q).1; simpa using this
    rw [List.getElem?_set_self hi] at q
    cases q
    exact ⟨v, List.getElem?_set_self (by rw [← h.1]; exact hi), r⟩
  · rw [List.getElem?_set_ne e] at q ⊢
    exact h.2 j d' q
def wipe3 (σ : Sig) : List Nat → Sig
  | [] => σ
  | v :: vs => (wipe3 σ vs).set v none
theorem SRel.setN {F : Hp} {σ : Sig} {σv : St} {i : Nat} (h : SRel F σ σv) : SRel F (σ.set i none) (σv.set i none) := by
  refine ⟨by simp [h.1], fun j d' q => ?_⟩
  by_cases e : i = j
  · subst e
    have hi : i < σ.length := by have := (List.getElem?_eq_some_iff.mp q).1; simpa using this
    rw [List.getElem?_set_self hi] at q
    cases q
  · rw [List.getElem?_set_ne e] at q ⊢
    exact h.2 j d' q
theorem SRel.wipe {F : Hp} {σ : Sig} {σv : St} (h : SRel F σ σv) : ∀ vs, SRel F (wipe3 σ vs) (L2.wipe σv vs)
  | [] => h
  | _ :: vs => (SRel.wipe h vs).setN
def start3 (N : List Str) (ds : List D) : Sig := ds.map some ++ List.replicate (N.length - ds.length) none
theorem SRel.start {F : Hp} {N : List Str} {ds : List D} {vs : List V} (h : RDs F ds vs) : SRel F (start3 N ds) (L2.start N vs) := by
  unfold start3 L2.start
  refine ⟨by simp [h.length], fun i d q => ?_⟩
  by_cases hi : i < ds.length
  · rw [List.getElem?_append_left (by simpa using hi), List.getElem?_map] at q
    obtain ⟨d', e1, e2⟩ := Option.map_eq_some_iff.mp q
    cases e2
    obtain ⟨v, e3, r⟩ := h.at e1
    refine ⟨v, ?_, r⟩
    rw [List.getElem?_append_left (by rw [List.length_map, ← h.length]; exact hi), List.getElem?_map, e3]
    rfl
  · rw [List.getElem?_append_right (by simpa using hi)] at q
    have := List.getElem?_replicate (n := N.length - ds.length) (a := (none : Option D)) (i := i - (ds.map some).length)
    rw [this] at q
    split at q <;> cases q

/-! ### the judgements -/
abbrev DQ := D → Mem → Prop
section
variable (B : Hp)
def W3e (te : TE) (σ : Sig) (M : Mem) (Q : DQ) : Prop :=
  ∀ (F : Hp) (σv : St) (H : Hp) (Qv : VK), Ex B F → SRel F σ σv → St3 F M H → (∀ F' M' d v H', Ex F F' → St3 F' M' H' → RD F' d v → Q d M' → Qv v H') → te σv H Qv
def W3t (tt : TT) (σ : Sig) (M : Mem) (Q : Bool → Mem → Prop) : Prop :=
  ∀ (F : Hp) (σv : St) (H : Hp) (Qv : Bool → Hp → Prop), Ex B F → SRel F σ σv → St3 F M H → (∀ F' M' b H', Ex F F' → St3 F' M' H' → Q b M' → Qv b H') → tt σv H Qv
def W3a (ta : TA) (σ : Sig) (M : Mem) (Q : List D → Mem → Prop) : Prop :=
  ∀ (F : Hp) (σv : St) (H : Hp) (Qv : List V → Hp → Prop), Ex B F → SRel F σ σv → St3 F M H → (∀ F' M' ds vs H', Ex F F' → St3 F' M' H' → RDs F' ds vs → Q ds M' → Qv vs H') → ta σv H Qv
def R3 (r : R2) (x y : D) (M : Mem) (Q : DQ) : Prop :=
  ∀ (F : Hp) (H : Hp) (xv yv : V) (Qv : VK), Ex B F → St3 F M H → RD F x xv → RD F y yv → (∀ F' M' d v H', Ex F F' → St3 F' M' H' → RD F' d v → Q d M' → Qv v H') → r xv yv H Qv
def U3 (r : V → Hp → VK → Prop) (x : D) (M : Mem) (Q : DQ) : Prop :=
  ∀ (F : Hp) (H : Hp) (xv : V) (Qv : VK), Ex B F → St3 F M H → RD F x xv → (∀ F' M' d v H', Ex F F' → St3 F' M' H' → RD F' d v → Q d M' → Qv v H') → r xv H Qv
def C3 (r : List V → Hp → VK → Prop) (xs : List D) (M : Mem) (Q : DQ) : Prop :=
  ∀ (F : Hp) (H : Hp) (xv : List V) (Qv : VK), Ex B F → St3 F M H → RDs F xs xv → (∀ F' M' d v H', Ex F F' → St3 F' M' H' → RD F' d v → Q d M' → Qv v H') → r xv H Qv
def M3 (r : V → List V → Hp → VK → Prop) (x : D) (xs : List D) (M : Mem) (Q : DQ) : Prop :=
  ∀ (F : Hp) (H : Hp) (xv : V) (xvs : List V) (Qv : VK), Ex B F → St3 F M H → RD F x xv → RDs F xs xvs → (∀ F' M' d v H', Ex F F' → St3 F' M' H' → RD F' d v → Q d M' → Qv v H') → r xv xvs H Qv
def G3 (g : TG) (x : D) (σ : Sig) (M : Mem) (Q : Sig → Mem → Prop) : Prop :=
  ∀ (F : Hp) (σv : St) (H : Hp) (xv : V) (Qv : St → Hp → Prop), Ex B F → SRel F σ σv → St3 F M H → RD F x xv → (∀ F' M' σ' σv' H', Ex F F' → SRel F' σ' σv' → St3 F' M' H' → Q σ' M' → Qv σv' H') → g xv σv H Qv
def G3s (g : TGs) (xs : List D) (σ : Sig) (M : Mem) (Q : Sig → Mem → Prop) : Prop :=
  ∀ (F : Hp) (σv : St) (H : Hp) (xv : List V) (Qv : St → Hp → Prop), Ex B F → SRel F σ σv → St3 F M H → RDs F xs xv → (∀ F' M' σ' σv' H', Ex F F' → SRel F' σ' σv' → St3 F' M' H' → Q σ' M' → Qv σv' H') → g xv σv H Qv
end
structure Ends3 where
  nx : Sig → Mem → Prop
  rt : DQ
  bk : Sig → Mem → Prop := fun _ _ => False
  ct : Sig → Mem → Prop := fun _ _ => False
def ImpS (F : Hp) (q : Sig → Mem → Prop) (qv : St → Hp → Prop) : Prop := ∀ F' M' σ' σv' H', Ex F F' → SRel F' σ' σv' → St3 F' M' H' → q σ' M' → qv σv' H'
structure Imp (F : Hp) (D3 : Ends3) (Dv : Ends) : Prop where
  nx : ImpS F D3.nx Dv.nx
  rt : ∀ F' M' d v H', Ex F F' → St3 F' M' H' → RD F' d v → D3.rt d M' → Dv.rt v H'
  bk : ImpS F D3.bk Dv.bk
  ct : ImpS F D3.ct Dv.ct
theorem ImpS.mono {F F1 : Hp} {q : Sig → Mem → Prop} {qv : St → Hp → Prop} (h : ImpS F q qv) (e : Ex F F1) : ImpS F1 q qv := fun F' M' σ' σv' H' a => h F' M' σ' σv' H' (e.trans a)
theorem Imp.mono {F F1 : Hp} {D3 : Ends3} {Dv : Ends} (h : Imp F D3 Dv) (e : Ex F F1) : Imp F1 D3 Dv :=
  ⟨h.nx.mono e, fun F' M' d v H' a => h.rt F' M' d v H' (e.trans a), h.bk.mono e, h.ct.mono e⟩
def W3s (B : Hp) (ts : TS) (D3 : Ends3) (σ : Sig) (M : Mem) : Prop :=
  ∀ (F : Hp) (σv : St) (H : Hp) (Dv : Ends), Ex B F → SRel F σ σv → St3 F M H → Imp F D3 Dv → ts Dv σv H

/-! ### consequence -/
section
variable {B : Hp} {te : TE} {tt : TT} {ts : TS} {σ : Sig} {M : Mem} {Q Q' : DQ} {D3 D3' : Ends3}
theorem W3e.to (h : W3e B te σ M Q) (k : ∀ d M', Q d M' → Q' d M') : W3e B te σ M Q' := fun F σv H Qv b hs st q => h F σv H Qv b hs st fun F' M' d v H' e s r z => q F' M' d v H' e s r (k d M' z)
theorem W3t.to {Q Q' : Bool → Mem → Prop} (h : W3t B tt σ M Q) (k : ∀ d M', Q d M' → Q' d M') : W3t B tt σ M Q' := fun F σv H Qv b hs st q => h F σv H Qv b hs st fun F' M' d H' e s z => q F' M' d H' e s (k d M' z)
theorem W3s.to (h : W3s B ts D3 σ M) (k1 : ∀ σ M, D3.nx σ M → D3'.nx σ M) (k2 : ∀ d M, D3.rt d M → D3'.rt d M) (k3 : ∀ σ M, D3.bk σ M → D3'.bk σ M) (k4 : ∀ σ M, D3.ct σ M → D3'.ct σ M) : W3s B ts D3' σ M :=
  fun F σv H Dv b hs st im => h F σv H Dv b hs st ⟨fun F' M' σ' σv' H' e s t q => im.nx F' M' σ' σv' H' e s t (k1 _ _ q), fun F' M' d v H' e s r q => im.rt F' M' d v H' e s r (k2 _ _ q),
    fun F' M' σ' σv' H' e s t q => im.bk F' M' σ' σv' H' e s t (k3 _ _ q), fun F' M' σ' σv' H' e s t q => im.ct F' M' σ' σv' H' e s t (k4 _ _ q)⟩
theorem W3s.nx {nx : Sig → Mem → Prop} (h : W3s B ts { D3 with nx := nx } σ M) (k : ∀ σ M, nx σ M → D3.nx σ M) : W3s B ts D3 σ M := h.to k (fun _ _ z => z) (fun _ _ z => z) (fun _ _ z => z)
end

/-! ### expressions -/
section
variable {B : Hp} {ta tb tc te : TE} {tA tB' : TT} {t tr : TA} {σ : Sig} {M : Mem} {Q : DQ} {d x y : D} {i : Nat} {r r' : R2} {K : PySem.W.Frag}
theorem w_var (h : σ[i]? = some (some d)) (q : Q d M) : W3e B (tVar i) σ M Q := fun F σv H Qv _ hs st k =>
  let ⟨v, e, rd⟩ := hs.2 i d h
  ⟨v, e, k F M d v H (Ex.refl _) st rd q⟩
theorem w_c {v : V} (q : Q d M) (h : ∀ F, RD F d v := by intro F; rfl) : W3e B (tC v) σ M Q := fun F σv H Qv _ hs st k => k F M d v H (Ex.refl _) st (h F) q
theorem w_op (h : W3e B ta σ M (fun x M1 => W3e B tb σ M1 (fun y M2 => R3 B r x y M2 Q))) : W3e B (tOp r ta tb) σ M Q := fun F σv H Qv b hs st k =>
  h F σv H _ b hs st fun F1 M1 x xv H1 e1 st1 rx q1 => q1 F1 σv H1 _ (b.trans e1) (hs.mono e1) st1 fun F2 M2 y yv H2 e2 st2 ry q2 =>
    q2 F2 H2 xv yv Qv ((b.trans e1).trans e2) st2 (rx.mono e2) ry fun F3 M3 d v H3 e3 st3 rd qd => k F3 M3 d v H3 ((e1.trans e2).trans e3) st3 rd qd
theorem w_un {r : V → Hp → VK → Prop} (h : W3e B ta σ M (fun x M1 => U3 B r x M1 Q)) : W3e B (tUn r ta) σ M Q := fun F σv H Qv b hs st k =>
  h F σv H _ b hs st fun F1 M1 x xv H1 e1 st1 rx q1 => q1 F1 H1 xv Qv (b.trans e1) st1 rx fun F3 M3 d v H3 e3 st3 rd qd => k F3 M3 d v H3 (e1.trans e3) st3 rd qd
theorem w_nil {Q : List D → Mem → Prop} (q : Q [] M) : W3a B tNil σ M Q := fun F σv H Qv _ hs st k => k F M [] [] H (Ex.refl _) st rfl q
theorem w_cons {Q : List D → Mem → Prop} (h : W3e B ta σ M (fun x M1 => W3a B tr σ M1 (fun xs M2 => Q (x :: xs) M2))) : W3a B (tCons ta tr) σ M Q := fun F σv H Qv b hs st k =>
  h F σv H _ b hs st fun F1 M1 x xv H1 e1 st1 rx q1 => q1 F1 σv H1 _ (b.trans e1) (hs.mono e1) st1 fun F2 M2 ys yv H2 e2 st2 ry q2 => k F2 M2 (x :: ys) (xv :: yv) H2 (e1.trans e2) st2 ⟨xv, yv, rfl, rx.mono e2, ry⟩ q2
theorem w_tup (h : W3a B t σ M (fun ds M1 => ds.length ≤ 100000 ∧ Q (.tup ds) M1)) : W3e B (tTup t) σ M Q := fun F σv H Qv b hs st k =>
  h F σv H _ b hs st fun F1 M1 ds vs H1 e1 st1 rx ⟨z, q⟩ => ⟨Evl.sz_of (by rw [← rx.length]; exact z), fun p hp => by
    obtain ⟨s2, e2⟩ := st1.new (o := .tup vs) hp
    exact k _ _ (.tup ds) _ _ (e1.trans e2) s2 ⟨p, vs, rfl, upd_same, rx.mono e2⟩ q⟩
theorem w_lst (h : W3a B t σ M (fun ds M1 => ds.length ≤ 100000 ∧ Q (.lst ds) M1)) : W3e B (tLst t) σ M Q := fun F σv H Qv b hs st k =>
  h F σv H _ b hs st fun F1 M1 ds vs H1 e1 st1 rx ⟨z, q⟩ => ⟨Evl.sz_of (by rw [← rx.length]; exact z), fun p hp => by
    obtain ⟨s2, e2⟩ := st1.new (o := .lst vs) hp
    exact k _ _ (.lst ds) _ _ (e1.trans e2) s2 ⟨p, vs, rfl, upd_same, rx.mono e2⟩ q⟩
/-- a written list that will change -/
theorem w_lstO (h : W3a B t σ M (fun ds M1 => ds.length ≤ 100000 ∧ ∀ p, M1 p = none → Q (.ref p) (mput M1 p (.lst ds)))) : W3e B (tLst t) σ M Q := fun F σv H Qv b hs st k =>
  h F σv H _ b hs st fun F1 M1 ds vs H1 e1 st1 rx ⟨z, q⟩ => ⟨Evl.sz_of (by rw [← rx.length]; exact z), fun p hp =>
    k _ _ (.ref p) _ _ e1 (st1.newO (d := .lst ds) hp ⟨vs, rfl, rx⟩) rfl (q p (st1.nn hp).2)⟩
/-! tests -/
theorem w_B {Q : Bool → Mem → Prop} (h : W3e B te σ M (fun x M1 => ∃ k, x = .bl k ∧ Q k M1)) : W3t B (tB te) σ M Q := fun F σv H Qv b hs st k =>
  h F σv H _ b hs st fun F1 M1 x xv H1 e1 st1 rx ⟨c, ec, q⟩ => by
    subst ec
    exact ⟨c, rx, k F1 M1 c H1 e1 st1 q⟩
theorem w_test {Q : Bool → Mem → Prop} (h : W3e B te σ M (fun x M1 => ∃ k, x = .bl k ∧ Q k M1)) : W3t B (tTest te) σ M Q := w_B h
theorem w_andT {Q : Bool → Mem → Prop} (h : W3t B tA σ M (fun c M1 => if c = true then W3t B tB' σ M1 Q else Q false M1)) : W3t B (tAnd tA tB') σ M Q := fun F σv H Qv b hs st k =>
  h F σv H _ b hs st fun F1 M1 c H1 e1 st1 q => by
    cases c with
    | true => exact q F1 σv H1 _ (b.trans e1) (hs.mono e1) st1 fun F2 M2 d H2 e2 st2 q2 => k F2 M2 d H2 (e1.trans e2) st2 q2
    | false => exact k F1 M1 false H1 e1 st1 q
theorem w_orT {Q : Bool → Mem → Prop} (h : W3t B tA σ M (fun c M1 => if c = true then Q true M1 else W3t B tB' σ M1 Q)) : W3t B (tOr tA tB') σ M Q := fun F σv H Qv b hs st k =>
  h F σv H _ b hs st fun F1 M1 c H1 e1 st1 q => by
    cases c with
    | false => exact q F1 σv H1 _ (b.trans e1) (hs.mono e1) st1 fun F2 M2 d H2 e2 st2 q2 => k F2 M2 d H2 (e1.trans e2) st2 q2
    | true => exact k F1 M1 true H1 e1 st1 q
theorem w_notT {Q : Bool → Mem → Prop} (h : W3t B tA σ M (fun c M1 => Q (!c) M1)) : W3t B (tNot tA) σ M Q := fun F σv H Qv b hs st k =>
  h F σv H _ b hs st fun F1 M1 c H1 e1 st1 q => k F1 M1 (!c) H1 e1 st1 q
theorem w_yes {Q : Bool → Mem → Prop} (q : Q true M) : W3t B tYes σ M Q := fun F σv H Qv b hs st k => k F M true H (Ex.refl _) st q
theorem w_andV (h : W3e B ta σ M (fun x M1 => ∃ c, x = .bl c ∧ if c = true then W3e B tb σ M1 Q else Q (.bl false) M1)) : W3e B (tAndV ta tb) σ M Q := fun F σv H Qv b hs st k =>
  h F σv H _ b hs st fun F1 M1 x xv H1 e1 st1 rx ⟨c, ec, q⟩ => by
    subst ec
    refine ⟨c, rx, ?_⟩
    cases c with
    | true => exact q F1 σv H1 _ (b.trans e1) (hs.mono e1) st1 fun F2 M2 d v H2 e2 st2 r2 q2 => k F2 M2 d v H2 (e1.trans e2) st2 r2 q2
    | false => exact k F1 M1 (.bl false) _ H1 e1 st1 rfl q
theorem w_orV (h : W3e B ta σ M (fun x M1 => ∃ c, x = .bl c ∧ if c = true then Q (.bl true) M1 else W3e B tb σ M1 Q)) : W3e B (tOrV ta tb) σ M Q := fun F σv H Qv b hs st k =>
  h F σv H _ b hs st fun F1 M1 x xv H1 e1 st1 rx ⟨c, ec, q⟩ => by
    subst ec
    refine ⟨c, rx, ?_⟩
    cases c with
    | false => exact q F1 σv H1 _ (b.trans e1) (hs.mono e1) st1 fun F2 M2 d v H2 e2 st2 r2 q2 => k F2 M2 d v H2 (e1.trans e2) st2 r2 q2
    | true => exact k F1 M1 (.bl true) _ H1 e1 st1 rfl q
theorem w_notV (h : W3e B ta σ M (fun x M1 => ∃ c, x = .bl c ∧ Q (.bl (!c)) M1)) : W3e B (tNotV ta) σ M Q := fun F σv H Qv b hs st k =>
  h F σv H _ b hs st fun F1 M1 x xv H1 e1 st1 rx ⟨c, ec, q⟩ => by
    subst ec
    exact ⟨c, rx, k F1 M1 (.bl (!c)) _ H1 e1 st1 rfl q⟩
theorem w_ifE (h : W3t B tA σ M (fun c M1 => if c = true then W3e B ta σ M1 Q else W3e B tb σ M1 Q)) : W3e B (tIf tA ta tb) σ M Q := fun F σv H Qv b hs st k =>
  h F σv H _ b hs st fun F1 M1 c H1 e1 st1 q => by
    cases c with
    | true => exact q F1 σv H1 _ (b.trans e1) (hs.mono e1) st1 fun F2 M2 d v H2 e2 st2 r2 q2 => k F2 M2 d v H2 (e1.trans e2) st2 r2 q2
    | false => exact q F1 σv H1 _ (b.trans e1) (hs.mono e1) st1 fun F2 M2 d v H2 e2 st2 r2 q2 => k F2 M2 d v H2 (e1.trans e2) st2 r2 q2
theorem w_isN (h : W3e B ta σ M (fun x M1 => Q (.bl (isNon x)) M1)) : W3e B (tIsN ta) σ M Q := fun F σv H Qv b hs st k =>
  h F σv H _ b hs st fun F1 M1 x xv H1 e1 st1 rx q => k F1 M1 (.bl (isNon x)) _ H1 e1 st1 (by rw [rx.isNon]; rfl) q
theorem w_notN (h : W3e B ta σ M (fun x M1 => Q (.bl (!isNon x)) M1)) : W3e B (tNotN ta) σ M Q := fun F σv H Qv b hs st k =>
  h F σv H _ b hs st fun F1 M1 x xv H1 e1 st1 rx q => k F1 M1 (.bl (!isNon x)) _ H1 e1 st1 (by rw [rx.isNon]; rfl) q
end

/-! ### statements -/
section
variable {B : Hp} {ta tb te : TE} {tc : TT} {ts tu : TS} {σ : Sig} {M : Mem} {D3 : Ends3} {g : TG} {i : Nat}
theorem s_seq (h : W3s B ts { D3 with nx := fun σ M => W3s B tu D3 σ M } σ M) : W3s B (tSeq ts tu) D3 σ M := fun F σv H Dv b hs st im =>
  h F σv H { Dv with nx := tu Dv } b hs st ⟨fun F' M' σ' σv' H' e s t q => q F' σv' H' Dv (b.trans e) s t (im.mono e), im.rt, im.bk, im.ct⟩
theorem s_next (q : D3.nx σ M) : W3s B tNext D3 σ M := fun F σv H Dv b hs st im => im.nx F M σ σv H (Ex.refl _) hs st q
theorem s_brk (q : D3.bk σ M) : W3s B tBreak D3 σ M := fun F σv H Dv b hs st im => im.bk F M σ σv H (Ex.refl _) hs st q
theorem s_cont (q : D3.ct σ M) : W3s B tCont D3 σ M := fun F σv H Dv b hs st im => im.ct F M σ σv H (Ex.refl _) hs st q
theorem s_drop (h : W3e B te σ M (fun _ M1 => D3.nx σ M1)) : W3s B (tDrop te) D3 σ M := fun F σv H Dv b hs st im =>
  h F σv H _ b hs st fun F1 M1 x xv H1 e1 st1 rx q => im.nx F1 M1 σ σv H1 e1 (hs.mono e1) st1 q
theorem s_ret (h : W3e B te σ M D3.rt) : W3s B (tRet te) D3 σ M := fun F σv H Dv b hs st im =>
  h F σv H _ b hs st fun F1 M1 x xv H1 e1 st1 rx q => im.rt F1 M1 x xv H1 e1 st1 rx q
theorem s_retN (q : D3.rt .non M) : W3s B tRetN D3 σ M := fun F σv H Dv b hs st im => im.rt F M .non .non H (Ex.refl _) st rfl q
theorem s_if (h : W3t B tc σ M (fun c M1 => if c = true then W3s B ts D3 σ M1 else W3s B tu D3 σ M1)) : W3s B (tIfS tc ts tu) D3 σ M := fun F σv H Dv b hs st im =>
  h F σv H _ b hs st fun F1 M1 c H1 e1 st1 q => by
    cases c with
    | true => exact q F1 σv H1 Dv (b.trans e1) (hs.mono e1) st1 (im.mono e1)
    | false => exact q F1 σv H1 Dv (b.trans e1) (hs.mono e1) st1 (im.mono e1)
theorem s_asgG (h : W3e B te σ M (fun x M1 => G3 B g x σ M1 D3.nx)) : W3s B (tAsg te g) D3 σ M := fun F σv H Dv b hs st im =>
  h F σv H _ b hs st fun F1 M1 x xv H1 e1 st1 rx q => q F1 σv H1 xv Dv.nx (b.trans e1) (hs.mono e1) st1 rx (im.nx.mono e1)
theorem s_asg (h : W3e B te σ M (fun x M1 => D3.nx (σ.set i (some x)) M1)) : W3s B (tAsg te (gName i)) D3 σ M := fun F σv H Dv b hs st im =>
  h F σv H _ b hs st fun F1 M1 x xv H1 e1 st1 rx q => im.nx F1 M1 _ _ H1 e1 ((hs.mono e1).set rx) st1 q
theorem s_par {i j : Nat} {t : TA} (h : W3a B t σ M (fun ds M1 => ∃ x y, ds = [x, y] ∧ D3.nx ((σ.set i (some x)).set j (some y)) M1)) : W3s B (tPar i j t) D3 σ M := fun F σv H Dv b hs st im =>
  h F σv H _ b hs st fun F1 M1 ds vs H1 e1 st1 rx ⟨x, y, ed, q⟩ => by
    subst ed
    obtain ⟨v, r, e2, r1, w, r', e3, r2, e4⟩ := rx
    subst e2; subst e3; rw [show r' = [] from e4]
    exact ⟨v, w, rfl, im.nx F1 M1 _ _ H1 e1 (((hs.mono e1).set r1).set r2) st1 q⟩
theorem s_cut {Mid : Sig → Mem → Prop} (h : W3s B ts { D3 with nx := Mid } σ M) (k : ∀ σ M, Mid σ M → D3.nx σ M) : W3s B ts D3 σ M := h.nx k
/-! freezing and forgetting -/
/-- forget slots -/
theorem SRel.weak {F : Hp} {σ σ' : Sig} {σv : St} (h : SRel F σ σv) (hl : σ'.length = σ.length) (w : ∀ (i : Nat) (d : D), σ'[i]? = some (some d) → σ[i]? = some (some d)) : SRel F σ' σv := ⟨hl.trans h.1, fun i d q => h.2 i d (w i d q)⟩
/-! targets -/
variable {x : D} {xs : List D} {Q : Sig → Mem → Prop}
theorem g_name (q : Q (σ.set i (some x)) M) : G3 B (gName i) x σ M Q := fun F σv H xv Qv b hs st rx k => k F M _ _ H (Ex.refl _) (hs.set rx) st q
theorem g_tup {K : PySem.W.Frag} {n : Nat} {t : TGs} (e : x = .tup xs) (hl : xs.length = n) (h : G3s B t xs σ M Q) : G3 B (gTup K n t) x σ M Q := fun F σv H xv Qv b hs st rx k => by
  subst e
  obtain ⟨a, vs, e1, hf, r⟩ := rx
  exact ⟨a, vs, e1, .inl (.inl (st.fz a _ hf)), by rw [← r.length]; exact hl, h F σv H vs Qv b hs st r k⟩
theorem g_nil (q : Q σ M) : G3s B gNil [] σ M Q := fun F σv H xv Qv b hs st rx k => ⟨rx, k F M σ σv H (Ex.refl _) hs st q⟩
theorem g_cons {t : TG} {u : TGs} (h : G3 B t x σ M (fun σ1 M1 => G3s B u xs σ1 M1 Q)) : G3s B (gCons t u) (x :: xs) σ M Q := fun F σv H xv Qv b hs st rx k => by
  obtain ⟨v, r, e1, r1, r2⟩ := rx
  refine ⟨v, r, e1, h F σv H v _ b hs st r1 fun F1 M1 σ1 σv1 H1 e s t' q => ?_⟩
  exact q F1 σv1 H1 r Qv (b.trans e) s t' (r2.mono e) fun F2 M2 σ2 σv2 H2 e2 s2 t2 q2 => k F2 M2 σ2 σv2 H2 (e.trans e2) s2 t2 q2
end
end T3
set_option Elab.async false
set_option linter.all false
set_option maxRecDepth 100000
set_option maxHeartbeats 2000000
namespace T3
open PySem L2
open Evl (Ex)

/-! ### seeing a state otherwise -/
def VS (d : D) (M : Mem) (d' : D) (M' : Mem) : Prop := ∀ F H v, St3 F M H → RD F d v → ∃ F', Ex F F' ∧ St3 F' M' H ∧ RD F' d' v
def VSs (σ : Sig) (M : Mem) (σ' : Sig) (M' : Mem) : Prop := ∀ F H σv, St3 F M H → SRel F σ σv → ∃ F', Ex F F' ∧ St3 F' M' H ∧ SRel F' σ' σv
theorem vs_lst {M : Mem} {p : Addr} {ds : List D} (h : M p = some (.lst ds)) : VS (.ref p) M (.lst ds) (mdel M p) := fun F H v st rd => by
  obtain ⟨f0, ho, e1, vs, e2, r⟩ := st.own p _ h
  subst e2
  obtain ⟨s2, e⟩ := st.freeze h e1
  exact ⟨_, e, s2, p, vs, rd, upd_same, r.mono e⟩
theorem zip_unzip {κ : Type} : ∀ (l : List (κ × V)), (l.map (·.1)).zip (l.map (·.2)) = l
  | [] => rfl
  | a :: r => by show (a.1, a.2) :: (r.map (·.1)).zip (r.map (·.2)) = a :: r; rw [zip_unzip r]
theorem PKV.fst {κ : Type} {F : Hp} : ∀ {l : List (κ × D)} {m : List (κ × V)}, PKV F l m → l.map (·.1) = m.map (·.1)
  | _, _, .nil => rfl
  | _, _, .cons a t => by rw [List.map_cons, List.map_cons, a.1, PKV.fst t]
theorem PKV.snd {κ : Type} {F : Hp} : ∀ {l : List (κ × D)} {m : List (κ × V)}, PKV F l m → RDs F (l.map (·.2)) (m.map (·.2))
  | _, _, .nil => rfl
  | _, _, .cons a t => ⟨_, _, rfl, a.2, PKV.snd t⟩
theorem vs_ins {M : Mem} {p C : Addr} {fs : List (Str × D)} (h : M p = some (.ins C fs)) : VS (.ref p) M (.ins C (fs.map (·.1)) (fs.map (·.2))) (mdel M p) := fun F H v st rd => by
  obtain ⟨f0, ho, e1, dx, fv, e2, r⟩ := st.own p _ h
  subst e2
  obtain ⟨s2, e⟩ := st.freeze h e1
  refine ⟨_, e, s2, p, dx, fv.map (·.2), rd, ?_, ?_, r.snd.mono e⟩
  · rw [r.fst, zip_unzip]; exact upd_same
  · rw [r.fst, List.length_map, List.length_map]
theorem vss_lst {σ : Sig} {M : Mem} {p : Addr} {ds : List D} (i : Nat) (hi : σ[i]? = some (some (.ref p))) (h : M p = some (.lst ds)) : VSs σ M (σ.set i (some (.lst ds))) (mdel M p) := fun F H σv st hs => by
  obtain ⟨f0, ho, e1, vs, e2, r⟩ := st.own p _ h
  subst e2
  obtain ⟨s2, e⟩ := st.freeze h e1
  refine ⟨_, e, s2, ?_⟩
  obtain ⟨v, hv, rv⟩ := hs.2 i _ hi
  have hset : σv.set i (some v) = σv := by
    apply List.ext_getElem?
    intro j
    by_cases q : i = j
    · subst q; rw [List.getElem?_set_self (List.getElem?_eq_some_iff.mp hv).1, hv]
    · rw [List.getElem?_set_ne q]
  have := (hs.mono e).set (i := i) (d := .lst ds) (v := v) ⟨p, vs, rv, upd_same, r.mono e⟩
  rwa [hset] at this
theorem vss_drop {σ : Sig} {M : Mem} (p : Addr) : VSs σ M σ (mdel M p) := fun F H σv st hs => ⟨F, Ex.refl _, st.drop p, hs⟩
theorem vss_wk {σ σ' : Sig} {M : Mem} (hl : σ'.length = σ.length) (w : ∀ (i : Nat) (d : D), σ'[i]? = some (some d) → σ[i]? = some (some d)) : VSs σ M σ' M := fun F H σv st hs => ⟨F, Ex.refl _, st, hs.weak hl w⟩
section
variable {B : Hp} {te : TE} {ts : TS} {σ σ' : Sig} {M M' : Mem} {Q : DQ} {D3 : Ends3}
theorem w_vs (h : W3e B te σ M (fun d M1 => ∃ d' M', VS d M1 d' M' ∧ Q d' M')) : W3e B te σ M Q := fun F σv H Qv b hs st k =>
  h F σv H _ b hs st fun F1 M1 x xv H1 e1 st1 rx ⟨d', M', vs, q⟩ => by
    obtain ⟨F2, e2, s2, r2⟩ := vs F1 H1 xv st1 rx
    exact k F2 M' d' xv H1 (e1.trans e2) s2 r2 q
theorem s_vs (vs : VSs σ M σ' M') (h : W3s B ts D3 σ' M') : W3s B ts D3 σ M := fun F σv H Dv b hs st im => by
  obtain ⟨F2, e2, s2, r2⟩ := vs F H σv st hs
  exact h F2 σv H Dv (b.trans e2) r2 s2 (im.mono e2)
theorem e_vs (vs : VSs σ M σ' M') (h : W3e B te σ' M' Q) : W3e B te σ M Q := fun F σv H Qv b hs st k => by
  obtain ⟨F2, e2, s2, r2⟩ := vs F H σv st hs
  exact h F2 σv H Qv (b.trans e2) r2 s2 fun F' M' d v H' e => k F' M' d v H' (e2.trans e)
theorem VSs.rfl' : VSs σ M σ M := fun F H σv st hs => ⟨F, Ex.refl _, st, hs⟩
theorem VSs.trans {σ1 σ2 : Sig} {M1 M2 : Mem} (a : VSs σ M σ1 M1) (b : VSs σ1 M1 σ2 M2) : VSs σ M σ2 M2 := fun F H σv st hs => by
  obtain ⟨F1, e1, s1, r1⟩ := a F H σv st hs
  obtain ⟨F2, e2, s2, r2⟩ := b F1 H σv s1 r1
  exact ⟨F2, e1.trans e2, s2, r2⟩
end

/-! ### data -/
mutual
def py : D → PyData
  | .non => .none
  | .bl b => .bool b
  | .int i => .int i
  | .str x => .str x
  | .tup ds => .tuple (pys ds)
  | .lst ds => .list (pys ds)
  | .ty _ => .none
  | .ref _ => .none
  | .ins _ _ _ => .none
def pys : List D → List PyData
  | [] => []
  | d :: ds => py d :: pys ds
end
mutual
/-- data: no reference in it, no deeper than n -/
def okD : Nat → D → Bool
  | _, .non => true
  | _, .bl _ => true
  | _, .int _ => true
  | _, .str x => x.cps.all (· < 0x110000)
  | 0, .tup _ => false
  | 0, .lst _ => false
  | n + 1, .tup ds => okDs n ds
  | n + 1, .lst ds => okDs n ds
  | _, .ty _ => false
  | _, .ref _ => false
  | _, .ins _ _ _ => false
def okDs : Nat → List D → Bool
  | _, [] => true
  | n, d :: ds => okD n d && okDs n ds
end
mutual
theorem okD_dp {K : PySem.W.Frag} {F H : Hp} (e : Ex F H) : ∀ {n : Nat} {d : D} {v : V}, okD n d = true → RD F d v → Dp K H v (py d)
  | _, .non, _, _, r => by rw [show _ = V.non from r]; exact .non
  | _, .bl b, _, _, r => by rw [show _ = V.bl b from r]; exact .bl b
  | _, .int b, _, _, r => by rw [show _ = V.int b from r]; exact .int b
  | _, .str b, _, _, r => by rw [show _ = V.str b from r]; exact .str b
  | n + 1, .tup ds, _, o, ⟨a, vs, e1, h, rs⟩ => by rw [e1]; exact .tup (.inl (.inl (e a _ h))) (okDs_dp e (n := n) o rs)
  | n + 1, .lst ds, _, o, ⟨a, vs, e1, h, rs⟩ => by rw [e1]; exact .lst (.inl (.inl (e a _ h))) (okDs_dp e (n := n) o rs)
  | 0, .tup _, _, o, _ => nomatch o
  | 0, .lst _, _, o, _ => nomatch o
  | 0, .ty _, _, o, _ => nomatch o
  | 0, .ref _, _, o, _ => nomatch o
  | 0, .ins _ _ _, _, o, _ => nomatch o
  | _ + 1, .ty _, _, o, _ => nomatch o
  | _ + 1, .ref _, _, o, _ => nomatch o
  | _ + 1, .ins _ _ _, _, o, _ => nomatch o
theorem okDs_dp {K : PySem.W.Frag} {F H : Hp} (e : Ex F H) : ∀ {n : Nat} {ds : List D} {vs : List V}, okDs n ds = true → RDs F ds vs → DpAll K H vs (pys ds)
  | _, [], _, _, r => by rw [show _ = [] from r]; exact .nil
  | n, d :: ds, _, o, ⟨v, r, e1, h, hr⟩ => by
    rw [e1]
    have o' : okD n d = true ∧ okDs n ds = true := Bool.and_eq_true_iff.mp o
    exact .cons (okD_dp e o'.1 h) (okDs_dp e o'.2 hr)
end
mutual
theorem okD_lay : ∀ {n : Nat} {d : D}, okD n d = true → (py d).canLay0 = true
  | _, .non, _ => rfl
  | _, .bl _, _ => rfl
  | _, .int _, _ => rfl
  | _, .str _, o => o
  | n + 1, .tup ds, o => by show PyData.canLayAll0 (pys ds) = true; exact okDs_lay (n := n) o
  | n + 1, .lst ds, o => by show PyData.canLayAll0 (pys ds) = true; exact okDs_lay (n := n) o
  | 0, .tup _, o => nomatch o
  | 0, .lst _, o => nomatch o
  | _, .ty _, _ => rfl
  | _, .ref _, _ => rfl
  | _, .ins _ _ _, _ => rfl
theorem okDs_lay : ∀ {n : Nat} {ds : List D}, okDs n ds = true → PyData.canLayAll0 (pys ds) = true
  | _, [], _ => rfl
  | n, d :: ds, o => by
    have o' : okD n d = true ∧ okDs n ds = true := Bool.and_eq_true_iff.mp o
    show (PyData.canLay0 (py d) && PyData.canLayAll0 (pys ds)) = true
    rw [okD_lay o'.1, okDs_lay o'.2] <;> rfl
end
mutual
theorem okD_depth : ∀ {n : Nat} {d : D}, okD n d = true → (py d).depth ≤ n
  | _, .non, _ => Nat.zero_le _
  | _, .bl _, _ => Nat.zero_le _
  | _, .int _, _ => Nat.zero_le _
  | _, .str _, _ => Nat.zero_le _
  | n + 1, .tup ds, o => by show PyData.depthAll (pys ds) + 1 ≤ n + 1; exact Nat.succ_le_succ (okDs_depth (n := n) o)
  | n + 1, .lst ds, o => by show PyData.depthAll (pys ds) + 1 ≤ n + 1; exact Nat.succ_le_succ (okDs_depth (n := n) o)
  | 0, .tup _, o => nomatch o
  | 0, .lst _, o => nomatch o
  | _, .ty _, _ => Nat.zero_le _
  | _, .ref _, _ => Nat.zero_le _
  | _, .ins _ _ _, _ => Nat.zero_le _
theorem okDs_depth : ∀ {n : Nat} {ds : List D}, okDs n ds = true → PyData.depthAll (pys ds) ≤ n
  | _, [], _ => Nat.zero_le _
  | n, d :: ds, o => by
    have o' : okD n d = true ∧ okDs n ds = true := Bool.and_eq_true_iff.mp o
    show max (py d).depth (PyData.depthAll (pys ds)) ≤ n
    exact Nat.max_le.mpr ⟨okD_depth o'.1, okDs_depth o'.2⟩
end
theorem okD_shaped {n : Nat} {d : D} (h : okD n d = true) (hn : n ≤ 64 := by decide) : SeqAt.shaped (py d) = true := by
  unfold SeqAt.shaped
  rw [okD_lay h, decide_eq_true (Nat.le_trans (okD_depth h) hn)]
  rfl
theorem okDs_iff {n : Nat} : ∀ {ds : List D}, okDs n ds = true ↔ ∀ d ∈ ds, okD n d = true
  | [] => by simp [okDs]
  | d :: ds => by simp [okDs, okDs_iff (ds := ds)]
theorem pys_map : ∀ ds : List D, pys ds = ds.map py
  | [] => rfl
  | d :: ds => by show py d :: pys ds = _; rw [pys_map ds]; rfl
/-- Python's == -/
def peq (x y : D) : Bool := PyData.eqv (py x) (py y)
@[simp] theorem peq_int (i j : Int) : peq (.int i) (.int j) = (i == j) := rfl
@[simp] theorem peq_str (i j : Str) : peq (.str i) (.str j) = (i == j) := rfl
@[simp] theorem peq_bl (i j : Bool) : peq (.bl i) (.bl j) = (i == j) := rfl
@[simp] theorem peq_tup (x y : List D) : peq (.tup x) (.tup y) = PyData.eqvAll (pys x) (pys y) := rfl
@[simp] theorem peq_lst (x y : List D) : peq (.lst x) (.lst y) = PyData.eqvAll (pys x) (pys y) := rfl
@[simp] theorem peqs_nil : PyData.eqvAll (pys []) (pys []) = true := rfl
@[simp] theorem peqs_nc (y : D) (ys : List D) : PyData.eqvAll (pys []) (pys (y :: ys)) = false := rfl
@[simp] theorem peqs_cn (y : D) (ys : List D) : PyData.eqvAll (pys (y :: ys)) (pys []) = false := rfl
@[simp] theorem peqs_cc (x y : D) (xs ys : List D) : PyData.eqvAll (pys (x :: xs)) (pys (y :: ys)) = (peq x y && PyData.eqvAll (pys xs) (pys ys)) := rfl
/-- for encodings whose == is equality -/
theorem peqs_map {α : Type} [DecidableEq α] (f : α → D) (h : ∀ a b, peq (f a) (f b) = decide (a = b)) : ∀ xs ys : List α, PyData.eqvAll (pys (xs.map f)) (pys (ys.map f)) = decide (xs = ys)
  | [], [] => rfl
  | [], _ :: _ => rfl
  | _ :: _, [] => rfl
  | x :: xs, y :: ys => by
    show (peq (f x) (f y) && PyData.eqvAll (pys (xs.map f)) (pys (ys.map f))) = _
    rw [h, peqs_map f h xs ys]
    simp [List.cons.injEq]

/-! ### operators by their kinds of values -/
def rADD : R2 := fun x y H Q => (∃ i j, x = .int i ∧ y = .int j ∧ Q (.int (i + j)) H) ∨ (∃ i j, x = .str i ∧ y = .str j ∧ i.length + j.length ≤ sizeLine ∧ Q (.str (i ++ j)) H) ∨ rCat x y H Q
section
variable {X : Cx}
theorem op_ADD : OpR X (binaryOp .Add) rADD := by
  intro pins s σ H x y v u Q I rx ry h
  rcases h with h | h | h
  · exact op_add pins s σ H x y v u Q I rx ry h
  · exact op_add_str pins s σ H x y v u Q I rx ry h
  · exact op_cat pins s σ H x y v u Q I rx ry h
end
def rIN (K : PySem.W.Frag) (P : Program) (w : World) (neg : Bool) : R2 := fun x y H Q =>
  (∃ d ds, Dp K H x d ∧ Dp K H y (.list ds) ∧ SeqAt.shaped d = true ∧ SeqAt.shaped (.list ds) = true ∧ Q (.bl (if neg then !(ds.any fun z => PyData.eqv z d) else ds.any fun z => PyData.eqv z d)) H) ∨
  rIn K neg x y H Q ∨ rSInK P w neg x y H Q ∨ (∃ (c : Nat) (z : Str), x = .str ⟨#[c]⟩ ∧ y = .str z ∧ Q (.bl (if neg then !(decide (c ∈ z.cps.toList)) else decide (c ∈ z.cps.toList))) H)
section
variable {X : Cx}
theorem op_IN (hu : X.A.units + 65 < cLine) : OpR X (compareOp .In) (rIN X.K X.prog X.w false) := by
  intro pins s σ H x y v u Q I rx ry h
  rcases h with h | h | h | h
  · exact op_inD hu pins s σ H x y v u Q I rx ry h
  · exact op_in_seq pins s σ H x y v u Q I rx ry h
  · exact or_sinK pins s σ H x y v u Q I rx ry h
  · exact op_in_sign pins s σ H x y v u Q I rx ry h
theorem op_NIN (hu : X.A.units + 65 < cLine) : OpR X (compareOp .NotIn) (rIN X.K X.prog X.w true) := by
  intro pins s σ H x y v u Q I rx ry h
  rcases h with h | h | h | h
  · exact op_notInD hu pins s σ H x y v u Q I rx ry h
  · exact op_notIn_seq pins s σ H x y v u Q I rx ry h
  · exact or_snotinK pins s σ H x y v u Q I rx ry h
  · exact op_notIn_sign pins s σ H x y v u Q I rx ry h
end
end T3
set_option Elab.async false
set_option linter.all false
set_option maxRecDepth 100000
set_option maxHeartbeats 2000000
namespace T3
open PySem L2
open Evl (Ex)
/-! ### operators -/
section
variable {B : Hp} {M : Mem} {Q : DQ} {K : PySem.W.Frag} {P : Program} {w : World} {d x y : D} {ds xs ys : List D} {i j : Int} {s t : Str} {a b : Addr}
theorem r3_I0 {g : Int → Int → V} (q : Q d M) (h : ∀ F, RD F d (g i j) := by intro F; rfl) : R3 B (rI0 g) (.int i) (.int j) M Q := fun F H xv yv Qv _ st rx ry k => ⟨i, j, rx, ry, k F M d _ H (Ex.refl _) st (h F) q⟩
theorem r3_I {C : Int → Int → Prop} {g : Int → Int → V} (hc : C i j) (q : Q d M) (h : ∀ F, RD F d (g i j) := by intro F; rfl) : R3 B (rI C g) (.int i) (.int j) M Q := fun F H xv yv Qv _ st rx ry k => ⟨i, j, rx, ry, hc, k F M d _ H (Ex.refl _) st (h F) q⟩
theorem u3_I {g : Int → V} (q : Q d M) (h : ∀ F, RD F d (g i) := by intro F; rfl) : U3 B (rU g) (.int i) M Q := fun F H xv Qv _ st rx k => ⟨i, rx, k F M d _ H (Ex.refl _) st (h F) q⟩
theorem r3_add_ii (q : Q (.int (i + j)) M) : R3 B rADD (.int i) (.int j) M Q := fun F H xv yv Qv b st rx ry k => .inl ⟨i, j, rx, ry, k F M (.int (i + j)) _ H (Ex.refl _) st rfl q⟩
theorem r3_add_ss (h : s.length + t.length ≤ 1000000) (q : Q (.str (s ++ t)) M) : R3 B rADD (.str s) (.str t) M Q := fun F H xv yv Qv b st rx ry k => .inr (.inl ⟨s, t, rx, ry, Nat.le_trans h (by decide), k F M (.str (s ++ t)) _ H (Ex.refl _) st rfl q⟩)
/-- a list to be read: frozen, or owned -/
def LstD (M : Mem) (x : D) (ds : List D) : Prop := x = .lst ds ∨ ∃ a, x = .ref a ∧ M a = some (.lst ds)
theorem LstD.fz {M : Mem} {ds : List D} : LstD M (.lst ds) ds := .inl rfl
theorem LstD.ow {M : Mem} {a : Addr} {ds : List D} (h : M a = some (.lst ds)) : LstD M (.ref a) ds := .inr ⟨a, rfl, h⟩
theorem LstD.at {M : Mem} {x : D} {ds : List D} {F H : Hp} {v : V} (l : LstD M x ds) (st : St3 F M H) (r : RD F x v) : ∃ a vs, v = .ref a ∧ H a = some (.lst vs) ∧ RDs F ds vs := by
  rcases l with e | ⟨a, e, h⟩
  · subst e
    obtain ⟨a, vs, e1, h, rs⟩ := r
    exact ⟨a, vs, e1, st.fz a _ h, rs⟩
  · subst e
    obtain ⟨_, ho, h1, vs, e2, rs⟩ := st.own a _ h
    subst e2
    exact ⟨a, vs, r, h1, rs⟩
theorem LstD.seq {M : Mem} {x : D} {ds : List D} {F H : Hp} {v : V} (l : LstD M x ds) (st : St3 F M H) (r : RD F x v) : ∃ a vs, v = .ref a ∧ SqL K H a vs ∧ RDs F ds vs := by
  obtain ⟨a, vs, e, h, rs⟩ := l.at st r
  exact ⟨a, vs, e, .inl (.inl h), rs⟩
theorem r3_add_ll (lx : LstD M x xs) (ly : LstD M y ys) (h : xs.length + ys.length ≤ 1000000) (q : Q (.lst (xs ++ ys)) M) : R3 B rADD x y M Q := fun F H xv yv Qv b st rx ry k => by
  obtain ⟨a, vs, e1, h1, r1⟩ := lx.at st rx
  obtain ⟨c, us, e2, h2, r2⟩ := ly.at st ry
  refine .inr (.inr ⟨a, c, vs, us, e1, e2, h1, h2, ?_, fun p hp => ?_⟩)
  · rw [← r1.length, ← r2.length]; exact Nat.le_trans h (by decide)
  · obtain ⟨s2, e⟩ := st.new (o := .lst (vs ++ us)) hp
    exact k _ _ (.lst (xs ++ ys)) _ _ e s2 ⟨p, _, rfl, upd_same, (r1.append r2).mono e⟩ q
theorem r3_eq {n m : Nat} (hx : okD n x = true) (hy : okD m y = true) (q : Q (.bl (peq x y)) M) (hn : n ≤ 64 := by decide) (hm : m ≤ 64 := by decide) : R3 B (rEqD K) x y M Q := fun F H xv yv Qv b st rx ry k =>
  ⟨py x, py y, okD_dp st.fz hx rx, okD_dp st.fz hy ry, okD_shaped hx hn, okD_shaped hy hm, k F M (.bl (peq x y)) _ H (Ex.refl _) st rfl q⟩
theorem r3_ne {n m : Nat} (hx : okD n x = true) (hy : okD m y = true) (q : Q (.bl (!peq x y)) M) (hn : n ≤ 64 := by decide) (hm : m ≤ 64 := by decide) : R3 B (rNeD K) x y M Q := fun F H xv yv Qv b st rx ry k =>
  ⟨py x, py y, okD_dp st.fz hx rx, okD_dp st.fz hy ry, okD_shaped hx hn, okD_shaped hy hm, k F M (.bl (!peq x y)) _ H (Ex.refl _) st rfl q⟩
/-- owned lists of data -/
theorem LstD.dp {M : Mem} {n : Nat} {F H : Hp} {v : V} (l : LstD M x ds) (h : okDs n ds = true) (st : St3 F M H) (r : RD F x v) : Dp K H v (.list (pys ds)) := by
  obtain ⟨a, vs, e, h1, rs⟩ := l.at st r
  rw [e]
  exact .lst (.inl (.inl h1)) (okDs_dp st.fz h rs)
theorem okDs_shaped {n : Nat} (h : okDs n ds = true) (hn : n < 64) : SeqAt.shaped (.list (pys ds)) = true := by
  have : okD (n + 1) (.lst ds) = true := h
  exact okD_shaped this hn
theorem r3_eqO {n m : Nat} (lx : LstD M x xs) (ly : LstD M y ys) (hx : okDs n xs = true) (hy : okDs m ys = true) (q : Q (.bl (PyData.eqvAll (pys xs) (pys ys))) M) (hn : n < 64 := by decide) (hm : m < 64 := by decide) : R3 B (rEqD K) x y M Q := fun F H xv yv Qv b st rx ry k =>
  ⟨.list (pys xs), .list (pys ys), lx.dp hx st rx, ly.dp hy st ry, okDs_shaped hx hn, okDs_shaped hy hm, k F M (.bl (PyData.eqvAll (pys xs) (pys ys))) _ H (Ex.refl _) st rfl q⟩
theorem r3_neO {n m : Nat} (lx : LstD M x xs) (ly : LstD M y ys) (hx : okDs n xs = true) (hy : okDs m ys = true) (q : Q (.bl (!PyData.eqvAll (pys xs) (pys ys))) M) (hn : n < 64 := by decide) (hm : m < 64 := by decide) : R3 B (rNeD K) x y M Q := fun F H xv yv Qv b st rx ry k =>
  ⟨.list (pys xs), .list (pys ys), lx.dp hx st rx, ly.dp hy st ry, okDs_shaped hx hn, okDs_shaped hy hm, k F M (.bl (!PyData.eqvAll (pys xs) (pys ys))) _ H (Ex.refl _) st rfl q⟩
theorem any_pys (d : PyData) : ∀ ds : List D, ((pys ds).any fun z => PyData.eqv z d) = ds.any fun z => PyData.eqv (py z) d
  | [] => rfl
  | z :: zs => by show (PyData.eqv (py z) d || (pys zs).any _) = (PyData.eqv (py z) d || zs.any _); rw [any_pys d zs]
theorem r3_in {n m : Nat} {neg : Bool} (ly : LstD M y ys) (hx : okD n x = true) (hy : okDs m ys = true) (q : Q (.bl (if neg then !(ys.any fun z => peq z x) else ys.any fun z => peq z x)) M) (hn : n ≤ 64 := by decide) (hm : m < 64 := by decide) : R3 B (rIN K P w neg) x y M Q := fun F H xv yv Qv b st rx ry k =>
  .inl ⟨py x, pys ys, okD_dp st.fz hx rx, ly.dp hy st ry, okD_shaped hx hn, okDs_shaped hy hm, by
    rw [any_pys]
    exact k F M (.bl (if neg then !(ys.any fun z => peq z x) else ys.any fun z => peq z x)) _ H (Ex.refl _) st (by cases neg <;> rfl) q⟩
theorem r3_in_set {neg : Bool} {k : Key} {S : Key → Bool} {n : Nat} (hx : ∀ F v, RD F x v → v = kV k) (h : M a = some (.raw (SetK P w a S n))) (q : Q (.bl (if neg then !S k else S k)) M) : R3 B (rIN K P w neg) x (.ref a) M Q := fun F H xv yv Qv b st rx ry kk => by
  obtain ⟨_, ho, h1, e⟩ := st.own a _ h
  rw [e.1] at h1
  exact .inr (.inr (.inl ⟨k, a, S, n, hx F xv rx, ry, h1, kk F M (.bl (if neg then !S k else S k)) _ H (Ex.refl _) st rfl q⟩))
theorem r3_in_sign {neg : Bool} {c : Nat} {z : Str} (q : Q (.bl (if neg then !(decide (c ∈ z.cps.toList)) else decide (c ∈ z.cps.toList))) M) : R3 B (rIN K P w neg) (.str ⟨#[c]⟩) (.str z) M Q := fun F H xv yv Qv b st rx ry kk =>
  .inr (.inr (.inr ⟨c, z, rx, ry, kk F M (.bl (if neg then !(decide (c ∈ z.cps.toList)) else decide (c ∈ z.cps.toList))) _ H (Ex.refl _) st rfl q⟩))
end
/-! ### items, slices -/
section
variable {B : Hp} {M : Mem} {Q : DQ} {K : PySem.W.Frag} {P : Program} {w : World} {d x y : D} {ds xs ys : List D} {i j : Int} {s t : Str} {a b : Addr}
theorem atI_rel {F : Hp} {vs : List V} (r : RDs F ds vs) (h : atI ds i = some d) : ∃ v, atI vs i = some v ∧ RD F d v := by
  unfold atI at h ⊢
  rw [← r.length]
  cases e : ixN ds.length i with
  | none => rw [e] at h; cases h
  | some k =>
    rw [e] at h
    exact r.at h
theorem r3_ix_l (l : LstD M x ds) (h : atI ds i = some d) (q : Q d M) : R3 B (rIx K) x (.int i) M Q := fun F H xv yv Qv b st rx ry k => by
  obtain ⟨a, vs, e, h1, r⟩ := l.seq (K := K) st rx
  obtain ⟨v, hv, rv⟩ := atI_rel r h
  exact .inl ⟨a, vs, i, v, e, ry, h1, hv, k F M d v H (Ex.refl _) st rv q⟩
theorem r3_ix_t (h : atI ds i = some d) (q : Q d M) : R3 B (rIx K) (.tup ds) (.int i) M Q := fun F H xv yv Qv b st rx ry k => by
  obtain ⟨a, vs, e, h1, r⟩ := rx
  obtain ⟨v, hv, rv⟩ := atI_rel r h
  exact .inr (.inl ⟨a, vs, i, v, e, ry, .inl (.inl (st.fz a _ h1)), hv, k F M d v H (Ex.refl _) st rv q⟩)
theorem r3_ix_s {c : Nat} (hl : s.length ≤ 1000000) (h : atI s.cps.toList i = some c) (q : Q (.str ⟨#[c]⟩) M) : R3 B (rIx K) (.str s) (.int i) M Q := fun F H xv yv Qv b st rx ry k =>
  .inr (.inr ⟨s, i, c, rx, ry, Nat.le_trans hl (by decide), h, k F M (.str ⟨#[c]⟩) _ H (Ex.refl _) st rfl q⟩)
def O3 (B : Hp) (to : TO) (σ : Sig) (M : Mem) (Q : Option Int → Mem → Prop) : Prop :=
  ∀ (F : Hp) (σv : St) (H : Hp) (Qv : Option Int → Hp → Prop), Ex B F → SRel F σ σv → St3 F M H → (∀ F' M' o H', Ex F F' → St3 F' M' H' → Q o M' → Qv o H') → to σv H Qv
theorem o_no {σ : Sig} {Q : Option Int → Mem → Prop} (q : Q none M) : O3 B tNoPart σ M Q := fun F σv H Qv b hs st k => k F M none H (Ex.refl _) st q
theorem o_some {σ : Sig} {te : TE} {Q : Option Int → Mem → Prop} (h : W3e B te σ M (fun x M1 => ∃ i, x = .int i ∧ Q (some i) M1)) : O3 B (tPart te) σ M Q := fun F σv H Qv b hs st k =>
  h F σv H _ b hs st fun F1 M1 x xv H1 e1 st1 rx ⟨i, ex, q⟩ => by
    subst ex
    exact ⟨i, rx, k F1 M1 (some i) H1 e1 st1 q⟩
def S3 (B : Hp) (r : V → Option Int → Option Int → Hp → VK → Prop) (x : D) (lo hi : Option Int) (M : Mem) (Q : DQ) : Prop :=
  ∀ (F : Hp) (H : Hp) (xv : V) (Qv : VK), Ex B F → St3 F M H → RD F x xv → (∀ F' M' d v H', Ex F F' → St3 F' M' H' → RD F' d v → Q d M' → Qv v H') → r xv lo hi H Qv
theorem w_sl {r : V → Option Int → Option Int → Hp → VK → Prop} {te : TE} {tl th : TO} {σ : Sig} (h : W3e B te σ M (fun x M1 => O3 B tl σ M1 (fun lo M2 => O3 B th σ M2 (fun hi M3 => S3 B r x lo hi M3 Q)))) : W3e B (tSl r te tl th) σ M Q := fun F σv H Qv b hs st k =>
  h F σv H _ b hs st fun F1 M1 x xv H1 e1 st1 rx q1 => q1 F1 σv H1 _ (b.trans e1) (hs.mono e1) st1 fun F2 M2 lo H2 e2 st2 q2 =>
    q2 F2 σv H2 _ ((b.trans e1).trans e2) ((hs.mono e1).mono e2) st2 fun F3 M3 hi H3 e3 st3 q3 =>
      q3 F3 H3 xv Qv (((b.trans e1).trans e2).trans e3) st3 ((rx.mono e2).mono e3) fun F4 M4 d v H4 e4 st4 rd qd => k F4 M4 d v H4 (((e1.trans e2).trans e3).trans e4) st4 rd qd
def cutD (xs : List D) (lo hi : Option Int) : List D := (xs.drop (HT.sIx xs.length 0 lo)).take (HT.sIx xs.length xs.length hi - HT.sIx xs.length 0 lo)
theorem RDs.cut {F : Hp} {vs : List V} (r : RDs F ds vs) (lo hi : Option Int) : RDs F (cutD ds lo hi) (cutV vs lo hi) := by
  unfold cutD cutV
  rw [← r.length]
  exact (r.drop _).take _
def rSL (K : PySem.W.Frag) : V → Option Int → Option Int → Hp → VK → Prop := fun x lo hi H Q => rSlL K x lo hi H Q ∨ rSlS x lo hi H Q
theorem sl_SL {X : Cx} : SlR X (rSL X.K) := sl_list.or sl_str
theorem s3_l {lo hi : Option Int} (l : LstD M x ds) (q : Q (.lst (cutD ds lo hi)) M) : S3 B (rSL K) x lo hi M Q := fun F H xv Qv b st rx k => by
  obtain ⟨a, vs, e, h1, r⟩ := l.seq (K := K) st rx
  refine .inl ⟨a, vs, e, h1, fun p hp => ?_⟩
  obtain ⟨s2, e2⟩ := st.new (o := .lst (cutV vs lo hi)) hp
  exact k _ _ (.lst (cutD ds lo hi)) _ _ e2 s2 ⟨p, _, rfl, upd_same, (r.cut lo hi).mono e2⟩ q
end
section
variable {B : Hp} {M : Mem} {Q : DQ} {K : PySem.W.Frag} {P : Program} {w : World} {d x y : D} {ds xs ys : List D} {i j : Int} {s t : Str} {a b : Addr}
theorem s3_s {lo hi : Option Int} (hl : s.length ≤ 1000000) (q : Q (.str (cutS s lo hi)) M) : S3 B (rSL K) (.str s) lo hi M Q := fun F H xv Qv b st rx k =>
  .inr ⟨s, rx, Nat.le_trans hl (by decide), k F M (.str (cutS s lo hi)) _ H (Ex.refl _) st rfl q⟩
/-! ### calls of built-ins -/
theorem w_cb {r : List V → Hp → VK → Prop} {t : TA} {σ : Sig} (h : W3a B t σ M (fun xs M1 => C3 B r xs M1 Q)) : W3e B (tCB r t) σ M Q := fun F σv H Qv b hs st k =>
  h F σv H _ b hs st fun F1 M1 x xv H1 e1 st1 rx q1 => q1 F1 H1 xv Qv (b.trans e1) st1 rx fun F3 M3 d v H3 e3 st3 rd qd => k F3 M3 d v H3 (e1.trans e3) st3 rd qd
theorem RDs.sing {F : Hp} {xv : List V} (h : RDs F [x] xv) : ∃ v, xv = [v] ∧ RD F x v := by
  obtain ⟨v, r, e, h1, h2⟩ := h
  exact ⟨v, by rw [e, show r = [] from h2], h1⟩
theorem RDs.two {F : Hp} {xv : List V} (h : RDs F [x, y] xv) : ∃ v u, xv = [v, u] ∧ RD F x v ∧ RD F y u := by
  obtain ⟨v, r, e, h1, h2⟩ := h
  obtain ⟨u, e2, h3⟩ := h2.sing
  exact ⟨v, u, by rw [e, e2], h1, h3⟩
abbrev rLEN (K : PySem.W.Frag) : List V → Hp → VK → Prop := fun xs H Q => ∃ x n, xs = [x] ∧ LenV K x H n ∧ Q (.int n) H
theorem c3_len (l : LstD M x ds) (q : Q (.int ds.length) M) : C3 B (rLEN K) [x] M Q := fun F H xv Qv b st rx k => by
  obtain ⟨v, e, r⟩ := rx.sing
  obtain ⟨a, vs, e1, h1, rs⟩ := l.seq (K := K) st r
  subst e; subst e1
  exact ⟨.ref a, ds.length, rfl, .inl ⟨vs, h1, rs.length⟩, k F M (.int ds.length) _ H (Ex.refl _) st rfl q⟩
theorem c3_len_t (q : Q (.int ds.length) M) : C3 B (rLEN K) [.tup ds] M Q := fun F H xv Qv b st rx k => by
  obtain ⟨v, e, a, vs, e1, h1, rs⟩ := rx.sing
  subst e; subst e1
  exact ⟨.ref a, ds.length, rfl, .inr ⟨vs, .inl (.inl (st.fz a _ h1)), rs.length⟩, k F M (.int ds.length) _ H (Ex.refl _) st rfl q⟩
theorem c3_len_s (hl : s.length ≤ 1000000) (q : Q (.int s.length) M) : C3 B (rLEN K) [.str s] M Q := fun F H xv Qv b st rx k => by
  obtain ⟨v, e, r⟩ := rx.sing
  subst e
  rw [show v = V.str s from r]
  exact ⟨.str s, s.length, rfl, ⟨Nat.le_trans hl (by decide), rfl⟩, k F M (.int s.length) _ H (Ex.refl _) st rfl q⟩
abbrev rINT : List V → Hp → VK → Prop := fun xs H Q => (∃ i, xs = [.int i] ∧ Q (.int i) H) ∨ ∃ k, xs = [.bl k] ∧ Q (.int (if k then 1 else 0)) H
theorem c3_int_i (q : Q (.int i) M) : C3 B rINT [.int i] M Q := fun F H xv Qv b st rx k => by
  obtain ⟨v, e, r⟩ := rx.sing
  subst e
  rw [show v = V.int i from r]
  exact .inl ⟨i, rfl, k F M (.int i) _ H (Ex.refl _) st rfl q⟩
theorem c3_int_b {c : Bool} (q : Q (.int (if c then 1 else 0)) M) : C3 B rINT [.bl c] M Q := fun F H xv Qv b st rx k => by
  obtain ⟨v, e, r⟩ := rx.sing
  subst e
  rw [show v = V.bl c from r]
  exact .inr ⟨c, rfl, k F M (.int (if c then 1 else 0)) _ H (Ex.refl _) st rfl q⟩
abbrev rABS : List V → Hp → VK → Prop := fun xs H Q => ∃ i, xs = [.int i] ∧ Q (.int (if i < 0 then -i else i)) H
theorem c3_abs (q : Q (.int (if i < 0 then -i else i)) M) : C3 B rABS [.int i] M Q := fun F H xv Qv b st rx k => by
  obtain ⟨v, e, r⟩ := rx.sing
  subst e
  rw [show v = V.int i from r]
  exact ⟨i, rfl, k F M (.int (if i < 0 then -i else i)) _ H (Ex.refl _) st rfl q⟩
abbrev rMAX2 : List V → Hp → VK → Prop := fun xs H Q => ∃ i j, xs = [.int i, .int j] ∧ Q (.int (if j > i then j else i)) H
abbrev rMIN2 : List V → Hp → VK → Prop := fun xs H Q => ∃ i j, xs = [.int i, .int j] ∧ Q (.int (if j < i then j else i)) H
theorem c3_max2 (q : Q (.int (if j > i then j else i)) M) : C3 B rMAX2 [.int i, .int j] M Q := fun F H xv Qv b st rx k => by
  obtain ⟨v, u, e, r1, r2⟩ := rx.two
  subst e
  rw [show v = V.int i from r1, show u = V.int j from r2]
  exact ⟨i, j, rfl, k F M (.int (if j > i then j else i)) _ H (Ex.refl _) st rfl q⟩
theorem c3_min2 (q : Q (.int (if j < i then j else i)) M) : C3 B rMIN2 [.int i, .int j] M Q := fun F H xv Qv b st rx k => by
  obtain ⟨v, u, e, r1, r2⟩ := rx.two
  subst e
  rw [show v = V.int i from r1, show u = V.int j from r2]
  exact ⟨i, j, rfl, k F M (.int (if j < i then j else i)) _ H (Ex.refl _) st rfl q⟩
abbrev rLST (K : PySem.W.Frag) : List V → Hp → VK → Prop := fun xs H Q => ∃ p ys, xs = [.ref p] ∧ (SqL K H p ys ∨ SqT K H p ys) ∧ ∀ l, H l = none → Q (.ref l) (upd H l (.lst ys))
/-- list(x): a frozen copy; one that will change -/
theorem c3_lst (l : LstD M x ds) (q : Q (.lst ds) M) : C3 B (rLST K) [x] M Q := fun F H xv Qv b st rx k => by
  obtain ⟨v, e, r⟩ := rx.sing
  obtain ⟨a, vs, e1, h1, rs⟩ := l.seq (K := K) st r
  subst e; subst e1
  refine ⟨a, vs, rfl, .inl h1, fun p hp => ?_⟩
  obtain ⟨s2, e2⟩ := st.new (o := .lst vs) hp
  exact k _ _ (.lst ds) _ _ e2 s2 ⟨p, _, rfl, upd_same, rs.mono e2⟩ q
theorem c3_lstO (l : LstD M x ds) (q : ∀ p, M p = none → Q (.ref p) (mput M p (.lst ds))) : C3 B (rLST K) [x] M Q := fun F H xv Qv b st rx k => by
  obtain ⟨v, e, r⟩ := rx.sing
  obtain ⟨a, vs, e1, h1, rs⟩ := l.seq (K := K) st r
  subst e; subst e1
  exact ⟨a, vs, rfl, .inl h1, fun p hp => k F _ (.ref p) _ _ (Ex.refl _) (st.newO (d := .lst ds) hp ⟨vs, rfl, rs⟩) rfl (q p (st.nn hp).2)⟩
theorem c3_lst_t (q : Q (.lst ds) M) : C3 B (rLST K) [.tup ds] M Q := fun F H xv Qv b st rx k => by
  obtain ⟨v, e, a, vs, e1, h1, rs⟩ := rx.sing
  subst e; subst e1
  refine ⟨a, vs, rfl, .inr (.inl (.inl (st.fz a _ h1))), fun p hp => ?_⟩
  obtain ⟨s2, e2⟩ := st.new (o := .lst vs) hp
  exact k _ _ (.lst ds) _ _ e2 s2 ⟨p, _, rfl, upd_same, rs.mono e2⟩ q
theorem RDs.bls {F : Hp} : ∀ {bs : List Bool} {vs : List V}, RDs F (bs.map D.bl) vs → vs = bs.map V.bl
  | [], _, h => h
  | b :: bs, _, ⟨v, r, e, h1, h2⟩ => by rw [e, show v = V.bl b from h1, RDs.bls h2]; rfl
theorem RDs.ints {F : Hp} : ∀ {bs : List Int} {vs : List V}, RDs F (bs.map D.int) vs → vs = bs.map V.int
  | [], _, h => h
  | b :: bs, _, ⟨v, r, e, h1, h2⟩ => by rw [e, show v = V.int b from h1, RDs.ints h2]; rfl
theorem RDs.strs {F : Hp} : ∀ {bs : List Str} {vs : List V}, RDs F (bs.map D.str) vs → vs = bs.map V.str
  | [], _, h => h
  | b :: bs, _, ⟨v, r, e, h1, h2⟩ => by rw [e, show v = V.str b from h1, RDs.strs h2]; rfl
theorem c3_any {bs : List Bool} (l : LstD M x (bs.map D.bl)) (q : Q (.bl (bs.any id)) M) : C3 B (rAny K) [x] M Q := fun F H xv Qv b st rx k => by
  obtain ⟨v, e, r⟩ := rx.sing
  obtain ⟨a, vs, e1, h1, rs⟩ := l.seq (K := K) st r
  subst e; subst e1
  rw [rs.bls] at h1
  exact ⟨a, bs, rfl, h1, k F M (.bl (bs.any id)) _ H (Ex.refl _) st rfl q⟩
theorem c3_all {bs : List Bool} (l : LstD M x (bs.map D.bl)) (q : Q (.bl (bs.all id)) M) : C3 B (rAll K) [x] M Q := fun F H xv Qv b st rx k => by
  obtain ⟨v, e, r⟩ := rx.sing
  obtain ⟨a, vs, e1, h1, rs⟩ := l.seq (K := K) st r
  subst e; subst e1
  rw [rs.bls] at h1
  exact ⟨a, bs, rfl, h1, k F M (.bl (bs.all id)) _ H (Ex.refl _) st rfl q⟩
theorem c3_sum {bs : List Int} (l : LstD M x (bs.map D.int)) (q : Q (.int bs.sum) M) : C3 B (rSum K) [x] M Q := fun F H xv Qv b st rx k => by
  obtain ⟨v, e, r⟩ := rx.sing
  obtain ⟨a, vs, e1, h1, rs⟩ := l.seq (K := K) st r
  subst e; subst e1
  rw [rs.ints] at h1
  exact ⟨a, bs, rfl, h1, k F M (.int bs.sum) _ H (Ex.refl _) st rfl q⟩
def tyD : D → String
  | .non => "NoneType"
  | .bl _ => "bool"
  | .int _ => "int"
  | .str _ => "str"
  | .tup _ => "tuple"
  | .lst _ => "list"
  | _ => ""
theorem RD.tyX {F H : Hp} {v : V} (e : Ex F H) (r : RD F x v) (h : (tyD x == "") = false) : TyX K H v (.type (tyD x)) := by
  cases x with
  | non => rw [show v = _ from r]; exact .base .non
  | bl b => rw [show v = _ from r]; exact .base (.bl b)
  | int b => rw [show v = _ from r]; exact .base (.int b)
  | str b => rw [show v = _ from r]; exact .base (.str b)
  | tup ds => obtain ⟨a, vs, e1, h1, _⟩ := r; rw [e1]; exact .base (.tup (e a _ h1))
  | lst ds => obtain ⟨a, vs, e1, h1, _⟩ := r; rw [e1]; exact .base (.lst (e a _ h1))
  | _ => exact nomatch h
theorem c3_isi {n : String} {c : Bool} (h : (tyD x == "") = false) (hk : PySem.W.kitOne K (.type (tyD x)) (.type n) = some c) (q : Q (.bl c) M) : C3 B (rIsi K) [x, .ty n] M Q := fun F H xv Qv b st rx k => by
  obtain ⟨v, u, e, r1, r2⟩ := rx.two
  subst e
  rw [show u = V.ty n from r2]
  exact ⟨v, .ty n, .type (tyD x), .type n, c, rfl, .ty n, r1.tyX st.fz h, hk, k F M (.bl c) _ H (Ex.refl _) st rfl q⟩
/-! ### methods of built-ins -/
def TyD (M : Mem) (T : String) (x : D) : Prop := (T = "str" ∧ ∃ s, x = .str s) ∨ (T = "list" ∧ ∃ ds, LstD M x ds) ∨ (T = "dict" ∧ ∃ a, x = .ref a ∧ ((∃ kvs, M a = some (.dK kvs)) ∨ ∃ kvs, M a = some (.dT kvs)))
theorem TyD.at {F H : Hp} {T : String} {v : V} (h : TyD M T x) (st : St3 F M H) (r : RD F x v) : tyV K T v H := by
  rcases h with ⟨rfl, s, e⟩ | ⟨rfl, ds, l⟩ | ⟨rfl, a, e, h⟩
  · subst e; rw [show v = V.str s from r]; rfl
  · obtain ⟨a, vs, e1, h1, _⟩ := l.seq (K := K) st r
    rw [e1]
    exact .inl ⟨rfl, vs, h1⟩
  · subst e
    rw [show v = V.ref a from r]
    rcases h with ⟨kvs, h⟩ | ⟨kvs, h⟩
    · obtain ⟨_, ho, h1, kv, e2, _⟩ := st.own a _ h
      rw [e2] at h1
      exact .inr (.inr (.inl ⟨rfl, .inl ⟨kv, h1⟩⟩))
    · obtain ⟨_, ho, h1, kv, e2, _⟩ := st.own a _ h
      rw [e2] at h1
      exact .inr (.inr (.inl ⟨rfl, .inr ⟨kv, h1⟩⟩))
theorem TyD.lf {ds : List D} : TyD M "list" (.lst ds) := .inr (.inl ⟨rfl, ds, .fz⟩)
theorem TyD.lo {ds : List D} (h : M a = some (.lst ds)) : TyD M "list" (.ref a) := .inr (.inl ⟨rfl, ds, .ow h⟩)
theorem TyD.txt : TyD M "str" (.str s) := .inl ⟨rfl, s, rfl⟩
theorem w_bm0 {T : String} {r : V → List V → Hp → VK → Prop} {ta : TE} {σ : Sig} (h : W3e B ta σ M (fun x M1 => TyD M1 T x ∧ M3 B r x [] M1 Q)) : W3e B (tBM0 K T r ta) σ M Q := fun F σv H Qv b hs st k =>
  h F σv H _ b hs st fun F1 M1 x xv H1 e1 st1 rx ⟨ty, q1⟩ => ⟨ty.at st1 rx, q1 F1 H1 xv [] Qv (b.trans e1) st1 rx rfl fun F3 M3 d v H3 e3 st3 rd qd => k F3 M3 d v H3 (e1.trans e3) st3 rd qd⟩
theorem w_bm {T : String} {r : V → List V → Hp → VK → Prop} {ta : TE} {t : TA} {σ : Sig} (h : W3e B ta σ M (fun x M1 => TyD M1 T x ∧ W3a B t σ M1 (fun xs M2 => M3 B r x xs M2 Q))) : W3e B (tBM K T r ta t) σ M Q := fun F σv H Qv b hs st k =>
  h F σv H _ b hs st fun F1 M1 x xv H1 e1 st1 rx ⟨ty, q1⟩ => ⟨ty.at st1 rx, q1 F1 σv H1 _ (b.trans e1) (hs.mono e1) st1 fun F2 M2 xs xvs H2 e2 st2 rxs q2 =>
    q2 F2 H2 xv xvs Qv ((b.trans e1).trans e2) st2 (rx.mono e2) rxs fun F3 M3 d v H3 e3 st3 rd qd => k F3 M3 d v H3 ((e1.trans e2).trans e3) st3 rd qd⟩
theorem m3_append (h : M a = some (.lst ds)) (hl : ds.length ≤ 100000) (q : Q .non (mput M a (.lst (ds ++ [y])))) : M3 B rAppend (.ref a) [y] M Q := fun F H xv xvs Qv b st rx rxs k => by
  obtain ⟨v, e, ry⟩ := rxs.sing
  obtain ⟨_, ho, h1, vs, e2, rs⟩ := st.own a _ h
  subst e2
  refine ⟨a, vs, v, rx, e, h1, ?_, k F _ .non _ _ (Ex.refl _) (st.put h (d' := .lst (ds ++ [y])) ⟨_, rfl, rs.snoc ry⟩) rfl q⟩
  rw [← rs.length]; exact Nat.lt_of_le_of_lt hl (by decide)
theorem m3_extend (h : M a = some (.lst ds)) (l : LstD M y ys) (hl : ds.length + ys.length ≤ 100000) (q : Q .non (mput M a (.lst (ds ++ ys)))) : M3 B rExtend (.ref a) [y] M Q := fun F H xv xvs Qv b st rx rxs k => by
  obtain ⟨v, e, ry⟩ := rxs.sing
  obtain ⟨_, ho, h1, vs, e2, rs⟩ := st.own a _ h
  obtain ⟨c, us, e3, h3, r3⟩ := l.at st ry
  subst e2; subst e3
  refine ⟨a, c, vs, us, rx, e, h1, h3, ?_, k F _ .non _ _ (Ex.refl _) (st.put h (d' := .lst (ds ++ ys)) ⟨_, rfl, rs.append r3⟩) rfl q⟩
  rw [← rs.length, ← r3.length]; exact Nat.le_trans hl (by decide)
theorem m3_clear (h : M a = some (.lst ds)) (q : Q .non (mput M a (.lst []))) : M3 B rClear (.ref a) [] M Q := fun F H xv xvs Qv b st rx rxs k => by
  obtain ⟨_, ho, h1, vs, e2, rs⟩ := st.own a _ h
  subst e2
  exact ⟨a, vs, rx, rxs, h1, k F _ .non _ _ (Ex.refl _) (st.put h (d' := .lst []) ⟨_, rfl, rfl⟩) rfl q⟩
theorem m3_pop0 (h : M a = some (.lst (x :: ds))) (q : Q x (mput M a (.lst ds))) : M3 B rPopAt (.ref a) [.int 0] M Q := fun F H xv xvs Qv b st rx rxs k => by
  obtain ⟨v, e, ry⟩ := rxs.sing
  obtain ⟨_, ho, h1, vs, e2, rs⟩ := st.own a _ h
  obtain ⟨z, us, e3, r1, r2⟩ := rs
  subst e2; subst e3
  rw [show v = V.int 0 from ry] at e
  exact ⟨a, z :: us, 0, 0, z, rx, e, h1, by decide, by decide, by simp [seqIndex?], rfl, k F _ x _ _ (Ex.refl _) (st.put h (d' := .lst ds) ⟨_, rfl, r2⟩) r1 q⟩
end
end T3
set_option Elab.async false
set_option linter.all false
set_option maxRecDepth 100000
set_option maxHeartbeats 2000000
namespace T3
open PySem L2
open Evl (Ex)
/-! ### what is walked -/
/-- J walks the items ds while P holds of the owned objects -/
def WD (F : Hp) (J : It) (ds : List D) (P : Mem → Prop) : Prop := ∃ (G : Hp → Prop) (Y : Nat → Hp → V → Hp → Prop), Walk J ds.length G Y ∧ (∀ F' M H, Ex F F' → St3 F' M H → P M → G H) ∧
  (∀ (i : Nat) d x H H' F' M, ds[i]? = some d → Ex F F' → St3 F' M H → P M → Y i H x H' → ∃ F2, Ex F' F2 ∧ St3 F2 M H' ∧ RD F2 d x) ∧ (∀ M p o, M p = none → P M → P (mput M p o))
def W3i (B : Hp) (wi : TI) (σ : Sig) (M : Mem) (Q : List D → (Mem → Prop) → Mem → Prop) : Prop :=
  ∀ (F : Hp) (σv : St) (H : Hp) (R : It → Hp → Prop), Ex B F → SRel F σ σv → St3 F M H → (∀ F' M' J ds P H', Ex F F' → St3 F' M' H' → WD F' J ds P → Q ds P M' → R J H') → wi σv H R
section
variable {B : Hp} {M : Mem} {K : PySem.W.Frag} {σ : Sig} {te : TE} {ta : TA} {Q : List D → (Mem → Prop) → Mem → Prop}
theorem WD.len {F : Hp} {ds : List D} {vs : List V} {J : It} {n : Nat} {G : Hp → Prop} {Y : Nat → Hp → V → Hp → Prop} (w : Walk J n G Y) (e : n = ds.length) : Walk J ds.length G Y := e ▸ w
theorem i_list (h : W3e B te σ M (fun x M1 => ∃ ds, x = .lst ds ∧ Q ds (fun _ => True) M1)) : W3i B (iList K te) σ M Q := fun F σv H R b hs st k =>
  h F σv H _ b hs st fun F1 M1 x xv H1 e1 st1 rx ⟨ds, ex, q⟩ => by
    subst ex
    obtain ⟨a, vs, ev, hf, rs⟩ := rx
    refine ⟨a, ev, ⟨vs, .inl (.inl (st1.fz a _ hf))⟩, k F1 M1 (Itl K a) ds _ H1 e1 st1 ⟨fun H => SqL K H a vs, YAt vs, WD.len (F := F1) (vs := vs) walk_list rs.length.symm, ?_, ?_, fun _ _ _ _ z => z⟩ q⟩
    · intro F' M' H' e s _
      exact .inl (.inl (s.fz a _ (e a _ hf)))
    · intro i d x H' H'' F' M' hd e s _ y
      obtain ⟨y1, y2⟩ := y
      subst y1
      obtain ⟨v, hv, rv⟩ := rs.at hd
      rw [y2] at hv; cases hv
      exact ⟨F', Ex.refl _, s, rv.mono e⟩
/-- over an owned list that stands still -/
theorem i_listO (h : W3e B te σ M (fun x M1 => ∃ a ds, x = .ref a ∧ M1 a = some (.lst ds) ∧ Q ds (fun M => M a = some (.lst ds)) M1)) : W3i B (iList K te) σ M Q := fun F σv H R b hs st k =>
  h F σv H _ b hs st fun F1 M1 x xv H1 e1 st1 rx ⟨a, ds, ex, hm, q⟩ => by
    subst ex
    obtain ⟨_, ho, h1, vs, e2, rs⟩ := st1.own a _ hm
    subst e2
    refine ⟨a, rx, ⟨vs, .inl (.inl h1)⟩, k F1 M1 (Itl K a) ds _ H1 e1 st1 ⟨fun H => ∃ us, SqL K H a us ∧ us.length = vs.length, fun i H x H' => H' = H ∧ ∀ us, SqL K H a us → us[i]? = some x, ?_, ?_, ?_, ?_⟩ q⟩
    · rw [rs.length]
      exact ⟨fun i H hi ⟨us, g, hl⟩ => ⟨us, us[i], g, by simp [hl, hi]⟩, fun H ⟨us, g, hl⟩ => ⟨us, g, Nat.le_of_eq hl⟩, fun i H x H' hi g y => y⟩
    · intro F' M' H' e s p
      obtain ⟨_, ho, h1', us, e2, rs'⟩ := s.own a _ p
      subst e2
      exact ⟨us, .inl (.inl h1'), by rw [← rs'.length, rs.length]⟩
    · intro i d x H' H'' F' M' hd e s p ⟨y1, y2⟩
      subst y1
      obtain ⟨f0, ho, h1', us', e2, rs'⟩ := s.own a _ p
      subst e2
      obtain ⟨v, hv, rv⟩ := rs'.at hd
      rw [y2 us' (.inl (.inl h1'))] at hv; cases hv
      exact ⟨F', Ex.refl _, s, rv⟩
    · intro M' p o hp hm'
      show mput M' p o a = _
      rw [mput_ne (mne hm' hp)]; exact hm'

theorem i_rng1 (h : W3a B ta σ M (fun xs M1 => ∃ j : Int, xs = [.int j] ∧ -1000000 ≤ j ∧ j ≤ 1000000 ∧ Q ((List.range j.toNat).map fun (i : Nat) => D.int (i : Int)) (fun _ => True) M1)) : W3i B (iRng1 ta) σ M Q := fun F σv H R b hs st k =>
  h F σv H _ b hs st fun F1 M1 xs xv H1 e1 st1 rx ⟨j, ex, hj0, hj, q⟩ => by
    subst ex
    obtain ⟨v, e, r⟩ := rx.sing
    subst e
    rw [show v = V.int j from r]
    refine ⟨j, rfl, by omega, by omega, k F1 M1 _ _ _ H1 e1 st1 ⟨fun _ => True, _, WD.len (F := F1) (ds := (List.range j.toNat).map fun (i : Nat) => D.int (i : Int)) (vs := []) walk_range (by simp), fun _ _ _ _ _ _ => trivial, ?_, fun _ _ _ _ z => z⟩ q⟩
    intro i d x H' H'' F' M' hd e s _ ⟨y1, y2⟩
    subst y1
    refine ⟨F', Ex.refl _, s, ?_⟩
    rw [List.getElem?_map] at hd
    obtain ⟨i', h1, h2⟩ := Option.map_eq_some_iff.mp hd
    rw [List.getElem?_range (by have := (List.getElem?_eq_some_iff.mp h1).1; simpa using this)] at h1
    cases h1
    rw [← h2, y2]
    show V.int (0 + (i : Int)) = V.int (i : Int)
    rw [Int.zero_add]
theorem i_rng2 (h : W3a B ta σ M (fun xs M1 => ∃ i j : Int, xs = [.int i, .int j] ∧ -1000000 ≤ i ∧ i ≤ 1000000 ∧ -1000000 ≤ j ∧ j ≤ 1000000 ∧ Q ((List.range (j - i).toNat).map fun (n : Nat) => D.int (i + n)) (fun _ => True) M1)) : W3i B (iRng2 ta) σ M Q := fun F σv H R b hs st k =>
  h F σv H _ b hs st fun F1 M1 xs xv H1 e1 st1 rx ⟨l, j, ex, h1, h2, h3, h4, q⟩ => by
    subst ex
    obtain ⟨v, u, e, r, r2⟩ := rx.two
    subst e
    rw [show v = V.int l from r, show u = V.int j from r2]
    refine ⟨l, j, rfl, ⟨by omega, by omega, by omega, by omega⟩, k F1 M1 _ _ _ H1 e1 st1 ⟨fun _ => True, _, WD.len (F := F1) (ds := (List.range (j - l).toNat).map fun (n : Nat) => D.int (l + n)) (vs := []) walk_range (by simp), fun _ _ _ _ _ _ => trivial, ?_, fun _ _ _ _ z => z⟩ q⟩
    intro i d x H' H'' F' M' hd e s _ ⟨y1, y2⟩
    subst y1
    refine ⟨F', Ex.refl _, s, ?_⟩
    rw [List.getElem?_map] at hd
    obtain ⟨i', h1, h2⟩ := Option.map_eq_some_iff.mp hd
    rw [List.getElem?_range (by have := (List.getElem?_eq_some_iff.mp h1).1; simpa using this)] at h1
    cases h1
    rw [← h2, y2]
    rfl
end
/-! ### for -/
section
variable {B : Hp} {M : Mem} {K : PySem.W.Frag} {σ : Sig} {wi : TI} {g : TG} {tb : TS} {D3 : Ends3}
theorem s_for (h : W3i B wi σ M (fun ds P M1 => ∃ I : Nat → Sig → Mem → Prop, (∀ i σ' M', I i σ' M' → P M') ∧ I 0 σ M1 ∧
      (∀ (i : Nat) d σ' M', ds[i]? = some d → I i σ' M' → G3 B g d σ' M' (fun σ2 M2 => W3s B tb { D3 with nx := I (i + 1), ct := I (i + 1), bk := D3.nx } σ2 M2)) ∧ (∀ σ' M', I ds.length σ' M' → D3.nx σ' M'))) :
    W3s B (tFor wi g tb) D3 σ M := fun F σv H Dv b hs st im =>
  h F σv H _ b hs st fun F1 M1 J ds P H1 e1 st1 ⟨G, Y, w, hG, hY, _⟩ ⟨I, hP, h0, turn, fin⟩ =>
    for_it w (fun i σv' H' => ∃ F' M' σ', Ex F1 F' ∧ SRel F' σ' σv' ∧ St3 F' M' H' ∧ I i σ' M') ⟨F1, M1, σ, Ex.refl _, hs.mono e1, st1, h0⟩
      (fun i σv' H' _ ⟨F', M', σ', e, s, t, q⟩ => hG F' M' H' e t (hP i σ' M' q))
      (fun i x σv' H' H'' hi ⟨F', M', σ', e, s, t, q⟩ y => by
        have hd : ds[i]? = some ds[i] := by simp [hi]
        obtain ⟨F2, e2, t2, rd⟩ := hY i _ x H' H'' F' M' hd e t (hP i σ' M' q) y
        refine turn i _ σ' M' hd q F2 σv' H'' x _ (b.trans ((e1.trans e).trans e2)) (s.mono e2) t2 rd fun F3 M3 σ3 σv3 H3 e3 s3 t3 q3 => ?_
        refine q3 F3 σv3 H3 _ (b.trans (((e1.trans e).trans e2).trans e3)) s3 t3 ⟨fun F4 M4 σ4 σv4 H4 e4 s4 t4 q4 => ?_, ?_, ?_, fun F4 M4 σ4 σv4 H4 e4 s4 t4 q4 => ?_⟩
        · exact ⟨F4, M4, σ4, ((e.trans e2).trans e3).trans e4, s4, t4, q4⟩
        · exact (im.mono (((e1.trans e).trans e2).trans e3)).rt
        · exact (im.mono (((e1.trans e).trans e2).trans e3)).nx
        · exact ⟨F4, M4, σ4, ((e.trans e2).trans e3).trans e4, s4, t4, q4⟩)
      (fun σv' H' ⟨F', M', σ', e, s, t, q⟩ => im.nx F' M' σ' σv' H' (e1.trans e) s t (fin σ' M' q))
/-- while: a measure -/
theorem s_while {tc : TT} (I : Nat → Sig → Mem → Prop) (m0 : Nat) (h0 : I m0 σ M)
    (hs : ∀ m σ' M', I m σ' M' → W3t B tc σ' M' (fun c M1 => if c = true then W3s B tb { D3 with nx := fun σ2 M2 => ∃ m', m' < m ∧ I m' σ2 M2, ct := fun σ2 M2 => ∃ m', m' < m ∧ I m' σ2 M2, bk := D3.nx } σ' M1 else D3.nx σ' M1)) : W3s B (tWhile tc tb) D3 σ M := fun F σv H Dv b hs' st im => by
  refine ⟨fun m σv' H' => ∃ F' M' σ', Ex F F' ∧ SRel F' σ' σv' ∧ St3 F' M' H' ∧ I m σ' M', ⟨m0, F, M, σ, Ex.refl _, hs', st, h0⟩, ?_⟩
  rintro m σv' H' ⟨F', M', σ', e, s, t, q⟩
  refine hs m σ' M' q F' σv' H' _ (b.trans e) s t fun F2 M2 c H2 e2 t2 q2 => ?_
  cases c with
  | false => exact im.nx F2 M2 σ' σv' H2 (e.trans e2) (s.mono e2) t2 q2
  | true =>
    refine ⟨_, fun σ' H' z => z, q2 F2 σv' H2 _ (b.trans (e.trans e2)) (s.mono e2) t2 ⟨fun F4 M4 σ4 σv4 H4 e4 s4 t4 ⟨m', hm, q4⟩ => ?_, ?_, ?_, fun F4 M4 σ4 σv4 H4 e4 s4 t4 ⟨m', hm, q4⟩ => ?_⟩⟩
    · exact ⟨m', hm, F4, M4, σ4, (e.trans e2).trans e4, s4, t4, q4⟩
    · exact (im.mono (e.trans e2)).rt
    · exact (im.mono (e.trans e2)).nx
    · exact ⟨m', hm, F4, M4, σ4, (e.trans e2).trans e4, s4, t4, q4⟩
end
/-! ### comprehensions -/
def OwnG (g : TG) (vs : List Nat) : Prop := ∀ x σ H Q Q', (∀ σ2 H2, L2.wipe σ2 vs = L2.wipe σ vs → Q σ2 H2 → Q' σ2 H2) → g x σ H Q → g x σ H Q'
def OwnGs (g : TGs) (vs : List Nat) : Prop := ∀ x σ H Q Q', (∀ σ2 H2, L2.wipe σ2 vs = L2.wipe σ vs → Q σ2 H2 → Q' σ2 H2) → g x σ H Q → g x σ H Q'
theorem wipe_at : ∀ (vs : List Nat) (σ : St) (i : Nat), (L2.wipe σ vs)[i]? = if i ∈ vs then (if i < σ.length then some none else none) else σ[i]?
  | [], σ, i => by simp [L2.wipe]
  | v :: vs, σ, i => by
    show ((L2.wipe σ vs).set v none)[i]? = _
    by_cases e : v = i
    · subst e
      rw [if_pos List.mem_cons_self]
      by_cases h : v < σ.length
      · rw [List.getElem?_set_self (by rw [wipe_length]; exact h), if_pos h]
      · rw [if_neg h, List.getElem?_eq_none]
        rw [List.length_set, wipe_length]; omega
    · rw [List.getElem?_set_ne e, wipe_at vs σ i]
      by_cases h : i ∈ vs
      · rw [if_pos h, if_pos (List.mem_cons_of_mem _ h)]
      · rw [if_neg h, if_neg (by simp only [List.mem_cons, not_or]; exact ⟨fun z => e z.symm, h⟩)]
theorem wipe_set {vs : List Nat} {σ : St} {j : Nat} {x : Option V} (h : j ∈ vs) : L2.wipe (σ.set j x) vs = L2.wipe σ vs := by
  apply List.ext_getElem?
  intro i
  rw [wipe_at, wipe_at, List.length_set]
  by_cases e : i ∈ vs
  · rw [if_pos e, if_pos e]
  · rw [if_neg e, if_neg e, List.getElem?_set_ne (fun z => e (by rw [← z]; exact h))]
theorem wipe_wipe {vs : List Nat} {σ : St} : L2.wipe (L2.wipe σ vs) vs = L2.wipe σ vs := by
  apply List.ext_getElem?
  intro i
  rw [wipe_at, wipe_at, wipe_length]
  by_cases e : i ∈ vs
  · rw [if_pos e]; rw [if_pos e]
  · rw [if_neg e]
theorem own_name {j : Nat} {vs : List Nat} (h : j ∈ vs := by decide) : OwnG (gName j) vs := fun x σ H Q Q' k q => k _ _ (wipe_set h) q
theorem own_nil {vs : List Nat} : OwnGs gNil vs := fun x σ H Q Q' k q => ⟨q.1, k _ _ rfl q.2⟩
theorem own_cons {t : TG} {u : TGs} {vs : List Nat} (h1 : OwnG t vs) (h2 : OwnGs u vs) : OwnGs (gCons t u) vs := fun x σ H Q Q' k ⟨v, r, e, q⟩ =>
  ⟨v, r, e, h1 v σ H _ _ (fun σ2 H2 w q2 => h2 r σ2 H2 Q Q' (fun σ3 H3 w3 q3 => k σ3 H3 (w3.trans w) q3) q2) q⟩
theorem own_tup {K : PySem.W.Frag} {n : Nat} {t : TGs} {vs : List Nat} (h : OwnGs t vs) : OwnG (gTup K n t) vs := fun x σ H Q Q' k ⟨a, xs, e, hq, hl, q⟩ => ⟨a, xs, e, hq, hl, h _ _ _ _ _ k q⟩
section
variable {B : Hp} {M : Mem} {K : PySem.W.Frag} {σ : Sig} {wi : TI} {g : TG} {tt : TT} {te : TE} {vs : List Nat} {Q : DQ}
/-- a comprehension; the new list, while it grows, is an owned one at L -/
theorem w_lc (hg : OwnG g vs) (h : W3i B wi σ M (fun ds P M1 => ∃ I : Nat → List D → Mem → Prop, (∀ i acc M', I i acc M' → P M' ∧ acc.length ≤ i) ∧ ds.length ≤ 1000000 ∧ I 0 [] M1 ∧
      (∀ (i : Nat) d acc M' L, ds[i]? = some d → I i acc M' → M' L = none → G3 B g d (wipe3 σ vs) (mput M' L (.lst acc)) (fun σ2 M2 => W3t B tt σ2 M2 (fun b M3 =>
        if b = true then W3e B te σ2 M3 (fun y M4 => ∃ M5, M4 = mput M5 L (.lst acc) ∧ M5 L = none ∧ I (i + 1) (acc ++ [y]) M5) else ∃ M5, M3 = mput M5 L (.lst acc) ∧ M5 L = none ∧ I (i + 1) acc M5))) ∧
      (∀ acc M', I ds.length acc M' → Q (.lst acc) M'))) :
    W3e B (tLc wi g tt te vs) σ M Q := fun F σv H Qv b hs st k =>
  h F σv H _ b hs st fun F1 M1 J ds P H1 e1 st1 ⟨G, Y, w, hG, hY, hX⟩ ⟨I, hP, hl, h0, turn, fin⟩ L hL =>
    lc_it w (fun i H' => ∃ F' M' acc, Ex F1 F' ∧ M' L = none ∧ St3 F' (mput M' L (.lst acc)) H' ∧ I i acc M')
      ⟨F1, M1, [], Ex.refl _, (st1.nn hL).2, st1.newO (d := .lst []) hL ⟨[], rfl, rfl⟩, h0⟩
      (fun i H' _ ⟨F', M', acc, e, n, t, q⟩ => hG F' _ H' e t (hX M' L _ n (hP i acc M' q).1))
      (fun i x H' H'' hi ⟨F', M', acc, e, n, t, q⟩ y => by
        have hd : ds[i]? = some ds[i] := by simp [hi]
        obtain ⟨F2, e2, t2, rd⟩ := hY i _ x H' H'' F' _ hd e t (hX M' L _ n (hP i acc M' q).1) y
        have main := turn i _ acc M' L hd q n F2 (L2.wipe σv vs) H'' x (fun σ2 H2 => tt σ2 H2 fun b H3 => if b = true then te σ2 H3 fun y H4 => ∃ acc, H4 L = some (.lst acc) ∧ acc.length < sizeLine ∧ (∃ F' M' acc', Ex F1 F' ∧ M' L = none ∧ St3 F' (mput M' L (.lst acc')) (upd H4 L (.lst (acc ++ [y]))) ∧ I (i + 1) acc' M') else (∃ F' M' acc', Ex F1 F' ∧ M' L = none ∧ St3 F' (mput M' L (.lst acc')) H3 ∧ I (i + 1) acc' M'))
          (b.trans ((e1.trans e).trans e2)) (((hs.mono e1).mono (e.trans e2)).wipe vs) t2 rd fun F3 M3 σ3 σv3 H3 e3 s3 t3 q3 => ?_
        · exact hg x (L2.wipe σv vs) H'' _ _ (fun σ2 H2 w2 q2 => ⟨w2.trans wipe_wipe, q2⟩) main
        · refine q3 F3 σv3 H3 _ (b.trans (((e1.trans e).trans e2).trans e3)) s3 t3 fun F4 M4 c H4 e4 t4 q4 => ?_
          cases c with
          | false =>
            obtain ⟨M5, em, n5, i5⟩ := q4
            subst em
            exact ⟨F4, M5, acc, ((e.trans e2).trans e3).trans e4, n5, t4, i5⟩
          | true =>
            refine q4 F4 σv3 H4 _ (b.trans ((((e1.trans e).trans e2).trans e3).trans e4)) (s3.mono e4) t4 fun F5 M5' y v5 H5 e5 t5 r5 ⟨M5, em, n5, i5⟩ => ?_
            subst em
            obtain ⟨_, ho, h1, us, e6, rs⟩ := t5.own L _ mput_same
            subst e6
            have hlen := (hP i acc M' q).2
            refine ⟨us, h1, by rw [← rs.length]; exact Nat.lt_of_lt_of_le (Nat.lt_of_le_of_lt hlen hi) (Nat.le_trans hl (by decide)), F5, M5, acc ++ [y], (((e.trans e2).trans e3).trans e4).trans e5, n5, ?_, i5⟩
            have := t5.put (p := L) (d := .lst acc) (d' := .lst (acc ++ [y])) mput_same ⟨us ++ [v5], rfl, rs.snoc r5⟩
            rwa [mput_mput] at this)
      (fun H' ⟨F', M', acc, e, n, t, q⟩ => by
        obtain ⟨_, ho, h1, us, e6, rs⟩ := t.own L _ mput_same
        subst e6
        obtain ⟨t2, e2⟩ := t.freeze mput_same h1
        rw [mdel_mput n] at t2
        exact k _ M' (.lst acc) (.ref L) H' ((e1.trans e).trans e2) t2 ⟨L, us, rfl, upd_same, rs.mono e2⟩ (fin acc M' q))
/-- .. where nothing changes: filter and map -/
theorem w_lcP (p : D → Bool) (f : D → D) (hg : OwnG g vs) (h : W3i B wi σ M (fun ds P M1 => ds.length ≤ 1000000 ∧ P M1 ∧
      (∀ (i : Nat) d M', ds[i]? = some d → (∀ a o, M1 a = some o → M' a = some o) → G3 B g d (wipe3 σ vs) M' (fun σ2 M2 => M2 = M' ∧ W3t B tt σ2 M' (fun b M3 => M3 = M' ∧ b = p d ∧ (b = true → W3e B te σ2 M' (fun y M4 => M4 = M' ∧ y = f d))))) ∧
      Q (.lst ((ds.filter p).map f)) M1)) :
    W3e B (tLc wi g tt te vs) σ M Q := by
  refine w_lc hg fun F σv H R b hs st k => h F σv H R b hs st fun F' M' J ds P H' e s wd ⟨hl, hP, turn, q⟩ => k F' M' J ds P H' e s wd ?_
  refine ⟨fun i acc M2 => i ≤ ds.length ∧ M2 = M' ∧ acc = ((ds.take i).filter p).map f, fun i acc M2 ⟨hi, a, c⟩ => ⟨by rw [a]; exact hP, ?_⟩, hl, ⟨Nat.zero_le _, rfl, rfl⟩, fun i d acc M2 L hd ⟨hi, em, ea⟩ hL => ?_, fun acc M2 ⟨_, em, ea⟩ => ?_⟩
  · rw [c, List.length_map]
    exact Nat.le_trans (List.length_filter_le _ _) (by rw [List.length_take]; exact Nat.min_le_left _ _)
  · subst em
    have hlt : i < ds.length := (List.getElem?_eq_some_iff.mp hd).1
    have et : ds.take (i + 1) = ds.take i ++ [d] := by rw [List.take_add_one, hd]; rfl
    intro F2 σ2 H2 xv Qv b2 hs2 st2 rx kk
    refine turn i d _ hd (fun a o ha => by rw [mput_ne (mne ha hL)]; exact ha) F2 σ2 H2 xv Qv b2 hs2 st2 rx fun F3 M3 σ3 σv3 H3 e3 s3 t3 ⟨e4, q4⟩ => kk F3 M3 σ3 σv3 H3 e3 s3 t3 ?_
    subst e4
    refine q4.to fun c M4 ⟨e5, e6, q5⟩ => ?_
    subst e5
    cases c with
    | true =>
      refine (q5 rfl).to fun y M5 ⟨e7, e8⟩ => ?_
      subst e7
      refine ⟨M2, rfl, hL, hlt, rfl, ?_⟩
      rw [et, List.filter_append, List.map_append, ← ea, e8]
      simp [← e6]
    | false =>
      refine ⟨M2, rfl, hL, hlt, rfl, ?_⟩
      rw [et, List.filter_append, List.map_append, ← ea]
      simp [← e6]
  · rw [List.take_length] at ea
    subst em; subst ea
    exact q
end
end T3
set_option Elab.async false
set_option linter.all false
set_option maxRecDepth 100000
set_option maxHeartbeats 2000000
namespace T3
open PySem L2
open Evl (Ex)
/-! ### defs -/
abbrev EQ3 := Addr → D → Mem → Prop
abbrev NoE : EQ3 := fun _ _ _ => False
abbrev Sp3 := List D → Mem → DQ → EQ3 → Prop
def ImpE (F : Hp) (E3 : EQ3) (E : XK) : Prop := ∀ F' M' C d thing v H', Ex F F' → St3 F' M' H' → RD F' thing v → F' d = some (.xd [(("thing" : Str), v)]) → E3 C thing M' → E (.ref C) (some d) H'
theorem ImpE.mono {F F1 : Hp} {E3 : EQ3} {E : XK} (h : ImpE F E3 E) (e : Ex F F1) : ImpE F1 E3 E := fun F' M' C d t v H' a => h F' M' C d t v H' (e.trans a)
theorem impE0 {F : Hp} {E : XK} : ImpE F NoE E := fun _ _ _ _ _ _ _ _ _ _ _ h => h.elim
def lift3 (S : Sp3) : Sp := fun vs H Q E => ∃ (ds : List D) (F : Hp) (M : Mem) (Q3 : DQ) (E3 : EQ3), RDs F ds vs ∧ St3 F M H ∧ (∀ F' M' d v H', Ex F F' → St3 F' M' H' → RD F' d v → Q3 d M' → Q v H') ∧ ImpE F E3 E ∧ S ds M Q3 E3
theorem run3 {S : Sp3} {N : List Str} {vs : List V} {H : Hp} {Q : VK} {E : XK} {t : TS} (h : lift3 S vs H Q E)
    (k : ∀ B ds M Q3 E3, S ds M Q3 E3 → ImpE B E3 E → W3s B t { nx := fun _ M => Q3 .non M, rt := Q3 } (start3 N ds) M) : t { nx := fun _ H' => Q .non H', rt := Q } (L2.start N vs) H := by
  obtain ⟨ds, F, M, Q3, E3, r, st, hq, he, hs⟩ := h
  exact k F ds M Q3 E3 hs he F _ H _ (Ex.refl _) (SRel.start r) st ⟨fun F' M' σ' σv' H' e s t q => hq F' M' .non .non H' e t rfl q, hq, fun _ _ _ _ _ _ _ _ q => q.elim, fun _ _ _ _ _ _ _ _ q => q.elim⟩
theorem lift3_len {S : Sp3} {n : Nat} (h : ∀ ds M Q E, S ds M Q E → ds.length = n) : ∀ vs H Q E, lift3 S vs H Q E → vs.length = n := fun vs H Q E ⟨ds, F, M, Q3, E3, r, _, _, _, hs⟩ => by rw [← r.length]; exact h ds M Q3 E3 hs
section
variable {B : Hp} {M : Mem} {K : PySem.W.Frag} {σ : Sig} {t : TA} {ta tv te : TE} {Q : DQ} {S : Sp3} {E : XK} {E3 : EQ3} {dds : List D} {dvs : List V}
theorem lift_of {F : Hp} {H : Hp} {Qv : VK} {ds : List D} {vs : List V} (b : Ex B F) (st : St3 F M H) (r : RDs F ds vs) (hE : ImpE B E3 E) (k : ∀ F' M' d v H', Ex F F' → St3 F' M' H' → RD F' d v → Q d M' → Qv v H') (h : S ds M Q E3) : lift3 S vs H Qv E :=
  ⟨ds, F, M, Q, E3, r, st, k, hE.mono b, h⟩
theorem w_call (hd : ∀ F, RDs F dds dvs) (hE : ImpE B E3 E) (h : W3a B t σ M (fun ds M1 => S (ds ++ dds) M1 Q E3)) : W3e B (tCall (lift3 S) dvs E t) σ M Q := fun F σv H Qv b hs st k =>
  h F σv H _ b hs st fun F1 M1 ds vs H1 e1 st1 rx q => lift_of (b.trans e1) st1 (rx.append (hd F1)) hE (fun F2 M2 d v H2 e2 => k F2 M2 d v H2 (e1.trans e2)) q
theorem w_call0 (h : W3a B t σ M (fun ds M1 => S ds M1 Q NoE)) : W3e B (tCall (lift3 S) [] E t) σ M Q := fun F σv H Qv b hs st k =>
  h F σv H _ b hs st fun F1 M1 ds vs H1 e1 st1 rx q => lift_of (b.trans e1) st1 (by rw [List.append_nil]; exact rx) impE0 (fun F2 M2 d v H2 e2 => k F2 M2 d v H2 (e1.trans e2)) q
/-- an instance: frozen, or owned -/
def InsD (M : Mem) (x : D) (C : Addr) (fs : List (Str × D)) : Prop := x = .ins C (fs.map (·.1)) (fs.map (·.2)) ∨ ∃ a, x = .ref a ∧ M a = some (.ins C fs)
theorem pkv_of {F : Hp} : ∀ {fs : List (Str × D)} {vs : List V}, RDs F (fs.map (·.2)) vs → PKV F fs ((fs.map (·.1)).zip vs)
  | [], _, h => by rw [show _ = [] from h]; exact .nil
  | a :: r, _, ⟨v, us, e, h1, h2⟩ => by subst e; exact .cons ⟨rfl, h1⟩ (pkv_of h2)
theorem InsD.at {x : D} {C : Addr} {fs : List (Str × D)} {F H : Hp} {v : V} (h : InsD M x C fs) (st : St3 F M H) (r : RD F x v) : ∃ a dx fv, v = .ref a ∧ H a = some (.ins C dx fv) ∧ PKV F fs fv := by
  rcases h with e | ⟨a, e, h⟩
  · subst e
    obtain ⟨a, dx, vs, e1, h1, hl, rs⟩ := r
    exact ⟨a, dx, _, e1, st.fz a _ h1, pkv_of rs⟩
  · subst e
    obtain ⟨_, ho, h1, dx, fv, e2, rs⟩ := st.own a _ h
    subst e2
    exact ⟨a, dx, fv, r, h1, rs⟩
theorem pkv_look {F : Hp} {f : Str} : ∀ {fs : List (Str × D)} {fv : List (Str × V)}, PKV F fs fv → (∀ {d : D}, fs.lookup f = some d → ∃ v, fv.lookup f = some v ∧ RD F d v) ∧ (fs.lookup f = none → fv.lookup f = none)
  | _, _, .nil => ⟨fun {d} h => (by cases h), fun _ => rfl⟩
  | (g, d) :: r, (g', v) :: rv, .cons h t => by
    have e : g = g' := h.1
    subst e
    obtain ⟨i1, i2⟩ := pkv_look (f := f) t
    constructor
    · intro d' hd
      by_cases q : f = g
      · subst q
        rw [List.lookup_cons_self] at hd ⊢
        cases hd
        exact ⟨v, rfl, h.2⟩
      · have qb : (f == g) = false := beq_eq_false_iff_ne.mpr q
        rw [List.lookup_cons, qb] at hd ⊢
        exact i1 hd
    · intro hd
      by_cases q : f = g
      · subst q; rw [List.lookup_cons_self] at hd; cases hd
      · have qb : (f == g) = false := beq_eq_false_iff_ne.mpr q
        rw [List.lookup_cons, qb] at hd ⊢
        exact i2 hd
def putD (f : Str) (v : D) : List (Str × D) → List (Str × D)
  | [] => [(f, v)]
  | (g, x) :: r => if g = f then (g, v) :: r else (g, x) :: putD f v r
theorem pkv_put {F : Hp} {f : Str} {d : D} {v : V} (rd : RD F d v) : ∀ {fs : List (Str × D)} {fv : List (Str × V)}, PKV F fs fv → PKV F (putD f d fs) (putF f v fv)
  | _, _, .nil => .cons ⟨rfl, rd⟩ .nil
  | (g, d') :: r, (g', v') :: rv, .cons h t => by
    have e : g = g' := h.1
    subst e
    show PKV F (if g = f then (g, d) :: r else (g, d') :: putD f d r) (if g = f then (g, v) :: rv else (g, v') :: putF f v rv)
    by_cases q : g = f
    · rw [if_pos q, if_pos q]; exact .cons ⟨rfl, rd⟩ t
    · rw [if_neg q, if_neg q]; exact .cons h (pkv_put rd t)
theorem w_fld {f : Str} (h : W3e B ta σ M (fun x M1 => ∃ C fs d, InsD M1 x C fs ∧ Cls K C ∧ NoAttr K C f ∧ fs.lookup f = some d ∧ Q d M1)) : W3e B (tFld K ta f) σ M Q := fun F σv H Qv b hs st k =>
  h F σv H _ b hs st fun F1 M1 x xv H1 e1 st1 rx ⟨C, fs, d, hi, c, n, l, q⟩ => by
    obtain ⟨a, dx, fv, ev, ha, pk⟩ := hi.at st1 rx
    obtain ⟨v, hv, rv⟩ := (pkv_look pk).1 l
    exact ⟨a, C, dx, fv, v, ev, ha, c, n, hv, k F1 M1 d v H1 e1 st1 rv q⟩
theorem pkv_len {F : Hp} {fs : List (Str × D)} {fv : List (Str × V)} (h : PKV F fs fv) : fs.length = fv.length := by
  have := congrArg List.length h.fst
  simpa using this
theorem s_fld {f : Str} {D3 : Ends3} (h : W3e B tv σ M (fun y M1 => W3e B ta σ M1 (fun x M2 => ∃ a C fs, x = .ref a ∧ M2 a = some (.ins C fs) ∧ Cls K C ∧ NoAttr K C f ∧ fs.length < 1000 ∧ D3.nx σ (mput M2 a (.ins C (putD f y fs)))))) : W3s B (sFld K ta tv f) D3 σ M := fun F σv H Dv b hs st im =>
  h F σv H _ b hs st fun F1 M1 y yv H1 e1 st1 ry q1 => q1 F1 σv H1 _ (b.trans e1) (hs.mono e1) st1 fun F2 M2 x xv H2 e2 st2 rx ⟨a, C, fs, ex, hm, c, n, l, q⟩ => by
    subst ex
    obtain ⟨_, ho, h1, dx, fv, e3, pk⟩ := st2.own a _ hm
    subst e3
    exact ⟨a, C, dx, fv, rx, h1, c, n, by rw [← pkv_len pk]; exact l, im.nx F2 _ σ σv _ (e1.trans e2) ((hs.mono e1).mono e2) (st2.put hm (d' := .ins C (putD f y fs)) ⟨dx, _, rfl, pkv_put (ry.mono e2) pk⟩) q⟩
theorem w_meth {C : Addr} {m : Str} (hd : ∀ F, RDs F dds dvs) (hE : ImpE B E3 E) (h : W3e B ta σ M (fun x M1 => ∃ fs, InsD M1 x C fs ∧ fs.lookup m = none ∧ W3a B t σ M1 (fun ds M2 => S (x :: (ds ++ dds)) M2 Q E3))) : W3e B (tMeth C m (lift3 S) dvs E ta t) σ M Q := fun F σv H Qv b hs st k =>
  h F σv H _ b hs st fun F1 M1 x xv H1 e1 st1 rx ⟨fs, hi, l, q1⟩ => by
    obtain ⟨a, dx, fv, ev, ha, pk⟩ := hi.at st1 rx
    refine ⟨a, dx, fv, ev, ha, (pkv_look pk).2 l, q1 F1 σv H1 _ (b.trans e1) (hs.mono e1) st1 fun F2 M2 ds vs H2 e2 st2 rs q2 => ?_⟩
    exact lift_of (ds := x :: (ds ++ dds)) ((b.trans e1).trans e2) st2 ⟨xv, _, rfl, rx.mono e2, rs.append (hd F2)⟩ hE (fun F3 M3 d v H3 e3 => k F3 M3 d v H3 ((e1.trans e2).trans e3)) q2
theorem w_meth0 {C : Addr} {m : Str} (h : W3e B ta σ M (fun x M1 => ∃ fs, InsD M1 x C fs ∧ fs.lookup m = none ∧ W3a B t σ M1 (fun ds M2 => S (x :: ds) M2 Q NoE))) : W3e B (tMeth C m (lift3 S) [] E ta t) σ M Q :=
  w_meth (dds := []) (fun _ => rfl) impE0 (h.to fun x M1 ⟨fs, a, b, c⟩ => ⟨fs, a, b, fun F σv H Qv bb hs st k => c F σv H Qv bb hs st fun F' M' ds vs H' e s r q => k F' M' ds vs H' e s r (by show S (x :: (ds ++ [])) M' Q NoE; rw [List.append_nil]; exact q)⟩)
theorem w_make {C : Addr} (hd : ∀ F, RDs F dds dvs) (hE : ImpE B E3 E) (h : W3a B t σ M (fun ds M1 => ∀ p, M1 p = none → S (.ref p :: (ds ++ dds)) (mput M1 p (.ins C [])) (fun d M2 => d = .non ∧ Q (.ref p) M2) E3)) : W3e B (tMake C (lift3 S) dvs E t) σ M Q := fun F σv H Qv b hs st k =>
  h F σv H _ b hs st fun F1 M1 ds vs H1 e1 st1 rx q x dx hx hdx hne => by
    have hx2 : (upd H1 dx (.own x)) x = none := by rw [upd_ne (Ne.symm hne)]; exact hx
    have s1 : St3 F1 M1 (upd H1 dx (.own x)) := by
      obtain ⟨f0, m0⟩ := st1.nn hdx
      refine ⟨fun a u e => ?_, fun a u e => ?_⟩
      · rw [upd_ne (ne_of_none e f0)]; exact st1.fz a u e
      · obtain ⟨y1, ho, y2, y3⟩ := st1.own a u e
        exact ⟨y1, ho, by rw [upd_ne (mne e m0)]; exact y2, y3⟩
    have s2 := s1.newO (p := x) (o := .ins C dx []) (d := .ins C []) hx2 ⟨dx, [], rfl, .nil⟩
    exact lift_of (ds := .ref x :: (ds ++ dds)) (b.trans e1) s2 ⟨.ref x, _, rfl, rfl, rx.append (hd F1)⟩ hE (fun F3 M3 d v H3 e3 s3 r3 ⟨ed, q3⟩ => by
      subst ed
      exact ⟨r3, k F3 M3 (.ref x) (.ref x) H3 (e1.trans e3) s3 rfl q3⟩) (q x (st1.nn hx).2)
end
end T3
set_option Elab.async false
set_option linter.all false
set_option maxRecDepth 100000
set_option maxHeartbeats 2000000
namespace T3
open PySem L2
open Evl (Ex)
/-- truth by value -/
def truD (M : Mem) (x : D) (k : Bool) : Prop := match x with
  | .non => k = false
  | .bl b => k = b
  | .int i => k = (i != 0)
  | .str y => y.length ≤ 1000000 ∧ k = ((y.length : Int) != 0)
  | .lst ds => k = !ds.isEmpty
  | .tup ds => k = !ds.isEmpty
  | .ref a => ∃ ds, M a = some (.lst ds) ∧ k = !ds.isEmpty
  | _ => False
theorem RDs.emp {F : Hp} : ∀ {ds : List D} {vs : List V}, RDs F ds vs → (!ds.isEmpty) = !vs.isEmpty
  | [], vs, h => by rw [show vs = [] from h]; rfl
  | _ :: _, _, ⟨v, r, e, _, _⟩ => by rw [e]; rfl
section
variable {B : Hp} {M : Mem} {K : PySem.W.Frag} {σ : Sig} {te ta tb : TE}
abbrev tTR (K : PySem.W.Frag) (ta : TE) : TT := fun σ H Q => ta σ H fun x H' => ∃ k, TruV K x H' k ∧ Q k H'
theorem truD_at {F H : Hp} {x : D} {v : V} {k : Bool} (st : St3 F M H) (r : RD F x v) (h : truD M x k) : TruV K v H k := by
  cases x with
  | non => rw [show v = _ from r]; exact h
  | bl b => rw [show v = _ from r]; exact h
  | int b => rw [show v = _ from r]; exact h
  | str b => rw [show v = _ from r]; exact ⟨Nat.le_trans h.1 (by decide), h.2⟩
  | lst ds => obtain ⟨a, vs, e1, h1, rs⟩ := r; rw [e1]; exact .inl ⟨vs, .inl (.inl (st.fz a _ h1)), by rw [← rs.emp]; exact h⟩
  | tup ds => obtain ⟨a, vs, e1, h1, rs⟩ := r; rw [e1]; exact .inr (.inl ⟨vs, .inl (.inl (st.fz a _ h1)), by rw [← rs.emp]; exact h⟩)
  | ref a =>
    obtain ⟨ds, hm, e⟩ := h
    obtain ⟨_, ho, h1, vs, e2, rs⟩ := st.own a _ hm
    subst e2
    rw [show v = _ from r]
    exact .inl ⟨vs, .inl (.inl h1), by rw [← rs.emp]; exact e⟩
  | ty _ => exact h.elim
  | ins _ _ _ => exact h.elim
theorem w_tr {Q : Bool → Mem → Prop} (h : W3e B ta σ M (fun x M1 => ∃ k, truD M1 x k ∧ Q k M1)) : W3t B (tTR K ta) σ M Q := fun F σv H Qv b hs st k =>
  h F σv H _ b hs st fun F1 M1 x xv H1 e1 st1 rx ⟨c, hc, q⟩ => ⟨c, truD_at st1 rx hc, k F1 M1 c H1 e1 st1 q⟩
theorem w_chain {r r' : R2} {tc : TE} {Q : DQ} (h : W3e B ta σ M (fun x M1 => W3e B tb σ M1 (fun y M2 => R3 B r x y M2 (fun z M3 => ∃ c, z = .bl c ∧ if c = true then W3e B tc σ M3 (fun w M4 => R3 B r' y w M4 Q) else Q (.bl false) M3)))) : W3e B (tChain r r' ta tb tc) σ M Q := fun F σv H Qv b hs st k =>
  h F σv H _ b hs st fun F1 M1 x xv H1 e1 st1 rx q1 => q1 F1 σv H1 _ (b.trans e1) (hs.mono e1) st1 fun F2 M2 y yv H2 e2 st2 ry q2 =>
    q2 F2 H2 xv yv _ ((b.trans e1).trans e2) st2 (rx.mono e2) ry fun F3 M3 z zv H3 e3 st3 rz ⟨c, ez, q3⟩ => by
      subst ez
      refine ⟨c, rz, ?_⟩
      cases c with
      | true =>
        show tc σv H3 fun w' H4 => r' yv w' H4 Qv
        exact q3 F3 σv H3 _ (((b.trans e1).trans e2).trans e3) (((hs.mono e1).mono e2).mono e3) st3 fun F4 M4 w wv H4 e4 st4 rw q4 =>
          q4 F4 H4 yv wv Qv ((((b.trans e1).trans e2).trans e3).trans e4) st4 ((ry.mono e3).mono e4) rw fun F5 M5 d v H5 e5 st5 r5 q5 => k F5 M5 d v H5 ((((e1.trans e2).trans e3).trans e4).trans e5) st5 r5 q5
      | false => exact k F3 M3 (.bl false) _ H3 ((e1.trans e2).trans e3) st3 rfl q3
/-- xs[i] = v, xs owned -/
theorem g_set {x : D} {Q : Sig → Mem → Prop} (h : W3e B ta σ M (fun o M1 => W3e B tb σ M1 (fun i M2 => ∃ a ds n j, o = .ref a ∧ i = .int n ∧ M2 a = some (.lst ds) ∧ ixN ds.length n = some j ∧ Q σ (mput M2 a (.lst (ds.set j x)))))) : G3 B (gSub ta tb rSetL) x σ M Q := fun F σv H xv Qv b hs st rx k =>
  h F σv H _ b hs st fun F1 M1 o ov H1 e1 st1 ro q1 => q1 F1 σv H1 _ (b.trans e1) (hs.mono e1) st1 fun F2 M2 i iv H2 e2 st2 ri ⟨a, ds, n, j, eo, ei, hm, hj, q⟩ => by
    subst eo; subst ei
    obtain ⟨_, ho, h1, vs, e3, rs⟩ := st2.own a _ hm
    subst e3
    exact ⟨a, vs, n, j, ro, ri, h1, by rw [← rs.length]; exact hj, k F2 _ σ σv _ (e1.trans e2) ((hs.mono e1).mono e2) (st2.put hm (d' := .lst (ds.set j x)) ⟨_, rfl, rs.set j ((rx.mono e1).mono e2)⟩) q⟩
theorem okD_int {n : Nat} {i : Int} : okD n (.int i) = true := by cases n <;> rfl
theorem okD_bl {n : Nat} {i : Bool} : okD n (.bl i) = true := by cases n <;> rfl
theorem okD_non {n : Nat} : okD n .non = true := by cases n <;> rfl
theorem okD_str {n : Nat} {s : Str} (h : s.cps.all (· < 0x110000) = true) : okD n (.str s) = true := by cases n <;> exact h
end
section
variable {B : Hp} {M : Mem} {Q : DQ} {σ : Sig} {i j : Int} {K : PySem.W.Frag}
theorem w_cI (q : Q (.int i) M) : W3e B (tC (.int i)) σ M Q := w_c q
theorem w_cB {b : Bool} (q : Q (.bl b) M) : W3e B (tC (.bl b)) σ M Q := w_c q
theorem w_cS {s : Str} (q : Q (.str s) M) : W3e B (tC (.str s)) σ M Q := w_c q
theorem w_cN (q : Q .non M) : W3e B (tC .non) σ M Q := w_c q
theorem w_cT {n : String} (q : Q (.ty n) M) : W3e B (tC (.ty n)) σ M Q := w_c q
theorem w_cR {a : Addr} (q : Q (.ref a) M) : W3e B (tC (.ref a)) σ M Q := w_c q
theorem r3_sub (q : Q (.int (i - j)) M) : R3 B (rI0 fun i j => .int (i - j)) (.int i) (.int j) M Q := r3_I0 q
theorem r3_lt (q : Q (.bl (decide (i < j))) M) : R3 B (rI0 fun i j => .bl (decide (i < j))) (.int i) (.int j) M Q := r3_I0 q
theorem r3_le (q : Q (.bl (decide (i ≤ j))) M) : R3 B (rI0 fun i j => .bl (decide (i ≤ j))) (.int i) (.int j) M Q := r3_I0 q
theorem r3_gt (q : Q (.bl (decide (j < i))) M) : R3 B (rI0 fun i j => .bl (decide (j < i))) (.int i) (.int j) M Q := r3_I0 q
theorem r3_ge (q : Q (.bl (decide (j ≤ i))) M) : R3 B (rI0 fun i j => .bl (decide (j ≤ i))) (.int i) (.int j) M Q := r3_I0 q
theorem r3_mul (h : CMulW i j) (q : Q (.int (i * j)) M) : R3 B (rI CMulW fun i j => .int (i * j)) (.int i) (.int j) M Q := r3_I h q
theorem r3_mod (h : 0 < j) (q : Q (.int (i % j)) M) : R3 B (rI (fun _ j => j ≠ 0) fun i j => .int (i.fmod j)) (.int i) (.int j) M Q := r3_I (d := .int (i.fmod j)) (by omega) (by rw [Int.fmod_eq_emod_of_nonneg _ (by omega)]; exact q)
theorem r3_fdiv (h : 0 < j) (h2 : j.natAbs < 2 ^ 400) (q : Q (.int (i / j)) M) : R3 B (rI CDivW fun i j => .int (i / j)) (.int i) (.int j) M Q := r3_I ⟨h, Nat.lt_of_lt_of_le (PySem.Flt.log2_lt_of (by decide) h2) (by decide)⟩ q
theorem r3_pow (h : CPow i j) (q : Q (.int (i ^ j.toNat)) M) : R3 B (rI CPow fun i j => .int (i ^ j.toNat)) (.int i) (.int j) M Q := r3_I h q
theorem u3_neg (q : Q (.int (-i)) M) : U3 B (rU fun i => .int (-i)) (.int i) M Q := u3_I q
theorem at3 {α : Type} {xs : List α} {z : Int} {j : Nat} {v : α} (e : z = (j : Int)) (h : xs[j]? = some v) : atI xs z = some v := by rw [e]; exact atI_nat h
/-- both factors below 2 ^ 400 -/
theorem mulW {i j : Int} (hi : i.natAbs < 2 ^ 400) (hj : j.natAbs < 2 ^ 400) : CMulW i j := wide_mul hi hj (by decide) (by decide) (by decide)
end
section
variable {B : Hp} {ta tb te : TE} {ts tu : TS} {tA tB' : TT} {σ : Sig} {M : Mem} {Q : DQ} {D3 : Ends3}
theorem w_orP {a b : Bool} (h1 : W3e B ta σ M (fun x M1 => x = .bl a ∧ M1 = M)) (h2 : a = false → W3e B tb σ M (fun x M1 => x = .bl b ∧ M1 = M)) (q : Q (.bl (a || b)) M) : W3e B (tOrV ta tb) σ M Q :=
  w_orV (h1.to fun d M1 ⟨e1, e2⟩ => ⟨a, e1, by
    subst e2
    cases a with
    | true => exact q
    | false => exact (h2 rfl).to fun d M2 ⟨e3, e4⟩ => by subst e3; subst e4; exact q⟩)
theorem w_andP {a b : Bool} (h1 : W3e B ta σ M (fun x M1 => x = .bl a ∧ M1 = M)) (h2 : a = true → W3e B tb σ M (fun x M1 => x = .bl b ∧ M1 = M)) (q : Q (.bl (a && b)) M) : W3e B (tAndV ta tb) σ M Q :=
  w_andV (h1.to fun d M1 ⟨e1, e2⟩ => ⟨a, e1, by
    subst e2
    cases a with
    | false => exact q
    | true => exact (h2 rfl).to fun d M2 ⟨e3, e4⟩ => by subst e3; subst e4; exact q⟩)
theorem w_andTP {a b : Bool} {Q : Bool → Mem → Prop} (h1 : W3t B tA σ M (fun x M1 => x = a ∧ M1 = M)) (h2 : a = true → W3t B tB' σ M (fun x M1 => x = b ∧ M1 = M)) (q : Q (a && b) M) : W3t B (tAnd tA tB') σ M Q :=
  w_andT (h1.to fun d M1 ⟨e1, e2⟩ => by
    subst e1; subst e2
    cases d with
    | false => exact q
    | true => exact (h2 rfl).to fun d M2 ⟨e3, e4⟩ => by subst e3; subst e4; exact q)
theorem w_orTP {a b : Bool} {Q : Bool → Mem → Prop} (h1 : W3t B tA σ M (fun x M1 => x = a ∧ M1 = M)) (h2 : a = false → W3t B tB' σ M (fun x M1 => x = b ∧ M1 = M)) (q : Q (a || b) M) : W3t B (tOr tA tB') σ M Q :=
  w_orT (h1.to fun d M1 ⟨e1, e2⟩ => by
    subst e1; subst e2
    cases d with
    | true => exact q
    | false => exact (h2 rfl).to fun d M2 ⟨e3, e4⟩ => by subst e3; subst e4; exact q)
theorem s_seqM (Mid : Sig → Mem → Prop) (h : W3s B ts { D3 with nx := Mid } σ M) (k : ∀ σ M, Mid σ M → W3s B tu D3 σ M) : W3s B (tSeq ts tu) D3 σ M :=
  s_seq (h.to (fun σ M z => k σ M z) (fun _ _ z => z) (fun _ _ z => z) (fun _ _ z => z))
theorem iteB {c : Bool} {P R : Prop} (h1 : c = true → P) (h2 : c = false → R) : if c = true then P else R := by
  cases c with
  | true => exact h1 rfl
  | false => exact h2 rfl
end
end T3
set_option Elab.async false
set_option linter.all false
set_option maxRecDepth 100000
set_option maxHeartbeats 2000000
namespace L2
open PySem PySem.Spec PyProof.Rows
/-- l.count(x) -/
def rCountD (K : PySem.W.Frag) : V → List V → Hp → VK → Prop := fun x xs H Q => ∃ (a : Addr) (y : V) (d : PyData) (ds : List PyData), x = V.ref a ∧ xs = [y] ∧ Dp K H (V.ref a) (.list ds) ∧ Dp K H y d ∧
  SeqAt.shaped (.list ds) = true ∧ SeqAt.shaped d = true ∧ Q (.int ((ds.countP fun z => PyData.eqv z d : Nat))) H
/-- l.remove(x), x is there -/
def rRemoveD (K : PySem.W.Frag) : V → List V → Hp → VK → Prop := fun x xs H Q => ∃ (a : Addr) (us : List V) (y : V) (d : PyData) (ds : List PyData) (j : Nat) (z : PyData), x = V.ref a ∧ xs = [y] ∧ H a = some (.lst us) ∧ DpAll K H us ds ∧ Dp K H y d ∧
  SeqAt.shaped (.list ds) = true ∧ SeqAt.shaped d = true ∧ ds[j]? = some z ∧ PyData.eqv z d = true ∧ (∀ (m : Nat) (z' : PyData), m < j → ds[m]? = some z' → PyData.eqv z' d = false) ∧ Q .non (upd H a (.lst (us.eraseIdx j)))
section
variable {X : Cx}
theorem mt_countD (hu : X.A.units + 65 < cLine) : MtR X "list.count" (rCountD X.K) := by
  intro pins s σ H x xs v us Q I rx rxs h
  obtain ⟨a, y, d, ds, rfl, rfl, hl, hy, sl, sd, q⟩ := h
  cases rx
  cases rxs with
  | cons ry rt =>
    rename_i uy ut
    cases rt
    obtain ⟨bs, r1⟩ := Dp.reads I d y uy hy ry
    have hxs : PyData.canLayAll0 ds = true := SeqAt.canLay_of_shaped sl
    have hroom : X.A.units + 1 + min (PyData.depthAll ds) d.depth < cLine := room_in_shaped sd hu
    cases hl with
    | lst hs ha =>
      obtain ⟨its, rv, ⟨⟨cls, dd, data, sls⟩, n, ho, hc, hdn, hdt⟩, hlen⟩ := I.list hs
      simp only at hc hdt
      subst hc hdt
      obtain ⟨as, h4⟩ := Dp.readsAll I ds _ its ha rv
      have hmap : its.map (SeqAt.readOf s.heap) = ds := SeqAt.readsAll_map ds its as hxs h4
      refine call_meets PySem.F.slot_list_count ⟨_, ho, rfl⟩ PySem.F.entry_list_count (PySem.F.args_list_count_2 _ _)
        (SeqAt.list_countAt a its.toArray n dd sls uy (fun u => PyData.eqv (SeqAt.readOf s.heap u) d)) ⟨ho, SeqAt.items_eqAt (vs := its.toArray) (show ReadsAll s.heap its.toArray.toList ds as from h4) r1 hxs (SeqAt.canLay_of_shaped sd) hroom, ?_⟩
      have ec : List.countP (fun u => PyData.eqv (SeqAt.readOf s.heap u) d) its.toArray.toList = ds.countP fun z => PyData.eqv z d := by
        rw [← hmap, List.countP_map]; rfl
      rw [ec]
      exact ⟨.int (_ : Nat), H, I.tok _, ⟨_, rfl⟩, q⟩
theorem mt_removeD (hu : X.A.units + 65 < cLine) : MtR X "list.remove" (rRemoveD X.K) := by
  intro pins s σ H x xs v us Q I rx rxs h
  obtain ⟨a, vs, y, d, ds, j, z, rfl, rfl, hH, ha, hy, sl, sd, hz, hzj, hno, q⟩ := h
  cases rx
  cases rxs with
  | cons ry rt =>
    rename_i uy ut
    cases rt
    obtain ⟨bs, r1⟩ := Dp.reads I d y uy hy ry
    have hxs : PyData.canLayAll0 ds = true := SeqAt.canLay_of_shaped sl
    have hroom : X.A.units + 1 + min (PyData.depthAll ds) d.depth < cLine := room_in_shaped sd hu
    obtain ⟨hlen, its, n, rv, ho⟩ := I.hok a _ hH
    obtain ⟨as, h4⟩ := Dp.readsAll I ds _ its ha rv
    have hn : its.length = ds.length := SeqAt.ReadsAll.length ds its as h4
    have hmap : its.map (SeqAt.readOf s.heap) = ds := SeqAt.readsAll_map ds its as hxs h4
    have hvl := rv.length
    obtain ⟨hjd, _⟩ := List.getElem?_eq_some_iff.mp hz
    have hjl : j < its.length := by omega
    have hj : j < its.toArray.size := by simpa using hjl
    have at_ : ∀ (m : Nat) (hm : m < its.toArray.size) (z' : PyData), ds[m]? = some z' → SeqAt.readOf s.heap its.toArray[m] = z' := by
      intro m hm z' hz'
      have hml : m < its.length := by simpa using hm
      rw [← hmap, List.getElem?_map, List.getElem?_eq_getElem hml] at hz'
      have e1 : SeqAt.readOf s.heap its[m] = z' := Option.some.inj (show some (SeqAt.readOf s.heap its[m]) = some z' from hz')
      simpa using e1
    refine call_meets PySem.F.slot_list_remove ⟨_, ho, rfl⟩ PySem.F.entry_list_remove (PySem.F.args_list_remove_2 _ _)
      (SeqAt.list_removeAt a its.toArray n none #[] uy (fun u => PyData.eqv (SeqAt.readOf s.heap u) d) j hj ?_ ?_ (by simp; omega)) ⟨ho, SeqAt.items_eqAt (vs := its.toArray) (show ReadsAll s.heap its.toArray.toList ds as from h4) r1 hxs (SeqAt.canLay_of_shaped sd) hroom, ?_⟩
    · show PyData.eqv (SeqAt.readOf s.heap its.toArray[j]) d = true
      rw [at_ j hj z hz]
      exact hzj
    · intro m hm hmj
      have hmd : m < ds.length := by omega
      have hz' : ds[m]? = some ds[m] := List.getElem?_eq_getElem hmd
      show PyData.eqv (SeqAt.readOf s.heap its.toArray[m]) d = false
      rw [at_ m hm _ hz']
      exact hno m _ hmj hz'
    · refine ⟨.non, _, I.lstUpd (its' := its.eraseIdx j) (n' := n + 1) hH ho ?_ (rv.eraseIdx j) (Nat.le_trans (List.length_eraseIdx_le ..) hlen) _, rfl, q⟩
      simp [Obj.mapSeq, Array.eraseIdxIfInBounds, hjl]
      rw [List.length_eraseIdx_of_lt hjl]; omega
end
end L2
set_option Elab.async false
set_option linter.all false
set_option maxRecDepth 100000
set_option maxHeartbeats 2000000
namespace L2
open PySem PySem.Spec PyProof.Rows
/-! ### isinstance of a tracked exception, its field -/
structure ExcX (K : PySem.W.Frag) (D : Addr) : Prop where
  cl : (PySem.W.clsIn K D).isSome = true
  ga : PySem.W.findIn K (.ref D) "__getattribute__" = some (some (.builtin "BaseException.__getattribute__"))
  gg : PySem.W.findIn K (.ref D) "__getattr__" = some none
  hs : PySem.W.subIn K (.ref D) (.type "BaseException") = some true
  ha : PySem.W.findIn K (.ref D) "__class__" = some (some (.builtin "object.__class__"))
  hn : PySem.W.specialIn K (.builtin "object.__class__") "__get__" = some (some (.builtin "getset_descriptor.__get__"))
  ht : PySem.W.takesIn K (.builtin "object.__class__") = some true
  hm : PySem.W.mroIn K D (.type "object") = some true
  hd : PySem.W.hasDictIn K D = true
  no : PySem.W.findIn K (.ref D) "thing" = some none
/-- the exception at a, of the class D, with the dict at dd -/
def ExAt (H : Hp) (a D dd : Addr) (fs : List (Str × V)) : Prop := H a = some (EXO a (.ref D) (some dd)) ∧ H dd = some (.xd fs)
def rIsX (K : PySem.W.Frag) : List V → Hp → VK → Prop := fun xs H Q => ∃ (a D dd : Addr) (fs : List (Str × V)) (c : V) (cv : Value) (b : Bool), xs = [.ref a, c] ∧ ExAt H a D dd fs ∧ ExcX K D ∧ ClsV c cv ∧ PySem.W.kitOne K (.ref D) cv = some b ∧ Q (.bl b) H
def rISI (K : PySem.W.Frag) : List V → Hp → VK → Prop := fun xs H Q => rIsi K xs H Q ∨ rIsX K xs H Q
section
variable {X : Cx}
theorem exAt_inst {pins : List (Addr × Obj)} {σ : St} {H : Hp} {s : Shared} {a D dd : Addr} {fs : List (Str × V)} (I : Inv X pins σ H s) (e : ExAt H a D dd fs) :
    ∃ oe od, PySem.W.InstAt s.heap a oe D (some od) ∧ (∃ mA, s.heap.Ns1 dd mA ∧ ∀ f, RelO (fs.lookup f) (mA f)) ∧ s.heap.get? dd = some od ∧ oe.dict = some dd := by
  obtain ⟨oe, vs, h1, h2, h3, h4⟩ := exo_of I.hok e.1
  have hx : ObjOk X.prog X.w H s.heap dd (.xd fs) := I.hok dd _ e.2
  obtain ⟨mA, hns, hr⟩ := hx
  obtain ⟨od, ho, hl⟩ := lookIn_ns hns
  exact ⟨oe, od, ⟨h1, h2, by unfold PySem.W.notCls; rw [h4] <;> rfl, by rw [h3]; exact ho⟩, ⟨mA, hns, hr⟩, ho, h3⟩
theorem call_isX : CallR X (.builtin "isinstance") (rIsX X.K) := by
  intro pins s σ H xs us Q I r h
  obtain ⟨a, D, dd, fs, c, cv, b, rfl, hx, C, hc, e, q⟩ := h
  obtain ⟨u1, u2, rfl, r1, r2⟩ := vals2 r
  cases (show u1 = Value.ref a from r1)
  have e2 := hc.eq r2
  subst e2
  obtain ⟨oe, od, J, _⟩ := exAt_inst I hx
  exact PySem.W.kia_one (PySem.W.kitx_exc C.cl C.ga C.gg C.hs C.ha C.hn C.ht C.hm) I.kIn J e (fun z => nomatch z) fun tk => ⟨.bl b, H, I.kept (t' := tk) fun _ _ z => z, rfl, q⟩
theorem call_ISI : CallR X (.builtin "isinstance") (rISI X.K) := by
  intro pins s σ H xs us Q I r h
  rcases h with h | h
  · exact call_isi pins s σ H xs us Q I r h
  · exact call_isX pins s σ H xs us Q I r h
def tThing (K : PySem.W.Frag) (te : TE) : TE := fun σ H Q => te σ H fun x H1 => ∃ (a D dd : Addr) (v : V), x = .ref a ∧ ExAt H1 a D dd [(("thing" : Str), v)] ∧ ExcX K D ∧ Q v H1
theorem pe_thing {e : Expr} {te : TE} {pos : Pos} (he : PE X e te) (hb : attributeBase e "thing" X.env (eval e X.env) = eval e X.env := by rfl) : PE X (.Attribute e "thing" pos) (tThing X.K te) := by
  refine ⟨fun pins s σ H Q I h => ?_⟩
  refine attr_of hb (thn (he.run pins s σ H _ I h) fun u s1 hh => ?_)
  obtain ⟨x, H1, I1, rx, a, D, dd, v, ex, ea, T, q⟩ := hh
  subst ex
  obtain rfl : u = Value.ref a := rx
  obtain ⟨oe, od, J, ⟨mA, hns, hr⟩, ho, hdd⟩ := exAt_inst I1 ea
  obtain ⟨od', ho', hl⟩ := lookIn_ns hns
  rw [ho] at ho'; cases ho'
  have l : List.lookup ("thing" : Str) [(("thing" : Str), v)] = some v := by simp [List.lookup]
  obtain ⟨u, hu, ru⟩ := RelO.some_of (v := v) (o := mA "thing") (by rw [← l]; exact hr "thing")
  exact HandSPX.exc_get I1.kIn J T.ga T.gg T.hs (PySem.W.findObj_own T.hd T.no rfl (by rw [hl, hu])) (handed_of ru) ⟨v, H1, I1.tok _, ru, q⟩
end
end L2
namespace T3
open PySem L2
open Evl (Ex)
/-! ### exceptions at the pure level -/
abbrev EW3 := Addr → D → Sig → Mem → Prop
def ImpW (F : Hp) (EW : EW3) (W : WX) : Prop := ∀ F' M' σ' σv' C d thing v H', Ex F F' → SRel F' σ' σv' → St3 F' M' H' → RD F' thing v → F' d = some (.xd [(("thing" : Str), v)]) → EW C thing σ' M' → W (.ref C) (some d) σv' H'
theorem ImpW.mono {F F1 : Hp} {EW : EW3} {W : WX} (h : ImpW F EW W) (e : Ex F F1) : ImpW F1 EW W := fun F' M' σ' σv' C d t v H' a => h F' M' σ' σv' C d t v H' (e.trans a)
theorem impW_of {F : Hp} {E3 : EQ3} {E : XK} (h : ImpE F E3 E) : ImpW F (fun C th _ M => E3 C th M) (fun cls d _ H => E cls d H) := fun F' M' σ' σv' C d t v H' e _ s r x q => h F' M' C d t v H' e s r x q
theorem impW0 {F : Hp} : ImpW F (fun _ _ _ _ => False) (fun _ _ _ _ => False) := fun _ _ _ _ _ _ _ _ _ _ _ _ _ _ q => q
def end3 (i : Option Nat) (σ : Sig) : Sig := match i with | some i => σ.set i none | none => σ
def set3 (i : Option Nat) (a : Addr) (σ : Sig) : Sig := match i with | some i => σ.set i (some (.ref a)) | none => σ
def exW (B : Hp) (K : PySem.W.Frag) (EWo : EW3) (D3 : Ends3) : List (Value × Option Nat × TS) → EW3
  | [] => EWo
  | (c, i, ts) :: r => fun C th σ M => ∃ b, PySem.W.exmOne K (.ref C) c = some b ∧ (b = true → ∀ a, M a = none → W3s B ts { nx := fun σ' M' => D3.nx (end3 i σ') M', rt := D3.rt, bk := fun σ' M' => D3.bk (end3 i σ') M', ct := fun σ' M' => D3.ct (end3 i σ') M' } (set3 i a σ) (mput M a (.exc a C th))) ∧
      (b = false → exW B K EWo D3 r C th σ M)
theorem SRel.end3 {F : Hp} {σ : Sig} {σv : St} (h : SRel F σ σv) (i : Option Nat) : SRel F (T3.end3 i σ) (endI i σv) := by
  cases i with
  | none => exact h
  | some i => exact h.setN
theorem SRel.set3 {F : Hp} {σ : Sig} {σv : St} (h : SRel F σ σv) (i : Option Nat) (a : Addr) : SRel F (T3.set3 i a σ) (setI i a σv) := by
  cases i with
  | none => exact h
  | some i => exact h.set rfl
theorem exW_imp {B : Hp} {K : PySem.W.Frag} {EWo : EW3} {D3 : Ends3} {Wo : WX} {Dv : Ends} {F : Hp} (b : Ex B F) (im : Imp F D3 Dv) (ho : ImpW F EWo Wo) : ∀ l : List (Value × Option Nat × TS), ImpW F (exW B K EWo D3 l) (wManyA K Wo Dv l)
  | [] => ho
  | (c, i, ts) :: r => fun F' M' σ' σv' C d t v H' e s st rt x ⟨k, hk, hy, hn⟩ => by
    refine ⟨k, hk, fun ek a na => ?_, fun ek => exW_imp b im ho r F' M' σ' σv' C d t v H' e s st rt x (hn ek)⟩
    obtain ⟨f0, m0⟩ := st.nn na
    have st2 : St3 F' (mput M' a (.exc a C t)) (upd H' a (EXO a (.ref C) (some d))) := st.newO na ⟨d, v, rfl, x, rt⟩
    have im' := im.mono e
    refine hy ek a m0 F' (setI i a σv') _ _ (b.trans e) (s.set3 i a) st2 ⟨fun F2 M2 σ2 σv2 H2 e2 s2 t2 q => ?_, ?_, fun F2 M2 σ2 σv2 H2 e2 s2 t2 q => ?_, fun F2 M2 σ2 σv2 H2 e2 s2 t2 q => ?_⟩
    · exact im'.nx F2 M2 _ _ H2 e2 (s2.end3 i) t2 q
    · exact im'.rt
    · exact im'.bk F2 M2 _ _ H2 e2 (s2.end3 i) t2 q
    · exact im'.ct F2 M2 _ _ H2 e2 (s2.end3 i) t2 q
section
variable {B : Hp} {M : Mem} {K : PySem.W.Frag} {σ : Sig} {D3 : Ends3} {te : TE} {t ta : TA} {Q : DQ} {S : Sp3}
theorem s_try {tb : WX → TS} {l : List (Value × Option Nat × TS)} {Wo : WX} {EWo : EW3} (ho : ImpW B EWo Wo) (h : ∀ B' W, Ex B B' → ImpW B' (exW B K EWo D3 l) W → W3s B' (tb W) D3 σ M) : W3s B (fun D σ H => tb (wManyA K Wo D l) D σ H) D3 σ M := fun F σv H Dv b hs st im =>
  h F (wManyA K Wo Dv l) b (exW_imp b im (ho.mono b) l) F σv H Dv (Ex.refl _) hs st im
theorem w_callS {W : WX} {EW : EW3} (hW : ImpW B EW W) (h : W3a B t σ M (fun ds M1 => S ds M1 Q (fun C th M' => EW C th σ M'))) : W3e B (tCallS (lift3 S) (WE W) t) σ M Q := fun F σv H Qv b hs st k =>
  h F σv H _ b hs st fun F1 M1 ds vs H1 e1 st1 rx q => ⟨ds, F1, M1, Q, _, rx, st1, fun F2 M2 d v H2 e2 => k F2 M2 d v H2 (e1.trans e2), fun F' M' C d thing v H' e s r x q' => hW F' M' σ σv C d thing v H' ((b.trans e1).trans e) ((hs.mono e1).mono e) s r x q', q⟩
theorem s_raise {C : Addr} {W : WX} {EW : EW3} (hW : ImpW B EW W) (h : W3a B ta σ M (fun ds M1 => ∃ x y, ds = [x, y] ∧ EW C x σ M1)) : W3s B (tRaiseDye C W ta) D3 σ M := fun F σv H Dv b hs st im =>
  h F σv H _ b hs st fun F1 M1 ds vs H1 e1 st1 rx ⟨x, y, ed, q⟩ => by
    subst ed
    obtain ⟨v, u, ev, rv, ru⟩ := rx.two
    refine ⟨v, u, ev, fun d hd => ?_⟩
    obtain ⟨s2, e2⟩ := st1.new (o := .xd [(("thing" : Str), v)]) hd
    exact hW _ M1 σ σv C d x v _ ((b.trans e1).trans e2) ((hs.mono e1).mono e2) s2 (rv.mono e2) upd_same q
theorem w_thing (h : W3e B te σ M (fun x M1 => ∃ a C th, x = .ref a ∧ M1 a = some (.exc a C th) ∧ ExcX K C ∧ Q th M1)) : W3e B (tThing K te) σ M Q := fun F σv H Qv b hs st k =>
  h F σv H _ b hs st fun F1 M1 x xv H1 e1 st1 rx ⟨a, C, th, ex, hm, hc, q⟩ => by
    subst ex
    obtain ⟨_, ho, h1, dd, v, e2, hx, rv⟩ := st1.own a _ hm
    subst e2
    exact ⟨a, C, dd, v, rx, ⟨h1, st1.fz dd _ hx⟩, hc, k F1 M1 th v H1 e1 st1 rv q⟩
theorem c3_ISI {x : D} {n : String} {c : Bool} (h : (tyD x == "") = false) (hk : PySem.W.kitOne K (.type (tyD x)) (.type n) = some c) (q : Q (.bl c) M) : C3 B (rISI K) [x, .ty n] M Q := fun F H xv Qv b st rx k => .inl (c3_isi h hk q F H xv Qv b st rx k)
theorem c3_isX {a C C2 : Addr} {th : D} {c : Bool} (hm : M a = some (.exc a C th)) (hC : ExcX K C) (hk : PySem.W.kitOne K (.ref C) (.ref C2) = some c) (q : Q (.bl c) M) : C3 B (rISI K) [.ref a, .ref C2] M Q := fun F H xv Qv b st rx k => by
  obtain ⟨v, u, e, r1, r2⟩ := rx.two
  obtain ⟨_, ho, h1, dd, tv, e2, hx, rv⟩ := st.own a _ hm
  subst e2
  exact .inr ⟨a, C, dd, _, u, .ref C2, c, by rw [e, show v = V.ref a from r1], ⟨h1, st.fz dd _ hx⟩, hC, by rw [show u = V.ref C2 from r2]; exact .own C2, hk, k F M (.bl c) _ H (Ex.refl _) st rfl q⟩
theorem c3_isXt {a C : Addr} {n : String} {th : D} {c : Bool} (hm : M a = some (.exc a C th)) (hC : ExcX K C) (hk : PySem.W.kitOne K (.ref C) (.type n) = some c) (q : Q (.bl c) M) : C3 B (rISI K) [.ref a, .ty n] M Q := fun F H xv Qv b st rx k => by
  obtain ⟨v, u, e, r1, r2⟩ := rx.two
  obtain ⟨_, ho, h1, dd, tv, e2, hx, rv⟩ := st.own a _ hm
  subst e2
  exact .inr ⟨a, C, dd, _, u, .type n, c, by rw [e, show v = V.ref a from r1], ⟨h1, st.fz dd _ hx⟩, hC, by rw [show u = V.ty n from r2]; exact .ty n, hk, k F M (.bl c) _ H (Ex.refl _) st rfl q⟩
/-! ### index, count, remove by value -/
def rMD (K : PySem.W.Frag) : V → List V → Hp → VK → Prop := rIndexD K
theorem getM {α β : Type} {f : α → β} {l : List α} {i : Nat} {b : β} (h : (l.map f)[i]? = some b) : ∃ a, l[i]? = some a ∧ f a = b := by
  rw [List.getElem?_map] at h
  exact Option.map_eq_some_iff.mp h
theorem m3_index {n m : Nat} {x y z : D} {ds : List D} {j : Nat} (l : LstD M x ds) (hx : okDs n ds = true) (hy : okD m y = true) (hz : ds[j]? = some z) (he : peq z y = true) (hno : ∀ (i : Nat) z', i < j → ds[i]? = some z' → peq z' y = false) (q : Q (.int j) M) (hn : n < 64 := by decide) (hm : m ≤ 64 := by decide) : M3 B (rIndexD K) x [y] M Q := fun F H xv xvs Qv b st rx rxs k => by
  obtain ⟨v, e, ry⟩ := rxs.sing
  have hd := l.dp (K := K) hx st rx
  obtain ⟨a, vs, ev, _, _⟩ := l.at st rx
  subst ev
  refine ⟨a, v, py y, pys ds, j, py z, rfl, e, hd, okD_dp st.fz hy ry, okDs_shaped hx hn, okD_shaped hy hm, ?_, he, fun i z' hi hz' => ?_, k F M (.int j) _ H (Ex.refl _) st rfl q⟩
  · rw [pys_map, List.getElem?_map, hz]; rfl
  · rw [pys_map] at hz'
    obtain ⟨z2, h1, h2⟩ := getM hz'
    rw [← h2]; exact hno i z2 hi h1
theorem m3_count {n m : Nat} {x y : D} {ds : List D} (l : LstD M x ds) (hx : okDs n ds = true) (hy : okD m y = true) (q : Q (.int (ds.countP fun z => peq z y : Nat)) M) (hn : n < 64 := by decide) (hm : m ≤ 64 := by decide) : M3 B (rCountD K) x [y] M Q := fun F H xv xvs Qv b st rx rxs k => by
  obtain ⟨v, e, ry⟩ := rxs.sing
  have hd := l.dp (K := K) hx st rx
  obtain ⟨a, vs, ev, _, _⟩ := l.at st rx
  subst ev
  refine ⟨a, v, py y, pys ds, rfl, e, hd, okD_dp st.fz hy ry, okDs_shaped hx hn, okD_shaped hy hm, ?_⟩
  have ec : ((pys ds).countP fun z => PyData.eqv z (py y)) = ds.countP fun z => peq z y := by rw [pys_map, List.countP_map]; rfl
  rw [ec]
  exact k F M (.int _) _ H (Ex.refl _) st rfl q
theorem m3_remove {n m : Nat} {y z : D} {a : Addr} {ds : List D} {j : Nat} (hM : M a = some (.lst ds)) (hx : okDs n ds = true) (hy : okD m y = true) (hz : ds[j]? = some z) (he : peq z y = true) (hno : ∀ (i : Nat) z', i < j → ds[i]? = some z' → peq z' y = false) (q : Q .non (mput M a (.lst (ds.eraseIdx j)))) (hn : n < 64 := by decide) (hm : m ≤ 64 := by decide) : M3 B (rRemoveD K) (.ref a) [y] M Q := fun F H xv xvs Qv b st rx rxs k => by
  obtain ⟨v, e, ry⟩ := rxs.sing
  obtain ⟨_, ho, h1, vs, e2, rs⟩ := st.own a _ hM
  subst e2
  refine ⟨a, vs, v, py y, pys ds, j, py z, rx, e, h1, okDs_dp st.fz hx rs, okD_dp st.fz hy ry, okDs_shaped hx hn, okD_shaped hy hm, ?_, he, fun i z' hi hz' => ?_, k F _ .non _ _ (Ex.refl _) (st.put hM (d' := .lst (ds.eraseIdx j)) ⟨_, rfl, rs.eraseIdx j⟩) rfl q⟩
  · rw [pys_map, List.getElem?_map, hz]; rfl
  · rw [pys_map] at hz'
    obtain ⟨z2, h1, h2⟩ := getM hz'
    rw [← h2]; exact hno i z2 hi h1
end
end T3
set_option Elab.async false
set_option linter.all false
namespace T3
open PySem L2
open Evl (Ex)
section
variable {B : Hp} {M : Mem} {K : PySem.W.Frag} {σ : Sig} {te : TE} {t : TA} {Q : DQ} {P : Program} {w : World}
theorem RDs.rev {F : Hp} : ∀ {ds : List D} {vs : List V}, RDs F ds vs → RDs F ds.reverse vs.reverse
  | [], _, h => by rw [show _ = [] from h]; rfl
  | d :: ds, _, ⟨v, vs, e, r, rs⟩ => by subst e; rw [List.reverse_cons, List.reverse_cons]; exact (RDs.rev rs).snoc r
theorem w_rev (h : W3e B te σ M (fun x M1 => ∃ ds, LstD M1 x ds ∧ Q (.lst ds.reverse) M1)) : W3e B (tRevL K te) σ M Q := fun F σv H Qv b hs st k =>
  h F σv H _ b hs st fun F1 M1 x xv H1 e1 st1 rx ⟨ds, l, q⟩ => by
    obtain ⟨a, vs, e, h1, rs⟩ := l.seq (K := K) st1 rx
    refine ⟨a, vs, e, h1, fun p hp => ?_⟩
    obtain ⟨s2, e2⟩ := st1.new (o := .lst vs.reverse) hp
    exact k _ M1 (.lst ds.reverse) _ _ (e1.trans e2) s2 ⟨p, _, rfl, upd_same, rs.rev.mono e2⟩ q
theorem c3_set0 (q : ∀ p, M p = none → Q (.ref p) (mput M p (.raw (SetK P w p (fun _ => false) 0)))) : C3 B (rSet0K P w) [] M Q := fun F H xv Qv b st rx k => by
  refine ⟨rx, fun p hp => ?_⟩
  exact k F _ (.ref p) _ _ (Ex.refl _) (st.newO (d := .raw _) hp ⟨rfl, fun xs h => by unfold SetK at h; cases h⟩) rfl (q p (st.nn hp).2)
theorem w_sadd (h : W3e B te σ M (fun x M1 => ∃ a S n, x = .ref a ∧ M1 a = some (.raw (SetK P w a S n)) ∧ W3a B t σ M1 (fun ds M2 => ∃ d k S n, ds = [d] ∧ (∀ F v, RD F d v → v = kV k) ∧ M2 a = some (.raw (SetK P w a S n)) ∧ n + 1 < scanBound ∧
      Q .non (mput M2 a (.raw (SetK P w a (fun j => S j || decide (j = k)) (if S k = true then n else n + 1))))))) : W3e B (tSAddK P w te t) σ M Q := fun F σv H Qv b hs st kk =>
  h F σv H _ b hs st fun F1 M1 x xv H1 e1 st1 rx ⟨a, S, n, ex, hm, q⟩ => by
    subst ex
    obtain ⟨_, ho, h1, e⟩ := st1.own a _ hm
    rw [e.1] at h1
    refine ⟨⟨a, S, n, rx, h1⟩, q F1 σv H1 _ (b.trans e1) (hs.mono e1) st1 fun F2 M2 ds vs H2 e2 st2 rxs ⟨d, k, S', n', ed, hk, hm2, hn, q2⟩ => ?_⟩
    subst ed
    obtain ⟨v, ev, rv⟩ := rxs.sing
    obtain ⟨_, ho', h2, e'⟩ := st2.own a _ hm2
    rw [e'.1] at h2
    exact ⟨a, k, S', n', rx, by rw [ev, hk F2 v rv], h2, hn, kk F2 _ .non _ _ (e1.trans e2) (st2.put hm2 (d' := .raw _) ⟨rfl, fun xs h => by unfold SetK at h; cases h⟩) rfl q2⟩
def rJOIN (K : PySem.W.Frag) : V → List V → Hp → VK → Prop := fun x xs H Q => ∃ a p, ∃ ys : List Str, x = .str a ∧ xs = [.ref p] ∧ (SqL K H p (ys.map V.str) ∨ SqT K H p (ys.map V.str)) ∧
    (ys.map (·.length)).sum + ys.length * a.length ≤ 16777216 ∧ Q (.str (Txt.join a ys)) H
theorem mt_JOIN {X : Cx} : MtR X "str.join" (rJOIN X.K) := mt_join
theorem m3_join {y : D} {ys : List Str} {s : Str} (l : LstD M y (ys.map D.str)) (hb : (ys.map (·.length)).sum + ys.length * s.length ≤ 16777216) (q : Q (.str (Txt.join s ys)) M) : M3 B (rJOIN K) (.str s) [y] M Q := fun F H xv xvs Qv b st rx rxs k => by
  obtain ⟨v, e, r⟩ := rxs.sing
  obtain ⟨a, vs, e1, h1, rs⟩ := l.seq (K := K) st r
  rw [rs.strs] at h1
  exact ⟨s, a, ys, rx, by rw [e, e1], .inl h1, hb, k F M (.str _) _ H (Ex.refl _) st rfl q⟩
end
end T3
namespace T3
open PySem L2
theorem sl_SLK {X : Cx} (K : PySem.W.Frag) (h : X.K = K) : SlR X (rSL K) := by subst h; exact sl_SL
theorem op_INK {X : Cx} (K : PySem.W.Frag) (P : Program) (w : World) (h1 : X.K = K) (h2 : X.prog = P) (h3 : X.w = w) (hu : X.A.units + 65 < cLine) : OpR X (compareOp .In) (rIN K P w false) := by subst h1; subst h2; subst h3; exact op_IN hu
theorem vs_drop {d : D} {M : Mem} (p : Addr) : VS d M d (mdel M p) := fun F H v s r => ⟨F, Evl.Ex.refl _, s.drop p, r⟩
theorem s_nvs {B : Hp} {ts : TS} {D3 : Ends3} {σ : Sig} {M : Mem} (h : W3s B ts { D3 with nx := fun σ M => ∃ σ' M', VSs σ M σ' M' ∧ D3.nx σ' M' } σ M) : W3s B ts D3 σ M := fun F σv H Dv b hs st im =>
  h F σv H Dv b hs st ⟨fun F' M' σ' σv' H' e s t ⟨σ2, M2, vs, q⟩ => by
    obtain ⟨F2, e2, t2, s2⟩ := vs F' H' σv' t s
    exact im.nx F2 M2 σ2 σv' H' (e.trans e2) s2 t2 q, im.rt, im.bk, im.ct⟩
theorem ix_seqK {X : Cx} (K : PySem.W.Frag) (h : X.K = K) : IxR X (rIx K) := by subst h; exact ix_seq
theorem pt_truthK {X : Cx} {a : Expr} {ta : TE} (K : PySem.W.Frag) (h : X.K = K) (ha : PE X a ta) (he : ∀ whole, isTrue a X.env whole = (do let v ← whole; standAt a.pos; holding [v] (truthy v))) : PT X a (tTR K ta) := by subst h; exact pt_truth ha he
theorem call_lenK {X : Cx} (K : PySem.W.Frag) (h : X.K = K) : CallR X (.builtin "len") (rLEN K) := by subst h; exact call_len
theorem call_lstK {X : Cx} (K : PySem.W.Frag) (h : X.K = K) : CallR X (.type "list") (rLST K) := by subst h; exact call_list_of
theorem call_ISIK {X : Cx} (K : PySem.W.Frag) (h : X.K = K) : CallR X (.builtin "isinstance") (rISI K) := by subst h; exact call_ISI
theorem pe_thingK {X : Cx} {e : Expr} {te : TE} {pos : Pos} (K : PySem.W.Frag) (h : X.K = K) (he : PE X e te) (hb : attributeBase e "thing" X.env (eval e X.env) = eval e X.env := by rfl) : PE X (.Attribute e "thing" pos) (tThing K te) := by subst h; exact pe_thing he hb
theorem roomW_le {j k : Nat} {A A' : Around} (r : Room k A) (h : j ≤ k) (e1 : A'.depth = A.depth) (e2 : A'.units = A.units) : RoomW j A' := ⟨by have := r.dp; omega, by have := r.un; omega⟩
/-- promises that look at the frozen heap -/
def lift3B (S : Hp → Sp3) : Sp := fun vs H Q E => ∃ (ds : List D) (F : Hp) (M : Mem) (Q3 : DQ) (E3 : EQ3), RDs F ds vs ∧ St3 F M H ∧ (∀ F' M' d v H', Evl.Ex F F' → St3 F' M' H' → RD F' d v → Q3 d M' → Q v H') ∧ ImpE F E3 E ∧ S F ds M Q3 E3
theorem run3B {S : Hp → Sp3} {N : List Str} {vs : List V} {H : Hp} {Q : VK} {E : XK} {t : TS} (h : lift3B S vs H Q E)
    (k : ∀ B ds M Q3 E3, S B ds M Q3 E3 → ImpE B E3 E → W3s B t { nx := fun _ M => Q3 .non M, rt := Q3 } (start3 N ds) M) : t { nx := fun _ H' => Q .non H', rt := Q } (L2.start N vs) H := by
  obtain ⟨ds, F, M, Q3, E3, r, st, hq, he, hs⟩ := h
  exact k F ds M Q3 E3 hs he F _ H _ (Evl.Ex.refl _) (SRel.start r) st ⟨fun F' M' σ' σv' H' e s t q => hq F' M' .non .non H' e t rfl q, hq, fun _ _ _ _ _ _ _ _ q => q.elim, fun _ _ _ _ _ _ _ _ q => q.elim⟩
theorem lift3B_len {S : Hp → Sp3} {n : Nat} (h : ∀ F ds M Q E, S F ds M Q E → ds.length = n) : ∀ vs H Q E, lift3B S vs H Q E → vs.length = n := fun vs H Q E ⟨ds, F, M, Q3, E3, r, _, _, _, hs⟩ => by rw [← r.length]; exact h F ds M Q3 E3 hs
theorem w_callB0 {B : Hp} {M : Mem} {σ : Sig} {t : TA} {Q : DQ} {S : Hp → Sp3} {E : XK} (mono : ∀ F F' ds M Q E, Evl.Ex F F' → S F ds M Q E → S F' ds M Q E) (h : W3a B t σ M (fun ds M1 => S B ds M1 Q NoE)) : W3e B (tCall (lift3B S) [] E t) σ M Q := fun F σv H Qv b hs st k =>
  h F σv H _ b hs st fun F1 M1 ds vs H1 e1 st1 rx q => ⟨ds, F1, M1, Q, NoE, by rw [List.append_nil]; exact rx, st1, fun F2 M2 d v H2 e2 => k F2 M2 d v H2 (e1.trans e2), impE0, mono B F1 ds M1 Q NoE (b.trans e1) q⟩
theorem s3_q {B : Hp} {M : Mem} {K : PySem.W.Frag} {Q : DQ} {a : Addr} {ns : List Int} {lo hi : Option Int} (h : SqL K B a (ns.map V.int)) (q : Q (.lst (cutD (ns.map D.int) lo hi)) M) : S3 B (rSL K) (.ref a) lo hi M Q := fun F H xv Qv b st rx k => by
  refine .inl ⟨a, ns.map V.int, rx, Evl.ex_l (b.trans st.fz) h, fun p hp => ?_⟩
  obtain ⟨s2, e2⟩ := st.new (o := .lst (cutV (ns.map V.int) lo hi)) hp
  have r : ∀ l : List Int, RDs F (l.map D.int) (l.map V.int) := fun l => by
    induction l with
    | nil => rfl
    | cons i l ih => exact ⟨_, _, rfl, rfl, ih⟩
  exact k _ _ (.lst (cutD (ns.map D.int) lo hi)) _ _ e2 s2 ⟨p, _, rfl, upd_same, ((r ns).cut lo hi).mono e2⟩ q
theorem op_eqDK {X : Cx} (K : PySem.W.Frag) (h : X.K = K) (hu : X.A.units + 64 < cLine) : OpR X (compareOp .Eq) (rEqD K) := by subst h; exact op_eqD hu
theorem op_neDK {X : Cx} (K : PySem.W.Frag) (h : X.K = K) (hu : X.A.units + 64 < cLine) : OpR X (compareOp .NotEq) (rNeD K) := by subst h; exact op_neD hu
theorem op_NINK {X : Cx} (K : PySem.W.Frag) (P : Program) (w : World) (h1 : X.K = K) (h2 : X.prog = P) (h3 : X.w = w) (hu : X.A.units + 65 < cLine) : OpR X (compareOp .NotIn) (rIN K P w true) := by subst h1; subst h2; subst h3; exact op_NIN hu
end T3
set_option Elab.async false
set_option linter.all false
set_option maxRecDepth 100000
set_option maxHeartbeats 2000000
namespace L2
open PySem PySem.Spec PyProof.Rows
/-! ### a store to a property of an own class -/
structure PropSet (K : PySem.W.Frag) (C : Addr) (f : Str) (p g : Addr) : Prop where
  tk : PySem.W.takerIn K C f = some (some (.ref p))
  tT : PySem.W.typeIn K (.ref p) = some (.type "property")
  rec_ : ∃ a rest, PySem.W.recIn K p "property" = some (a :: .ref g :: rest)
def tPropSet (C : Addr) (sp : Sp) (E : St → XK) (ta tv : TE) : TS := fun D σ H => tv σ H fun y H1 => ta σ H1 fun x H2 => ∃ a dx fs, x = .ref a ∧ H2 a = some (.ins C dx fs) ∧ sp [.ref a, y] H2 (fun _ H3 => D.nx σ H3) (E σ)
section
variable {X : Cx} {CX : CXT} {k : Nat} {C p g a dx : Addr} {fs : List (Str × V)} {f : Str} {fd : FuncData} {ps : List Str} {sp : Sp} {E : St → XK} {o value : Expr} {pos pos' : Pos} {ta tv : TE}
theorem setprop_ok {pins : List (Addr × Obj)} {σ : St} {H : Hp} {s : Shared} {Q : VK} (I : Inv X pins σ H s) (ea : H a = some (.ins C dx fs)) (c : Cls X.K C) (hp : PropSet X.K C f p g)
    (F : FnOk X.prog X.w X.K X.mg X.base CX k g fd ps sp) (hr : Room (k + 2) X.A) (hb : Binds X.K fd ps []) (hx : PassesAt CX X σ (E σ)) {y : V} {u : Value} (ry : RelV y u) (h : sp [.ref a, y] H Q (E σ)) :
    wpAny (model X.prog X.w) X.A (setAttr (.ref a) f u) (fun _ s' => ∃ v H', Inv X pins σ H' s' ∧ Q v H') X.xe s := by
  obtain ⟨mA, O, _, _, _, _⟩ := ins_get I.hok ea
  obtain ⟨od, J, _⟩ := O.look
  obtain ⟨a0, rest, hrec⟩ := hp.rec_
  have I1 := (I.tok (s.toks + 1)).tok (s.toks + 1 + 1)
  have I2 := I.tok (s.toks + 1)
  have hl : [Value.ref a, u].length = ps.length := by rw [← F.len _ _ _ _ h]; rfl
  have b := hb { s with toks := s.toks + 1 } [.ref a, u] I.kIn (by rw [List.append_nil]; exact hl)
  rw [List.append_nil] at b
  refine PySem.W.set_plain I.kIn J c.sa (PySem.W.osa_descr (s := { s with toks := s.toks + 1 }) PySem.W.KF.slot_pset I.kIn J c.po hp.tk hp.tT (PySem.W.prop_set (s := { s with toks := s.toks + 1 }) I.kIn hrec
    (codeAny_mono (F.run X.A.in1.in1 X.stack { s with toks := s.toks + 1 } H ⟨[.ref a, u], []⟩ [.ref a, u] [.ref a, y] Q (E σ) hr.in1.in1 I2.env0.in1.in1 b (.cons rfl (.cons ry .nil)) h) fun r s' hq => ?_)))
  cases r with
  | error er => exact hx pins H { s with toks := s.toks + 1 } er s' I2 hq
  | ok fl =>
    cases fl with
    | ret u =>
      obtain ⟨v, H', I3, rv, q3⟩ := I2.after hq
      exact ⟨v, H', I3, q3⟩
    | next => exact False.elim hq
    | brk => exact False.elim hq
    | cont => exact False.elim hq
/-- o.f = value, f a property -/
theorem ps_propset (ha : PE X o ta) (hv : PE X value tv) (c : Cls X.K C) (hp : PropSet X.K C f p g) (F : FnOk X.prog X.w X.K X.mg X.base CX k g fd ps sp) (hr : Room (k + 2) X.A) (hb : Binds X.K fd ps []) (hx : ∀ σ, PassesAt CX X σ (E σ))
    (hs : swapsWith value (some (.Attribute o f pos')) pos.line X.env = pure false) : PS X (.Assign [.Attribute o f pos'] value pos) (tPropSet C sp E ta tv) := by
  refine ⟨fun pins s σ H D I h => ?_⟩
  refine plainObj_wpAny_Assign_Attribute (thn (hv.run pins s σ H _ I h) fun u s1 ⟨y, H1, I1, ry, q⟩ => thn (ha.run pins s1 σ H1 _ I1 q) fun ov s2 ⟨x, H2, I2, rx, a, dx, fs, ex, ea, q2⟩ => ?_) hs
  subst ex
  obtain rfl : ov = Value.ref a := rx
  exact thn (setprop_ok I2 ea c hp F hr hb (hx σ) ry q2) fun _ s3 ⟨v, H3, I3, q3⟩ => ⟨σ, H3, I3, q3⟩
end
end L2
set_option Elab.async false
set_option linter.all false
set_option maxRecDepth 100000
namespace T3
open PySem L2
open Evl (Ex)
/-! ### dicts -/
section
variable {κ : Type} [DecidableEq κ]
def valD (kvs : List (κ × D)) (k : κ) : Option D := (kvs.find? fun kv => decide (kv.1 = k)).map (·.2)
def putKD (kvs : List (κ × D)) (k : κ) (v : D) : List (κ × D) :=
  if (kvs.any fun kv => decide (kv.1 = k)) = true then kvs.map (fun kv => if kv.1 = k then (kv.1, v) else kv) else kvs ++ [(k, v)]
def OptR (F : Hp) : Option D → Option V → Prop
  | some d, some v => RD F d v
  | none, none => True
  | _, _ => False
theorem pkv_val {F : Hp} {k : κ} : ∀ {l : List (κ × D)} {m : List (κ × V)}, PKV F l m → OptR F (valD l k) (valV m k)
  | _, _, .nil => trivial
  | (a, d) :: l, (b, v) :: m, .cons h t => by
    have e : a = b := h.1
    subst e
    unfold valD valV
    rw [List.find?_cons, List.find?_cons]
    by_cases q : a = k
    · simp only [q, decide_true]; exact h.2
    · simp only [q, decide_false]; exact pkv_val t
theorem pkv_any {F : Hp} {k : κ} : ∀ {l : List (κ × D)} {m : List (κ × V)}, PKV F l m → (l.any fun kv => decide (kv.1 = k)) = (m.any fun kv => decide (kv.1 = k))
  | _, _, .nil => rfl
  | (a, d) :: l, (b, v) :: m, .cons h t => by
    have e : a = b := h.1
    subst e
    rw [List.any_cons, List.any_cons, pkv_any t]
theorem pkv_set {F : Hp} {k : κ} {d : D} {v : V} (r : RD F d v) : ∀ {l : List (κ × D)} {m : List (κ × V)}, PKV F l m → PKV F (l.map (fun kv => if kv.1 = k then (kv.1, d) else kv)) (m.map (fun kv => if kv.1 = k then (kv.1, v) else kv))
  | _, _, .nil => .nil
  | (a, d') :: l, (b, v') :: m, .cons h t => by
    have e : a = b := h.1
    subst e
    rw [List.map_cons, List.map_cons]
    refine .cons ?_ (pkv_set r t)
    by_cases q : a = k
    · rw [if_pos q, if_pos q]; exact ⟨rfl, r⟩
    · rw [if_neg q, if_neg q]; exact h
theorem pkv_app {F : Hp} {x : κ × D} {y : κ × V} (r : x.1 = y.1 ∧ RD F x.2 y.2) : ∀ {l : List (κ × D)} {m : List (κ × V)}, PKV F l m → PKV F (l ++ [x]) (m ++ [y])
  | _, _, .nil => .cons r .nil
  | _, _, .cons h t => .cons h (pkv_app r t)
theorem pkv_putK {F : Hp} {k : κ} {d : D} {v : V} (r : RD F d v) {l : List (κ × D)} {m : List (κ × V)} (h : PKV F l m) : PKV F (putKD l k d) (putK m k v) := by
  unfold putKD putK
  rw [pkv_any h]
  split
  · exact pkv_set r h
  · exact pkv_app ⟨rfl, r⟩ h
theorem pkv_length {F : Hp} : ∀ {l : List (κ × D)} {m : List (κ × V)}, PKV F l m → l.length = m.length
  | _, _, .nil => rfl
  | _, _, .cons _ t => congrArg (· + 1) (pkv_length t)
end
def kD : Key → D
  | .inl i => .int i
  | .inr s => .str s
theorem kD_V {k : Key} {F : Hp} {v : V} (r : RD F (kD k) v) : v = kV k := by cases k <;> exact r
section
variable {B : Hp} {M : Mem} {K : PySem.W.Frag} {σ : Sig} {te ty tx tv : TE} {Q : DQ} {D3 : Ends3} {P : Program} {w : World}
theorem w_dnewK (q : ∀ p, M p = none → Q (.ref p) (mput M p (.dK []))) : W3e B tDNewK σ M Q := fun F σv H Qv b hs st k p hp =>
  k F _ (.ref p) _ _ (Ex.refl _) (st.newO (d := .dK []) hp ⟨[], rfl, .nil⟩) rfl (q p (st.nn hp).2)
theorem w_dnewT (q : ∀ p, M p = none → Q (.ref p) (mput M p (.dT []))) : W3e B tDNewT σ M Q := fun F σv H Qv b hs st k p hp =>
  k F _ (.ref p) _ _ (Ex.refl _) (st.newO (d := .dT []) hp ⟨[], rfl, .nil⟩) rfl (q p (st.nn hp).2)
/-- a is a dict of ints and texts and y a key of it (tuple keys: dT) -/
def GetD (M : Mem) (x y : D) (o : Option D) : Prop := ∃ a, x = .ref a ∧ ((∃ kvs k, M a = some (.dK kvs) ∧ y = kD k ∧ o = valD kvs k) ∨ ∃ kvs k, M a = some (.dT kvs) ∧ y = .tup (k.map kD) ∧ o = valD kvs k)
theorem RDs.keys {F : Hp} : ∀ {k : List Key} {vs : List V}, RDs F (k.map kD) vs → vs = k.map kV
  | [], _, h => h
  | _ :: _, _, ⟨v, vs, e, r, rs⟩ => by rw [e, kD_V r, RDs.keys rs]; rfl
theorem GetD.at {F H : Hp} {x y : D} {o : Option D} {xv yv : V} (g : GetD M x y o) (st : St3 F M H) (rx : RD F x xv) (ry : RD F y yv) : ∃ a ov, xv = .ref a ∧ DGet H a yv ov ∧ OptR F o ov := by
  obtain ⟨a, ex, ⟨kvs, k, hm, ey, eo⟩ | ⟨kvs, k, hm, ey, eo⟩⟩ := g
  · subst ex; subst ey; subst eo
    obtain ⟨_, ho, h1, kv, e, pk⟩ := st.own a _ hm
    subst e
    rw [kD_V ry]
    exact ⟨a, _, rx, DGet.k h1, pkv_val pk⟩
  · subst ex; subst ey; subst eo
    obtain ⟨_, ho, h1, kv, e, pk⟩ := st.own a _ hm
    subst e
    obtain ⟨b, vs, e2, hb, rs⟩ := ry
    subst e2
    rw [rs.keys] at hb
    exact ⟨a, _, rx, DGet.t h1 (st.fz b _ hb), pkv_val pk⟩
theorem w_dget (h : W3e B te σ M (fun x M1 => W3e B ty σ M1 (fun y M2 => ∃ d, GetD M2 x y (some d) ∧ Q d M2))) : W3e B (tDGet te ty) σ M Q := fun F σv H Qv b hs st k =>
  h F σv H _ b hs st fun F1 M1 x xv H1 e1 st1 rx q1 => q1 F1 σv H1 _ (b.trans e1) (hs.mono e1) st1 fun F2 M2 y yv H2 e2 st2 ry ⟨d, g, q⟩ => by
    obtain ⟨a, ov, ex, g2, r⟩ := g.at st2 (rx.mono e2) ry
    cases ov with
    | none => exact r.elim
    | some v => exact ⟨a, v, ex, g2, k F2 M2 d v H2 (e1.trans e2) st2 r q⟩
theorem w_dget2 (h : W3e B te σ M (fun x M1 => (∃ a, x = .ref a ∧ ((∃ kvs, M1 a = some (.dK kvs)) ∨ ∃ kvs, M1 a = some (.dT kvs))) ∧ W3e B ty σ M1 (fun y M2 => W3e B tx σ M2 (fun z M3 => ∃ o, GetD M3 x y o ∧ Q (o.getD z) M3)))) : W3e B (tDGet2 te ty tx) σ M Q := fun F σv H Qv b hs st k =>
  h F σv H _ b hs st fun F1 M1 x xv H1 e1 st1 rx ⟨⟨a, ex, ht⟩, q1⟩ => by
    subst ex
    refine ⟨a, rx, ?_, q1 F1 σv H1 _ (b.trans e1) (hs.mono e1) st1 fun F2 M2 y yv H2 e2 st2 ry q2 => q2 F2 σv H2 _ (b.trans (e1.trans e2)) (hs.mono (e1.trans e2)) st2 fun F3 M3 z zv H3 e3 st3 rz ⟨o, g, q⟩ => ?_⟩
    · rcases ht with ⟨kvs, hm⟩ | ⟨kvs, hm⟩
      · obtain ⟨_, ho, h1, kv, e, _⟩ := st1.own a _ hm
        subst e; exact .inl ⟨kv, .inl h1⟩
      · obtain ⟨_, ho, h1, kv, e, _⟩ := st1.own a _ hm
        subst e; exact .inr ⟨kv, .inl h1⟩
    · obtain ⟨a', ov, ex, g2, r⟩ := g.at st3 (show RD F3 (.ref a) (.ref a) from rfl) (ry.mono e3)
      cases ex
      refine ⟨ov, g2, ?_⟩
      cases o with
      | none =>
        cases ov with
        | none => exact k F3 M3 z zv H3 (e1.trans (e2.trans e3)) st3 rz q
        | some v => exact r.elim
      | some d =>
        cases ov with
        | none => exact r.elim
        | some v => exact k F3 M3 d v H3 (e1.trans (e2.trans e3)) st3 r q
/-- d[y] = v -/
def PutD (M : Mem) (x y v : D) (M' : Mem) : Prop := ∃ a, x = .ref a ∧ ((∃ kvs k, M a = some (.dK kvs) ∧ y = kD k ∧ kvs.length < 100000 ∧ M' = mput M a (.dK (putKD kvs k v))) ∨ ∃ kvs k, M a = some (.dT kvs) ∧ y = .tup (k.map kD) ∧ kvs.length < 100000 ∧ M' = mput M a (.dT (putKD kvs k v)))
theorem PutD.at {F H : Hp} {x y v : D} {M' : Mem} {xv yv vv : V} (g : PutD M x y v M') (st : St3 F M H) (rx : RD F x xv) (ry : RD F y yv) (rv : RD F v vv) : ∃ a H', xv = .ref a ∧ DPut H a yv vv H' ∧ St3 F M' H' := by
  obtain ⟨a, ex, ⟨kvs, k, hm, ey, hl, eM⟩ | ⟨kvs, k, hm, ey, hl, eM⟩⟩ := g
  · subst ex; subst ey; subst eM
    obtain ⟨_, ho, h1, kv, e, pk⟩ := st.own a _ hm
    subst e
    rw [kD_V ry]
    exact ⟨a, _, rx, DPut.k h1 (by rw [← pkv_length pk]; exact Nat.lt_trans hl (by decide)), st.put hm (d' := .dK (putKD kvs k v)) ⟨_, rfl, pkv_putK rv pk⟩⟩
  · subst ex; subst ey; subst eM
    obtain ⟨_, ho, h1, kv, e, pk⟩ := st.own a _ hm
    subst e
    obtain ⟨b, vs, e2, hb, rs⟩ := ry
    subst e2
    rw [rs.keys] at hb
    exact ⟨a, _, rx, DPut.t h1 (st.fz b _ hb) (by rw [← pkv_length pk]; exact Nat.lt_trans hl (by decide)), st.put hm (d' := .dT (putKD kvs k v)) ⟨_, rfl, pkv_putK rv pk⟩⟩
theorem s_dput (h : W3e B tv σ M (fun v M1 => W3e B te σ M1 (fun x M2 => W3e B ty σ M2 (fun y M3 => ∃ M4, PutD M3 x y v M4 ∧ D3.nx σ M4)))) : W3s B (sDPut te ty tv) D3 σ M := fun F σv H Dv b hs st im =>
  h F σv H _ b hs st fun F1 M1 v vv H1 e1 st1 rv q1 => q1 F1 σv H1 _ (b.trans e1) (hs.mono e1) st1 fun F2 M2 x xv H2 e2 st2 rx q2 => q2 F2 σv H2 _ (b.trans (e1.trans e2)) (hs.mono (e1.trans e2)) st2 fun F3 M3 y yv H3 e3 st3 ry ⟨M4, g, q⟩ => by
    obtain ⟨a, H', ex, g2, st4⟩ := g.at st3 (rx.mono e3) ry (rv.mono (e2.trans e3))
    exact ⟨a, H', ex, g2, im.nx F3 M4 σ σv H' (e1.trans (e2.trans e3)) (hs.mono (e1.trans (e2.trans e3))) st4 q⟩
/-! ### in, with dicts -/
def rIND (K : PySem.W.Frag) (P : Program) (w : World) (neg : Bool) : R2 := fun x y H Q => rIN K P w neg x y H Q ∨ (∃ a o, y = .ref a ∧ DGet H a x o ∧ Q (.bl (if neg then !o.isSome else o.isSome)) H) ∨ ∃ a kvs, y = .ref a ∧ x = .non ∧ Rd H a (.dK kvs) ∧ Q (.bl neg) H
theorem op_INDK {X : Cx} (K : PySem.W.Frag) (P : Program) (w : World) (h1 : X.K = K) (h2 : X.prog = P) (h3 : X.w = w) (hu : X.A.units + 65 < cLine) : OpR X (compareOp .In) (rIND K P w false) := by
  subst h1; subst h2; subst h3
  intro pins s σ H x y v u Q I rx ry h
  rcases h with h | ⟨a, o, ey, g, q⟩ | ⟨a, kvs, ey, ex, g, q⟩
  · exact op_IN hu pins s σ H x y v u Q I rx ry h
  · subst ey
    obtain rfl : u = Value.ref a := ry
    exact d_in (by omega) I g rx fun s3 I3 => ⟨.bl o.isSome, H, I3, rfl, q⟩
  · subst ey; subst ex
    obtain rfl : u = Value.ref a := ry
    obtain rfl : v = Value.none := rx
    exact d_inNone I g fun s3 I3 => ⟨.bl false, H, I3, rfl, q⟩
theorem op_NINDK {X : Cx} (K : PySem.W.Frag) (P : Program) (w : World) (h1 : X.K = K) (h2 : X.prog = P) (h3 : X.w = w) (hu : X.A.units + 65 < cLine) : OpR X (compareOp .NotIn) (rIND K P w true) := by
  subst h1; subst h2; subst h3
  intro pins s σ H x y v u Q I rx ry h
  rcases h with h | ⟨a, o, ey, g, q⟩ | ⟨a, kvs, ey, ex, g, q⟩
  · exact op_NIN hu pins s σ H x y v u Q I rx ry h
  · subst ey
    obtain rfl : u = Value.ref a := ry
    exact d_notIn (by omega) I g rx fun s3 I3 => ⟨.bl (!o.isSome), H, I3, rfl, q⟩
  · subst ey; subst ex
    obtain rfl : u = Value.ref a := ry
    obtain rfl : v = Value.none := rx
    exact d_notInNone I g fun s3 I3 => ⟨.bl true, H, I3, rfl, q⟩
theorem r3_inL {neg : Bool} {x y : D} (h : R3 B (rIN K P w neg) x y M Q) : R3 B (rIND K P w neg) x y M Q := fun F H xv yv Qv b st rx ry k => .inl (h F H xv yv Qv b st rx ry k)
theorem OptR.isSome {F : Hp} {o : Option D} {ov : Option V} (r : OptR F o ov) : o.isSome = ov.isSome := by
  cases o <;> cases ov <;> first | rfl | exact r.elim
theorem r3_inD {neg : Bool} {x y : D} {o : Option D} (g : GetD M y x o) (q : Q (.bl (if neg then !o.isSome else o.isSome)) M) : R3 B (rIND K P w neg) x y M Q := fun F H xv yv Qv b st rx ry k => by
  obtain ⟨a, ov, ey, g2, r⟩ := g.at st ry rx
  refine .inr (.inl ⟨a, ov, ey, g2, ?_⟩)
  rw [← r.isSome]
  exact k F M (.bl _) _ H (Ex.refl _) st rfl q
theorem r3_inN {neg : Bool} {a : Addr} {kvs : List (Key × D)} (hm : M a = some (.dK kvs)) (q : Q (.bl neg) M) : R3 B (rIND K P w neg) .non (.ref a) M Q := fun F H xv yv Qv b st rx ry k => by
  obtain ⟨_, ho, h1, kv, e, pk⟩ := st.own a _ hm
  subst e
  exact .inr (.inr ⟨a, kv, ry, rx, .inl h1, k F M (.bl neg) _ H (Ex.refl _) st rfl q⟩)
end
end T3
set_option Elab.async false
set_option linter.all false
set_option maxRecDepth 100000
set_option maxHeartbeats 2000000
namespace L2
open PySem PySem.Spec PyProof.Rows
/-! ### methods whose exceptions are looked at where they arise; keywords -/
def tMethT (C : Addr) (m : Str) (sp : Sp) (dvs : List V) (E : St → XK) (ta : TE) (t : TA) : TE := fun σ H Q => ta σ H fun x H1 => ∃ a dx fs, x = .ref a ∧ H1 a = some (.ins C dx fs) ∧ fs.lookup m = none ∧
  t σ H1 fun vs H2 => sp (x :: (vs ++ dvs)) H2 Q (E σ)
def tMethN (C : Addr) (m : Str) (n k : Nat) (sp : Sp) (gV : List V → List V → List V) (E : St → XK) (ta : TE) (t tk : TA) : TE := fun σ H Q => ta σ H fun x H1 => ∃ a dx fs, x = .ref a ∧ H1 a = some (.ins C dx fs) ∧ fs.lookup m = none ∧
  t σ H1 fun vs H2 => tk σ H2 fun zs H3 => vs.length + 1 = n ∧ zs.length = k ∧ sp (gV (x :: vs) zs) H3 Q (E σ)
section
variable {X : Cx} {CX : CXT} {k n : Nat} {C f : Addr} {fd : FuncData} {ps ks : List Str} {sp : Sp} {dvs : List V} {ds : List Value} {E : St → XK} {m : Str} {e o : Expr} {es : List Expr} {kws : List Keyword} {apos pos : Pos} {ta : TE} {t tk : TA}
  {g : List Value → List Value → List Value} {gV : List V → List V → List V}
theorem run_fnT {pins : List (Addr × Obj)} {σ : St} {H : Hp} {s : Shared} {Q : VK} {us : List Value} {vs : List V} (F : FnOk X.prog X.w X.K X.mg X.base CX k f fd ps sp) (hr : Room k X.A) (hb : Binds X.K fd ps ds) (hd : Vals dvs ds) (hx : PassesAt CX X σ (E σ))
    (I : Inv X pins σ H s) (r : Vals vs us) (h : sp (vs ++ dvs) H Q (E σ)) : wpAny (model X.prog X.w) X.A (call (.ref f) us) (EP X pins σ Q) X.xe s := by
  have r2 : Vals (vs ++ dvs) (us ++ ds) := r.append hd
  have hl : (us ++ ds).length = ps.length := by rw [← r2.length]; exact F.len _ _ _ _ h
  refine wpAny_call (codeAny_mono (F.run X.A X.stack s H ⟨us, []⟩ (us ++ ds) (vs ++ dvs) Q (E σ) hr I.env0 (hb s us I.kIn hl) r2 h) fun r s' hq => ?_)
  cases r with
  | error e => exact hx pins H s e s' I hq
  | ok fl =>
    cases fl with
    | ret u => exact I.after hq
    | next => exact False.elim hq
    | brk => exact False.elim hq
    | cont => exact False.elim hq
theorem pe_methT {pl : Sem Bool} (he : PE X o ta) (c : Cls X.K C) (hm : Meth X.K C m f) (F : FnOk X.prog X.w X.K X.mg X.base CX k f fd ps sp) (hr : Room k X.A) (hb : Binds X.K fd ps ds) (hd : Vals dvs ds) (hx : ∀ σ, PassesAt CX X σ (E σ)) (ha : PA X (e :: es) t)
    (hst : starEach (e :: es) X.env = (false, eval e X.env) :: starEach es X.env := by rfl) (hpl : (backTo pos (starEach es X.env)).any (·.1) = false := by rfl)
    (ht : eval (.Call (.Attribute o m apos) (e :: es) [] pos) X.env = (do
      let ov ← eval o X.env
      standAt apos.atName
      let (f, first) ← holding [ov] (getMethod ov m pl)
      callWith pos f first (backTo pos (starEach (e :: es) X.env)) (backToKw pos (keywordEach [] X.env))) := by rfl) :
    PE X (.Call (.Attribute o m apos) (e :: es) [] pos) (tMethT C m sp dvs E ta t) := by
  refine ⟨fun pins s σ H Q I h => ?_⟩
  refine PySem.W.methodCall_KW (pl := pl) (thn (he.run pins s σ H _ I h) fun u s1 ⟨x, H1, I1, rx, a, dx, fs, ex, ea, l, q⟩ => ?_) ht
  subst ex
  obtain rfl : u = Value.ref a := rx
  refine getmeth_ok I1 ea c hm l ?_
  refine PySem.W.callWith_K (first := [.ref a]) (h₀ := X.base) I.ok.mod.kin hm.kp (thn (ha.run pos pins s1 σ H1 _ I1 q) fun us s2 ⟨vs, H2, I2, r, q2⟩ => ⟨I2.kIn, ?_⟩) hst hpl
  exact run_fnT (us := .ref a :: us) (vs := .ref a :: vs) F hr hb hd (hx σ) I2 (.cons rfl r) q2
theorem run_fnNT {pins : List (Addr × Obj)} {σ : St} {H : Hp} {s : Shared} {Q : VK} {us ws : List Value} {vs zs : List V} (F : FnOk X.prog X.w X.K X.mg X.base CX k f fd ps sp) (hr : Room k X.A) (hb : KBn X.K fd ps n ks g gV) (hx : PassesAt CX X σ (E σ))
    (I : Inv X pins σ H s) (r : Vals vs us) (rz : Vals zs ws) (l1 : vs.length = n) (l2 : zs.length = ks.length) (h : sp (gV vs zs) H Q (E σ)) : wpAny (model X.prog X.w) X.A (call (.ref f) us (ks.zip ws)) (EP X pins σ Q) X.xe s := by
  have r2 := hb.rel r rz
  refine wpAny_call (codeAny_mono (F.run X.A X.stack s H ⟨us, ks.zip ws⟩ (g us ws) (gV vs zs) Q (E σ) hr I.env0 (hb.to s us ws I.kIn (r.length.symm.trans l1) (rz.length.symm.trans l2)) r2 h) fun r s' hq => ?_)
  cases r with
  | error e => exact hx pins H s e s' I hq
  | ok fl =>
    cases fl with
    | ret u => exact I.after hq
    | next => exact False.elim hq
    | brk => exact False.elim hq
    | cont => exact False.elim hq
theorem pe_methN {pl : Sem Bool} (he : PE X o ta) (c : Cls X.K C) (hm : Meth X.K C m f) (F : FnOk X.prog X.w X.K X.mg X.base CX k f fd ps sp) (hr : Room k X.A) (hb : KBn X.K fd ps n ks g gV) (hx : ∀ σ, PassesAt CX X σ (E σ)) (ha : PA X (e :: es) t) (hkw : PK X kws tk)
    (hall : (backToKw pos (keywordEach kws X.env)).all (·.1.isSome) = true := by rfl) (hks : (backToKw pos (keywordEach kws X.env)).filterMap (·.1) = ks := by rfl)
    (hst : starEach (e :: es) X.env = (false, eval e X.env) :: starEach es X.env := by rfl) (hpl : ((backTo pos (starEach (e :: es) X.env)).any (·.1) || (backToKw pos (keywordEach kws X.env)).any (·.1.isNone)) = false := by rfl)
    (ht : eval (.Call (.Attribute o m apos) (e :: es) kws pos) X.env = (do
      let ov ← eval o X.env
      standAt apos.atName
      let (f, first) ← holding [ov] (getMethod ov m pl)
      callWith pos f first (backTo pos (starEach (e :: es) X.env)) (backToKw pos (keywordEach kws X.env))) := by rfl) :
    PE X (.Call (.Attribute o m apos) (e :: es) kws pos) (tMethN C m n ks.length sp gV E ta t tk) := by
  refine ⟨fun pins s σ H Q I h => ?_⟩
  refine PySem.W.methodCall_KW (pl := pl) (thn (he.run pins s σ H _ I h) fun u s1 ⟨x, H1, I1, rx, a, dx, fs, ex, ea, l, q⟩ => ?_) ht
  subst ex
  obtain rfl : u = Value.ref a := rx
  refine getmeth_ok I1 ea c hm l ?_
  refine PySem.W.callWith_KW (first := [.ref a]) (h₀ := X.base) I.ok.mod.kin hm.kp hall (thn (ha.run pos pins s1 σ H1 _ I1 q) fun us s2 ⟨vs, H2, I2, r, q2⟩ => ?_) hpl hst
  refine thn (hkw.run pos pins s2 σ H2 _ I2 q2) fun ws s3 ⟨zs, H3, I3, rz, l1, l2, q3⟩ => ⟨I3.kIn, ?_⟩
  rw [hks]
  exact run_fnNT (us := .ref a :: us) (vs := .ref a :: vs) F hr hb (hx σ) I3 (.cons rfl r) rz l1 l2 q3
theorem passes_at {E : XK} (h : Passes CX X E) : ∀ σ, PassesAt CX X σ ((fun _ => E) σ) := fun σ pins H s e s' I c => h pins σ H s e s' I c
end
end L2
namespace T3
open PySem L2
open Evl (Ex)
section
variable {B : Hp} {M : Mem} {K : PySem.W.Frag} {σ : Sig} {t tk : TA} {ta tv te : TE} {Q : DQ} {S : Sp3} {E3 : EQ3} {dds : List D} {dvs : List V} {P : Program} {w : World} {D3 : Ends3}
theorem w_methT {C : Addr} {m : Str} {W : WX} {EW : EW3} (hd : ∀ F, RDs F dds dvs) (hW : ImpW B EW W) (h : W3e B ta σ M (fun x M1 => ∃ fs, InsD M1 x C fs ∧ fs.lookup m = none ∧ W3a B t σ M1 (fun ds M2 => S (x :: (ds ++ dds)) M2 Q (fun C th M' => EW C th σ M')))) : W3e B (tMethT C m (lift3 S) dvs (WE W) ta t) σ M Q := fun F σv H Qv b hs st k =>
  h F σv H _ b hs st fun F1 M1 x xv H1 e1 st1 rx ⟨fs, hi, l, q1⟩ => by
    obtain ⟨a, dx, fv, ev, ha, pk⟩ := hi.at st1 rx
    refine ⟨a, dx, fv, ev, ha, (pkv_look pk).2 l, q1 F1 σv H1 _ (b.trans e1) (hs.mono e1) st1 fun F2 M2 ds vs H2 e2 st2 rs q2 => ?_⟩
    exact ⟨x :: (ds ++ dds), F2, M2, Q, _, ⟨xv, _, rfl, rx.mono e2, rs.append (hd F2)⟩, st2, fun F3 M3 d v H3 e3 => k F3 M3 d v H3 ((e1.trans e2).trans e3),
      fun F' M' C d thing v H' e s r z q' => hW F' M' σ σv C d thing v H' ((b.trans (e1.trans e2)).trans e) ((hs.mono (e1.trans e2)).mono e) s r z q', q2⟩
/-- the keywords' values put in their places, alike for both -/
def Put2 (gV : List V → List V → List V) (gD : List D → List D → List D) : Prop := ∀ F vs ds zs es, RDs F ds vs → RDs F es zs → RDs F (gD ds es) (gV vs zs)
theorem w_methN {C : Addr} {m : Str} {n k' : Nat} {gV : List V → List V → List V} {gD : List D → List D → List D} {W : WX} {EW : EW3} (hg : Put2 gV gD) (hW : ImpW B EW W)
    (h : W3e B ta σ M (fun x M1 => ∃ fs, InsD M1 x C fs ∧ fs.lookup m = none ∧ W3a B t σ M1 (fun ds M2 => W3a B tk σ M2 (fun es M3 => ds.length + 1 = n ∧ es.length = k' ∧ S (gD (x :: ds) es) M3 Q (fun C th M' => EW C th σ M'))))) : W3e B (tMethN C m n k' (lift3 S) gV (WE W) ta t tk) σ M Q := fun F σv H Qv b hs st k =>
  h F σv H _ b hs st fun F1 M1 x xv H1 e1 st1 rx ⟨fs, hi, l, q1⟩ => by
    obtain ⟨a, dx, fv, ev, ha, pk⟩ := hi.at st1 rx
    refine ⟨a, dx, fv, ev, ha, (pkv_look pk).2 l, q1 F1 σv H1 _ (b.trans e1) (hs.mono e1) st1 fun F2 M2 ds vs H2 e2 st2 rs q2 => q2 F2 σv H2 _ (b.trans (e1.trans e2)) (hs.mono (e1.trans e2)) st2 fun F3 M3 es zs H3 e3 st3 rz ⟨l1, l2, q3⟩ => ?_⟩
    refine ⟨by rw [← rs.length]; exact l1, by rw [← rz.length]; exact l2, gD (x :: ds) es, F3, M3, Q, _, hg _ _ _ _ _ ⟨xv, _, rfl, (rx.mono e2).mono e3, rs.mono e3⟩ rz, st3, fun F4 M4 d v H4 e4 => k F4 M4 d v H4 ((e1.trans (e2.trans e3)).trans e4),
      fun F' M' C d thing v H' e s r z q' => hW F' M' σ σv C d thing v H' ((b.trans (e1.trans (e2.trans e3))).trans e) ((hs.mono (e1.trans (e2.trans e3))).mono e) s r z q', q3⟩
/-- a store to a property -/
theorem s_propset {C : Addr} {W : WX} {EW : EW3} (hW : ImpW B EW W) (h : W3e B tv σ M (fun y M1 => W3e B ta σ M1 (fun x M2 => ∃ fs, InsD M2 x C fs ∧ S [x, y] M2 (fun _ M3 => D3.nx σ M3) (fun C th M' => EW C th σ M')))) : W3s B (tPropSet C (lift3 S) (WE W) ta tv) D3 σ M := fun F σv H Dv b hs st im =>
  h F σv H _ b hs st fun F1 M1 y yv H1 e1 st1 ry q1 => q1 F1 σv H1 _ (b.trans e1) (hs.mono e1) st1 fun F2 M2 x xv H2 e2 st2 rx ⟨fs, hi, q2⟩ => by
    obtain ⟨a, dx, fv, ev, ha, pk⟩ := hi.at st2 rx
    refine ⟨a, dx, fv, ev, ha, [x, y], F2, M2, _, _, ?_, st2, fun F3 M3 d v H3 e3 st3 rd q => im.nx F3 M3 σ σv H3 ((e1.trans e2).trans e3) (hs.mono ((e1.trans e2).trans e3)) st3 q,
      fun F' M' C d thing v H' e s r z q' => hW F' M' σ σv C d thing v H' ((b.trans (e1.trans e2)).trans e) ((hs.mono (e1.trans e2)).mono e) s r z q', q2⟩
    rw [← ev]
    exact ⟨xv, _, rfl, rx, _, _, rfl, ry.mono e2, rfl⟩
/-- a constant of a class -/
theorem w_cval {f : Str} {i : Int} {C : Addr} {mc u : Value} (hC : ClX.CRead K C mc) (hv : ClX.CVal K C mc f (.int i) u) (h : W3e B ta σ M (fun x M1 => x = .ref C ∧ Q (.int i) M1)) : W3e B (ClX.tCVal K ta f) σ M Q := fun F σv H Qv b hs st k =>
  h F σv H _ b hs st fun F1 M1 x xv H1 e1 st1 rx ⟨ex, q⟩ => by
    subst ex
    exact ⟨C, mc, .int i, u, rx, hC, hv, k F1 M1 (.int i) _ H1 e1 st1 rfl q⟩
/-- len, of dicts too -/
def rLEND (K : PySem.W.Frag) : List V → Hp → VK → Prop := fun xs H Q => rLEN K xs H Q ∨ ∃ a kvs, xs = [V.ref a] ∧ H a = some (.dK kvs) ∧ Q (.int kvs.length) H
theorem call_lenDK {X : Cx} (K : PySem.W.Frag) (h : X.K = K) : CallR X (.builtin "len") (rLEND K) := by
  subst h
  intro pins s σ H xs us Q I r h
  rcases h with h | h
  · exact call_len pins s σ H xs us Q I r h
  · exact call_lenD pins s σ H xs us Q I r h
theorem c3_lenL {x : D} (h : C3 B (rLEN K) [x] M Q) : C3 B (rLEND K) [x] M Q := fun F H xv Qv b st rx k => .inl (h F H xv Qv b st rx k)
theorem c3_lenD {a : Addr} {kvs : List (Key × D)} (hm : M a = some (.dK kvs)) (q : Q (.int kvs.length) M) : C3 B (rLEND K) [.ref a] M Q := fun F H xv Qv b st rx k => by
  obtain ⟨v, e, r⟩ := rx.sing
  obtain ⟨_, ho, h1, kv, e2, pk⟩ := st.own a _ hm
  subst e2
  exact .inr ⟨a, kv, by rw [e, show v = V.ref a from r], h1, by rw [← pkv_length pk]; exact k F M (.int _) _ H (Ex.refl _) st rfl q⟩
/-- over a text -/
def signs (z : Str) : List D := z.cps.toList.map fun c => D.str ⟨#[c]⟩
theorem i_str {Q : List D → (Mem → Prop) → Mem → Prop} (h : W3e B te σ M (fun x M1 => ∃ z, x = .str z ∧ Q (signs z) (fun _ => True) M1)) : W3i B (iStr te) σ M Q := fun F σv H R b hs st k =>
  h F σv H _ b hs st fun F1 M1 x xv H1 e1 st1 rx ⟨z, ex, q⟩ => by
    subst ex
    refine ⟨z, rx, k F1 M1 (Its z) (signs z) _ H1 e1 st1 ⟨fun _ => True, _, WD.len (F := F1) (vs := []) walk_str (by unfold signs; rw [List.length_map, Array.length_toList]), fun _ _ _ _ _ _ => trivial, ?_, fun _ _ _ _ _ => trivial⟩ q⟩
    intro i d x H' H'' F' M' hd e s _ y
    obtain ⟨y1, c, hc, ev⟩ := y
    subst y1
    refine ⟨F', Ex.refl _, s, ?_⟩
    unfold signs at hd
    rw [List.getElem?_map] at hd
    obtain ⟨c', h1, h2⟩ := Option.map_eq_some_iff.mp hd
    rw [Array.getElem?_toList, hc] at h1
    cases h1
    subst h2
    exact ev
/-- list(d.items()) -/
theorem w_items (h : W3e B te σ M (fun x M1 => ∃ a kvs, x = .ref a ∧ M1 a = some (.dK kvs) ∧ Q (.lst (kvs.map fun p => .tup [kD p.1, p.2])) M1)) : W3e B (LiI.tListItems te) σ M Q := fun F σv H Qv b hs st k =>
  h F σv H _ b hs st fun F1 M1 x xv H1 e1 st1 rx ⟨a, kvs, ex, hm, q⟩ => by
    subst ex
    obtain ⟨_, ho, h1, kv, e2, pk⟩ := st1.own a _ hm
    subst e2
    refine ⟨a, kv, rx, h1, fun H' p ts ext np nts pts hp hpair => ?_⟩
    -- the frozen heap with the new list and its pairs
    let F2 : Hp := fun c => if c = p ∨ c ∈ ts then H' c else F1 c
    have hF1 : ∀ c, F1 c ≠ none → ¬ (c = p ∨ c ∈ ts) := fun c hc hh => by
      cases hf : F1 c with
      | none => exact hc hf
      | some o =>
        have := st1.fz c o hf
        rcases hh with rfl | hh
        · rw [np] at this; cases this
        · rw [nts c hh] at this; cases this
    have e12 : Ex F1 F2 := fun c o hc => by
      show (if c = p ∨ c ∈ ts then H' c else F1 c) = some o
      rw [if_neg (hF1 c (by rw [hc]; exact Option.some_ne_none o)), hc]
    have st2 : St3 F2 M1 H' := by
      refine ⟨fun c o hc => ?_, fun c o hc => ?_⟩
      · have hc : (if c = p ∨ c ∈ ts then H' c else F1 c) = some o := hc
        split at hc
        · exact hc
        · exact ext c o (st1.fz c o hc)
      · obtain ⟨hn, ho, hh, r⟩ := st1.own c o hc
        refine ⟨?_, ho, ext c ho hh, r.mono e12⟩
        show (if c = p ∨ c ∈ ts then H' c else F1 c) = none
        rw [if_neg, hn]
        rintro (rfl | hm)
        · rw [np] at hh; cases hh
        · rw [nts c hm] at hh; cases hh
    have key : ∀ (kvs : List (Key × D)) (kv : List (Key × V)) (us : List Addr), PKV F1 kvs kv → Paired (fun (t : Addr) (q : Key × V) => H' t = some (.tup [kV q.1, q.2])) us kv → (∀ t ∈ us, t ∈ ts) → RDs F2 (kvs.map fun p => .tup [kD p.1, p.2]) (us.map V.ref) := by
      intro kvs
      induction kvs with
      | nil =>
        intro kv us pk pr _
        cases pk; cases pr; rfl
      | cons x kvs ih =>
        intro kv us pk pr hin
        match kv, us, pk, pr with
        | y :: kv, u :: us, .cons hx pk, .cons hy pr =>
            refine ⟨.ref u, us.map V.ref, rfl, ⟨u, [kV y.1, y.2], rfl, ?_, ⟨kV y.1, [y.2], rfl, ?_, ⟨y.2, [], rfl, hx.2.mono e12, rfl⟩⟩⟩, ih _ _ pk pr fun t ht => hin t (List.mem_cons_of_mem _ ht)⟩
            · show (if u = p ∨ u ∈ ts then H' u else F1 u) = _
              rw [if_pos (.inr (hin _ (List.mem_cons_self ..)))]
              exact hy
            · have e := hx.1
              rw [← e]
              cases x.1 <;> rfl
    refine k F2 M1 (.lst (kvs.map fun p => .tup [kD p.1, p.2])) (.ref p) H' (e1.trans e12) st2 ⟨p, ts.map V.ref, rfl, ?_, key _ _ _ pk hpair fun _ h => h⟩ q
    show (if p = p ∨ p ∈ ts then H' p else F1 p) = _
    rw [if_pos (.inl rfl)]
    exact hp
end
end T3
namespace T3
open PySem L2
theorem pe_fldK {X : Cx} {e : Expr} {ta : TE} {f : Str} {pos : Pos} (K : PySem.W.Frag) (h : X.K = K) (he : PE X e ta) (hb : attributeBase e f X.env (eval e X.env) = eval e X.env := by rfl) : PE X (.Attribute e f pos) (tFld K ta f) := by subst h; exact pe_fld he hb
theorem pe_cvalK {X : Cx} {e : Expr} {ta : TE} {f : Str} {pos : Pos} (K : PySem.W.Frag) (h : X.K = K) (he : PE X e ta) (hb : attributeBase e f X.env (eval e X.env) = eval e X.env := by rfl) : PE X (.Attribute e f pos) (ClX.tCVal K ta f) := by subst h; exact ClX.pe_cval he hb
end T3
set_option Elab.async false
set_option linter.all false
namespace T3
open PySem L2
open Evl (Ex)
section
variable {B : Hp} {M : Mem} {σ : Sig} {ta : TA} {Q : List D → (Mem → Prop) → Mem → Prop}
theorem i_rng3 (h : W3a B ta σ M (fun xs M1 => ∃ (i j c : Int) (n : Nat), xs = [.int i, .int j, .int c] ∧ RgC i j c n ∧ Q ((List.range n).map fun (k : Nat) => D.int (i + (k : Nat) * c)) (fun _ => True) M1)) : W3i B (iRng3 ta) σ M Q := fun F σv H R b hs st k =>
  h F σv H _ b hs st fun F1 M1 xs xv H1 e1 st1 rx ⟨i, j, c, n, ex, hr, q⟩ => by
    subst ex
    obtain ⟨v1, vs1, e, r1, v2, vs2, e', r2, v3, vs3, e'', r3, r4⟩ := rx
    subst e; subst e'; subst e''
    rw [show v1 = V.int i from r1, show v2 = V.int j from r2, show v3 = V.int c from r3, show vs3 = [] from r4]
    refine ⟨i, j, c, n, rfl, hr, k F1 M1 _ _ _ H1 e1 st1 ⟨fun _ => True, _, WD.len (F := F1) (ds := (List.range n).map fun (k : Nat) => D.int (i + (k : Nat) * c)) (vs := []) walk_rangeC (by simp), fun _ _ _ _ _ _ => trivial, ?_, fun _ _ _ _ z => z⟩ q⟩
    intro i' d x H' H'' F' M' hd e s _ ⟨y1, y2⟩
    subst y1
    refine ⟨F', Ex.refl _, s, ?_⟩
    rw [List.getElem?_map] at hd
    obtain ⟨k', h1, h2⟩ := Option.map_eq_some_iff.mp hd
    rw [List.getElem?_range (by have := (List.getElem?_eq_some_iff.mp h1).1; simpa using this)] at h1
    cases h1
    rw [← h2, y2]
    rfl
end
end T3
set_option Elab.async false
set_option linter.all false
namespace T3
open PySem L2
open Evl (Ex)
/-- slices of lists, texts and tuples -/
def rSLT (K : PySem.W.Frag) : V → Option Int → Option Int → Hp → VK → Prop := fun x lo hi H Q => rSL K x lo hi H Q ∨ rSlT K x lo hi H Q
theorem sl_SLTK {X : Cx} (K : PySem.W.Frag) (h : X.K = K) : SlR X (rSLT K) := by subst h; exact sl_SL.or sl_tup
section
variable {B : Hp} {M : Mem} {K : PySem.W.Frag} {σ : Sig} {te : TE} {Q : DQ} {ds : List D}
theorem s3_L {lo hi : Option Int} {x : D} (h : S3 B (rSL K) x lo hi M Q) : S3 B (rSLT K) x lo hi M Q := fun F H xv Qv b st rx k => .inl (h F H xv Qv b st rx k)
theorem s3_t {lo hi : Option Int} (hne : ¬ (HT.sIx ds.length 0 lo = 0 ∧ HT.sIx ds.length ds.length hi = ds.length)) (q : Q (.tup (cutD ds lo hi)) M) : S3 B (rSLT K) (.tup ds) lo hi M Q := fun F H xv Qv b st rx k => by
  obtain ⟨a, vs, e, h1, r⟩ := rx
  refine .inr ⟨a, vs, e, .inl (.inl (st.fz a _ h1)), by rw [← r.length]; exact hne, fun p hp => ?_⟩
  obtain ⟨s2, e2⟩ := st.new (o := .tup (cutV vs lo hi)) hp
  exact k _ _ (.tup (cutD ds lo hi)) _ _ e2 s2 ⟨p, _, rfl, upd_same, (r.cut lo hi).mono e2⟩ q
theorem i_tup {Q : List D → (Mem → Prop) → Mem → Prop} (h : W3e B te σ M (fun x M1 => ∃ ds, x = .tup ds ∧ Q ds (fun _ => True) M1)) : W3i B (iTup K te) σ M Q := fun F σv H R b hs st k =>
  h F σv H _ b hs st fun F1 M1 x xv H1 e1 st1 rx ⟨ds, ex, q⟩ => by
    subst ex
    obtain ⟨a, vs, ev, hf, rs⟩ := rx
    refine ⟨a, ev, ⟨vs, .inl (.inl (st1.fz a _ hf))⟩, k F1 M1 (Itt K a) ds _ H1 e1 st1 ⟨fun H => SqT K H a vs, YAt vs, WD.len (F := F1) (vs := vs) walk_tup rs.length.symm, ?_, ?_, fun _ _ _ _ z => z⟩ q⟩
    · intro F' M' H' e s _
      exact .inl (.inl (s.fz a _ (e a _ hf)))
    · intro i d x H' H'' F' M' hd e s _ y
      obtain ⟨y1, y2⟩ := y
      subst y1
      obtain ⟨v, hv, rv⟩ := rs.at hd
      rw [y2] at hv; cases hv
      exact ⟨F', Ex.refl _, s, rv.mono e⟩
end
end T3
set_option Elab.async false
set_option linter.all false
namespace T3
open PySem L2
open Evl (Ex)
section
variable {B : Hp} {M : Mem} {σ : Sig} {te : TE} {D3 : Ends3}
/-- x += e, whole numbers -/
theorem s_augI {i : Nat} {a : Int} (hx : σ[i]? = some (some (.int a))) (h : W3e B te σ M (fun y M1 => ∃ b : Int, y = .int b ∧ D3.nx (σ.set i (some (.int (a + b)))) M1)) : W3s B (tAug i te (ipI fun i j => i + j)) D3 σ M := fun F σv H Dv b hs st im => by
  obtain ⟨v, hv, rv⟩ := hs.2 i _ hx
  refine ⟨v, hv, h F σv H _ b hs st fun F1 M1 y yv H1 e1 st1 ry ⟨c, ey, q⟩ => ?_⟩
  subst ey
  refine ⟨a, c, rv, ry, ?_⟩
  exact im.nx F1 M1 _ _ H1 e1 ((hs.mono e1).set (d := .int (a + c)) (v := .int (a + c)) rfl) st1 q
end
end T3
set_option Elab.async false
set_option linter.all false
set_option maxRecDepth 100000
set_option maxHeartbeats 2000000
namespace L2
open PySem PySem.Spec PyProof.Rows ItX
/-! ### a def whose promise knows how large the heap was (for what it makes anew) -/
structure FnN (P : Program) (w : World) (K : PySem.W.Frag) (mg : Str → Option Value) (base : Heap) (CX : CXT) (k : Nat) (f : Addr) (fd : FuncData) (ps : List Str) (sp : Nat → Sp) : Prop where
  len : ∀ n vs H Q E, sp n vs H Q E → vs.length = ps.length
  run : ∀ (A : Around) (outer : List Env) (s : Shared) (H : Hp) (args : Args) (us : List Value) (vs : List V) (Q : VK) (E : XK), Room k A → Env0 P w K mg base A outer s H → BindsTo s fd args (ps.zip us) → Vals vs us →
    sp s.heap.objs.size vs H Q E → codeAny (model P w) A (.call (.ref f) args) (CR CX outer P w H s Q E) s
section
variable {X : Cx} {CX : CXT} {k : Nat} {C f : Addr} {fd : FuncData} {ps : List Str} {sp : Nat → Sp} {E : XK} {e tg : Expr} {te : TE}
def iOwn (K : PySem.W.Frag) (C : Addr) (sp : Nat → Sp) (E : XK) (te : TE) : TI := fun σ H R => te σ H fun x H1 => ∃ (a dx : Addr) (fs : List (Str × V)), x = V.ref a ∧ H1 a = some (.ins C dx fs) ∧
  ∀ n, sp n [.ref a] H1 (fun v H2 => ∃ (it l : Addr), v = V.ref it ∧ H2 it = some (ItO l it 0) ∧ n ≤ it ∧ R (ItlF K l 0) (dropH H2 it)) E
theorem pi_own (he : PE X e te) (hs : PySem.W.findIn X.K (.ref C) "__iter__" = some (some (.ref f))) (hf : PySem.W.isFn X.K (.ref f) = true) (F : FnN X.prog X.w X.K X.mg X.base CX k f fd ps sp) (hr : Room k X.A) (hb : Binds X.K fd ps []) (hx : Passes CX X E) :
    PI X tg e (iOwn X.K C sp E te) := by
  refine ⟨fun pins s σ H R I h => ?_⟩
  refine thn (he.run pins s σ H _ I h) fun u s1 ⟨x, H1, I1, rx, a, dx, fs, ex, ea, q⟩ => ?_
  subst ex
  obtain rfl : u = Value.ref a := rx
  obtain ⟨mA, O, _, _, _, _⟩ := ins_get I1.hok ea
  obtain ⟨od, J, _⟩ := O.look
  have KX := I1.kIn
  have q1 := q s1.heap.objs.size
  have hl : [Value.ref a].length = ps.length := by rw [← F.len _ _ _ _ _ q1]; rfl
  have b := hb s1 [.ref a] KX (by rw [List.append_nil]; exact hl)
  rw [List.append_nil] at b
  unfold pyIter
  refine wpAny_bind (wpAny_bind (J.type.here ((PySem.W.looks_findIn KX hs).here ?_)))
  dsimp only
  refine wpAny_bind ?_
  have call_ : wpAny (model X.prog X.w) X.A (call (.ref f) [.ref a]) (EP X pins σ (fun v H2 => ∃ (it l : Addr), v = V.ref it ∧ H2 it = some (ItO l it 0) ∧ s1.heap.objs.size ≤ it ∧ R (ItlF X.K l 0) (dropH H2 it))) X.xe s1 := by
    refine wpAny_call (codeAny_mono (F.run X.A X.stack s1 H1 ⟨[.ref a], []⟩ [.ref a] [.ref a] _ E hr I1.env0 b (.cons rfl .nil) q1) fun r s' hq => ?_)
    cases r with
    | error e => exact hx pins σ H1 s1 e s' I1 hq
    | ok fl =>
      cases fl with
      | ret u => exact I1.after hq
      | next => exact False.elim hq
      | brk => exact False.elim hq
      | cont => exact False.elim hq
  have tail : ∀ (v : Value) (s2 : Shared) (k : Option Value → Sem Value), (∀ r, k (some r) = pure v) → EP X pins σ (fun v H2 => ∃ (it l : Addr), v = V.ref it ∧ H2 it = some (ItO l it 0) ∧ s1.heap.objs.size ≤ it ∧ R (ItlF X.K l 0) (dropH H2 it)) v s2 →
      wpAny (model X.prog X.w) X.A (specialOf v "__next__" >>= k) (PIE X pins σ tg R) X.xe s2 := by
    rintro v s2 k hk ⟨y, H2, I2, ry, it, l, ey, hi, hn, hR⟩
    subst ey
    obtain rfl : v = Value.ref it := ry
    have eo := itO_get I2 hi
    have st : s2.heap.IsListIter it l (0 + 0) := ⟨_, eo, rfl, rfl⟩
    have hi' := hi
    unfold ItO at hi'
    refine wpAny_bind (wpAny_specialOf st.typeIs slot_listiter_next.lookup ?_)
    rw [hk]
    refine wpAny_pure ?_
    refine ⟨it, [it], _, _, dropH H2 it, rfl, inv_drop I2 hi', turn_listF l it 0, st, fun b hb => ?_, hR⟩
    have e : b = it := by simpa using hb
    rw [e]
    exact inv_fp I2 hi (Nat.le_trans I1.sz hn)
  unfold callSpecialIfBoundUnlessNone?
  refine wpAny_holding ?_
  simp only [bindSpecialIfBound?]
  refine wpAny_bind (wpAny_bind (wpAny_bind (J.type.here ((PySem.W.looks_findIn KX hs).here ?_))))
  refine wpAny_bind (wpAny_askSetting (wpAny_ite ?_))
  split
  · refine wpAny_bind ((PySem.W.bind_fn KX _ (beq_iff_eq.mp hf)).here (wpAny_pure ?_))
    dsimp only
    rw [if_neg (by simp)]
    exact wpAny_bind (wpAny_mono call_ (fun v s2 hv => wpAny_pure (tail v s2 _ (fun _ => rfl) hv)) fun _ _ z => z)
  · refine wpAny_tryCatch (wpAny_bind ((PySem.W.bind_fn KX _ (beq_iff_eq.mp hf)).here (wpAny_pure ?_)))
    dsimp only
    rw [if_neg (by simp)]
    exact wpAny_bind (wpAny_mono call_ (fun v s2 hv => wpAny_pure (tail v s2 _ (fun _ => rfl) hv)) fun _ _ z => z)
end
end L2
namespace L2
open PySem PySem.Spec PyProof.Rows ItX
/-- such a def by its body: the promise is asked at the size that stands when the body begins -/
theorem fn_ofN {CX : CXT} {P : Program} {w : World} {K : PySem.W.Frag} {mg : Str → Option Value} {base : Heap} {k : Nat} {f : Addr} {name qual : Str} {pars : Arguments} {bd : List Stmt} {scp : Scope} {dV kV doc pm cdv ct oc : Value} {an od : Option Addr}
    {osl : Array (Option Value)} {N ps : List Str} {sp : Nat → Sp} (look : K.lookup f = some ⟨oc, od, .func (PySem.W.fnOf name qual pars bd scp dV kV doc pm an cdv ct), osl⟩) (code : PySem.W.codeIn K cdv qual = true) (S : FnScope N ps scp)
    (ln : ∀ n vs H Q E, sp n vs H Q E → vs.length = ps.length)
    (bdy : ∀ (A : Around) (outer : List Env) (s : Shared) (H : Hp) (vs : List V) (Q : VK) (E : XK), Room k (A.deeper (envOfC qual scp s.heap.objs.size f cdv)) → sp s.heap.objs.size vs H Q E →
      ∃ t, PSs (cxOf CX P w K mg base N qual scp f cdv A outer s H E) bd t ∧ t { nx := fun _ H2 => Q .non H2, rt := Q } (start N vs) H) :
    FnN P w K mg base CX (k + 1) f (PySem.W.fnOf name qual pars bd scp dV kV doc pm an cdv ct) ps sp := by
  refine ⟨ln, fun A outer s H args us vs Q E room env bind rel prom => ?_⟩
  have same_ := ln _ _ _ _ _ prom
  have inK : K.In s.heap := env.mod.kin.keeps fun b o e => (env.bs b o e).1
  have noLim : s.heap.NoLimit := env.mod.nolimit.keeps fun b o e => (env.bs b o e).1
  have kinds_ : ∀ y ∈ ps.zip us, scp.names.lookup y.1 = some .local ∨ (scp.names.lookup y.1 = some .cell ∧ ((cellsFrom (s.heap.objs.size + 1) scp.names []).lookup y.1).isSome = true) := fun ⟨n, v⟩ hy => by
    rcases S.par n (List.of_mem_zip hy).1 with z | z
    · exact .inl z
    · exact .inr ⟨z, PySem.W.cellsFrom_some _ _ _ (.inl z)⟩
  refine codeAny_call_function room.depth (inK _ _ look) rfl S.co S.gen rfl (PySem.W.codeRec_of inK code) (bind _ _ _ _ ?_)
  refine wpAny_newFunctionEnv_cells S.kind kinds_ fun env2 he2 s1 x => ?_
  subst he2
  refine ⟨noLim.keeps x.toInCall.keep, codeAny_func ?_⟩
  obtain ⟨t, ht, hq⟩ := bdy A outer s H vs Q E (room.deeper _) prom
  have I : Inv (cxOf CX P w K mg base N qual scp f cdv A outer s H E) [] (start N vs) H s1 := inv_start S room.hd env same_ rel x
  refine wpAny_mono (ht.run [] s1 (start N vs) H _ I hq) (fun fl s2 out => ?_) fun _ _ out => out
  have close_ : ∀ {σ2 : St} {H2 : Hp} {v : V} {u : Value}, Inv (cxOf CX P w K mg base N qual scp f cdv A outer s H E) [] σ2 H2 s2 → RelV v u → Q v H2 → CE outer P w H s Q u s2 :=
    fun {σ2 H2 v u} J rv q => ⟨v, H2, J.os, J.bare, J.base, J.hok, rv, q⟩
  cases fl with
  | ret u =>
    obtain ⟨v, σ2, H2, J, rv, q⟩ := out
    exact close_ J rv q
  | next =>
    obtain ⟨σ2, H2, J, q⟩ := out
    exact close_ (v := V.non) (u := Value.none) J rfl q
  | brk =>
    rcases out with ⟨_, _, _, z⟩
    exact z.elim
  | cont =>
    rcases out with ⟨_, _, _, z⟩
    exact z.elim
theorem Fun.okN {P : Program} {w : World} {K : PySem.W.Frag} {mg : Str → Option Value} {base : Heap} {x qual : Str} {st : Stmt} {f : Addr} {fd : FuncData} {N ps : List Str} {k : Nat} {sp : Nat → Sp} (F : Fun K x qual st f fd) (S : FnScope N ps (defScope st)) (ln : ∀ n vs H Q E, sp n vs H Q E → vs.length = ps.length)
    (bdy : ∀ (cdv : Value) (A : Around) (outer : List Env) (s : Shared) (H : Hp) (vs : List V) (Q : VK) (E : XK), Room k (A.deeper (envOfC qual (defScope st) s.heap.objs.size f cdv)) → sp s.heap.objs.size vs H Q E →
      ∃ t, PSs (cxOf CX0 P w K mg base N qual (defScope st) f cdv A outer s H E).nox (defBody st) t ∧ t { nx := fun _ H2 => Q .non H2, rt := Q } (start N vs) H) : FnN P w K mg base CX0 (k + 1) f fd ps sp := by
  obtain ⟨oc, od, kV, doc, pm, an, cdv, ct, osl, rfl, lk, hcd⟩ := F.ex
  refine fn_ofN lk hcd S ln fun A outer s H vs Q E hr hsp => ?_
  obtain ⟨t, h, q⟩ := bdy cdv A outer s H vs Q E hr hsp
  exact ⟨t, h.nox, q⟩
end L2
set_option Elab.async false
set_option linter.all false
namespace T3
open PySem L2
open ItX
open Evl (Ex)
/-- what an __iter__ that hands out iter(self.f) promises, f a field with a list -/
def spIt (K : PySem.W.Frag) (C : Addr) (f : Str) : Nat → Sp := fun n vs H Q _ => ∃ (a dx : Addr) (fs : List (Str × V)) (l : Addr) (zs : List V), vs = [V.ref a] ∧ H a = some (.ins C dx fs) ∧ fs.lookup f = some (V.ref l) ∧ SqL K H l zs ∧
  ∀ it, H it = none → n ≤ it → Q (.ref it) (upd H it (ItO l it 0))
theorem itlF0 {K : PySem.W.Frag} {l : Addr} : ItlF K l 0 = Itl K l := by
  unfold ItlF
  simp only [Nat.zero_add]
section
variable {B : Hp} {M : Mem} {K : PySem.W.Frag} {σ : Sig} {te : TE} {Q : List D → (Mem → Prop) → Mem → Prop}
/-- walking an own instance whose __iter__ hands out its list's iterator -/
theorem i_own {C : Addr} {f : Str} {E : XK} (h : W3e B te σ M (fun x M1 => ∃ b fs l ds, x = .ref b ∧ M1 b = some (.ins C fs) ∧ fs.lookup f = some (.ref l) ∧ M1 l = some (.lst ds) ∧ Q ds (fun M => M l = some (.lst ds)) M1)) : W3i B (iOwn K C (spIt K C f) E te) σ M Q := fun F σv H R b hs st k =>
  h F σv H _ b hs st fun F1 M1 x xv H1 e1 st1 rx ⟨bb, fs, a, ds, ex, hb, hf, hm, q⟩ => by
    subst ex
    obtain ⟨_, ho0, h0, dx, fv, e0, pk⟩ := st1.own bb _ hb
    subst e0
    obtain ⟨v0, hv0, rv0⟩ := (pkv_look (f := f) pk).1 hf
    have rv0 : v0 = V.ref a := rv0
    subst rv0
    obtain ⟨_, ho, h1, vs, e2, rs⟩ := st1.own a _ hm
    subst e2
    refine ⟨bb, dx, fv, rx, h0, fun n => ⟨bb, dx, fv, a, vs, rfl, h0, hv0, .inl (.inl h1), fun it hit hn => ⟨it, a, rfl, upd_same, hn, ?_⟩⟩⟩
    rw [dropH_upd hit, itlF0]
    refine k F1 M1 (Itl K a) ds _ H1 e1 st1 ⟨fun H => ∃ us, SqL K H a us ∧ us.length = vs.length, fun i H x H' => H' = H ∧ ∀ us, SqL K H a us → us[i]? = some x, ?_, ?_, ?_, ?_⟩ q
    · rw [rs.length]
      exact ⟨fun i H hi ⟨us, g, hl⟩ => ⟨us, us[i], g, by simp [hl, hi]⟩, fun H ⟨us, g, hl⟩ => ⟨us, g, Nat.le_of_eq hl⟩, fun i H x H' hi g y => y⟩
    · intro F' M' H' e s p
      obtain ⟨_, ho, h1', us, e2, rs'⟩ := s.own a _ p
      subst e2
      exact ⟨us, .inl (.inl h1'), by rw [← rs'.length, rs.length]⟩
    · intro i d x H' H'' F' M' hd e s p ⟨y1, y2⟩
      subst y1
      obtain ⟨f0, ho, h1', us', e2, rs'⟩ := s.own a _ p
      subst e2
      obtain ⟨v, hv, rv⟩ := rs'.at hd
      rw [y2 us' (.inl (.inl h1'))] at hv; cases hv
      exact ⟨F', Ex.refl _, s, rv⟩
    · intro M' p o hp hm'
      show mput M' p o a = _
      rw [mput_ne (mne hm' hp)]; exact hm'
end
end T3
set_option Elab.async false
set_option linter.all false
set_option maxRecDepth 100000
set_option maxHeartbeats 2000000
namespace L2
open PySem PySem.Spec PyProof.Rows ItX
/-- list(o) of an own instance whose __iter__ hands out iter(self.f) and whose __len__ is len(self.f) -/
def spLen (C : Addr) (f : Str) : Sp := fun vs H Q _ => ∃ (a dx : Addr) (fs : List (Str × V)) (l : Addr) (zs : List V), vs = [V.ref a] ∧ H a = some (.ins C dx fs) ∧ fs.lookup f = some (V.ref l) ∧ H l = some (.lst zs) ∧ Q (.int zs.length) H
def rLO (C : Addr) (f : Str) : List V → Hp → VK → Prop := fun xs H Q => ∃ (a dx : Addr) (fs : List (Str × V)) (l : Addr) (zs : List V), xs = [V.ref a] ∧ H a = some (.ins C dx fs) ∧ fs.lookup f = some (V.ref l) ∧ H l = some (.lst zs) ∧
  ∀ q, H q = none → Q (.ref q) (upd H q (.lst zs))
section
variable {X : Cx} {pins : List (Addr × Obj)} {σ : St} {H : Hp} {s : Shared} {C f fi fl l q it : Addr} {fdI fdL : FuncData} {psI psL : List Str} {g : Str} {n : Nat} {A1 : Around} {Rs : Result → Shared → Prop}
theorem lo_loop (sb : Sub X n A1.in1) (hc : A1.in1.handled = none) (hql : q ≠ l) (hqi : q ≠ it) {zs : List V} (hdone : ∀ s, Inv X pins σ (upd H q (.lst zs)) s → Rs (.ok (.ret .none)) s) (hl : H l = some (.lst zs)) (hf : FpOk X pins H it) :
    ∀ (k i : Nat) (s : Shared), i + k = zs.length → Inv X pins σ (upd H q (.lst (zs.take i))) s → s.heap.IsListIter it l i → codeAny (model X.prog X.w) A1 (.builtin "list.extend.loop" ⟨[.ref q, .ref it, .none], []⟩) Rs s := by
  obtain ⟨f0, f1, f2, f3, f4, f5⟩ := hf
  intro k
  induction k with
  | zero =>
    intro i s hk I st
    have hl' : upd H q (.lst (zs.take i)) l = some (.lst zs) := by rw [upd_ne (Ne.symm hql)]; exact hl
    have f0' : upd H q (.lst (zs.take i)) it = none := by rw [upd_ne (Ne.symm hqi)]; exact f0
    refine codeAny_builtin PySem.F.entry_extend_loop ?_
    rw [Around.under_plainId PySem.F.plain_extend_loop _]
    show wpAny _ A1.in1 (pyNext (.ref it) >>= _) _ _ s
    obtain ⟨_, its, c, rv, hlen, e⟩ := I.lstM hl'
    refine wpAny_bind (wpAny_pyNext_list_end hc st (PySem.IsL.isList e) (by simp; omega) fun h' eb => ?_)
    have I1 := I.turned (t' := s.toks) (fun b o hb e => eb b o hb e) f0' f1 f3 f4 f5
    rw [List.take_of_length_le (by omega)] at I1
    exact wpAny_pure (hdone _ I1)
  | succ k ih =>
    intro i s hk I st
    have hl' : upd H q (.lst (zs.take i)) l = some (.lst zs) := by rw [upd_ne (Ne.symm hql)]; exact hl
    have f0' : upd H q (.lst (zs.take i)) it = none := by rw [upd_ne (Ne.symm hqi)]; exact f0
    refine codeAny_builtin PySem.F.entry_extend_loop ?_
    rw [Around.under_plainId PySem.F.plain_extend_loop _]
    show wpAny _ A1.in1 (pyNext (.ref it) >>= _) _ _ s
    obtain ⟨hsz, its, c, rv, hlen, e⟩ := I.lstM hl'
    obtain ⟨x, hx⟩ : ∃ x, zs[i]? = some x := ⟨zs[i], List.getElem?_eq_getElem (by omega)⟩
    obtain ⟨u, hu, ru⟩ := rv.get hx
    refine wpAny_bind (wpAny_pyNext_list_item st (PySem.IsL.isList e) (x := u) (by simpa using hu) fun h' st' sb' => ?_)
    have I1 : Inv X pins σ (upd H q (.lst (zs.take i))) { s with heap := h' } := I.turned (t' := s.toks) (fun b o hb e => (sb'.2 b hb).trans e) f0' f1 f3 f4 f5
    show wpAny _ A1.in1 (updateSeq q (·.push u) >>= _) _ _ _
    obtain ⟨hs3, its3, k3, r3, hl3, e3⟩ := I1.lstM upd_same
    have h3 : its3.length = i := by rw [← hl3, List.length_take]; omega
    refine wpAny_bind (wpAny_updateSeq e3 rfl (wpAny_pure ⟨plainId_quiet PySem.F.plain_extend_loop _, ?_⟩) (by rw [List.size_toArray]; omega) (by show (its3.toArray.push u).size ≤ sizeLine + 1; rw [Array.size_push, List.size_toArray]; omega))
    have I2 := I1.lset (f := (·.push u)) (its' := its3 ++ [u]) (t' := s.toks) (ys := zs.take i ++ [x]) upd_same e3 (by simp) (r3.append (.cons ru .nil)) (by rw [List.length_append, List.length_singleton, List.length_take]; omega)
    rw [upd_upd] at I2
    have ht : zs.take i ++ [x] = zs.take (i + 1) := by
      rw [List.take_add_one, hx]; rfl
    rw [ht] at I2
    exact ih (i + 1) _ (by omega) I2 (st'.at fun o e => (Heap.get?_update_other _ _ hqi).trans e)
theorem own_iter {a dx : Addr} {fs : List (Str × V)} {sp : Nat → Sp} {E : XK} {R : Addr → Addr → Hp → Prop} {Q : Value → Shared → Prop} {EE : Value → Shared → Prop} (sb : Sub X n A1) (hs : PySem.W.findIn X.K (.ref C) "__iter__" = some (some (.ref fi))) (hf : PySem.W.isFn X.K (.ref fi) = true)
    (F : FnN X.prog X.w X.K X.mg X.base CX0 n fi fdI psI sp) (hb : Binds X.K fdI psI []) (I1 : Inv X pins σ H s) (ea : H a = some (.ins C dx fs))
    (q1 : sp s.heap.objs.size [.ref a] H (fun v H2 => ∃ (it l : Addr), v = V.ref it ∧ H2 it = some (ItO l it 0) ∧ s.heap.objs.size ≤ it ∧ R it l H2) E)
    (k : ∀ it l H2 s2, Inv X pins σ H2 s2 → H2 it = some (ItO l it 0) → s.heap.objs.size ≤ it → R it l H2 → Q (.ref it) s2) : wpAny (model X.prog X.w) A1 (pyIter (.ref a)) Q EE s := by
  obtain ⟨mA, O, _, _, _, _⟩ := ins_get I1.hok ea
  obtain ⟨od, J, _⟩ := O.look
  have KX := I1.kIn
  have hl : [Value.ref a].length = psI.length := by rw [← F.len _ _ _ _ _ q1]; rfl
  have b := hb s [.ref a] KX (by rw [List.append_nil]; exact hl)
  rw [List.append_nil] at b
  have e0 : Env0 X.prog X.w X.K X.mg X.base A1 X.stack s H := by
    have e := I1.env0
    exact ⟨by rw [sb.fr]; exact e.frames, e.mod, e.bs, e.bsz, e.funs, e.frf, e.hok, e.bare⟩
  obtain ⟨m0, hF⟩ := I1.fr
  refine PySem.W.owit_iter hF I1.ok.mod.kin J hs hf ?_
  have call_ : wpAny (model X.prog X.w) A1 (call (.ref fi) [.ref a]) (EP X pins σ (fun v H2 => ∃ (it l : Addr), v = V.ref it ∧ H2 it = some (ItO l it 0) ∧ s.heap.objs.size ≤ it ∧ R it l H2)) EE s := by
    refine wpAny_call (codeAny_mono (F.run A1 X.stack s H ⟨[.ref a], []⟩ [.ref a] [.ref a] _ E sb.room e0 b (.cons rfl .nil) q1) fun r s' hq => ?_)
    cases r with
    | error e => exact hq.elim
    | ok fl =>
      cases fl with
      | ret u => exact I1.after hq
      | next => exact False.elim hq
      | brk => exact False.elim hq
      | cont => exact False.elim hq
  refine wpAny_mono call_ (fun v s2 hv => ?_) fun _ _ z => z
  obtain ⟨y, H2, I2, ry, it, l, ey, hi, hn, hR⟩ := hv
  subst ey
  obtain rfl : v = Value.ref it := ry
  have eo := itO_get I2 hi
  have st : s2.heap.IsListIter it l (0 + 0) := ⟨_, eo, rfl, rfl⟩
  exact wpAny_specialOf st.typeIs slot_listiter_next.lookup (k it l H2 s2 I2 hi hn hR)
/-- the hint: __len__ is called -/
theorem own_hintL {a dx : Addr} {fs : List (Str × V)} {zs : List V} {Q : Bool → Shared → Prop} {EE : Value → Shared → Prop} (sb : Sub X n A1.in1) (hle : PySem.W.findIn X.K (.ref C) "__len__" = some (some (.ref fl))) (hlf : PySem.W.isFn X.K (.ref fl) = true)
    (FL : FnOk X.prog X.w X.K X.mg X.base CX0 n fl fdL psL (spLen C g)) (bL : Binds X.K fdL psL []) (I : Inv X pins σ H s) (ha : H a = some (.ins C dx fs)) (hg : fs.lookup g = some (.ref l)) (hl : H l = some (.lst zs))
    (k : ∀ b s', Inv X pins σ H s' → Q b s') : wpAny (model X.prog X.w) A1 (Builtin.List.listLengthHint (.ref a)) Q EE s := by
  obtain ⟨mA, J, _⟩ := ins_get I.hok ha
  obtain ⟨od, J, _⟩ := J.look
  obtain ⟨m0, hF⟩ := I.fr
  have KX := I.kIn
  have hlen := (I.lstM hl).1
  have q1 : spLen C g [.ref a] H (fun v H' => v = .int zs.length ∧ H' = H) (fun _ _ _ => False) := ⟨a, dx, fs, l, zs, rfl, ha, hg, hl, rfl, rfl⟩
  have hll := FL.len _ _ _ _ q1
  have e0 : Env0 X.prog X.w X.K X.mg X.base A1.in1 X.stack s H := by
    have e := I.env0
    exact ⟨by rw [sb.fr]; exact e.frames, e.mod, e.bs, e.bsz, e.funs, e.frf, e.hok, e.bare⟩
  have b := bL s [.ref a] KX (by simpa using hll)
  rw [List.append_nil] at b
  unfold Builtin.List.listLengthHint
  refine wpAny_bind (wpAny_bind (J.type.here ((PySem.W.looks_findIn KX hle).here ?_)))
  refine PySem.W.KFB.if_not rfl ?_
  refine wpAny_ite_split (fun _ => ?_) (fun h => absurd rfl h)
  refine wpAny_bind (wpAny_rule ?_)
  refine wpAny_bind (wpAny_attempt (PySem.W.len_K hF I.ok.mod.kin J hle hlf ?_))
  refine wpAny_call (codeAny_mono (FL.run A1.in1 X.stack s H ⟨[.ref a], []⟩ [.ref a] [.ref a] _ (fun _ _ _ => False) sb.room e0 b (.cons rfl .nil) q1) fun r s' hq => ?_)
  cases r with
  | error e => exact hq.elim
  | ok fl =>
    cases fl with
    | next => exact False.elim hq
    | brk => exact False.elim hq
    | cont => exact False.elim hq
    | ret u =>
      obtain ⟨v, H', I', rv, ev, eH⟩ := I.after hq
      subst ev
      rw [eH] at I'
      obtain ⟨t, rfl⟩ := rv
      have hz := sizeLine_eq
      refine ⟨⟨by omega, by omega⟩, ?_⟩
      show wpAny _ _ (asInt? (.int (zs.length : Int) s'.toks) >>= _) _ _ _
      refine wpAny_bind (m := asInt? _) (wpAny_pure ?_)
      dsimp only
      rw [if_neg (by rw [Int.toNat_natCast, notLongL hlen]; exact Bool.false_ne_true)]
      exact wpAny_pure (k _ _ (I'.tok _))
theorem lo_extend {zs : List V} {a dx : Addr} {fs : List (Str × V)} (sb : Sub X (n + 1) A1.in1) (hn0 : A1.in1.handled = none) (hit : PySem.W.findIn X.K (.ref C) "__iter__" = some (some (.ref fi))) (hif : PySem.W.isFn X.K (.ref fi) = true)
    (hle : PySem.W.findIn X.K (.ref C) "__len__" = some (some (.ref fl))) (hlf : PySem.W.isFn X.K (.ref fl) = true)
    (FI : FnN X.prog X.w X.K X.mg X.base CX0 n fi fdI psI (T3.spIt X.K C g)) (bI : Binds X.K fdI psI []) (FL : FnOk X.prog X.w X.K X.mg X.base CX0 n fl fdL psL (spLen C g)) (bL : Binds X.K fdL psL [])
    (hdone : ∀ s, Inv X pins σ (upd H q (.lst zs)) s → Rs (.ok (.ret .none)) s) (herr : ∀ e s, X.xe e s → Rs (.error e) s)
    (I : Inv X pins σ (upd H q (.lst [])) s) (hq : H q = none) (ha : H a = some (.ins C dx fs)) (hg : fs.lookup g = some (.ref l)) (hl : H l = some (.lst zs)) :
    wpAny (model X.prog X.w) A1.in1 (Builtin.List.listExtendWith (.ref q) (.ref a) .none)
      (fun fin s' => match fin with | .done f => Rs (.ok f) s' | .again c' => c'.quiet = true ∧ codeAny (model X.prog X.w) A1 c' Rs s') (fun e s' => Rs (.error e) s') s := by
  have hqa : q ≠ a := fun e => by rw [e, ha] at hq; cases hq
  have hql : q ≠ l := fun e => by rw [e, hl] at hq; cases hq
  have ha1 : upd H q (.lst []) a = some (.ins C dx fs) := by rw [upd_ne (Ne.symm hqa)]; exact ha
  have hl1 : upd H q (.lst []) l = some (.lst zs) := by rw [upd_ne (Ne.symm hql)]; exact hl
  obtain ⟨mA, J, _⟩ := ins_get I.hok ha1
  obtain ⟨od, J, _⟩ := J.look
  have KX := I.kIn
  have hlen := (I.lstM hl1).1
  unfold Builtin.List.listExtendWith
  refine wpAny_bind (J.type.here ?_)
  have h1 : Builtin.List.listSameRef (.ref q) (.ref a) = false := by simp [Builtin.List.listSameRef, hqa]
  have h2 : (Value.ref C == Value.type "list") = false := rfl
  have h3 : (Value.ref C == Value.type "tuple") = false := rfl
  simp only [h1, h2, h3, Bool.or_false, Bool.false_eq_true, if_false]
  refine wpAny_bind (own_iter (R := fun it l' H2 => l' = l ∧ upd H q (.lst []) it = none ∧ H2 = upd (upd H q (.lst [])) it (ItO l it 0)) (E := fun _ _ _ => False) (sb.mono (Nat.le_succ n)) hit hif FI bI I ha1 ?_ ?_)
  · exact ⟨a, dx, fs, l, zs, rfl, ha1, hg, .inl (.inl hl1), fun it h1 h2 => ⟨it, l, rfl, upd_same, h2, rfl, h1, rfl⟩⟩
  rintro it l' H2 s2 I2 hi hle' ⟨rfl, hn, rfl⟩
  have ne : ∀ {b : Addr} {o : HO}, upd H q (.lst []) b = some o → b ≠ it := fun e z => by rw [z, hn] at e; cases e
  refine wpAny_bind (wpAny_holding (own_hintL sb.in1 hle hlf FL bL I2 (by rw [upd_ne (ne ha1)]; exact ha1) hg (by rw [upd_ne (ne hl1)]; exact hl1) fun b s3 I3 => ?_))
  have I4 := inv_drop I3 hi
  have fp := inv_fp I3 hi (Nat.le_trans I.sz hle')
  rw [dropH_upd hn] at I4 fp
  have st : s3.heap.IsListIter it l' 0 := ⟨_, itO_get I3 hi, rfl, rfl⟩
  have hqi : q ≠ it := fun e => by rw [← e, upd_same] at hn; cases hn
  have fpH : FpOk X pins H it := ⟨by have := fp.1; rwa [upd_ne (Ne.symm hqi)] at this, fp.2⟩
  have loop : ∀ s, Inv X pins σ (upd H q (.lst (zs.take 0))) s → s.heap.IsListIter it l' 0 → codeAny (model X.prog X.w) A1 (.builtin "list.extend.loop" ⟨[.ref q, .ref it, .none], []⟩) Rs s :=
    fun s I st => lo_loop (sb.mono (Nat.le_succ n)) hn0 hql hqi hdone hl fpH zs.length 0 s (by omega) I st
  refine wpAny_ite_split (fun _ => ?_) (fun _ => wpAny_pure ⟨plainId_quiet PySem.F.plain_extend_loop _, loop s3 I4 st⟩)
  refine wpAny_bind (wpAny_rule ?_)
  refine wpAny_bind ?_
  show wpAny _ _ (updateSeq q (·.push .none) >>= fun _ => updateSeq q (·.pop)) _ _ _
  obtain ⟨z3, its3, k3, r3, hl3, e3⟩ := I4.lstM upd_same
  cases r3
  refine wpAny_bind (wpAny_updateSeq e3 rfl ?_)
  have I5 := I4.lset (f := (·.push Value.none)) (its' := [Value.none]) (ys := [.non]) (t' := s3.toks) upd_same e3 (by simp) (.cons rfl .nil) (by rw [List.length_singleton, sizeLine_eq]; decide)
  obtain ⟨z4, its4, k4, r4, hl4, e4⟩ := I5.lstM upd_same
  obtain ⟨u4, rfl, ru4⟩ := r4.one
  refine wpAny_updateSeq e4 rfl ?_ (by show 1 ≤ sizeLine; rw [sizeLine_eq]; decide) (by show 0 ≤ sizeLine + 1; exact Nat.zero_le _)
  have I6 := I5.lset (f := (·.pop)) (its := [u4]) (its' := []) (ys := []) (t' := s3.toks) upd_same e4 (by rfl) .nil (Nat.zero_le _)
  rw [upd_upd, upd_upd] at I6
  refine wpAny_pure ⟨plainId_quiet PySem.F.plain_extend_loop _, loop _ I6 ?_⟩
  exact st.at fun o e => (Heap.get?_update_other _ _ hqi).trans ((Heap.get?_update_other _ _ hqi).trans e)
theorem call_lstOwn (hcm : X.calm = true) (hit : PySem.W.findIn X.K (.ref C) "__iter__" = some (some (.ref fi))) (hif : PySem.W.isFn X.K (.ref fi) = true)
    (hle : PySem.W.findIn X.K (.ref C) "__len__" = some (some (.ref fl))) (hlf : PySem.W.isFn X.K (.ref fl) = true)
    (FI : FnN X.prog X.w X.K X.mg X.base CX0 n fi fdI psI (T3.spIt X.K C g)) (bI : Binds X.K fdI psI []) (FL : FnOk X.prog X.w X.K X.mg X.base CX0 n fl fdL psL (spLen C g)) (bL : Binds X.K fdL psL []) (hr : Room (n + 3) X.A) : CallR X (.type "list") (rLO C g) := by
  intro pins s σ H xs us Q I rv h
  obtain ⟨a, dx, fs, l, zs, rfl, ha, hg, hl, hq⟩ := h
  obtain ⟨u, rfl, ru⟩ := rv.one
  cases ru
  have sb : Sub X (n + 1) X.A.in1.in1 := (Sub.in1 (Sub.in1 (⟨hr, rfl⟩ : Sub X (n + 3) X.A)))
  refine callType_codes (Q₁ := fun obj s₁ => obj = .ref s.heap.objs.size ∧ s₁ = { s with heap := s.heap.push { cls := .type "list", data := .seq #[] } }) PySem.F.called_list (PySem.F.typeCall_list_1 _) PySem.F.entry_list_init
    (code_list_new _ ⟨rfl, rfl⟩) fun obj s₁ h₁ => ?_
  obtain ⟨rfl, rfl⟩ := h₁
  have hS : (s.heap.push { cls := .type "list", data := .seq #[] }).get? s.heap.objs.size = some { cls := .type "list", data := .seq #[] } := Heap.get?_push_size _ rfl
  refine ⟨⟨_, hS, rfl⟩, PySem.F.args_list_init_2 _ _, ?_⟩
  have fr : H s.heap.objs.size = none := I.hok.fresh (Nat.le_refl _)
  have I1 : Inv X pins σ (upd H s.heap.objs.size (.lst [])) { s with heap := s.heap.push { cls := .type "list", data := .seq #[] } } := I.lnew (its := []) (t' := s.toks) .nil (Nat.zero_le _)
  show wpAny _ _ (do let old ← Builtin.List.listItems (.ref s.heap.objs.size); Builtin.List.listUpdate (.ref s.heap.objs.size) (fun _ => #[]); letGo old.toList.reverse; Builtin.List.listExtendWith (.ref s.heap.objs.size) (.ref a) .none) _ _ _
  refine wpAny_bind ?_
  unfold Builtin.List.listItems
  refine wpAny_bind (wpAny_seqItems hS rfl (wpAny_pure ?_))
  show wpAny _ _ (updateSeq s.heap.objs.size (fun _ => #[]) >>= fun _ => letGo (#[] : Array Value).toList.reverse >>= fun _ => Builtin.List.listExtendWith (.ref s.heap.objs.size) (.ref a) .none) _ _ _
  refine wpAny_bind (wpAny_updateSeq hS rfl ?_)
  have I2 := I1.lset (f := fun _ => #[]) (its := []) (its' := []) (ys := []) (t' := s.toks) upd_same hS rfl .nil (Nat.zero_le _)
  rw [upd_upd] at I2
  refine wpAny_bind (wpAny_letGo ?_)
  exact lo_extend (A1 := X.A.in1) (Rs := wants (fun r s₂ => r = .none ∧ EP X pins σ Q (.ref s.heap.objs.size) s₂) X.xe) sb (I.ok.hd hcm) hit hif hle hlf FI bI FL bL
    (fun s' I' => ⟨rfl, .ref s.heap.objs.size, _, I', rfl, hq _ fr⟩) (fun e s' he => he) I2 fr ha hg hl
end
end L2
namespace T3
open PySem L2
open Evl (Ex)
section
variable {B : Hp} {M : Mem} {K : PySem.W.Frag} {Q : DQ}
theorem c3_lstOwn {b l C : Addr} {f : Str} {fs : List (Str × D)} {ds : List D} (hb : M b = some (.ins C fs)) (hf : fs.lookup f = some (.ref l)) (hm : M l = some (.lst ds)) (q : ∀ p, M p = none → Q (.ref p) (mput M p (.lst ds))) : C3 B (rLO C f) [.ref b] M Q := fun F H xv Qv bb st rx k => by
  obtain ⟨v, e, r⟩ := rx.sing
  subst e
  obtain rfl : v = V.ref b := r
  obtain ⟨_, ho0, h0, dx, fv, e0, pk⟩ := st.own b _ hb
  subst e0
  obtain ⟨v0, hv0, rv0⟩ := (pkv_look (f := f) pk).1 hf
  have rv0 : v0 = V.ref l := rv0
  subst rv0
  obtain ⟨_, ho, h1, vs, e2, rs⟩ := st.own l _ hm
  subst e2
  exact ⟨b, dx, fv, l, vs, rfl, h0, hv0, h1, fun p hp => k F _ (.ref p) _ _ (Ex.refl _) (st.newO (d := .lst ds) hp ⟨vs, rfl, rs⟩) rfl (q p (st.nn hp).2)⟩
end
end T3
set_option Elab.async false
set_option linter.all false
namespace T3
open PySem L2
open Evl (Ex)
def enumD (ds : List D) : List D := ds.mapIdx fun i d => .tup [.int (i : Nat), d]
theorem enumD_at {ds : List D} {i : Nat} {d : D} (h : (enumD ds)[i]? = some d) : ∃ x, ds[i]? = some x ∧ d = .tup [.int (i : Nat), x] := by
  unfold enumD at h
  rw [List.getElem?_mapIdx] at h
  obtain ⟨x, h1, h2⟩ := Option.map_eq_some_iff.mp h
  exact ⟨x, h1, h2.symm⟩
theorem enumD_len {ds : List D} : (enumD ds).length = ds.length := by simp [enumD]
section
variable {B : Hp} {M : Mem} {K : PySem.W.Frag} {σ : Sig} {ta : TA} {x y : D} {xs ys : List D}
theorem i_enum {Q : List D → (Mem → Prop) → Mem → Prop} (h : W3a B ta σ M (fun xs M1 => ∃ ds, xs = [.lst ds] ∧ Q (enumD ds) (fun _ => True) M1)) : W3i B (iEnum K ta) σ M Q := fun F σv H R b hs st k =>
  h F σv H _ b hs st fun F1 M1 xs xv H1 e1 st1 rx ⟨ds, ex, q⟩ => by
    subst ex
    obtain ⟨v, e, a, vs, ev, hf, rs⟩ := rx.sing
    subst e; subst ev
    refine ⟨a, vs, rfl, .inl (.inl (st1.fz a _ hf)), k F1 M1 (Ite K a) (enumD ds) _ H1 e1 st1 ⟨fun H => SqL K H a vs, _, WD.len (F := F1) (ds := enumD ds) (vs := []) walk_enum (by rw [enumD_len, rs.length]), ?_, ?_, fun _ _ _ _ z => z⟩ q⟩
    · intro F' M' H' e s _
      exact .inl (.inl (s.fz a _ (e a _ hf)))
    · intro i d x H' H'' F' M' hd e s _ y
      obtain ⟨T, u, v, rfl, hT, rfl, hu, hv⟩ := y
      cases hu
      obtain ⟨d0, h0, rfl⟩ := enumD_at hd
      obtain ⟨v', hv', rv⟩ := rs.at h0
      have hv : vs[i]? = some v := hv
      rw [hv] at hv'; cases hv'
      obtain ⟨s2, e2⟩ := s.new (o := .tup [.int (i : Nat), v]) hT
      exact ⟨_, e2, s2, T, _, rfl, upd_same, _, _, rfl, rfl, _, _, rfl, rv.mono (e.trans e2), rfl⟩
theorem r3_add_llO {Q : DQ} (lx : LstD M x xs) (ly : LstD M y ys) (h : xs.length + ys.length ≤ 1000000) (q : ∀ p, M p = none → Q (.ref p) (mput M p (.lst (xs ++ ys)))) : R3 B rADD x y M Q := fun F H xv yv Qv b st rx ry k => by
  obtain ⟨a, vs, e1, h1, r1⟩ := lx.at st rx
  obtain ⟨c, us, e2, h2, r2⟩ := ly.at st ry
  refine .inr (.inr ⟨a, c, vs, us, e1, e2, h1, h2, ?_, fun p hp => ?_⟩)
  · rw [← r1.length, ← r2.length]; exact Nat.le_trans h (by decide)
  · exact k F _ (.ref p) _ _ (Ex.refl _) (st.newO (d := .lst (xs ++ ys)) hp ⟨vs ++ us, rfl, r1.append r2⟩) rfl (q p (st.nn hp).2)
theorem c3_lstF {Q : DQ} {b l C : Addr} {f : Str} {fs : List (Str × D)} {ds : List D} (hb : M b = some (.ins C fs)) (hf : fs.lookup f = some (.ref l)) (hm : M l = some (.lst ds)) (q : Q (.lst ds) M) : C3 B (rLO C f) [.ref b] M Q := fun F H xv Qv bb st rx k => by
  obtain ⟨v, e, r⟩ := rx.sing
  subst e
  obtain rfl : v = V.ref b := r
  obtain ⟨_, ho0, h0, dx, fv, e0, pk⟩ := st.own b _ hb
  subst e0
  obtain ⟨v0, hv0, rv0⟩ := (pkv_look (f := f) pk).1 hf
  have rv0 : v0 = V.ref l := rv0
  subst rv0
  obtain ⟨_, ho, h1, vs, e2, rs⟩ := st.own l _ hm
  subst e2
  refine ⟨b, dx, fv, l, vs, rfl, h0, hv0, h1, fun p hp => ?_⟩
  obtain ⟨s2, e2⟩ := st.new (o := .lst vs) hp
  exact k _ _ (.lst ds) _ _ e2 s2 ⟨p, _, rfl, upd_same, rs.mono e2⟩ q
end
section
variable {B : Hp} {M : Mem} {K : PySem.W.Frag} {σ : Sig} {wi : TI} {g : TG} {tt : TT} {te : TE} {vs : List Nat} {Q : DQ}
theorem w_lcO (hg : OwnG g vs) (h : W3i B wi σ M (fun ds P M1 => ∃ I : Nat → List D → Mem → Prop, (∀ i acc M', I i acc M' → P M' ∧ acc.length ≤ i) ∧ ds.length ≤ 1000000 ∧ I 0 [] M1 ∧
      (∀ (i : Nat) d acc M' L, ds[i]? = some d → I i acc M' → M' L = none → G3 B g d (wipe3 σ vs) (mput M' L (.lst acc)) (fun σ2 M2 => W3t B tt σ2 M2 (fun b M3 =>
        if b = true then W3e B te σ2 M3 (fun y M4 => ∃ M5, M4 = mput M5 L (.lst acc) ∧ M5 L = none ∧ I (i + 1) (acc ++ [y]) M5) else ∃ M5, M3 = mput M5 L (.lst acc) ∧ M5 L = none ∧ I (i + 1) acc M5))) ∧
      (∀ acc M' L, M' L = none → I ds.length acc M' → Q (.ref L) (mput M' L (.lst acc))))) :
    W3e B (tLc wi g tt te vs) σ M Q := fun F σv H Qv b hs st k =>
  h F σv H _ b hs st fun F1 M1 J ds P H1 e1 st1 ⟨G, Y, w, hG, hY, hX⟩ ⟨I, hP, hl, h0, turn, fin⟩ L hL =>
    lc_it w (fun i H' => ∃ F' M' acc, Ex F1 F' ∧ M' L = none ∧ St3 F' (mput M' L (.lst acc)) H' ∧ I i acc M')
      ⟨F1, M1, [], Ex.refl _, (st1.nn hL).2, st1.newO (d := .lst []) hL ⟨[], rfl, rfl⟩, h0⟩
      (fun i H' _ ⟨F', M', acc, e, n, t, q⟩ => hG F' _ H' e t (hX M' L _ n (hP i acc M' q).1))
      (fun i x H' H'' hi ⟨F', M', acc, e, n, t, q⟩ y => by
        have hd : ds[i]? = some ds[i] := by simp [hi]
        obtain ⟨F2, e2, t2, rd⟩ := hY i _ x H' H'' F' _ hd e t (hX M' L _ n (hP i acc M' q).1) y
        have main := turn i _ acc M' L hd q n F2 (L2.wipe σv vs) H'' x (fun σ2 H2 => tt σ2 H2 fun b H3 => if b = true then te σ2 H3 fun y H4 => ∃ acc, H4 L = some (.lst acc) ∧ acc.length < sizeLine ∧ (∃ F' M' acc', Ex F1 F' ∧ M' L = none ∧ St3 F' (mput M' L (.lst acc')) (upd H4 L (.lst (acc ++ [y]))) ∧ I (i + 1) acc' M') else (∃ F' M' acc', Ex F1 F' ∧ M' L = none ∧ St3 F' (mput M' L (.lst acc')) H3 ∧ I (i + 1) acc' M'))
          (b.trans ((e1.trans e).trans e2)) (((hs.mono e1).mono (e.trans e2)).wipe vs) t2 rd fun F3 M3 σ3 σv3 H3 e3 s3 t3 q3 => ?_
        · exact hg x (L2.wipe σv vs) H'' _ _ (fun σ2 H2 w2 q2 => ⟨w2.trans wipe_wipe, q2⟩) main
        · refine q3 F3 σv3 H3 _ (b.trans (((e1.trans e).trans e2).trans e3)) s3 t3 fun F4 M4 c H4 e4 t4 q4 => ?_
          cases c with
          | false =>
            obtain ⟨M5, em, n5, i5⟩ := q4
            subst em
            exact ⟨F4, M5, acc, ((e.trans e2).trans e3).trans e4, n5, t4, i5⟩
          | true =>
            refine q4 F4 σv3 H4 _ (b.trans ((((e1.trans e).trans e2).trans e3).trans e4)) (s3.mono e4) t4 fun F5 M5' y v5 H5 e5 t5 r5 ⟨M5, em, n5, i5⟩ => ?_
            subst em
            obtain ⟨_, ho, h1, us, e6, rs⟩ := t5.own L _ mput_same
            subst e6
            have hlen := (hP i acc M' q).2
            refine ⟨us, h1, by rw [← rs.length]; exact Nat.lt_of_lt_of_le (Nat.lt_of_le_of_lt hlen hi) (Nat.le_trans hl (by decide)), F5, M5, acc ++ [y], (((e.trans e2).trans e3).trans e4).trans e5, n5, ?_, i5⟩
            have := t5.put (p := L) (d := .lst acc) (d' := .lst (acc ++ [y])) mput_same ⟨us ++ [v5], rfl, rs.snoc r5⟩
            rwa [mput_mput] at this)
      (fun H' ⟨F', M', acc, e, n, t, q⟩ => by
        obtain ⟨_, ho, h1, us, e6, rs⟩ := t.own L _ mput_same
        subst e6
        exact k _ _ (.ref L) (.ref L) H' (e1.trans e) t rfl (fin acc M' L n q))
theorem w_lcPO (p : D → Bool) (f : D → D) (hg : OwnG g vs) (h : W3i B wi σ M (fun ds P M1 => ds.length ≤ 1000000 ∧ P M1 ∧
      (∀ (i : Nat) d M', ds[i]? = some d → (∀ a o, M1 a = some o → M' a = some o) → G3 B g d (wipe3 σ vs) M' (fun σ2 M2 => M2 = M' ∧ W3t B tt σ2 M' (fun b M3 => M3 = M' ∧ b = p d ∧ (b = true → W3e B te σ2 M' (fun y M4 => M4 = M' ∧ y = f d))))) ∧
      ∀ L, M1 L = none → Q (.ref L) (mput M1 L (.lst ((ds.filter p).map f))))) :
    W3e B (tLc wi g tt te vs) σ M Q := by
  refine w_lcO hg fun F σv H R b hs st k => h F σv H R b hs st fun F' M' J ds P H' e s wd ⟨hl, hP, turn, q⟩ => k F' M' J ds P H' e s wd ?_
  refine ⟨fun i acc M2 => i ≤ ds.length ∧ M2 = M' ∧ acc = ((ds.take i).filter p).map f, fun i acc M2 ⟨hi, a, c⟩ => ⟨by rw [a]; exact hP, ?_⟩, hl, ⟨Nat.zero_le _, rfl, rfl⟩, fun i d acc M2 L hd ⟨hi, em, ea⟩ hL => ?_, fun acc M2 L hL ⟨_, em, ea⟩ => ?_⟩
  · rw [c, List.length_map]
    exact Nat.le_trans (List.length_filter_le _ _) (by rw [List.length_take]; exact Nat.min_le_left _ _)
  · subst em
    have hlt : i < ds.length := (List.getElem?_eq_some_iff.mp hd).1
    have et : ds.take (i + 1) = ds.take i ++ [d] := by rw [List.take_add_one, hd]; rfl
    intro F2 σ2 H2 xv Qv b2 hs2 st2 rx kk
    refine turn i d _ hd (fun a o ha => by rw [mput_ne (mne ha hL)]; exact ha) F2 σ2 H2 xv Qv b2 hs2 st2 rx fun F3 M3 σ3 σv3 H3 e3 s3 t3 ⟨e4, q4⟩ => kk F3 M3 σ3 σv3 H3 e3 s3 t3 ?_
    subst e4
    refine q4.to fun c M4 ⟨e5, e6, q5⟩ => ?_
    subst e5
    cases c with
    | true =>
      refine (q5 rfl).to fun y M5 ⟨e7, e8⟩ => ?_
      subst e7
      refine ⟨M2, rfl, hL, hlt, rfl, ?_⟩
      rw [et, List.filter_append, List.map_append, ← ea, e8]
      simp [← e6]
    | false =>
      refine ⟨M2, rfl, hL, hlt, rfl, ?_⟩
      rw [et, List.filter_append, List.map_append, ← ea]
      simp [← e6]
  · rw [List.take_length] at ea
    subst em; subst ea
    exact q L hL
end
end T3
set_option Elab.async false
set_option linter.all false
set_option maxRecDepth 100000
set_option maxHeartbeats 2000000
namespace L2
open PySem PySem.Spec PyProof.Rows
/-! ### keys that no dict of texts has: a truth value, a tuple -/
def bkIs : Bool ⊕ Str → Value → Bool
  | .inl b, v => v == .bool b
  | .inr x, v => Value.isStrOf x v
theorem bk_inl {b : Bool} {v : Value} (h : bkIs (.inl b) v = true) : v = .bool b := by simpa [bkIs] using h
theorem bk_inr {x : Str} {v : Value} (h : bkIs (.inr x) v = true) : ∃ t, v = .str x t := Value.isStrOf_shape (x := x) (v := v) h
def boolKind (prog : Program) (w : World) : PySem.KeyKind prog w (Bool ⊕ Str) where
  is := bkIs
  hash := fun k => match k with
    | .inl b => hashInt (if b = true then 1 else 0)
    | .inr x => hashStr w x
  inj := fun v a b ha hb => by
    cases a with
    | inl a =>
      have e := bk_inl ha
      subst e
      cases b with
      | inl b =>
        have e := bk_inl hb
        cases e; rfl
      | inr y =>
        obtain ⟨t, e⟩ := bk_inr hb
        cases e
    | inr x =>
      obtain ⟨t, e⟩ := bk_inr ha
      subst e
      cases b with
      | inl b => cases bk_inl hb
      | inr y =>
        obtain ⟨t, e⟩ := bk_inr hb
        cases e; rfl
  byValue := fun k v h => by
    cases k with
    | inl b => rw [bk_inl h]; rfl
    | inr x =>
      obtain ⟨t, e⟩ := bk_inr h
      rw [e]; rfl
  pyHash := @fun A E s k v Q hv h => by
    cases k with
    | inl b =>
      have e := bk_inl hv
      subst e
      have h' : Q (hashInt (if b = true then 1 else 0)) { s with toks := s.toks + 1 } := h
      rw [← reduce_bool] at h'
      refine PySem.W.pyHash_slot (T := "bool") rfl PySem.F.slot_bool_hash entry_int_hash (args_int_hash _) (beq_builtin_none _) (.inl rfl) ?_
      cases b
      · exact (show wpAny _ _ (do ret (← mkInt 0)) _ _ s from wpAny_bind (wpAny_mkInt (wpAny_pure ⟨_, _, rfl, h'⟩)))
      · exact (show wpAny _ _ (do ret (← mkInt 1)) _ _ s from wpAny_bind (wpAny_mkInt (wpAny_pure ⟨_, _, rfl, h'⟩)))
    | inr x =>
      obtain ⟨t, e⟩ := bk_inr hv
      subst e
      exact wpAny_pyHash_str h
  eqBool := @fun A E s a b u v Q hu hv h => by
    cases a with
    | inl a =>
      have e := bk_inl hu
      subst e
      cases b with
      | inl b =>
        have e := bk_inl hv
        subst e
        refine SeqAt.EqAt.bool_bool a b _ _ _ _ ?_
        have e : decide ((Sum.inl a : Bool ⊕ Str) = .inl b) = (a == b) := by cases a <;> cases b <;> rfl
        rw [← e]; exact h
      | inr y =>
        obtain ⟨t, e⟩ := bk_inr hv
        subst e
        rw [decide_eq_false (fun z => nomatch z)] at h
        exact SeqAt.EqAt.bool_str a y t _ _ _ _ h
    | inr x =>
      obtain ⟨t, e⟩ := bk_inr hu
      subst e
      cases b with
      | inl b =>
        have e := bk_inl hv
        subst e
        rw [decide_eq_false (fun z => nomatch z)] at h
        exact SeqAt.EqAt.str_bool x t b _ _ _ _ h
      | inr y =>
        obtain ⟨t', e⟩ := bk_inr hv
        subst e
        refine SeqAt.EqAt.str_str x t y t' _ _ _ _ ?_
        have e : decide ((Sum.inr x : Bool ⊕ Str) = .inr y) = (x == y) := by
          by_cases c : x = y
          · subst c; simp
          · rw [decide_eq_false (fun z => c (Sum.inr.inj z))]; exact (beq_eq_false_iff_ne.mpr c).symm
        rw [← e]; exact h
  «strs» := fun k x t v h => by
    cases k with
    | inl b => cases bk_inl h
    | inr y =>
      obtain ⟨t', e⟩ := bk_inr h
      cases e
      exact (mixKind prog w).«strs» (.inr x) x t v (by simp [mixKind, keyIs, Value.isStrOf] <;> rfl)
end L2
namespace L2
open PySem PySem.Spec PyProof.Rows
theorem pairs_mem {K : Type} [DecidableEq K] {prog : Program} {w : World} {knd : PySem.KeyKind prog w K} : ∀ {es : List DictEntry} {kvs : List (K × Value)}, Pairs knd es kvs → ∀ e ∈ es, ∃ p ∈ kvs, knd.is p.1 e.key = true
  | _, _, .nil, e, h => by cases h
  | _, _, .cons h1 _ r, e, h => by
    rcases List.mem_cons.mp h with rfl | h
    · exact ⟨_, List.mem_cons_self .., h1⟩
    · obtain ⟨p, hp, q⟩ := pairs_mem r e h
      exact ⟨p, List.mem_cons_of_mem _ hp, q⟩
theorem txt_keys {P : Program} {w : World} {h : Heap} {a : Addr} {vs : List (Key × Value)} (d : h.DictOf (mixKind P w) a vs) (ht : ∀ p ∈ vs, ∃ x, p.1 = Sum.inr x) :
    ∃ o es ep, h.get? a = some o ∧ o.ExactDict ∧ o.data = .dict es ep ∧ ∀ e ∈ es, ∃ (x : Str) (t : Tok), e.key = .str x t ∧ e.hash = hashStr w x := by
  obtain ⟨o, es, ep, ho, hx, hdt, hk, hp, hn⟩ := d
  refine ⟨o, es, ep, ho, hx, hdt, fun e he => ?_⟩
  obtain ⟨k, h1, h2⟩ := hk e he
  obtain ⟨p, hpm, h3⟩ := pairs_mem hp e (Array.mem_toList_iff.mpr he)
  obtain ⟨x, hx⟩ := ht p hpm
  have e1 : k = p.1 := (mixKind P w).inj e.key k p.1 h1 h3
  rw [hx] at e1
  subst e1
  rcases keyIs_shape (show keyIs (.inr x) e.key = true from h1) with ⟨i, t, e2, _⟩ | ⟨y, t, e2, e3⟩
  · cases e2
  · cases e2
    exact ⟨x, t, e3, h2⟩
theorem bool_map {P : Program} {w : World} {h : Heap} {a : Addr} {vs : List (Key × Value)} (d : h.DictOf (mixKind P w) a vs) (ht : ∀ p ∈ vs, ∃ x, p.1 = Sum.inr x) : ∃ f, h.MapOf (boolKind P w) a f ∧ ∀ b, f (.inl b) = none := by
  obtain ⟨o, es, ep, ho, hx, hdt, hk⟩ := txt_keys d ht
  refine ⟨fun k => findBy (boolKind P w).is es k, ⟨o, es, ep, ho, hx, hdt, fun e he => ?_, fun k => rfl⟩, fun b => ?_⟩
  · obtain ⟨x, t, h1, h2⟩ := hk e he
    refine ⟨.inr x, ?_, h2⟩
    show Value.isStrOf x e.key = true
    rw [h1]; simp [Value.isStrOf]
  · have q : (es.find? fun e => bkIs (.inl b) e.key) = none := by
      rw [Array.find?_eq_none]
      intro e he hq
      obtain ⟨x, t, h1, _⟩ := hk e he
      rw [h1] at hq
      exact nomatch bk_inl hq
    show (es.find? fun e => bkIs (.inl b) e.key).map (·.val) = none
    rw [q] <;> rfl
section
variable {prog : Program} {w : World} {K : Type} [DecidableEq K] {knd : HeapKind prog w K} {A : Around} {E : Value → Shared → Prop} {s : Shared}
theorem tells_alien {a : Addr} {k : K} {stored : List Value} {Q : Bool → Shared → Prop} (hkey : knd.is s.heap k a) (hst : ∀ v ∈ stored, ∃ (x : Str) (t : Tok), v = .str x t) (h : Q false s) :
    wpAny (model prog w) A (tableMayTell (.ref a) stored) Q E s := by
  unfold tableMayTell
  split
  · exact wpAny_pure h
  · refine wpAny_bind (knd.quiet hkey ?_)
    simp only [Bool.not_true, Bool.false_eq_true, if_false]
    refine wpAny_bind ?_
    refine wpAny_forIn_list _ (fun rest r s' => s' = s ∧ r = (none, ()) ∧ ∀ v ∈ rest, ∃ (x : Str) (t : Tok), v = .str x t) _ ?_ ?_ _ _ ⟨rfl, rfl, hst⟩
    · rintro x rest r s' ⟨rfl, rfl, hr⟩
      obtain ⟨x, t, rfl⟩ := hr _ List.mem_cons_self
      refine wpAny_bind (wpAny_pure ?_)
      simp only [Bool.not_true, Bool.false_eq_true, if_false]
      exact wpAny_pure ⟨rfl, rfl, fun v hv => hr v (List.mem_cons_of_mem _ hv)⟩
    · rintro r s' ⟨rfl, rfl, _⟩
      exact wpAny_pure h
theorem find_alien {d a : Addr} {o : Obj} {es : Array DictEntry} {ep : Nat} {k : K} {items : Array Value} {Q : Option Nat → Shared → Prop} (hA : A.units < cLine) (hkey : knd.is s.heap k a) (htup : s.heap.IsTuple a items)
    (ho : s.heap.get? d = some o) (hd : o.data = .dict es ep) (hk : ∀ e ∈ es, ∃ (x : Str) (t : Tok), e.key = .str x t) (hQ : Q none s) : wpAny (model prog w) A (dictFind d (.ref a) (knd.hash k)) Q E s := by
  have hany : ¬ (es.any fun e => e.key == Value.ref a && e.hash != knd.hash k) = true := by
    rw [← Array.any_toList, List.any_eq_true]
    rintro ⟨e, hin, hc⟩
    obtain ⟨x, t, h1⟩ := hk e (Array.mem_toList_iff.mp hin)
    rw [h1] at hc
    simp at hc
  have hst : ∀ v ∈ (placesWithHash es.size (fun i => es[i]?.map (·.hash)) (knd.hash k)).filterMap (fun i => es[i]?.map (·.key)), ∃ (x : Str) (t : Tok), v = .str x t := by
    intro v hv
    obtain ⟨i, _, hi⟩ := List.mem_filterMap.mp hv
    cases hei : es[i]? with
    | none => rw [hei] at hi; cases hi
    | some e =>
      rw [hei] at hi
      obtain rfl : e.key = v := by simpa using hi
      exact hk e (Array.mem_of_getElem? hei)
  unfold dictFind
  try with_reducible refine wpAny_holding ?_
  refine wpAny_bind (wpAny_dictEntries ho hd ?_)
  dsimp only
  rw [if_neg (show ¬ ((Value.ref a :: (placesWithHash es.size (fun i => es[i]?.map (·.hash)) (knd.hash k)).filterMap (fun i => es[i]?.map (·.key))).all carriedByValue) = true by simp [carriedByValue])]
  rw [if_neg hany]
  by_cases hone : (((placesWithHash es.size (fun i => es[i]?.map (·.hash)) (knd.hash k)).filterMap (fun i => es[i]?.map (·.key))) == [Value.ref a]) = true <;>
  (first | rw [if_pos hone] | rw [if_neg hone]) <;> (first | refine wpAny_bind (wpAny_pure ?_) | refine wpAny_bind (tells_alien hkey hst ?_)) <;> (
    rw [if_neg (by simp)]
    refine wpAny_bind ?_
    refine wpAny_forIn_list _ (fun rest b s' => s' = s ∧ b = (none, none)) _ ?_ ?_ _ _ ⟨rfl, rfl⟩
    · rintro x rest b s' ⟨rfl, rfl⟩
      cases hei : es[x]? with
      | none => exact wpAny_pure ⟨rfl, rfl⟩
      | some e =>
        obtain ⟨y, t, h1⟩ := hk e (Array.mem_of_getElem? hei)
        dsimp only
        by_cases hh : (e.hash == knd.hash k) = true
        · rw [if_pos hh, h1]
          refine wpAny_bind (wpAny_dictEpoch ho hd (wpAny_bind (SeqAt.EqAt.str_tuple y t htup hA _ _ _ _ (wpAny_bind (wpAny_dictEpoch ho hd ?_)))))
          show wpAny _ _ (if (ep != ep) = true then _ else _) _ E _
          rw [if_neg (by simp)]
          simp only [Bool.false_eq_true, if_false]
          refine wpAny_bind (wpAny_rule ?_)
          first | rw [if_neg (by simp)] | skip
          first
            | exact wpAny_pure ⟨rfl, rfl⟩
            | exact wpAny_bind (wpAny_pure (wpAny_pure ⟨rfl, rfl⟩))
        · rw [if_neg hh]
          exact wpAny_pure ⟨rfl, rfl⟩
    · rintro b s' ⟨rfl, rfl⟩
      exact wpAny_pure hQ)
end
end L2
namespace L2
open PySem PySem.Spec PyProof.Rows
section
variable {prog : Program} {w : World} {K : Type} [DecidableEq K] {knd : HeapKind prog w K} {A : Around} {E : Value → Shared → Prop} {s : Shared} {d a : Addr} {k : K} {items : Array Value} {vs : List (Key × Value)}
theorem get_alien {Q : Option Value → Shared → Prop} (hA : A.units < cLine) (hu : knd.room A) (hkey : knd.is s.heap k a) (htup : s.heap.IsTuple a items) (dd : s.heap.DictOf (mixKind prog w) d vs) (ht : ∀ p ∈ vs, ∃ x, p.1 = Sum.inr x)
    (h : Q none { s with toks := s.toks + knd.draws k }) : wpAny (model prog w) A (dictGet d (.ref a)) Q E s := by
  obtain ⟨o, es, ep, ho, _, hd, hk⟩ := txt_keys dd ht
  unfold dictGet
  try with_reducible refine wpAny_holding ?_
  refine wpAny_bind (knd.pyHash hu hkey (wpAny_bind ?_))
  exact find_alien (s := { s with toks := s.toks + knd.draws k }) hA hkey htup ho hd (fun e he => let ⟨x, t, q, _⟩ := hk e he; ⟨x, t, q⟩) (wpAny_pure h)
theorem has_alien {Q : Bool → Shared → Prop} (hA : A.in1.units < cLine) (hu : knd.room A.in1) (hkey : knd.is s.heap k a) (htup : s.heap.IsTuple a items) (hs : (d == sysModules) = false) (dd : s.heap.DictOf (mixKind prog w) d vs) (ht : ∀ p ∈ vs, ∃ x, p.1 = Sum.inr x)
    (h : Q false { s with toks := s.toks + knd.draws k }) : wpAny (model prog w) A (contains (.ref d) (.ref a)) Q E s := by
  refine wpAny_contains_slot dd.typeIs PySem.F.slot_dict_contains ?_
  refine call_meetsIn PySem.F.slot_dict_contains dd.typeIs PySem.F.entry_dict_contains (PySem.F.args_dict_contains_2 _ _) (S := fun A' R s' => A' = A ∧ s' = s ∧ R (.ok (.ret (.bool false))) { s with toks := s.toks + knd.draws k }) (fun A' R s' hS => ?_) ⟨rfl, rfl, wpAny_truthy_bool h⟩
  obtain ⟨rfl, rfl, hq⟩ := hS
  show wpAny _ _ (dictGet d (.ref a) >>= _) _ _ _
  refine wpAny_bind (get_alien hA hu hkey htup dd ht ?_)
  show wpAny _ _ (Builtin.Dict.pendingKey? d (.ref a) >>= _) _ _ _
  exact wpAny_bind (wpAny_pendingKey_other hs (wpAny_pure hq))
end
section
variable {X : Cx} {pins : List (Addr × Obj)} {σ : St} {H : Hp} {s : Shared} {a : Addr} {kvs : List (Key × V)} {A : Around} {E : Value → Shared → Prop}
/-- what no dict of texts has as a key -/
def NoKey (H : Hp) (y : V) : Prop := (∃ b, y = .bl b) ∨ ∃ (p : Addr) (ks : List Key), y = .ref p ∧ H p = some (.tup (ks.map kV))
theorem kv_txt {vs : List (Key × Value)} (r : KV kvs vs) (ht : ∀ p ∈ kvs, ∃ x, p.1 = Sum.inr x) : ∀ p ∈ vs, ∃ x, p.1 = Sum.inr x := by
  induction r with
  | nil => intro p hp; cases hp
  | cons h _ ih =>
    intro p hp
    rcases List.mem_cons.mp hp with rfl | hp
    · obtain ⟨x, hx⟩ := ht _ (List.mem_cons_self ..)
      exact ⟨x, by rw [← h.1]; exact hx⟩
    · exact ih (fun q hq => ht q (List.mem_cons_of_mem _ hq)) p hp
theorem d_inAl {Q : Value → Shared → Prop} {y : V} {u : Value} (hu : A.units + 1 < cLine) (I : Inv X pins σ H s) (e : Rd H a (.dK kvs)) (ht : ∀ p ∈ kvs, ∃ x, p.1 = Sum.inr x) (n : NoKey H y) (ry : RelV y u) (h : ∀ s', Inv X pins σ H s' → Q (.bool false) s') :
    wpAny (model X.prog X.w) A (compareOp .In u (.ref a)) Q E s := by
  obtain ⟨_, hd, vs, rel, dd⟩ := dk_rd I.hok e
  have ht' := kv_txt rel ht
  rcases n with ⟨b, rfl⟩ | ⟨p, ks, rfl, hp⟩
  · obtain ⟨f, hm, hf⟩ := bool_map dd ht'
    obtain rfl : u = Value.bool b := ry
    refine wpAny_in_of (show (boolKind X.prog X.w).is (.inl b) (.bool b) = true by simp [boolKind, bkIs]) hd hm ?_
    rw [hf]
    exact h _ (I.tok _)
  · cases (show u = Value.ref p from ry)
    have hk := key_of I.hok hp
    obtain ⟨o, its, n, h1, h2, h3, h4⟩ := id hk
    show wpAny _ _ (contains (.ref a) (.ref p) >>= fun b => pure (.bool b)) Q E s
    exact wpAny_bind (has_alien (by show A.units + 1 < cLine; exact hu) (tupleKind_room_in1 hu) hk ⟨o, h1, h2, n, h3⟩ hd dd ht' (wpAny_pure (h _ (I.tok _))))
theorem d_outAl {Q : Value → Shared → Prop} {y : V} {u : Value} (hu : A.units + 1 < cLine) (I : Inv X pins σ H s) (e : Rd H a (.dK kvs)) (ht : ∀ p ∈ kvs, ∃ x, p.1 = Sum.inr x) (n : NoKey H y) (ry : RelV y u) (h : ∀ s', Inv X pins σ H s' → Q (.bool true) s') :
    wpAny (model X.prog X.w) A (compareOp .NotIn u (.ref a)) Q E s := by
  obtain ⟨_, hd, vs, rel, dd⟩ := dk_rd I.hok e
  have ht' := kv_txt rel ht
  rcases n with ⟨b, rfl⟩ | ⟨p, ks, rfl, hp⟩
  · obtain ⟨f, hm, hf⟩ := bool_map dd ht'
    obtain rfl : u = Value.bool b := ry
    refine wpAny_notIn_of (show (boolKind X.prog X.w).is (.inl b) (.bool b) = true by simp [boolKind, bkIs]) hd hm ?_
    rw [hf]
    exact h _ (I.tok _)
  · cases (show u = Value.ref p from ry)
    have hk := key_of I.hok hp
    obtain ⟨o, its, n, h1, h2, h3, h4⟩ := id hk
    show wpAny _ _ (contains (.ref a) (.ref p) >>= fun b => pure (.bool !b)) Q E s
    exact wpAny_bind (has_alien (by show A.units + 1 < cLine; exact hu) (tupleKind_room_in1 hu) hk ⟨o, h1, h2, n, h3⟩ hd dd ht' (wpAny_pure (h _ (I.tok _))))
end
end L2
set_option Elab.async false
set_option linter.all false
set_option maxHeartbeats 1000000
namespace T3
open PySem L2
open Evl (Ex)
/-- in: as rIND; and values that no dict of texts has; and any data in a tuple of texts -/
def rINA (K : PySem.W.Frag) (P : Program) (w : World) (neg : Bool) : R2 := fun x y H Q => rIND K P w neg x y H Q ∨ (∃ (a : Addr) (kvs : List (L2.Key × V)), y = .ref a ∧ Rd H a (.dK kvs) ∧ (∀ p ∈ kvs, ∃ z, p.1 = Sum.inr z) ∧ NoKey H x ∧ Q (.bl neg) H) ∨
  ∃ d ds, Dp K H x d ∧ Dp K H y (.tuple ds) ∧ SeqAt.shaped d = true ∧ SeqAt.shaped (.tuple ds) = true ∧ Q (.bl (if neg then !(ds.any fun z => PyData.eqv z d) else ds.any fun z => PyData.eqv z d)) H
theorem canAll_of {ds : List PyData} (h : SeqAt.shaped (.tuple ds) = true) : PyData.canLayAll0 ds = true := by
  have := SeqAt.canLay_of_shaped h
  simpa [PyData.canLay0] using this
theorem op_INAK {X : Cx} (K : PySem.W.Frag) (P : Program) (w : World) (h1 : X.K = K) (h2 : X.prog = P) (h3 : X.w = w) (hu : X.A.units + 65 < cLine) : OpR X (compareOp .In) (rINA K P w false) := by
  intro pins s σ H x y v u Q I rx ry h
  rcases h with h | ⟨a, kvs, ey, hr, ht, hn, q⟩ | ⟨d, ds, hd, he, sd, se, q⟩
  · exact op_INDK K P w h1 h2 h3 hu pins s σ H x y v u Q I rx ry h
  · subst ey
    obtain rfl : u = Value.ref a := ry
    exact d_inAl (by omega) I hr ht hn rx fun s3 I3 => ⟨.bl false, H, I3, rfl, q⟩
  · subst h1
    obtain ⟨as, r1⟩ := Dp.reads I d x v hd rx
    obtain ⟨bs, r2⟩ := Dp.reads I (.tuple ds) y u he ry
    exact SeqAt.in_tuple_reads r2 r1 (canAll_of se) (SeqAt.canLay_of_shaped sd) (PyProof.Rows.room_in_shaped sd hu) ⟨.bl _, H, I, rfl, q⟩
theorem op_NINAK {X : Cx} (K : PySem.W.Frag) (P : Program) (w : World) (h1 : X.K = K) (h2 : X.prog = P) (h3 : X.w = w) (hu : X.A.units + 65 < cLine) : OpR X (compareOp .NotIn) (rINA K P w true) := by
  intro pins s σ H x y v u Q I rx ry h
  rcases h with h | ⟨a, kvs, ey, hr, ht, hn, q⟩ | ⟨d, ds, hd, he, sd, se, q⟩
  · exact op_NINDK K P w h1 h2 h3 hu pins s σ H x y v u Q I rx ry h
  · subst ey
    obtain rfl : u = Value.ref a := ry
    exact d_outAl (by omega) I hr ht hn rx fun s3 I3 => ⟨.bl true, H, I3, rfl, q⟩
  · subst h1
    obtain ⟨as, r1⟩ := Dp.reads I d x v hd rx
    obtain ⟨bs, r2⟩ := Dp.reads I (.tuple ds) y u he ry
    exact SeqAt.notIn_tuple_reads r2 r1 (canAll_of se) (SeqAt.canLay_of_shaped sd) (PyProof.Rows.room_in_shaped sd hu) ⟨.bl _, H, I, rfl, q⟩
section
variable {B : Hp} {M : Mem} {K : PySem.W.Frag} {P : Program} {w : World} {Q : DQ} {neg : Bool} {x y : D}
theorem r3_inA (h : R3 B (rIND K P w neg) x y M Q) : R3 B (rINA K P w neg) x y M Q := fun F H xv yv Qv b st rx ry k => .inl (h F H xv yv Qv b st rx ry k)
/-- what is no key of a dict of texts -/
def NoKeyD (x : D) : Prop := (∃ b, x = .bl b) ∨ ∃ ks : List L2.Key, x = .tup (ks.map kD)
theorem pkv_txt {F : Hp} : ∀ {kvs : List (L2.Key × D)} {kv : List (L2.Key × V)}, PKV F kvs kv → (∀ p ∈ kvs, ∃ z, p.1 = Sum.inr z) → ∀ p ∈ kv, ∃ z, p.1 = Sum.inr z
  | _, _, .nil, _, p, hp => by cases hp
  | (g, d') :: r, (g', v') :: rv, .cons h t, ht, p, hp => by
    rcases List.mem_cons.mp hp with rfl | hp
    · obtain ⟨z, hz⟩ := ht _ (List.mem_cons_self ..)
      exact ⟨z, h.1.symm.trans hz⟩
    · exact pkv_txt t (fun q hq => ht q (List.mem_cons_of_mem _ hq)) p hp
theorem r3_inNo {a : Addr} {kvs : List (L2.Key × D)} (hx : NoKeyD x) (hm : M a = some (.dK kvs)) (ht : ∀ p ∈ kvs, ∃ z, p.1 = Sum.inr z) (q : Q (.bl neg) M) : R3 B (rINA K P w neg) x (.ref a) M Q := fun F H xv yv Qv b st rx ry k => by
  obtain ⟨_, ho, h1, kv, e, pk⟩ := st.own a _ hm
  subst e
  refine .inr (.inl ⟨a, kv, ry, .inl h1, pkv_txt pk ht, ?_, k F M (.bl neg) _ H (Ex.refl _) st rfl q⟩)
  rcases hx with ⟨c, rfl⟩ | ⟨ks, rfl⟩
  · exact .inl ⟨c, rx⟩
  · obtain ⟨p, vs, e2, hb, rs⟩ := rx
    rw [rs.keys] at hb
    exact .inr ⟨p, ks, e2, st.fz p _ hb⟩
theorem dp_strs {H : Hp} : ∀ ss : List Str, DpAll K H (ss.map V.str) (ss.map PyData.str)
  | [] => .nil
  | x :: ss => .cons (.str x) (dp_strs ss)
theorem pys_strs : ∀ ss : List Str, pys (ss.map D.str) = ss.map PyData.str
  | [] => rfl
  | z :: zs => by
    show py (D.str z) :: pys (zs.map D.str) = PyData.str z :: zs.map PyData.str
    rw [pys_strs zs]; rfl
theorem r3_inTup {n : Nat} {a : Addr} {ss : List Str} (ht : ∀ H, SqT K H a (ss.map V.str)) (hss : okDs 0 (ss.map D.str) = true) (hx : okD n x = true) (q : Q (.bl (if neg then !((ss.map D.str).any fun z => peq z x) else (ss.map D.str).any fun z => peq z x)) M) (hn : n ≤ 64 := by decide) :
    R3 B (rINA K P w neg) x (.ref a) M Q := fun F H xv yv Qv b st rx ry k => by
  have e1 := pys_strs ss
  have e2 : okD 1 (.tup (ss.map D.str)) = true := hss
  have e3 : SeqAt.shaped (.tuple (ss.map PyData.str)) = true := by
    have := okD_shaped e2 (by decide)
    rw [← e1]; exact this
  refine .inr (.inr ⟨py x, ss.map PyData.str, okD_dp st.fz hx rx, ?_, okD_shaped hx hn, e3, ?_⟩)
  · rw [show yv = V.ref a from ry]
    exact .tup (ht H) (dp_strs ss)
  · have e4 : ((ss.map PyData.str).any fun z => PyData.eqv z (py x)) = (ss.map D.str).any fun z => peq z x := by
      rw [← e1, any_pys]; rfl
    rw [e4]
    exact k F M (.bl _) _ H (Ex.refl _) st rfl q
end
end T3
set_option Elab.async false
set_option linter.all false
set_option maxRecDepth 100000
set_option maxHeartbeats 2000000
namespace L2
open PySem PySem.Spec PyProof.Rows
def rNB : V → V → Hp → VK → Prop := fun x y H Q => ∃ a b, x = .bl a ∧ y = .bl b ∧ Q (.bl (!decide (a = b))) H
theorem op_NB {X : Cx} : OpR X (compareOp .IsNot) rNB := op_isnot_bl
def rIB : V → V → Hp → VK → Prop := fun x y H Q => ∃ a b, x = .bl a ∧ y = .bl b ∧ Q (.bl (decide (a = b))) H
theorem op_IB {X : Cx} : OpR X (compareOp .Is) rIB := op_is_bl
def rUP : V → List V → Hp → VK → Prop := fun x xs H Q => ∃ a, x = .str a ∧ xs = [] ∧ a.length ≤ 5592405 ∧ Q (.str (Txt.upper a)) H
theorem mt_UP {X : Cx} : MtR X "str.upper" rUP := mt_upper
theorem pi_listK {X : Cx} (K : PySem.W.Frag) (hK : X.K = K) {tg l : Expr} {tl : TE} (hl : PE X l tl) : PI X tg l (iList K tl) := hK ▸ pi_list hl
end L2
namespace T3
open PySem L2
open Evl (Ex)
section
variable {B : Hp} {M : Mem} {K : PySem.W.Frag} {Q : DQ} {x y : D} {ds : List D} {a : Addr} {s : Str}
theorem r3_NB {c d : Bool} (q : Q (.bl (!decide (c = d))) M) : R3 B rNB (.bl c) (.bl d) M Q := fun F H xv yv Qv b st rx ry k => ⟨c, d, rx, ry, k F M (.bl _) _ H (Ex.refl _) st rfl q⟩
theorem r3_IB {c d : Bool} (q : Q (.bl (decide (c = d))) M) : R3 B rIB (.bl c) (.bl d) M Q := fun F H xv yv Qv b st rx ry k => ⟨c, d, rx, ry, k F M (.bl _) _ H (Ex.refl _) st rfl q⟩
theorem m3_upper (hl : s.length ≤ 1000000) (q : Q (.str (Txt.upper s)) M) : M3 B rUP (.str s) [] M Q := fun F H xv xvs Qv b st rx rxs k =>
  ⟨s, rx, rxs, Nat.le_trans hl (by decide), k F M (.str (Txt.upper s)) _ H (Ex.refl _) st rfl q⟩
theorem m3_popAt0 (h : M a = some (.lst (x :: ds))) (hl : ds.length ≤ 100000) (q : Q x (mput M a (.lst ds))) : M3 B rPopAt (.ref a) [.int 0] M Q := fun F H xv xvs Qv b st rx rxs k => by
  obtain ⟨v, e, ry⟩ := rxs.sing
  rw [show v = V.int 0 from ry] at e
  obtain ⟨_, ho, h1, vs, e2, rs⟩ := st.own a _ h
  subst e2
  obtain ⟨u, us, eu, ru, rus⟩ := rs
  subst eu
  refine ⟨a, u :: us, 0, 0, u, rx, e, h1, by decide, by decide, ?_, rfl, k F _ x _ _ (Ex.refl _) (st.put h (d' := .lst ds) ⟨us, rfl, rus⟩) ru q⟩
  simp [seqIndex?]
/-- a slice that is changed later -/
theorem s3_lO {lo hi : Option Int} (l : LstD M x ds) (q : ∀ p, M p = none → Q (.ref p) (mput M p (.lst (cutD ds lo hi)))) : S3 B (rSL K) x lo hi M Q := fun F H xv Qv b st rx k => by
  obtain ⟨c, vs, e, h1, r⟩ := l.seq (K := K) st rx
  exact .inl ⟨c, vs, e, h1, fun p hp => k F (mput M p (.lst (cutD ds lo hi))) (.ref p) _ _ (Ex.refl _) (st.newO hp ⟨_, rfl, r.cut lo hi⟩) rfl (q p (st.nn hp).2)⟩
end
end T3
set_option Elab.async false
set_option linter.all false
namespace L2
open PySem PySem.Spec PyProof.Rows
def tTry (K : PySem.W.Frag) (Wo : WX) (l : List (Value × Option Nat × TS)) (tb : WX → TS) : TS := fun D σ H => tb (wManyA K Wo D l) D σ H
section
variable {X : Cx} {body : List Stmt} {h₀ : ExceptHandler} {hds : List ExceptHandler} {l : List (Value × Option Nat × TS)} {pos : Pos} {tb : WX → TS} {Wout : WX}
theorem ps_tryM (hs : X.stack = X.env :: X.outer) (hf : X.env.frame = some X.env.locals) (hN : X.N.Nodup) (hex : X.ex = []) (tk : Takes X Wout)
    (hb : ∀ (W : WX) (pn : List (Addr × Obj)) (xe : Value → Shared → Prop), Takes (X.tr pn xe) W → PassesOwn (model X.prog X.w) X.A X.env xe → PSs (X.tr pn xe) body (tb W))
    (hh : HdsOkA X (h₀ :: hds) l) : PS X (.Try body (h₀ :: hds) [] [] pos) (tTry X.K Wout l tb) := ps_try_manyA hs hf hN hex tk hb hh
end
end L2
namespace T3
open PySem L2
open Evl (Ex)
theorem s_tryM {B : Hp} {M : Mem} {K : PySem.W.Frag} {σ : Sig} {D3 : Ends3} {tb : WX → TS} {l : List (Value × Option Nat × TS)} {Wo : WX} {EWo : EW3} (ho : ImpW B EWo Wo) (h : ∀ B' W EW, Ex B B' → exW B K EWo D3 l = EW → ImpW B' EW W → W3s B' (tb W) D3 σ M) : W3s B (tTry K Wo l tb) D3 σ M := s_try (tb := tb) ho fun B' W b hW => h B' W _ b rfl hW
end T3
set_option Elab.async false
set_option linter.all false
set_option maxRecDepth 100000
set_option maxHeartbeats 2000000
namespace L2
open PySem PySem.Spec PyProof.Rows
/-! ### C(k = v) where what it raises is looked at with the slots of that moment -/
def tMakeT (C : Addr) (n m : Nat) (sp : Sp) (gV : List V → List V → List V) (E : St → XK) (t tk : TA) : TE := fun σ H Q => t σ H fun vs H1 => tk σ H1 fun zs H2 => vs.length = n ∧ zs.length = m ∧ ∀ x dx, H2 x = none → H2 dx = none → dx ≠ x →
  sp (gV (.ref x :: vs) zs) (upd (upd H2 dx (.own x)) x (.ins C dx [])) (fun v H3 => v = .non ∧ Q (.ref x) H3) (E σ)
/-- what leaves a call in a fresh state leaves at the caller's -/
def PassesNew (CX : CXT) (X : Cx) (σ : St) (E : XK) : Prop := ∀ (pins : List (Addr × Obj)) (H H' : Hp) (s s0 : Shared) (e : Value) (s' : Shared), Inv X pins σ H s → Inv X pins σ H' s0 → CX X.stack H' s0 E e s' → X.xe e s'
theorem passesNew {CX : CXT} {X : Cx} {σ : St} {E : XK} (h : PassesAt CX X σ E) : PassesNew CX X σ E := fun pins _ H' _ s0 e s' _ I c => h pins H' s0 e s' I c
section
variable {X : Cx} {CX : CXT} {k n : Nat} {f C : Addr} {fd : FuncData} {ps ks : List Str} {sp : Sp} {E : St → XK} {x : Str} {p pos : Pos} {kws : List Keyword} {t tk : TA} {g : List Value → List Value → List Value} {gV : List V → List V → List V}
theorem run_makeT {pins : List (Addr × Obj)} {σ : St} {H : Hp} {s : Shared} {Q : VK} {us ws : List Value} {vs zs : List V} (M : Mk X.K C f) (F : FnOk X.prog X.w X.K X.mg X.base CX k f fd ps sp) (hr : Room (k + 1) X.A) (hb : KBn X.K fd ps (n + 1) ks g gV) (hx : PassesAt CX X σ (E σ))
    (I : Inv X pins σ H s) (r : Vals vs us) (rz : Vals zs ws) (l1 : vs.length = n) (l2 : zs.length = ks.length)
    (h : ∀ x dx, H x = none → H dx = none → dx ≠ x → sp (gV (.ref x :: vs) zs) (upd (upd H dx (.own x)) x (.ins C dx [])) (fun v H2 => v = .non ∧ Q (.ref x) H2) (E σ)) :
    wpAny (model X.prog X.w) X.A (call (.ref C) us (ks.zip ws)) (EP X pins σ Q) X.xe s := by
  have hq := h (s.heap.objs.size + 1) s.heap.objs.size (I.hok.fresh (Nat.le_succ _)) (I.hok.fresh (Nat.le_refl _)) (Nat.ne_of_lt (Nat.lt_succ_self _))
  have I2 := Inv.made (C := C) I
  have r1 : Vals (V.ref (s.heap.objs.size + 1) :: vs) (Value.ref (s.heap.objs.size + 1) :: us) := .cons rfl r
  have r2 := hb.rel r1 rz
  have n1 : (Value.ref (s.heap.objs.size + 1) :: us).length = n + 1 := by
    rw [List.length_cons, ← r.length, l1]
  refine wpAny_call (make_map (f := f) I.kIn M.makes M.init (beq_iff_eq.mp M.fn) (codeAny_mono (F.run _ X.stack _ _ ⟨Value.ref (s.heap.objs.size + 1) :: us, ks.zip ws⟩ (g (Value.ref (s.heap.objs.size + 1) :: us) ws) _ _ (E σ) (hr.make C us (ks.zip ws))
    (I2.env0.make C us (ks.zip ws)) (hb.to _ (Value.ref (s.heap.objs.size + 1) :: us) ws I2.kIn n1 (rz.length.symm.trans l2)) r2 hq) fun r s' hq' => ?_))
  cases r with
  | error e => exact hx pins _ _ e s' I2 hq'
  | ok fl =>
    cases fl with
    | ret u =>
      obtain ⟨v, H', I3, rv, ev, q3⟩ := I2.after hq'
      subst ev
      exact ⟨rv, ⟨V.ref (s.heap.objs.size + 1), H', I3, rfl, q3⟩⟩
    | next => exact False.elim hq'
    | brk => exact False.elim hq'
    | cont => exact False.elim hq'
theorem pe_makeT0 (M : Mk X.K C f) (F : FnOk X.prog X.w X.K X.mg X.base CX k f fd ps sp) (hr : Room (k + 1) X.A) (hg : Gl X x) (hm : X.mg x = some (.ref C)) (hb : KBn X.K fd ps 1 ks g gV) (hx : ∀ σ, PassesAt CX X σ (E σ)) (hkw : PK X kws tk)
    (hall : (backToKw pos (keywordEach kws X.env)).all (·.1.isSome) = true := by rfl) (hks : (backToKw pos (keywordEach kws X.env)).filterMap (·.1) = ks := by rfl) (hdb : (x == ("__debug__" : Str)) = false := by decide)
    (hpl : ((backTo pos (starEach [] X.env)).any (·.1) || (backToKw pos (keywordEach kws X.env)).any (·.1.isNone)) = false := by rfl) :
    PE X (.Call (.Name x p) [] kws pos) (tMakeT C 0 ks.length sp gV E tNil tk) := by
  refine ⟨fun pins s σ H Q I h => ?_⟩
  refine wpAny_Call_Name_kw (ld_glob I hg hm ?_ hdb)
  refine PySem.W.callWith_KW0 (h₀ := X.base) I.ok.mod.kin M.kp hall ?_ hpl
  refine thn (hkw.run pos pins s σ H _ I h) fun ws s2 ⟨zs, H2, I2, rz, l1, l2, q2⟩ => ⟨I2.kIn, ?_⟩
  rw [hks]
  exact run_makeT (us := []) (vs := []) M F hr hb (hx σ) I2 .nil rz rfl l2 q2
theorem pe_conK {X : Cx} {e : Expr} {ta : TE} {f : Str} {pos : Pos} (K : PySem.W.Frag) (h : X.K = K) (he : PE X e ta) (hb : attributeBase e f X.env (eval e X.env) = eval e X.env := by rfl) : PE X (.Attribute e f pos) (tCon K ta f) := by subst h; exact pe_con he hb
end
/-! ### len of an own instance -/
def rLenOwn (C : Addr) (f : Str) : List V → Hp → VK → Prop := fun xs H Q => ∃ (a dx : Addr) (fs : List (Str × V)) (l : Addr) (zs : List V), xs = [V.ref a] ∧ H a = some (.ins C dx fs) ∧ fs.lookup f = some (V.ref l) ∧ H l = some (.lst zs) ∧ Q (.int zs.length) H
section
variable {X : Cx} {n : Nat} {C fl : Addr} {fdL : FuncData} {psL : List Str} {g : Str}
theorem call_lenOwn (hle : PySem.W.findIn X.K (.ref C) "__len__" = some (some (.ref fl))) (hlf : PySem.W.isFn X.K (.ref fl) = true)
    (FL : FnOk X.prog X.w X.K X.mg X.base CX0 n fl fdL psL (spLen C g)) (bL : Binds X.K fdL psL []) (hr : Room (n + 1) X.A) : CallR X (.builtin "len") (rLenOwn C g) := by
  intro pins s σ H xs us Q I rv h
  obtain ⟨a, dx, fs, l, zs, rfl, ha, hg, hl, q⟩ := h
  obtain ⟨u, rfl, ru⟩ := vals1 rv
  obtain rfl : u = Value.ref a := ru
  obtain ⟨mA, J, _⟩ := ins_get I.hok ha
  obtain ⟨od, J, _⟩ := J.look
  obtain ⟨m0, hF⟩ := I.fr
  have KX := I.kIn
  have hlen := (I.lstM hl).1
  have q1 : spLen C g [.ref a] H (fun v H' => v = .int zs.length ∧ H' = H) (fun _ _ _ => False) := ⟨a, dx, fs, l, zs, rfl, ha, hg, hl, rfl, rfl⟩
  have hll := FL.len _ _ _ _ q1
  have e0 : Env0 X.prog X.w X.K X.mg X.base X.A.in1 X.stack s H := I.env0.in1
  have b := bL s [.ref a] KX (by simpa using hll)
  rw [List.append_nil] at b
  refine PySem.W.len_K hF I.ok.mod.kin J hle hlf ?_
  refine wpAny_call (codeAny_mono (FL.run X.A.in1 X.stack s H ⟨[.ref a], []⟩ [.ref a] [.ref a] _ (fun _ _ _ => False) hr.in1 e0 b (.cons rfl .nil) q1) fun r s' hq => ?_)
  cases r with
  | error e => exact hq.elim
  | ok fl =>
    cases fl with
    | next => exact False.elim hq
    | brk => exact False.elim hq
    | cont => exact False.elim hq
    | ret u =>
      obtain ⟨v, H', I', rv, ev, eH⟩ := I.after hq
      subst ev
      rw [eH] at I'
      obtain ⟨t, rfl⟩ := rv
      have hz := sizeLine_eq
      exact ⟨⟨by omega, by omega⟩, .int zs.length, H, I'.tok _, ⟨_, rfl⟩, q⟩
end
end L2
namespace T3
open PySem L2
open Evl (Ex)
section
variable {B : Hp} {M : Mem} {K : PySem.W.Frag} {σ : Sig} {t tk : TA} {ta tv te : TE} {Q : DQ} {S : Sp3} {E3 : EQ3} {dds : List D} {dvs : List V} {P : Program} {w : World} {D3 : Ends3}
/-- a constant of the class through an instance -/
theorem w_con {f : Str} {i : Int} {C : Addr} {u : Value} (hv : Con K C f (.int i) u) (hc : Cls K C) (h : W3e B ta σ M (fun x M1 => ∃ fs, InsD M1 x C fs ∧ fs.lookup f = none ∧ Q (.int i) M1)) : W3e B (tCon K ta f) σ M Q := fun F σv H Qv b hs st k =>
  h F σv H _ b hs st fun F1 M1 x xv H1 e1 st1 rx ⟨fs, hi, l, q⟩ => by
    obtain ⟨a, dx, fv, ev, ha, pk⟩ := hi.at st1 rx
    exact ⟨a, C, dx, fv, .int i, u, ev, ha, hc, hv, (pkv_look pk).2 l, k F1 M1 (.int i) _ H1 e1 st1 rfl q⟩
/-- a property, read -/
theorem w_prop {C : Addr} {E : XK} (hE : ImpE B E3 E) (h : W3e B ta σ M (fun x M1 => ∃ fs, InsD M1 x C fs ∧ S [x] M1 Q E3)) : W3e B (tProp C (lift3 S) [] E ta) σ M Q := fun F σv H Qv b hs st k =>
  h F σv H _ b hs st fun F1 M1 x xv H1 e1 st1 rx ⟨fs, hi, q1⟩ => by
    obtain ⟨a, dx, fv, ev, ha, pk⟩ := hi.at st1 rx
    refine ⟨a, dx, fv, ev, ha, ?_⟩
    exact lift_of (ds := [x]) (b.trans e1) st1 ⟨_, _, rfl, (by rw [← ev]; exact rx), rfl⟩ hE (fun F3 M3 d v H3 e3 s3 r3 q3 => k F3 M3 d v H3 (e1.trans e3) s3 r3 q3) q1
theorem c3_lenOwn {b l C : Addr} {f : Str} {fs : List (Str × D)} {ds : List D} (hb : M b = some (.ins C fs)) (hf : fs.lookup f = some (.ref l)) (hm : M l = some (.lst ds)) (q : Q (.int ds.length) M) : C3 B (rLenOwn C f) [.ref b] M Q := fun F H xv Qv bb st rx k => by
  obtain ⟨v, e, r⟩ := rx.sing
  subst e
  obtain rfl : v = V.ref b := r
  obtain ⟨_, ho0, h0, dx, fv, e0, pk⟩ := st.own b _ hb
  subst e0
  obtain ⟨v0, hv0, rv0⟩ := (pkv_look (f := f) pk).1 hf
  have rv0 : v0 = V.ref l := rv0
  subst rv0
  obtain ⟨_, ho, h1, vs, e2, rs⟩ := st.own l _ hm
  subst e2
  exact ⟨b, dx, fv, l, vs, rfl, h0, hv0, h1, by rw [← rs.length]; exact k F M (.int _) _ H (Ex.refl _) st rfl q⟩
/-- C(k = v) -/
theorem w_makeT {C : Addr} {n k' : Nat} {gV : List V → List V → List V} {gD : List D → List D → List D} {W : WX} {EW : EW3} (hg : Put2 gV gD) (hW : ImpW B EW W)
    (h : W3a B t σ M (fun ds M2 => W3a B tk σ M2 (fun es M3 => ds.length = n ∧ es.length = k' ∧ ∀ p, M3 p = none → S (gD (.ref p :: ds) es) (mput M3 p (.ins C [])) (fun d M4 => d = .non ∧ Q (.ref p) M4) (fun C th M' => EW C th σ M')))) : W3e B (tMakeT C n k' (lift3 S) gV (WE W) t tk) σ M Q := fun F σv H Qv b hs st k =>
  h F σv H _ b hs st fun F1 M1 ds vs H1 e1 st1 rs q1 => q1 F1 σv H1 _ (b.trans e1) (hs.mono e1) st1 fun F2 M2 es zs H2 e2 st2 rz ⟨l1, l2, q2⟩ => by
    refine ⟨by rw [← rs.length]; exact l1, by rw [← rz.length]; exact l2, fun x dx hx hdx hne => ?_⟩
    have hx2 : (upd H2 dx (.own x)) x = none := by rw [upd_ne (Ne.symm hne)]; exact hx
    have s1 : St3 F2 M2 (upd H2 dx (.own x)) := by
      obtain ⟨f0, m0⟩ := st2.nn hdx
      refine ⟨fun a u e => ?_, fun a u e => ?_⟩
      · rw [upd_ne (ne_of_none e f0)]; exact st2.fz a u e
      · obtain ⟨y1, ho, y2, y3⟩ := st2.own a u e
        exact ⟨y1, ho, by rw [upd_ne (mne e m0)]; exact y2, y3⟩
    have s2 := s1.newO (p := x) (o := .ins C dx []) (d := .ins C []) hx2 ⟨dx, [], rfl, .nil⟩
    refine ⟨gD (.ref x :: ds) es, F2, _, (fun d M4 => d = .non ∧ Q (.ref x) M4), _, hg _ _ _ _ _ ⟨V.ref x, _, rfl, rfl, rs.mono e2⟩ rz, s2, fun F3 M3 d v H3 e3 s3 r3 ⟨ed, q3⟩ => ?_, fun F' M' C d thing v H' e s r z q' => hW F' M' σ σv C d thing v H' ((b.trans (e1.trans e2)).trans e) ((hs.mono (e1.trans e2)).mono e) s r z q', q2 x (st2.nn hx).2⟩
    subst ed
    exact ⟨r3, k F3 M3 (.ref x) (.ref x) H3 ((e1.trans e2).trans e3) s3 rfl q3⟩
/-- forget much at once -/
theorem vs_less {d : D} {M M' : Mem} (h : ∀ a o, M' a = some o → M a = some o) : VS d M d M' := fun F H v s r => ⟨F, Ex.refl _, ⟨s.fz, fun a o e => s.own a o (h a o e)⟩, r⟩
theorem vss_less {σ : Sig} {M M' : Mem} (h : ∀ a o, M' a = some o → M a = some o) : VSs σ M σ M' := fun F H σv s r => ⟨F, Ex.refl _, ⟨s.fz, fun a o e => s.own a o (h a o e)⟩, r⟩
end
end T3
set_option Elab.async false
set_option linter.all false
set_option maxRecDepth 100000
set_option maxHeartbeats 2000000
namespace L2
open PySem PySem.Spec PyProof.Rows PySem.W
/-! ### a method with **d, called with keywords: they are laid into a new dict -/
def kwPs (ks : List Str) (zs : List V) : List (Key × V) := (ks.map Sum.inr).zip zs
theorem mod_last {α : Type} (f : α → α) (a : α) : ∀ l : List α, (l ++ [a]).modify l.length f = l ++ [f a]
  | [] => rfl
  | x :: l => by
    show x :: (l ++ [a]).modify l.length f = _
    rw [mod_last f a l]
    rfl
theorem push_update (h : Heap) (o : Obj) (f : Obj → Obj) : (h.push o).update h.objs.size f = h.push (f o) := by
  cases h with
  | mk objs l =>
    show (⟨(objs.push o).modify objs.size f, l⟩ : Heap) = ⟨objs.push (f o), l⟩
    congr 1
    apply Array.ext'
    rw [Array.toList_modify, Array.toList_push, Array.toList_push]
    exact mod_last f o objs.toList
theorem kw_put {M : Model} {A : Around} {E : Value → Shared → Prop} {h : Heap} {s : Shared} {es : List DictEntry} {n : Nat} {k : Str} {v : Value} {Q : Unit → Shared → Prop} (hp : s.heap = h.push (dictOf es n))
    (hs : ∀ e ∈ es, e.key.isStr k = false) (hr : ∀ e ∈ es, e.refKey = false)
    (q : Q () { s with heap := h.push (dictOf (es ++ [⟨PyData.keyHash M.w.params k, .str k s.toks, v⟩]) (n + 1)), toks := s.toks + 1 }) :
    wpAny M A (nsSet h.objs.size k v) Q E s := by
  have e1 : es.any (·.key.isStr k) = false := by
    cases q : es.any (·.key.isStr k) with
    | false => rfl
    | true => obtain ⟨e, he, z⟩ := List.any_eq_true.mp q; rw [hs e he] at z; cases z
  have e2 : es.any (·.refKey) = false := by
    cases q : es.any (·.refKey) with
    | false => rfl
    | true => obtain ⟨e, he, z⟩ := List.any_eq_true.mp q; rw [hr e he] at z; cases z
  have e : Obj.putName k (PyData.keyHash M.w.params k) (.str k s.toks) v (dictOf es n) = dictOf (es ++ [⟨PyData.keyHash M.w.params k, .str k s.toks, v⟩]) (n + 1) := by
    rw [putName_dict, putL_new hs]
    show dictOf _ (if es.any (·.key.isStr k) then n else n + 1) = _
    rw [e1, if_neg Bool.false_ne_true]
  have D : s.heap.get? h.objs.size = some (dictOf es n) := by rw [hp]; exact Heap.get?_push_size h rfl
  have c : aRefKeyMayBeTheName k es.toArray = false := by
    rw [aRefKeyMayBeTheName_at, ← Array.any_toList, ← Array.any_toList]
    show (!es.any (·.key.isStr k) && es.any (·.refKey)) = false
    rw [e2, Bool.and_false]
  unfold nsSet
  refine wpAny_bind (wpAny_bind (wpAny_askSetting (wpAny_pure (wpAny_bind (wpAny_mkText (wpAny_bind (wpAny_loadPart D ?_)))))))
  dsimp only
  rw [c]
  refine wpAny_updatePart D ?_
  show Q () { s with heap := s.heap.update h.objs.size _, toks := s.toks + 1 }
  rw [hp, push_update]
  show Q () { s with heap := h.push (Obj.putName k (PyData.keyHash M.w.params k) (.str k s.toks) v (dictOf es n)), toks := s.toks + 1 }
  rw [e]
  exact q
theorem kw_fill {M : Model} {A : Around} {E : Value → Shared → Prop} {h : Heap} {Q : PUnit → Shared → Prop} : ∀ (ex : List (Str × Value)) (s : Shared) (es : List DictEntry) (n : Nat), s.heap = h.push (dictOf es n) →
    (∀ e ∈ es, ∀ x ∈ ex, e.key.isStr x.1 = false) → (∀ e ∈ es, e.refKey = false) → (ex.map (·.1)).Nodup →
    Q ⟨⟩ { s with heap := h.push (dictOf (es ++ kwEs M.w.params s.toks ex) (n + ex.length)), toks := s.toks + ex.length } →
    wpAny M A (forIn ex PUnit.unit fun x _ => (nsSet h.objs.size x.1 x.2 >>= fun _ => pure (ForInStep.yield PUnit.unit))) Q E s
  | [], s, es, n, hp, _, _, _, q => by
    rw [List.forIn_nil]
    refine wpAny_pure ?_
    have q : Q ⟨⟩ { s with heap := h.push (dictOf (es ++ []) n), toks := s.toks } := q
    rw [List.append_nil, ← hp] at q
    exact q
  | x :: r, s, es, n, hp, hs, hr, hn, q => by
    obtain ⟨hn1, hn2⟩ := List.nodup_cons.mp (show (x.1 :: r.map (·.1)).Nodup from hn)
    rw [List.forIn_cons]
    refine wpAny_bind (wpAny_bind (kw_put hp (fun e he => hs e he x (.head _)) hr (wpAny_pure ?_)))
    show wpAny M A (forIn r PUnit.unit fun x _ => (nsSet h.objs.size x.1 x.2 >>= fun _ => pure (ForInStep.yield PUnit.unit))) Q E _
    refine kw_fill r _ _ _ rfl (fun e he y hy => ?_) (fun e he => ?_) hn2 ?_
    · rcases List.mem_append.mp he with he | he
      · exact hs e he y (.tail _ hy)
      · obtain rfl := List.mem_singleton.mp he
        show (x.1 == y.1) = false
        exact beq_eq_false_iff_ne.mpr fun q => hn1 (by rw [q]; exact List.mem_map_of_mem hy)
    · rcases List.mem_append.mp he with he | he
      · exact hr e he
      · obtain rfl := List.mem_singleton.mp he
        rfl
    · have t1 : s.toks + 1 + r.length = s.toks + (r.length + 1) := by omega
      have t2 : n + 1 + r.length = n + (r.length + 1) := by omega
      show Q ⟨⟩ { s with heap := h.push (dictOf ((es ++ [⟨PyData.keyHash M.w.params x.1, .str x.1 s.toks, x.2⟩]) ++ kwEs M.w.params (s.toks + 1) r) (n + 1 + r.length)), toks := s.toks + 1 + r.length }
      rw [t1, t2, List.append_assoc]
      exact q
theorem kwEs_mix {P : Program} {w : World} : ∀ {ks : List Str} {ws : List Value} {zs : List V} (t : Tok), Vals zs ws → zs.length = ks.length → ∃ vs, KV (kwPs ks zs) vs ∧ Pairs (mixKind P w) (kwEs w.params t (ks.zip ws)) vs ∧ vs.map (·.1) = ks.map Sum.inr
  | [], _, _, t, .nil, _ => ⟨[], .nil, .nil, rfl⟩
  | k :: ks, _, _, t, .cons r rs, l => by
    obtain ⟨vs, h1, h2, h3⟩ := kwEs_mix (P := P) (w := w) (ks := ks) (t + 1) rs (Nat.succ.inj l)
    exact ⟨(Sum.inr k, _) :: vs, .cons ⟨rfl, r⟩ h1, .cons (mixKind_str P w k t) rfl h2, by rw [List.map_cons, h3]; rfl⟩
  | [], _, _, _, .cons _ _, l => nomatch l
  | _ :: _, _, _, _, .nil, l => nomatch l
theorem kw_obj {P : Program} {w : World} {H : Hp} {h : Heap} {ks : List Str} {ws : List Value} {zs : List V} {n : Nat} (t : Tok) (hb : sysModules < h.objs.size) (r : Vals zs ws) (l : zs.length = ks.length) (hz : ks.length ≤ sizeLine) (nd : ks.Nodup) :
    ObjOk P w H (h.push (dictOf (kwEs w.params t (ks.zip ws)) n)) h.objs.size (.dK (kwPs ks zs)) := by
  obtain ⟨vs, h1, h2, h3⟩ := kwEs_mix (P := P) (w := w) t r l
  refine ⟨?_, beq_eq_false_iff_ne.mpr (Ne.symm (Nat.ne_of_lt hb)), vs, h1, _, _, _, Heap.get?_push_size _ rfl, ⟨rfl, rfl, rfl⟩, rfl, fun e he => ?_, h2, ?_⟩
  · show (kwPs ks zs).length ≤ sizeLine
    unfold kwPs
    rw [List.length_zip, List.length_map]
    exact Nat.le_trans (Nat.min_le_left _ _) hz
  · obtain ⟨k, u, hk, hh⟩ := kwEs_key (ks.zip ws) t e (List.mem_toArray.mp he)
    exact ⟨.inr k, by rw [hk]; exact mixKind_str P w k u, hh.trans rfl⟩
  · rw [h3]
    exact List.Pairwise.map _ (fun a b q z => q (Sum.inr.inj z)) nd
/-- what binding does where keywords that are no parameters are let -/
structure KwB (fd : FuncData) (ps : List Str) (pd : Str) (ks : List Str) : Prop where
  to : ∀ (us ws : List Value), us.length = ps.length → ws.length = ks.length → bindArgs fd ⟨us, ks.zip ws⟩ =
    ((alloc (dictOf [] 0) : Sem Addr) >>= fun d => forIn (ks.zip ws) PUnit.unit (fun x _ => (nsSet d x.1 x.2 >>= fun _ => pure (ForInStep.yield PUnit.unit))) >>= fun _ => pure (ps.zip us ++ [(pd, Value.ref d)]))
  nd : ks.Nodup
  le : ks.length ≤ sizeLine
/-- a def with **d, called with the keywords ks -/
def FnKw (P : Program) (w : World) (K : PySem.W.Frag) (mg : Str → Option Value) (base : Heap) (CX : CXT) (k : Nat) (f : Addr) (ks : List Str) (sp : Sp) : Prop :=
  ∀ (A : Around) (outer : List Env) (s : Shared) (H : Hp) (us ws : List Value) (vs zs : List V) (Q : VK) (E : XK), Room k A → Env0 P w K mg base A outer s H → Vals vs us → Vals zs ws → zs.length = ks.length →
    (∀ d o, H d = none → sp (vs ++ [V.ref d]) (upd H d (.frz o (.dK (kwPs ks zs)))) Q E) → codeAny (model P w) A (.call (.ref f) ⟨us, ks.zip ws⟩) (CR CX outer P w H s Q E) s
section
open StX
variable {CX : CXT} {P : Program} {w : World} {K : PySem.W.Frag} {mg : Str → Option Value} {base : Heap} {k : Nat} {f : Addr} {x qual : Str} {st : Stmt} {fd : FuncData} {N ps ks : List Str} {sp : Sp} {pd : Str}
theorem Fun.okKw (F : Fun K x qual st f fd) (S : FnScope N (ps ++ [pd]) (defScope st)) (hCX : CXUp CX) (hb : KwB fd ps pd ks) (len : ∀ vs H Q E, sp vs H Q E → vs.length = ps.length + 1)
    (hbody : ∀ (cdv : Value) (A : Around) (outer : List Env) (s : Shared) (H : Hp) (vs : List V) (Q : VK) (E : XK), Room k (A.deeper (envOfC qual (defScope st) s.heap.objs.size f cdv)) → sp vs H Q E →
      ∃ t, PSs (cxOf CX P w K mg base N qual (defScope st) f cdv A outer s H E) (defBody st) t ∧ t { nx := fun _ H' => Q .non H', rt := Q } (start N vs) H) : FnKw P w K mg base CX (k + 1) f ks sp := by
  obtain ⟨oc, od, kV, doc, pm, an, cdv, ct, osl, rfl, lk, hcd⟩ := F.ex
  intro A outer s H us ws vs zs Q E hr e0 r rz lz hq
  have hn : H s.heap.objs.size = Option.none := e0.hok.fresh (Nat.le_refl _)
  have hl : us.length = ps.length := by
    have z := len _ _ _ _ (hq _ (dictOf [] 0) hn)
    rw [List.length_append] at z
    rw [← r.length]
    exact Nat.succ.inj z
  have hw : ws.length = ks.length := by rw [← rz.length]; exact lz
  refine run_bnd lk hcd S hr e0 (G := fun xs H2 => ∃ p o, H p = Option.none ∧ xs = vs ++ [V.ref p] ∧ H2 = upd H p (.frz o (.dK (kwPs ks zs)))) (fun A' Ex Q' h => ?_) fun s2 H2 xs ⟨p, o, hp, ex, eH⟩ hr' => ?_
  · rw [hb.to us ws hl hw]
    have hmap : ((ks.zip ws).map (·.1)) = ks := List.map_fst_zip (by rw [hw]; exact Nat.le_refl _)
    refine wpAny_bind (wpAny_alloc (wpAny_bind (kw_fill (ks.zip ws) _ [] 0 rfl (fun _ he => nomatch he) (fun _ he => nomatch he) (by rw [hmap]; exact hb.nd) (wpAny_pure ?_))))
    have new := kw_obj (P := P) (w := w) (H := upd H s.heap.objs.size (.frz (dictOf (kwEs w.params s.toks (ks.zip ws)) (0 + (ks.zip ws).length)) (.dK (kwPs ks zs)))) (h := s.heap) (n := 0 + (ks.zip ws).length) s.toks (env0_big e0) rz lz hb.le hb.nd
    have un := un_laid (fs := frs outer) (s := s) (o := dictOf (kwEs w.params s.toks (ks.zip ws)) (0 + (ks.zip ws).length)) (u := .frz (dictOf (kwEs w.params s.toks (ks.zip ws)) (0 + (ks.zip ws).length)) (.dK (kwPs ks zs))) hn
    have e1 := env0_laid (u := .frz (dictOf (kwEs w.params s.toks (ks.zip ws)) (0 + (ks.zip ws).length)) (.dK (kwPs ks zs))) e0 ⟨Heap.get?_push_size _ rfl, new⟩
    have e2 : Env0 P w K mg base A outer { s with heap := s.heap.push (dictOf (kwEs w.params s.toks (ks.zip ws)) (0 + (ks.zip ws).length)), toks := s.toks + (ks.zip ws).length } (upd H s.heap.objs.size (.frz (dictOf (kwEs w.params s.toks (ks.zip ws)) (0 + (ks.zip ws).length)) (.dK (kwPs ks zs)))) := ⟨e1.frames, e1.mod, e1.bs, e1.bsz, e1.funs, e1.frf, e1.hok, e1.bare⟩
    have z := h _ _ (vs ++ [V.ref s.heap.objs.size]) (us ++ [Value.ref s.heap.objs.size]) e2 un rfl (fun e s' => hCX outer s H _ _ E e s' un (fun b o q => Heap.get?_push_of_some _ q) rfl) (r.append (.cons rfl .nil))
      (by rw [List.length_append, List.length_append, r.length, hl] <;> rfl) ⟨_, _, hn, rfl, rfl⟩
    rw [List.zip_append hl.symm] at z
    exact z
  · subst ex eH
    exact hbody cdv A outer s2 _ _ Q E hr' (hq p o hp)
end
def tMethKw (C : Addr) (m : Str) (ks : List Str) (sp : Sp) (E : St → XK) (ta : TE) (tk : TA) : TE := fun σ H Q => ta σ H fun x H1 => ∃ a dx fs, x = .ref a ∧ H1 a = some (.ins C dx fs) ∧ fs.lookup m = none ∧
  tk σ H1 fun zs H3 => zs.length = ks.length ∧ ∀ d o, H3 d = none → sp [x, .ref d] (upd H3 d (.frz o (.dK (kwPs ks zs)))) Q (E σ)
section
variable {X : Cx} {CX : CXT} {k : Nat} {C f : Addr} {ks : List Str} {sp : Sp} {E : St → XK} {m : Str} {o : Expr} {kws : List Keyword} {apos pos : Pos} {ta : TE} {tk : TA}
theorem run_fnKw {pins : List (Addr × Obj)} {σ : St} {H : Hp} {s : Shared} {Q : VK} {us ws : List Value} {vs zs : List V} (F : FnKw X.prog X.w X.K X.mg X.base CX k f ks sp) (hr : Room k X.A) (hx : PassesAt CX X σ (E σ))
    (I : Inv X pins σ H s) (r : Vals vs us) (rz : Vals zs ws) (l : zs.length = ks.length) (h : ∀ d o, H d = none → sp (vs ++ [V.ref d]) (upd H d (.frz o (.dK (kwPs ks zs)))) Q (E σ)) : wpAny (model X.prog X.w) X.A (call (.ref f) us (ks.zip ws)) (EP X pins σ Q) X.xe s := by
  refine wpAny_call (codeAny_mono (F X.A X.stack s H us ws vs zs Q (E σ) hr I.env0 r rz l h) fun r s' hq => ?_)
  cases r with
  | error e => exact hx pins H s e s' I hq
  | ok fl =>
    cases fl with
    | ret u => exact I.after hq
    | next => exact False.elim hq
    | brk => exact False.elim hq
    | cont => exact False.elim hq
theorem pe_methKw {pl : Sem Bool} (he : PE X o ta) (c : Cls X.K C) (hm : Meth X.K C m f) (F : FnKw X.prog X.w X.K X.mg X.base CX k f ks sp) (hr : Room k X.A) (hx : ∀ σ, PassesAt CX X σ (E σ)) (hkw : PK X kws tk)
    (hall : (backToKw pos (keywordEach kws X.env)).all (·.1.isSome) = true := by rfl) (hks : (backToKw pos (keywordEach kws X.env)).filterMap (·.1) = ks := by rfl)
    (hpl : ((backTo pos (starEach [] X.env)).any (·.1) || (backToKw pos (keywordEach kws X.env)).any (·.1.isNone)) = false := by rfl)
    (ht : eval (.Call (.Attribute o m apos) [] kws pos) X.env = (do
      let ov ← eval o X.env
      standAt apos.atName
      let (f, first) ← holding [ov] (getMethod ov m pl)
      callWith pos f first (backTo pos (starEach [] X.env)) (backToKw pos (keywordEach kws X.env))) := by rfl) :
    PE X (.Call (.Attribute o m apos) [] kws pos) (tMethKw C m ks sp E ta tk) := by
  refine ⟨fun pins s σ H Q I h => ?_⟩
  refine PySem.W.methodCall_KW (pl := pl) (thn (he.run pins s σ H _ I h) fun u s1 ⟨x, H1, I1, rx, a, dx, fs, ex, ea, l, q⟩ => ?_) ht
  subst ex
  obtain rfl : u = Value.ref a := rx
  refine getmeth_ok I1 ea c hm l ?_
  refine PySem.W.callWith_KW0 (first := [.ref a]) (h₀ := X.base) I.ok.mod.kin hm.kp hall ?_ hpl
  refine thn (hkw.run pos pins s1 σ H1 _ I1 q) fun ws s3 ⟨zs, H3, I3, rz, l2, q3⟩ => ⟨I3.kIn, ?_⟩
  rw [hks]
  exact run_fnKw (us := [.ref a]) (vs := [.ref a]) F hr (hx σ) I3 (.cons rfl .nil) rz l2 q3
end
end L2
namespace T3
open PySem L2
open Evl (Ex)
section
variable {B : Hp} {M : Mem} {K : PySem.W.Frag} {σ : Sig} {tk : TA} {ta : TE} {Q : DQ} {S : Sp3}
/-- the keywords' names and their texts, as they lie in the dict -/
def kwS (l : List (Str × Str)) : List (Key × V) := l.map fun p => (Sum.inr p.1, V.str p.2)
theorem kwPs_S {F : Hp} : ∀ {ks txs : List Str} {zs : List V}, RDs F (txs.map D.str) zs → kwPs ks zs = kwS (ks.zip txs)
  | [], _, _, _ => rfl
  | _ :: _, [], _, h => by
    obtain rfl := h
    rfl
  | k :: ks, t :: ts, _, h => by
    obtain ⟨v, r, rfl, rd, rs⟩ := h
    obtain rfl : v = V.str t := rd
    show (Sum.inr k, V.str t) :: kwPs ks r = _
    rw [kwPs_S (ks := ks) rs]
    rfl
abbrev kwO (o : Obj) (l : List (Str × Str)) : DO := .raw (.frz o (.dK (kwS l)))
theorem w_methKw {C : Addr} {m : Str} {ks : List Str} {W : WX} {EW : EW3} (hW : ImpW B EW W)
    (h : W3e B ta σ M (fun x M1 => ∃ fs, InsD M1 x C fs ∧ fs.lookup m = none ∧ W3a B tk σ M1 (fun es M3 => ∃ txs : List Str, es = txs.map D.str ∧ txs.length = ks.length ∧ ∀ d o, M3 d = none → S [x, .ref d] (mput M3 d (kwO o (ks.zip txs))) Q (fun C th M' => EW C th σ M')))) : W3e B (tMethKw C m ks (lift3 S) (WE W) ta tk) σ M Q := fun F σv H Qv b hs st k =>
  h F σv H _ b hs st fun F1 M1 x xv H1 e1 st1 rx ⟨fs, hi, l, q1⟩ => by
    obtain ⟨a, dx, fv, ev, ha, pk⟩ := hi.at st1 rx
    refine ⟨a, dx, fv, ev, ha, (pkv_look pk).2 l, q1 F1 σv H1 _ (b.trans e1) (hs.mono e1) st1 fun F2 M2 es zs H2 e2 st2 rz ⟨txs, ex, l2, q2⟩ => ?_⟩
    subst ex
    refine ⟨by rw [← rz.length, List.length_map]; exact l2, fun d o hd => ?_⟩
    rw [kwPs_S (ks := ks) rz]
    have s2 := st2.newO (p := d) (o := .frz o (.dK (kwS (ks.zip txs)))) (d := kwO o (ks.zip txs)) hd ⟨rfl, fun _ h => nomatch h⟩
    exact ⟨[x, .ref d], F2, _, Q, _, ⟨xv, _, rfl, rx.mono e2, V.ref d, _, rfl, rfl, rfl⟩, s2, fun F3 M3 d v H3 e3 => k F3 M3 d v H3 ((e1.trans e2).trans e3), fun F' M' C d thing v H' e s r z q' => hW F' M' σ σv C d thing v H' ((b.trans (e1.trans e2)).trans e) ((hs.mono (e1.trans e2)).mono e) s r z q', q2 d o (st2.nn hd).2⟩
theorem kwS_at {l : List (Str × Str)} {i : Nat} {k : Key} {v : V} (h : (kwS l)[i]? = some (k, v)) : ∃ p, l[i]? = some p ∧ k = .inr p.1 ∧ v = .str p.2 := by
  unfold kwS at h
  rw [List.getElem?_map] at h
  obtain ⟨p, h1, h2⟩ := Option.map_eq_some_iff.mp h
  cases h2
  exact ⟨p, h1, rfl, rfl⟩
theorem map_at' {α β : Type} {f : α → β} {l : List α} {i : Nat} {d : β} (h : (l.map f)[i]? = some d) : ∃ x, l[i]? = some x ∧ d = f x := by
  rw [List.getElem?_map] at h
  obtain ⟨x, h1, h2⟩ := Option.map_eq_some_iff.mp h
  exact ⟨x, h1, h2.symm⟩
/-- for k in d -/
theorem i_keysF {te : TE} {Q : List D → (Mem → Prop) → Mem → Prop} (h : W3e B te σ M (fun x M1 => ∃ a o l, x = .ref a ∧ M1 a = some (kwO o l) ∧ Q (l.map fun p => .str p.1) (fun M => M a = some (kwO o l)) M1)) : W3i B (iKeys te) σ M Q := fun F σv H R b hs st k =>
  h F σv H _ b hs st fun F1 M1 x xv H1 e1 st1 rx ⟨a, o, l, ex, hm, q⟩ => by
    subst ex
    obtain ⟨_, ho, h1, e2⟩ := st1.own a _ hm
    obtain rfl : ho = .frz o (.dK (kwS l)) := e2.1
    refine ⟨a, o, rx, .inl ⟨kwS l, h1, k F1 M1 (Itk a o (kwS l)) _ _ H1 e1 st1 ⟨fun H => H a = some (.frz o (.dK (kwS l))), fun i H x H' => H' = H ∧ ∃ k v, (kwS l)[i]? = some (k, v) ∧ x = kV k, ?_, ?_, ?_, ?_⟩ q⟩⟩
    · have hl : (kwS l).length = (l.map fun p => D.str p.1).length := by unfold kwS; rw [List.length_map, List.length_map]
      rw [← hl]
      exact ⟨fun i H hi g => ⟨g, hi⟩, fun H g => ⟨g, Nat.le_refl _⟩, fun i H x H' hi g y => y⟩
    · intro F' M' H' e s p
      obtain ⟨_, ho, h1', e2⟩ := s.own a _ p
      obtain rfl : ho = .frz o (.dK (kwS l)) := e2.1
      exact h1'
    · intro i d x H' H'' F' M' hd e s p ⟨y1, kk, v, y2, y3⟩
      subst y1
      obtain ⟨pp, hp, rfl, rfl⟩ := kwS_at y2
      obtain ⟨p2, hp2, rfl⟩ := map_at' hd
      rw [hp] at hp2; cases hp2
      exact ⟨F', Ex.refl _, s, y3⟩
    · intro M' p o' hp hm'
      show mput M' p o' a = _
      rw [mput_ne (mne hm' hp)]; exact hm'
/-- for k, v in d.items() -/
theorem i_itemsF {te : TE} {Q : List D → (Mem → Prop) → Mem → Prop} (h : W3e B te σ M (fun x M1 => ∃ a o l, x = .ref a ∧ M1 a = some (kwO o l) ∧ Q (l.map fun p => .tup [.str p.1, .str p.2]) (fun M => M a = some (kwO o l)) M1)) : W3i B (iItems te) σ M Q := fun F σv H R b hs st k =>
  h F σv H _ b hs st fun F1 M1 x xv H1 e1 st1 rx ⟨a, o, l, ex, hm, q⟩ => by
    subst ex
    obtain ⟨_, ho, h1, e2⟩ := st1.own a _ hm
    obtain rfl : ho = .frz o (.dK (kwS l)) := e2.1
    refine ⟨a, o, kwS l, rx, h1, k F1 M1 (Iti a o (kwS l)) _ _ H1 e1 st1 ⟨fun H => H a = some (.frz o (.dK (kwS l))), fun i H x H' => ∃ T k v, (kwS l)[i]? = some (k, v) ∧ x = .ref T ∧ H T = none ∧ H' = upd H T (.tup [kV k, v]), ?_, ?_, ?_, ?_⟩ q⟩
    · have hl : (kwS l).length = (l.map fun p => D.tup [.str p.1, .str p.2]).length := by unfold kwS; rw [List.length_map, List.length_map]
      rw [← hl]
      refine ⟨fun i H hi g => ⟨g, hi⟩, fun H g => ⟨g, Nat.le_refl _⟩, fun i H x H' hi g y => y⟩
    · intro F' M' H' e s p
      obtain ⟨_, ho, h1', e2⟩ := s.own a _ p
      obtain rfl : ho = .frz o (.dK (kwS l)) := e2.1
      exact h1'
    · intro i d x H' H'' F' M' hd e s p ⟨T, kk, v, y2, ex, hT, eH⟩
      subst ex eH
      obtain ⟨pp, hp, rfl, rfl⟩ := kwS_at y2
      obtain ⟨p2, hp2, rfl⟩ := map_at' hd
      rw [hp] at hp2; cases hp2
      obtain ⟨s2, e2⟩ := s.new (o := .tup [.str pp.1, .str pp.2]) hT
      exact ⟨_, e2, s2, T, _, rfl, upd_same, _, _, rfl, rfl, _, _, rfl, rfl, rfl⟩
    · intro M' p o' hp hm'
      show mput M' p o' a = _
      rw [mput_ne (mne hm' hp)]; exact hm'
/-- enumerate over an owned list that stands still -/
theorem i_enumO {ta : TA} {Q : List D → (Mem → Prop) → Mem → Prop} (h : W3a B ta σ M (fun xs M1 => ∃ a ds, xs = [.ref a] ∧ M1 a = some (.lst ds) ∧ Q (enumD ds) (fun M => M a = some (.lst ds)) M1)) : W3i B (iEnum K ta) σ M Q := fun F σv H R b hs st k =>
  h F σv H _ b hs st fun F1 M1 xs xv H1 e1 st1 rx ⟨a, ds, ex, hm, q⟩ => by
    subst ex
    obtain ⟨v, e, rv⟩ := rx.sing
    subst e
    obtain rfl : v = V.ref a := rv
    obtain ⟨_, ho, h1, vs, e2, rs⟩ := st1.own a _ hm
    subst e2
    refine ⟨a, vs, rfl, .inl (.inl h1), k F1 M1 (Ite K a) (enumD ds) _ H1 e1 st1 ⟨fun H => ∃ us, SqL K H a us ∧ us.length = vs.length, fun i H v H' => ∃ T x, v = .ref T ∧ H T = none ∧ H' = upd H T (.tup [.int (i : Nat), x]) ∧ ∀ us, SqL K H a us → us[i]? = some x, ?_, ?_, ?_, ?_⟩ q⟩
    · rw [enumD_len, rs.length]
      exact ⟨fun i H hi ⟨us, g, hl⟩ => ⟨us, us[i], g, by simp [hl, hi]⟩, fun H ⟨us, g, hl⟩ => ⟨us, g, Nat.le_of_eq hl⟩, fun i H x H' hi g y => y⟩
    · intro F' M' H' e s p
      obtain ⟨_, ho, h1', us, e2, rs'⟩ := s.own a _ p
      subst e2
      exact ⟨us, .inl (.inl h1'), by rw [← rs'.length, rs.length]⟩
    · intro i d x H' H'' F' M' hd e s p ⟨T, y, ex, hT, eH, hy⟩
      subst ex eH
      obtain ⟨d0, h0, rfl⟩ := enumD_at hd
      obtain ⟨f0, ho, h1', us', e2, rs'⟩ := s.own a _ p
      subst e2
      obtain ⟨v', hv', rv'⟩ := rs'.at h0
      rw [hy us' (.inl (.inl h1'))] at hv'; cases hv'
      obtain ⟨s2, e2⟩ := s.new (o := .tup [.int (i : Nat), y]) hT
      exact ⟨_, e2, s2, T, _, rfl, upd_same, _, _, rfl, rfl, _, _, rfl, rv'.mono e2, rfl⟩
    · intro M' p o hp hm'
      show mput M' p o a = _
      rw [mput_ne (mne hm' hp)]; exact hm'
/-! ### {k: v, ..} -/
def W3p (B : Hp) : List (TE × TE) → Sig → Mem → (List (D × D) → Mem → Prop) → Prop
  | [], _, M, Q => Q [] M
  | (tk, tv) :: r, σ, M, Q => W3e B tk σ M fun x M1 => W3e B tv σ M1 fun y M2 => W3p B r σ M2 fun ps M3 => Q ((x, y) :: ps) M3
def RPs (F : Hp) : List (D × D) → List (V × V) → Prop := Paired fun p q => RD F p.1 q.1 ∧ RD F p.2 q.2
theorem w_pairs : ∀ {trs : List (TE × TE)} {σ : Sig} {M : Mem} {Q : List (D × D) → Mem → Prop}, W3p B trs σ M Q → ∀ (F : Hp) (σv : St) (H : Hp) (Qv : List (V × V) → Hp → Prop), Ex B F → SRel F σ σv → St3 F M H →
    (∀ F' M' ps pv H', Ex F F' → St3 F' M' H' → RPs F' ps pv → Q ps M' → Qv pv H') → tPairs trs σv H Qv
  | [], σ, M, Q, h, F, σv, H, Qv, b, hs, st, k => k F M [] [] H (Ex.refl _) st .nil h
  | (tk, tv) :: r, σ, M, Q, h, F, σv, H, Qv, b, hs, st, k =>
    h F σv H _ b hs st fun F1 M1 x xv H1 e1 st1 rx q1 => q1 F1 σv H1 _ (b.trans e1) (hs.mono e1) st1 fun F2 M2 y yv H2 e2 st2 ry q2 =>
      w_pairs q2 F2 σv H2 _ (b.trans (e1.trans e2)) (hs.mono (e1.trans e2)) st2 fun F3 M3 ps pv H3 e3 st3 rp q3 =>
        k F3 M3 _ _ H3 ((e1.trans e2).trans e3) st3 (.cons ⟨(rx.mono e2).mono e3, ry.mono e3⟩ rp) q3
def mergeKD (kvs more : List (Key × D)) : List (Key × D) := more.foldl (fun acc kv => putKD acc kv.1 kv.2) kvs
theorem pkv_merge {F : Hp} {more : List (Key × D)} {mv : List (Key × V)} (r : PKV F more mv) : ∀ {kvs : List (Key × D)} {kv : List (Key × V)}, PKV F kvs kv → PKV F (mergeKD kvs more) (mergeK kv mv) := by
  unfold PKV at r
  induction r with
  | nil => exact fun h => h
  | @cons p q ps qs h t ih =>
    intro kvs kv h0
    have e : PKV F (putKD kvs p.1 p.2) (putK kv q.1 q.2) := by
      have z := pkv_putK (k := p.1) h.2 h0
      rw [← h.1]
      exact z
    exact ih e
theorem rps_keys {F : Hp} : ∀ {kvs : List (Key × D)} {pv : List (V × V)}, RPs F (kvs.map fun kv => (kD kv.1, kv.2)) pv → ∃ kv : List (Key × V), pv = kv.map (fun kv => (kV kv.1, kv.2)) ∧ PKV F kvs kv
  | [], pv, h => by cases h; exact ⟨[], rfl, .nil⟩
  | p :: kvs, pv, h => by
    rw [List.map_cons] at h
    cases h with
    | @cons a b as bs r t =>
      obtain ⟨kv, e, pk⟩ := rps_keys t
      obtain ⟨b1, b2⟩ := b
      have e1 : b1 = kV p.1 := kD_V r.1
      exact ⟨(p.1, b2) :: kv, by rw [e, e1]; rfl, .cons ⟨rfl, r.2⟩ pk⟩
theorem w_disp {trs : List (TE × TE)} (h : ∀ p, M p = none → W3p B trs σ (mput M p (.dK [])) (fun ps M2 => M2 p = some (.dK []) ∧ ∃ kvs : List (Key × D), ps = kvs.map (fun kv => (kD kv.1, kv.2)) ∧ kvs.length ≤ 15 ∧ Q (.ref p) (mput M2 p (.dK (mergeKD [] kvs))))) : W3e B (tDisp trs) σ M Q := fun F σv H Qv b hs st k p hp => by
  have s1 := st.newO (p := p) (o := .dK []) (d := .dK []) hp ⟨[], rfl, .nil⟩
  refine w_pairs (h p (st.nn hp).2) F σv _ _ b hs s1 fun F2 M2 ps pv H2 e2 st2 rp ⟨hm, kvs, e, l15, q⟩ => ?_
  subst e
  obtain ⟨kv, ev, pk⟩ := rps_keys rp
  obtain ⟨_, ho, h1, kv0, eo, pk0⟩ := st2.own p _ hm
  subst eo
  cases pk0
  refine ⟨h1, kv, ev, by rw [← pkv_length pk]; exact l15, ?_⟩
  exact k F2 _ (.ref p) _ _ e2 (st2.put (o := .dK (mergeK [] kv)) (d' := .dK (mergeKD [] kvs)) hm ⟨_, rfl, pkv_merge pk .nil⟩) rfl q
end
end T3
set_option Elab.async false
set_option linter.all false
set_option maxRecDepth 100000
set_option maxHeartbeats 2000000
namespace L2
open PySem PySem.Spec PyProof.Rows
/-! ### displays whose keys are tuples -/
def mergeT (kvs : List (List Key × V)) (more : List (List Key × Addr × V)) : List (List Key × V) := more.foldl (fun acc k => putK acc k.1 k.2.2) kvs
section
variable {X : Cx} {pins : List (Addr × Obj)} {σ : St} {E : Value → Shared → Prop} {D : Addr}
theorem d_dictSetT {H : Hp} {s : Shared} {kvs : List (List Key × V)} {k : List Key} {b : Addr} {v : V} {r : Value} {Q : Unit → Shared → Prop} (hu : X.A.units < cLine) (I : Inv X pins σ H s) (hD : H D = some (.dT kvs)) (hb : H b = some (.tup (k.map kV)))
    (hz : kvs.length < sizeLine) (rv : RelV v r) (h : ∀ s', Inv X pins σ (upd H D (.dT (putK kvs k v))) s' → Q () s') : wpAny (model X.prog X.w) X.A (dictSet D (.ref b) r) Q E s := by
  obtain ⟨z, hd, xs, rel, dd⟩ := dt_of I.hok hD
  have hzx : xs.length ≤ sizeLine := by rw [← Paired.length rel]; exact z
  have hl : (putK kvs k v).length ≤ sizeLine := by have := length_putK kvs k v; omega
  refine wpAny_dictSet_heap (hsz := hzx) hu (key_of I.hok hb) dd fun h' dd' hs => h _ ?_
  obtain ⟨q, es, ep, hq, h2, h3, h4, _, h5⟩ := dd'
  refine d_write I (by rw [hD]; exact True.intro) hs ⟨q, hq⟩ ⟨hl, hd, _, (rel.put k hb rv).keeps fun c ys ec => ?_, q, es, ep, hq, h2, h3, h4, h5⟩
  rw [upd_ne (ne_of ec hD (fun z => nomatch z))]
  exact ec
abbrev KTs : List (List Key × Addr × V) → List (Value × Value) → Prop := Paired fun p q => q.1 = .ref p.2.1 ∧ RelV p.2.2 q.2
theorem storeAllT (hu : X.A.units < cLine) : ∀ (ps : List (List Key × Addr × V)) (vs : List (Value × Value)) (kvs : List (List Key × V)) (s : Shared) (H : Hp) (Q : PUnit → Shared → Prop), Inv X pins σ H s → H D = some (.dT kvs) → kvs.length + ps.length < sizeLine → KTs ps vs →
    (∀ p ∈ ps, H p.2.1 = some (.tup (p.1.map kV))) → (∀ s', Inv X pins σ (upd H D (.dT (mergeT kvs ps))) s' → Q ⟨⟩ s') →
    wpAny (model X.prog X.w) X.A (forIn vs PUnit.unit fun (x : Value × Value) (_ : PUnit) => (do dictSet D x.1 x.2; pure (ForInStep.yield PUnit.unit) : Sem (ForInStep PUnit))) Q E s
  | [], [], kvs, s, H, Q, I, hD, _, _, _, q => by
    rw [List.forIn_nil]
    refine wpAny_pure (q s ?_)
    have e : upd H D (.dT (mergeT kvs [])) = H := by
      funext b
      unfold upd
      by_cases hb : b = D
      · rw [if_pos hb, hb, hD]; rfl
      · rw [if_neg hb]
    rw [e]; exact I
  | p :: ps, (key, v) :: vs, kvs, s, H, Q, I, hD, hz, r, hk, q => by
    cases r with
    | cons h t =>
      obtain ⟨e1, rv⟩ := h
      have e1 : key = .ref p.2.1 := e1
      subst e1
      rw [List.length_cons] at hz
      rw [List.forIn_cons]
      refine wpAny_bind (wpAny_bind (d_dictSetT hu I hD (hk p (List.mem_cons_self ..)) (by omega) rv fun s1 I1 => wpAny_pure ?_))
      refine storeAllT hu ps vs (putK kvs p.1 p.2.2) s1 _ Q I1 upd_same (by have e := length_putK kvs p.1 p.2.2; omega) t (fun x hx => ?_) fun s' I' => q s' ?_
      · have z := hk x (List.mem_cons_of_mem _ hx)
        rw [upd_ne (ne_of z hD (fun z => nomatch z))]
        exact z
      · rw [upd_upd] at I'
        exact I'
  | [], _ :: _, _, _, _, _, _, _, _, r, _, _ => nomatch r
  | _ :: _, [], _, _, _, _, _, _, _, r, _, _ => nomatch r
/-- {k: v, ..}, keys tuples of ints and texts -/
def tDispT (trs : List (TE × TE)) : TE := fun σ H Q => ∀ p, H p = none → tPairs trs σ (upd H p (.dT [])) fun ps H2 => H2 p = some (.dT []) ∧ ∃ ks : List (List Key × Addr × V), ps = ks.map (fun k => (V.ref k.2.1, k.2.2)) ∧ (∀ k ∈ ks, H2 k.2.1 = some (.tup (k.1.map kV))) ∧ ks.length ≤ 15 ∧ Q (.ref p) (upd H2 p (.dT (mergeT [] ks)))
theorem kts_of : ∀ {ks : List (List Key × Addr × V)} {vs : List (Value × Value)}, VV (ks.map fun k => (V.ref k.2.1, k.2.2)) vs → KTs ks vs
  | [], _, h => by
    rw [List.map_nil] at h
    cases h
    exact .nil
  | k :: ks, _, h => by
    rw [List.map_cons] at h
    cases h with
    | cons a t => exact .cons ⟨a.1, a.2⟩ (kts_of t)
theorem pe_dispT {pos : Pos} {keys : List (Option Expr)} {values : List Expr} {trs : List (TE × TE)} (hu : X.A.units < cLine) (h : PPs X pos keys values trs) (hall : keys.all (·.isSome) = true) (hl : keys.length = values.length) (h0 : keys ≠ [])
    (h15 : keys.length ≤ 15) : PE X (.Dict keys values pos) (tDispT trs) := by
  refine ⟨fun pins s σ H Q I q => ?_⟩
  have hn := I.hok.fresh (Nat.le_refl s.heap.objs.size)
  have I1 := I.laid (a := s.heap.objs.size) (o := .dT []) (h' := s.heap.push { cls := .type "dict", data := .dict #[] }) (t' := s.toks) (fun _ _ q => Heap.get?_push_of_some _ q) (Nat.le_refl _) (dt_empty s.heap I.big)
  have hpl := pairTrees_length keys values X.env pos hall hl
  have hne : pairTrees keys values X.env pos ≠ [] := fun he => by
    rw [he] at hpl
    exact h0 (List.length_eq_zero_iff.mp hpl.symm)
  rw [arm_eval_Dict, zip_pairTrees keys values X.env pos hall hl, dictDisplay_pairs _ hne (by omega)]
  refine wpAny_bind (wpAny_standAt (wpAny_bind ?_))
  unfold subDict
  refine wpAny_bind (wpAny_alloc (wpAny_bind (wpAny_holding ?_)))
  rw [if_pos (by omega)]
  refine wpAny_bind (wpAny_mono (wpAny_evalPairs_len (h.run pins _ σ _ _ I1 (q _ hn))) (fun ws s2 h2 => ?_) fun _ _ e => e)
  obtain ⟨hlen, ps, H2, I2, rel, e, ks, ep, hk, lk, q2⟩ := h2
  subst ep
  refine wpAny_holding (wpAny_bind (storeAllT hu ks ws [] s2 H2 _ I2 e (by rw [sizeLine_eq, List.length_nil]; omega) (kts_of rel) hk fun s' I' => wpAny_pure (wpAny_pure (wpAny_pure ?_))))
  exact ⟨.ref s.heap.objs.size, _, I', rfl, q2⟩
end
end L2
namespace T3
open PySem L2
open Evl (Ex)
section
variable {B : Hp} {M : Mem} {K : PySem.W.Frag} {σ : Sig} {Q : DQ}
def mergeTD (kvs : List (List Key × D)) (more : List (List Key × D)) : List (List Key × D) := more.foldl (fun acc k => putKD acc k.1 k.2) kvs
theorem rps_keysT {F : Hp} {H : Hp} (fz : ∀ a u, F a = some u → H a = some u) : ∀ {kvs : List (List Key × D)} {pv : List (V × V)}, RPs F (kvs.map fun kv => (.tup (kv.1.map kD), kv.2)) pv →
    ∃ ks : List (List Key × Addr × V), pv = ks.map (fun k => (V.ref k.2.1, k.2.2)) ∧ (∀ k ∈ ks, H k.2.1 = some (.tup (k.1.map kV))) ∧ Paired (fun p q => p.1 = q.1 ∧ RD F p.2 q.2.2) kvs ks
  | [], pv, h => by cases h; exact ⟨[], rfl, (fun _ hk => nomatch hk), .nil⟩
  | p :: kvs, pv, h => by
    rw [List.map_cons] at h
    cases h with
    | @cons a b as bs r t =>
      obtain ⟨ks, e, hk, pk⟩ := rps_keysT fz t
      obtain ⟨b1, b2⟩ := b
      obtain ⟨⟨x, vs, e1, hf, rs⟩, r2⟩ := r
      have e1 : b1 = V.ref x := e1
      rw [rs.keys] at hf
      refine ⟨(p.1, x, b2) :: ks, by rw [e, e1]; rfl, fun k hk' => ?_, .cons ⟨rfl, r2⟩ pk⟩
      rcases List.mem_cons.mp hk' with rfl | hk'
      · exact fz _ _ hf
      · exact hk k hk'
theorem pkv_mergeT {F : Hp} {more : List (List Key × D)} {ks : List (List Key × Addr × V)} (r : Paired (fun p q => p.1 = q.1 ∧ RD F p.2 q.2.2) more ks) : ∀ {kvs : List (List Key × D)} {kv : List (List Key × V)}, PKV F kvs kv → PKV F (mergeTD kvs more) (mergeT kv ks) := by
  induction r with
  | nil => exact fun h => h
  | @cons p q ps qs h t ih =>
    intro kvs kv h0
    have e : PKV F (putKD kvs p.1 p.2) (putK kv q.1 q.2.2) := by
      have z := pkv_putK (k := p.1) h.2 h0
      rw [← h.1]
      exact z
    exact ih e
theorem w_dispT {trs : List (TE × TE)} (h : ∀ p, M p = none → W3p B trs σ (mput M p (.dT [])) (fun ps M2 => M2 p = some (.dT []) ∧ ∃ kvs : List (List Key × D), ps = kvs.map (fun kv => (.tup (kv.1.map kD), kv.2)) ∧ kvs.length ≤ 15 ∧ Q (.ref p) (mput M2 p (.dT (mergeTD [] kvs))))) : W3e B (tDispT trs) σ M Q := fun F σv H Qv b hs st k p hp => by
  have s1 := st.newO (p := p) (o := .dT []) (d := .dT []) hp ⟨[], rfl, .nil⟩
  refine w_pairs (h p (st.nn hp).2) F σv _ _ b hs s1 fun F2 M2 ps pv H2 e2 st2 rp ⟨hm, kvs, e, l15, q⟩ => ?_
  subst e
  obtain ⟨ks, ev, hk, pk⟩ := rps_keysT st2.fz rp
  obtain ⟨_, ho, h1, kv0, eo, pk0⟩ := st2.own p _ hm
  subst eo
  cases pk0
  refine ⟨h1, ks, ev, hk, by rw [← Paired.length pk]; exact l15, ?_⟩
  exact k F2 _ (.ref p) _ _ e2 (st2.put (o := .dT (mergeT [] ks)) (d' := .dT (mergeTD [] kvs)) hm ⟨_, rfl, pkv_mergeT pk .nil⟩) rfl q
end
end T3
set_option Elab.async false
set_option linter.all false
set_option maxRecDepth 100000
set_option maxHeartbeats 2000000
namespace L2
open PySem PySem.Spec PyProof.Rows
/-! ### dict comprehensions whose keys are tuples (on the pattern of HandS.DictComp, by its loop) -/
section
variable {X : Cx}
def tDcT (wi : TI) (g : TG) (tt : TT) (tk tv : TE) (vs : List Nat) : TE := fun σ H Q => wi σ H fun J H1 => ∀ D, H1 D = none → ∃ W : Nat → Nat → Hp → Prop, (∃ m, W 0 m (upd H1 D (.dT []))) ∧ ∀ i m H, W i m H →
  (J.stop i H ∧ Q (.ref D) H) ∨ (J.go i H ∧ ∃ Nx : Hp → Prop, (∀ H', Nx H' → ∃ m', m' < m ∧ W (i + 1) m' H') ∧ ∀ x H', J.yld i H x H' → g x (wipe σ vs) H' fun σ2 H2 => wipe σ2 vs = wipe σ vs ∧ tt σ2 H2 fun b H3 =>
    if b = true then tk σ2 H3 fun y H4 => tv σ2 H4 fun z H5 => ∃ kvs k b, y = .ref b ∧ H5 b = some (.tup (k.map kV)) ∧ H5 D = some (.dT kvs) ∧ kvs.length < sizeLine ∧ Nx (upd H5 D (.dT (putK kvs k z))) else Nx H3)
theorem pe_dcT {kx vx tg iter : Expr} {ifs : List Expr} {scope : Scope} {own : List (Str × Nat)} {pos : Pos} {wi : TI} {g : TG} {tt : TT} {tk tv : TE} (hu : X.A.units < cLine) (hc : X.calm = true) (hN : X.N.Nodup) (hi : PI X tg iter wi) (ok : BlkOk X.N X.env.scope scope own)
    (hg : ∀ (s : Shared) (H : Hp) (C : Addr) (cl : List (Str × Addr)) (fp : List Addr), PG (X.blk s H scope (compEnvC scope cl C X.env) fp) tg g) (ht : ∀ (s : Shared) (H : Hp) (C : Addr) (cl : List (Str × Addr)) (fp : List Addr), PTs (X.blk s H scope (compEnvC scope cl C X.env) fp) ifs tt)
    (hk : ∀ (s : Shared) (H : Hp) (C : Addr) (cl : List (Str × Addr)) (fp : List Addr), PE (X.blk s H scope (compEnvC scope cl C X.env) fp) kx tk)
    (he : ∀ (s : Shared) (H : Hp) (C : Addr) (cl : List (Str × Addr)) (fp : List Addr), PE (X.blk s H scope (compEnvC scope cl C X.env) fp) vx tv) (hs : ∀ x, foldedSetIterable iter X.env x = pure x := by intro _; rfl) :
    PE X (.DictComp kx vx [⟨tg, iter, ifs, 0⟩] scope pos) (tDcT wi g tt tk tv (own.map (·.2))) := by
  refine ⟨fun pins s σ H Q I h => ?_⟩
  rw [arm_eval_DictComp]
  have hfree : ∀ y ∈ scope.names, y.2 = .free → ∃ c, X.env.cells.lookup y.1 = some c := fun y hy e => by
    rcases ok.free y hy e with k | k
    · exact I.ok.has _ (.inl k)
    · exact I.ok.has _ (.inr k)
  refine wpAny_comprehension_free rfl hs (closure_ok hfree) ok.kind (fun y hy e => by rw [ok.uniq y hy, e])
    (thn (hi.run pins s σ H _ I h) fun xv s1 hx => thn hx fun itv s2 h2 => ?_)
  obtain ⟨it, fp, tn, J, H2, e, I2, T, st2, f2, q⟩ := h2
  subst e
  refine wpAny_newObj_type (newEnv_comp ?_)
  generalize hD : s2.heap.objs.size = D
  have hDn : H2 D = none := I2.hok.fresh (Nat.le_of_eq hD)
  obtain ⟨W, ⟨m0, w0⟩, turn⟩ := q D hDn
  generalize hs3 : ({ s2 with heap := s2.heap.push { cls := .type "dict", data := .dict #[] } } : Shared) = s3
  have I3 : Inv X pins σ (upd H2 D (.dT [])) s3 := by
    rw [← hs3]
    refine I2.laid (t' := s2.toks) (fun b o e => Heap.get?_push_of_some _ e) (Nat.le_of_eq hD) ?_
    rw [← hD]
    exact dt_empty s2.heap I2.big
  have h3 : s3.heap = s2.heap.push { cls := .type "dict", data := .dict #[] } := by rw [← hs3]
  have f3 : ∀ b ∈ fp, FpOk X pins (upd H2 D (.dT [])) b ∧ b < s3.heap.objs.size := fun b hb => by
    obtain ⟨o, e, _⟩ := T.obj _ _ st2 b hb
    have hlt : b < s2.heap.objs.size := Heap.lt_size e
    refine ⟨⟨?_, (f2 b hb).2⟩, by rw [h3, Heap.size_push]; exact Nat.lt_succ_of_lt hlt⟩
    rw [upd_ne (by rw [← hD]; exact Nat.ne_of_lt hlt)]
    exact (f2 b hb).1
  have st3 : tn 0 s3.heap := T.keep _ _ _ st2 fun b _ o e => by rw [h3]; exact Heap.get?_push_of_some _ e
  have I4 := block_start I3 ok hN f3
  have pg := hg s3 (upd H2 D (.dT [])) s3.heap.objs.size (cellsFrom (s3.heap.objs.size + 1) scope.names (cloFrom X.env.cells scope.names [])) fp
  have pt := ht s3 (upd H2 D (.dT [])) s3.heap.objs.size (cellsFrom (s3.heap.objs.size + 1) scope.names (cloFrom X.env.cells scope.names [])) fp
  have pk := hk s3 (upd H2 D (.dT [])) s3.heap.objs.size (cellsFrom (s3.heap.objs.size + 1) scope.names (cloFrom X.env.cells scope.names [])) fp
  have pe := he s3 (upd H2 D (.dT [])) s3.heap.objs.size (cellsFrom (s3.heap.objs.size + 1) scope.names (cloFrom X.env.cells scope.names [])) fp
  have nfp : ∀ b ∈ fp, (upd H2 D (.dT [])) b = none := fun b hb => (f3 b hb).1.1
  show codeAny _ _ (.compStart (.DictComp kx vx [⟨tg, iter, ifs, 0⟩] scope pos) 0 (.ref it) (.ref D) (compEnvC scope (cellsFrom (s3.heap.objs.size + 1) scope.names (cloFrom X.env.cells scope.names [])) s3.heap.objs.size X.env)) _ { s3 with heap := pushCells (s3.heap.push { cls := .type "dict", data := .dict #[] }) scope.names }
  generalize hce : compEnvC scope (cellsFrom (s3.heap.objs.size + 1) scope.names (cloFrom X.env.cells scope.names [])) s3.heap.objs.size X.env = ce at I4 pg pt pk pe ⊢
  have cL : ce.locals = s3.heap.objs.size := by subst hce; rfl
  generalize hH3 : upd H2 D (.dT []) = H3 at I3 I4 pg pt pk pe w0 nfp f3
  generalize hs4 : ({ s3 with heap := pushCells (s3.heap.push { cls := .type "dict", data := .dict #[] }) scope.names } : Shared) = s4 at I4 ⊢
  have st4 : tn 0 s4.heap := T.keep _ _ _ st3 fun b _ o e => by rw [← hs4]; exact pushCells_keeps _ _ _ _ (Heap.get?_push_of_some _ e)
  have stat : ∀ {σ' : St} {H' : Hp} {s' : Shared}, Inv (X.blk s3 H3 scope ce fp) [] σ' H' s' → (∀ b ∈ fp, H' b = none) → ∀ b ∈ fp, FpOk (X.blk s3 H3 scope ce fp) [] H' b := fun {σ' H' s'} I' hn b hb =>
    ⟨hn b hb, (I'.ok.exf b hb).1, I'.ok.exfs b hb, .inl hb, fun x c e => (I'.ok.exf b hb).2 x c e, fun p hp => absurd (show p ∈ ([] : List (Addr × Obj)) ++ [] from hp) (by simp)⟩
  refine (fun loop => codeAny_compStart_dict loop (T.self X.A 0 _ _ _ st4 loop)) ?_
  refine compLoop_anyD (fun n s' => ∃ i H', Inv (X.blk s3 H3 scope ce fp) [] (wipe σ (own.map (·.2))) H' s' ∧ tn i s'.heap ∧ (∀ b ∈ fp, H' b = none) ∧ W i n H') ?_ m0 ⟨0, H3, I4, st4, nfp, w0⟩
  rintro n s5 ⟨i, H5, I5, st5, n5, w5⟩
  rcases turn i n H5 w5 with ⟨stop, qq⟩ | ⟨go, Nx, hNx, step⟩
  · have td := T.done (X.blk s3 H3 scope ce fp) rfl rfl rfl hc i [] s5 _ H5 (fun _ _ => False) I5 (stat I5 n5) st5 stop
    refine thnF td fun r s6 ⟨hr, I6⟩ => ?_
    subst hr
    have I7 : Inv X pins σ H5 s6 := I3.call' (ch := fp) I6.os I6.base I6.hok I6.bare fun b hb => ⟨(f3 b hb).1.2.2.2.1, (f3 b hb).1.2.1, (f3 b hb).1.2.2.2.2.1, (f3 b hb).1.2.2.2.2.2⟩
    have nC : H5 s3.heap.objs.size = none := by
      have z : H5 ce.locals = none := I6.free
      rw [cL] at z
      exact z
    obtain ⟨m, hn, _⟩ := I6.loc
    have hn : s6.heap.Ns ce.locals m := hn
    rw [cL] at hn
    refine ⟨m, hn, fun h'' sb => ?_⟩
    obtain ⟨f0, f1, f2, f3, f4, f5⟩ := I3.fpOk (Nat.le_refl _) nC
    exact ⟨.ref D, H5, I7.turned (t' := s6.toks) (fun b o hb e => (sb.2 b hb).trans e) f0 f1 f3 f4 f5, rfl, qq⟩
  · have ti := T.item (X.blk s3 H3 scope ce fp) rfl rfl rfl hc i [] s5 _ H5 (fun _ _ => False) I5 (stat I5 n5) st5 go
    refine thnF ti fun r s6 ⟨u, hr, h6⟩ => ?_
    subst hr
    refine thnF h6 fun _ s7 ⟨x, H7, I7, r7, y7, st7, n7⟩ => ?_
    have I7' := I7.pinned (stat I7 n7) (T.obj _ _ st7)
    refine thnF (pg.run _ s7 _ H7 x u _ I7' r7 (step x H7 y7)) fun _ s8 ⟨σ8, H8, I8, hw8, q8⟩ => ?_
    refine thnF (pt.run _ s8 σ8 H8 _ I8 q8) fun b s9 ⟨H9, I9, q9⟩ => ?_
    have fin : ∀ {s' : Shared} {H' : Hp}, Inv (X.blk s3 H3 scope ce fp) ([] ++ pinsAt fp s7.heap) σ8 H' s' → Nx H' → ∃ m, m < n ∧ ∃ i H', Inv (X.blk s3 H3 scope ce fp) [] (wipe σ (own.map (·.2))) H' s' ∧ tn i s'.heap ∧ (∀ b ∈ fp, H' b = none) ∧ W i m H' := fun {s' H'} I' nx => by
      obtain ⟨m', hm, w'⟩ := hNx H' nx
      have pin' : ∀ b ∈ fp, ∀ o, s7.heap.get? b = some o → s'.heap.get? b = some o ∧ H' b = none := fun b hb o e =>
        let z := I'.pin (b, o) (List.mem_append_right _ (List.mem_append_right _ (mem_pinsAt hb e)))
        ⟨z.1, z.2.1⟩
      have hl : (wipe σ (own.map (·.2))).length = σ8.length := by rw [← hw8, wipe_length]
      refine ⟨m', hm, i + 1, H', (I'.unpinned (pins := [])).weak hl (fun j v e => ?_), T.keep _ _ _ st7 fun b hb o e => (pin' b hb o e).1, fun b hb => ?_, w'⟩
      · rw [← hw8] at e
        exact (wipe_some e).1
      · obtain ⟨o, e, _⟩ := T.obj _ _ st7 b hb
        exact (pin' b hb o e).2
    cases b with
    | false =>
      simp only [Bool.false_eq_true, if_false] at q9 ⊢
      exact fin I9 q9
    | true =>
      simp only [if_true] at q9 ⊢
      refine thnF (pk.run _ s9 σ8 H9 _ I9 q9) fun z s10 ⟨yk, H10, I10, r10, q10⟩ => ?_
      refine thnF (pe.run _ s10 σ8 H10 _ I10 q10) fun z2 s11 ⟨yv, H11, I11, r11, kvs, k, b, ek, hb11, hD11, hz11, nx⟩ => ?_
      subst ek
      obtain rfl : z = Value.ref b := r10
      exact d_dictSetT (X := X.blk s3 H3 scope ce fp) hu I11 hD11 hb11 hz11 r11 fun s12 I12 => fin I12 nx
end
end L2
namespace L2
open PySem
section
variable {J : It} {n : Nat} {G : Hp → Prop} {Y : Nat → Hp → V → Hp → Prop}
theorem dct_it (w : Walk J n G Y) {g : TG} {tt : TT} {tk tv : TE} {vs : List Nat} {σ : St} {H1 : Hp} {D : Addr} {Qd : Hp → Prop} (Pv : Nat → Hp → Prop) (h0 : Pv 0 (upd H1 D (.dT []))) (hG : ∀ i H, i ≤ n → Pv i H → G H)
    (hs : ∀ i x H H', i < n → Pv i H → Y i H x H' → g x (wipe σ vs) H' fun σ2 H2 => wipe σ2 vs = wipe σ vs ∧ tt σ2 H2 fun b H3 =>
      if b = true then tk σ2 H3 fun y H4 => tv σ2 H4 fun z H5 => ∃ kvs k b, y = .ref b ∧ H5 b = some (.tup (k.map kV)) ∧ H5 D = some (.dT kvs) ∧ kvs.length < sizeLine ∧ Pv (i + 1) (upd H5 D (.dT (putK kvs k z))) else Pv (i + 1) H3) (hd : ∀ H, Pv n H → Qd H) :
    ∃ W : Nat → Nat → Hp → Prop, (∃ m, W 0 m (upd H1 D (.dT []))) ∧ ∀ i m H, W i m H →
      (J.stop i H ∧ Qd H) ∨ (J.go i H ∧ ∃ Nx : Hp → Prop, (∀ H', Nx H' → ∃ m', m' < m ∧ W (i + 1) m' H') ∧ ∀ x H', J.yld i H x H' → g x (wipe σ vs) H' fun σ2 H2 => wipe σ2 vs = wipe σ vs ∧ tt σ2 H2 fun b H3 =>
        if b = true then tk σ2 H3 fun y H4 => tv σ2 H4 fun z H5 => ∃ kvs k b, y = .ref b ∧ H5 b = some (.tup (k.map kV)) ∧ H5 D = some (.dT kvs) ∧ kvs.length < sizeLine ∧ Nx (upd H5 D (.dT (putK kvs k z))) else Nx H3) := by
  refine ⟨fun i m H => m = n - i ∧ i ≤ n ∧ Pv i H, ⟨n, by simp, Nat.zero_le _, h0⟩, ?_⟩
  rintro i m H ⟨rfl, hi, p⟩
  have q := hG i H hi p
  by_cases hlt : i < n
  · exact .inr ⟨w.goes i H hlt q, Pv (i + 1), fun H' p' => ⟨n - (i + 1), by omega, rfl, hlt, p'⟩, fun x H' y => hs i x H H' hlt p (w.yields i H x H' hlt q y)⟩
  · have e : i = n := by omega
    subst e
    exact .inl ⟨w.stops H q, hd H p⟩
end
end L2
namespace T3
open PySem L2
open Evl (Ex)
section
variable {B : Hp} {M : Mem} {K : PySem.W.Frag} {σ : Sig} {wi : TI} {g : TG} {tt : TT} {tk tv : TE} {vs : List Nat} {Q : DQ}
/-- {k: v for .. in ..}, keys tuples; the values may make new things -/
theorem w_dcT (hg : OwnG g vs) (h : W3i B wi σ M (fun ds P M1 => ∃ I : Nat → List (List Key × D) → Mem → Prop, (∀ i acc M', I i acc M' → P M' ∧ acc.length ≤ i) ∧ ds.length ≤ 1000000 ∧ I 0 [] M1 ∧
      (∀ (i : Nat) d acc M' L, ds[i]? = some d → I i acc M' → M' L = none → G3 B g d (wipe3 σ vs) (mput M' L (.dT acc)) (fun σ2 M2 => W3t B tt σ2 M2 (fun b M3 =>
        if b = true then W3e B tk σ2 M3 (fun x M4 => W3e B tv σ2 M4 (fun y M5 => ∃ k M6, x = .tup (k.map kD) ∧ M5 = mput M6 L (.dT acc) ∧ M6 L = none ∧ I (i + 1) (putKD acc k y) M6)) else ∃ M5, M3 = mput M5 L (.dT acc) ∧ M5 L = none ∧ I (i + 1) acc M5))) ∧
      (∀ acc M' L, M' L = none → I ds.length acc M' → Q (.ref L) (mput M' L (.dT acc))))) :
    W3e B (tDcT wi g tt tk tv vs) σ M Q := fun F σv H Qv b hs st k =>
  h F σv H _ b hs st fun F1 M1 J ds P H1 e1 st1 ⟨G, Y, w, hG, hY, hX⟩ ⟨I, hP, hl, h0, turn, fin⟩ L hL =>
    dct_it w (fun i H' => ∃ F' M' acc, Ex F1 F' ∧ M' L = none ∧ St3 F' (mput M' L (.dT acc)) H' ∧ I i acc M')
      ⟨F1, M1, [], Ex.refl _, (st1.nn hL).2, st1.newO (d := .dT []) hL ⟨[], rfl, .nil⟩, h0⟩
      (fun i H' _ ⟨F', M', acc, e, n, t, q⟩ => hG F' _ H' e t (hX M' L _ n (hP i acc M' q).1))
      (fun i x H' H'' hi ⟨F', M', acc, e, n, t, q⟩ y => by
        have hd : ds[i]? = some ds[i] := by simp [hi]
        obtain ⟨F2, e2, t2, rd⟩ := hY i _ x H' H'' F' _ hd e t (hX M' L _ n (hP i acc M' q).1) y
        have main := turn i _ acc M' L hd q n F2 (L2.wipe σv vs) H'' x (fun σ2 H2 => tt σ2 H2 fun b H3 => if b = true then tk σ2 H3 fun y H4 => tv σ2 H4 fun z H5 => ∃ kvs k b, y = .ref b ∧ H5 b = some (.tup (k.map kV)) ∧ H5 L = some (.dT kvs) ∧ kvs.length < sizeLine ∧
            (∃ F' M' acc', Ex F1 F' ∧ M' L = none ∧ St3 F' (mput M' L (.dT acc')) (upd H5 L (.dT (putK kvs k z))) ∧ I (i + 1) acc' M') else (∃ F' M' acc', Ex F1 F' ∧ M' L = none ∧ St3 F' (mput M' L (.dT acc')) H3 ∧ I (i + 1) acc' M'))
          (b.trans ((e1.trans e).trans e2)) (((hs.mono e1).mono (e.trans e2)).wipe vs) t2 rd fun F3 M3 σ3 σv3 H3 e3 s3 t3 q3 => ?_
        · exact hg x (L2.wipe σv vs) H'' _ _ (fun σ2 H2 w2 q2 => ⟨w2.trans wipe_wipe, q2⟩) main
        · refine q3 F3 σv3 H3 _ (b.trans (((e1.trans e).trans e2).trans e3)) s3 t3 fun F4 M4 c H4 e4 t4 q4 => ?_
          cases c with
          | false =>
            obtain ⟨M5, em, n5, i5⟩ := q4
            subst em
            exact ⟨F4, M5, acc, ((e.trans e2).trans e3).trans e4, n5, t4, i5⟩
          | true =>
            refine q4 F4 σv3 H4 _ (b.trans ((((e1.trans e).trans e2).trans e3).trans e4)) (s3.mono e4) t4 fun F5 M5 x5 v5 H5 e5 t5 r5 q5 => ?_
            refine q5 F5 σv3 H5 _ (b.trans (((((e1.trans e).trans e2).trans e3).trans e4).trans e5)) ((s3.mono e4).mono e5) t5 fun F6 M6' y v6 H6 e6 t6 r6 ⟨kk, M6, ex, em, n6, i6⟩ => ?_
            subst em ex
            obtain ⟨b5, us5, eb, hb5, rs5⟩ := r5.mono e6
            rw [rs5.keys] at hb5
            obtain ⟨_, ho, h1, us, e7, rs⟩ := t6.own L _ mput_same
            subst e7
            have hlen := (hP i acc M' q).2
            refine ⟨us, kk, b5, eb, t6.fz b5 _ hb5, h1, by rw [← pkv_length rs]; exact Nat.lt_of_lt_of_le (Nat.lt_of_le_of_lt hlen hi) (Nat.le_trans hl (by decide)), F6, M6, putKD acc kk y, ((((e.trans e2).trans e3).trans e4).trans e5).trans e6, n6, ?_, i6⟩
            have z := t6.put (p := L) (d := .dT acc) (d' := .dT (putKD acc kk y)) mput_same ⟨_, rfl, pkv_putK r6 rs⟩
            rwa [mput_mput] at z)
      (fun H' ⟨F', M', acc, e, n, t, q⟩ => k _ _ (.ref L) (.ref L) H' (e1.trans e) t rfl (fin acc M' L n q))
end
end T3
set_option Elab.async false
set_option linter.all false
set_option maxRecDepth 100000
set_option maxHeartbeats 2000000
namespace L2
open PySem PySem.Spec PyProof.Rows
/-! ### x in o, x not in o: o an own instance with __contains__ -/
def rInOwn (C : Addr) (sp : Sp) (neg : Bool) : R2 := fun x y H Q => ∃ (a dx : Addr) (fs : List (Str × V)), y = V.ref a ∧ H a = some (.ins C dx fs) ∧ sp [V.ref a, x] H (fun v H' => ∃ c : Bool, v = .bl c ∧ Q (.bl (if neg then !c else c)) H') (fun _ _ _ => False)
section
variable {X : Cx} {n : Nat} {C f : Addr} {fd : FuncData} {ps : List Str} {sp : Sp}
theorem run_contOwn {pins : List (Addr × Obj)} {σ : St} {s : Shared} {H : Hp} {x : V} {u : Value} {a : Addr} {q : Bool → Hp → Prop} (F : FnOk X.prog X.w X.K X.mg X.base CX0 n f fd ps sp) (hb : Binds X.K fd ps []) (hr : Room n X.A) (I : Inv X pins σ H s) (rx : RelV x u)
    (hq : sp [V.ref a, x] H (fun v H' => ∃ c : Bool, v = .bl c ∧ q c H') (fun _ _ _ => False)) :
    wpAny (model X.prog X.w) X.A (call (.ref f) [.ref a, u]) (fun r s' => ∃ c H', r = Value.bool c ∧ Inv X pins σ H' s' ∧ q c H') X.xe s := by
  have hll := F.len _ _ _ _ hq
  have b := hb s [.ref a, u] I.kIn (by simpa using hll)
  rw [List.append_nil] at b
  refine wpAny_call (codeAny_mono (F.run X.A X.stack s H ⟨[.ref a, u], []⟩ [.ref a, u] [.ref a, x] _ (fun _ _ _ => False) hr I.env0 b (.cons rfl (.cons rx .nil)) hq) fun r s' hq' => ?_)
  cases r with
  | error e => exact hq'.elim
  | ok fl =>
    cases fl with
    | next => exact False.elim hq'
    | brk => exact False.elim hq'
    | cont => exact False.elim hq'
    | ret u =>
      obtain ⟨v, H', I', rv, c, ev, q⟩ := I.after hq'
      subst ev
      exact ⟨c, H', rv, I', q⟩
theorem op_inOwn (hs : PySem.W.findIn X.K (.ref C) "__contains__" = some (some (.ref f))) (hf : PySem.W.isFn X.K (.ref f) = true) (F : FnOk X.prog X.w X.K X.mg X.base CX0 n f fd ps sp) (hb : Binds X.K fd ps []) (hr : Room n X.A) : OpR X (compareOp .In) (rInOwn C sp false) := by
  intro pins s σ H x y v u Q I rx ry ⟨a, dx, fs, ey, ha, hq⟩
  subst ey
  obtain rfl : u = Value.ref a := ry
  obtain ⟨mA, J, _⟩ := ins_get I.hok ha
  obtain ⟨od, J, _⟩ := J.look
  obtain ⟨m0, hF⟩ := I.fr
  refine PySem.W.in_K hF I.ok.mod.kin J hs hf (wpAny_mono (run_contOwn (q := fun c H' => Q (.bl c) H') F hb hr I rx hq) (fun r s' ⟨c, H', e, I', q⟩ => ?_) fun _ _ z => z)
  subst e
  show wpAny _ _ (truthy (.bool c)) _ _ s'
  unfold truthy
  exact wpAny_pure ⟨.bl c, H', I', rfl, q⟩
theorem op_notInOwn (hs : PySem.W.findIn X.K (.ref C) "__contains__" = some (some (.ref f))) (hf : PySem.W.isFn X.K (.ref f) = true) (F : FnOk X.prog X.w X.K X.mg X.base CX0 n f fd ps sp) (hb : Binds X.K fd ps []) (hr : Room n X.A) : OpR X (compareOp .NotIn) (rInOwn C sp true) := by
  intro pins s σ H x y v u Q I rx ry ⟨a, dx, fs, ey, ha, hq⟩
  subst ey
  obtain rfl : u = Value.ref a := ry
  obtain ⟨mA, J, _⟩ := ins_get I.hok ha
  obtain ⟨od, J, _⟩ := J.look
  obtain ⟨m0, hF⟩ := I.fr
  refine PySem.W.notIn_K hF I.ok.mod.kin J hs hf (wpAny_mono (run_contOwn (q := fun c H' => Q (.bl (!c)) H') F hb hr I rx hq) (fun r s' ⟨c, H', e, I', q⟩ => ?_) fun _ _ z => z)
  subst e
  show wpAny _ _ (truthy (.bool c)) _ _ s'
  unfold truthy
  exact wpAny_pure ⟨.bl (!c), H', I', rfl, q⟩
end
end L2
namespace T3
open PySem L2
open Evl (Ex)
section
variable {B : Hp} {M : Mem} {Q : DQ} {S : Sp3} {x y : D} {C : Addr} {neg : Bool}
theorem r3_inOwn (h : ∃ fs, InsD M y C fs ∧ S [y, x] M (fun d M' => ∃ c : Bool, d = .bl c ∧ Q (.bl (if neg then !c else c)) M') NoE) : R3 B (rInOwn C (lift3 S) neg) x y M Q := fun F H xv yv Qv b st rx ry k => by
  obtain ⟨fs, hi, q⟩ := h
  obtain ⟨a, dx, fv, ev, ha, pk⟩ := hi.at st ry
  refine ⟨a, dx, fv, ev, ha, ?_⟩
  refine lift_of (ds := [y, x]) b st ⟨_, _, rfl, (by rw [← ev]; exact ry), _, _, rfl, rx, rfl⟩ impE0 (fun F3 M3 d v H3 e3 s3 r3 ⟨c, ed, q3⟩ => ?_) q
  subst ed
  exact ⟨c, r3, k F3 M3 (.bl (if neg then !c else c)) (.bl (if neg then !c else c)) H3 e3 s3 rfl q3⟩
end
end T3
set_option Elab.async false
set_option linter.all false
set_option maxRecDepth 100000
set_option maxHeartbeats 2000000
namespace L2
open PySem
def rLstT : List V → Hp → VK → Prop := fun xs H Q => ∃ d kvs, xs = [V.ref d] ∧ Rd H d (.dT kvs) ∧ ∀ p bs, H p = none → IsKeys H kvs bs → Q (.ref p) (upd H p (.lst (bs.map V.ref)))
theorem cr_anyK {X : Cx} (K : PySem.W.Frag) (h : X.K = K) (hc : X.calm = true) : CallR X (.builtin "any") (rAny K) := by subst h; exact cr_any hc
theorem cr_allK {X : Cx} (K : PySem.W.Frag) (h : X.K = K) (hc : X.calm = true) : CallR X (.builtin "all") (rAll K) := by subst h; exact cr_all hc
theorem call_lstT {X : Cx} (hc : X.calm = true) : CallR X (.type "list") rLstT := call_list_dT hc
end L2
namespace T3
open PySem L2
open Evl (Ex)
section
variable {B : Hp} {M : Mem} {Q : DQ}
theorem rds_kV {F : Hp} : ∀ k : List Key, RDs F (k.map kD) (k.map kV)
  | [] => rfl
  | .inl i :: r => ⟨_, _, rfl, rfl, rds_kV r⟩
  | .inr s :: r => ⟨_, _, rfl, rfl, rds_kV r⟩
theorem ro_no_tup {F : Hp} {o : DO} {xs : List V} : ¬ RO F o (.tup xs) := fun h => by
  cases o with
  | lst ds => obtain ⟨_, e, _⟩ := h; cases e
  | ins C fs => obtain ⟨_, _, e, _⟩ := h; cases e
  | dK kvs => obtain ⟨_, e, _⟩ := h; cases e
  | dT kvs => obtain ⟨_, e, _⟩ := h; cases e
  | raw o => exact h.2 xs h.1.symm
  | exc a C th => obtain ⟨_, _, e, _⟩ := h; cases e
  | tab q => obtain ⟨_, e, _⟩ := h; cases e
  | gen g => exact g.nt F xs h
/-- the keys, tuples, come to be known as frozen ones -/
theorem St3.keys {F H : Hp} (st : St3 F M H) {kvs : List (List Key × D)} {kv : List (List Key × V)} {bs : List Addr} (pk : PKV F kvs kv) (ik : IsKeys H kv bs) :
    ∃ F1, Ex F F1 ∧ St3 F1 M H ∧ RDs F1 (kvs.map fun p => .tup (p.1.map kD)) (bs.map V.ref) := by
  have hb : ∀ b ∈ bs, ∃ xs, H b = some (.tup xs) := by
    intro b hb
    unfold IsKeys at ik
    clear pk
    induction ik with
    | nil => cases hb
    | cons h t ih =>
      rcases List.mem_cons.mp hb with rfl | hb
      · exact ⟨_, h⟩
      · exact ih hb
  refine ⟨fun a => if a ∈ bs then H a else F a, fun a u e => ?_, ⟨fun a u e => ?_, fun a o e => ?_⟩, ?_⟩
  · show (if a ∈ bs then H a else F a) = some u
    by_cases h : a ∈ bs
    · rw [if_pos h]; exact st.fz a u e
    · rw [if_neg h]; exact e
  · have e : (if a ∈ bs then H a else F a) = some u := e
    by_cases h : a ∈ bs
    · rw [if_pos h] at e; exact e
    · rw [if_neg h] at e; exact st.fz a u e
  · obtain ⟨f0, ho, h1, r⟩ := st.own a o e
    have hn : a ∉ bs := fun h => by
      obtain ⟨xs, hx⟩ := hb a h
      rw [h1] at hx
      cases hx
      exact ro_no_tup r
    refine ⟨by show (if a ∈ bs then H a else F a) = none; rw [if_neg hn]; exact f0, ho, h1, r.mono fun c u ec => ?_⟩
    show (if c ∈ bs then H c else F c) = some u
    by_cases h : c ∈ bs
    · rw [if_pos h]; exact st.fz c u ec
    · rw [if_neg h]; exact ec
  · have main : ∀ {l : List (List Key × D)} {m : List (List Key × V)} {cs : List Addr}, PKV F l m → IsKeys H m cs → (∀ c ∈ cs, c ∈ bs) → RDs (fun a => if a ∈ bs then H a else F a) (l.map fun p => .tup (p.1.map kD)) (cs.map V.ref) := by
      intro l m cs pk ik hs
      unfold PKV at pk
      induction pk generalizing cs with
      | nil => cases ik; rfl
      | @cons p q ps qs h t ih =>
        cases ik with
        | @cons _ c _ cs hc tc =>
          refine ⟨V.ref c, _, rfl, ⟨c, _, rfl, ?_, rds_kV p.1⟩, ih tc fun x hx => hs x (List.mem_cons_of_mem _ hx)⟩
          show (if c ∈ bs then H c else F c) = some _
          rw [if_pos (hs c (List.mem_cons_self ..)), h.1]
          exact hc
    exact main pk ik fun c hc => hc
theorem c3_lstT {d : Addr} {kvs : List (List Key × D)} (hm : M d = some (.dT kvs)) (q : Q (.lst (kvs.map fun p => .tup (p.1.map kD))) M) : C3 B rLstT [.ref d] M Q := fun F H xv Qv b st rx k => by
  obtain ⟨v, e, rv⟩ := rx.sing
  subst e
  obtain rfl : v = V.ref d := rv
  obtain ⟨_, ho, h1, kv, e2, pk⟩ := st.own d _ hm
  subst e2
  refine ⟨d, kv, rfl, .inl h1, fun p bs hp ik => ?_⟩
  obtain ⟨F1, e1, s1, rs⟩ := st.keys pk ik
  obtain ⟨s2, e2⟩ := s1.new (o := .lst (bs.map V.ref)) hp
  exact k _ _ (.lst _) _ _ (e1.trans e2) s2 ⟨p, _, rfl, upd_same, rs.mono e2⟩ q
theorem c3_lenT {d : Addr} {kvs : List (List Key × D)} (hm : M d = some (.dT kvs)) (q : Q (.int kvs.length) M) : C3 B rLenT [.ref d] M Q := fun F H xv Qv b st rx k => by
  obtain ⟨v, e, rv⟩ := rx.sing
  subst e
  obtain rfl : v = V.ref d := rv
  obtain ⟨_, ho, h1, kv, e2, pk⟩ := st.own d _ hm
  subst e2
  exact ⟨d, kv, rfl, h1, by rw [← pkv_length pk]; exact k F M (.int _) _ H (Ex.refl _) st rfl q⟩
end
end T3
set_option Elab.async false
set_option linter.all false
set_option maxRecDepth 100000
set_option maxHeartbeats 2000000
namespace L2
open PySem PySem.Spec PyProof.Rows PySem.W PySem.Calls
/-! ### sorted(xs, key=f), f a def or a lambda of the program, its calls told one after the other -/
def KeysT (kf : V → Hp → VK → Prop) : List V → Hp → (List V → Hp → Prop) → Prop
  | [], H, Q => Q [] H
  | x :: xs, H, Q => kf x H fun y H1 => KeysT kf xs H1 fun ys H2 => Q (y :: ys) H2
def KeyCall (X : Cx) (f : Value) (kf : V → Hp → VK → Prop) : Prop := ∀ (pins : List (Addr × Obj)) (σ : St) (H : Hp) (s : Shared) (x : V) (u : Value) (Q : VK), Inv X pins σ H s → RelV x u → kf x H Q →
  wpAny (model X.prog X.w) X.A.in1.in1 (call f [u]) (fun v s' => ∃ y H', Inv X pins σ H' s' ∧ RelV y v ∧ Q y H') (fun _ _ => False) s
structure Nw (X : Cx) (pins : List (Addr × Obj)) (b : Addr) : Prop where
  s0 : X.s_0.heap.objs.size ≤ b
  nL : b ≠ X.env.locals
  nfs : b ∉ X.fs
  nc : ∀ x c, X.env.cells.lookup x = some c → c ≠ b
  np : ∀ p ∈ X.pn ++ pins, p.1 ≠ b
section
variable {X : Cx} {pins : List (Addr × Obj)} {σ : St} {H : Hp} {s : Shared} {b : Addr}
theorem nw_of (I : Inv X pins σ H s) (h : s.heap.objs.size ≤ b) : Nw X pins b where
  s0 := Nat.le_trans I.sz h
  nL := fun e => by have := I.lt; rw [← e] at this; exact absurd (Nat.lt_of_lt_of_le this h) (Nat.lt_irrefl _)
  nfs := I.nofs h
  nc := fun x c e z => by
    obtain ⟨v, o, ho, _⟩ := I.cell x c e
    rw [z] at ho
    exact absurd (Nat.lt_of_lt_of_le (Heap.lt_size ho) h) (Nat.lt_irrefl _)
  np := fun p hp z => by
    have := (I.pin p hp).1
    rw [z] at this
    exact absurd (Nat.lt_of_lt_of_le (Heap.lt_size this) h) (Nat.lt_irrefl _)
theorem Inv.pin1 {o : Obj} (I : Inv X pins σ H s) (ho : s.heap.get? b = some o) (hn : H b = none) (w : Nw X pins b) (hd : ∀ v, o.data ≠ .cell v) : Inv X (pins ++ [(b, o)]) σ H s :=
  I.pins_of fun p hp => (List.mem_append.mp hp).elim (fun z => I.pin p (List.mem_append_right _ z)) fun z => by
    rw [List.mem_singleton.mp z]
    exact ⟨ho, hn, w.nL, w.nfs, hd⟩
theorem seq_nocell (T : String) (xs : Array Value) (n : Nat) : ∀ v, (seqObj T xs n).data ≠ .cell v := fun v h => by cases h
theorem sk_rest {f : Value} {kS a : Addr} {e1 : Nat} {vs : List Value} {ws : List V} {kf : V → Hp → VK → Prop} {Qk : List V → Hp → Prop} {P : PySem.Fin → Shared → Prop} {E : Value → Shared → Prop}
    (I : Inv X pins σ H s) (nk : s.heap.get? kS = some (seqObj "list" #[] 0)) (na : s.heap.get? a = some (seqObj "list" #[] e1)) (wk : Nw X pins kS) (wa : Nw X pins a) (hk0 : H kS = none) (ha0 : H a = none) (hka : kS ≠ a)
    (r : Vals ws vs) (hZ : vs.length ≤ sizeLine) (hf : KeyCall X f kf) (hk : KeysT kf ws H Qk)
    {R : List V → Hp → List PyData → Prop} (fin : ∀ ys H', Qk ys H' → ∃ kz, R ys H' kz ∧ DpAll X.K H' ys kz ∧ kz.length = ws.length ∧ AllAlike kz ∧ Sortable kz ∧ ∀ d ∈ kz, X.A.in1.in1.units + d.depth < cLine)
    (h : ∀ ys Hn sn kz h' tk out c, R ys Hn kz → DpAll X.K Hn ys kz → kz.length = ws.length → Inv X pins σ Hn sn → Hn a = none → Hn kS = none → (∀ b o, b ≠ a → b ≠ kS → sn.heap.get? b = some o → h'.get? b = some o) →
      h'.get? a = some (seqObj "list" (List.toArray out) c) → KeyedOut false kz vs out → P (.done (.ret .none)) { sn with heap := h', toks := tk }) :
    wpAny (model X.prog X.w) X.A.in1.in1 (ksk_rest a f false vs.toArray e1 (.ref kS)) P E s := by
  have hwl : ws.length = vs.length := r.length
  unfold ksk_rest
  refine wpAny_bind (wpAny_rule ?_)
  first
    | rw [List.forIn_toArray]
    | (rw [← Array.forIn_toList]; simp only [List.toList_toArray])
    | rw [← Array.forIn_toList]
  refine wpAny_bind (ksk_fold (fun j s' => ∃ Hj ys kA e, Inv X (pins ++ [(a, seqObj "list" #[] e1)]) σ Hj s' ∧ s'.heap.get? kS = some (seqObj "list" kA e) ∧ Hj kS = none ∧ Vals ys kA.toList ∧ ys.length = j ∧ KeysT kf (ws.drop j) Hj (fun zs H2 => Qk (ys ++ zs) H2)) vs 0 s
    ⟨H, [], #[], 0, I.pin1 na ha0 wa (seq_nocell _ _ _), nk, hk0, .nil, rfl, by rw [List.drop_zero]; exact hk⟩ ?step ?done)
  case step =>
    rintro j x s' hx ⟨Hj, ys, kA, e, I', nk', hk', rk, hyl, kt⟩
    simp only [Nat.zero_add] at kt hyl ⊢
    have hj : j < vs.length := (List.getElem?_eq_some_iff.mp hx).1
    obtain ⟨w, hw⟩ : ∃ w, ws[j]? = some w := ⟨_, List.getElem?_eq_getElem (by omega)⟩
    obtain ⟨x', hx', rw_⟩ := r.get hw
    rw [hx] at hx'
    cases hx'
    have hdr : ws.drop j = w :: ws.drop (j + 1) := by
      rw [List.drop_eq_getElem_cons (by omega)]
      rw [(List.getElem?_eq_some_iff.mp hw).2]
    rw [hdr] at kt
    have wk' : Nw X (pins ++ [(a, seqObj "list" #[] e1)]) kS := ⟨wk.s0, wk.nL, wk.nfs, wk.nc, fun p hp => by
      rcases List.mem_append.mp hp with hp | hp
      · exact wk.np p (List.mem_append_left _ hp)
      · rcases List.mem_append.mp hp with hp | hp
        · exact wk.np p (List.mem_append_right _ hp)
        · rw [List.mem_singleton.mp hp]; exact hka.symm⟩
    have I2 := I'.pin1 nk' hk' wk' (seq_nocell _ _ _)
    have hz : kA.size ≤ vs.length := by
      have h1 : ys.length = kA.size := by rw [← Array.length_toList]; exact rk.length
      omega
    refine wpAny_bind (wpAny_attempt (wpAny_mono (hf _ σ Hj s' w x _ I2 rw_ kt) (fun v s'' he => ?_) fun _ _ hF => hF.elim))
    obtain ⟨y, H', I3, rv, q⟩ := he
    have hpk := I3.pin (kS, seqObj "list" kA e) (List.mem_append_right _ (List.mem_append_right _ (List.mem_singleton.mpr rfl)))
    have nk2 : s''.heap.get? kS = some (seqObj "list" kA e) := hpk.1
    have hk2 : H' kS = none := hpk.2.1
    have s1 := Heap.SameBut.update s''.heap kS (Obj.mapSeq (·.push v))
    obtain ⟨c2, hc2⟩ : ∃ c2, (s''.heap.update kS (Obj.mapSeq (·.push v))).get? kS = some (seqObj "list" (kA.push v) c2) := ⟨_, get?_update_seq nk2 (·.push v)⟩
    try dsimp only
    refine wpAny_bind (listUpdate_at nk2 rfl ?_ (Nat.le_trans hz hZ) (Nat.le_trans (Nat.le_of_eq (Array.size_push ..)) (Nat.succ_le_succ (Nat.le_trans hz hZ))))
    have I4 : Inv X (pins ++ [(a, seqObj "list" #[] e1)]) σ H' s'' := I3.unpinned
    have I5 := I4.turned (it := kS) (t' := s''.toks) (h' := s''.heap.update kS (Obj.mapSeq (·.push v))) (fun b o hb e => (s1.2 b hb).trans e) hk2 wk'.nL (.inr wk'.s0) wk'.nc wk'.np
    refine wpAny_pure ⟨rfl, H', ys ++ [y], kA.push v, c2, I5, hc2, hk2, ?_, by rw [List.length_append, List.length_singleton, hyl], ?_⟩
    · rw [Array.toList_push]
      exact rk.append (.cons rv .nil)
    · have e2 : (fun zs H2 => Qk (ys ++ [y] ++ zs) H2) = fun zs H2 => Qk (ys ++ y :: zs) H2 := by
        funext zs H2
        rw [List.append_assoc]; rfl
      rw [e2]
      exact q
  case done =>
    rintro s' ⟨Hn, ys, kA, e, I', nk', hk', rk, hyl, kt⟩
    rw [Nat.zero_add, List.drop_of_length_le (by omega)] at kt
    have kt : Qk (ys ++ []) Hn := kt
    rw [List.append_nil] at kt
    obtain ⟨kz, hR0, hd, hkl, hal, hsk, hu⟩ := fin ys Hn kt
    obtain ⟨as, hr⟩ := Dp.readsAll I' kz ys kA.toList hd rk
    have hk'' : EachIs (fun v k => ∃ as, Reads s'.heap v k as) kA.toList kz := by
      have := readsAll_each (fun d : PyData => d) (bs := kz) (by rw [List.map_id']; exact hr)
      exact this
    have hsz : kA.size = vs.length := by
      have h1 : ys.length = kA.size := by rw [← Array.length_toList]; exact rk.length
      omega
    try dsimp only
    refine wpAny_bind (listItems_at nk' rfl ?_)
    have hpa := I'.pin (a, seqObj "list" #[] e1) (List.mem_append_right _ (List.mem_append_right _ (List.mem_singleton.mpr rfl)))
    have na' : s'.heap.get? a = some (seqObj "list" #[] e1) := hpa.1
    obtain ⟨G, g1, g2⟩ := restrict s'.heap fun b => decide (b ≠ kS)
    have gk : KeepsBut a G s'.heap := fun b o hb e => by
      by_cases hc : b = kS
      · rw [g2 b (by simp [hc])] at e; cases e
      · rw [g1 b (decide_eq_true hc)] at e; exact e
    refine keyH_end (κ := dataKind s'.heap kz) (h₁ := G) gk (g2 kS (by simp)) nk' na' hka (SortsAt.data (s := s') hk'' hal hsk hu) hsz hZ fun h3 tk3 c k3 n3 => ?_
    refine h ys Hn s' kz h3 tk3 _ c hR0 hd hkl I'.unpinned hpa.2.1 hk' (fun b o h1 h2 e => k3 b o h1 (by rw [g1 b (decide_eq_true h2)]; exact e)) n3 ⟨s'.heap, kA.toList, hal, rfl, hk''⟩
theorem vals_each : ∀ {us : List Value} {bs : List (V × PyData)}, EachIs (fun u b => RelV b.1 u) us bs → Vals (bs.map (·.1)) us
  | _, _, .nil => .nil
  | _, _, .cons h t => .cons h (vals_each t)
theorem each_vals : ∀ {ws : List V} {us : List Value} {kz : List PyData}, Vals ws us → kz.length = ws.length → EachIs (fun u (b : V × PyData) => RelV b.1 u) us (ws.zip kz)
  | [], _, [], .nil, _ => .nil
  | _ :: _, _, _ :: _, .cons h t, l => .cons h (each_vals t (Nat.succ.inj l))
  | [], _, _ :: _, _, l => by cases l
  | _ :: _, _, [], _, l => by cases l
def sortK (ws : List V) (kz : List PyData) : List V := ((ws.zip kz).mergeSort (dataLe false Prod.snd)).map (·.1)
def rSortG (K : PySem.W.Frag) (kf : Addr → V → Hp → VK → Prop) : List V → List V → Hp → VK → Prop := fun vs zs H Q => ∃ (l f : Addr) (ws : List V), vs = [V.ref l] ∧ zs = [V.ref f] ∧ SqL K H l ws ∧
  KeysT (kf f) ws H fun ys H' => ∃ kz, DpAll K H' ys kz ∧ kz.length = ws.length ∧ AllAlike kz ∧ Sortable kz ∧ (∀ d ∈ kz, d.depth ≤ 60) ∧ ∀ p, H' p = none → Q (.ref p) (upd H' p (.lst (sortK ws kz)))
theorem cr_sortG {kf : Addr → V → Hp → VK → Prop} (hu : X.A.units + 65 < cLine) (hf : ∀ f, KeyCall X (.ref f) (kf f)) : CallRK X (.builtin "sorted") [Str.ofString "key"] (rSortG X.K kf) := by
  intro pins s σ H vs zs us ws' Q I r rz h
  obtain ⟨l, f, ws, rfl, rfl, hs, hk⟩ := h
  obtain rfl := Vals.ref1 r
  obtain ⟨w1, rfl, e1⟩ := vals1 rz
  obtain rfl : w1 = Value.ref f := e1
  obtain ⟨its, rv, hl, hz⟩ := I.list hs
  have hZ : its.length ≤ sizeLine := by rw [← rv.length]; exact hz
  refine sorted_of_sort hl.isList hZ (PyProof.Rows.ksk_s1 _ _) (fun _ => PyProof.Rows.ksk_l1 _ _) fun E' => ?_
  show wpAny _ _ (Builtin.«list.sort» ⟨[.ref (s.heap.objs.size + 1)], [(Str.ofString "key", .ref f)]⟩) _ _ _
  rw [ksk_t1]
  have ho : (copyHeap s.heap its).get? (s.heap.objs.size + 1) = some (seqObj "list" its.toArray 0) := copyHeap_at s.heap its
  have ha : s.heap.objs.size + 1 < (copyHeap s.heap its).objs.size := Heap.lt_size ho
  obtain ⟨e1, ho1⟩ : ∃ e1, ((copyHeap s.heap its).update (s.heap.objs.size + 1) (Obj.mapSeq fun _ => (#[] : Array Value))).get? (s.heap.objs.size + 1) = some (seqObj "list" #[] e1) := ⟨_, get?_update_seq ho fun _ => #[]⟩
  have hkS : (((copyHeap s.heap its).update (s.heap.objs.size + 1) (Obj.mapSeq fun _ => (#[] : Array Value))).push (seqObj "tuple" its.toArray 0)).objs.size = (copyHeap s.heap its).objs.size + 1 := by rw [size_push', Heap.size_update]
  unfold ksk_tree
  refine wpAny_bind (listItems_at ho rfl ?_)
  refine wpAny_bind (listUpdate_at ho rfl ?_ (by rw [List.size_toArray]; exact hZ) (Nat.zero_le _))
  refine wpAny_bind (seqEpoch_at ho1 rfl ?_)
  refine wpAny_bind (wpAny_newTuple ?_ (by show its.length ≤ _; exact hZ))
  refine wpAny_bind (wpAny_newList ?_ (Nat.zero_le _))
  refine wpAny_holding ?_
  have I0 : Inv X pins σ H { s with heap := ((((copyHeap s.heap its).update (s.heap.objs.size + 1) (Obj.mapSeq fun _ => (#[] : Array Value))).push (seqObj "tuple" its.toArray 0)).push (seqObj "list" #[] 0)), toks := s.toks } := I.kept fun b o e => sorting_copy_old e
  have lA : s.heap.objs.size ≤ s.heap.objs.size + 1 := Nat.le_succ _
  have lK : s.heap.objs.size ≤ (((copyHeap s.heap its).update (s.heap.objs.size + 1) (Obj.mapSeq fun _ => (#[] : Array Value))).push (seqObj "tuple" its.toArray 0)).objs.size := by rw [hkS]; exact Nat.le_succ_of_le (Nat.le_of_lt (Nat.lt_of_succ_lt ha))
  have nKa : (((copyHeap s.heap its).update (s.heap.objs.size + 1) (Obj.mapSeq fun _ => (#[] : Array Value))).push (seqObj "tuple" its.toArray 0)).objs.size ≠ s.heap.objs.size + 1 := by rw [hkS]; exact Nat.ne_of_gt (Nat.lt_succ_of_lt ha)
  have wK := nw_of I lK
  have wA := nw_of I lA
  refine sk_rest (X := X) (σ := σ) (H := H) (kf := kf f) (ws := ws) I0 (Heap.get?_push_size _ rfl) (Heap.get?_push_of_some _ (Heap.get?_push_of_some _ ho1)) wK wA (I.hok.fresh lK) (I.hok.fresh lA) nKa rv hZ (hf f) hk
    (R := fun _ H' kz => ∀ p, H' p = none → Q (.ref p) (upd H' p (.lst (sortK ws kz)))) (fun ys H' ⟨kz, h1, h2, h3, h4, h5, h6⟩ => ⟨kz, h6, h1, h2, h3, h4, fun d hd => by have := h5 d hd; show X.A.units + 1 + 1 + d.depth < cLine; omega⟩)
    fun ys Hn sn kz h' tk out c hQ hd hkl In han hkn hold hget ko => ⟨rfl, ?_⟩
  have q := hQ
  generalize (((copyHeap s.heap its).update (s.heap.objs.size + 1) (Obj.mapSeq fun _ => (#[] : Array Value))).push (seqObj "tuple" its.toArray 0)).objs.size = kS at *
  generalize s.heap.objs.size + 1 = a at *
  obtain ⟨G, g1, g2⟩ := restrict sn.heap fun b => decide (b ≠ a ∧ b ≠ kS)
  have gin : ∀ b o, b ≠ a → b ≠ kS → sn.heap.get? b = some o → G.get? b = some o := fun b o h1 h2 e => by rw [g1 b (decide_eq_true ⟨h1, h2⟩)]; exact e
  have gout : ∀ b o, G.get? b = some o → h'.get? b = some o := fun b o e => by
    by_cases h1 : b ≠ a ∧ b ≠ kS
    · rw [g1 b (decide_eq_true h1)] at e
      exact hold b o h1.1 h1.2 e
    · rw [g2 b (decide_eq_false h1)] at e; cases e
  have ne : ∀ b u, Hn b = some u → b ≠ a ∧ b ≠ kS := fun b u e => ⟨fun z => (by rw [z, han] at e; cases e), fun z => (by rw [z, hkn] at e; cases e)⟩
  have JG : Inv X pins σ Hn { sn with heap := G, toks := tk } := by
    refine In.step (g' := sn.gens) (d' := sn.drawn) (ch := [a, kS]) (fun b hb => ?_) (fun b o _ _ hc e _ => ?_) (fun b o _ _ hc e _ => ⟨o.slots, ?_⟩) (fun b o _ _ n => n) (fun b o hc e => ⟨o, ?_⟩) (fun _ _ e => e) (fun _ _ _ e => e) (fun b ps e => ⟨#[], by rw [e]; simp⟩) (fun m hm => ?_) (fun b u e => ?_) In.bare
    · have hb : b = a ∨ b = kS := by simpa using hb
      rcases hb with rfl | rfl
      · exact ⟨.inr wA.s0, wA.nL, wA.nc, wA.np⟩
      · exact ⟨.inr wK.s0, wK.nL, wK.nc, wK.np⟩
    · have hc : ¬ (b = a ∨ b = kS) := by simpa using hc
      exact gin b o (fun z => hc (.inl z)) (fun z => hc (.inr z)) e
    · have hc : ¬ (b = a ∨ b = kS) := by simpa using hc
      exact gin b o (fun z => hc (.inl z)) (fun z => hc (.inr z)) e
    · have hc : ¬ (b = a ∨ b = kS) := by simpa using hc
      exact gin b o (fun z => hc (.inl z)) (fun z => hc (.inr z)) e
    · exact hm.at fun o q => gin _ o wA.nL.symm wK.nL.symm q
    · exact (In.hok b u e).stay (fun d v hd q => gin d v (by rcases hd with z | z; exact z ▸ (ne b u e).1; exact (ne _ _ z).1) (by rcases hd with z | z; exact z ▸ (ne b u e).2; exact (ne _ _ z).2) q) (fun d q => q) fun d xs q => q
  have hR := keyedOut_each (R := fun u (b : V × PyData) => RelV b.1 u) (bs := ws.zip kz) (k := Prod.snd) (by rw [List.map_snd_zip (by omega)]; exact ko) (each_vals rv hkl)
  have hv : Vals (sortK ws kz) out := vals_each hR
  have hvl : (sortK ws kz).length ≤ sizeLine := by
    unfold sortK
    rw [List.length_map, List.length_mergeSort, List.length_zip]
    exact Nat.le_trans (Nat.min_le_left _ _) hz
  exact ⟨.ref a, _, JG.laidN (a := a) (o := .lst (sortK ws kz)) (h' := h') (t' := tk) gout (g2 a (by simp)) han ⟨hvl, out, c, hv, hget⟩, rfl, q a han⟩
end
end L2
set_option Elab.async false
set_option linter.all false
set_option maxRecDepth 100000
set_option maxHeartbeats 2000000
namespace L2
open PySem PySem.Spec PyProof.Rows
/-! ### operators of own instances: each is the call of the class's method -/
theorem cmpBack_of {y : V} {v : Value} {Q : Value → Shared → Prop} {s : Shared} (r : RelV y v) (q : Q v s) : PySem.W.CmpBack Q v s := by
  cases y <;> first
    | (obtain ⟨t, rfl⟩ := r; exact q)
    | (cases r; exact q)
inductive TyOw (K : PySem.W.Frag) (H : Hp) : V → String → Prop where
  | int (i : Int) : TyOw K H (.int i) "int"
  | bl (b : Bool) : TyOw K H (.bl b) "bool"
  | str (x : Str) : TyOw K H (.str x) "str"
  | non : TyOw K H .non "NoneType"
  | tup {a : Addr} {xs : List V} (h : SqT K H a xs) : TyOw K H (.ref a) "tuple"
  | lst {a : Addr} {xs : List V} (h : SqL K H a xs) : TyOw K H (.ref a) "list"
structure OpF (K : PySem.W.Frag) (C f : Addr) (op : Operator) (Ts : List String) : Prop where
  first : PySem.W.selfFirst K C = true
  at_ : PySem.W.findIn K (.ref C) (PySem.dunder op.info.2) = some (some (.ref f))
  fn : PySem.W.isFn K (.ref f) = true
  r : ∃ rc, PySem.W.findIn K (.ref C) (dunderR op.info.2) = some rc ∧ (rc = none ∨ ∃ g : Addr, rc = some (.ref g))
  ty : ∀ T ∈ Ts, ∃ fo ro, PySem.W.findIn K (.type T) (PySem.dunder op.info.2) = some fo ∧ PySem.W.findIn K (.type T) (dunderR op.info.2) = some ro ∧ PySem.W.subIn K (.type T) (.ref C) = some false
theorem TyOw.looks {X : Cx} {pins : List (Addr × Obj)} {σ : St} {H : Hp} {s : Shared} {y : V} {u : Value} {T : String} (t : TyOw X.K H y T) (I : Inv X pins σ H s) (r : RelV y u) : PySem.W.Looks (model X.prog X.w) s.heap (typeOf u) (.type T) := by
  cases t with
  | int i => obtain ⟨t, rfl⟩ := r; exact PySem.W.Looks.of_pure rfl
  | bl b => cases r; exact PySem.W.Looks.of_pure rfl
  | str x => obtain ⟨t, rfl⟩ := r; exact PySem.W.Looks.of_pure rfl
  | non => cases r; exact PySem.W.Looks.of_pure rfl
  | tup h =>
    cases r
    obtain ⟨its, _, ⟨o, ho, hc, _⟩, _⟩ := I.tuple h
    exact fun A Q E s k q => wpAny_typeOf_ref (k _ _ ho) (by rw [hc]; exact q)
  | lst h =>
    cases r
    obtain ⟨its, _, ⟨o, n, ho, hc, _⟩, _⟩ := I.list h
    exact fun A Q E s k q => wpAny_typeOf_ref (k _ _ ho) (by rw [hc]; exact q)
def OkT (K : PySem.W.Frag) (C : Addr) (Ts : List String) (y : V) (H : Hp) : Prop := (∃ T ∈ Ts, TyOw K H y T) ∨ ∃ (a dx : Addr) (fs : List (Str × V)), y = .ref a ∧ H a = some (.ins C dx fs)
section
variable {prog : Program} {w : World} {A : Around} {E : Value → Shared → Prop} {s : Shared} {K : PySem.W.Frag} {x C L f : Addr} {h₀ : Heap} {m : Str → Option Value} {ox : Obj} {od : Option Obj} {T : String}
open PySem.W in
theorem bin_own {op : Operator} {b : Value} {Ts : List String} {Q : Value → Shared → Prop} (X : K.In s.heap) (I : InstAt s.heap x ox C od) (L2 : PySem.W.Looks (model prog w) s.heap (typeOf b) (.type T)) (B : OpF K C f op Ts) (hT : T ∈ Ts)
    (h : wpAny (model prog w) A (call (.ref f) [.ref x, b]) (PySem.W.CmpBack Q) E s) : wpAny (model prog w) A (binaryOp op (.ref x) b) Q E s := by
  obtain ⟨cd, rest, hcd, hm⟩ := ksp_first B.first
  obtain ⟨rc, hr, hp⟩ := B.r
  obtain ⟨fo, ro, h1, h2, hsub⟩ := B.ty T hT
  have hs := B.at_
  rcases hi : op.info with ⟨sym, nm'⟩
  rw [hi] at hs hr h1 h2
  dsimp only at hs hr h1 h2
  have one := ksp_try X I hs B.fn h
  obtain ⟨hh, g, d, tt, os⟩ := s
  have L1 : PySem.W.Looks (model prog w) hh (typeOf (.ref x)) (.ref C) := I.type
  have L3 : PySem.W.Looks (model prog w) hh (fillsNumberSlot (.ref C) nm') true := fills_K X hcd hm hs
  have L4 : PySem.W.Looks (model prog w) hh (fillsNumberSlot (.type T) nm') ((fo.isSome && !isSeqSlot fo) || (ro.isSome && !isSeqSlot ro)) := ksp_fillsT X h1 h2
  have L5 : PySem.W.Looks (model prog w) hh (isSubtype (.type T) (.ref C)) false := looks_subIn X hsub
  have L6 : PySem.W.Looks (model prog w) hh (numberSlotInPython (.ref C) nm') true := ksp_inPy X hs hr hp
  have L7 : PySem.W.Looks (model prog w) hh (numberSlotInPython (.type T) nm') false := Looks.of_pure rfl
  have L8 : PySem.W.Looks (model prog w) hh (typeLookup (.type T) (dunderR nm')) ro := looks_findIn X h2
  generalize ((fo.isSome && !isSeqSlot fo) || (ro.isSome && !isSeqSlot ro)) = right at L4
  have hne : (Value.ref C == Value.type T) = false := Bool.eq_false_iff.mpr fun q => by cases beq_iff_eq.mp q
  simp only [binaryOp, hi]
  refine wpAny_holding (wpAny_bind ?_)
  unfold binaryOp1
  refine wpAny_bind (L1.at (wpAny_bind (L2.at (wpAny_bind (L3.at ?_)))))
  simp only [hne, Bool.false_eq_true, if_false]
  cases right with
  | false =>
    ksp_lk
    refine wpAny_mono one (fun r s' hr' => ?_) fun _ _ e => e
    obtain ⟨v, rfl, hq⟩ := hr'
    ksp_lk
    exact hq
  | true =>
    ksp_lk
    refine wpAny_mono one (fun r s' hr' => ?_) fun _ _ e => e
    obtain ⟨v, rfl, hq⟩ := hr'
    ksp_lk
    exact hq
end
def InsV (H : Hp) (x : V) (C : Addr) : Prop := ∃ (a dx : Addr) (fs : List (Str × V)), x = .ref a ∧ H a = some (.ins C dx fs)
def tOwn2 (K : PySem.W.Frag) (C : Addr) (Ts : List String) (sp : Sp) (E : St → XK) (ta tb : TE) : TE := fun σ H Q => ta σ H fun x H1 => tb σ H1 fun y H2 => InsV H2 x C ∧ OkT K C Ts y H2 ∧ sp [x, y] H2 Q (E σ)
def rOwn1 (C : Addr) (sp : Sp) : V → Hp → VK → Prop := fun x H Q => InsV H x C ∧ sp [x] H Q (fun _ _ _ => False)
def rOwn2 (C : Addr) (sp : Sp) : R2 := fun x y H Q => InsV H x C ∧ sp [x, y] H Q (fun _ _ _ => False)
def rOwnEq (K : PySem.W.Frag) (C : Addr) (Ts : List String) (sp : Sp) : R2 := fun x y H Q => InsV H x C ∧ OkT K C Ts y H ∧ sp [x, y] H Q (fun _ _ _ => False)
def cOwn1 (C : Addr) (sp : Sp) : List V → Hp → VK → Prop := fun xs H Q => ∃ x, xs = [x] ∧ rOwn1 C sp x H Q
def tOwnGet (C : Addr) (sp : Sp) (E : St → XK) (ta tb : TE) : TE := fun σ H Q => ta σ H fun x H1 => tb σ H1 fun y H2 => InsV H2 x C ∧ sp [x, y] H2 Q (E σ)
def gOwnSub (C : Addr) (sp : Sp) (E : St → XK) (to ti : TE) : TG := fun v σ H Q => to σ H fun o H1 => ti σ H1 fun i H2 => InsV H2 o C ∧ sp [o, i, v] H2 (fun _ H3 => Q σ H3) (E σ)
section
variable {X : Cx} {CX : CXT} {n : Nat} {C f : Addr} {fd : FuncData} {ps : List Str} {sp : Sp} {E : St → XK} {a b : Expr} {ta tb : TE} {pos : Pos} {K : PySem.W.Frag}
theorem pass0E : ∀ σ, PassesAt CX X σ ((fun _ : St => (fun _ _ _ => False : XK)) σ) → True := fun _ _ => trivial
theorem pe_own2 {op : Operator} {Ts : List String} (hK : X.K = K) (ha : PE X a ta) (hb : PE X b tb) (B : OpF K C f op Ts) (F : FnOk X.prog X.w X.K X.mg X.base CX n f fd ps sp) (bd : Binds K fd ps []) (hr : Room n X.A) (hx : ∀ σ, PassesAt CX X σ (E σ)) :
    PE X (.BinOp a op b pos) (tOwn2 K C Ts sp E ta tb) := by
  subst hK
  refine ⟨fun pins s σ H Q I h => ?_⟩
  refine wpAny_BinOp (binT ha hb I h fun v u s2 x y H2 I2 rx ry ⟨⟨a, dx, fs, ex, ea⟩, ok, q⟩ => ?_)
  subst ex
  obtain rfl : v = Value.ref a := rx
  obtain ⟨mA, J, _⟩ := ins_get I2.hok ea
  obtain ⟨od, J, _⟩ := J.look
  obtain ⟨m0, hF⟩ := I2.fr
  have call_ : wpAny (model X.prog X.w) X.A (call (.ref f) [.ref a, u]) (PySem.W.CmpBack (EP X pins σ Q)) X.xe s2 :=
    wpAny_mono (run_fnT (us := [.ref a, u]) (vs := [.ref a, y]) F hr bd .nil (hx σ) I2 (.cons rfl (.cons ry .nil)) q) (fun r s' ⟨z, H', I', rz, qz⟩ => cmpBack_of rz ⟨z, H', I', rz, qz⟩) fun _ _ z => z
  rcases ok with ⟨T, hT, ty⟩ | ⟨b, dxb, fsb, eb, hb⟩
  · exact bin_own I2.kIn J (ty.looks I2 ry) B hT call_
  · subst eb
    obtain rfl : u = Value.ref b := ry
    obtain ⟨mB, Jb, _⟩ := ins_get I2.hok hb
    obtain ⟨ob, Jb, _⟩ := Jb.look
    exact PySem.W.binop_K hF I2.ok.mod.kin J Jb.type B.first B.at_ B.fn call_
theorem un_own (at_ : PySem.W.findIn K (.ref C) "__neg__" = some (some (.ref f))) (fn : PySem.W.isFn K (.ref f) = true) (F : FnOk X.prog X.w X.K X.mg X.base CX n f fd ps sp) (bd : Binds K fd ps []) (hr : Room n X.A) (hx : Passes CX X (fun _ _ _ => False)) (hK : X.K = K) :
    UnR X (unaryOp .USub) (rOwn1 C sp) := by
  subst hK
  intro pins s σ H x v Q I rx ⟨⟨a, dx, fs, ex, ea⟩, q⟩
  subst ex
  obtain rfl : v = Value.ref a := rx
  obtain ⟨mA, J, _⟩ := ins_get I.hok ea
  obtain ⟨od, J, _⟩ := J.look
  obtain ⟨m0, hF⟩ := I.fr
  exact PySem.W.ksp_neg hF I.ok.mod.kin J at_ fn (run_fn (us := [.ref a]) (vs := [.ref a]) F hr bd .nil hx I (.cons rfl .nil) q)
theorem ip_own {op : Operator} (first : PySem.W.selfFirst K C = true) (at_ : PySem.W.findIn K (.ref C) (dunderI op.info.2) = some (some (.ref f))) (fn : PySem.W.isFn K (.ref f) = true) (F : FnOk X.prog X.w X.K X.mg X.base CX n f fd ps sp) (bd : Binds K fd ps []) (hr : Room n X.A)
    (hx : Passes CX X (fun _ _ _ => False)) (hK : X.K = K) : PIp X op (rOwn2 C sp) := by
  subst hK
  intro pins s σ H x y v u Q I rx ry ⟨⟨a, dx, fs, ex, ea⟩, q⟩
  subst ex
  obtain rfl : v = Value.ref a := rx
  obtain ⟨mA, J, _⟩ := ins_get I.hok ea
  obtain ⟨od, J, _⟩ := J.look
  obtain ⟨m0, hF⟩ := I.fr
  exact PySem.W.ksp_inplace hF I.ok.mod.kin J first at_ fn (wpAny_mono (run_fn (us := [.ref a, u]) (vs := [.ref a, y]) F hr bd .nil hx I (.cons rfl (.cons ry .nil)) q) (fun r s' ⟨z, H', I', rz, qz⟩ => cmpBack_of rz ⟨z, H', I', rz, qz⟩) fun _ _ z => z)
theorem op_eqOwn {Ts : List String} (hu : X.A.units < cLine) (at_ : PySem.W.findIn K (.ref C) "__eq__" = some (some (.ref f))) (fn : PySem.W.isFn K (.ref f) = true) (nf : ∀ T ∈ Ts, PySem.W.notFirst K C (.type T) = true) (F : FnOk X.prog X.w X.K X.mg X.base CX n f fd ps sp) (bd : Binds K fd ps []) (hr : Room n X.A)
    (hx : Passes CX X (fun _ _ _ => False)) (hK : X.K = K) : OpR X (compareOp .Eq) (rOwnEq K C Ts sp) := by
  subst hK
  intro pins s σ H x y v u Q I rx ry ⟨⟨a, dx, fs, ex, ea⟩, ok, q⟩
  subst ex
  obtain rfl : v = Value.ref a := rx
  obtain ⟨mA, J, _⟩ := ins_get I.hok ea
  obtain ⟨od, J, _⟩ := J.look
  obtain ⟨m0, hF⟩ := I.fr
  have call_ : wpAny (model X.prog X.w) X.A (call (.ref f) [.ref a, u]) (PySem.W.CmpBack (EP X pins σ Q)) X.xe s :=
    wpAny_mono (run_fn (us := [.ref a, u]) (vs := [.ref a, y]) F hr bd .nil hx I (.cons rfl (.cons ry .nil)) q) (fun r s' ⟨z, H', I', rz, qz⟩ => cmpBack_of rz ⟨z, H', I', rz, qz⟩) fun _ _ z => z
  show wpAny (model X.prog X.w) X.A (richCompare .Eq (.ref a) u) _ _ s
  rcases ok with ⟨T, hT, ty⟩ | ⟨b, dxb, fsb, eb, hb⟩
  · exact PySem.W.cmp_K hu hF I.ok.mod.kin J (ty.looks I ry) (nf T hT) at_ fn call_
  · subst eb
    obtain rfl : u = Value.ref b := ry
    obtain ⟨mB, Jb, _⟩ := ins_get I.hok hb
    obtain ⟨ob, Jb, _⟩ := Jb.look
    exact PySem.W.cmp_K hu hF I.ok.mod.kin J Jb.type (by unfold PySem.W.notFirst; simp) at_ fn call_
theorem pg_ownSub {o i : Expr} {to ti : TE} (ho : PE X o to) (hi : PE X i ti) (nq : PySem.W.noSeq K C = true) (at_ : PySem.W.findIn K (.ref C) "__setitem__" = some (some (.ref f))) (fn : PySem.W.isFn K (.ref f) = true) (F : FnOk X.prog X.w X.K X.mg X.base CX n f fd ps sp) (bd : Binds K fd ps []) (hr : Room n X.A)
    (hx : ∀ σ, PassesAt CX X σ (E σ)) (hK : X.K = K)
    (ha : ∀ v, assign (.Subscript o i pos) X.env v = (do
      let ov ← holding [v] (eval o X.env)
      let iv ← holding [v, ov] (eval i X.env)
      standAt pos
      holding [v, ov, iv] (setItem ov iv v)
      release [v, ov, iv] []) := by intro _; rfl) : PG X (.Subscript o i pos) (gOwnSub C sp E to ti) := by
  subst hK
  refine ⟨fun pins s σ H v u Q I r h => ?_⟩
  rw [ha]
  refine wpAny_bind (wpAny_holding (thn (ho.run pins s σ H _ I h) fun ov s1 ⟨x, H1, I1, r1, q1⟩ => ?_))
  refine wpAny_bind (wpAny_holding (thn (hi.run pins s1 σ H1 _ I1 q1) fun iv s2 ⟨y, H2, I2, r2, ⟨a, dx, fs, ex, ea⟩, q2⟩ => ?_))
  subst ex
  obtain rfl : ov = Value.ref a := r1
  obtain ⟨mA, J, _⟩ := ins_get I2.hok ea
  obtain ⟨od, J, _⟩ := J.look
  obtain ⟨m0, hF⟩ := I2.fr
  refine wpAny_bind (wpAny_standAt (wpAny_bind (wpAny_holding ?_)))
  refine PySem.W.ksp_setItem hF I2.ok.mod.kin J nq at_ fn (wpAny_mono (run_fnT (us := [.ref a, iv, u]) (vs := [.ref a, y, v]) F hr bd .nil (hx σ) I2 (.cons rfl (.cons r2 (.cons r .nil))) q2) (fun _ s3 ⟨z, H3, I3, _, q3⟩ => ?_) fun _ _ z => z)
  exact wpAny_release ⟨σ, H3, I3, q3⟩
theorem call_absOwn (at_ : PySem.W.findIn K (.ref C) "__abs__" = some (some (.ref f))) (fn : PySem.W.isFn K (.ref f) = true) (F : FnOk X.prog X.w X.K X.mg X.base CX0 n f fd ps sp) (bd : Binds K fd ps []) (hr : Room (n + 1) X.A) (hK : X.K = K) : CallR X (.builtin "abs") (cOwn1 C sp) := by
  subst hK
  intro pins s σ H xs us Q I rv h
  obtain ⟨x, rfl, ⟨a, dx, fs, ex, ea⟩, q⟩ := h
  subst ex
  obtain ⟨u, rfl, ru⟩ := vals1 rv
  obtain rfl : u = Value.ref a := ru
  obtain ⟨mA, J, _⟩ := ins_get I.hok ea
  obtain ⟨od, J, _⟩ := J.look
  have KX := I.kIn
  have hll := F.len _ _ _ _ q
  have b := bd s [.ref a] KX (by simpa using hll)
  rw [List.append_nil] at b
  refine Calls.call_function_entry kind_abs plain_abs entry_abs (args_abs _) ?_
  unfold Builtin.«abs»
  refine wpAny_bind (m := oneArg "abs" _) (wpAny_pure ?_)
  refine wpAny_bind (m := callSpecial? (.ref a) (Str.ofString "__abs__")) (PySem.W.special_fn KX J at_ (beq_iff_eq.mp fn) ?_)
  refine wpAny_call (codeAny_mono (F.run X.A.in1 X.stack s H ⟨[.ref a], []⟩ [.ref a] [.ref a] Q (fun _ _ _ => False) hr.in1 I.env0.in1 b (.cons rfl .nil) q) fun r s' hq => ?_)
  cases r with
  | error e => exact hq.elim
  | ok fl =>
    cases fl with
    | next => exact False.elim hq
    | brk => exact False.elim hq
    | cont => exact False.elim hq
    | ret u => exact wpAny_pure ⟨_, rfl, I.after hq⟩
theorem pe_ownGet {o i : Expr} {to ti : TE} (hK : X.K = K) (ho : PE X o to) (hi : PE X i ti) (at_ : PySem.W.findIn K (.ref C) "__getitem__" = some (some (.ref f))) (fn : PySem.W.isFn K (.ref f) = true) (fi : PySem.W.fnIn K f = true) (F : FnOk X.prog X.w X.K X.mg X.base CX n f fd ps sp) (bd : Binds K fd ps []) (hr : Room (n + 1) X.A)
    (hx : ∀ σ, PassesAt CX X σ (E σ)) (hs : ∀ x j, subscripted i true (.ref x) j = runValue (.builtin "lifetime.subscript" ⟨[.ref x, j], []⟩)) : PE X (.Subscript o i pos) (tOwnGet C sp E to ti) := by
  subst hK
  refine ⟨fun pins s σ H Q I h => ?_⟩
  refine Subscript_ (binT ho hi I h fun v u s2 x y H2 I2 rx ry ⟨⟨a, dx, fs, ex, ea⟩, q⟩ => ?_)
  subst ex
  obtain rfl : v = Value.ref a := rx
  obtain ⟨mA, J, _⟩ := ins_get I2.hok ea
  obtain ⟨od, J, _⟩ := J.look
  obtain ⟨m0, hF⟩ := I2.fr
  have hll := F.len _ _ _ _ q
  have b := bd s2 [.ref a, u] I2.kIn (by simpa using hll)
  rw [List.append_nil] at b
  refine PySem.W.sub_K hF I2.ok.mod.kin J at_ fi fn (wpAny_call (codeAny_mono (F.run X.A.in1 X.stack s2 H2 ⟨[.ref a, u], []⟩ [.ref a, u] [.ref a, y] Q (E σ) hr.in1 I2.env0.in1 b (.cons rfl (.cons ry .nil)) q) fun r s' hq => ?_)) (hs a u)
  cases r with
  | error e => exact hx σ pins H2 s2 e s' I2 hq
  | ok fl =>
    cases fl with
    | next => exact False.elim hq
    | brk => exact False.elim hq
    | cont => exact False.elim hq
    | ret u => exact I2.after hq
end
end L2
namespace T3
open PySem L2
open Evl (Ex)
inductive TyOD (M : Mem) : D → String → Prop where
  | int (i : Int) : TyOD M (.int i) "int"
  | bl (b : Bool) : TyOD M (.bl b) "bool"
  | str (x : Str) : TyOD M (.str x) "str"
  | non : TyOD M .non "NoneType"
  | tup (ds : List D) : TyOD M (.tup ds) "tuple"
  | lst {x : D} {ds : List D} (h : LstD M x ds) : TyOD M x "list"
def OkOD (C : Addr) (Ts : List String) (y : D) (M : Mem) : Prop := (∃ T ∈ Ts, TyOD M y T) ∨ ∃ fs, InsD M y C fs
section
variable {B : Hp} {M : Mem} {K : PySem.W.Frag} {σ : Sig} {t : TA} {ta tb te : TE} {Q : DQ} {S : Sp3} {C : Addr} {Ts : List String} {x y : D}
theorem insV_of {F H : Hp} {v : V} {fs : List (Str × D)} (h : InsD M x C fs) (st : St3 F M H) (r : RD F x v) : InsV H v C := by
  obtain ⟨a, dx, fv, e, ha, _⟩ := h.at st r
  exact ⟨a, dx, fv, e, ha⟩
theorem okT_of {F H : Hp} {v : V} (h : OkOD C Ts y M) (st : St3 F M H) (r : RD F y v) : OkT K C Ts v H := by
  rcases h with ⟨T, hT, ty⟩ | ⟨fs, hi⟩
  · refine .inl ⟨T, hT, ?_⟩
    cases ty with
    | int i => obtain rfl : v = .int i := r; exact .int i
    | bl b => obtain rfl : v = .bl b := r; exact .bl b
    | str z => obtain rfl : v = .str z := r; exact .str z
    | non => obtain rfl : v = .non := r; exact .non
    | tup ds =>
      obtain ⟨a, vs, e, h1, _⟩ := r
      subst e
      exact .tup (.inl (.inl (st.fz a _ h1)))
    | lst l =>
      obtain ⟨a, vs, e, h1, _⟩ := l.seq (K := K) st r
      subst e
      exact .lst h1
  · obtain ⟨a, dx, fv, e, ha, _⟩ := hi.at st r
    exact .inr ⟨a, dx, fv, e, ha⟩
theorem rds2 {F : Hp} {v u : V} (r1 : RD F x v) (r2 : RD F y u) : RDs F [x, y] [v, u] := ⟨v, _, rfl, r1, u, _, rfl, r2, rfl⟩
theorem w_own2 {E : XK} (h : W3e B ta σ M (fun x M1 => W3e B tb σ M1 (fun y M2 => (∃ fs, InsD M2 x C fs) ∧ OkOD C Ts y M2 ∧ S [x, y] M2 Q NoE))) : W3e B (tOwn2 K C Ts (lift3 S) (fun _ => E) ta tb) σ M Q := fun F σv H Qv b hs st k =>
  h F σv H _ b hs st fun F1 M1 x xv H1 e1 st1 rx q1 => q1 F1 σv H1 _ (b.trans e1) (hs.mono e1) st1 fun F2 M2 y yv H2 e2 st2 ry ⟨⟨fs, hi⟩, ok, q⟩ =>
    ⟨insV_of hi st2 (rx.mono e2), okT_of ok st2 ry, lift_of (b.trans (e1.trans e2)) st2 (rds2 (rx.mono e2) ry) impE0 (fun F3 M3 d v H3 e3 => k F3 M3 d v H3 ((e1.trans e2).trans e3)) q⟩
theorem w_own2T {W : WX} {EW : EW3} (hW : ImpW B EW W) (h : W3e B ta σ M (fun x M1 => W3e B tb σ M1 (fun y M2 => (∃ fs, InsD M2 x C fs) ∧ OkOD C Ts y M2 ∧ S [x, y] M2 Q (fun C th M' => EW C th σ M')))) : W3e B (tOwn2 K C Ts (lift3 S) (WE W) ta tb) σ M Q := fun F σv H Qv b hs st k =>
  h F σv H _ b hs st fun F1 M1 x xv H1 e1 st1 rx q1 => q1 F1 σv H1 _ (b.trans e1) (hs.mono e1) st1 fun F2 M2 y yv H2 e2 st2 ry ⟨⟨fs, hi⟩, ok, q⟩ =>
    ⟨insV_of hi st2 (rx.mono e2), okT_of ok st2 ry, ⟨[x, y], F2, M2, Q, _, rds2 (rx.mono e2) ry, st2, fun F3 M3 d v H3 e3 => k F3 M3 d v H3 ((e1.trans e2).trans e3),
      fun F' M' C d thing v H' e s r z q' => hW F' M' σ σv C d thing v H' ((b.trans (e1.trans e2)).trans e) ((hs.mono (e1.trans e2)).mono e) s r z q', q⟩⟩
theorem u3_own1 {fs : List (Str × D)} (hi : InsD M x C fs) (h : S [x] M Q NoE) : U3 B (rOwn1 C (lift3 S)) x M Q := fun F H xv Qv b st rx k =>
  ⟨insV_of hi st rx, lift_of (ds := [x]) b st ⟨_, _, rfl, rx, rfl⟩ impE0 k h⟩
theorem r3_own2 {fs : List (Str × D)} (hi : InsD M x C fs) (h : S [x, y] M Q NoE) : R3 B (rOwn2 C (lift3 S)) x y M Q := fun F H xv yv Qv b st rx ry k =>
  ⟨insV_of hi st rx, lift_of b st (rds2 rx ry) impE0 k h⟩
theorem r3_ownEq {fs : List (Str × D)} (hi : InsD M x C fs) (ok : OkOD C Ts y M) (h : S [x, y] M Q NoE) : R3 B (rOwnEq K C Ts (lift3 S)) x y M Q := fun F H xv yv Qv b st rx ry k =>
  ⟨insV_of hi st rx, okT_of ok st ry, lift_of b st (rds2 rx ry) impE0 k h⟩
theorem c3_own1 {fs : List (Str × D)} (hi : InsD M x C fs) (h : S [x] M Q NoE) : C3 B (cOwn1 C (lift3 S)) [x] M Q := fun F H xv Qv b st rx k => by
  obtain ⟨v, e, r⟩ := rx.sing
  exact ⟨v, e, insV_of hi st r, lift_of (ds := [x]) b st ⟨_, _, rfl, r, rfl⟩ impE0 k h⟩
theorem g3_ownSub {E : XK} {d : D} {to ti : TE} {Q : Sig → Mem → Prop} (h : W3e B to σ M (fun o M1 => W3e B ti σ M1 (fun i M2 => (∃ fs, InsD M2 o C fs) ∧ S [o, i, d] M2 (fun _ M3 => Q σ M3) NoE))) : G3 B (gOwnSub C (lift3 S) (fun _ => E) to ti) d σ M Q := fun F σv H dv Qv b hs st rd k =>
  h F σv H _ b hs st fun F1 M1 o ov H1 e1 st1 ro q1 => q1 F1 σv H1 _ (b.trans e1) (hs.mono e1) st1 fun F2 M2 i iv H2 e2 st2 ri ⟨⟨fs, hi⟩, q⟩ =>
    ⟨insV_of hi st2 (ro.mono e2), lift_of (ds := [o, i, d]) (b.trans (e1.trans e2)) st2 ⟨_, _, rfl, ro.mono e2, _, _, rfl, ri, _, _, rfl, (rd.mono e1).mono e2, rfl⟩ impE0 (fun F3 M3 _ _ H3 e3 s3 _ q3 => k F3 M3 σ σv H3 ((e1.trans e2).trans e3) (hs.mono ((e1.trans e2).trans e3)) s3 q3) q⟩
theorem g3_ownSubT {W : WX} {EW : EW3} (hW : ImpW B EW W) {d : D} {to ti : TE} {Q : Sig → Mem → Prop} (h : W3e B to σ M (fun o M1 => W3e B ti σ M1 (fun i M2 => (∃ fs, InsD M2 o C fs) ∧ S [o, i, d] M2 (fun _ M3 => Q σ M3) (fun C th M' => EW C th σ M')))) : G3 B (gOwnSub C (lift3 S) (WE W) to ti) d σ M Q := fun F σv H dv Qv b hs st rd k =>
  h F σv H _ b hs st fun F1 M1 o ov H1 e1 st1 ro q1 => q1 F1 σv H1 _ (b.trans e1) (hs.mono e1) st1 fun F2 M2 i iv H2 e2 st2 ri ⟨⟨fs, hi⟩, q⟩ =>
    ⟨insV_of hi st2 (ro.mono e2), ⟨[o, i, d], F2, M2, (fun _ M3 => Q σ M3), _, ⟨_, _, rfl, ro.mono e2, _, _, rfl, ri, _, _, rfl, (rd.mono e1).mono e2, rfl⟩, st2, fun F3 M3 _ _ H3 e3 s3 _ q3 => k F3 M3 σ σv H3 ((e1.trans e2).trans e3) (hs.mono ((e1.trans e2).trans e3)) s3 q3,
      fun F' M' C d thing v H' e s r z q' => hW F' M' σ σv C d thing v H' ((b.trans (e1.trans e2)).trans e) ((hs.mono (e1.trans e2)).mono e) s r z q', q⟩⟩
theorem w_ownGet {E : XK} (h : W3e B ta σ M (fun x M1 => W3e B tb σ M1 (fun y M2 => (∃ fs, InsD M2 x C fs) ∧ S [x, y] M2 Q NoE))) : W3e B (tOwnGet C (lift3 S) (fun _ => E) ta tb) σ M Q := fun F σv H Qv b hs st k =>
  h F σv H _ b hs st fun F1 M1 x xv H1 e1 st1 rx q1 => q1 F1 σv H1 _ (b.trans e1) (hs.mono e1) st1 fun F2 M2 y yv H2 e2 st2 ry ⟨⟨fs, hi⟩, q⟩ =>
    ⟨insV_of hi st2 (rx.mono e2), lift_of (b.trans (e1.trans e2)) st2 (rds2 (rx.mono e2) ry) impE0 (fun F3 M3 d v H3 e3 => k F3 M3 d v H3 ((e1.trans e2).trans e3)) q⟩
theorem w_ownGetT {W : WX} {EW : EW3} (hW : ImpW B EW W) (h : W3e B ta σ M (fun x M1 => W3e B tb σ M1 (fun y M2 => (∃ fs, InsD M2 x C fs) ∧ S [x, y] M2 Q (fun C th M' => EW C th σ M')))) : W3e B (tOwnGet C (lift3 S) (WE W) ta tb) σ M Q := fun F σv H Qv b hs st k =>
  h F σv H _ b hs st fun F1 M1 x xv H1 e1 st1 rx q1 => q1 F1 σv H1 _ (b.trans e1) (hs.mono e1) st1 fun F2 M2 y yv H2 e2 st2 ry ⟨⟨fs, hi⟩, q⟩ =>
    ⟨insV_of hi st2 (rx.mono e2), ⟨[x, y], F2, M2, Q, _, rds2 (rx.mono e2) ry, st2, fun F3 M3 d v H3 e3 => k F3 M3 d v H3 ((e1.trans e2).trans e3),
      fun F' M' C d thing v H' e s r z q' => hW F' M' σ σv C d thing v H' ((b.trans (e1.trans e2)).trans e) ((hs.mono (e1.trans e2)).mono e) s r z q', q⟩⟩
end
end T3
set_option Elab.async false
set_option linter.all false
set_option maxRecDepth 100000
set_option maxHeartbeats 2000000
namespace L2
open PySem PySem.Spec PyProof.Rows
/-! ### a lambda without captured names as a sort's key -/
def LamO (f c' : Addr) (q : Str) (params : Arguments) (body : Expr) (scope : Scope) : HO := .ext fun h => ∃ (pm ctv : Value), h.get? f = some (PySem.W.kla_obj "<lambda>" q params body scope [] pm c' ctv)
/-- what the making of a lambda does to the maker's table -/
inductive TabStep (H : Hp) (P : Addr) (q : Str) (ps : Array Value) : Hp → Addr → Prop where
  | hit {c' : Addr} (pos : Pos) (h : codeAmong pos ps.toList = some (.ref c')) : TabStep H P q ps H c'
  | new {c' : Addr} {ps' : Array Value} (hc : H c' = none) (t : TriplesOk ps'.toList) (told : ∀ (pos : Pos) (cv : Value), codeAmong pos ps'.toList = some cv → codeAmong pos ps.toList = some cv ∨ cv = .ref c') :
      TabStep H P q ps (upd (upd H P (.tbl ps')) c' (LamX.CodeO c' q)) c'
def tLam (P : Addr) (q : Str) (params : Arguments) (body : Expr) (scope : Scope) : TE := fun _ H Q => ∃ ps : Array Value, H P = some (.tbl ps) ∧ TriplesOk ps.toList ∧ (∀ (pos : Pos) (cv : Value), codeAmong pos ps.toList = some cv → ∃ c, cv = .ref c ∧ H c = some (LamX.CodeO c q)) ∧
  ∀ (H1 : Hp) (c' f : Addr), TabStep H P q ps H1 c' → H1 f = none → H1 c' = some (LamX.CodeO c' q) → Q (.ref f) (upd H1 f (LamO f c' q params body scope))
def kfLam (q : Str) (params : Arguments) (body : Expr) (scope : Scope) (N : List Str) (tb : TE) (f : Addr) : V → Hp → VK → Prop := fun x H Q => ∃ c', H f = some (LamO f c' q params body scope) ∧ H c' = some (LamX.CodeO c' q) ∧ tb (start N [x]) H Q
def kfDef (g : Addr) (sp : Sp) (f : Addr) : V → Hp → VK → Prop := fun x H Q => f = g ∧ sp [x] H Q (fun _ _ _ => False)
section
variable {X : Cx} {pins : List (Addr × Obj)} {σ : St} {H : Hp} {s : Shared}
theorem inv_lam {c' : Addr} {q : Str} {params : Arguments} {body : Expr} {scope : Scope} {pm ctv : Value} {h' : Heap} {t' : Nat} (I : Inv X pins σ H { s with heap := h', toks := t' }) :
    Inv X pins σ (upd H h'.objs.size (LamO h'.objs.size c' q params body scope)) { s with heap := h'.push (PySem.W.kla_obj "<lambda>" q params body scope [] pm c' ctv), toks := t' } := by
  refine I.laid (a := h'.objs.size) (h' := h'.push (PySem.W.kla_obj "<lambda>" q params body scope [] pm c' ctv)) (t' := t') (fun b u e => Heap.get?_push_of_some _ e) (Nat.le_refl _) ?_
  have e : (h'.push (PySem.W.kla_obj "<lambda>" q params body scope [] pm c' ctv)).get? h'.objs.size = some (PySem.W.kla_obj "<lambda>" q params body scope [] pm c' ctv) := Heap.get?_push_size _ rfl
  exact ⟨⟨pm, ctv, e⟩, ⟨_, e⟩, fun h1 h2 ⟨p, z, y⟩ st => ⟨p, z, st _ y⟩⟩
theorem pe_lam {P c : Addr} {q : Str} {params : Arguments} {body : Expr} {scope : Scope} {pos : Pos} (TB : LamX.TabB X.base X.mg c P) (hcode : X.env.code = .ref c) (hq : X.env.qual ++ "<lambda>" = q) (hdef : defaultsOf params X.env = ([], [])) (hcl : cloFrom X.env.cells scope.names [] = []) (hfree : ∀ y ∈ scope.names, y.2 ≠ .free) :
    PE X (.Lambda params body scope pos) (tLam P q params body scope) := by
  subst hq
  refine ⟨fun pins s σ H Q I h => ?_⟩
  obtain ⟨ps, hP, ht, ha, h⟩ := h
  have hfr : ∀ y ∈ scope.names, y.2 = .free → ∃ c, X.env.cells.lookup y.1 = some c := fun y hy e => absurd e (hfree y hy)
  refine PySem.W.kla_eval hdef ?_
  have bP : s.heap.BuiltinsAt X.mg P := TB.bm.keeps I.bk
  have hP' : s.heap.get? P = some { cls := .none, data := .fields ps } := I.hok P _ hP
  have clo := closure_ok hfr
  rw [hcl] at clo
  cases hc : codeAmong pos ps.toList with
  | none =>
    refine PySem.W.kla_makeFunction (mg := X.mg) (c := c) (P := P) (ps := ps) clo I.ok.glob (I.mod.glob.keeps I.bk) hcode (TB.code.keeps I.bk) hP' ht hc TB.gP bP fun c' ctv h' tk hx hge hlt hrec htb => ?_
    obtain ⟨c2, oc, vs, t, e2, hoc, hd, hv⟩ := hrec
    cases e2
    have hsz : s.heap.objs.size ≤ h'.objs.size := Nat.le_trans hge (Nat.le_of_lt hlt)
    have nC : H c' = none := I.hok.fresh hge
    have I1 := LamX.inv_table (t' := tk) (more := #[rawInt pos.line, rawInt pos.col, .ref c']) (h' := h') I hP (fun b o hb e => hx b o hb e) htb hge ⟨oc, vs, t, hoc, hd, hv⟩
    have eL : (ps ++ #[rawInt pos.line, rawInt pos.col, .ref c']).toList = ps.toList ++ [rawInt pos.line, rawInt pos.col, .ref c'] := by simp
    refine ⟨V.ref h'.objs.size, _, inv_lam I1, rfl, h _ c' _ (.new nC (by rw [eL]; exact PySem.TriplesOk_snoc _ _ _ _ ht) fun p' cv hcv => ?_) (I1.hok.fresh (Nat.le_refl _)) upd_same⟩
    rw [eL] at hcv
    exact LamX.among_app _ ht hcv
  | some cv =>
    obtain ⟨c', e, hco⟩ := ha pos cv hc
    subst e
    refine PySem.W.kla_makeFunctionHit (mg := X.mg) (c := c) (P := P) (ps := ps) clo I.ok.glob (I.mod.glob.keeps I.bk) hcode (TB.code.keeps I.bk) hP' ht hc bP fun ctv h' tk hx hsz => ?_
    have I1 : Inv X pins σ H { s with heap := h', toks := tk } := I.kept hx
    exact ⟨V.ref h'.objs.size, _, inv_lam I1, rfl, h _ c' _ (.hit pos hc) (I1.hok.fresh (Nat.le_refl _)) hco⟩
theorem key_lam {q x : Str} {params : Arguments} {body : Expr} {scope : Scope} {N : List Str} {tb : TE} {k : Nat} (S : FnScope N [x] scope) (hr : Room (k + 3) X.A) (hbind : ∀ (u pm cv ctv : Value), bindArgs (PySem.W.kla_fn "<lambda>" q params body scope [] pm cv ctv) ⟨[u], []⟩ = pure [(x, u)])
    (hbody : ∀ (A : Around) (outer : List Env) (s : Shared) (H : Hp) (f c' : Addr), Room k (A.deeper (envOfC q scope s.heap.objs.size f (.ref c'))) → PE (cxOf CX0 X.prog X.w X.K X.mg X.base N q scope f (.ref c') A outer s H (fun _ _ _ => False)) body tb) : ∀ f, KeyCall X (.ref f) (kfLam q params body scope N tb f) := by
  intro f pins σ H s v u Q I rv ⟨c', hf, hc, ht⟩
  obtain ⟨⟨pm, ctv, of1⟩, _, _⟩ := I.hok f _ hf
  obtain ⟨⟨oc, vs, t, hoc, hdc, hvc⟩, _, _⟩ := I.hok c' _ hc
  have e0 := I.env0.in1.in1
  have hr2 : Room (k + 1) X.A.in1.in1 := hr.in1.in1
  have rc : codeAny (model X.prog X.w) X.A.in1.in1 (.call (.ref f) ⟨[u], []⟩) (CR CX0 X.stack X.prog X.w H s Q (fun _ _ _ => False)) s := by
    refine PySem.W.kla_callFunE hr2.depth of1 rfl S.co S.gen rfl ⟨c', oc, vs, t, rfl, hoc, hdc, hvc⟩ ?_
    rw [hbind]
    have hkind : ∀ y ∈ [x].zip [u], scope.names.lookup y.1 = some .local ∨ (scope.names.lookup y.1 = some .cell ∧ ((cellsFrom (s.heap.objs.size + 1) scope.names []).lookup y.1).isSome = true) := fun ⟨n, v⟩ hy => by
      rcases S.par n (List.of_mem_zip hy).1 with q | q
      · exact .inl q
      · exact .inr ⟨q, PySem.W.cellsFrom_some _ _ _ (.inl q)⟩
    refine wpAny_pure ?_
    refine wpAny_newFunctionEnv_cells S.kind hkind fun env he s1 xx => ?_
    subst he
    refine ⟨I.nolimit.keeps xx.toInCall.keep, ?_⟩
    have J := inv_start (CX := CX0) (E := fun _ _ _ => False) (f := f) (cd := .ref c') (qual := q) S hr2.hd e0 rfl (.cons rv .nil) xx
    refine PySem.W.kla_codeExpr (wpAny_mono ((hbody _ _ s H f c' (hr2.deeper _)).run [] s1 (start N [v]) H Q J ht) (fun w s' hq => ?_) fun e s' hq => hq)
    obtain ⟨w', H', J', rv', q⟩ := hq
    exact ⟨w', H', J'.os, J'.bare, J'.base, J'.hok, rv', q⟩
  refine wpAny_call (codeAny_mono rc fun r s' hq => ?_)
  cases r with
  | error e => exact (show False from hq).elim
  | ok fl =>
    cases fl with
    | ret u => exact I.after hq
    | next => exact False.elim hq
    | brk => exact False.elim hq
    | cont => exact False.elim hq
theorem key_def {g : Addr} {fd : FuncData} {ps : List Str} {sp : Sp} {n : Nat} (F : FnOk X.prog X.w X.K X.mg X.base CX0 n g fd ps sp) (bd : Binds X.K fd ps []) (hr : Room (n + 2) X.A) : ∀ f, KeyCall X (.ref f) (kfDef g sp f) := by
  intro f pins σ H s v u Q I rv ⟨e, q⟩
  subst e
  have hll := F.len _ _ _ _ q
  have b := bd s [u] I.kIn (by simpa using hll)
  rw [List.append_nil] at b
  refine wpAny_call (codeAny_mono (F.run X.A.in1.in1 X.stack s H ⟨[u], []⟩ [u] [v] Q (fun _ _ _ => False) hr.in1.in1 I.env0.in1.in1 b (.cons rv .nil) q) fun r s' hq => ?_)
  cases r with
  | error e => exact hq.elim
  | ok fl =>
    cases fl with
    | next => exact False.elim hq
    | brk => exact False.elim hq
    | cont => exact False.elim hq
    | ret u => exact I.after hq
end
end L2
namespace T3
open PySem L2
open Evl (Ex)
section
variable {B : Hp} {M : Mem} {K : PySem.W.Frag} {σ : Sig} {t tk : TA} {ta : TE} {Q : DQ} {α : Type}
theorem rds_map {F : Hp} {β : Type} (g : β → D) (h : β → V) : ∀ T : List β, (∀ p ∈ T, RD F (g p) (h p)) → RDs F (T.map g) (T.map h)
  | [], _ => rfl
  | p :: T, r => ⟨_, _, rfl, r p (List.mem_cons_self ..), rds_map g h T fun x hx => r x (List.mem_cons_of_mem _ hx)⟩
theorem rds_zip {F : Hp} (f : α → D) : ∀ {L : List α} {vs : List V}, RDs F (L.map f) vs → ∀ p ∈ L.zip vs, RD F (f p.1) p.2
  | [], _, _, _, hp => by cases hp
  | a :: L, _, ⟨v, us, e, h1, h2⟩, p, hp => by
    subst e
    rw [List.zip_cons_cons] at hp
    rcases List.mem_cons.mp hp with rfl | hp
    · exact h1
    · exact rds_zip f h2 p hp
theorem keysT3 {F0 : Hp} {kf : V → Hp → VK → Prop} {kd : D → D} {ds0 : List D} (hk : ∀ (F1 : Hp) (H1 : Hp) (d : D) (v : V) (Qv : VK), Ex F0 F1 → St3 F1 M H1 → d ∈ ds0 → RD F1 d v → (∀ (F2 H2 : Hp) (y : V), Ex F1 F2 → St3 F2 M H2 → RD F2 (kd d) y → Qv y H2) → kf v H1 Qv) :
    ∀ (ds : List D) (vs : List V) (F H : Hp) (Qk : List V → Hp → Prop), (∀ d ∈ ds, d ∈ ds0) → Ex F0 F → St3 F M H → RDs F ds vs → (∀ (F2 H2 : Hp) (ys : List V), Ex F F2 → St3 F2 M H2 → RDs F2 (ds.map kd) ys → Qk ys H2) → KeysT kf vs H Qk
  | [], vs, F, H, Qk, _, e, st, rs, q => by
    obtain rfl : vs = [] := rs
    exact q F H [] (Ex.refl _) st rfl
  | d :: ds, vs, F, H, Qk, hm, e, st, rs, q => by
    obtain ⟨v, us, rfl, h1, h2⟩ := rs
    refine hk F H d v _ e st (hm d (List.mem_cons_self ..)) h1 fun F2 H2 y e2 st2 ry => ?_
    refine keysT3 hk ds us F2 H2 _ (fun x hx => hm x (List.mem_cons_of_mem _ hx)) (e.trans e2) st2 (h2.mono e2) fun F3 H3 ys e3 st3 rys => ?_
    exact q F3 H3 (y :: ys) (e2.trans e3) st3 ⟨y, ys, rfl, ry.mono e3, rys⟩
theorem sortK_rel {F : Hp} {L : List α} {f : α → D} {vs : List V} {key : α → PyData} {le : α → α → Bool} (rs : RDs F (L.map f) vs) (hle : ∀ a ∈ L, ∀ b ∈ L, le a b = PySem.W.dataLe false (fun x : PyData => x) (key a) (key b)) : RDs F ((L.mergeSort le).map f) (sortK vs (L.map key)) := by
  have hl : L.length = vs.length := by have := rs.length; rwa [List.length_map] at this
  have e1 : L = (L.zip vs).map Prod.fst := (List.map_fst_zip (by omega)).symm
  have e2 : vs = (L.zip vs).map Prod.snd := (List.map_snd_zip (by omega)).symm
  have hz := rds_zip f rs
  generalize L.zip vs = T at e1 e2 hz
  have hm : ∀ p ∈ T, p.1 ∈ L := fun p hp => by rw [e1]; exact List.mem_map.mpr ⟨p, hp, rfl⟩
  have a1 : L.mergeSort le = (T.mergeSort fun p q => le p.1 q.1).map Prod.fst := by
    conv => lhs; rw [e1]
    exact (List.map_mergeSort (r := fun p q : α × V => le p.1 q.1) (s := le) (f := Prod.fst) (l := T) fun a _ b _ => rfl).symm
  have a2 : (vs.zip (L.map key)) = T.map fun p => (p.2, key p.1) := by
    rw [e2, e1]
    clear hz hm a1 e1 e2
    induction T with
    | nil => rfl
    | cons p T ih => simp only [List.map_cons, List.zip_cons_cons, ih]
  have a3 : (vs.zip (L.map key)).mergeSort (PySem.W.dataLe false Prod.snd) = (T.mergeSort fun p q => le p.1 q.1).map fun p => (p.2, key p.1) := by
    rw [a2]
    exact (List.map_mergeSort (r := fun p q : α × V => le p.1 q.1) (s := PySem.W.dataLe false Prod.snd) (f := fun p : α × V => (p.2, key p.1)) (l := T) fun a ha b hb => hle a.1 (hm a ha) b.1 (hm b hb)).symm
  unfold sortK
  rw [a3, a1, List.map_map, List.map_map]
  exact rds_map _ _ _ fun p hp => hz p (List.mem_mergeSort.mp hp)
/-- what the keys of a sort must be -/
structure KeyList (kd : α → D) (L : List α) (le : α → α → Bool) : Prop where
  ok : okDs 60 (L.map kd) = true
  al : PySem.W.AllAlike (L.map fun a => py (kd a))
  so : PySem.W.Sortable (L.map fun a => py (kd a))
  le : ∀ a ∈ L, ∀ b ∈ L, le a b = PySem.W.dataLe false (fun x : PyData => x) (py (kd a)) (py (kd b))
theorem sort_core {F0 H : Hp} {kf : Addr → V → Hp → VK → Prop} {g : Addr} {x : D} {xv : V} {L : List α} {f : α → D} {kd : D → D} {le : α → α → Bool} {Qv : VK} (st : St3 F0 M H) (lx : LstD M x (L.map f)) (rx : RD F0 x xv) (KL : KeyList (fun a => kd (f a)) L le)
    (hk : ∀ (F1 : Hp) (H1 : Hp) (d : D) (v : V) (Qv : VK), Ex F0 F1 → St3 F1 M H1 → d ∈ L.map f → RD F1 d v → (∀ (F2 H2 : Hp) (y : V), Ex F1 F2 → St3 F2 M H2 → RD F2 (kd d) y → Qv y H2) → kf g v H1 Qv)
    (k : ∀ (F' M' : _) (d : D) (v : V) (H' : Hp), Ex F0 F' → St3 F' M' H' → RD F' d v → (d = .lst ((L.mergeSort le).map f) ∧ M' = M) → Qv v H') : rSortG K kf [xv] [.ref g] H Qv := by
  obtain ⟨a, vs, e, h1, rs⟩ := lx.seq (K := K) st rx
  subst e
  refine ⟨a, g, vs, rfl, rfl, h1, keysT3 hk _ _ _ _ _ (fun _ h => h) (Ex.refl _) st rs fun F2 H2 ys e2 st2 rys => ?_⟩
  have ek : pys ((L.map f).map kd) = L.map fun a => py (kd (f a)) := by rw [pys_map, List.map_map, List.map_map]; rfl
  have em : (L.map f).map kd = L.map fun a => kd (f a) := by rw [List.map_map]; rfl
  refine ⟨_, okDs_dp (n := 60) st2.fz (by rw [em]; exact KL.ok) rys, ?_, ?_, ?_, ?_, fun p hp => ?_⟩
  · rw [ek, List.length_map]
    have := rs.length
    rwa [List.length_map] at this
  · rw [ek]; exact KL.al
  · rw [ek]; exact KL.so
  · intro d hd
    rw [pys_map] at hd
    obtain ⟨d', hd', rfl⟩ := List.mem_map.mp hd
    refine okD_depth (n := 60) ?_
    rw [em] at hd'
    exact okDs_iff.mp KL.ok d' hd'
  · have rl : RDs F2 ((L.mergeSort le).map f) (sortK vs (pys ((L.map f).map kd))) := by
      rw [ek]
      exact sortK_rel (rs.mono e2) KL.le
    obtain ⟨st3, e3⟩ := st2.new (p := p) (o := .lst (sortK vs (pys ((L.map f).map kd)))) hp
    exact k _ M (.lst _) (.ref p) _ (e2.trans e3) st3 ⟨p, _, rfl, upd_same, rl.mono e3⟩ ⟨rfl, rfl⟩
/-- sorted(xs, key=g), g a def -/
theorem w_sortDef {g : Addr} {S : Sp3} {f : α → D} {kd : D → D} {le : α → α → Bool} (h : W3a B t σ M (fun ds M1 => W3a B tk σ M1 (fun es M2 => ∃ x L, ds = [x] ∧ es = [.ref g] ∧ LstD M2 x (L.map f) ∧ KeyList (fun a => kd (f a)) L le ∧ (∀ d ∈ L.map f, S [d] M2 (fun y M3 => y = kd d ∧ M3 = M2) NoE) ∧ Q (.lst ((L.mergeSort le).map f)) M2))) :
    W3e B (tCKw (rSortG K (kfDef g (lift3 S))) t tk) σ M Q := fun F σv H Qv b hs st k =>
  h F σv H _ b hs st fun F1 M1 ds vs H1 e1 st1 rs q1 => q1 F1 σv H1 _ (b.trans e1) (hs.mono e1) st1 fun F2 M2 es zs H2 e2 st2 rz ⟨x, L, ed, ee, lx, KL, hS, q⟩ => by
    subst ed; subst ee
    obtain ⟨xv, e, rx⟩ := (rs.mono e2).sing
    obtain ⟨zv, e', rz'⟩ := rz.sing
    subst e; subst e'
    obtain rfl : zv = V.ref g := rz'
    refine sort_core st2 lx rx KL (fun F3 H3 d v Qv3 e3 st3 hd rd q3 => ⟨rfl, lift_of (ds := [d]) ((b.trans (e1.trans e2)).trans e3) st3 ⟨v, _, rfl, rd, rfl⟩ impE0 (fun F4 M4 y v4 H4 e4 st4 ry hy => ?_) (hS d hd)⟩) fun F3 M3 d v H3 e3 st3 rd hy => ?_
    · obtain ⟨ey, eM⟩ := hy
      subst ey; subst eM
      exact q3 F4 H4 v4 e4 st4 ry
    · obtain ⟨ed, eM⟩ := hy
      subst ed; subst eM
      exact k F3 _ _ _ _ ((e1.trans e2).trans e3) st3 rd q
theorem lam_step {F H H1 : Hp} {P c' f : Addr} {q : Str} {ps : Array Value} {o : HO} (st : St3 F M H) (hM : M P = some (.tab q)) (hP : H P = some (.tbl ps)) (told : ∀ (pos : Pos) (cv : Value), codeAmong pos ps.toList = some cv → ∃ c, cv = .ref c ∧ F c = some (LamX.CodeO c q)) (s : TabStep H P q ps H1 c') (hf : H1 f = none) :
    ∃ F1, Ex F F1 ∧ St3 F1 M (upd H1 f o) ∧ F1 f = some o ∧ F1 c' = some (LamX.CodeO c' q) := by
  cases s with
  | hit pos h =>
    obtain ⟨c, ec, hc⟩ := told pos _ h
    cases ec
    obtain ⟨s1, e1⟩ := st.new (o := o) hf
    exact ⟨_, e1, s1, upd_same, e1 _ _ hc⟩
  | @new c' ps' hc t told' =>
    obtain ⟨s1, e1⟩ := st.new (o := LamX.CodeO c' q) hc
    have nP : P ≠ c' := fun e => by rw [e, hc] at hP; cases hP
    have s2 := s1.put (d' := .tab q) (o := .tbl ps') hM ⟨ps', rfl, t, fun pos cv h => by
      rcases told' pos cv h with h | h
      · obtain ⟨c, ec, hc2⟩ := told pos cv h
        exact ⟨c, ec, e1 _ _ hc2⟩
      · exact ⟨c', h, upd_same⟩⟩
    rw [mput_self hM] at s2
    have ec : upd (upd H c' (LamX.CodeO c' q)) P (.tbl ps') = upd (upd H P (.tbl ps')) c' (LamX.CodeO c' q) := by
      funext b
      by_cases h1 : b = P
      · subst h1; rw [upd_same, upd_ne nP, upd_same]
      · by_cases h2 : b = c'
        · subst h2; rw [upd_ne h1, upd_same, upd_same]
        · rw [upd_ne h1, upd_ne h2, upd_ne h2, upd_ne h1]
    rw [ec] at s2
    obtain ⟨s3, e3⟩ := s2.new (o := o) hf
    exact ⟨_, e1.trans e3, s3, upd_same, e3 _ _ upd_same⟩
/-- sorted(xs, key=lambda x: ..) -/
theorem w_sortLam {P : Addr} {q : Str} {params : Arguments} {body : Expr} {scope : Scope} {N : List Str} {tb : TE} {f : α → D} {kd : D → D} {le : α → α → Bool} (h : W3a B t σ M (fun ds M1 => ∃ x L, ds = [x] ∧ M1 P = some (.tab q) ∧ LstD M1 x (L.map f) ∧ KeyList (fun a => kd (f a)) L le ∧
      (∀ B', ∀ d ∈ L.map f, W3e B' tb (start3 N [d]) M1 (fun y M3 => y = kd d ∧ M3 = M1)) ∧ Q (.lst ((L.mergeSort le).map f)) M1)) :
    W3e B (tCKw (rSortG K (kfLam q params body scope N tb)) t (tCons (tLam P q params body scope) tNil)) σ M Q := fun F σv H Qv b hs st k =>
  h F σv H _ b hs st fun F1 M1 ds vs H1 e1 st1 rs ⟨x, L, ed, hM, lx, KL, hS, qq⟩ => by
    subst ed
    obtain ⟨xv, e, rx⟩ := rs.sing
    subst e
    obtain ⟨ho, hP, fn, ps, eo, ht, told⟩ : ∃ ho, H1 P = some ho ∧ F1 P = none ∧ RO F1 (.tab q) ho := by
      obtain ⟨h1, ho, h2, h3⟩ := st1.own P _ hM
      exact ⟨ho, h2, h1, h3⟩
    subst eo
    refine ⟨ps, hP, ht, fun pos cv hc => ?_, fun H2 c' fa ts hf hco => ?_⟩
    · obtain ⟨c, a, b⟩ := told pos cv hc
      exact ⟨c, a, st1.fz _ _ b⟩
    obtain ⟨F2, e2, st2, hf2, hc2⟩ := lam_step (o := LamO fa c' q params body scope) st1 hM hP told ts hf
    refine sort_core st2 lx (rx.mono e2) KL (fun F3 H3 d v Qv3 e3 st3 hd rd q3 => ⟨c', st3.fz _ _ (e3 _ _ hf2), st3.fz _ _ (e3 _ _ hc2), hS F3 d hd F3 (start N [v]) H3 _ (Ex.refl _) (SRel.start ⟨v, _, rfl, rd, rfl⟩) st3 fun F4 M4 y v4 H4 e4 st4 ry hy => ?_⟩) fun F3 M3 d v H3 e3 st3 rd hy => ?_
    · obtain ⟨ey, eM⟩ := hy
      subst ey; subst eM
      exact q3 F4 H4 v4 e4 st4 ry
    · obtain ⟨ed, eM⟩ := hy
      subst ed; subst eM
      exact k F3 _ _ _ _ ((e1.trans e2).trans e3) st3 rd qq
end
end T3
set_option Elab.async false
set_option linter.all false
set_option maxRecDepth 100000
set_option maxHeartbeats 2000000
namespace T3
open PySem L2
open Evl (Ex)
/-! ### a dict of tuple keys and whole numbers, walked by its keys while it is locked -/
def kI (l : List (List Key × Int)) : List (List Key × D) := l.map fun p => (p.1, .int p.2)
def kIV (l : List (List Key × Int)) : List (List Key × V) := l.map fun p => (p.1, .int p.2)
abbrev lkO (od : Obj) (l : List (List Key × Int)) : DO := .raw (.frz od (.dT (kIV l)))
section
variable {B : Hp} {M : Mem} {K : PySem.W.Frag} {σ : Sig} {Q : DQ}
theorem pkv_kI {F : Hp} : ∀ (l : List (List Key × Int)), PKV F (kI l) (kIV l)
  | [] => .nil
  | _ :: l => .cons ⟨rfl, rfl⟩ (pkv_kI l)
theorem pkv_kI_eq {F : Hp} : ∀ {l : List (List Key × Int)} {kv : List (List Key × V)}, PKV F (kI l) kv → kv = kIV l
  | [], _, h => by cases h; rfl
  | p :: l, _, h => by
    cases h with
    | @cons _ q _ qs a t =>
      obtain ⟨q1, q2⟩ := q
      obtain ⟨h1, h2⟩ := a
      have h1 : p.1 = q1 := h1
      have h2 : q2 = V.int p.2 := h2
      subst h1; subst h2
      rw [pkv_kI_eq t]; rfl
theorem lkO_ro {F : Hp} {od : Obj} {l : List (List Key × Int)} : RO F (lkO od l) (.frz od (.dT (kIV l))) := ⟨rfl, fun xs e => by cases e⟩
theorem w_lockI {t : TE} (d : Addr) (l : List (List Key × Int)) (hm : M d = some (.dT (kI l))) (h : ∀ od, W3e B t σ (mput M d (lkO od l)) (fun x M' => M' d = some (lkO od l) ∧ Q x (mput M' d (.dT (kI l))))) : W3e B (tLockE t) σ M Q := fun F σv H Qv b hs st k => by
  obtain ⟨_, ho, h1, kv, e2, pk⟩ := st.own d _ hm
  subst e2
  obtain rfl := pkv_kI_eq pk
  refine ⟨d, _, h1, True.intro, fun od => h od F σv _ _ b hs (st.put hm lkO_ro) fun F' M' x v H' e st' r ⟨hM', q⟩ => ?_⟩
  obtain ⟨_, ho', h1', e'⟩ := st'.own d _ hM'
  obtain rfl : ho' = _ := e'.1
  exact ⟨h1', k F' _ x v _ e (st'.put (d' := .dT (kI l)) hM' ⟨_, rfl, pkv_kI l⟩) r q⟩
theorem i_keysI {te : TE} {Q : List D → (Mem → Prop) → Mem → Prop} (h : W3e B te σ M (fun x M1 => ∃ a od l, x = .ref a ∧ M1 a = some (lkO od l) ∧ Q (l.map fun p => .tup (p.1.map kD)) (fun M => M a = some (lkO od l)) M1)) : W3i B (iKeys te) σ M Q := fun F σv H R b hs st k =>
  h F σv H _ b hs st fun F1 M1 x xv H1 e1 st1 rx ⟨a, o, l, ex, hm, q⟩ => by
    subst ex
    obtain ⟨_, ho, h1, e2⟩ := st1.own a _ hm
    obtain rfl : ho = .frz o (.dT (kIV l)) := e2.1
    refine ⟨a, o, rx, .inr ⟨kIV l, h1, k F1 M1 (Itkt a o (kIV l)) _ _ H1 e1 st1 ⟨fun H => H a = some (.frz o (.dT (kIV l))), fun i H x H' => H' = H ∧ ∃ k v q, (kIV l)[i]? = some (k, v) ∧ x = .ref q ∧ H q = some (.tup (k.map kV)), ?_, ?_, ?_, ?_⟩ q⟩⟩
    · have hl : (kIV l).length = (l.map fun p => D.tup (p.1.map kD)).length := by unfold kIV; rw [List.length_map, List.length_map]
      rw [← hl]
      exact ⟨fun i H hi g => ⟨g, hi⟩, fun H g => ⟨g, Nat.le_refl _⟩, fun i H x H' hi g y => y⟩
    · intro F' M' H' e s p
      obtain ⟨_, ho, h1', e2⟩ := s.own a _ p
      obtain rfl : ho = .frz o (.dT (kIV l)) := e2.1
      exact h1'
    · intro i d x H' H'' F' M' hd e s p ⟨y1, kk, v, qa, y2, y3, y4⟩
      subst y1
      subst y3
      obtain ⟨pp, hp, rfl⟩ := map_at' hd
      unfold kIV at y2
      obtain ⟨p2, hp2, e2⟩ := map_at' y2
      rw [hp] at hp2; cases hp2
      cases e2
      obtain ⟨F2, e3, s3, rs⟩ := s.keys (kvs := [(pp.1, .int pp.2)]) (kv := [(pp.1, .int pp.2)]) (bs := [qa]) (.cons ⟨rfl, rfl⟩ .nil) (.cons y4 .nil)
      obtain ⟨v1, us, e4, r1, _⟩ := rs
      cases e4
      exact ⟨F2, e3, s3, r1⟩
    · intro M' p o' hp hm'
      show mput M' p o' a = _
      rw [mput_ne (mne hm' hp)]; exact hm'
theorem w_dgetL {te ty : TE} (h : W3e B te σ M (fun x M1 => W3e B ty σ M1 (fun y M2 => ∃ a od l k n, x = .ref a ∧ M2 a = some (lkO od l) ∧ y = .tup (k.map kD) ∧ valD (kI l) k = some (.int n) ∧ Q (.int n) M2))) : W3e B (tDGet te ty) σ M Q := fun F σv H Qv b hs st k =>
  h F σv H _ b hs st fun F1 M1 x xv H1 e1 st1 rx q1 => q1 F1 σv H1 _ (b.trans e1) (hs.mono e1) st1 fun F2 M2 y yv H2 e2 st2 ry ⟨a, od, l, kk, n, ex, hm, ey, hv, q⟩ => by
    subst ex; subst ey
    obtain ⟨_, ho, h1, e3⟩ := st2.own a _ hm
    obtain rfl : ho = .frz od (.dT (kIV l)) := e3.1
    obtain ⟨b2, vs, e4, hb, rs⟩ := ry
    subst e4
    rw [rs.keys] at hb
    have hv2 : OptR F2 (some (.int n)) (valV (kIV l) kk) := hv ▸ pkv_val (pkv_kI l)
    cases e5 : valV (kIV l) kk with
    | none => rw [e5] at hv2; exact hv2.elim
    | some v =>
      rw [e5] at hv2
      obtain rfl : v = V.int n := hv2
      exact ⟨a, .int n, rx, .inr ⟨kIV l, kk, b2, .inr ⟨od, h1⟩, rfl, st2.fz _ _ hb, e5.symm⟩, k F2 M2 (.int n) _ H2 (e1.trans e2) st2 rfl q⟩
end
end T3
set_option Elab.async false
set_option linter.all false
set_option maxRecDepth 100000
set_option maxHeartbeats 2000000
namespace L2
open PySem PySem.Spec PyProof.Rows
/-- what isinstance asks of an own class -/
structure IsO (K : PySem.W.Frag) (C : Addr) : Prop where
  cl : Cls K C
  ha : PySem.W.findIn K (.ref C) "__class__" = some (some (.builtin "object.__class__"))
  hn : PySem.W.specialIn K (.builtin "object.__class__") "__get__" = some (some (.builtin "getset_descriptor.__get__"))
  ht : PySem.W.takesIn K (.builtin "object.__class__") = some true
  hm : PySem.W.mroIn K C (.type "object") = some true
def orTI (t1 t2 : TI) : TI := fun σ H R => t1 σ H R ∨ t2 σ H R
theorem pi_or {X : Cx} {tg e : Expr} {t1 t2 : TI} (h1 : PI X tg e t1) (h2 : PI X tg e t2) : PI X tg e (orTI t1 t2) := ⟨fun pins s σ H R I h => h.elim (fun h => h1.run pins s σ H R I h) fun h => h2.run pins s σ H R I h⟩
theorem Fun.okC {P : Program} {w : World} {K : PySem.W.Frag} {mg : Str → Option Value} {base : Heap} {x qual : Str} {st : Stmt} {f : Addr} {fd : FuncData} {N ps : List Str} {k : Nat} {sp : Sp} (F : Fun K x qual st f fd) (S : FnScope N ps (defScope st)) (len : ∀ vs H Q E, sp vs H Q E → vs.length = ps.length)
    (hbody : ∀ (A : Around) (outer : List Env) (s : Shared) (H : Hp) (vs : List V) (Q : VK) (E : XK), Room k (A.deeper (envOfC qual (defScope st) s.heap.objs.size f fd.code)) → sp vs H Q E →
      ∃ t, PSs (cxOf CX0 P w K mg base N qual (defScope st) f fd.code A outer s H E).nox (defBody st) t ∧ t { nx := fun _ H' => Q .non H', rt := Q } (start N vs) H) : FnOk P w K mg base CX0 (k + 1) f fd ps sp := by
  obtain ⟨oc, od, kV, doc, pm, an, cdv, ct, osl, rfl, lk, hcd⟩ := F.ex
  refine fn_of lk hcd S len fun A outer s H vs Q E hr hsp => ?_
  obtain ⟨t, h, q⟩ := hbody A outer s H vs Q E hr hsp
  exact ⟨t, h.nox, q⟩
end L2
namespace T3
open PySem L2
open ItX
/-- over the written empty tuple -/
theorem i_tupE {B : Hp} {M : Mem} {K : PySem.W.Frag} {σ : Sig} {te : TE} {Q : List D → (Mem → Prop) → Mem → Prop} (h : W3e B te σ M (fun x M1 => ∃ a, x = .ref a ∧ (∀ H, SqT K H a []) ∧ Q [] (fun _ => True) M1)) : W3i B (iTup K te) σ M Q := fun F σv H R b hs st k =>
  h F σv H _ b hs st fun F1 M1 x xv H1 e1 st1 rx ⟨a, ex, ht, q⟩ => by
    subst ex
    obtain rfl : xv = V.ref a := rx
    refine ⟨a, rfl, ⟨[], ht H1⟩, k F1 M1 (Itt K a) [] _ H1 e1 st1 ⟨fun H => SqT K H a [], YAt [], WD.len (F := F1) (ds := []) (vs := []) walk_tup rfl, ?_, ?_, fun _ _ _ _ z => z⟩ q⟩
    · intro F' M' H' e s _
      exact ht H'
    · intro i d x H' H'' F' M' hd
      simp at hd
theorem i_or1 {B : Hp} {t1 t2 : TI} {σ : Sig} {M : Mem} {Q : List D → (Mem → Prop) → Mem → Prop} (h : W3i B t1 σ M Q) : W3i B (orTI t1 t2) σ M Q := fun F σv H R b hs st k => .inl (h F σv H R b hs st k)
theorem i_or2 {B : Hp} {t1 t2 : TI} {σ : Sig} {M : Mem} {Q : List D → (Mem → Prop) → Mem → Prop} (h : W3i B t2 σ M Q) : W3i B (orTI t1 t2) σ M Q := fun F σv H R b hs st k => .inr (h F σv H R b hs st k)
open Evl (Ex)
section
variable {B : Hp} {M : Mem} {K : PySem.W.Frag} {σ : Sig} {te ta : TE} {t : TA} {Q : DQ} {x : D}
/-- isinstance of an own instance -/
theorem c3_isO {C C2 : Addr} {fs : List (Str × D)} {c : Bool} (hi : InsD M x C fs) (hC : IsO K C) (hk : PySem.W.kitOne K (.ref C) (.ref C2) = some c) (q : Q (.bl c) M) : C3 B (rISI K) [x, .ref C2] M Q := fun F H xv Qv b st rx k => by
  obtain ⟨v, u, e, r1, r2⟩ := rx.two
  subst e
  obtain ⟨a, dx, fv, ev, ha, _⟩ := hi.at st r1
  subst ev
  rw [show u = V.ref C2 from r2]
  exact .inl ⟨.ref a, .ref C2, .ref C, .ref C2, c, rfl, .own C2, .base (.ins ha hC.cl hC.ha hC.hn hC.ht hC.hm), hk, k F M (.bl c) _ H (Ex.refl _) st rfl q⟩
/-- isinstance of a plain value and an own class -/
theorem c3_isT {C2 : Addr} {c : Bool} (h : (tyD x == "") = false) (hk : PySem.W.kitOne K (.type (tyD x)) (.ref C2) = some c) (q : Q (.bl c) M) : C3 B (rISI K) [x, .ref C2] M Q := fun F H xv Qv b st rx k => by
  obtain ⟨v, u, e, r1, r2⟩ := rx.two
  subst e
  rw [show u = V.ref C2 from r2]
  exact .inl ⟨v, .ref C2, .type (tyD x), .ref C2, c, rfl, .own C2, r1.tyX st.fz h, hk, k F M (.bl c) _ H (Ex.refl _) st rfl q⟩
/-- the place of a text in a written tuple of texts -/
theorem w_tupIdx {a : Addr} {ys : List Str} {z : Str} {j : Nat} (hT : ∃ o, K.lookup a = some o ∧ o.cls = .type "tuple" ∧ o.dict = none) (ht : ∀ H, SqT K H a (ys.map V.str)) (hj : ys[j]? = some z) (hn : ∀ m, m < j → ys[m]? ≠ some z)
    (h : W3e B ta σ M (fun x M1 => x = .ref a ∧ W3a B t σ M1 (fun xs M2 => xs = [.str z] ∧ Q (.int j) M2))) :
    W3e B (tBM K "tuple" (fun x xs H Q => ∃ p, ∃ ys : List Str, ∃ z j, x = .ref p ∧ xs = [.str z] ∧ SqT K H p (ys.map V.str) ∧ ys[j]? = some z ∧ (∀ m, m < j → ys[m]? ≠ some z) ∧ Q (.int (j : Nat)) H) ta t) σ M Q := fun F σv H Qv b hs st k =>
  h F σv H _ b hs st fun F1 M1 x xv H1 e1 st1 rx ⟨ex, q1⟩ => by
    subst ex
    obtain rfl : xv = V.ref a := rx
    refine ⟨.inr (.inl ⟨rfl, hT⟩), q1 F1 σv H1 _ (b.trans e1) (hs.mono e1) st1 fun F2 M2 xs xvs H2 e2 st2 rxs ⟨exs, q2⟩ => ?_⟩
    subst exs
    obtain ⟨v, e, r⟩ := rxs.sing
    subst e
    obtain rfl : v = V.str z := r
    exact ⟨a, ys, z, j, rfl, rfl, ht H2, hj, hn, k F2 M2 (.int j) _ H2 (e1.trans e2) st2 rfl q2⟩
/-- len of an own instance over a frozen field -/
theorem c3_lenOwnF {C : Addr} {f : Str} {fs : List (Str × D)} {ds : List D} (hi : InsD M x C fs) (hf : fs.lookup f = some (.lst ds)) (q : Q (.int ds.length) M) : C3 B (rLenOwn C f) [x] M Q := fun F H xv Qv bb st rx k => by
  obtain ⟨v, e, r⟩ := rx.sing
  subst e
  obtain ⟨b, dx, fv, ev, h0, pk⟩ := hi.at st r
  subst ev
  obtain ⟨v0, hv0, rv0⟩ := (pkv_look (f := f) pk).1 hf
  obtain ⟨l, vs, e0, h1, rs⟩ := rv0
  subst e0
  exact ⟨b, dx, fv, l, vs, rfl, h0, hv0, st.fz _ _ h1, by rw [← rs.length]; exact k F M (.int _) _ H (Ex.refl _) st rfl q⟩
/-- walking an own instance whose __iter__ hands out a frozen list's iterator -/
theorem i_ownF {C : Addr} {f : Str} {E : XK} {Q : List D → (Mem → Prop) → Mem → Prop} (h : W3e B te σ M (fun x M1 => ∃ fs ds, InsD M1 x C fs ∧ fs.lookup f = some (.lst ds) ∧ Q ds (fun _ => True) M1)) : W3i B (iOwn K C (spIt K C f) E te) σ M Q := fun F σv H R b hs st k =>
  h F σv H _ b hs st fun F1 M1 x xv H1 e1 st1 rx ⟨fs, ds, hi, hf, q⟩ => by
    obtain ⟨bb, dx, fv, ev, h0, pk⟩ := hi.at st1 rx
    subst ev
    obtain ⟨v0, hv0, rv0⟩ := (pkv_look (f := f) pk).1 hf
    obtain ⟨a, vs, e0, h1, rs⟩ := rv0
    subst e0
    have h1' := st1.fz _ _ h1
    refine ⟨bb, dx, fv, rfl, h0, fun n => ⟨bb, dx, fv, a, vs, rfl, h0, hv0, .inl (.inl h1'), fun it hit hn => ⟨it, a, rfl, upd_same, hn, ?_⟩⟩⟩
    rw [dropH_upd hit, itlF0]
    refine k F1 M1 (Itl K a) ds _ H1 e1 st1 ⟨fun H => H a = some (.lst vs), fun i H x H' => H' = H ∧ ∀ us, SqL K H a us → us[i]? = some x, ?_, ?_, ?_, ?_⟩ q
    · rw [rs.length]
      exact ⟨fun i H hi g => ⟨vs, vs[i], .inl (.inl g), by simp [hi]⟩, fun H g => ⟨vs, .inl (.inl g), Nat.le_refl _⟩, fun i H x H' hi g y => y⟩
    · intro F' M' H' e s p
      exact s.fz _ _ (e _ _ h1)
    · intro i d x H' H'' F' M' hd e s p ⟨y1, y2⟩
      subst y1
      obtain ⟨v, hv, rv⟩ := rs.at hd
      rw [y2 vs (.inl (.inl (s.fz _ _ (e _ _ h1))))] at hv; cases hv
      exact ⟨F', Ex.refl _, s, rv.mono e⟩
    · intro M' p o hp hm'
      trivial
theorem s_lockI {ts : TS} {D3 : Ends3} (d : Addr) (l : List (List Key × Int)) (hm : M d = some (.dT (kI l)))
    (h : ∀ od, W3s B ts { nx := fun σ' M' => M' d = some (lkO od l) ∧ D3.nx σ' (mput M' d (.dT (kI l))), rt := fun v M' => M' d = some (lkO od l) ∧ D3.rt v (mput M' d (.dT (kI l))), bk := fun σ' M' => M' d = some (lkO od l) ∧ D3.bk σ' (mput M' d (.dT (kI l))), ct := fun σ' M' => M' d = some (lkO od l) ∧ D3.ct σ' (mput M' d (.dT (kI l))) } σ (mput M d (lkO od l))) :
    W3s B (tLock ts) D3 σ M := fun F σv H Dv b hs st im => by
  obtain ⟨_, ho, h1, kv, e2, pk⟩ := st.own d _ hm
  subst e2
  obtain rfl := pkv_kI_eq pk
  have back : ∀ {od : Obj} {F' : Hp} {M' : Mem} {H' : Hp}, St3 F' M' H' → M' d = some (lkO od l) → H' d = some (.frz od (.dT (kIV l))) ∧ St3 F' (mput M' d (.dT (kI l))) (upd H' d (.dT (kIV l))) := fun {od F' M' H'} st' hM' => by
    obtain ⟨_, ho', h1', e'⟩ := st'.own d _ hM'
    obtain rfl : ho' = _ := e'.1
    exact ⟨h1', st'.put (d' := .dT (kI l)) hM' ⟨_, rfl, pkv_kI l⟩⟩
  refine ⟨d, _, h1, True.intro, fun od => h od F σv _ _ b hs (st.put hm lkO_ro) ⟨?_, ?_, ?_, ?_⟩⟩
  · intro F' M' σ' σv' H' e s st' ⟨hM', q⟩
    exact ⟨(back st' hM').1, im.nx F' _ σ' σv' _ e s (back st' hM').2 q⟩
  · intro F' M' dd v H' e st' r ⟨hM', q⟩
    exact ⟨(back st' hM').1, im.rt F' _ dd v _ e (back st' hM').2 r q⟩
  · intro F' M' σ' σv' H' e s st' ⟨hM', q⟩
    exact ⟨(back st' hM').1, im.bk F' _ σ' σv' _ e s (back st' hM').2 q⟩
  · intro F' M' σ' σv' H' e s st' ⟨hM', q⟩
    exact ⟨(back st' hM').1, im.ct F' _ σ' σv' _ e s (back st' hM').2 q⟩
end
end T3
set_option Elab.async false
set_option linter.all false
set_option maxRecDepth 100000
set_option maxHeartbeats 2000000
namespace L2
open PySem PySem.Spec PyProof.Rows
/-! ### C(e, ..) where what it raises is looked at with the slots of that moment -/
theorem kbn_of {K : PySem.W.Frag} {fd : FuncData} {ps : List Str} {n : Nat} (b : Binds K fd ps []) (h : ps.length = n) : KBn K fd ps n [] (fun us _ => us) (fun vs _ => vs) where
  to := fun s us ws X h1 h2 => by
    have := b s us X (by rw [List.append_nil, h1, h])
    rw [List.append_nil] at this
    exact this
  rel := fun r _ => r
section
variable {X : Cx} {CX : CXT} {k n : Nat} {f C : Addr} {fd : FuncData} {ps : List Str} {sp : Sp} {E : St → XK} {x : Str} {p pos : Pos} {e : Expr} {es : List Expr} {t : TA}
theorem pe_makeS (M : Mk X.K C f) (F : FnOk X.prog X.w X.K X.mg X.base CX k f fd ps sp) (hr : Room (k + 1) X.A) (hg : Gl X x) (hm : X.mg x = some (.ref C)) (bd : Binds X.K fd ps []) (hp : ps.length = n + 1) (hx : ∀ σ, PassesAt CX X σ (E σ)) (ha : PA X (e :: es) t)
    (hdb : (x == ("__debug__" : Str)) = false := by decide) (he : starEach (e :: es) X.env = (false, eval e X.env) :: starEach es X.env := by rfl) (hpl : (backTo pos (starEach es X.env)).any (·.1) = false := by rfl) :
    PE X (.Call (.Name x p) (e :: es) [] pos) (tMakeT C n 0 sp (fun vs _ => vs) E t tNil) := by
  refine ⟨fun pins s σ H Q I h => ?_⟩
  refine wpAny_Call_Name_kw (ld_glob I hg hm ?_ hdb)
  refine PySem.W.callWith_K (h₀ := X.base) I.ok.mod.kin M.kp (thn (ha.run pos pins s σ H _ I h) fun us s1 ⟨vs, H1, I1, r, q⟩ => ⟨I1.kIn, ?_⟩) he hpl
  obtain ⟨l1, _, q⟩ := q
  exact run_makeT (us := us) (ws := []) (vs := vs) (zs := []) M F hr (kbn_of bd hp) (hx σ) I1 r .nil l1 rfl q
def rTUP (K : PySem.W.Frag) : List V → Hp → VK → Prop := fun xs H Q => ∃ p ys, xs = [V.ref p] ∧ ((SqL K H p ys ∧ ∀ l, H l = none → Q (.ref l) (upd H l (.tup ys))) ∨ (SqT K H p ys ∧ Q (.ref p) H))
theorem call_TUPK {X : Cx} (K : PySem.W.Frag) (h : X.K = K) : CallR X (.type "tuple") (rTUP K) := by subst h; exact call_tuple_of
end
end L2
namespace T3
open PySem L2
open Evl (Ex)
section
variable {B : Hp} {M : Mem} {K : PySem.W.Frag} {Q : DQ} {x : D} {ds : List D}
/-- tuple(xs) -/
theorem c3_tuple (l : LstD M x ds) (q : Q (.tup ds) M) : C3 B (rTUP K) [x] M Q := fun F H xv Qv b st rx k => by
  obtain ⟨v, e, r⟩ := rx.sing
  obtain ⟨a, vs, e1, h1, rs⟩ := l.seq (K := K) st r
  subst e; subst e1
  refine ⟨a, vs, rfl, .inl ⟨h1, fun p hp => ?_⟩⟩
  obtain ⟨s2, e2⟩ := st.new (o := .tup vs) hp
  exact k _ M (.tup ds) (.ref p) _ e2 s2 ⟨p, _, rfl, upd_same, rs.mono e2⟩ q
end
end T3
set_option Elab.async false
set_option linter.all false
set_option maxRecDepth 100000
set_option maxHeartbeats 2000000
namespace L2
open PySem PySem.Spec PyProof.Rows
/-! ### // with a divisor of any size: the base heap stands as the start laid it -/
def CDivP (_ j : Int) : Prop := 0 < j
theorem op_fdivP {X : Cx} (NS : X.base.NoSeer) (ht : X.prog.given.tree = none) (hs : X.stack = X.env :: X.outer) (hgen : X.env.scope.isGenerator = false) (hco : X.env.scope.isCoroutine = false) (hd : X.A.depth + 100 < recursionLimit) :
    OpR X (binaryOp .FloorDiv) (rI CDivP fun i j => .int (i / j)) := by
  intro pins s σ H x y v u Q I rx ry h
  obtain ⟨i, j, rfl, rfl, hc, q⟩ := h
  obtain ⟨t, rfl⟩ := rx
  obtain ⟨t', rfl⟩ := ry
  have h1 : (0 : Int) < j := hc
  have hfr : X.A.frames = some (X.env :: X.outer) := by rw [I.ok.frames, hs]
  refine floordiv_int (by omega) ?_ (.inr (PySem.PylongRoom.of I.nolimit hd (PySem.SeerAt.of (NS.keeps I.bk) ht hfr hgen hco I.ok.blt I.ok.glob)))
  rw [Int.fdiv_eq_ediv_of_nonneg i (by omega)]
  exact ⟨.int (i / j), H, I.tok _, ⟨_, rfl⟩, q⟩
theorem room_pylong {k : Nat} {A : Around} (h : Room k A) (hk : 32 ≤ k) : A.depth + 100 < recursionLimit := by have := h.dp; omega
/-- what is known of more of the heap serves what is known of less -/
theorem fnOk_up {P : Program} {w : World} {K K' : PySem.W.Frag} {mg : Str → Option Value} {base : Heap} {CX : CXT} {k : Nat} {f : Addr} {fd : FuncData} {ps : List Str} {sp : Sp} (hK : K.In base) (F : FnOk P w K mg base CX k f fd ps sp) : FnOk P w K' mg base CX k f fd ps sp :=
  ⟨F.len, fun A outer s H args us vs Q E hr e0 hb r h => F.run A outer s H args us vs Q E hr ⟨e0.frames, ⟨hK, e0.mod.glob, e0.mod.blt, e0.mod.nolimit⟩, e0.bs, e0.bsz, e0.funs, e0.frf, e0.hok, e0.bare⟩ hb r h⟩
end L2
namespace T3
open PySem L2
open Evl (Ex)
theorem r3_fdivP {B : Hp} {M : Mem} {Q : DQ} {i j : Int} (h : 0 < j) (q : Q (.int (i / j)) M) : R3 B (rI CDivP fun i j => .int (i / j)) (.int i) (.int j) M Q := r3_I h q
/-- all that came since is forgotten -/
theorem vs_back {d : D} {M M' : Mem} (h : ∀ z x, M z = some x → M' z = some x) : VS d M' d M := fun F H v st rd => ⟨F, Ex.refl _, ⟨st.fz, fun a o e => st.own a o (h a o e)⟩, rd⟩
end T3
set_option Elab.async false
set_option linter.all false
set_option maxRecDepth 100000
set_option maxHeartbeats 2000000
namespace L2
open PySem PySem.Spec PyProof.Rows PySem.W
/-! ### whole number * own instance: the class's __rmul__ -/
theorem intmul_ref {prog : Program} {w : World} {i : Int} {t : Tok} {a : Addr} : MeetsIn prog w (Builtin.«int.__mul__» ⟨[.int i t, .ref a], []⟩) (fun _ R s => (∃ o, s.heap.get? a = some o ∧ o.data = .plain) ∧ R (.ok (.ret .notImplemented)) s) :=
  .of_wp fun A R s ⟨⟨o, ho, hd⟩, h⟩ => by
    show wpAny _ _ (Builtin.Int.intBinary "__mul__" _ _ _) _ _ s
    unfold Builtin.Int.intBinary
    refine wpAny_bind (wpAny_of_eq (a := (Value.int i t, [Value.ref a])) rfl ?_)
    refine wpAny_bind (wpAny_of_eq (a := i) rfl ?_)
    refine wpAny_bind ?_
    show wpAny _ _ (asInt? (.ref a)) _ _ s
    unfold asInt?
    refine wpAny_bind (wpAny_load ho ?_)
    rw [hd]
    refine wpAny_pure ?_
    dsimp only
    first
      | exact wpAny_bind (wpAny_rule (wpAny_pure ⟨_, rfl, h⟩))
      | exact wpAny_pure ⟨_, rfl, h⟩
section
variable {prog : Program} {w : World} {A : Around} {E : Value → Shared → Prop} {s : Shared} {K : PySem.W.Frag} {x C f g : Addr} {ox : Obj} {od : Option Obj}
theorem bin_rmul {i : Int} {t : Tok} {Q : Value → Shared → Prop} (X : K.In s.heap) (I : InstAt s.heap x ox C od) (hpl : ox.data = .plain) (hc : selfFirst K C = true) (hm : findIn K (.ref C) "__mul__" = some (some (.ref g)))
    (hr : findIn K (.ref C) "__rmul__" = some (some (.ref f))) (hf : isFn K (.ref f) = true) (hsub : subIn K (.ref C) (.type "int") = some false)
    (h : wpAny (model prog w) A (call (.ref f) [.ref x, .int i t]) (PySem.W.CmpBack Q) E s) : wpAny (model prog w) A (binaryOp .Mult (.int i t) (.ref x)) Q E s := by
  obtain ⟨cd, rest, hcd, hmr⟩ := ksp_first hc
  have one := ksp_try X I hr hf h
  have dec : wpAny (model prog w) A (tryMethod (.int i t) (PySem.dunder "mul") (.ref x)) (fun r s' => r = none ∧ s' = s) E s :=
    wpAny_tryMethod_declines (typeIs_int s i t) F.slot_int_mul (call_meetsIn F.slot_int_mul (typeIs_int s i t) F.entry_int_mul (F.args_int_mul_2 _ _) intmul_ref ⟨⟨ox, I.at_, hpl⟩, rfl, rfl, rfl⟩)
  obtain ⟨hh, gg, d, tt, os⟩ := s
  have L1 : Looks (model prog w) hh (typeOf (.ref x)) (.ref C) := I.type
  have L2 : Looks (model prog w) hh (typeOf (.int i t)) (.type "int") := Looks.of_pure rfl
  have L3 : Looks (model prog w) hh (fillsNumberSlot (.ref C) "mul") true := fills_K X hcd hmr hm
  have L4 : Looks (model prog w) hh (fillsNumberSlot (.type "int") "mul") true := Looks.of_pure F.fills_int_mul
  have L5 : Looks (model prog w) hh (isSubtype (.ref C) (.type "int")) false := looks_subIn X hsub
  have L6 : Looks (model prog w) hh (numberSlotInPython (.type "int") "mul") false := Looks.of_pure rfl
  have hne : (Value.type "int" == Value.ref C) = false := Bool.eq_false_iff.mpr fun q => by cases beq_iff_eq.mp q
  simp only [binaryOp, Operator.info]
  refine wpAny_holding (wpAny_bind ?_)
  unfold binaryOp1
  refine wpAny_bind (L2.at (wpAny_bind (L1.at (wpAny_bind (L4.at ?_)))))
  simp only [hne, Bool.false_eq_true, if_false]
  ksp_lk
  refine wpAny_mono dec (fun r s' hr' => ?_) fun _ _ e => e
  obtain ⟨rfl, rfl⟩ := hr'
  ksp_lk
  refine wpAny_mono one (fun r s' hr' => ?_) fun _ _ e => e
  obtain ⟨v, rfl, hq⟩ := hr'
  ksp_lk
  exact hq
end
def tRmul (C : Addr) (sp : Sp) (ta tb : TE) : TE := fun σ H Q => ta σ H fun x H1 => tb σ H1 fun y H2 => (∃ i, x = .int i) ∧ InsV H2 y C ∧ sp [y, x] H2 Q (fun _ _ _ => False)
structure RmF (K : PySem.W.Frag) (C f : Addr) : Prop where
  first : PySem.W.selfFirst K C = true
  mul : ∃ g : Addr, PySem.W.findIn K (.ref C) "__mul__" = some (some (.ref g))
  at_ : PySem.W.findIn K (.ref C) "__rmul__" = some (some (.ref f))
  fn : PySem.W.isFn K (.ref f) = true
  sub : PySem.W.subIn K (.ref C) (.type "int") = some false
section
variable {X : Cx} {CX : CXT} {n : Nat} {C f : Addr} {fd : FuncData} {ps : List Str} {sp : Sp} {a b : Expr} {ta tb : TE} {pos : Pos} {K : PySem.W.Frag}
theorem pe_rmul (hK : X.K = K) (ha : PE X a ta) (hb : PE X b tb) (B : RmF K C f) (F : FnOk X.prog X.w X.K X.mg X.base CX n f fd ps sp) (bd : Binds K fd ps []) (hr : Room n X.A) (hx : ∀ σ, PassesAt CX X σ (fun _ _ _ => False)) :
    PE X (.BinOp a .Mult b pos) (tRmul C sp ta tb) := by
  subst hK
  refine ⟨fun pins s σ H Q I h => ?_⟩
  refine wpAny_BinOp (binT ha hb I h fun v u s2 x y H2 I2 rx ry ⟨⟨i, ex⟩, ⟨a, dx, fs, ey, ea⟩, q⟩ => ?_)
  subst ex
  subst ey
  obtain ⟨t, rfl⟩ := rx
  obtain rfl : u = Value.ref a := ry
  obtain ⟨mA, J, _⟩ := ins_get I2.hok ea
  obtain ⟨od, J, _⟩ := J.look
  obtain ⟨g, hm⟩ := B.mul
  refine bin_rmul I2.kIn J rfl B.first hm B.at_ B.fn B.sub ?_
  exact wpAny_mono (run_fnT (E := fun _ => (fun _ _ _ => False : XK)) (us := [.ref a, .int i t]) (vs := [.ref a, .int i]) F hr bd .nil (hx σ) I2 (.cons rfl (.cons ⟨t, rfl⟩ .nil)) q) (fun r s' ⟨z, H', I', rz, qz⟩ => cmpBack_of rz ⟨z, H', I', rz, qz⟩) fun _ _ z => z
end
end L2
namespace T3
open PySem L2
open Evl (Ex)
section
variable {B : Hp} {M : Mem} {σ : Sig} {ta tb : TE} {Q : DQ} {S : Sp3} {C : Addr}
theorem w_rmul (h : W3e B ta σ M (fun x M1 => W3e B tb σ M1 (fun y M2 => (∃ i, x = .int i) ∧ (∃ fs, InsD M2 y C fs) ∧ S [y, x] M2 Q NoE))) : W3e B (tRmul C (lift3 S) ta tb) σ M Q := fun F σv H Qv b hs st k =>
  h F σv H _ b hs st fun F1 M1 x xv H1 e1 st1 rx q1 => q1 F1 σv H1 _ (b.trans e1) (hs.mono e1) st1 fun F2 M2 y yv H2 e2 st2 ry ⟨⟨i, ex⟩, ⟨fs, hi⟩, q⟩ => by
    subst ex
    exact ⟨⟨i, rx⟩, insV_of hi st2 ry, lift_of (ds := [y, .int i]) (b.trans (e1.trans e2)) st2 (rds2 ry rx) impE0 (fun F' M' d v H' e s r z => k F' M' d v H' ((e1.trans e2).trans e) s r z) q⟩
end
end T3
set_option Elab.async false
set_option linter.all false
set_option maxRecDepth 100000
set_option maxHeartbeats 2000000
namespace L2
open PySem PySem.Spec PyProof.Rows
/-! ### static methods read off their class; instances called -/
structure SMet (K : PySem.W.Frag) (C : Addr) (mc : Value) (m : Str) (p g : Addr) : Prop where
  at_ : PySem.W.findCls K (.ref C) mc m = some (.get (.builtin "staticmethod.__get__") (.ref p) .none (.ref C))
  rc : ∃ rest, PySem.W.recIn K p "staticmethod" = some (.ref g :: rest)
  kp : PySem.W.keepIn K (.ref g) = true
section
variable {X : Cx} {CX : CXT} {k : Nat} {C p g : Addr} {mc : Value} {fd : FuncData} {ps : List Str} {sp : Sp} {dvs : List V} {ds : List Value} {E : St → XK} {m : Str} {e o : Expr} {es : List Expr} {apos pos : Pos} {ta tf : TE} {t : TA} {A : Around} {EE : Value → Shared → Prop}
theorem smet_get {b : Bool} {pins : List (Addr × Obj)} {σ : St} {H : Hp} {s : Shared} {Q : Value → Shared → Prop} (I : Inv X pins σ H s) (r : ClX.CRead X.K C mc) (c : SMet X.K C mc m p g) (h : ∀ s', Inv X pins σ H s' → Q (.ref g) s') :
    wpAny (model X.prog X.w) A (getAttr (.ref C) m b) Q EE s := by
  obtain ⟨rest, hp⟩ := c.rc
  refine PySem.W.cls_bind I.kIn r.rd c.at_ (wpAny_call (PySem.W.sm_get (s := { s with toks := s.toks + 1 }) I.kIn hp (PySem.W.handed_on rfl ?_)))
  exact h _ (I.tok _)
def tSMeth (C : Addr) (sp : Sp) (dvs : List V) (E : St → XK) (ta : TE) (t : TA) : TE := fun σ H Q => ta σ H fun x H1 => x = .ref C ∧ t σ H1 fun vs H2 => sp (vs ++ dvs) H2 Q (E σ)
theorem pe_smeth {pl : Sem Bool} (he : PE X o ta) (r : ClX.CRead X.K C mc) (c : SMet X.K C mc m p g) (F : FnOk X.prog X.w X.K X.mg X.base CX k g fd ps sp) (hr : Room k X.A) (hb : Binds X.K fd ps ds) (hd : Vals dvs ds) (hx : ∀ σ, PassesAt CX X σ (E σ)) (ha : PA X (e :: es) t)
    (hst : starEach (e :: es) X.env = (false, eval e X.env) :: starEach es X.env := by rfl) (hpl : (backTo pos (starEach es X.env)).any (·.1) = false := by rfl)
    (ht : eval (.Call (.Attribute o m apos) (e :: es) [] pos) X.env = (do
      let ov ← eval o X.env
      standAt apos.atName
      let (f, first) ← holding [ov] (getMethod ov m pl)
      callWith pos f first (backTo pos (starEach (e :: es) X.env)) (backToKw pos (keywordEach [] X.env))) := by rfl) :
    PE X (.Call (.Attribute o m apos) (e :: es) [] pos) (tSMeth C sp dvs E ta t) := by
  refine ⟨fun pins s σ H Q I h => ?_⟩
  refine PySem.W.methodCall_KW (pl := pl) (thn (he.run pins s σ H _ I h) fun u s1 ⟨x, H1, I1, rx, ex, q⟩ => ?_) ht
  subst ex
  obtain rfl : u = Value.ref C := rx
  refine PySem.W.method_cls I1.kIn r.ga (smet_get I1 r c fun s2 I2 => ?_)
  refine PySem.W.callWith_K (first := []) (h₀ := X.base) I2.ok.mod.kin c.kp (thn (ha.run pos pins s2 σ H1 _ I2 q) fun us s3 ⟨vs, H2, I3, rv, q2⟩ => ⟨I3.kIn, ?_⟩) hst hpl
  exact run_fnT (us := us) (vs := vs) F hr hb hd (hx σ) I3 rv q2
/-- f(e, ..), f an instance with a dict -/
def tCallI (C : Addr) (sp : Sp) (E : XK) (tf : TE) (t : TA) : TE := fun σ H Q => tf σ H fun y H1 => ∃ a, y = V.ref a ∧ t σ H1 fun vs H2 => (∃ dx fs, H2 a = some (.ins C dx fs)) ∧ sp (V.ref a :: vs) H2 Q E
theorem pe_callI {E : XK} (hf : PE X o tf) (c : StX.CallO X.K C g) (F : FnOk X.prog X.w X.K X.mg X.base CX k g fd ps sp) (hr : Room k X.A) (hb : Binds X.K fd ps []) (hx : Passes CX X E) (ha : PA X (e :: es) t)
    (ht : eval (.Call o (e :: es) [] pos) X.env = (do callWith pos (← eval o X.env) [] (backTo pos (starEach (e :: es) X.env)) (backToKw pos (keywordEach [] X.env))) := by rfl)
    (he : starEach (e :: es) X.env = (false, eval e X.env) :: starEach es X.env := by rfl) (hpl : (backTo pos (starEach es X.env)).any (·.1) = false := by rfl) : PE X (.Call o (e :: es) [] pos) (tCallI C sp E tf t) := by
  have G := F.raw (dvs := []) hb .nil
  refine ⟨fun pins s σ H Q I h => ?_⟩
  refine Call_ (thn (hf.run pins s σ H _ I h) fun u s1 ⟨y, H1, I1, ry, a, ey, q⟩ => ?_) ht
  subst ey
  obtain rfl : u = Value.ref a := ry
  refine StX.callO_with (thn (ha.run pos pins s1 σ H1 _ I1 q) fun us s2 ⟨vs, H2, I2, r, hi, q2⟩ => ?_) he hpl
  obtain ⟨ox, od, J, hd⟩ := StX.insC_at I2 (.inr hi)
  refine ⟨⟨C, ox, od, J, hd⟩, StX.run_callO c G hr hx I2 (.inr hi) r ?_⟩
  show sp ((V.ref a :: vs) ++ []) H2 Q E
  rw [List.append_nil]; exact q2
end
end L2
namespace T3
open PySem L2
open Evl (Ex)
section
variable {B : Hp} {M : Mem} {K : PySem.W.Frag} {σ : Sig} {te ta tf : TE} {t : TA} {Q : DQ} {C : Addr} {S : Sp3}
theorem w_smeth {W : WX} {EW : EW3} (hW : ImpW B EW W) (h : W3e B ta σ M (fun x M1 => x = .ref C ∧ W3a B t σ M1 (fun ds M2 => S ds M2 Q (fun C2 th M' => EW C2 th σ M')))) : W3e B (tSMeth C (lift3 S) [] (WE W) ta t) σ M Q := fun F σv H Qv b hs st k =>
  h F σv H _ b hs st fun F1 M1 x xv H1 e1 s1 rx ⟨ex, q⟩ => by
    subst ex
    refine ⟨rx, q F1 σv H1 _ (b.trans e1) (hs.mono e1) s1 fun F2 M2 ds vs H2 e2 s2 rds q2 => ?_⟩
    rw [List.append_nil]
    exact ⟨ds, F2, M2, Q, _, rds, s2, fun F' M' d v H' e s r z => k F' M' d v H' ((e1.trans e2).trans e) s r z, fun F' M' C2 d th v H' e s r hd z => hW F' M' σ σv C2 d th v H' ((b.trans (e1.trans e2)).trans e) (hs.mono ((e1.trans e2).trans e)) s r hd z, q2⟩
theorem w_smeth0 {E : XK} (h : W3e B ta σ M (fun x M1 => x = .ref C ∧ W3a B t σ M1 (fun ds M2 => S ds M2 Q NoE))) : W3e B (tSMeth C (lift3 S) [] (fun _ => E) ta t) σ M Q := fun F σv H Qv b hs st k =>
  h F σv H _ b hs st fun F1 M1 x xv H1 e1 s1 rx ⟨ex, q⟩ => by
    subst ex
    refine ⟨rx, q F1 σv H1 _ (b.trans e1) (hs.mono e1) s1 fun F2 M2 ds vs H2 e2 s2 rds q2 => ?_⟩
    rw [List.append_nil]
    exact ⟨ds, F2, M2, Q, _, rds, s2, fun F' M' d v H' e s r z => k F' M' d v H' ((e1.trans e2).trans e) s r z, impE0, q2⟩
theorem w_callI {E : XK} (h : W3e B tf σ M (fun x M1 => ∃ a, x = .ref a ∧ W3a B t σ M1 (fun ds M2 => (∃ fs, M2 a = some (.ins C fs)) ∧ S (.ref a :: ds) M2 Q NoE))) : W3e B (tCallI C (lift3 S) E tf t) σ M Q := fun F σv H Qv b hs st k =>
  h F σv H _ b hs st fun F1 M1 x xv H1 e1 s1 rx ⟨a, ex, q⟩ => by
    subst ex
    refine ⟨a, rx, q F1 σv H1 _ (b.trans e1) (hs.mono e1) s1 fun F2 M2 ds vs H2 e2 s2 rds ⟨⟨fs, hi⟩, q2⟩ => ?_⟩
    obtain ⟨a', dx, fv, ev, ha, _⟩ := InsD.at (.inr ⟨a, rfl, hi⟩) s2 (show RD F2 (.ref a) (.ref a) from rfl)
    cases ev
    exact ⟨⟨dx, fv, ha⟩, .ref a :: ds, F2, M2, Q, NoE, ⟨_, _, rfl, rfl, rds⟩, s2, fun F' M' d v H' e s r z => k F' M' d v H' ((e1.trans e2).trans e) s r z, impE0, q2⟩
end
end T3
set_option Elab.async false
set_option linter.all false
set_option maxRecDepth 100000
set_option maxHeartbeats 2000000
namespace L2
open PySem PySem.Spec PyProof.Rows
/-! ### dicts that have texts, None and pairs of a text and a number as keys -/
abbrev NK := NestedKey
def mxEnt (w : World) (x : NK × Value × Value) : DictEntry := ⟨x.1.hash w, x.2.1, x.2.2⟩
structure MxAt (w : World) (h : Heap) (d : Addr) (xs : List (NK × Value × Value)) (o : Obj) (es : Array DictEntry) (ep : Nat) : Prop where
  ho : h.get? d = some o
  ex : o.ExactDict
  hd : o.data = .dict es ep
  he : es.toList = xs.map (mxEnt w)
  nd : (xs.map (·.1)).Nodup
def MxK (h : Heap) (xs : List (NK × Value × Value)) : Prop := ∀ x ∈ xs, NestedIs h x.1 x.2.1 ∧ x.1.depth ≤ 8
section
variable {prog : Program} {w : World} {A : Around} {E : Value → Shared → Prop} {s : Shared} {d : Addr} {xs : List (NK × Value × Value)} {o : Obj} {es : Array DictEntry} {ep : Nat} {k : NK} {u : Value}
theorem MxAt.size (m : MxAt w s.heap d xs o es ep) : es.size = xs.length := by rw [← Array.length_toList, m.he, List.length_map]
theorem MxAt.at (m : MxAt w s.heap d xs o es ep) (i : Nat) : es[i]? = (xs[i]?).map (mxEnt w) := by rw [← Array.getElem?_toList, m.he, List.getElem?_map]
theorem MxAt.ent (m : MxAt w s.heap d xs o es ep) {i : Nat} {e : DictEntry} (h : es[i]? = some e) : ∃ x, xs[i]? = some x ∧ e = mxEnt w x := by
  rw [m.at] at h
  obtain ⟨x, h1, h2⟩ := Option.map_eq_some_iff.mp h
  exact ⟨x, h1, h2.symm⟩
theorem MxAt.one (m : MxAt w s.heap d xs o es ep) {i j : Nat} {p q : Value × Value} (hi : xs[i]? = some (k, p)) (hj : xs[j]? = some (k, q)) : i = j := by
  have h1 : (xs.map (·.1))[i]? = some k := by rw [List.getElem?_map, hi]; rfl
  have h2 : (xs.map (·.1))[j]? = some k := by rw [List.getElem?_map, hj]; rfl
  exact (List.getElem?_inj (List.getElem?_eq_some_iff.mp h1).1 m.nd).mp (h1.trans h2.symm)
theorem mx_tells {key : Value} {stored : List Value} {Q : Bool → Shared → Prop} (hk : ∃ k : NK, NestedIs s.heap k key ∧ k.depth ≤ 8) (hst : ∀ v ∈ stored, ∃ k : NK, NestedIs s.heap k v ∧ k.depth ≤ 8) (h : Q false s) :
    wpAny (model prog w) A (tableMayTell key stored) Q E s := by
  unfold tableMayTell
  split
  · exact wpAny_pure h
  · obtain ⟨k, k1, k2⟩ := hk
    refine wpAny_bind (quiet_key k _ 8 s k1 k2 A E _ ?_)
    simp only [Bool.not_true, Bool.false_eq_true, if_false]
    refine wpAny_bind ?_
    refine wpAny_forIn_list _ (fun rest r s' => s' = s ∧ r = (none, ()) ∧ ∀ v ∈ rest, ∃ k : NK, NestedIs s.heap k v ∧ k.depth ≤ 8) _ ?_ ?_ _ _ ⟨rfl, rfl, hst⟩
    · rintro x rest r s' ⟨rfl, rfl, hr⟩
      obtain ⟨k', q1, q2⟩ := hr _ List.mem_cons_self
      refine wpAny_bind (quiet_key k' _ 8 s' q1 q2 A E _ ?_)
      simp only [Bool.not_true, Bool.false_eq_true, if_false]
      exact wpAny_pure ⟨rfl, rfl, fun v hv => hr v (List.mem_cons_of_mem _ hv)⟩
    · rintro r s' ⟨rfl, rfl, _⟩
      exact wpAny_pure h
def MxFinds (prog : Program) (w : World) (A : Around) (E : Value → Shared → Prop) (s : Shared) (d : Addr) (xs : List (NK × Value × Value)) (k : NK) (u : Value) : Prop :=
  ∀ Q : Option Nat → Shared → Prop, ((∀ (j : Nat) p, xs[j]? ≠ some (k, p)) → Q none s) → (∀ (j : Nat) p, xs[j]? = some (k, p) → Q (some j) s) → wpAny (model prog w) A (dictFind d u (k.hash w)) Q E s
theorem mem_places {n : Nat} {f : Nat → Option Int} {h : Int} {i : Nat} : i ∈ placesWithHash n f h ↔ i < n ∧ f i = some h := by
  unfold placesWithHash
  rw [List.mem_filter, List.mem_range]
  simp
theorem places_nodup {n : Nat} {f : Nat → Option Int} {h : Int} : (placesWithHash n f h).Nodup := by
  unfold placesWithHash
  exact (List.filter_sublist).nodup List.nodup_range
theorem mx_stored (m : MxAt w s.heap d xs o es ep) (mk : MxK s.heap xs) {h : Int} : ∀ v ∈ (placesWithHash es.size (fun i => es[i]?.map (·.hash)) h).filterMap (fun i => es[i]?.map (·.key)), ∃ k : NK, NestedIs s.heap k v ∧ k.depth ≤ 8 := by
  intro v hv
  obtain ⟨i, _, hi⟩ := List.mem_filterMap.mp hv
  obtain ⟨e, he, rfl⟩ := Option.map_eq_some_iff.mp hi
  obtain ⟨x, hx, rfl⟩ := m.ent he
  exact ⟨x.1, mk x (List.mem_of_getElem? hx)⟩
/-- a pair is looked for -/
theorem mx_find {a : Addr} (hu : A.units + 8 < cLine) (hk : NestedIs s.heap k (.ref a)) (hk8 : k.depth ≤ 8) (m : MxAt w s.heap d xs o es ep) (mk : MxK s.heap xs) : MxFinds prog w A E s d xs k (.ref a) := by
  intro Q hnone hsome
  have hany : ¬ (es.any fun e => e.key == Value.ref a && e.hash != k.hash w) = true := by
    rw [← Array.any_toList, List.any_eq_true]
    rintro ⟨e, hin, hc⟩
    rw [m.he] at hin
    obtain ⟨x, hx, rfl⟩ := List.mem_map.mp hin
    simp only [mxEnt, Bool.and_eq_true, beq_iff_eq, bne_iff_ne, ne_eq] at hc
    have h1 := (mk x hx).1
    rw [hc.1] at h1
    exact hc.2 (by rw [NestedIs.inj _ _ _ h1 hk])
  have hst := mx_stored m mk (h := k.hash w)
  have hpl : ∀ {j : Nat} {p : Value × Value}, xs[j]? = some (k, p) → j ∈ placesWithHash es.size (fun i => es[i]?.map (·.hash)) (k.hash w) := fun {j p} hj => by
    refine mem_places.mpr ⟨by rw [m.size]; exact (List.getElem?_eq_some_iff.mp hj).1, ?_⟩
    rw [m.at, hj]; rfl
  have hnd := places_nodup (n := es.size) (f := fun i => es[i]?.map (·.hash)) (h := k.hash w)
  have hin : ∀ i ∈ placesWithHash es.size (fun i => es[i]?.map (·.hash)) (k.hash w), i < es.size := fun i hi => (mem_places.mp hi).1
  unfold dictFind
  try with_reducible refine wpAny_holding ?_
  refine wpAny_bind (wpAny_dictEntries m.ho m.hd ?_)
  dsimp only
  generalize placesWithHash es.size (fun i => es[i]?.map (·.hash)) (k.hash w) = pl at hst hpl hnd hin ⊢
  rw [if_neg (show ¬ ((Value.ref a :: pl.filterMap (fun i => es[i]?.map (·.key))).all carriedByValue) = true by simp [carriedByValue])]
  rw [if_neg hany]
  by_cases hone : ((pl.filterMap (fun i => es[i]?.map (·.key))) == [Value.ref a]) = true <;>
  (first | rw [if_pos hone] | rw [if_neg hone]) <;> (first | refine wpAny_bind (wpAny_pure ?_) | refine wpAny_bind (mx_tells ⟨k, hk, hk8⟩ hst ?_)) <;> (
    rw [if_neg (by simp)]
    refine wpAny_bind ?_
    refine wpAny_forIn_list _ (fun rest b s' => s' = s ∧ ∃ (pre : List Nat) (hit : Option Nat), pl = pre ++ rest ∧ b = (none, hit) ∧
      ((hit = none ∧ ∀ j ∈ pre, ∀ p, xs[j]? ≠ some (k, p)) ∨ ∃ j p, hit = some j ∧ j ∈ pre ∧ xs[j]? = some (k, p))) _ ?_ ?_ _ _ ⟨rfl, [], none, rfl, rfl, .inl ⟨rfl, fun j hj => nomatch hj⟩⟩
    · rintro i rest b s' ⟨rfl, pre, hit, hp, rfl, hH⟩
      have hlt := hin i (by rw [hp]; simp)
      obtain ⟨x, hx⟩ : ∃ x, xs[i]? = some x := ⟨_, List.getElem?_eq_getElem (by rw [← m.size]; exact hlt)⟩
      obtain ⟨hxk, hx8⟩ := mk x (List.mem_of_getElem? hx)
      have hex : es[i]? = some (mxEnt w x) := by rw [m.at, hx]; rfl
      have hnpre : i ∉ pre := fun hi => by
        rw [hp, List.nodup_append] at hnd
        exact hnd.2.2 i hi i (by simp) rfl
      have hpre : pl = (pre ++ [i]) ++ rest := by rw [hp]; simp
      have stay : x.1 ≠ k → ((hit = none ∧ ∀ j ∈ pre ++ [i], ∀ p, xs[j]? ≠ some (k, p)) ∨ ∃ j p, hit = some j ∧ j ∈ pre ++ [i] ∧ xs[j]? = some (k, p)) := fun hne => by
        rcases hH with ⟨h0, hno⟩ | ⟨j, p, h1, h2, h3⟩
        · refine .inl ⟨h0, fun j hj p hjp => ?_⟩
          rcases List.mem_append.mp hj with h | h
          · exact hno j h p hjp
          · have : j = i := by simpa using h
            subst this
            rw [hx] at hjp
            cases hjp
            exact hne rfl
        · exact .inr ⟨j, p, h1, List.mem_append_left _ h2, h3⟩
      rw [hex]
      dsimp only
      by_cases hh : ((mxEnt w x).hash == k.hash w) = true
      · rw [if_pos hh]
        refine wpAny_bind (wpAny_dictEpoch m.ho m.hd (wpAny_bind (eqAt_key x.1 k A s' _ _ hxk hk (by omega) _ _ _ _ (wpAny_bind (wpAny_dictEpoch m.ho m.hd ?_)))))
        rw [← NestedKey.decide_eq]
        rw [if_neg (by simp)]
        by_cases hkk : x.1 = k
        · rw [decide_eq_true hkk]
          obtain ⟨k', p'⟩ := x
          have hkk : k' = k := hkk
          subst hkk
          rcases hH with ⟨rfl, _⟩ | ⟨j, p, _, hjx, hj⟩
          · first | rw [if_pos rfl] | skip
            simp only [Option.isSome_none, Bool.false_eq_true, if_false]
            first | refine wpAny_bind (wpAny_pure ?_) | skip
            refine wpAny_bind (wpAny_rule ?_)
            split
            · exact wpAny_pure (wpAny_pure (hsome i _ hx))
            · exact wpAny_pure ⟨rfl, pre ++ [i], some i, hpre, rfl, .inr ⟨i, _, rfl, by simp, hx⟩⟩
          · have := m.one hj hx
            subst this
            exact absurd hjx hnpre
        · rw [decide_eq_false hkk]
          simp only [Bool.false_eq_true, if_false]
          refine wpAny_bind (wpAny_rule ?_)
          first | rw [if_neg (by simp)] | skip
          first
            | exact wpAny_pure ⟨rfl, pre ++ [i], hit, hpre, rfl, stay hkk⟩
            | exact wpAny_bind (wpAny_pure (wpAny_pure ⟨rfl, pre ++ [i], hit, hpre, rfl, stay hkk⟩))
      · rw [if_neg hh]
        refine wpAny_pure ⟨rfl, pre ++ [i], hit, hpre, rfl, stay fun hkk => ?_⟩
        exact hh (by show ((x.1.hash w) == k.hash w) = true; rw [hkk]; simp)
    · rintro b s' ⟨rfl, pre, hit, hp, rfl, hH⟩
      rw [List.append_nil] at hp
      rcases hH with ⟨rfl, hno⟩ | ⟨j, p, rfl, _, hj⟩
      · refine wpAny_pure (hnone fun j p hj => ?_)
        exact hno j (by rw [← hp]; exact hpl hj) p hj
      · exact wpAny_pure (hsome j p hj))
/-- None is looked for where it is no key -/
theorem mx_find_none (hu : A.units + 8 < cLine) (m : MxAt w s.heap d xs o es ep) (mk : MxK s.heap xs) (hno : ∀ (j : Nat) p, xs[j]? ≠ some (NestedKey.none, p)) : MxFinds prog w A E s d xs .none .none := by
  intro Q hnone _
  have hst := mx_stored m mk (h := NestedKey.none.hash w)
  have hin : ∀ i ∈ placesWithHash es.size (fun i => es[i]?.map (·.hash)) (NestedKey.none.hash w), i < es.size := fun i hi => (mem_places.mp hi).1
  have turn : ∀ i, i < es.size → ∃ x, es[i]? = some (mxEnt w x) ∧ NestedIs s.heap x.1 x.2.1 ∧ x.1.depth ≤ 8 ∧ NestedKey.beq x.1 .none = false := fun i hi => by
    obtain ⟨x, hx⟩ : ∃ x, xs[i]? = some x := ⟨_, List.getElem?_eq_getElem (by rw [← m.size]; exact hi)⟩
    refine ⟨x, by rw [m.at, hx]; rfl, (mk x (List.mem_of_getElem? hx)).1, (mk x (List.mem_of_getElem? hx)).2, ?_⟩
    rw [← NestedKey.decide_eq]
    exact decide_eq_false fun e => hno i x.2 (by rw [hx, ← e])
  unfold dictFind
  try with_reducible refine wpAny_holding ?_
  refine wpAny_bind (wpAny_dictEntries m.ho m.hd ?_)
  dsimp only
  generalize placesWithHash es.size (fun i => es[i]?.map (·.hash)) (NestedKey.none.hash w) = pl at hst hin ⊢
  by_cases hall : ((Value.none :: pl.filterMap (fun i => es[i]?.map (·.key))).all carriedByValue) = true
  · rw [if_pos hall]
    unfold dictWalkPlain
    refine wpAny_bind ?_
    refine wpAny_forIn_list _ (fun rest b s' => s' = s ∧ b = (none, ()) ∧ ∀ i ∈ rest, i < es.size) _ ?_ ?_ _ _ ⟨rfl, rfl, hin⟩
    · rintro i rest b s' ⟨rfl, rfl, hr⟩
      obtain ⟨x, hex, hxk, hx8, hb⟩ := turn i (hr i List.mem_cons_self)
      have hr2 := fun j hj => hr j (List.mem_cons_of_mem _ hj)
      rw [hex]
      dsimp only
      by_cases hh : ((mxEnt w x).hash == NestedKey.none.hash w) = true
      · rw [if_pos hh]
        refine wpAny_bind (wpAny_dictEpoch m.ho m.hd (wpAny_bind (eqAt_key x.1 .none A s' _ _ hxk .none (by omega) _ _ _ _ (wpAny_bind (wpAny_dictEpoch m.ho m.hd ?_)))))
        rw [hb, if_neg (by simp)]
        simp only [Bool.false_eq_true, if_false]
        refine wpAny_bind (wpAny_rule ?_)
        first
          | exact wpAny_pure ⟨rfl, rfl, hr2⟩
          | exact wpAny_bind (wpAny_pure (wpAny_pure ⟨rfl, rfl, hr2⟩))
      · rw [if_neg hh]
        exact wpAny_pure ⟨rfl, rfl, hr2⟩
    · rintro b s' ⟨rfl, rfl, _⟩
      exact wpAny_pure (hnone hno)
  · rw [if_neg hall]
    by_cases hone : ((pl.filterMap (fun i => es[i]?.map (·.key))) == [Value.none]) = true <;>
    (first | rw [if_pos hone] | rw [if_neg hone]) <;> (first | refine wpAny_bind (wpAny_pure ?_) | refine wpAny_bind (mx_tells ⟨.none, .none, Nat.zero_le _⟩ hst ?_)) <;> (
      rw [if_neg (by simp)]
      refine wpAny_bind ?_
      refine wpAny_forIn_list _ (fun rest b s' => s' = s ∧ b = (none, none) ∧ ∀ i ∈ rest, i < es.size) _ ?_ ?_ _ _ ⟨rfl, rfl, hin⟩
      · rintro i rest b s' ⟨rfl, rfl, hr⟩
        obtain ⟨x, hex, hxk, hx8, hb⟩ := turn i (hr i List.mem_cons_self)
        have hr2 := fun j hj => hr j (List.mem_cons_of_mem _ hj)
        rw [hex]
        dsimp only
        by_cases hh : ((mxEnt w x).hash == NestedKey.none.hash w) = true
        · rw [if_pos hh]
          refine wpAny_bind (wpAny_dictEpoch m.ho m.hd (wpAny_bind (eqAt_key x.1 .none A s' _ _ hxk .none (by omega) _ _ _ _ (wpAny_bind (wpAny_dictEpoch m.ho m.hd ?_)))))
          rw [hb, if_neg (by simp)]
          simp only [Bool.false_eq_true, if_false]
          refine wpAny_bind (wpAny_rule ?_)
          first | rw [if_neg (by simp)] | skip
          first
            | exact wpAny_pure ⟨rfl, rfl, hr2⟩
            | exact wpAny_bind (wpAny_pure (wpAny_pure ⟨rfl, rfl, hr2⟩))
        · rw [if_neg hh]
          exact wpAny_pure ⟨rfl, rfl, hr2⟩
      · rintro b s' ⟨rfl, rfl, _⟩
        exact wpAny_pure (hnone hno))
/-- a text is looked for in an empty dict -/
theorem mx_find_str {x : Str} {t : Tok} (m : MxAt w s.heap d [] o es ep) : MxFinds prog w A E s d [] (.text x) (.str x t) := by
  intro Q hnone _
  have he : es = #[] := by
    have := m.he
    apply Array.toList_inj.mp
    rw [this]; rfl
  subst he
  unfold dictFind
  try with_reducible refine wpAny_holding ?_
  refine wpAny_bind (wpAny_dictEntries m.ho m.hd ?_)
  dsimp only
  rw [if_pos (show ((#[] : Array DictEntry).all fun e => isExactStrKey e.key) = true by simp)]
  unfold foundByValue
  rw [show (#[] : Array DictEntry).findIdx? (fun e => e.key.isStr x) = none by simp]
  exact wpAny_pure (hnone fun j p h => by simp at h)
/-! ### get and set -/
def mxGet (xs : List (NK × Value × Value)) (k : NK) : Option Value := (xs.find? fun x => decide (x.1 = k)).map (·.2.2)
def mxPut {α β : Type} (xs : List (NK × α × β)) (k : NK) (u : α) (v : β) : List (NK × α × β) :=
  if (xs.any fun x => decide (x.1 = k)) = true then xs.map (fun x => if x.1 = k then (x.1, x.2.1, v) else x) else xs ++ [(k, u, v)]
theorem mx_find_at : ∀ {xs : List (NK × Value × Value)} {j : Nat} {p : Value × Value}, (xs.map (·.1)).Nodup → xs[j]? = some (k, p) → xs.find? (fun x => decide (x.1 = k)) = some (k, p)
  | [], _, _, _, h => by simp at h
  | x :: xs, 0, p, _, h => by
    have : x = (k, p) := by simpa using h
    subst this
    simp
  | x :: xs, j + 1, p, hn, h => by
    rw [List.map_cons, List.nodup_cons] at hn
    have h : xs[j]? = some (k, p) := by simpa using h
    have hne : ¬ x.1 = k := fun e => hn.1 (by rw [e]; exact List.mem_map.mpr ⟨_, List.mem_of_getElem? h, rfl⟩)
    rw [List.find?_cons, decide_eq_false hne]
    exact mx_find_at hn.2 h
theorem mx_find_no {xs : List (NK × Value × Value)} (h : ∀ (j : Nat) p, xs[j]? ≠ some (k, p)) : xs.find? (fun x => decide (x.1 = k)) = none := by
  rw [List.find?_eq_none]
  intro x hx hk
  obtain ⟨j, hj⟩ := List.getElem?_of_mem hx
  have hk : x.1 = k := by simpa using hk
  exact h j x.2 (by rw [hj, ← hk])
theorem mx_dictGet {Q : Option Value → Shared → Prop} (hu : A.units + 8 < cLine) (hk : NestedIs s.heap k u) (hk8 : k.depth ≤ 8) (m : MxAt w s.heap d xs o es ep)
    (hf : ∀ t, MxFinds prog w A E { s with toks := t } d xs k u) (h : ∀ t, Q (mxGet xs k) { s with toks := t }) : wpAny (model prog w) A (dictGet d u) Q E s := by
  unfold dictGet
  try with_reducible refine wpAny_holding ?_
  refine wpAny_bind (pyHash_key k u A s _ hk (by omega) (wpAny_bind (hf _ _ (fun hno => ?_) fun j p hj => ?_)))
  · have := h (s.toks + k.draws)
    unfold mxGet at this
    rw [mx_find_no hno] at this
    exact wpAny_pure this
  · have := h (s.toks + k.draws)
    unfold mxGet at this
    rw [mx_find_at m.nd hj] at this
    refine wpAny_bind (wpAny_dictEntries (s := { s with toks := s.toks + k.draws }) m.ho m.hd ?_)
    rw [m.at, hj]
    exact wpAny_pure this
theorem mx_mod {α : Type} {f : NK × Value × Value → α} {g : α → α} {v : Value} (hg : ∀ a v0, g (f (k, a, v0)) = f (k, a, v)) : ∀ {xs : List (NK × Value × Value)} {j : Nat} {p : Value × Value}, (xs.map (·.1)).Nodup → xs[j]? = some (k, p) →
    (xs.map f).modify j g = (xs.map fun x => if x.1 = k then (x.1, x.2.1, v) else x).map f
  | [], _, _, _, h => by simp at h
  | x :: xs, 0, p, hn, h => by
    have e : x = (k, p) := by simpa using h
    subst e
    rw [List.map_cons, List.nodup_cons] at hn
    have e2 : (xs.map fun x => if x.1 = k then (x.1, x.2.1, v) else x) = xs := by
      conv => rhs; rw [← List.map_id xs]
      refine List.map_congr_left fun y hy => ?_
      rw [if_neg fun e => hn.1 (by show k ∈ _; rw [← e]; exact List.mem_map.mpr ⟨y, hy, rfl⟩)]
      rfl
    rw [List.map_cons, List.map_cons, e2, if_pos rfl, List.map_cons]
    show g (f (k, p)) :: xs.map f = f (k, p.1, v) :: xs.map f
    rw [← hg p.1 p.2]
  | x :: xs, j + 1, p, hn, h => by
    rw [List.map_cons, List.nodup_cons] at hn
    have h : xs[j]? = some (k, p) := by simpa using h
    have hne : ¬ x.1 = k := fun e => hn.1 (by rw [e]; exact List.mem_map.mpr ⟨_, List.mem_of_getElem? h, rfl⟩)
    rw [List.map_cons, List.map_cons, if_neg hne, List.map_cons]
    show f x :: (xs.map f).modify j g = _
    rw [mx_mod hg hn.2 h]
theorem mx_keys {α β : Type} {k : NK} {v : β} (xs : List (NK × α × β)) : (xs.map fun x => if x.1 = k then (x.1, x.2.1, v) else x).map (·.1) = xs.map (·.1) := by
  rw [List.map_map]
  refine List.map_congr_left fun x _ => ?_
  show (if x.1 = k then (x.1, x.2.1, v) else x).1 = x.1
  split <;> rfl
theorem mx_any {xs : List (NK × Value × Value)} {j : Nat} {p : Value × Value} (h : xs[j]? = some (k, p)) : (xs.any fun x => decide (x.1 = k)) = true :=
  List.any_eq_true.mpr ⟨_, List.mem_of_getElem? h, by simp⟩
theorem mx_none {xs : List (NK × Value × Value)} (h : ∀ (j : Nat) p, xs[j]? ≠ some (k, p)) : (xs.any fun x => decide (x.1 = k)) = false := by
  cases e : xs.any fun x => decide (x.1 = k) with
  | false => rfl
  | true =>
    obtain ⟨x, hx, hk⟩ := List.any_eq_true.mp e
    obtain ⟨j, hj⟩ := List.getElem?_of_mem hx
    have hk : x.1 = k := by simpa using hk
    exact absurd (by rw [hj, ← hk]) (h j x.2)
theorem mx_dictSet {v : Value} {Q : Unit → Shared → Prop} (hu : A.units + 8 < cLine) (hk : NestedIs s.heap k u) (hk8 : k.depth ≤ 8) (m : MxAt w s.heap d xs o es ep) (hz : xs.length ≤ 1000000)
    (hf : ∀ t, MxFinds prog w A E { s with toks := t } d xs k u) (hQ : ∀ h' t o' es' ep', MxAt w h' d (mxPut xs k u v) o' es' ep' → Heap.SameBut d s.heap h' → Q () { s with heap := h', toks := t }) :
    wpAny (model prog w) A (dictSet d u v) Q E s := by
  unfold dictSet
  try with_reducible refine wpAny_holding ?_
  refine wpAny_bind (pyHash_key k u A s _ hk (by omega) ?_)
  unfold dictSetHashed
  try with_reducible refine wpAny_holding ?_
  refine wpAny_bind (hf _ _ (fun hno => ?_) fun j p hj => ?_)
  · refine wpAny_bind (wpAny_rule (wpAny_updateDictKeys (hz := by rw [m.size, sizeLine_eq]; omega) (s := { s with toks := s.toks + k.draws }) m.ho m.hd (hQ _ _ _ _ (ep + 1) ⟨Heap.get?_update_self _ m.ho (Obj.isFreed_of_dict (Obj.data_mapDictKeys m.hd _)), m.ex.mapDictKeys _, Obj.data_mapDictKeys m.hd _, ?_, ?_⟩ (Heap.SameBut.update ..))))
    · unfold mxPut
      rw [mx_none hno]
      simp [m.he, mxEnt]
    · unfold mxPut
      rw [mx_none hno]
      simp only [Bool.false_eq_true, if_false, List.map_append, List.map_cons, List.map_nil]
      rw [List.nodup_append]
      refine ⟨m.nd, by simp, fun x hx y hy e => ?_⟩
      have : y = k := by simpa using hy
      subst this; subst e
      obtain ⟨z, hz, rfl⟩ := List.mem_map.mp hx
      obtain ⟨j, hj⟩ := List.getElem?_of_mem hz
      exact hno j z.2 hj
  · refine wpAny_bind (wpAny_rule (wpAny_bind (wpAny_updateDict (s := { s with toks := s.toks + k.draws }) m.ho m.hd (wpAny_point (hQ _ _ _ _ ep ⟨Heap.get?_update_self _ m.ho (Obj.isFreed_of_dict (Obj.data_mapDict m.hd _)), m.ex.mapDict _, Obj.data_mapDict m.hd _, ?_, ?_⟩ (Heap.SameBut.update ..))))))
    · unfold mxPut
      rw [mx_any hj, if_pos rfl]
      have := mx_mod (f := mxEnt w) (g := fun e : DictEntry => { e with val := v }) (v := v) (fun _ _ => rfl) m.nd hj
      rw [← m.he] at this
      obtain ⟨l⟩ := es
      simpa using this
    · unfold mxPut
      rw [mx_any hj, if_pos rfl, mx_keys]
      exact m.nd
end
end L2
set_option Elab.async false
set_option linter.all false
set_option maxRecDepth 100000
set_option maxHeartbeats 2000000
namespace L2
open PySem PySem.Spec PyProof.Rows
def MxH (w : World) (h : Heap) (a : Addr) (L : List (NK × V × V)) : Prop := L.length ≤ 1000000 ∧ (a == sysModules) = false ∧ ∃ xs : List (NK × Value × Value), Paired (fun (p : NK × V × V) (q : NK × Value × Value) => p.1 = q.1 ∧ RelV p.2.1 q.2.1 ∧ RelV p.2.2 q.2.2) L xs ∧ ∃ o es ep, MxAt w h a xs o es ep
def MxO (w : World) (a : Addr) (L : List (NK × V × V)) : HO := .ext fun h => MxH w h a L
def KeyV (H : Hp) (k : NK) (v : V) : Prop := (∃ x, k = .text x ∧ v = .str x) ∨ (k = .none ∧ v = .non) ∨ ∃ x i p, k = .tup [.text x, .num i] ∧ v = .ref p ∧ H p = some (.tup [.str x, .int i])
theorem key_is {P : Program} {w : World} {H : Hp} {h : Heap} {k : NK} {v : V} {u : Value} (ok : HOk P w H h) (kv : KeyV H k v) (r : RelV v u) : NestedIs h k u ∧ k.depth ≤ 8 := by
  rcases kv with ⟨x, rfl, rfl⟩ | ⟨rfl, rfl⟩ | ⟨x, i, p, rfl, rfl, e⟩
  · obtain ⟨t, rfl⟩ := (show ∃ t, u = Value.str x t from r)
    exact ⟨.text x t, Nat.zero_le _⟩
  · obtain rfl : u = Value.none := r
    exact ⟨.none, Nat.zero_le _⟩
  · obtain rfl : u = Value.ref p := r
    obtain ⟨_, its, rel, o, h1, h2, n, h3⟩ := (show ObjOk P w H h p (.tup [.str x, .int i]) from ok p _ e)
    refine ⟨.tup h1 h2 h3 ?_, by show max 0 (max 0 0) + 1 ≤ 8; decide⟩
    cases rel with
    | cons r1 rel =>
      cases rel with
      | cons r2 rel =>
        cases rel
        obtain ⟨t1, rfl⟩ := (show ∃ t, _ = Value.str x t from r1)
        obtain ⟨t2, rfl⟩ := (show ∃ t, _ = Value.int i t from r2)
        simp only [Array.toList]
        exact .cons (.text x t1) (.cons (.int i t2) .nil)
def KeysV (H : Hp) (L : List (NK × V × V)) : Prop := ∀ x ∈ L, KeyV H x.1 x.2.1
abbrev MxR : List (NK × V × V) → List (NK × Value × Value) → Prop := Paired fun p q => p.1 = q.1 ∧ RelV p.2.1 q.2.1 ∧ RelV p.2.2 q.2.2
theorem mx_keysK {P : Program} {w : World} {H : Hp} {h : Heap} (ok : HOk P w H h) {L : List (NK × V × V)} {xs : List (NK × Value × Value)} (r : MxR L xs) : KeysV H L → MxK h xs := by
  induction r with
  | nil => intro _ x hx; cases hx
  | @cons p q ps qs h1 t ih =>
    intro hk x hx
    rcases List.mem_cons.mp hx with rfl | hx
    · rw [← h1.1]
      exact key_is ok (hk p List.mem_cons_self) h1.2.1
    · exact ih (fun y hy => hk y (List.mem_cons_of_mem _ hy)) x hx
def mxV (L : List (NK × V × V)) (k : NK) : Option V := (L.find? fun x => decide (x.1 = k)).map (·.2.2)
theorem mxR_get {L : List (NK × V × V)} {xs : List (NK × Value × Value)} (r : MxR L xs) (k : NK) : RelO (mxV L k) (mxGet xs k) := by
  unfold MxR at r
  induction r with
  | nil => exact True.intro
  | @cons p q ps qs h1 t ih =>
    unfold mxV mxGet
    rw [List.find?_cons, List.find?_cons, h1.1]
    by_cases e : q.1 = k
    · rw [decide_eq_true e]; exact h1.2.2
    · rw [decide_eq_false e]; exact ih
theorem mxR_len {L : List (NK × V × V)} {xs : List (NK × Value × Value)} (r : MxR L xs) : L.length = xs.length := by
  unfold MxR at r
  induction r with
  | nil => rfl
  | cons _ _ ih => rw [List.length_cons, List.length_cons, ih]
theorem mxR_any {L : List (NK × V × V)} {xs : List (NK × Value × Value)} (r : MxR L xs) (k : NK) : (L.any fun x => decide (x.1 = k)) = xs.any fun x => decide (x.1 = k) := by
  unfold MxR at r
  induction r with
  | nil => rfl
  | cons h1 _ ih => rw [List.any_cons, List.any_cons, ih, h1.1]
theorem mxR_map {L : List (NK × V × V)} {xs : List (NK × Value × Value)} (r : MxR L xs) (k : NK) {v : V} {v' : Value} (rv : RelV v v') : MxR (L.map fun x => if x.1 = k then (x.1, x.2.1, v) else x) (xs.map fun x => if x.1 = k then (x.1, x.2.1, v') else x) := by
  unfold MxR at r ⊢
  induction r with
  | nil => exact .nil
  | @cons p q ps qs h1 _ ih =>
    rw [List.map_cons, List.map_cons]
    refine .cons ?_ ih
    by_cases e : p.1 = k
    · rw [if_pos e, if_pos (h1.1.symm.trans e)]; exact ⟨h1.1, h1.2.1, rv⟩
    · rw [if_neg e, if_neg fun z => e (h1.1.trans z)]; exact h1
theorem mxR_app {L : List (NK × V × V)} {xs : List (NK × Value × Value)} (r : MxR L xs) {p : NK × V × V} {q : NK × Value × Value} (h : p.1 = q.1 ∧ RelV p.2.1 q.2.1 ∧ RelV p.2.2 q.2.2) : MxR (L ++ [p]) (xs ++ [q]) := by
  unfold MxR at r ⊢
  induction r with
  | nil => exact .cons h .nil
  | cons h1 _ ih => exact .cons h1 ih
theorem mxR_put {L : List (NK × V × V)} {xs : List (NK × Value × Value)} (r : MxR L xs) {k : NK} {y v : V} {u v' : Value} (ru : RelV y u) (rv : RelV v v') : MxR (mxPut L k y v) (mxPut xs k u v') := by
  unfold mxPut
  rw [mxR_any r k]
  split
  · exact mxR_map r k rv
  · exact mxR_app r ⟨rfl, ru, rv⟩
theorem mxPut_len {α β : Type} (L : List (NK × α × β)) (k : NK) (y : α) (v : β) : (mxPut L k y v).length ≤ L.length + 1 := by
  unfold mxPut
  split
  · rw [List.length_map]; omega
  · rw [List.length_append]; exact Nat.le_refl _
theorem mxPut_key {α β : Type} {L : List (NK × α × β)} {k : NK} {y : α} {v : β} {x : NK × α × β} (h : x ∈ mxPut L k y v) : (x.1 = k ∧ x.2.1 = y) ∨ ∃ z ∈ L, z.1 = x.1 ∧ z.2.1 = x.2.1 := by
  unfold mxPut at h
  split at h
  · obtain ⟨z, hz, rfl⟩ := List.mem_map.mp h
    refine .inr ⟨z, hz, ?_⟩
    split <;> exact ⟨rfl, rfl⟩
  · rcases List.mem_append.mp h with h | h
    · exact .inr ⟨x, h, rfl, rfl⟩
    · have : x = (k, y, v) := by simpa using h
      subst this; exact .inl ⟨rfl, rfl⟩
theorem KeysV.put {H : Hp} {L : List (NK × V × V)} {k : NK} {y v : V} (h : KeysV H L) (ky : KeyV H k y) : KeysV H (mxPut L k y v) := fun x hx => by
  rcases mxPut_key hx with ⟨e1, e2⟩ | ⟨z, hz, e1, e2⟩
  · rw [e1, e2]; exact ky
  · rw [← e1, ← e2]; exact h z hz
theorem KeysV.mono {H H' : Hp} {L : List (NK × V × V)} (h : KeysV H L) (k : ∀ p x, H p = some (.tup x) → H' p = some (.tup x)) : KeysV H' L := fun x hx => by
  rcases h x hx with h | h | ⟨a, i, p, h1, h2, h3⟩
  · exact .inl h
  · exact .inr (.inl h)
  · exact .inr (.inr ⟨a, i, p, h1, h2, k _ _ h3⟩)
section
variable {X : Cx} {pins : List (Addr × Obj)} {σ : St} {H : Hp} {s : Shared} {a b : Addr} {L : List (NK × V × V)} {k : NK} {y z v : V} {u r : Value} {A : Around} {E : Value → Shared → Prop}
theorem mx_ok {P : Program} {w : World} {H' : Hp} {h' : Heap} {L : List (NK × V × V)} (m : MxH w h' a L) : ObjOk P w H' h' a (MxO w a L) := by
  obtain ⟨z, hd, xs, rel, o, es, ep, ma⟩ := m
  refine ⟨⟨z, hd, xs, rel, o, es, ep, ma⟩, ⟨o, ma.ho⟩, fun h1 h2 ⟨z1, hd1, xs1, rel1, o1, es1, ep1, m1⟩ k => ⟨z1, hd1, xs1, rel1, o1, es1, ep1, k _ m1.ho, m1.ex, m1.hd, m1.he, m1.nd⟩⟩
theorem mx_of (I : Inv X pins σ H s) (e : H a = some (MxO X.w a L)) : MxH X.w s.heap a L := (I.hok a _ e).1
theorem mx_type (I : Inv X pins σ H s) (e : H a = some (MxO X.w a L)) : s.TypeIs (.ref a) "dict" ∧ ∀ b, Value.ref a = .ref b → ∃ ob, s.heap.get? b = some ob ∧ ob.dict = none := by
  obtain ⟨_, _, xs, _, o, es, ep, m⟩ := mx_of I e
  refine ⟨⟨o, m.ho, m.ex.1⟩, fun b q => ?_⟩
  cases q
  exact ⟨o, m.ho, m.ex.2.1⟩
/-- d.get(y, x), y a pair -/
theorem mx_get2 {Q : Value → Shared → Prop} (hu : A.units + 9 < cLine) (I : Inv X pins σ H s) (e : H a = some (MxO X.w a L)) (kl : KeysV H L) (ky : KeyV H k (.ref b)) (rd : RelV z r) (h : ∀ w' s', Inv X pins σ H s' → RelV ((mxV L k).getD z) w' → Q w' s') :
    wpAny (model X.prog X.w) A (call (.builtin "dict.get") [.ref a, .ref b, r]) Q E s := by
  obtain ⟨zl, hd, xs, rel, o, es, ep, m⟩ := mx_of I e
  obtain ⟨kk, k8⟩ := key_is I.hok ky (show RelV (.ref b) (.ref b) from rfl)
  have mk := mx_keysK I.hok rel kl
  have hu1 : A.in1.units + 8 < cLine := by show A.units + 1 + 8 < cLine; omega
  refine call_meetsIn PySem.F.slot_dict_get (mx_type I e).1 PySem.F.entry_dict_get (PySem.F.args_dict_get_3 _ _ _) (S := fun A' R s' => A' = A ∧ s' = s ∧ ∀ t, R (.ok (.ret ((mxGet xs k).getD r))) { s with toks := t }) (.of_wp fun A' R s' hS => ?_) ⟨rfl, rfl, fun t => h _ _ (I.tok t) ?_⟩
  · obtain ⟨rfl, rfl, hq⟩ := hS
    show wpAny _ _ (dictGet a (.ref b) >>= _) _ _ _
    refine wpAny_bind (mx_dictGet hu1 kk k8 m (fun t => mx_find (s := { s' with toks := t }) hu1 kk k8 m mk) fun t => ?_)
    cases hf : mxGet xs k with
    | some x =>
      rw [hf] at hq
      exact wpAny_pure ⟨x, rfl, hq t⟩
    | none =>
      rw [hf] at hq
      show wpAny _ _ (Builtin.Dict.missed a (.ref b) >>= _) _ _ _
      exact wpAny_bind (wpAny_missed_other hd (wpAny_pure ⟨r, rfl, hq t⟩))
  · exact (mxR_get rel k).getD rd
/-- d[y] = v, y a pair -/
theorem mx_setItem {Q : Unit → Shared → Prop} (hu : A.units + 9 < cLine) (I : Inv X pins σ H s) (e : H a = some (MxO X.w a L)) (kl : KeysV H L) (ky : KeyV H k (.ref b)) (rv : RelV v r) (hl : L.length < 1000000) (h : ∀ s', Inv X pins σ (upd H a (MxO X.w a (mxPut L k (.ref b) v))) s' → Q () s') :
    wpAny (model X.prog X.w) A (setItem (.ref a) (.ref b) r) Q E s := by
  obtain ⟨zl, hd, xs, rel, o, es, ep, m⟩ := mx_of I e
  obtain ⟨kk, k8⟩ := key_is I.hok ky (show RelV (.ref b) (.ref b) from rfl)
  have mk := mx_keysK I.hok rel kl
  have hT := (mx_type I e).1
  have hu1 : A.in1.units + 8 < cLine := by show A.units + 1 + 8 < cLine; omega
  have hz : xs.length ≤ 1000000 := by rw [← mxR_len rel]; exact zl
  unfold setItem
  try with_reducible refine wpAny_holding ?_
  refine wpAny_bind (wpAny_sequenceKey hT (by decide) ?_)
  refine wpAny_bind (wpAny_callSpecial?_slot (name := Str.ofString "__setitem__") hT slot_dict_setitem (wpAny_call_entry slot_dict_setitem hT entry_dict_setitem ?_ (args_dict_setitem _ _ _)))
  show wpAny _ _ (Builtin.Dict.notOrdered "__setitem__" ⟨[.ref a, .ref b, r], []⟩ >>= _) _ _ s
  refine wpAny_bind (wpAny_notOrdered_dict hT ?_)
  show wpAny _ _ (dictSet a (.ref b) r >>= _) _ _ s
  refine wpAny_bind (mx_dictSet hu1 kk k8 m hz (fun t => mx_find (s := { s with toks := t }) hu1 kk k8 m mk) fun h' t o' es' ep' m' hs => wpAny_pure ⟨.none, rfl, wpAny_pure (h _ ?_)⟩)
  refine d_write I (by rw [e]; exact True.intro) hs ⟨o', m'.ho⟩ (mx_ok ⟨?_, hd, _, mxR_put rel (show RelV (.ref b) (.ref b) from rfl) rv, o', es', ep', m'⟩)
  have := mxPut_len L k (V.ref b) v
  omega
/-- len(d) -/
theorem mx_len {Q : Value → Shared → Prop} (I : Inv X pins σ H s) (e : H a = some (MxO X.w a L)) (h : ∀ t s', Inv X pins σ H s' → Q (.int L.length t) s') : wpAny (model X.prog X.w) A (call (.builtin "len") [.ref a]) Q E s := by
  obtain ⟨zl, hd, xs, rel, o, es, ep, m⟩ := mx_of I e
  have hT := (mx_type I e).1
  have hsz : es.size = L.length := by rw [m.size, mxR_len rel]
  refine Calls.call_function_entry kind_len plain_len entry_len (args_len1 _) ?_
  unfold Builtin.«len»
  refine wpAny_bind (m := oneArg "len" _) (wpAny_pure ?_)
  refine wpAny_bind (m := callSpecial? (.ref a) (Str.ofString "__len__")) (wpAny_callSpecial?_slot (name := Str.ofString "__len__") hT F.slot_dict_len (call_meetsIn F.slot_dict_len hT F.entry_dict_len (F.args_dict_len_1 _) (meets_dict_len_raw a hd) ⟨es, ep, ⟨o, m.ho, m.ex, m.hd⟩, ?_⟩))
  rw [hsz]
  show wpAny _ _ _ _ _ { s with toks := s.toks + 1 }
  refine wpAny_bind (wpAny_holding (wpAny_pure ?_))
  refine wpAny_bind (wpAny_letGo ?_)
  show wpAny _ _ (if ((L.length : Nat) : Int) < 0 then _ else _) _ _ _
  rw [if_neg (by omega)]
  show wpAny _ _ (if ((L.length : Nat) : Int) ≥ 2 ^ 63 then _ else _) _ _ _
  rw [if_neg (by omega)]
  exact wpAny_bind (wpAny_mkInt (wpAny_pure ⟨_, rfl, h _ _ (I.tok _)⟩))
end
end L2
set_option Elab.async false
set_option linter.all false
set_option maxRecDepth 100000
set_option maxHeartbeats 2000000
namespace L2
open PySem PySem.Spec PyProof.Rows
def mxAll {α β : Type} : List (NK × α × β) → List (NK × α × β) → List (NK × α × β)
  | L, [] => L
  | L, p :: ps => mxAll (mxPut L p.1 p.2.1 p.2.2) ps
/-- the keys of a display: a text first, None once -/
def GoodO : List (NK × V × V) → List (NK × V × V) → Prop
  | _, [] => True
  | L, p :: ps => ((∃ b, p.2.1 = V.ref b) ∨ (p.1 = .none ∧ ∀ x ∈ L, x.1 ≠ .none) ∨ ((∃ x, p.1 = .text x) ∧ L = [])) ∧ GoodO (mxPut L p.1 p.2.1 p.2.2) ps
section
variable {X : Cx} {pins : List (Addr × Obj)} {σ : St} {s : Shared} {a b : Addr} {A : Around} {E : Value → Shared → Prop}
theorem mx_put1 {H : Hp} {L : List (NK × V × V)} {k : NK} {y v : V} {u r : Value} {Q : Unit → Shared → Prop} (hu : A.units + 8 < cLine) (I : Inv X pins σ H s) (e : H a = some (MxO X.w a L)) (kl : KeysV H L) (ky : KeyV H k y)
    (g : (∃ b, y = V.ref b) ∨ (k = .none ∧ ∀ x ∈ L, x.1 ≠ .none) ∨ ((∃ x, k = .text x) ∧ L = [])) (ru : RelV y u) (rv : RelV v r) (hl : L.length < 1000000) (h : ∀ s', Inv X pins σ (upd H a (MxO X.w a (mxPut L k y v))) s' → Q () s') :
    wpAny (model X.prog X.w) A (dictSet a u r) Q E s := by
  obtain ⟨zl, hd, xs, rel, o, es, ep, m⟩ := mx_of I e
  obtain ⟨kk, k8⟩ := key_is I.hok ky ru
  have mk := mx_keysK I.hok rel kl
  have hz : xs.length ≤ 1000000 := by rw [← mxR_len rel]; exact zl
  have hf : ∀ t, MxFinds X.prog X.w A E { s with toks := t } a xs k u := fun t => by
    rcases g with ⟨b, rfl⟩ | ⟨rfl, hno⟩ | ⟨⟨x, rfl⟩, rfl⟩
    · obtain rfl : u = Value.ref b := ru
      exact mx_find (s := { s with toks := t }) hu kk k8 m mk
    · cases kk
      refine mx_find_none (s := { s with toks := t }) hu m mk fun j p hj => ?_
      have : ∀ {L : List (NK × V × V)} {xs : List (NK × Value × Value)}, MxR L xs → (∀ x ∈ L, x.1 ≠ .none) → ∀ x ∈ xs, x.1 ≠ .none := fun {L xs} r => by
        unfold MxR at r
        induction r with
        | nil => intro _ x hx; cases hx
        | @cons p q ps qs h1 _ ih =>
          intro hn x hx
          rcases List.mem_cons.mp hx with rfl | hx
          · rw [← h1.1]; exact hn p List.mem_cons_self
          · exact ih (fun y hy => hn y (List.mem_cons_of_mem _ hy)) x hx
      exact this rel hno _ (List.mem_of_getElem? hj) rfl
    · cases kk with
      | text x t' =>
        cases rel
        exact mx_find_str (s := { s with toks := t }) m
  refine mx_dictSet hu kk k8 m hz hf fun h' t o' es' ep' m' hs => h _ ?_
  refine d_write I (by rw [e]; exact True.intro) hs ⟨o', m'.ho⟩ (mx_ok ⟨?_, hd, _, mxR_put rel ru rv, o', es', ep', m'⟩)
  have := mxPut_len L k y v
  omega
theorem mx_storeAll : ∀ (ps : List (NK × V × V)) (vs : List (Value × Value)) (L : List (NK × V × V)) (H : Hp) (s : Shared) (Q : PUnit → Shared → Prop), A.units + 8 < cLine → Inv X pins σ H s → H a = some (MxO X.w a L) → KeysV H L → KeysV H ps → VV (ps.map (·.2)) vs → GoodO L ps →
    L.length + ps.length ≤ 1000000 → (∀ s', Inv X pins σ (upd H a (MxO X.w a (mxAll L ps))) s' → Q PUnit.unit s') → wpAny (model X.prog X.w) A (storeAll a vs) Q E s
  | [], _, L, H, s, Q, _, I, e, _, _, r, _, _, hQ => by
    cases r
    unfold storeAll
    rw [List.forIn_nil]
    refine wpAny_pure (hQ _ ?_)
    have : upd H a (MxO X.w a (mxAll L [])) = H := by
      funext c
      by_cases hc : c = a
      · subst hc; rw [upd_same, e]; rfl
      · rw [upd_ne hc]
    rw [this]; exact I
  | p :: ps, _, L, H, s, Q, hu, I, e, kl, kp, r, g, hl, hQ => by
    rw [List.map_cons] at r
    rw [List.length_cons] at hl
    cases r with
    | @cons _ q _ vs h t =>
      unfold storeAll
      rw [List.forIn_cons]
      refine wpAny_bind (wpAny_bind (mx_put1 hu I e kl (kp p List.mem_cons_self) g.1 h.1 h.2 (by omega) fun s1 I1 => wpAny_pure ?_))
      have hne : ∀ c x, H c = some (.tup x) → upd H a (MxO X.w a (mxPut L p.1 p.2.1 p.2.2)) c = some (.tup x) := fun c x hc => by rw [upd_ne (ne_of hc e (fun z => nomatch z))]; exact hc
      have hl2 := mxPut_len L p.1 p.2.1 p.2.2
      refine mx_storeAll ps vs (mxPut L p.1 p.2.1 p.2.2) _ s1 Q hu I1 upd_same ((kl.put (kp p List.mem_cons_self)).mono hne) (fun y hy => ?_) t g.2 (by omega) fun s2 I2 => hQ s2 ?_
      · exact (KeysV.mono kp hne) y (List.mem_cons_of_mem _ hy)
      · rw [upd_upd] at I2; exact I2
end
theorem mx_empty {P : Program} {w : World} {H : Hp} (h : Heap) (hb : sysModules < h.objs.size) : ObjOk P w H (h.push { cls := .type "dict", data := .dict #[] }) h.objs.size (MxO w h.objs.size []) :=
  mx_ok ⟨Nat.zero_le _, beq_eq_false_iff_ne.mpr (Ne.symm (Nat.ne_of_lt hb)), [], .nil, _, #[], 0, Heap.get?_push_size _ rfl, ⟨rfl, rfl, rfl⟩, rfl, rfl, List.nodup_nil⟩
def tMDisp (w : World) (trs : List (TE × TE)) : TE := fun σ H Q => ∀ p, H p = none → tPairs trs σ (upd H p (MxO w p [])) fun ps H2 => H2 p = some (MxO w p []) ∧ ∃ L : List (NK × V × V), ps = L.map (·.2) ∧ KeysV H2 L ∧ GoodO [] L ∧ L.length ≤ 15 ∧ Q (.ref p) (upd H2 p (MxO w p (mxAll [] L)))
def tMGet2 (w : World) (td ty tx : TE) : TE := fun σ H Q => td σ H fun x H1 => ∃ a L, x = .ref a ∧ H1 a = some (MxO w a L) ∧ ty σ H1 fun y H2 => tx σ H2 fun z H3 => ∃ L k b, H3 a = some (MxO w a L) ∧ KeysV H3 L ∧ y = .ref b ∧ KeyV H3 k y ∧ Q ((mxV L k).getD z) H3
def tDGetX (w : World) (td ty tx : TE) : TE := fun σ H Q => tDGet2 td ty tx σ H Q ∨ tMGet2 w td ty tx σ H Q
def tMPut (w : World) (td ty tv : TE) : TS := fun D σ H => tv σ H fun v H1 => td σ H1 fun x H2 => ty σ H2 fun y H3 => ∃ a L k b, x = .ref a ∧ H3 a = some (MxO w a L) ∧ KeysV H3 L ∧ y = .ref b ∧ KeyV H3 k y ∧ L.length < 1000000 ∧ D.nx σ (upd H3 a (MxO w a (mxPut L k y v)))
def rLenM (K : PySem.W.Frag) (w : World) : List V → Hp → VK → Prop := fun xs H Q => T3.rLEND K xs H Q ∨ ∃ a L, xs = [V.ref a] ∧ H a = some (MxO w a L) ∧ Q (.int L.length) H
section
variable {X : Cx} {o e f i value : Expr} {apos cpos pos pos' : Pos} {td ty tx tv : TE} {w : World}
theorem pe_mdisp {keys : List (Option Expr)} {values : List Expr} {trs : List (TE × TE)} (hw : X.w = w) (hu : X.A.units + 8 < cLine) (h : PPs X pos keys values trs) (hall : keys.all (·.isSome) = true) (hl : keys.length = values.length) (h0 : keys ≠ [])
    (h15 : keys.length ≤ 15) : PE X (.Dict keys values pos) (tMDisp w trs) := by
  subst hw
  refine ⟨fun pins s σ H Q I q => ?_⟩
  have hn := I.hok.fresh (Nat.le_refl s.heap.objs.size)
  have I1 := I.laid (a := s.heap.objs.size) (o := MxO X.w s.heap.objs.size []) (h' := s.heap.push { cls := .type "dict", data := .dict #[] }) (t' := s.toks) (fun _ _ q => Heap.get?_push_of_some _ q) (Nat.le_refl _) (mx_empty s.heap I.big)
  refine wpAny_Dict_any hall hl h0 h15 (thn (h.run pins _ σ _ _ I1 (q _ hn)) fun ws s2 ⟨ps, H2, I2, rel, e, L, ep, kl, g, l15, q2⟩ => ?_)
  subst ep
  exact mx_storeAll L ws [] H2 s2 _ hu I2 e (fun x hx => nomatch hx) kl rel g (by simp; omega) fun s3 I3 => ⟨.ref s.heap.objs.size, _, I3, rfl, q2⟩
theorem pe_mget2 (hw : X.w = w) (hu : X.A.units + 9 < cLine) (ho : PE X o td) (he : PE X e ty) (hf : PE X f tx) (m : M2 X o "get" apos e f cpos) : PE X (.Call (.Attribute o "get" apos) [e, f] [] cpos) (tMGet2 w td ty tx) := by
  subst hw
  refine ⟨fun pins s σ H Q I h => ?_⟩
  refine wpAny_Call_method m.base m.few m.line PySem.F.plainAttrs_dict PySem.F.slot_dict_get PySem.F.type_dict_get (thn (ho.run pins s σ H _ I h) fun u s1 ⟨x, H1, I1, rx, a, L, ex, d, q1⟩ => ?_)
  subst ex
  obtain rfl : u = Value.ref a := rx
  obtain ⟨t1, t2⟩ := mx_type I1 d
  refine ⟨t1, t2, ?_⟩
  rw [m.trees]
  refine Calls.callWith_builtin rfl (Calls.evalArgs_plain (Calls.spliced_cons (thn (he.run pins s1 σ H1 _ I1 q1) fun iv s2 ⟨y, H2, I2, ry, q2⟩ =>
    Calls.spliced_cons (thn (hf.run pins s2 σ H2 _ I2 q2) fun fv s3 ⟨z, H3, I3, rz, L, k, b, e3, kl, ey, ky, q3⟩ => Calls.spliced_nil ?_))))
  subst ey
  obtain rfl : iv = Value.ref b := ry
  exact mx_get2 hu I3 e3 kl ky rz fun w' s4 I4 rw' => ⟨_, H3, I4, rw', q3⟩
theorem pe_dgetX (hw : X.w = w) (hu : X.A.units + 9 < cLine) (ho : PE X o td) (he : PE X e ty) (hf : PE X f tx) (m : M2 X o "get" apos e f cpos) : PE X (.Call (.Attribute o "get" apos) [e, f] [] cpos) (tDGetX w td ty tx) :=
  ⟨fun pins s σ H Q I h => h.elim (fun h => (pe_dget2 (by omega) ho he hf m).run pins s σ H Q I h) fun h => (pe_mget2 hw hu ho he hf m).run pins s σ H Q I h⟩
theorem ps_mput (hw : X.w = w) (hu : X.A.units + 9 < cLine) (ho : PE X o td) (hi : PE X i ty) (hv : PE X value tv) (hs : swapsWith value (some (.Subscript o i pos')) pos.line X.env = pure false) :
    PS X (.Assign [.Subscript o i pos'] value pos) (tMPut w td ty tv) := by
  subst hw
  refine ⟨fun pins s σ H D I h => ?_⟩
  refine wpAny_Assign_Subscript (thn (hv.run pins s σ H _ I h) fun r s1 ⟨v, H1, I1, rv, q1⟩ => thn (ho.run pins s1 σ H1 _ I1 q1) fun u s2 ⟨x, H2, I2, rx, q2⟩ => thn (hi.run pins s2 σ H2 _ I2 q2) fun iv s3 ⟨y, H3, I3, ry, a, L, k, b, ex, e3, kl, ey, ky, hl, q3⟩ => ?_) hs
  subst ex ey
  obtain rfl : u = Value.ref a := rx
  obtain rfl : iv = Value.ref b := ry
  exact mx_setItem hu I3 e3 kl ky rv hl fun s4 I4 => ⟨σ, _, I4, q3⟩
theorem call_lenMK (K : PySem.W.Frag) (w : World) (h : X.K = K) (hw : X.w = w) : CallR X (.builtin "len") (rLenM K w) := by
  subst h; subst hw
  intro pins s σ H xs us Q I r h
  rcases h with h | ⟨a, L, ex, e, q⟩
  · exact T3.call_lenDK X.K rfl pins s σ H xs us Q I r h
  · subst ex
    cases r with
    | cons r1 r2 =>
      cases r2
      cases (show _ = Value.ref a from r1)
      exact mx_len I e fun t s' I' => ⟨.int L.length, H, I', ⟨t, rfl⟩, q⟩
end
end L2
namespace T3
open PySem L2
open Evl (Ex)
/-! ### .. in the pure layer -/
def KeyD (k : NK) (d : D) : Prop := (∃ x, k = .text x ∧ d = .str x) ∨ (k = .none ∧ d = .non) ∨ ∃ x i, k = .tup [.text x, .num i] ∧ d = .tup [.str x, .int i]
theorem KeyD.at {k : NK} {d : D} {F : Hp} {v : V} (h : KeyD k d) (r : RD F d v) : KeyV F k v := by
  rcases h with ⟨x, rfl, rfl⟩ | ⟨rfl, rfl⟩ | ⟨x, i, rfl, rfl⟩
  · exact .inl ⟨x, rfl, r⟩
  · exact .inr (.inl ⟨rfl, r⟩)
  · obtain ⟨p, vs, rfl, hp, v1, r1, rfl, h1, v2, r2, rfl, h2, rfl⟩ := r
    obtain rfl : v1 = .str x := h1
    obtain rfl : v2 = .int i := h2
    exact .inr (.inr ⟨x, i, p, rfl, rfl, hp⟩)
abbrev MxP (F : Hp) : List (NK × D) → List (NK × V × V) → Prop := Paired fun p q => p.1 = q.1 ∧ RD F p.2 q.2.2
theorem MxP.mono {F F' : Hp} (e : Ex F F') {l : List (NK × D)} {m : List (NK × V × V)} (h : MxP F l m) : MxP F' l m := Paired.mapP h fun _ _ q => ⟨q.1, q.2.mono e⟩
def mxD (w : World) (a : Addr) (xs : List (NK × D)) : DO := .gen ⟨fun F ho => ∃ L, ho = MxO w a L ∧ KeysV F L ∧ MxP F xs L, fun F F' ho e ⟨L, h1, h2, h3⟩ => ⟨L, h1, h2.mono fun p x hp => e p _ hp, h3.mono e⟩, fun F xs ⟨L, h, _⟩ => by unfold MxO at h; cases h⟩
theorem mxP_val {F : Hp} {k : NK} {xs : List (NK × D)} {L : List (NK × V × V)} (h : MxP F xs L) : OptR F (valD xs k) (mxV L k) := by
  unfold MxP at h
  induction h with
  | nil => exact True.intro
  | @cons p q ps qs h1 _ ih =>
    unfold valD mxV
    rw [List.find?_cons, List.find?_cons, h1.1]
    by_cases e : q.1 = k
    · rw [decide_eq_true e]; exact h1.2
    · rw [decide_eq_false e]; exact ih
theorem mxP_len {F : Hp} {xs : List (NK × D)} {L : List (NK × V × V)} (h : MxP F xs L) : xs.length = L.length := by
  unfold MxP at h
  induction h with
  | nil => rfl
  | cons _ _ ih => rw [List.length_cons, List.length_cons, ih]
theorem mxP_any {F : Hp} {k : NK} {xs : List (NK × D)} {L : List (NK × V × V)} (h : MxP F xs L) : (xs.any fun x => decide (x.1 = k)) = L.any fun x => decide (x.1 = k) := by
  unfold MxP at h
  induction h with
  | nil => rfl
  | cons h1 _ ih => rw [List.any_cons, List.any_cons, ih, h1.1]
theorem mxP_put {F : Hp} {k : NK} {xs : List (NK × D)} {L : List (NK × V × V)} (h : MxP F xs L) {d : D} {y v : V} (r : RD F d v) : MxP F (putKD xs k d) (mxPut L k y v) := by
  unfold putKD mxPut
  rw [mxP_any h]
  split
  · rename_i hc
    clear hc
    unfold MxP at h ⊢
    induction h with
    | nil => exact .nil
    | @cons p q ps qs h1 _ ih =>
      rw [List.map_cons, List.map_cons]
      refine .cons ?_ ih
      by_cases e : p.1 = k
      · rw [if_pos e, if_pos (h1.1.symm.trans e)]; exact ⟨h1.1, r⟩
      · rw [if_neg e, if_neg fun z => e (h1.1.trans z)]; exact h1
  · rename_i hc
    clear hc
    unfold MxP at h ⊢
    induction h with
    | nil => exact .cons ⟨rfl, r⟩ .nil
    | cons h1 _ ih => exact .cons h1 ih
def mxDAll : List (NK × D) → List (NK × D) → List (NK × D)
  | xs, [] => xs
  | xs, p :: ps => mxDAll (putKD xs p.1 p.2) ps
def GoodD : List (NK × D) → List (NK × D × D) → Prop
  | _, [] => True
  | xs, p :: ps => ((∃ ds, p.2.1 = D.tup ds) ∨ (p.1 = .none ∧ ∀ x ∈ xs, x.1 ≠ .none) ∨ ((∃ x, p.1 = .text x) ∧ xs = [])) ∧ GoodD (putKD xs p.1 p.2.2) ps
theorem mxP_nil {F : Hp} {L : List (NK × V × V)} (h : MxP F [] L) : L = [] := by cases h; rfl
theorem mxP_non {F : Hp} {xs : List (NK × D)} {L : List (NK × V × V)} (h : MxP F xs L) : (∀ x ∈ xs, x.1 ≠ .none) → ∀ x ∈ L, x.1 ≠ .none := by
  unfold MxP at h
  induction h with
  | nil => intro _ x hx; cases hx
  | @cons p q ps qs h1 _ ih =>
    intro hn x hx
    rcases List.mem_cons.mp hx with rfl | hx
    · rw [← h1.1]; exact hn p List.mem_cons_self
    · exact ih (fun y hy => hn y (List.mem_cons_of_mem _ hy)) x hx
theorem good_at {F : Hp} : ∀ {ps : List (NK × D × D)} {pv : List (V × V)} {xs : List (NK × D)} {L : List (NK × V × V)}, (∀ p ∈ ps, KeyD p.1 p.2.1) → RPs F (ps.map (·.2)) pv → MxP F xs L → GoodD xs ps →
    ∃ M : List (NK × V × V), pv = M.map (·.2) ∧ KeysV F M ∧ GoodO L M ∧ M.length = ps.length ∧ MxP F (mxDAll xs (ps.map fun p => (p.1, p.2.2))) (mxAll L M)
  | [], pv, xs, L, _, r, hx, _ => by
    cases r
    exact ⟨[], rfl, (fun x hx => nomatch hx), True.intro, rfl, hx⟩
  | p :: ps, pv, xs, L, hk, r, hx, g => by
    rw [List.map_cons] at r
    cases r with
    | @cons _ q _ qv h t =>
      have hp := mxP_put (k := p.1) (y := q.1) hx h.2
      obtain ⟨M, e1, e2, e3, e4, e5⟩ := good_at (fun z hz => hk z (List.mem_cons_of_mem _ hz)) t hp g.2
      refine ⟨(p.1, q.1, q.2) :: M, by rw [e1]; rfl, fun x hx => ?_, ⟨?_, e3⟩, by rw [List.length_cons, List.length_cons, e4], e5⟩
      · rcases List.mem_cons.mp hx with rfl | hx
        · exact (hk p List.mem_cons_self).at h.1
        · exact e2 x hx
      · rcases g.1 with ⟨ds, e⟩ | ⟨e, hn⟩ | ⟨e, hn⟩
        · have h1 := h.1
          rw [e] at h1
          obtain ⟨b, vs, e6, _⟩ := h1
          exact .inl ⟨b, e6⟩
        · exact .inr (.inl ⟨e, mxP_non hx hn⟩)
        · subst hn
          exact .inr (.inr ⟨e, mxP_nil hx⟩)
section
variable {B : Hp} {M : Mem} {K : PySem.W.Frag} {σ : Sig} {te ty tx tv : TE} {Q : DQ} {D3 : Ends3} {w : World}
theorem w_mdisp {trs : List (TE × TE)} (h : ∀ p, M p = none → W3p B trs σ (mput M p (mxD w p [])) (fun ps M2 => M2 p = some (mxD w p []) ∧ ∃ kps : List (NK × D × D), ps = kps.map (·.2) ∧ (∀ p ∈ kps, KeyD p.1 p.2.1) ∧ GoodD [] kps ∧ kps.length ≤ 15 ∧ Q (.ref p) (mput M2 p (mxD w p (mxDAll [] (kps.map fun p => (p.1, p.2.2))))))) :
    W3e B (tMDisp w trs) σ M Q := fun F σv H Qv b hs st k p hp => by
  have s1 := st.newO (p := p) (o := MxO w p []) (d := mxD w p []) hp ⟨[], rfl, (fun x hx => nomatch hx), .nil⟩
  refine w_pairs (h p (st.nn hp).2) F σv _ _ b hs s1 fun F2 M2 ps pv H2 e2 st2 rp ⟨hm, kps, e, hk, g, l15, q⟩ => ?_
  subst e
  obtain ⟨_, ho, h1, L0, eo, kl0, pk0⟩ := st2.own p _ hm
  subst eo
  cases pk0
  obtain ⟨L, e1, e2', e3, e4, e5⟩ := good_at hk rp .nil g
  refine ⟨h1, L, e1, e2'.mono fun c x hc => st2.fz c _ hc, e3, by rw [e4]; exact l15, ?_⟩
  refine k F2 _ (.ref p) _ _ e2 (st2.put (o := MxO w p (mxAll [] L)) (d' := mxD w p (mxDAll [] (kps.map fun p => (p.1, p.2.2)))) hm ⟨_, rfl, ?_, e5⟩) rfl q
  have : ∀ (M L : List (NK × V × V)), KeysV F2 L → KeysV F2 M → KeysV F2 (mxAll L M) := fun M => by
    induction M with
    | nil => exact fun L h _ => h
    | cons p M ih => exact fun L h1 h2 => ih _ (h1.put (h2 p List.mem_cons_self)) fun x hx => h2 x (List.mem_cons_of_mem _ hx)
  exact this L [] (fun x hx => nomatch hx) e2'
theorem w_getX1 (h : W3e B (tDGet2 te ty tx) σ M Q) : W3e B (tDGetX w te ty tx) σ M Q := fun F σv H Qv b hs st k => .inl (h F σv H Qv b hs st k)
theorem w_getX2 (h : W3e B te σ M (fun x M1 => ∃ a xs, x = .ref a ∧ M1 a = some (mxD w a xs) ∧ W3e B ty σ M1 (fun y M2 => W3e B tx σ M2 (fun z M3 => ∃ xs k ds, M3 a = some (mxD w a xs) ∧ y = .tup ds ∧ KeyD k y ∧ Q ((valD xs k).getD z) M3)))) : W3e B (tDGetX w te ty tx) σ M Q := fun F σv H Qv b hs st k => .inr <|
  h F σv H _ b hs st fun F1 M1 x xv H1 e1 st1 rx ⟨a, xs, ex, hm, q1⟩ => by
    subst ex
    obtain ⟨_, ho, h1, L, e, _⟩ := st1.own a _ hm
    subst e
    refine ⟨a, L, rx, h1, q1 F1 σv H1 _ (b.trans e1) (hs.mono e1) st1 fun F2 M2 y yv H2 e2 st2 ry q2 => q2 F2 σv H2 _ (b.trans (e1.trans e2)) (hs.mono (e1.trans e2)) st2 fun F3 M3 z zv H3 e3 st3 rz ⟨xs, kk, ds, hm3, ey, ky, q⟩ => ?_⟩
    obtain ⟨_, ho, h3, L3, e, kl, mp⟩ := st3.own a _ hm3
    subst e
    have ry3 := ry.mono e3
    have kv := ky.at ry3
    have hval := mxP_val (k := kk) mp
    subst ey
    obtain ⟨b3, vs, e4, hb, _⟩ := ry3
    refine ⟨L3, kk, b3, h3, kl.mono fun c x hc => st3.fz c _ hc, e4, ?_, ?_⟩
    · rcases kv with h | h | ⟨x, i, p, h1, h2, h3⟩
      · exact .inl h
      · exact .inr (.inl h)
      · exact .inr (.inr ⟨x, i, p, h1, h2, st3.fz p _ h3⟩)
    · generalize valD xs kk = o at hval q
      generalize mxV L3 kk = ov at hval
      cases o with
      | none =>
        cases ov with
        | none => exact k F3 M3 z zv H3 (e1.trans (e2.trans e3)) st3 rz q
        | some v => exact hval.elim
      | some d =>
        cases ov with
        | none => exact hval.elim
        | some v => exact k F3 M3 d v H3 (e1.trans (e2.trans e3)) st3 hval q
theorem s_mput (h : W3e B tv σ M (fun v M1 => W3e B te σ M1 (fun x M2 => W3e B ty σ M2 (fun y M3 => ∃ a xs k ds, x = .ref a ∧ M3 a = some (mxD w a xs) ∧ y = .tup ds ∧ KeyD k y ∧ xs.length < 100000 ∧ D3.nx σ (mput M3 a (mxD w a (putKD xs k v))))))) : W3s B (tMPut w te ty tv) D3 σ M := fun F σv H Dv b hs st im =>
  h F σv H _ b hs st fun F1 M1 v vv H1 e1 st1 rv q1 => q1 F1 σv H1 _ (b.trans e1) (hs.mono e1) st1 fun F2 M2 x xv H2 e2 st2 rx q2 => q2 F2 σv H2 _ (b.trans (e1.trans e2)) (hs.mono (e1.trans e2)) st2 fun F3 M3 y yv H3 e3 st3 ry ⟨a, xs, kk, ds, ex, hm, ey, ky, hl, q⟩ => by
    subst ex
    obtain ⟨_, ho, h3, L, e, kl, mp⟩ := st3.own a _ hm
    subst e
    have kv := ky.at ry
    subst ey
    have ry' := ry
    obtain ⟨b3, vs, e4, hb, _⟩ := ry'
    have kvH : KeyV H3 kk yv := by
      rcases kv with h | h | ⟨x, i, p, h1, h2, h3⟩
      · exact .inl h
      · exact .inr (.inl h)
      · exact .inr (.inr ⟨x, i, p, h1, h2, st3.fz p _ h3⟩)
    refine ⟨a, L, kk, b3, rx, h3, kl.mono fun c x hc => st3.fz c _ hc, e4, kvH, by rw [← mxP_len mp]; omega, ?_⟩
    have st4 := st3.put (p := a) (o := MxO w a (mxPut L kk yv vv)) (d' := mxD w a (putKD xs kk v)) hm ⟨_, rfl, kl.put kv, mxP_put mp (rv.mono (e2.trans e3))⟩
    exact im.nx F3 _ σ σv _ (e1.trans (e2.trans e3)) (hs.mono (e1.trans (e2.trans e3))) st4 q
theorem c3_lenM1 {x : D} (h : C3 B (rLEND K) [x] M Q) : C3 B (rLenM K w) [x] M Q := fun F H xv Qv b st rx k => .inl (h F H xv Qv b st rx k)
theorem c3_lenM {a : Addr} {xs : List (NK × D)} (hm : M a = some (mxD w a xs)) (q : Q (.int xs.length) M) : C3 B (rLenM K w) [.ref a] M Q := fun F H xv Qv b st rx k => by
  obtain ⟨v, e, r⟩ := rx.sing
  subst e
  obtain ⟨_, ho, h3, L, e, kl, mp⟩ := st.own a _ hm
  subst e
  refine .inr ⟨a, L, by rw [show v = V.ref a from r], h3, ?_⟩
  rw [← mxP_len mp]
  exact k F M (.int _) _ H (Ex.refl _) st rfl q
end
end T3
set_option Elab.async false
set_option linter.all false
set_option maxRecDepth 100000
set_option maxHeartbeats 4000000
namespace LW
open PySem L2 T3
open Evl (Ex)
def topS (i : Nat) : Stmt := PySem.Challenge.pw_tiredpots_k05_value_of_a_form.main.body.getD i (.Pass ⟨0, 0, 0, 0⟩)
def inClass : Stmt → Nat → Stmt
  | .ClassDef _ _ _ b _ _ _ _ _ _ _, j => b.getD j (.Pass ⟨0, 0, 0, 0⟩)
  | s, _ => s
abbrev s_is_whole : Stmt := topS 6
theorem sc_is_whole : FnScope ["value"] ["value"] (defScope s_is_whole) := ⟨rfl, rfl, rfl, by decide +kernel, rfl, by decide +kernel, by decide +kernel⟩
abbrev s_is_amount : Stmt := topS 7
theorem sc_is_amount : FnScope ["value", "good"] ["value"] (defScope s_is_amount) := ⟨rfl, rfl, rfl, by decide +kernel, rfl, by decide +kernel, by decide +kernel⟩
abbrev s_check_amount : Stmt := topS 8
theorem sc_check_amount : FnScope ["amount"] ["amount"] (defScope s_check_amount) := ⟨rfl, rfl, rfl, by decide +kernel, rfl, by decide +kernel, by decide +kernel⟩
abbrev s_check_whole : Stmt := topS 9
theorem sc_check_whole : FnScope ["number", "least"] ["number", "least"] (defScope s_check_whole) := ⟨rfl, rfl, rfl, by decide +kernel, rfl, by decide +kernel, by decide +kernel⟩
abbrev s_place_of : Stmt := topS 10
theorem sc_place_of : FnScope ["amount"] ["amount"] (defScope s_place_of) := ⟨rfl, rfl, rfl, by decide +kernel, rfl, by decide +kernel, by decide +kernel⟩
abbrev s_Form___init__ : Stmt := inClass (topS 11) 0
theorem sc_Form___init__ : FnScope ["self", "terms", "numbers", "amount", "number", "ordered"] ["self", "terms"] (defScope s_Form___init__) := ⟨rfl, rfl, rfl, by decide +kernel, rfl, by decide +kernel, by decide +kernel⟩
abbrev s_Form_take : Stmt := inClass (topS 11) 1
theorem sc_Form_take : FnScope ["number"] ["number"] (defScope s_Form_take) := ⟨rfl, rfl, rfl, by decide +kernel, rfl, by decide +kernel, by decide +kernel⟩
abbrev s_Form_leave : Stmt := inClass (topS 11) 2
theorem sc_Form_leave : FnScope ["number"] ["number"] (defScope s_Form_leave) := ⟨rfl, rfl, rfl, by decide +kernel, rfl, by decide +kernel, by decide +kernel⟩
abbrev s_Form___iter__ : Stmt := inClass (topS 11) 3
theorem sc_Form___iter__ : FnScope ["self"] ["self"] (defScope s_Form___iter__) := ⟨rfl, rfl, rfl, by decide +kernel, rfl, by decide +kernel, by decide +kernel⟩
abbrev s_Form___len__ : Stmt := inClass (topS 11) 4
theorem sc_Form___len__ : FnScope ["self"] ["self"] (defScope s_Form___len__) := ⟨rfl, rfl, rfl, by decide +kernel, rfl, by decide +kernel, by decide +kernel⟩
abbrev s_Form___setitem__ : Stmt := inClass (topS 11) 8
theorem sc_Form___setitem__ : FnScope ["self", "amount", "number", "others", "term"] ["self", "amount", "number"] (defScope s_Form___setitem__) := ⟨rfl, rfl, rfl, by decide +kernel, rfl, by decide +kernel, by decide +kernel⟩
abbrev s_Form___add__ : Stmt := inClass (topS 11) 9
theorem sc_Form___add__ : FnScope ["self", "other"] ["self", "other"] (defScope s_Form___add__) := ⟨rfl, rfl, rfl, by decide +kernel, rfl, by decide +kernel, by decide +kernel⟩
abbrev s_Form___sub__ : Stmt := inClass (topS 11) 12
theorem sc_Form___sub__ : FnScope ["self", "other", "amount", "number"] ["self", "other"] (defScope s_Form___sub__) := ⟨rfl, rfl, rfl, by decide +kernel, rfl, by decide +kernel, by decide +kernel⟩
abbrev s_Form___rmul__ : Stmt := inClass (topS 11) 14
theorem sc_Form___rmul__ : FnScope ["self", "times", "amount", "number"] ["self", "times"] (defScope s_Form___rmul__) := ⟨rfl, rfl, rfl, by decide +kernel, rfl, by decide +kernel, by decide +kernel⟩
abbrev s_Form___call__ : Stmt := inClass (topS 11) 19
theorem sc_Form___call__ : FnScope ["self", "amounts", "amount", "number"] ["self", "amounts"] (defScope s_Form___call__) := ⟨rfl, rfl, rfl, by decide +kernel, rfl, by decide +kernel, by decide +kernel⟩
abbrev s_lw_is_whole : Stmt := topS 13
theorem sc_lw_is_whole : FnScope ["_law_value_here"] ["_law_value_here"] (defScope s_lw_is_whole) := ⟨rfl, rfl, rfl, by decide +kernel, rfl, by decide +kernel, by decide +kernel⟩
abbrev s_source : Stmt := topS 14
theorem sc_source : FnScope ["_law_script", "_law_cell"] ["_law_script"] (defScope s_source) := ⟨rfl, rfl, rfl, by decide +kernel, rfl, by decide +kernel, by decide +kernel⟩
abbrev s_draw : Stmt := topS 15
theorem sc_draw : FnScope ["_law_source_here", "_law_many", "_law_cell", "_law_great", "_law_number", "_law_shift", "_law_mixed"] ["_law_source_here", "_law_many"] (defScope s_draw) := ⟨rfl, rfl, rfl, by decide +kernel, rfl, by decide +kernel, by decide +kernel⟩
abbrev s_amount : Stmt := topS 16
theorem sc_amount : FnScope ["_law_source_here", "_law_word"] ["_law_source_here"] (defScope s_amount) := ⟨rfl, rfl, rfl, by decide +kernel, rfl, by decide +kernel, by decide +kernel⟩
abbrev s_terms : Stmt := topS 17
theorem sc_terms : FnScope ["_law_source_here", "_law_most", "_law_terms_here", "_law_k", "_law_amount_here", "_law_size"] ["_law_source_here", "_law_most"] (defScope s_terms) := ⟨rfl, rfl, rfl, by decide +kernel, rfl, by decide +kernel, by decide +kernel⟩
abbrev s_shows : Stmt := topS 18
theorem sc_shows : FnScope ["_law_form", "_law_due", "_law_place", "_law_row"] ["_law_form", "_law_due"] (defScope s_shows) := ⟨rfl, rfl, rfl, by decide +kernel, rfl, by decide +kernel, by decide +kernel⟩
abbrev s_value : Stmt := topS 19
theorem sc_value : FnScope ["_law_terms_here", "_law_amounts", "_law_value_here", "_law_amount_here", "_law_number"] ["_law_terms_here", "_law_amounts"] (defScope s_value) := ⟨rfl, rfl, rfl, by decide +kernel, rfl, by decide +kernel, by decide +kernel⟩
abbrev s_refused : Stmt := topS 20
theorem sc_refused : FnScope ["_law_word", "_law_number", "e"] ["_law_word", "_law_number"] (defScope s_refused) := ⟨rfl, rfl, rfl, by decide +kernel, rfl, by decide +kernel, by decide +kernel⟩
abbrev s_law : Stmt := topS 21
theorem sc_law : FnScope ["_law_script", "_law_source_here", "_law_first", "_law_second", "_law_size", "_law_amounts", "_law_amount_here", "_law_number", "_law_kept", "_law_a", "_law_b", "_law_one", "_law_two", "_law_form", "_law_due", "_law_value_here", "_law_odd", "_law_both", "_law_bad", "_law_row"] ["_law_script"] (defScope s_law) := ⟨rfl, rfl, rfl, by decide +kernel, rfl, by decide +kernel, by decide +kernel⟩
structure Adr where
  (f_is_whole f_is_amount f_check_amount f_check_whole f_place_of f_Form___init__ f_Form_take f_Form_leave f_Form___iter__ f_Form___len__ f_Form___setitem__ f_Form___add__ f_Form___sub__ f_Form___rmul__ f_Form___call__ f_lw_is_whole f_source f_draw f_amount f_terms f_shows f_value f_refused f_law f_DyeError f_BadNumber f_BadAmount f_Form f_dyeInit c_WORDS c_e0 p_take p_leave : Addr)
  (d_is_whole d_is_amount d_check_amount d_check_whole d_place_of d_Form___init__ d_Form_take d_Form_leave d_Form___iter__ d_Form___len__ d_Form___setitem__ d_Form___add__ d_Form___sub__ d_Form___rmul__ d_Form___call__ d_lw_is_whole d_source d_draw d_amount d_terms d_shows d_value d_refused d_law : FuncData)
structure Tx (P : Program) (K : PySem.W.Frag) (mg : Str → Option Value) (A : Adr) : Prop where
  F_is_whole : Fun K "is_whole" "is_whole" s_is_whole A.f_is_whole A.d_is_whole
  F_is_amount : Fun K "is_amount" "is_amount" s_is_amount A.f_is_amount A.d_is_amount
  F_check_amount : Fun K "check_amount" "check_amount" s_check_amount A.f_check_amount A.d_check_amount
  F_check_whole : FunD K "check_whole" "check_whole" (defArgs s_check_whole) (defBody s_check_whole) (defScope s_check_whole) [.non] [] A.f_check_whole A.d_check_whole
  F_place_of : Fun K "place_of" "place_of" s_place_of A.f_place_of A.d_place_of
  F_Form___init__ : FunD K "__init__" "Form.__init__" (defArgs s_Form___init__) (defBody s_Form___init__) (defScope s_Form___init__) [.ref A.c_e0] [] A.f_Form___init__ A.d_Form___init__
  F_Form_take : Fun K "take" "Form.take" s_Form_take A.f_Form_take A.d_Form_take
  F_Form_leave : Fun K "leave" "Form.leave" s_Form_leave A.f_Form_leave A.d_Form_leave
  F_Form___iter__ : Fun K "__iter__" "Form.__iter__" s_Form___iter__ A.f_Form___iter__ A.d_Form___iter__
  F_Form___len__ : Fun K "__len__" "Form.__len__" s_Form___len__ A.f_Form___len__ A.d_Form___len__
  F_Form___setitem__ : Fun K "__setitem__" "Form.__setitem__" s_Form___setitem__ A.f_Form___setitem__ A.d_Form___setitem__
  F_Form___add__ : Fun K "__add__" "Form.__add__" s_Form___add__ A.f_Form___add__ A.d_Form___add__
  F_Form___sub__ : Fun K "__sub__" "Form.__sub__" s_Form___sub__ A.f_Form___sub__ A.d_Form___sub__
  F_Form___rmul__ : Fun K "__rmul__" "Form.__rmul__" s_Form___rmul__ A.f_Form___rmul__ A.d_Form___rmul__
  F_Form___call__ : Fun K "__call__" "Form.__call__" s_Form___call__ A.f_Form___call__ A.d_Form___call__
  F_lw_is_whole : Fun K "_law_is_whole" "_law_is_whole" s_lw_is_whole A.f_lw_is_whole A.d_lw_is_whole
  F_source : Fun K "_law_source" "_law_source" s_source A.f_source A.d_source
  F_draw : Fun K "_law_draw" "_law_draw" s_draw A.f_draw A.d_draw
  F_amount : Fun K "_law_amount" "_law_amount" s_amount A.f_amount A.d_amount
  F_terms : Fun K "_law_terms" "_law_terms" s_terms A.f_terms A.d_terms
  F_shows : Fun K "_law_shows" "_law_shows" s_shows A.f_shows A.d_shows
  F_value : Fun K "_law_value" "_law_value" s_value A.f_value A.d_value
  F_refused : Fun K "_law_refused" "_law_refused" s_refused A.f_refused A.d_refused
  F_law : Fun K "law" "law" s_law A.f_law A.d_law
  n_isinstance : mg "isinstance" = none
  n_int : mg "int" = none
  n_bool : mg "bool" = none
  n_tuple : mg "tuple" = none
  n_len : mg "len" = none
  c_WORDS : mg "WORDS" = some (.ref A.c_WORDS)
  g_is_whole : mg "is_whole" = some (.ref A.f_is_whole)
  k_is_whole : PySem.W.keepIn K (.ref A.f_is_whole) = true
  b_is_whole : Binds K A.d_is_whole ["value"] []
  g_is_amount : mg "is_amount" = some (.ref A.f_is_amount)
  k_is_amount : PySem.W.keepIn K (.ref A.f_is_amount) = true
  b_is_amount : Binds K A.d_is_amount ["value"] []
  dye_BadAmount : PySem.DyeX.DyeTxt P K A.f_DyeError A.f_BadAmount A.f_dyeInit
  g_BadAmount : mg "BadAmount" = some (.ref A.f_BadAmount)
  dye_BadNumber : PySem.DyeX.DyeTxt P K A.f_DyeError A.f_BadNumber A.f_dyeInit
  g_BadNumber : mg "BadNumber" = some (.ref A.f_BadNumber)
  g_check_amount : mg "check_amount" = some (.ref A.f_check_amount)
  k_check_amount : PySem.W.keepIn K (.ref A.f_check_amount) = true
  b_check_amount : Binds K A.d_check_amount ["amount"] []
  g_check_whole : mg "check_whole" = some (.ref A.f_check_whole)
  k_check_whole : PySem.W.keepIn K (.ref A.f_check_whole) = true
  b_check_whole_1 : Binds K A.d_check_whole ["number", "least"] [.none]
  b_place_of : Binds K A.d_place_of ["amount"] []
  n_sorted : mg "sorted" = none
  n_list : mg "list" = none
  g_place_of : mg "place_of" = some (.ref A.f_place_of)
  mk_Form : Mk K A.f_Form A.f_Form___init__
  g_Form : mg "Form" = some (.ref A.f_Form)
  b_Form___init__ : Binds K A.d_Form___init__ ["self", "terms"] []
  n_iter : mg "iter" = none
  n_sum : mg "sum" = none
  n_abs : mg "abs" = none
  -- gt_
  g_draw : mg "_law_draw" = some (.ref A.f_draw)
  k_draw : PySem.W.keepIn K (.ref A.f_draw) = true
  b_draw : Binds K A.d_draw ["_law_source_here", "_law_many"] []
  n_range : mg "range" = none
  g_amount : mg "_law_amount" = some (.ref A.f_amount)
  k_amount : PySem.W.keepIn K (.ref A.f_amount) = true
  b_amount : Binds K A.d_amount ["_law_source_here"] []
  -- le_Form
  -- fn_le
  b_Form___len__ : Binds K A.d_Form___len__ ["self"] []
  -- it_Form
  -- fn_it
  b_Form___iter__ : Binds K A.d_Form___iter__ ["self"] []
  n_str : mg "str" = none
  g_lw_is_whole : mg "_law_is_whole" = some (.ref A.f_lw_is_whole)
  k_lw_is_whole : PySem.W.keepIn K (.ref A.f_lw_is_whole) = true
  b_lw_is_whole : Binds K A.d_lw_is_whole ["_law_value_here"] []
  -- cr_Form
  -- sm_take
  b_Form_take : Binds K A.d_Form_take ["number"] []
  -- sm_leave
  b_Form_leave : Binds K A.d_Form_leave ["number"] []
  g_DyeError : mg "DyeError" = some (.ref A.f_DyeError)
  g_source : mg "_law_source" = some (.ref A.f_source)
  k_source : PySem.W.keepIn K (.ref A.f_source) = true
  b_source : Binds K A.d_source ["_law_script"] []
  g_terms : mg "_law_terms" = some (.ref A.f_terms)
  k_terms : PySem.W.keepIn K (.ref A.f_terms) = true
  b_terms : Binds K A.d_terms ["_law_source_here", "_law_most"] []
  g_value : mg "_law_value" = some (.ref A.f_value)
  k_value : PySem.W.keepIn K (.ref A.f_value) = true
  b_value : Binds K A.d_value ["_law_terms_here", "_law_amounts"] []
  -- of___add__
  b_Form___add__ : Binds K A.d_Form___add__ ["self", "other"] []
  -- of___sub__
  b_Form___sub__ : Binds K A.d_Form___sub__ ["self", "other"] []
  -- rm_Form
  b_Form___rmul__ : Binds K A.d_Form___rmul__ ["self", "times"] []
  -- co_Form
  b_Form___call__ : Binds K A.d_Form___call__ ["self", "amounts"] []
  -- ns_Form
  -- si_Form
  -- fn_si
  b_Form___setitem__ : Binds K A.d_Form___setitem__ ["self", "amount", "number"] []
  g_shows : mg "_law_shows" = some (.ref A.f_shows)
  k_shows : PySem.W.keepIn K (.ref A.f_shows) = true
  b_shows : Binds K A.d_shows ["_law_form", "_law_due"] []
  g_refused : mg "_law_refused" = some (.ref A.f_refused)
  k_refused : PySem.W.keepIn K (.ref A.f_refused) = true
  b_refused : Binds K A.d_refused ["_law_word", "_law_number"] []
  cl_Form : Cls K A.f_Form
  t_WORDS : ∀ H, SqT K H A.c_WORDS [.str "take", .str "leave"]
  tw_WORDS : ∃ o, K.lookup A.c_WORDS = some o ∧ o.cls = .type "tuple" ∧ o.dict = none
  na_terms : NoAttr K A.f_Form "terms"
  is_Form : IsO K A.f_Form
  te_e0 : ∀ H, SqT K H A.c_e0 []
  kf_Form : PySem.W.kitOne K (.ref A.f_Form) (.ref A.f_Form) = some true
  kit_ii : PySem.W.kitOne K (.type "int") (.type "int") = some true
  kit_bi : PySem.W.kitOne K (.type "bool") (.type "int") = some true
  kit_ni : PySem.W.kitOne K (.type "NoneType") (.type "int") = some false
  kit_si : PySem.W.kitOne K (.type "str") (.type "int") = some false
  kit_ti : PySem.W.kitOne K (.type "tuple") (.type "int") = some false
  kit_ib : PySem.W.kitOne K (.type "int") (.type "bool") = some false
  kit_bb : PySem.W.kitOne K (.type "bool") (.type "bool") = some true
  kit_it : PySem.W.kitOne K (.type "int") (.type "tuple") = some false
  kit_bt : PySem.W.kitOne K (.type "bool") (.type "tuple") = some false
  kit_nt : PySem.W.kitOne K (.type "NoneType") (.type "tuple") = some false
  kit_st : PySem.W.kitOne K (.type "str") (.type "tuple") = some false
  kit_tt : PySem.W.kitOne K (.type "tuple") (.type "tuple") = some true
  kit_ss : PySem.W.kitOne K (.type "str") (.type "str") = some true
  kit_nb : PySem.W.kitOne K (.type "NoneType") (.type "bool") = some false
  kit_sb : PySem.W.kitOne K (.type "str") (.type "bool") = some false
  kit_tb : PySem.W.kitOne K (.type "tuple") (.type "bool") = some false
  x_BadAmount : L2.ExcX K A.f_BadAmount
  em_BadAmount_BadAmount : PySem.W.exmOne K (.ref A.f_BadAmount) (.ref A.f_BadAmount) = some true
  ik_BadAmount_BadNumber : PySem.W.kitOne K (.ref A.f_BadAmount) (.ref A.f_BadNumber) = some false
  le_Form : PySem.W.findIn K (.ref A.f_Form) "__len__" = some (some (.ref A.f_Form___len__))
  fn_le : PySem.W.isFn K (.ref A.f_Form___len__) = true
  it_Form : PySem.W.findIn K (.ref A.f_Form) "__iter__" = some (some (.ref A.f_Form___iter__))
  fn_it : PySem.W.isFn K (.ref A.f_Form___iter__) = true
  si_Form : PySem.W.findIn K (.ref A.f_Form) "__setitem__" = some (some (.ref A.f_Form___setitem__))
  fn_si : PySem.W.isFn K (.ref A.f_Form___setitem__) = true
  of___add__ : OpF K A.f_Form A.f_Form___add__ .Add ["int"]
  of___sub__ : OpF K A.f_Form A.f_Form___sub__ .Sub ["int"]
  ns_Form : PySem.W.noSeq K A.f_Form = true
  rm_Form : RmF K A.f_Form A.f_Form___rmul__
  nf_Form : ∀ T ∈ ([] : List String), PySem.W.notFirst K A.f_Form (.type T) = true
  gt_ : P.given.tree = none
  cr_Form : ClX.CRead K A.f_Form (.type "type")
  sm_take : SMet K A.f_Form (.type "type") "take" A.p_take A.f_Form_take
  sm_leave : SMet K A.f_Form (.type "type") "leave" A.p_leave A.f_Form_leave
  co_Form : StX.CallO K A.f_Form A.f_Form___call__
theorem units65 {k : Nat} {A : Around} (r : Room k A) : A.units + 65 < cLine := by have := r.un; omega
theorem units1 {k : Nat} {A : Around} (r : Room k A) : A.units + 1 < cLine := by have := r.un; omega
end LW
namespace L2
open PySem
theorem pt_never {X : Cx} {c : Expr} : PT X c (fun _ _ _ => False) := ⟨fun _ _ _ _ _ _ h => h.elim⟩
end L2
set_option pp.maxSteps 1500
set_option Elab.async false
set_option linter.all false
set_option maxRecDepth 100000
set_option maxHeartbeats 4000000
namespace LW
open PySem L2 T3
open Evl (Ex)
local macro_rules | `(tactic| walk_at "t3") => `(tactic| first
  | (with_reducible refine s_seq ?_) | (with_reducible refine s_asg ?_) | (with_reducible refine s_if ?_) | (with_reducible refine s_ret ?_) | (with_reducible refine s_drop ?_) | (with_reducible refine s_asgG ?_) | (with_reducible refine s_retN ?_)
  | (with_reducible refine s_next ?_) | (with_reducible refine s_brk ?_) | (with_reducible refine s_cont ?_) | (with_reducible refine s_par ?_) | (with_reducible refine s_fld ?_)
  | ((with_reducible refine' w_var ?hx ?_); (case hx => exact rfl)) | (with_reducible refine w_cI ?_) | (with_reducible refine w_cB ?_) | (with_reducible refine w_cS ?_) | (with_reducible refine w_cN ?_) | (with_reducible refine w_cT ?_) | (with_reducible refine w_cR ?_)
  | (with_reducible refine w_op ?_) | (with_reducible refine w_un ?_) | (with_reducible refine w_nil ?_) | (with_reducible refine w_tup ?_) | (with_reducible refine w_cons ?_) | (with_reducible refine w_cb ?_) | (with_reducible refine w_bm0 ?_) | (with_reducible refine w_bm ?_)
  | (with_reducible refine w_test ?_) | (with_reducible refine w_B ?_) | (with_reducible refine w_notT ?_) | (with_reducible refine w_yes ?_) | (with_reducible refine w_notV ?_)
  | (with_reducible refine w_ifE ?_) | (with_reducible refine w_isN ?_) | (with_reducible refine w_notN ?_) | (with_reducible refine w_tr ?_) | (with_reducible refine w_chain ?_) | (with_reducible refine w_fld ?_) | (with_reducible refine w_sl ?_) | (with_reducible refine o_no ?_) | (with_reducible refine o_some ?_)
  | (with_reducible refine w_call0 ?_) | (with_reducible refine g_name ?_) | ((with_reducible refine' g_tup ?hx ?hy ?_); (case hx => exact rfl); (case hy => exact rfl)) | (with_reducible refine g_cons ?_) | (with_reducible refine g_nil ?_) | (with_reducible refine g_set ?_)
  | (with_reducible refine r3_add_ii ?_) | (with_reducible refine r3_sub ?_) | (with_reducible refine r3_lt ?_) | (with_reducible refine r3_le ?_) | (with_reducible refine r3_gt ?_) | (with_reducible refine r3_ge ?_) | (with_reducible refine u3_neg ?_)
  | (with_reducible refine c3_int_i ?_) | (with_reducible refine c3_int_b ?_) | (with_reducible refine c3_abs ?_) | (with_reducible refine c3_len_t ?_) | (with_reducible refine c3_len .fz ?_) | (with_reducible refine c3_max2 ?_) | (with_reducible refine c3_min2 ?_)
  | (with_reducible refine r3_eq (n := 9) (m := 9) okD_int okD_int ?_) | (with_reducible refine r3_ne (n := 9) (m := 9) okD_int okD_int ?_)
  | ((with_reducible refine' Exists.intro _ (And.intro ?hx ?_)); (case hx => exact rfl))
  | ((with_reducible refine' And.intro ?hx ?_); (case hx => (show List.length _ ≤ 100000); exact Nat.le_of_ble_eq_true rfl))
  | (with_reducible refine c3_lenL (c3_len_t ?_)) | (with_reducible refine c3_lenL (c3_len .fz ?_)))

section
variable {P : Program} {w : World} {K : PySem.W.Frag} {mg : Str → Option Value} {base : Heap} {A0 : Adr}

local macro_rules | `(tactic| walk_at "t3q") => `(tactic| first
  | (with_reducible refine s_seq ?_) | (with_reducible refine s_asg ?_) | (with_reducible refine s_if ?_) | (with_reducible refine s_ret ?_) | (with_reducible refine s_drop ?_) | (with_reducible refine s_asgG ?_) | (with_reducible refine s_retN ?_)
  | (with_reducible refine s_next ?_) | (with_reducible refine s_brk ?_) | (with_reducible refine s_cont ?_) | (with_reducible refine s_par ?_) | (with_reducible refine s_fld ?_)
  | ((with_reducible refine' w_var ?hx ?_); (case hx => exact rfl)) | (with_reducible refine w_cI ?_) | (with_reducible refine w_cB ?_) | (with_reducible refine w_cS ?_) | (with_reducible refine w_cN ?_) | (with_reducible refine w_cT ?_) | (with_reducible refine w_cR ?_)
  | (with_reducible refine w_op ?_) | (with_reducible refine w_un ?_) | (with_reducible refine w_nil ?_) | (with_reducible refine w_tup ?_) | (with_reducible refine w_cons ?_) | (with_reducible refine w_cb ?_) | (with_reducible refine w_bm0 ?_) | (with_reducible refine w_bm ?_)
  | (with_reducible refine w_test ?_) | (with_reducible refine w_B ?_) | (with_reducible refine w_notT ?_) | (with_reducible refine w_yes ?_) | (with_reducible refine w_notV ?_)
  | (with_reducible refine w_ifE ?_) | (with_reducible refine w_isN ?_) | (with_reducible refine w_notN ?_) | (with_reducible refine w_tr ?_) | (with_reducible refine w_chain ?_) | (with_reducible refine w_fld ?_) | (with_reducible refine w_sl ?_) | (with_reducible refine o_no ?_) | (with_reducible refine o_some ?_)
  | (with_reducible refine g_name ?_) | ((with_reducible refine' g_tup ?hx ?hy ?_); (case hx => exact rfl); (case hy => exact rfl)) | (with_reducible refine g_cons ?_) | (with_reducible refine g_nil ?_) | (with_reducible refine g_set ?_)
  | (with_reducible refine r3_add_ii ?_) | (with_reducible refine r3_sub ?_) | (with_reducible refine r3_lt ?_) | (with_reducible refine r3_le ?_) | (with_reducible refine r3_gt ?_) | (with_reducible refine r3_ge ?_) | (with_reducible refine u3_neg ?_)
  | (with_reducible refine c3_int_i ?_) | (with_reducible refine c3_int_b ?_) | (with_reducible refine c3_abs ?_) | (with_reducible refine c3_len_t ?_) | (with_reducible refine c3_len .fz ?_) | (with_reducible refine c3_max2 ?_) | (with_reducible refine c3_min2 ?_)
  | (with_reducible refine r3_eq (n := 9) (m := 9) okD_int okD_int ?_) | (with_reducible refine r3_ne (n := 9) (m := 9) okD_int okD_int ?_)
  | ((with_reducible refine' Exists.intro _ (And.intro ?hx ?_)); (case hx => exact rfl))
  | ((with_reducible refine' And.intro ?hx ?_); (case hx => (show List.length _ ≤ 100000); exact Nat.le_of_ble_eq_true rfl))
  | (with_reducible refine c3_lenL (c3_len_t ?_)) | (with_reducible refine c3_lenL (c3_len .fz ?_)))

def okT (s : Str) : Prop := s.cps.all (· < 0x110000) = true
theorem pq_str (a b : Str) : peq (.str a) (.str b) = decide (a = b) := by rw [peq_str]; rfl
theorem okD_S {n : Nat} {s : Str} (h : okT s) : okD n (.str s) = true := okD_str h
theorem okDs_S {n : Nat} {l : List Str} (h : ∀ s ∈ l, okT s) : okDs n (l.map D.str) = true := okDs_iff.mpr fun d hd => by
  obtain ⟨s, hs, rfl⟩ := List.mem_map.mp hd
  exact okD_S (h s hs)
theorem any_strs (l : List Str) (x : Str) : ((l.map D.str).any fun z => peq z (.str x)) = decide (x ∈ l) := by
  rw [List.any_map]
  induction l with
  | nil => rfl
  | cons y l ih =>
    rw [List.any_cons, ih]
    show (peq (.str y) (.str x) || _) = _
    rw [pq_str, ← Bool.decide_or]
    by_cases h : x = y <;> simp [h, eq_comm]
theorem map_at {α : Type} {f : α → D} {l : List α} {i : Nat} {d : D} (h : (l.map f)[i]? = some d) : ∃ a, l[i]? = some a ∧ d = f a := by
  rw [List.getElem?_map] at h
  obtain ⟨a, h1, h2⟩ := Option.map_eq_some_iff.mp h
  exact ⟨a, h1, h2.symm⟩
def Scal (x : D) : Prop := (∃ i, x = .int i) ∨ (∃ b, x = .bl b) ∨ x = .non ∨ (∃ s, x = .str s) ∨ ∃ l, x = .tup l
def isI : D → Bool
  | .int _ => true
  | _ => false
theorem isI_int {x : D} (h : isI x = true) : ∃ i, x = .int i := by
  cases x with
  | int i => exact ⟨i, rfl⟩
  | _ => exact nomatch (show false = true from h)
def aD (x : Bool × Nat) : D := .tup [.str (if x.1 then "leave" else "take"), .int x.2]
def WORDS2 : List Str := ["take", "leave"]
theorem wordS_ok (b : Bool) : okT (if b then "leave" else "take") ∧ (if b then ("leave" : Str) else "take") ∈ WORDS2 := by
  cases b
  · exact ⟨by unfold okT; decide +kernel, by decide +kernel⟩
  · exact ⟨by unfold okT; decide +kernel, by decide +kernel⟩
theorem pq_aD (a b : Bool × Nat) : peq (aD a) (aD b) = decide (a = b) := by
  obtain ⟨a1, a2⟩ := a; obtain ⟨b1, b2⟩ := b
  show (peq (.str _) (.str _) && (peq (.int a2) (.int b2) && true)) = _
  rw [pq_str, peq_int, Bool.and_true]
  have e : ((a2 : Int) == (b2 : Int)) = decide (a2 = b2) := by
    rw [show ((a2 : Int) == (b2 : Int)) = decide ((a2 : Int) = b2) from rfl]
    by_cases h : a2 = b2
    · simp [h]
    · rw [decide_eq_false h, decide_eq_false (by omega)]
  rw [e]
  have e2 : decide ((if a1 = true then ("leave" : Str) else ("take" : Str)) = (if b1 = true then ("leave" : Str) else ("take" : Str))) = decide (a1 = b1) := by
    cases a1 <;> cases b1 <;> decide +kernel
  show (decide ((if a1 = true then ("leave" : Str) else ("take" : Str)) = (if b1 = true then ("leave" : Str) else ("take" : Str))) && decide (a2 = b2)) = _
  rw [e2]
  by_cases h1 : a1 = b1 <;> by_cases h2 : a2 = b2 <;> simp [h1, h2]
theorem okD_a (x : Bool × Nat) : okD 1 (aD x) = true := by
  show (okD 0 (.str _) && (okD 0 (.int _) && true)) = true
  rw [okD_S (wordS_ok x.1).1]; rfl
theorem okDs_a (l : List (Bool × Nat)) : okDs 1 (l.map aD) = true := okDs_iff.mpr fun d hd => by
  obtain ⟨s, hs, rfl⟩ := List.mem_map.mp hd
  exact okD_a s
theorem any_a (l : List (Bool × Nat)) (x : Bool × Nat) : ((l.map aD).any fun z => peq z (aD x)) = decide (x ∈ l) := by
  rw [List.any_map]
  induction l with
  | nil => rfl
  | cons y l ih =>
    rw [List.any_cons, ih]
    show (peq (aD y) (aD x) || _) = _
    rw [pq_aD, ← Bool.decide_or]
    by_cases h : x = y <;> simp [h, eq_comm]
abbrev Am := Bool × Nat
def isAm : D → Bool
  | .tup [.str w, .int n] => decide (w ∈ WORDS2) && decide (0 ≤ n)
  | _ => false
theorem isAm_aD (x : Am) : isAm (aD x) = true := by
  show (decide (_ ∈ WORDS2) && decide ((0 : Int) ≤ x.2)) = true
  rw [decide_eq_true (wordS_ok x.1).2, decide_eq_true (by omega)]; rfl
theorem isAm_of {x : D} (h : isAm x = true) : ∃ a : Am, x = aD a := by
  unfold isAm at h
  split at h
  · rename_i w n
    obtain ⟨h1, h2⟩ := Bool.and_eq_true_iff.mp h
    have h1 := of_decide_eq_true h1
    have h2 := of_decide_eq_true h2
    have h1 : w = "take" ∨ w = "leave" := by simpa [WORDS2] using h1
    rcases h1 with rfl | rfl
    · exact ⟨(false, n.toNat), by unfold aD; dsimp only; rw [Int.toNat_of_nonneg h2]; rfl⟩
    · exact ⟨(true, n.toNat), by unfold aD; dsimp only; rw [Int.toNat_of_nonneg h2]; rfl⟩
  · cases h
structure AmV (x : D) : Prop where
  ok : okD 9 x = true
  sc : Scal x
  parts : ∀ ds, x = .tup ds → ∀ d ∈ ds, Scal d
theorem AmV.aD (x : Am) : AmV (aD x) where
  ok := by
    show (okD 8 (.str _) && (okD 8 (.int _) && true)) = true
    rw [okD_S (wordS_ok x.1).1, okD_int]; rfl
  sc := .inr (.inr (.inr (.inr ⟨_, rfl⟩)))
  parts := fun ds e d hd => by
    cases e
    rcases List.mem_cons.mp hd with rfl | hd
    · exact .inr (.inr (.inr (.inl ⟨_, rfl⟩)))
    · rcases List.mem_cons.mp hd with rfl | hd
      · exact .inl ⟨_, rfl⟩
      · cases hd
def wIn : D → Bool
  | .str w => decide (w ∈ WORDS2)
  | _ => false
theorem any_words {n : Nat} {x : D} (h : okD n x = true) : ((WORDS2.map D.str).any fun z => peq z x) = wIn x := by
  cases x with
  | str w => exact any_strs WORDS2 w
  | ty _ => cases n <;> cases h
  | ref _ => cases n <;> cases h
  | ins _ _ _ => cases n <;> cases h
  | _ => simp [WORDS2, peq, py, PyData.eqv, wIn]
theorem okDs_W : okDs 0 (WORDS2.map D.str) = true := okDs_S (n := 0) fun s hs => by
  have : ∀ x ∈ WORDS2, okT x := by unfold okT; decide +kernel
  exact this s hs
def S_whole : Sp3 := fun ds M Q _ => ∃ x : D, ds = [x] ∧ Scal x ∧ Q (.bl (isI x)) M
theorem ok_is_whole (T : Tx P K mg A0) : FnOk P w K mg base CX0 1 A0.f_is_whole A0.d_is_whole ["value"] (lift3 S_whole) := by
  refine T.F_is_whole.ok sc_is_whole (lift3_len fun ds M Q E ⟨a, h, _⟩ => by rw [h]; rfl) (fun cdv A outer s H vs Q E hr h => ?_)
  have hu := hr.units
  have hu5 := units65 hr
  refine ⟨_, (pss_one (ps_ret (pe_and (pe_callB (call_ISIK K rfl) (by rfl) T.n_isinstance (by decide +kernel) (pa_cons (pv 0) (pa_cons (pe_bltn (v := .ty "int") (by rfl) T.n_int (by decide +kernel) rfl) pa_nil))) (pe_one (pe_not (pe_callB (call_ISIK K rfl) (by rfl) T.n_isinstance (by decide +kernel) (pa_cons (pv 0) (pa_cons (pe_bltn (v := .ty "bool") (by rfl) T.n_bool (by decide +kernel) rfl) pa_nil)))))))), run3 h fun B ds M Q3 E3 hs hE => ?_⟩
  obtain ⟨x, rfl, sx, q⟩ := hs
  change W3s B _ _ [some x] M
  try dsimp only [cxOf, Cx.nox, Cx.wish]
  have key : ∀ a b, (tyD x == "") = false → PySem.W.kitOne K (.type (tyD x)) (.type "int") = some a → (a = true → PySem.W.kitOne K (.type (tyD x)) (.type "bool") = some b) → isI x = (a && !b) → W3s B (tRet (tAndV (tCB (rISI K) (tCons (tVar 0) (tCons (tC (.ty "int")) tNil))) (tNotV (tCB (rISI K) (tCons (tVar 0) (tCons (tC (.ty "bool")) tNil)))))) { nx := fun _ M => Q3 D.non M, rt := Q3 } [some x] M := by
    intro a b h0 h1 h2 e
    rw [e] at q
    refine s_ret (w_andP (a := a) (b := !b) ?_ (fun h => ?_) q)
    · repeat walk_at "t3"
      refine c3_ISI h0 h1 ?_
      exact ⟨rfl, rfl⟩
    · repeat walk_at "t3"
      refine c3_ISI h0 (h2 h) ?_
      exact ⟨_, rfl, rfl, rfl⟩
  rcases sx with ⟨i, rfl⟩ | ⟨b, rfl⟩ | rfl | ⟨s, rfl⟩ | ⟨l, rfl⟩
  · exact key true false rfl T.kit_ii (fun _ => T.kit_ib) rfl
  · exact key true true rfl T.kit_bi (fun _ => T.kit_bb) rfl
  · exact key false true rfl T.kit_ni (fun h => by cases h) rfl
  · exact key false true rfl T.kit_si (fun h => by cases h) rfl
  · exact key false true rfl T.kit_ti (fun h => by cases h) rfl
def S_is_amount : Sp3 := fun ds M Q _ => ∃ x : D, ds = [x] ∧ AmV x ∧ Q (.bl (isAm x)) M
theorem ok_is_amount (T : Tx P K mg A0) : FnOk P w K mg base CX0 2 A0.f_is_amount A0.d_is_amount ["value"] (lift3 S_is_amount) := by
  refine T.F_is_amount.ok sc_is_amount (lift3_len fun ds M Q E ⟨a, h, _⟩ => by rw [h]; rfl) (fun cdv A outer s H vs Q E hr h => ?_)
  have hu := hr.units
  have hu5 := units65 hr
  refine ⟨_, (pss_cons (ps_set (i := 1) sc_is_amount.nd (by rfl) (Or.inl (by rfl)) (pe_and (pe_callB (call_ISIK K rfl) (by rfl) T.n_isinstance (by decide +kernel) (pa_cons (pv 0) (pa_cons (pe_bltn (v := .ty "tuple") (by rfl) T.n_tuple (by decide +kernel) rfl) pa_nil))) (pe_one (pe_cmpR (op_eqDK K rfl hu) (pe_callB (call_lenDK K rfl) (by rfl) T.n_len PySem.boot_len (pa_cons (pv 0) pa_nil)) pe_int (nomark _)))))
  (pss_one (ps_ret (pe_and (pv 1) (pe_and (pe_cmpR (op_INAK K P w rfl rfl rfl hu5) (pe_ix (ix_seqK K rfl) (pv 0) pe_int (fun _ _ => by rfl)) (pe_glob (v := .ref A0.c_WORDS) (by rfl) T.c_WORDS rfl) (by rfl)) (pe_and (pe_call (ok_is_whole T) (hr.mono (by decide)) (by rfl) T.g_is_whole T.k_is_whole T.b_is_whole .nil pass0 (pa_cons (pe_ix (ix_seqK K rfl) (pv 0) pe_int (fun _ _ => by rfl)) pa_nil)) (pe_one (pe_cmpR op_ge (pe_ix (ix_seqK K rfl) (pv 0) pe_int (fun _ _ => by rfl)) pe_int (nomark _))))))))), run3 h fun B ds M Q3 E3 hs hE => ?_⟩
  obtain ⟨x, rfl, vx, q⟩ := hs
  change W3s B _ _ [some x, none] _
  try dsimp only [cxOf, Cx.nox, Cx.wish]
  by_cases ht : ∃ l, x = .tup l
  · obtain ⟨l, rfl⟩ := ht
    by_cases hl : l.length = 2
    · obtain ⟨a, b, rfl⟩ : ∃ a b, l = [a, b] := by
        match l, hl with
        | [a, b], _ => exact ⟨a, b, rfl⟩
      have oka : okD 8 a = true := by
        have h : (okD 8 a && (okD 8 b && true)) = true := vx.ok
        exact (Bool.and_eq_true_iff.mp h).1
      have sa := vx.parts _ rfl a (List.mem_cons_self ..)
      have sb := vx.parts _ rfl b (List.mem_cons_of_mem _ (List.mem_cons_self ..))
      repeat walk_at "t3"
      refine w_andP (a := true) (b := true) ?_ (fun _ => ?_) ?_
      · repeat walk_at "t3"
        refine c3_ISI rfl T.kit_tt ?_
        exact ⟨rfl, rfl⟩
      · repeat walk_at "t3"
        exact ⟨rfl, rfl⟩
      repeat walk_at "t3"
      let w : Bool := wIn a
      let c : Bool := match b with | .int n => decide (0 ≤ n) | _ => true
      have e : isAm (.tup [a, b]) = (w && (isI b && c)) := by
        cases a <;> cases b <;> simp [isAm, isI, w, c, wIn]
      rw [e] at q
      refine w_andP (a := true) (b := w && (isI b && c)) ?_ (fun _ => w_andP (a := w) (b := isI b && c) ?_ (fun _ => w_andP (a := isI b) (b := c) ?_ (fun hb => ?_) ⟨rfl, rfl⟩) ⟨rfl, rfl⟩) (by rw [Bool.true_and]; exact q)
      · repeat walk_at "t3"
        exact ⟨rfl, rfl⟩
      · repeat walk_at "t3"
        refine r3_ix_t (at3 (j := 0) (by omega) (v := a) rfl) ?_
        repeat walk_at "t3"
        refine r3_inTup (ss := WORDS2) T.t_WORDS okDs_W oka ?_
        rw [any_words oka]
        exact ⟨rfl, rfl⟩
      · repeat walk_at "t3"
        refine r3_ix_t (at3 (j := 1) (by omega) (v := b) rfl) ?_
        repeat walk_at "t3"
        exact ⟨_, rfl, sb, rfl, rfl⟩
      · obtain ⟨n, rfl⟩ := isI_int hb
        repeat walk_at "t3"
        refine r3_ix_t (at3 (j := 1) (by omega) (v := .int n) rfl) ?_
        repeat walk_at "t3"
        exact ⟨rfl, rfl⟩
    · have e : isAm (.tup l) = false := by
        unfold isAm
        split
        · rename_i h; cases h; exact absurd rfl hl
        · rfl
      rw [e] at q
      repeat walk_at "t3"
      refine w_andP (a := true) (b := false) ?_ (fun _ => ?_) ?_
      · repeat walk_at "t3"
        refine c3_ISI rfl T.kit_tt ?_
        exact ⟨rfl, rfl⟩
      · repeat walk_at "t3"
        refine ⟨?_, rfl⟩
        rw [peq_int]
        exact congrArg D.bl (by simpa using fun h => hl (by omega))
      repeat walk_at "t3"
      refine w_andP (a := false) (b := false) ?_ (fun h => by cases h) q
      repeat walk_at "t3"
      exact ⟨rfl, rfl⟩
  · have e : isAm x = false := by
      unfold isAm
      split
      · exact absurd ⟨_, rfl⟩ ht
      · rfl
    rw [e] at q
    have hk : (tyD x == "") = false ∧ PySem.W.kitOne K (.type (tyD x)) (.type "tuple") = some false := by
      rcases vx.sc with ⟨i, rfl⟩ | ⟨b, rfl⟩ | rfl | ⟨s, rfl⟩ | ⟨l, rfl⟩
      · exact ⟨rfl, T.kit_it⟩
      · exact ⟨rfl, T.kit_bt⟩
      · exact ⟨rfl, T.kit_nt⟩
      · exact ⟨rfl, T.kit_st⟩
      · exact absurd ⟨_, rfl⟩ ht
    repeat walk_at "t3"
    refine w_andP (a := false) (b := false) ?_ (fun h => by cases h) ?_
    · repeat walk_at "t3"
      refine c3_ISI hk.1 hk.2 ?_
      exact ⟨rfl, rfl⟩
    repeat walk_at "t3"
    refine w_andP (a := false) (b := false) ?_ (fun h => by cases h) q
    repeat walk_at "t3"
    exact ⟨rfl, rfl⟩
end
end LW
set_option Elab.async false
set_option linter.all false
set_option maxRecDepth 100000
set_option maxHeartbeats 4000000
namespace LW
open PySem L2 T3
open Evl (Ex)
local macro_rules | `(tactic| walk_at "t3") => `(tactic| first
  | (with_reducible refine s_seq ?_) | (with_reducible refine s_asg ?_) | (with_reducible refine s_if ?_) | (with_reducible refine s_ret ?_) | (with_reducible refine s_drop ?_) | (with_reducible refine s_asgG ?_) | (with_reducible refine s_retN ?_)
  | (with_reducible refine s_next ?_) | (with_reducible refine s_brk ?_) | (with_reducible refine s_cont ?_) | (with_reducible refine s_par ?_) | (with_reducible refine s_fld ?_)
  | ((with_reducible refine' w_var ?hx ?_); (case hx => exact rfl)) | (with_reducible refine w_cI ?_) | (with_reducible refine w_cB ?_) | (with_reducible refine w_cS ?_) | (with_reducible refine w_cN ?_) | (with_reducible refine w_cT ?_) | (with_reducible refine w_cR ?_)
  | (with_reducible refine w_op ?_) | (with_reducible refine w_un ?_) | (with_reducible refine w_nil ?_) | (with_reducible refine w_tup ?_) | (with_reducible refine w_cons ?_) | (with_reducible refine w_cb ?_) | (with_reducible refine w_bm0 ?_) | (with_reducible refine w_bm ?_)
  | (with_reducible refine w_test ?_) | (with_reducible refine w_B ?_) | (with_reducible refine w_notT ?_) | (with_reducible refine w_yes ?_) | (with_reducible refine w_notV ?_)
  | (with_reducible refine w_ifE ?_) | (with_reducible refine w_isN ?_) | (with_reducible refine w_notN ?_) | (with_reducible refine w_tr ?_) | (with_reducible refine w_chain ?_) | (with_reducible refine w_fld ?_) | (with_reducible refine w_sl ?_) | (with_reducible refine o_no ?_) | (with_reducible refine o_some ?_)
  | (with_reducible refine w_call0 ?_) | (with_reducible refine g_name ?_) | ((with_reducible refine' g_tup ?hx ?hy ?_); (case hx => exact rfl); (case hy => exact rfl)) | (with_reducible refine g_cons ?_) | (with_reducible refine g_nil ?_) | (with_reducible refine g_set ?_)
  | (with_reducible refine r3_add_ii ?_) | (with_reducible refine r3_sub ?_) | (with_reducible refine r3_lt ?_) | (with_reducible refine r3_le ?_) | (with_reducible refine r3_gt ?_) | (with_reducible refine r3_ge ?_) | (with_reducible refine u3_neg ?_)
  | (with_reducible refine c3_int_i ?_) | (with_reducible refine c3_int_b ?_) | (with_reducible refine c3_abs ?_) | (with_reducible refine c3_len_t ?_) | (with_reducible refine c3_len .fz ?_) | (with_reducible refine c3_max2 ?_) | (with_reducible refine c3_min2 ?_)
  | (with_reducible refine r3_eq (n := 9) (m := 9) okD_int okD_int ?_) | (with_reducible refine r3_ne (n := 9) (m := 9) okD_int okD_int ?_)
  | ((with_reducible refine' Exists.intro _ (And.intro ?hx ?_)); (case hx => exact rfl))
  | ((with_reducible refine' And.intro ?hx ?_); (case hx => (show List.length _ ≤ 100000); exact Nat.le_of_ble_eq_true rfl))
  | (with_reducible refine c3_lenL (c3_len_t ?_)) | (with_reducible refine c3_lenL (c3_len .fz ?_)))

def SrcD (cells : List Int) (i j k : Int) : DO := .lst [.lst (cells.map D.int), .int i, .int j, .int k]
def IsSrc (o : DO) : Prop := ∃ (cells : List Int) (i j k : Int), o = SrcD cells i j k ∧ cells.length ≤ 63 ∧ 0 ≤ i ∧ i ≤ 63 ∧ 0 ≤ j ∧ j ≤ 60
def S_draw : Sp3 := fun ds M Q _ => ∃ (a : Addr) (n : Int) (o : DO), ds = [.ref a, .int n] ∧ M a = some o ∧ IsSrc o ∧ 0 < n ∧ (n < 10 ^ 100 ∨ True) ∧ ∀ r o', 0 ≤ r → r < n → IsSrc o' → Q (.int r) (mput M a o')
section
variable {P : Program} {w : World} {K : PySem.W.Frag} {mg : Str → Option Value} {base : Heap}
variable {A0 : Adr}
theorem ok_draw (T : Tx P K mg A0) (NS : base.NoSeer) : FnOk P w K mg base CX0 33 A0.f_draw A0.d_draw ["_law_source_here", "_law_many"] (lift3 S_draw) := by
  refine T.F_draw.ok sc_draw (lift3_len fun ds M Q E ⟨a, n, o, h, _⟩ => by rw [h]; rfl) (fun cdv A outer s H vs Q E hr h => ?_)
  have hu := hr.units
  have hu5 := units65 hr
  refine ⟨_, (pss_cons (ps_if (pt_cmpR op_ge (pe_ix (ix_seqK K rfl) (pv 0) pe_int (fun _ _ => by rfl)) (pe_callB (call_lenDK K rfl) (by rfl) T.n_len PySem.boot_len (pa_cons (pe_ix (ix_seqK K rfl) (pv 0) pe_int (fun _ _ => by rfl)) pa_nil)) (nomark _)) (pss_one (ps_ret pe_int)) pss_nil)
  (pss_cons (ps_set (i := 2) sc_draw.nd (by rfl) (Or.inl (by rfl)) (pe_ix (ix_seqK K rfl) (pe_ix (ix_seqK K rfl) (pv 0) pe_int (fun _ _ => by rfl)) (pe_ix (ix_seqK K rfl) (pv 0) pe_int (fun _ _ => by rfl)) (fun _ _ => by rfl)))
  (pss_cons (ps_set (i := 3) sc_draw.nd (by rfl) (Or.inl (by rfl)) (pe_or (pe_cmpR op_ge (pv 2) (pe_op op_pow pe_int pe_int) (nomark _)) (pe_one (pe_cmpR op_le (pv 2) (pe_op op_sub pe_int (pe_op op_pow pe_int pe_int)) (nomark _)))))
  (pss_cons (ps_if (PW.pt (pw_and (pt_truthK K rfl (pv 3) (by intro _; rfl)) (pw_and1 (pt_cmpR (op_eqDK K rfl hu) (pe_ix (ix_seqK K rfl) (pv 0) pe_int (fun _ _ => by rfl)) pe_int (nomark _))))) (pss_one (ps_asg (pe_callB call_abs (by rfl) T.n_abs (by decide +kernel) (pa_cons (pv 2) pa_nil)) (pg_sub (pv 0) pe_int set_list))) pss_nil)
  (pss_cons (ps_if (pt_truthK K rfl (pv 3) (by intro _; rfl)) (pss_cons (ps_set (i := 4) sc_draw.nd (by rfl) (Or.inl (by rfl)) (pe_op op_modN (pe_callTy call_int1 (by rfl) T.n_int (by decide +kernel) (pa_cons (pe_ix (ix_seqK K rfl) (pv 0) pe_int (fun _ _ => by rfl)) pa_nil)) (pv 1)))
  (pss_one (ps_asg (pe_op (op_fdivP NS T.gt_ rfl rfl rfl (room_pylong hr (by decide))) (pe_ix (ix_seqK K rfl) (pv 0) pe_int (fun _ _ => by rfl)) (pv 1)) (pg_sub (pv 0) pe_int set_list)))) (pss_cons (ps_set (i := 5) sc_draw.nd (by rfl) (Or.inl (by rfl)) (pe_op op_ADD (pe_op op_ADD (pe_op op_mulW (pe_ix (ix_seqK K rfl) (pv 0) pe_int (fun _ _ => by rfl)) pe_int) (pe_op op_mulW (pe_ix (ix_seqK K rfl) (pv 0) pe_int (fun _ _ => by rfl)) pe_int)) pe_int))
  (pss_cons (ps_set (i := 6) sc_draw.nd (by rfl) (Or.inl (by rfl)) (pe_op op_modN (pe_callTy call_int1 (by rfl) T.n_int (by decide +kernel) (pa_cons (pe_op op_ADD (pe_op op_mulW (pv 2) pe_int) (pv 5)) pa_nil)) pe_int))
  (pss_cons (ps_set (i := 6) sc_draw.nd (by rfl) (Or.inl (by rfl)) (pe_op op_modN (pe_callTy call_int1 (by rfl) T.n_int (by decide +kernel) (pa_cons (pe_op op_ADD (pe_op op_ADD (pe_op op_mulW (pv 6) (pv 6)) (pe_op op_mulW (pv 2) pe_int)) (pe_ix (ix_seqK K rfl) (pv 0) pe_int (fun _ _ => by rfl))) pa_nil)) pe_int))
  (pss_one (ps_set (i := 4) sc_draw.nd (by rfl) (Or.inl (by rfl)) (pe_op op_modN (pe_callTy call_int1 (by rfl) T.n_int (by decide +kernel) (pa_cons (pv 6) pa_nil)) (pv 1))))))))
  (pss_cons (ps_asg (pe_op op_ADD (pe_ix (ix_seqK K rfl) (pv 0) pe_int (fun _ _ => by rfl)) pe_int) (pg_sub (pv 0) pe_int set_list))
  (pss_cons (ps_if (PW.pt (pw_or (pt_cmpR op_ge (pe_ix (ix_seqK K rfl) (pv 0) pe_int (fun _ _ => by rfl)) pe_int (nomark _)) (pw_or (PW.pt (pw_and (pt_not (pt_truthK K rfl (pv 3) (by intro _; rfl))) (pw_and1 (pt_cmpR op_ge (pe_ix (ix_seqK K rfl) (pv 0) pe_int (fun _ _ => by rfl)) pe_int (nomark _))))) (pw_or1 (PW.pt (pw_and (pt_truthK K rfl (pv 3) (by intro _; rfl)) (pw_and1 (pt_cmpR (op_eqDK K rfl hu) (pe_ix (ix_seqK K rfl) (pv 0) pe_int (fun _ _ => by rfl)) pe_int (nomark _))))))))) (pss_cons (ps_asg (pe_op op_ADD (pe_ix (ix_seqK K rfl) (pv 0) pe_int (fun _ _ => by rfl)) pe_int) (pg_sub (pv 0) pe_int set_list))
  (pss_one (ps_asg pe_int (pg_sub (pv 0) pe_int set_list)))) pss_nil)
  (pss_one (ps_ret (pv 4)))))))))), run3 h fun B ds M Q3 E3 hs hE => ?_⟩
  obtain ⟨a, n, o, rfl, hm, ⟨cells, i, j, k, rfl, hl, i0, i1, j0, j1⟩, n0, n1, q⟩ := hs
  change W3s B _ _ [some (.ref a), some (.int n), none, none, none, none, none] M
  try dsimp only [cxOf, Cx.nox, Cx.wish]
  repeat walk_at "t3"
  refine r3_ix_l (.ow hm) rfl ?_
  repeat walk_at "t3"
  refine r3_ix_l (.ow hm) rfl ?_
  repeat walk_at "t3"
  rw [List.length_map]
  refine iteB (fun hc => ?_) (fun hc => ?_)
  · repeat walk_at "t3"
    have := q 0 _ (Int.le_refl _) n0 ⟨cells, i, j, k, rfl, hl, i0, i1, j0, j1⟩
    rwa [mput_self hm] at this
  have hc : i < cells.length := by simpa using hc
  obtain ⟨c, hcc⟩ : ∃ c, (cells.map D.int)[i.toNat]? = some (.int c) := ⟨cells[i.toNat], by rw [List.getElem?_map, List.getElem?_eq_getElem (by omega)]; rfl⟩
  repeat walk_at "t3"
  refine r3_ix_l (.ow hm) rfl ?_
  repeat walk_at "t3"
  refine r3_ix_l (.ow hm) rfl ?_
  repeat walk_at "t3"
  refine r3_ix_l .fz (at3 (by omega) hcc) ?_
  repeat walk_at "t3"
  refine w_orP (a := decide ((10:Int) ^ 18 ≤ c)) (b := decide (c ≤ 0 - 10 ^ 18)) ?_ (fun _ => ?_) ?_
  · repeat walk_at "t3"
    refine r3_pow ⟨by decide, by decide, by decide⟩ ?_
    repeat walk_at "t3"
    exact ⟨rfl, rfl⟩
  · repeat walk_at "t3"
    refine r3_pow ⟨by decide, by decide, by decide⟩ ?_
    repeat walk_at "t3"
    exact ⟨rfl, rfl⟩
  have hg : (decide ((10:Int) ^ 18 ≤ c) || decide (c ≤ 0 - 10 ^ 18)) = false → -10 ^ 18 < c ∧ c < 10 ^ 18 := fun h => by
    have := (Bool.or_eq_false_iff.mp h)
    have h1 := of_decide_eq_false this.1
    have h2 := of_decide_eq_false this.2
    omega
  generalize (decide ((10:Int) ^ 18 ≤ c) || decide (c ≤ 0 - 10 ^ 18)) = g at hg ⊢
  -- if great and src[2] == 0: src[3] = abs(cell)
  refine s_seqM (fun σ' M' => σ' = [some (.ref a), some (.int n), some (.int c), some (.bl g), none, none, none] ∧ ∃ k', M' = mput M a (SrcD cells i j k')) ?_ ?_
  · refine s_if (w_andTP (a := g) (b := peq (.int j) (.int 0)) ?_ (fun _ => ?_) ?_)
    · repeat walk_at "t3"
      exact ⟨rfl, rfl⟩
    · repeat walk_at "t3"
      refine r3_ix_l (.ow hm) rfl ?_
      repeat walk_at "t3"
      exact ⟨rfl, rfl⟩
    · refine iteB (fun _ => ?_) (fun _ => ?_)
      · repeat walk_at "t3"
        exact ⟨a, _, _, 3, rfl, rfl, hm, rfl, rfl, _, rfl⟩
      · repeat walk_at "t3"
        exact ⟨rfl, k, (mput_self hm).symm⟩
  rintro _ _ ⟨rfl, k', rfl⟩
  have hm' : mput M a (SrcD cells i j k') a = some (SrcD cells i j k') := mput_same
  generalize hM : mput M a (SrcD cells i j k') = M' at hm'
  have hback : ∀ o, mput M' a o = mput M a o := fun o => by rw [← hM, mput_mput]
  -- the number
  refine s_seqM (fun σ' M'' => ∃ r v5 v6 k'', 0 ≤ r ∧ r < n ∧ σ' = [some (.ref a), some (.int n), some (.int c), some (.bl g), some (.int r), v5, v6] ∧ M'' = mput M a (SrcD cells i j k'')) ?_ ?_
  · repeat walk_at "t3"
    refine iteB (fun _ => ?_) (fun eg => ?_)
    · repeat walk_at "t3"
      refine r3_ix_l (.ow hm') rfl ?_
      repeat walk_at "t3"
      refine r3_mod n0 ?_
      repeat walk_at "t3"
      refine r3_ix_l (.ow hm') rfl ?_
      repeat walk_at "t3"
      refine r3_fdivP n0 ?_
      repeat walk_at "t3"
      exact ⟨a, _, _, 3, rfl, rfl, hm', rfl, k' % n, none, none, k' / n, Int.emod_nonneg _ (by omega), Int.emod_lt_of_pos _ n0, rfl, hback _⟩
    · obtain ⟨c1, c2⟩ := hg eg
      repeat walk_at "t3"
      refine r3_ix_l (.ow hm') rfl ?_
      repeat walk_at "t3"
      refine r3_mul (mulW (by omega) (by decide)) ?_
      repeat walk_at "t3"
      refine r3_ix_l (.ow hm') rfl ?_
      repeat walk_at "t3"
      refine r3_mul (mulW (by omega) (by decide)) ?_
      repeat walk_at "t3"
      refine r3_mul (mulW (by omega) (by decide)) ?_
      repeat walk_at "t3"
      refine r3_mod (by decide) ?_
      repeat walk_at "t3"
      have m0 : ∀ z : Int, 0 ≤ z % 2147483647 ∧ z % 2147483647 < 2147483647 := fun z => ⟨Int.emod_nonneg _ (by decide), Int.emod_lt_of_pos _ (by decide)⟩
      obtain ⟨z0, z1⟩ := m0 (c * 48271 + (i * 69621 + j * 40692 + 11))
      generalize (c * 48271 + (i * 69621 + j * 40692 + 11)) % 2147483647 = z at z0 z1 ⊢
      refine r3_mul (mulW (by omega) (by omega)) ?_
      repeat walk_at "t3"
      refine r3_mul (mulW (by omega) (by decide)) ?_
      repeat walk_at "t3"
      refine r3_ix_l (.ow hm') rfl ?_
      repeat walk_at "t3"
      refine r3_mod (by decide) ?_
      repeat walk_at "t3"
      refine r3_mod n0 ?_
      repeat walk_at "t3"
      exact ⟨_, _, _, k', Int.emod_nonneg _ (by omega), Int.emod_lt_of_pos _ n0, rfl, hM.symm⟩
  rintro _ _ ⟨r, v5, v6, k'', r0, r1, rfl, rfl⟩
  have hm'' : mput M a (SrcD cells i j k'') a = some (SrcD cells i j k'') := mput_same
  generalize hM2 : mput M a (SrcD cells i j k'') = M2 at hm''
  have hback2 : ∀ o, mput M2 a o = mput M a o := fun o => by rw [← hM2, mput_mput]
  repeat walk_at "t3"
  refine r3_ix_l (.ow hm'') rfl ?_
  repeat walk_at "t3"
  refine ⟨a, _, _, 2, rfl, rfl, hm'', rfl, ?_⟩
  rw [hback2]
  have hm3 : mput M a (SrcD cells i (j + 1) k'') a = some (SrcD cells i (j + 1) k'') := mput_same
  have hback3 : ∀ o, mput (mput M a (SrcD cells i (j + 1) k'')) a o = mput M a o := fun o => mput_mput
  show W3s B _ _ _ (mput M a (SrcD cells i (j + 1) k''))
  generalize hM3 : mput M a (SrcD cells i (j + 1) k'') = M3 at hm3 hback3
  refine s_seqM (fun σ' M'' => ∃ o', IsSrc o' ∧ σ' = [some (.ref a), some (.int n), some (.int c), some (.bl g), some (.int r), v5, v6] ∧ M'' = mput M a o') ?_ ?_
  · refine s_if (w_orTP (a := decide ((60:Int) ≤ j + 1)) (b := (!g && decide ((6:Int) ≤ j + 1)) || (g && peq (.int k'') (.int 0))) ?_ (fun _ => w_orTP (a := !g && decide ((6:Int) ≤ j + 1)) (b := g && peq (.int k'') (.int 0)) ?_ (fun _ => ?_) ⟨rfl, rfl⟩) ?_)
    · repeat walk_at "t3"
      refine r3_ix_l (.ow hm3) rfl ?_
      repeat walk_at "t3"
      exact ⟨rfl, rfl⟩
    · refine w_andTP (a := !g) (b := decide ((6:Int) ≤ j + 1)) ?_ (fun _ => ?_) ⟨rfl, rfl⟩
      · repeat walk_at "t3"
        exact ⟨rfl, rfl⟩
      · repeat walk_at "t3"
        refine r3_ix_l (.ow hm3) rfl ?_
        repeat walk_at "t3"
        exact ⟨rfl, rfl⟩
    · refine w_andTP (a := g) (b := peq (.int k'') (.int 0)) ?_ (fun _ => ?_) ⟨rfl, rfl⟩
      · repeat walk_at "t3"
        exact ⟨rfl, rfl⟩
      · repeat walk_at "t3"
        refine r3_ix_l (.ow hm3) rfl ?_
        repeat walk_at "t3"
        exact ⟨rfl, rfl⟩
    · refine iteB (fun _ => ?_) (fun hn => ?_)
      · repeat walk_at "t3"
        refine r3_ix_l (.ow hm3) rfl ?_
        repeat walk_at "t3"
        refine ⟨a, _, _, 1, rfl, rfl, hm3, rfl, ?_⟩
        rw [hback3]
        have hm4 : mput M a (SrcD cells (i + 1) (j + 1) k'') a = some (SrcD cells (i + 1) (j + 1) k'') := mput_same
        show W3s B _ _ _ (mput M a (SrcD cells (i + 1) (j + 1) k''))
        repeat walk_at "t3"
        exact ⟨a, _, _, 2, rfl, rfl, hm4, rfl, SrcD cells (i + 1) 0 k'', ⟨cells, i + 1, 0, k'', rfl, hl, by omega, by omega, by omega, by omega⟩, rfl, mput_mput⟩
      · repeat walk_at "t3"
        have := of_decide_eq_false (Bool.or_eq_false_iff.mp hn).1
        exact ⟨SrcD cells i (j + 1) k'', ⟨cells, i, j + 1, k'', rfl, hl, i0, i1, by omega, by omega⟩, rfl, hM3.symm⟩
  rintro _ _ ⟨o', ho', rfl, rfl⟩
  repeat walk_at "t3"
  exact q r o' r0 r1 ho'
end
end LW
set_option pp.maxSteps 1500
set_option Elab.async false
set_option linter.all false
set_option maxRecDepth 100000
set_option maxHeartbeats 4000000
namespace LW
open PySem L2 T3
open Evl (Ex)
local macro_rules | `(tactic| walk_at "t3") => `(tactic| first
  | (with_reducible refine s_seq ?_) | (with_reducible refine s_asg ?_) | (with_reducible refine s_if ?_) | (with_reducible refine s_ret ?_) | (with_reducible refine s_drop ?_) | (with_reducible refine s_asgG ?_) | (with_reducible refine s_retN ?_)
  | (with_reducible refine s_next ?_) | (with_reducible refine s_brk ?_) | (with_reducible refine s_cont ?_) | (with_reducible refine s_par ?_) | (with_reducible refine s_fld ?_)
  | ((with_reducible refine' w_var ?hx ?_); (case hx => exact rfl)) | (with_reducible refine w_cI ?_) | (with_reducible refine w_cB ?_) | (with_reducible refine w_cS ?_) | (with_reducible refine w_cN ?_) | (with_reducible refine w_cT ?_) | (with_reducible refine w_cR ?_)
  | (with_reducible refine w_op ?_) | (with_reducible refine w_un ?_) | (with_reducible refine w_nil ?_) | (with_reducible refine w_tup ?_) | (with_reducible refine w_cons ?_) | (with_reducible refine w_cb ?_) | (with_reducible refine w_bm0 ?_) | (with_reducible refine w_bm ?_)
  | (with_reducible refine w_test ?_) | (with_reducible refine w_B ?_) | (with_reducible refine w_notT ?_) | (with_reducible refine w_yes ?_) | (with_reducible refine w_notV ?_)
  | (with_reducible refine w_ifE ?_) | (with_reducible refine w_isN ?_) | (with_reducible refine w_notN ?_) | (with_reducible refine w_tr ?_) | (with_reducible refine w_chain ?_) | (with_reducible refine w_fld ?_) | (with_reducible refine w_sl ?_) | (with_reducible refine o_no ?_) | (with_reducible refine o_some ?_)
  | (with_reducible refine w_call0 ?_) | (with_reducible refine g_name ?_) | ((with_reducible refine' g_tup ?hx ?hy ?_); (case hx => exact rfl); (case hy => exact rfl)) | (with_reducible refine g_cons ?_) | (with_reducible refine g_nil ?_) | (with_reducible refine g_set ?_)
  | (with_reducible refine r3_add_ii ?_) | (with_reducible refine r3_sub ?_) | (with_reducible refine r3_lt ?_) | (with_reducible refine r3_le ?_) | (with_reducible refine r3_gt ?_) | (with_reducible refine r3_ge ?_) | (with_reducible refine u3_neg ?_)
  | (with_reducible refine c3_int_i ?_) | (with_reducible refine c3_int_b ?_) | (with_reducible refine c3_abs ?_) | (with_reducible refine c3_len_t ?_) | (with_reducible refine c3_len .fz ?_) | (with_reducible refine c3_max2 ?_) | (with_reducible refine c3_min2 ?_)
  | (with_reducible refine r3_eq (n := 9) (m := 9) okD_int okD_int ?_) | (with_reducible refine r3_ne (n := 9) (m := 9) okD_int okD_int ?_)
  | ((with_reducible refine' Exists.intro _ (And.intro ?hx ?_)); (case hx => exact rfl))
  | ((with_reducible refine' And.intro ?hx ?_); (case hx => (show List.length _ ≤ 100000); exact Nat.le_of_ble_eq_true rfl))
  | (with_reducible refine c3_lenL (c3_len_t ?_)) | (with_reducible refine c3_lenL (c3_len .fz ?_)))

section
variable {P : Program} {w : World} {K : PySem.W.Frag} {mg : Str → Option Value} {base : Heap} {A0 : Adr}

theorem ok_lw_is_whole (T : Tx P K mg A0) : FnOk P w K mg base CX0 1 A0.f_lw_is_whole A0.d_lw_is_whole ["_law_value_here"] (lift3 S_whole) := by
  refine T.F_lw_is_whole.ok sc_lw_is_whole (lift3_len fun ds M Q E ⟨a, h, _⟩ => by rw [h]; rfl) (fun cdv A outer s H vs Q E hr h => ?_)
  have hu := hr.units
  have hu5 := units65 hr
  refine ⟨_, (pss_one (ps_ret (pe_and (pe_callB (call_ISIK K rfl) (by rfl) T.n_isinstance (by decide +kernel) (pa_cons (pv 0) (pa_cons (pe_bltn (v := .ty "int") (by rfl) T.n_int (by decide +kernel) rfl) pa_nil))) (pe_one (pe_not (pe_callB (call_ISIK K rfl) (by rfl) T.n_isinstance (by decide +kernel) (pa_cons (pv 0) (pa_cons (pe_bltn (v := .ty "bool") (by rfl) T.n_bool (by decide +kernel) rfl) pa_nil)))))))), run3 h fun B ds M Q3 E3 hs hE => ?_⟩
  obtain ⟨x, rfl, sx, q⟩ := hs
  change W3s B _ _ [some x] M
  try dsimp only [cxOf, Cx.nox, Cx.wish]
  have key : ∀ a b, (tyD x == "") = false → PySem.W.kitOne K (.type (tyD x)) (.type "int") = some a → (a = true → PySem.W.kitOne K (.type (tyD x)) (.type "bool") = some b) → isI x = (a && !b) → W3s B (tRet (tAndV (tCB (rISI K) (tCons (tVar 0) (tCons (tC (.ty "int")) tNil))) (tNotV (tCB (rISI K) (tCons (tVar 0) (tCons (tC (.ty "bool")) tNil)))))) { nx := fun _ M => Q3 D.non M, rt := Q3 } [some x] M := by
    intro a b h0 h1 h2 e
    rw [e] at q
    refine s_ret (w_andP (a := a) (b := !b) ?_ (fun h => ?_) q)
    · repeat walk_at "t3"
      refine c3_ISI h0 h1 ?_
      exact ⟨rfl, rfl⟩
    · repeat walk_at "t3"
      refine c3_ISI h0 (h2 h) ?_
      exact ⟨_, rfl, rfl, rfl⟩
  rcases sx with ⟨i, rfl⟩ | ⟨b, rfl⟩ | rfl | ⟨s, rfl⟩ | ⟨l, rfl⟩
  · exact key true false rfl T.kit_ii (fun _ => T.kit_ib) rfl
  · exact key true true rfl T.kit_bi (fun _ => T.kit_bb) rfl
  · exact key false true rfl T.kit_ni (fun h => by cases h) rfl
  · exact key false true rfl T.kit_si (fun h => by cases h) rfl
  · exact key false true rfl T.kit_ti (fun h => by cases h) rfl
end
end LW
set_option pp.maxSteps 1500
set_option Elab.async false
set_option linter.all false
set_option maxRecDepth 100000
set_option maxHeartbeats 4000000
namespace LW
open PySem L2 T3
open Evl (Ex)
local macro_rules | `(tactic| walk_at "t3") => `(tactic| first
  | (with_reducible refine s_seq ?_) | (with_reducible refine s_asg ?_) | (with_reducible refine s_if ?_) | (with_reducible refine s_ret ?_) | (with_reducible refine s_drop ?_) | (with_reducible refine s_asgG ?_) | (with_reducible refine s_retN ?_)
  | (with_reducible refine s_next ?_) | (with_reducible refine s_brk ?_) | (with_reducible refine s_cont ?_) | (with_reducible refine s_par ?_) | (with_reducible refine s_fld ?_)
  | ((with_reducible refine' w_var ?hx ?_); (case hx => exact rfl)) | (with_reducible refine w_cI ?_) | (with_reducible refine w_cB ?_) | (with_reducible refine w_cS ?_) | (with_reducible refine w_cN ?_) | (with_reducible refine w_cT ?_) | (with_reducible refine w_cR ?_)
  | (with_reducible refine w_op ?_) | (with_reducible refine w_un ?_) | (with_reducible refine w_nil ?_) | (with_reducible refine w_tup ?_) | (with_reducible refine w_cons ?_) | (with_reducible refine w_cb ?_) | (with_reducible refine w_bm0 ?_) | (with_reducible refine w_bm ?_)
  | (with_reducible refine w_test ?_) | (with_reducible refine w_B ?_) | (with_reducible refine w_notT ?_) | (with_reducible refine w_yes ?_) | (with_reducible refine w_notV ?_)
  | (with_reducible refine w_ifE ?_) | (with_reducible refine w_isN ?_) | (with_reducible refine w_notN ?_) | (with_reducible refine w_tr ?_) | (with_reducible refine w_chain ?_) | (with_reducible refine w_fld ?_) | (with_reducible refine w_sl ?_) | (with_reducible refine o_no ?_) | (with_reducible refine o_some ?_)
  | (with_reducible refine w_call0 ?_) | (with_reducible refine g_name ?_) | ((with_reducible refine' g_tup ?hx ?hy ?_); (case hx => exact rfl); (case hy => exact rfl)) | (with_reducible refine g_cons ?_) | (with_reducible refine g_nil ?_) | (with_reducible refine g_set ?_)
  | (with_reducible refine r3_add_ii ?_) | (with_reducible refine r3_sub ?_) | (with_reducible refine r3_lt ?_) | (with_reducible refine r3_le ?_) | (with_reducible refine r3_gt ?_) | (with_reducible refine r3_ge ?_) | (with_reducible refine u3_neg ?_)
  | (with_reducible refine c3_int_i ?_) | (with_reducible refine c3_int_b ?_) | (with_reducible refine c3_abs ?_) | (with_reducible refine c3_len_t ?_) | (with_reducible refine c3_len .fz ?_) | (with_reducible refine c3_max2 ?_) | (with_reducible refine c3_min2 ?_)
  | (with_reducible refine r3_eq (n := 9) (m := 9) okD_int okD_int ?_) | (with_reducible refine r3_ne (n := 9) (m := 9) okD_int okD_int ?_)
  | ((with_reducible refine' Exists.intro _ (And.intro ?hx ?_)); (case hx => exact rfl))
  | ((with_reducible refine' And.intro ?hx ?_); (case hx => (show List.length _ ≤ 100000); exact Nat.le_of_ble_eq_true rfl))
  | (with_reducible refine c3_lenL (c3_len_t ?_)) | (with_reducible refine c3_lenL (c3_len .fz ?_)))

section
variable {P : Program} {w : World} {K : PySem.W.Frag} {mg : Str → Option Value} {base : Heap} {A0 : Adr}

def S_source (K : PySem.W.Frag) : Hp → Sp3 := fun F ds M Q _ => ∃ (a : Addr) (ns : List Int), ds = [.ref a] ∧ SqL K F a (ns.map V.int) ∧ ns.length ≤ 63 ∧ ∀ p o, M p = none → IsSrc o → Q (.ref p) (mput M p o)
theorem source_mono : ∀ F F' ds M Q E, Ex F F' → S_source K F ds M Q E → S_source K F' ds M Q E := fun F F' ds M Q E e ⟨a, ns, h1, h2, h3⟩ => ⟨a, ns, h1, Evl.ex_l e h2, h3⟩
theorem ok_source (T : Tx P K mg A0) : FnOk P w K mg base CX0 1 A0.f_source A0.d_source ["_law_script"] (lift3B (S_source K)) := by
  refine T.F_source.ok sc_source (lift3B_len fun F ds M Q E ⟨a, b, h, _⟩ => by rw [h]; rfl) (fun cdv A outer s H vs Q E hr h => ?_)
  have hu := hr.units
  have hu5 := units65 hr
  refine ⟨_, (pss_one (ps_ret (pe_lst (pa_cons (pe_lc (own := [("_law_cell", 1)]) (g := (gName 1)) (by rfl) sc_source.nd (pi_list (pe_slice (sl_SLTK K rfl) (pv 0) po_none (po_some pe_int))) (blkOk_by (N := ["_law_script", "_law_cell"]) (sc := defScope s_source) (own := [("_law_cell", 1)]) (by decide +kernel)) (fun _ _ _ _ _ => (pg_name (i := 1) sc_source.nd (by rfl) (Or.inl (by rfl)))) (fun _ _ _ _ _ => pts_nil) (fun _ _ _ _ _ => (pe_callTy call_int1 (by rfl) T.n_int (by decide +kernel) (pa_cons (pv 1) pa_nil)))) (pa_cons pe_int (pa_cons pe_int (pa_cons pe_int pa_nil))))))), run3B h fun B ds M Q3 E3 hs hE => ?_⟩
  obtain ⟨a, ns, rfl, hS, hl, q⟩ := hs
  change W3s B _ _ [some (.ref a), none] M
  try dsimp only [cxOf, Cx.nox, Cx.wish]
  repeat walk_at "t3"
  refine w_lstO ?_
  repeat walk_at "t3"
  refine w_lcP (fun _ => true) (fun d => d) own_name (i_list ?_)
  repeat walk_at "t3"
  refine s3_L <| s3_q hS ?_
  repeat walk_at "t3"
  have ec : cutD (ns.map D.int) none (some 63) = ((ns.drop (HT.sIx (ns.map D.int).length 0 none)).take (HT.sIx (ns.map D.int).length (ns.map D.int).length (some 63) - HT.sIx (ns.map D.int).length 0 none)).map D.int := by
    unfold cutD; rw [List.map_take, List.map_drop]
  have lc : ∀ x y : Nat, ((ns.drop x).take y).length ≤ 63 := fun x y => by rw [List.length_take, List.length_drop]; omega
  rw [ec]
  generalize hc : (ns.drop (HT.sIx (ns.map D.int).length 0 none)).take (HT.sIx (ns.map D.int).length (ns.map D.int).length (some 63) - HT.sIx (ns.map D.int).length 0 none) = cells
  have lc : cells.length ≤ 63 := by rw [← hc]; exact lc _ _
  refine ⟨by rw [List.length_map]; omega, trivial, ?_, ?_⟩
  · intro i d M' hi _
    obtain ⟨z, hz, rfl⟩ := map_at hi
    repeat walk_at "t3"
    refine ⟨rfl, ?_⟩
    repeat walk_at "t3"
    refine ⟨rfl, rfl, fun _ => ?_⟩
    repeat walk_at "t3"
    exact ⟨rfl, rfl⟩
  have e : ((cells.map D.int).filter (fun _ => true)).map (fun d => d) = cells.map D.int := by rw [List.filter_eq_self.mpr (fun _ _ => rfl), List.map_id']
  rw [e]
  repeat walk_at "t3"
  exact fun p hp => q p _ hp ⟨cells, 0, 0, 0, rfl, lc, by decide, by decide, by decide, by decide⟩
end
end LW
set_option pp.maxSteps 1500
set_option Elab.async false
set_option linter.all false
set_option maxRecDepth 100000
set_option maxHeartbeats 4000000
namespace LW
open PySem L2 T3
open Evl (Ex)
local macro_rules | `(tactic| walk_at "t3") => `(tactic| first
  | (with_reducible refine s_seq ?_) | (with_reducible refine s_asg ?_) | (with_reducible refine s_if ?_) | (with_reducible refine s_ret ?_) | (with_reducible refine s_drop ?_) | (with_reducible refine s_asgG ?_) | (with_reducible refine s_retN ?_)
  | (with_reducible refine s_next ?_) | (with_reducible refine s_brk ?_) | (with_reducible refine s_cont ?_) | (with_reducible refine s_par ?_) | (with_reducible refine s_fld ?_)
  | ((with_reducible refine' w_var ?hx ?_); (case hx => exact rfl)) | (with_reducible refine w_cI ?_) | (with_reducible refine w_cB ?_) | (with_reducible refine w_cS ?_) | (with_reducible refine w_cN ?_) | (with_reducible refine w_cT ?_) | (with_reducible refine w_cR ?_)
  | (with_reducible refine w_op ?_) | (with_reducible refine w_un ?_) | (with_reducible refine w_nil ?_) | (with_reducible refine w_tup ?_) | (with_reducible refine w_cons ?_) | (with_reducible refine w_cb ?_) | (with_reducible refine w_bm0 ?_) | (with_reducible refine w_bm ?_)
  | (with_reducible refine w_test ?_) | (with_reducible refine w_B ?_) | (with_reducible refine w_notT ?_) | (with_reducible refine w_yes ?_) | (with_reducible refine w_notV ?_)
  | (with_reducible refine w_ifE ?_) | (with_reducible refine w_isN ?_) | (with_reducible refine w_notN ?_) | (with_reducible refine w_tr ?_) | (with_reducible refine w_chain ?_) | (with_reducible refine w_fld ?_) | (with_reducible refine w_sl ?_) | (with_reducible refine o_no ?_) | (with_reducible refine o_some ?_)
  | (with_reducible refine w_call0 ?_) | (with_reducible refine g_name ?_) | ((with_reducible refine' g_tup ?hx ?hy ?_); (case hx => exact rfl); (case hy => exact rfl)) | (with_reducible refine g_cons ?_) | (with_reducible refine g_nil ?_) | (with_reducible refine g_set ?_)
  | (with_reducible refine r3_add_ii ?_) | (with_reducible refine r3_sub ?_) | (with_reducible refine r3_lt ?_) | (with_reducible refine r3_le ?_) | (with_reducible refine r3_gt ?_) | (with_reducible refine r3_ge ?_) | (with_reducible refine u3_neg ?_)
  | (with_reducible refine c3_int_i ?_) | (with_reducible refine c3_int_b ?_) | (with_reducible refine c3_abs ?_) | (with_reducible refine c3_len_t ?_) | (with_reducible refine c3_len .fz ?_) | (with_reducible refine c3_max2 ?_) | (with_reducible refine c3_min2 ?_)
  | (with_reducible refine r3_eq (n := 9) (m := 9) okD_int okD_int ?_) | (with_reducible refine r3_ne (n := 9) (m := 9) okD_int okD_int ?_)
  | ((with_reducible refine' Exists.intro _ (And.intro ?hx ?_)); (case hx => exact rfl))
  | ((with_reducible refine' And.intro ?hx ?_); (case hx => (show List.length _ ≤ 100000); exact Nat.le_of_ble_eq_true rfl))
  | (with_reducible refine c3_lenL (c3_len_t ?_)) | (with_reducible refine c3_lenL (c3_len .fz ?_)))

section
variable {P : Program} {w : World} {K : PySem.W.Frag} {mg : Str → Option Value} {base : Heap} {A0 : Adr}

/-! ### straight forms, plainly -/
abbrev Tm := Am × Int
def tD (t : Tm) : D := .tup [aD t.1, .int t.2]
def cf : List Tm → Am → Int
  | [], _ => 0
  | t :: l, a => (if t.1 = a then t.2 else 0) + cf l a
theorem cf_app (l m : List Tm) (a : Am) : cf (l ++ m) a = cf l a + cf m a := by
  induction l with
  | nil => simp [cf]
  | cons t l ih => simp only [List.cons_append, cf, ih]; omega
theorem cf_none {l : List Tm} {a : Am} (h : ∀ t ∈ l, t.1 ≠ a) : cf l a = 0 := by
  induction l with
  | nil => rfl
  | cons t l ih =>
    unfold cf
    rw [if_neg (h t (List.mem_cons_self ..)), ih fun x hx => h x (List.mem_cons_of_mem _ hx)]; rfl
def wA (a : Am) : Int := if a.1 then 1 else 0
def ltA (a b : Am) : Prop := a.2 < b.2 ∨ (a.2 = b.2 ∧ wA a < wA b)
theorem wA_inj {a b : Am} (h : wA a = wA b) : a.1 = b.1 := by
  unfold wA at h
  cases ha : a.1 <;> cases hb : b.1 <;> simp [ha, hb] at h ⊢
theorem am_ext {a b : Am} (h1 : a.2 = b.2) (h2 : wA a = wA b) : a = b := Prod.ext (wA_inj h2) h1
theorem ltA_irr {a : Am} : ¬ ltA a a := fun h => by unfold ltA at h; omega
theorem ltA_asym {a b : Am} (h : ltA a b) : ¬ ltA b a := fun h' => by unfold ltA at h h'; omega
def leA (a b : Am) : Bool := decide ((a.2 : Int) < b.2 ∨ ((a.2 : Int) = b.2 ∧ wA a ≤ wA b))
theorem leA_lt {a b : Am} (h : leA a b = true) (hn : a ≠ b) : ltA a b := by
  have h := of_decide_eq_true h
  unfold ltA
  rcases h with h | ⟨h1, h2⟩
  · left; omega
  · refine .inr ⟨by omega, ?_⟩
    by_cases e : wA a = wA b
    · exact absurd (am_ext (by omega) e) hn
    · omega
theorem leA_trans (a b c : Am) (h1 : leA a b = true) (h2 : leA b c = true) : leA a c = true := by
  have h1 := of_decide_eq_true h1
  have h2 := of_decide_eq_true h2
  refine decide_eq_true ?_
  omega
theorem leA_total (a b : Am) : (leA a b || leA b a) = true := by
  rw [Bool.or_eq_true]
  by_cases h : leA a b = true
  · exact .inl h
  · refine .inr (decide_eq_true ?_)
    have : ¬ ((a.2 : Int) < b.2 ∨ ((a.2 : Int) = b.2 ∧ wA a ≤ wA b)) := fun z => h (decide_eq_true z)
    omega
def Srt (L : List Tm) : Prop := L.Pairwise fun s t => ltA s.1 t.1
theorem srt_ext : ∀ {L L' : List Tm}, Srt L → Srt L' → (∀ t, t ∈ L ↔ t ∈ L') → L = L'
  | [], [], _, _, _ => rfl
  | [], y :: _, _, _, h => absurd ((h y).mpr (List.mem_cons_self ..)) (by simp)
  | x :: _, [], _, _, h => absurd ((h x).mp (List.mem_cons_self ..)) (by simp)
  | x :: l, y :: m, s1, s2, h => by
    obtain ⟨a1, b1⟩ := List.pairwise_cons.mp s1
    obtain ⟨a2, b2⟩ := List.pairwise_cons.mp s2
    have e : x = y := by
      rcases List.mem_cons.mp ((h x).mp (List.mem_cons_self ..)) with e | h1
      · exact e
      · rcases List.mem_cons.mp ((h y).mpr (List.mem_cons_self ..)) with e | h2
        · exact e.symm
        · exact absurd (a2 x h1) (ltA_asym (a1 y h2))
    subst e
    rw [srt_ext b1 b2 fun t => ⟨fun ht => ?_, fun ht => ?_⟩]
    · rcases List.mem_cons.mp ((h t).mp (List.mem_cons_of_mem _ ht)) with e | h1
      · rw [e] at ht; exact absurd (a1 x ht) ltA_irr
      · exact h1
    · rcases List.mem_cons.mp ((h t).mpr (List.mem_cons_of_mem _ ht)) with e | h1
      · rw [e] at ht; exact absurd (a2 x ht) ltA_irr
      · exact h1
theorem srt_cf : ∀ {L : List Tm} {t : Tm}, Srt L → t ∈ L → cf L t.1 = t.2
  | x :: l, t, s, h => by
    obtain ⟨a1, b1⟩ := List.pairwise_cons.mp s
    unfold cf
    rcases List.mem_cons.mp h with e | h
    · subst e
      rw [if_pos rfl, cf_none (a := t.1) fun y hy e => (by have := a1 y hy; rw [e] at this; exact ltA_irr this)]; omega
    · have : ¬ x.1 = t.1 := fun e => (by have := a1 t h; rw [e] at this; exact ltA_irr this)
      rw [if_neg this, srt_cf b1 h]; omega
structure NF (c : Am → Int) (L : List Tm) : Prop where
  srt : Srt L
  nz : ∀ t ∈ L, t.2 ≠ 0
  mem : ∀ (a : Am) (n : Int), n ≠ 0 → ((a, n) ∈ L ↔ c a = n)
theorem NF.uniq {c : Am → Int} {L L' : List Tm} (h : NF c L) (h' : NF c L') : L = L' := srt_ext h.srt h'.srt fun t => by
  constructor
  · exact fun ht => (h'.mem t.1 t.2 (h.nz t ht)).mpr ((h.mem t.1 t.2 (h.nz t ht)).mp ht)
  · exact fun ht => (h.mem t.1 t.2 (h'.nz t ht)).mpr ((h'.mem t.1 t.2 (h'.nz t ht)).mp ht)
theorem NF.cf {c : Am → Int} {L : List Tm} (h : NF c L) (a : Am) : LW.cf L a = c a := by
  by_cases hz : c a = 0
  · rw [hz, cf_none fun t ht e => ?_]
    have := (h.mem t.1 t.2 (h.nz t ht)).mp ht
    rw [e, hz] at this
    exact h.nz t ht this.symm
  · exact srt_cf (t := (a, c a)) h.srt ((h.mem a _ hz).mpr rfl)
theorem NF.congr {c c' : Am → Int} {L : List Tm} (h : NF c L) (e : ∀ a, c a = c' a) : NF c' L := by
  rw [← funext e]; exact h
theorem nf_self {L : List Tm} (s : Srt L) (nz : ∀ t ∈ L, t.2 ≠ 0) : NF (cf L) L where
  srt := s
  nz := nz
  mem := fun a n hn => ⟨fun h => srt_cf s h, fun h => by
    by_cases hk : ∃ t ∈ L, t.1 = a
    · obtain ⟨t, ht, rfl⟩ := hk
      have := srt_cf s ht
      rw [h] at this
      rw [this]; exact ht
    · exact absurd ((cf_none fun t ht e => hk ⟨t, ht, e⟩).symm.trans h).symm hn⟩
theorem NF.nil {c : Am → Int} (h : ∀ a, c a = 0) : NF c [] := ⟨.nil, fun _ h => (nomatch h), fun a n hn => ⟨fun h => (nomatch h), fun e => absurd ((h a).symm.trans e).symm hn⟩⟩
/-- terms with new numbers -/
theorem cf_map {g : Int → Int} (h0 : g 0 = 0) {L : List Tm} (s : Srt L) (a : Am) : cf (L.map fun t => (t.1, g t.2)) a = g (cf L a) := by
  by_cases hk : ∃ t ∈ L, t.1 = a
  · obtain ⟨t, ht, rfl⟩ := hk
    rw [srt_cf s ht]
    have s2 : Srt (L.map fun t => (t.1, g t.2)) := List.pairwise_map.mpr s
    exact srt_cf (t := (t.1, g t.2)) s2 (List.mem_map.mpr ⟨t, ht, rfl⟩)
  · rw [cf_none fun t ht e => hk ⟨t, ht, e⟩, h0]
    refine cf_none fun t ht e => ?_
    obtain ⟨u, hu, rfl⟩ := List.mem_map.mp ht
    exact hk ⟨u, hu, e⟩
theorem cf_mul (l : List Tm) (k : Int) (a : Am) : cf (l.map fun t => (t.1, t.2 * k)) a = cf l a * k := by
  induction l with
  | nil => simp [cf]
  | cons t l ih =>
    simp only [List.map_cons, cf, ih, Int.add_mul]
    split <;> simp
/-! ### the table of the numbers -/
def aK (a : Am) : List Key := [.inr (if a.1 then "leave" else "take"), .inl a.2]
theorem aD_K (a : Am) : aD a = .tup ((aK a).map kD) := rfl
theorem aK_inj {a b : Am} (h : aK a = aK b) : a = b := by
  have e := pq_aD a b
  rw [aD_K a, h, ← aD_K b, pq_aD, decide_eq_true rfl] at e
  exact of_decide_eq_true e.symm
def tK (l : List Tm) : List (List Key × Int) := l.map fun t => (aK t.1, t.2)
def getA (l : List Tm) (a : Am) : Option Int := (l.find? fun t => decide (t.1 = a)).map (·.2)
def putA (l : List Tm) (a : Am) (n : Int) : List Tm := if (l.any fun t => decide (t.1 = a)) = true then l.map (fun t => if t.1 = a then (t.1, n) else t) else l ++ [(a, n)]
theorem dec_K (a b : Am) : decide (aK a = aK b) = decide (a = b) := by
  by_cases h : a = b
  · subst h; simp
  · rw [decide_eq_false h, decide_eq_false fun e => h (aK_inj e)]
theorem valD_tK (l : List Tm) (a : Am) : valD (kI (tK l)) (aK a) = (getA l a).map D.int := by
  unfold getA kI tK valD
  induction l with
  | nil => rfl
  | cons t l ih =>
    simp only [List.map_cons, List.find?_cons, dec_K]
    by_cases h : t.1 = a
    · simp [h]
    · simp only [h, decide_false]; exact ih
theorem any_tK (l : List Tm) (a : Am) : ((kI (tK l)).any fun kv => decide (kv.1 = aK a)) = l.any fun t => decide (t.1 = a) := by
  unfold kI tK
  rw [List.map_map, List.any_map]
  congr 1
  funext t
  exact dec_K t.1 a
theorem putKD_tK (l : List Tm) (a : Am) (n : Int) : putKD (kI (tK l)) (aK a) (.int n) = kI (tK (putA l a n)) := by
  unfold putKD
  rw [any_tK]
  unfold putA
  split
  · unfold kI tK
    simp only [List.map_map]
    refine List.map_congr_left fun t _ => ?_
    show (if aK t.1 = aK a then (aK t.1, D.int n) else (aK t.1, D.int t.2)) = _
    by_cases h : t.1 = a
    · rw [h, if_pos rfl]
      show _ = (aK (if t.1 = a then (t.1, n) else t).1, D.int (if t.1 = a then (t.1, n) else t).2)
      rw [if_pos h, h]
    · rw [if_neg fun e => h (aK_inj e)]
      show _ = (aK (if t.1 = a then (t.1, n) else t).1, D.int (if t.1 = a then (t.1, n) else t).2)
      rw [if_neg h]
  · unfold kI tK; simp
theorem getA_put (l : List Tm) (a b : Am) (n : Int) : getA (putA l a n) b = if b = a then some n else getA l b := by
  unfold putA
  split
  · rename_i h
    unfold getA
    induction l with
    | nil => cases h
    | cons t l ih =>
      rw [List.map_cons, List.find?_cons, List.find?_cons]
      by_cases ha : t.1 = a
      · rw [if_pos ha]
        by_cases hb : b = a
        · simp [ha, hb]
        · have hb2 : ¬ a = b := fun e => hb e.symm
          have : ¬ t.1 = b := by rw [ha]; exact hb2
          simp only [ha, hb2, hb, decide_false, if_false]
          by_cases hl : (l.any fun t => decide (t.1 = a)) = true
          · have := ih hl
            rw [if_neg hb] at this
            exact this
          · have e : (l.map fun t => if t.1 = a then (t.1, n) else t) = l := by
              refine (List.map_congr_left fun t ht => ?_).trans (List.map_id l)
              have : ¬ t.1 = a := fun e => hl (List.any_eq_true.mpr ⟨t, ht, decide_eq_true e⟩)
              rw [if_neg this]; rfl
            rw [e]
      · rw [if_neg ha]
        have hl : (l.any fun t => decide (t.1 = a)) = true := by
          rw [List.any_cons, decide_eq_false ha, Bool.false_or] at h
          exact h
        by_cases hb : t.1 = b
        · have : ¬ b = a := fun e => ha (hb.trans e)
          simp [hb, this]
        · simp only [hb, decide_false]
          exact ih hl
  · rename_i h
    unfold getA
    rw [List.find?_append]
    by_cases hb : b = a
    · subst hb
      have : (l.find? fun t => decide (t.1 = b)) = none := List.find?_eq_none.mpr fun t ht e => h (List.any_eq_true.mpr ⟨t, ht, e⟩)
      rw [this]; simp
    · have hb2 : ¬ a = b := fun e => hb e.symm
      simp [hb, hb2]
theorem putA_keys (l : List Tm) (a : Am) (n : Int) : (putA l a n).map (·.1) = if (l.any fun t => decide (t.1 = a)) = true then l.map (·.1) else l.map (·.1) ++ [a] := by
  unfold putA
  split
  · rw [List.map_map]
    refine List.map_congr_left fun t _ => ?_
    show (if t.1 = a then (t.1, n) else t).1 = t.1
    split <;> rfl
  · simp
/-- the table of terms added one by one: tb l for c -/
structure Tab (c : Am → Int) (l : List Tm) : Prop where
  nd : (l.map (·.1)).Nodup
  val : ∀ a, (getA l a).getD 0 = c a
theorem Tab.nil : Tab (cf []) [] := ⟨.nil, fun _ => rfl⟩
theorem Tab.put {l ts : List Tm} (h : Tab (cf ts) l) (t : Tm) : Tab (cf (ts ++ [t])) (putA l t.1 ((getA l t.1).getD 0 + t.2)) where
  nd := by
    rw [putA_keys]
    split
    · exact h.nd
    · rename_i hn
      refine List.nodup_append.mpr ⟨h.nd, (by simp), fun x hx y hy e => ?_⟩
      obtain rfl := List.mem_singleton.mp hy
      obtain ⟨u, hu, rfl⟩ := List.mem_map.mp hx
      exact hn (List.any_eq_true.mpr ⟨u, hu, decide_eq_true e⟩)
  val := fun a => by
    rw [getA_put, cf_app, ← h.val a]
    show _ = _ + ((if t.1 = a then t.2 else 0) + 0)
    by_cases e : a = t.1
    · subst e; simp
    · rw [if_neg e, if_neg fun z => e z.symm]; omega
theorem getA_mem {l : List Tm} (nd : (l.map (·.1)).Nodup) {t : Tm} (h : t ∈ l) : getA l t.1 = some t.2 := by
  unfold getA
  induction l with
  | nil => cases h
  | cons x l ih =>
    obtain ⟨h1, h2⟩ := List.nodup_cons.mp nd
    rw [List.find?_cons]
    rcases List.mem_cons.mp h with rfl | h
    · simp
    · have : ¬ x.1 = t.1 := fun e => h1 (List.mem_map.mpr ⟨t, h, e.symm⟩)
      simp only [this, decide_false]
      exact ih h2 h
theorem mem_getA {l : List Tm} {a : Am} {n : Int} (h : getA l a = some n) : (a, n) ∈ l := by
  unfold getA at h
  obtain ⟨t, h1, h2⟩ := Option.map_eq_some_iff.mp h
  have h3 : t.1 = a := of_decide_eq_true (List.find?_some (p := fun t : Tm => decide (t.1 = a)) h1)
  have h4 := List.mem_of_find?_eq_some h1
  subst h3; subst h2
  exact h4
theorem srt_of {l : List Am} (nd : l.Nodup) (h : l.Pairwise fun a b => leA a b = true) : l.Pairwise ltA := by
  induction l with
  | nil => exact .nil
  | cons a l ih =>
    obtain ⟨h1, h2⟩ := List.nodup_cons.mp nd
    obtain ⟨h3, h4⟩ := List.pairwise_cons.mp h
    exact List.pairwise_cons.mpr ⟨fun b hb => leA_lt (h3 b hb) fun e => h1 (e ▸ hb), ih h2 h4⟩
theorem sort_srt {l : List Am} (nd : l.Nodup) : (l.mergeSort leA).Pairwise ltA := srt_of ((List.mergeSort_perm l leA).nodup_iff.mpr nd) (List.pairwise_mergeSort leA_trans leA_total l)
/-- what Form.__init__ leaves -/
theorem Tab.form {c : Am → Int} {l : List Tm} (h : Tab c l) : NF c ((((l.map (·.1)).mergeSort leA).filter fun a => decide (c a ≠ 0)).map fun a => (a, c a)) where
  srt := List.pairwise_map.mpr ((sort_srt h.nd).filter _)
  nz := fun t ht => by
    obtain ⟨a, ha, rfl⟩ := List.mem_map.mp ht
    exact of_decide_eq_true (List.mem_filter.mp ha).2
  mem := fun a n hn => by
    constructor
    · intro h1
      obtain ⟨b, hb, e⟩ := List.mem_map.mp h1
      cases e; rfl
    · rintro rfl
      refine List.mem_map.mpr ⟨a, List.mem_filter.mpr ⟨List.mem_mergeSort.mpr ?_, decide_eq_true hn⟩, rfl⟩
      have := h.val a
      cases e : getA l a with
      | none => rw [e] at this; exact absurd this.symm hn
      | some n => exact List.mem_map.mpr ⟨(a, n), mem_getA e, rfl⟩
def leT (s t : Tm) : Bool := leA s.1 t.1
/-- what the law's rows are -/
theorem Tab.rows {c : Am → Int} {l : List Tm} (h : Tab c l) : NF c ((l.filter fun t => decide (t.2 ≠ 0)).mergeSort leT) where
  srt := by
    have hp := List.pairwise_mergeSort (le := leT) (fun a b c => leA_trans a.1 b.1 c.1) (fun a b => leA_total a.1 b.1) (l.filter fun t => decide (t.2 ≠ 0))
    have nd : (((l.filter fun t => decide (t.2 ≠ 0)).mergeSort leT).map (·.1)).Nodup := ((List.mergeSort_perm _ leT).map _).nodup_iff.mpr ((List.filter_sublist.map _).nodup h.nd)
    exact List.pairwise_map.mp (srt_of nd (List.pairwise_map.mpr hp))
  nz := fun t ht => of_decide_eq_true (List.mem_filter.mp (List.mem_mergeSort.mp ht)).2
  mem := fun a n hn => by
    rw [List.mem_mergeSort, List.mem_filter]
    constructor
    · rintro ⟨h1, _⟩
      rw [← h.val a, getA_mem h.nd h1]; rfl
    · intro e
      refine ⟨mem_getA ?_, decide_eq_true hn⟩
      have := h.val a
      rw [e] at this
      cases e2 : getA l a with
      | none => rw [e2] at this; exact absurd this.symm hn
      | some m => rw [e2] at this; rw [show m = n from this]
end
end LW
set_option pp.maxSteps 1500
set_option Elab.async false
set_option linter.all false
set_option maxRecDepth 100000
set_option maxHeartbeats 4000000
namespace LW
open PySem L2 T3
open Evl (Ex)
local macro_rules | `(tactic| walk_at "t3") => `(tactic| first
  | (with_reducible refine s_seq ?_) | (with_reducible refine s_asg ?_) | (with_reducible refine s_if ?_) | (with_reducible refine s_ret ?_) | (with_reducible refine s_drop ?_) | (with_reducible refine s_asgG ?_) | (with_reducible refine s_retN ?_)
  | (with_reducible refine s_next ?_) | (with_reducible refine s_brk ?_) | (with_reducible refine s_cont ?_) | (with_reducible refine s_par ?_) | (with_reducible refine s_fld ?_)
  | ((with_reducible refine' w_var ?hx ?_); (case hx => exact rfl)) | (with_reducible refine w_cI ?_) | (with_reducible refine w_cB ?_) | (with_reducible refine w_cS ?_) | (with_reducible refine w_cN ?_) | (with_reducible refine w_cT ?_) | (with_reducible refine w_cR ?_)
  | (with_reducible refine w_op ?_) | (with_reducible refine w_un ?_) | (with_reducible refine w_nil ?_) | (with_reducible refine w_tup ?_) | (with_reducible refine w_cons ?_) | (with_reducible refine w_cb ?_) | (with_reducible refine w_bm0 ?_) | (with_reducible refine w_bm ?_)
  | (with_reducible refine w_test ?_) | (with_reducible refine w_B ?_) | (with_reducible refine w_notT ?_) | (with_reducible refine w_yes ?_) | (with_reducible refine w_notV ?_)
  | (with_reducible refine w_ifE ?_) | (with_reducible refine w_isN ?_) | (with_reducible refine w_notN ?_) | (with_reducible refine w_tr ?_) | (with_reducible refine w_chain ?_) | (with_reducible refine w_fld ?_) | (with_reducible refine w_sl ?_) | (with_reducible refine o_no ?_) | (with_reducible refine o_some ?_)
  | (with_reducible refine w_call0 ?_) | (with_reducible refine g_name ?_) | ((with_reducible refine' g_tup ?hx ?hy ?_); (case hx => exact rfl); (case hy => exact rfl)) | (with_reducible refine g_cons ?_) | (with_reducible refine g_nil ?_) | (with_reducible refine g_set ?_)
  | (with_reducible refine r3_add_ii ?_) | (with_reducible refine r3_sub ?_) | (with_reducible refine r3_lt ?_) | (with_reducible refine r3_le ?_) | (with_reducible refine r3_gt ?_) | (with_reducible refine r3_ge ?_) | (with_reducible refine u3_neg ?_)
  | (with_reducible refine c3_int_i ?_) | (with_reducible refine c3_int_b ?_) | (with_reducible refine c3_abs ?_) | (with_reducible refine c3_len_t ?_) | (with_reducible refine c3_len .fz ?_) | (with_reducible refine c3_max2 ?_) | (with_reducible refine c3_min2 ?_)
  | (with_reducible refine r3_eq (n := 9) (m := 9) okD_int okD_int ?_) | (with_reducible refine r3_ne (n := 9) (m := 9) okD_int okD_int ?_)
  | ((with_reducible refine' Exists.intro _ (And.intro ?hx ?_)); (case hx => exact rfl))
  | ((with_reducible refine' And.intro ?hx ?_); (case hx => (show List.length _ ≤ 100000); exact Nat.le_of_ble_eq_true rfl))
  | (with_reducible refine c3_lenL (c3_len_t ?_)) | (with_reducible refine c3_lenL (c3_len .fz ?_)))

section
variable {P : Program} {w : World} {K : PySem.W.Frag} {mg : Str → Option Value} {base : Heap} {A0 : Adr}

local macro_rules | `(tactic| walk_at "t3q") => `(tactic| first
  | (with_reducible refine s_seq ?_) | (with_reducible refine s_asg ?_) | (with_reducible refine s_if ?_) | (with_reducible refine s_ret ?_) | (with_reducible refine s_drop ?_) | (with_reducible refine s_asgG ?_) | (with_reducible refine s_retN ?_)
  | (with_reducible refine s_next ?_) | (with_reducible refine s_brk ?_) | (with_reducible refine s_cont ?_) | (with_reducible refine s_par ?_) | (with_reducible refine s_fld ?_)
  | ((with_reducible refine' w_var ?hx ?_); (case hx => exact rfl)) | (with_reducible refine w_cI ?_) | (with_reducible refine w_cB ?_) | (with_reducible refine w_cS ?_) | (with_reducible refine w_cN ?_) | (with_reducible refine w_cT ?_) | (with_reducible refine w_cR ?_)
  | (with_reducible refine w_op ?_) | (with_reducible refine w_un ?_) | (with_reducible refine w_nil ?_) | (with_reducible refine w_tup ?_) | (with_reducible refine w_cons ?_) | (with_reducible refine w_cb ?_) | (with_reducible refine w_bm0 ?_) | (with_reducible refine w_bm ?_)
  | (with_reducible refine w_test ?_) | (with_reducible refine w_B ?_) | (with_reducible refine w_notT ?_) | (with_reducible refine w_yes ?_) | (with_reducible refine w_notV ?_)
  | (with_reducible refine w_ifE ?_) | (with_reducible refine w_isN ?_) | (with_reducible refine w_notN ?_) | (with_reducible refine w_tr ?_) | (with_reducible refine w_chain ?_) | (with_reducible refine w_fld ?_) | (with_reducible refine w_sl ?_) | (with_reducible refine o_no ?_) | (with_reducible refine o_some ?_)
  | (with_reducible refine g_name ?_) | ((with_reducible refine' g_tup ?hx ?hy ?_); (case hx => exact rfl); (case hy => exact rfl)) | (with_reducible refine g_cons ?_) | (with_reducible refine g_nil ?_) | (with_reducible refine g_set ?_)
  | (with_reducible refine r3_add_ii ?_) | (with_reducible refine r3_sub ?_) | (with_reducible refine r3_lt ?_) | (with_reducible refine r3_le ?_) | (with_reducible refine r3_gt ?_) | (with_reducible refine r3_ge ?_) | (with_reducible refine u3_neg ?_)
  | (with_reducible refine c3_int_i ?_) | (with_reducible refine c3_int_b ?_) | (with_reducible refine c3_abs ?_) | (with_reducible refine c3_len_t ?_) | (with_reducible refine c3_len .fz ?_) | (with_reducible refine c3_max2 ?_) | (with_reducible refine c3_min2 ?_)
  | (with_reducible refine r3_eq (n := 9) (m := 9) okD_int okD_int ?_) | (with_reducible refine r3_ne (n := 9) (m := 9) okD_int okD_int ?_)
  | ((with_reducible refine' Exists.intro _ (And.intro ?hx ?_)); (case hx => exact rfl))
  | ((with_reducible refine' And.intro ?hx ?_); (case hx => (show List.length _ ≤ 100000); exact Nat.le_of_ble_eq_true rfl))
  | (with_reducible refine c3_lenL (c3_len_t ?_)) | (with_reducible refine c3_lenL (c3_len .fz ?_)))

def S_camount (A0 : Adr) : Sp3 := fun ds M Q E => ∃ x : D, ds = [x] ∧ AmV x ∧ (isAm x = true → Q .non M) ∧ (isAm x = false → E A0.f_BadAmount x M)
theorem ok_check_amount (T : Tx P K mg A0) : FnOk P w K mg base (L2.CX P w) 3 A0.f_check_amount A0.d_check_amount ["amount"] (lift3 (S_camount A0)) := by
  refine T.F_check_amount.okX sc_check_amount (lift3_len fun ds M Q E ⟨a, h, _⟩ => by rw [h]; rfl) (fun cdv A outer s H vs Q E hr h => ?_)
  have hu := hr.units
  have hu5 := units65 hr
  refine ⟨_, (pss_one (ps_if (pt_not (pt_truthK K rfl (pe_call (ok_is_amount T) (hr.mono (by decide)) (by rfl) T.g_is_amount T.k_is_amount T.b_is_amount .nil pass0 (pa_cons (pv 0) pa_nil)) (by intro _; rfl))) (pss_one (ps_raiseDye (by rfl) T.dye_BadAmount T.g_BadAmount hr (takes_of rfl rfl rfl rfl) (pa_cons (pv 0) (pa_cons pe_str pa_nil)))) pss_nil)), run3 h fun B ds M Q3 E3 hs hE => ?_⟩
  obtain ⟨x, rfl, vx, q, qe⟩ := hs
  change W3s B _ _ [some x] _
  try dsimp only [cxOf, Cx.nox, Cx.wish]
  repeat walk_at "t3"
  refine ⟨x, rfl, vx, isAm x, rfl, ?_⟩
  cases h : isAm x with
  | true =>
    refine iteB (fun h => by cases h) (fun _ => ?_)
    repeat walk_at "t3"
    exact q h
  | false =>
    refine iteB (fun _ => ?_) (fun h => by cases h)
    refine s_raise (impW_of hE) ?_
    repeat walk_at "t3"
    exact ⟨_, _, rfl, qe h⟩
/-- whole, and not below the least one -/
def whO : D → D → Bool
  | .int i, .int k => decide (k ≤ i)
  | .int _, _ => true
  | _, _ => false
theorem whO_not {x k : D} (h : isI x = false) : whO x k = false := by
  cases x with
  | int i => cases h
  | _ => rfl
def S_cwhole (A0 : Adr) : Sp3 := fun ds M Q E => ∃ x k : D, ds = [x, k] ∧ Scal x ∧ (k = .non ∨ ∃ j, k = .int j) ∧ (whO x k = true → Q .non M) ∧ (whO x k = false → E A0.f_BadNumber x M)
theorem ok_check_whole (T : Tx P K mg A0) : FnOk P w K mg base (L2.CX P w) 2 A0.f_check_whole A0.d_check_whole ["number", "least"] (lift3 (S_cwhole A0)) := by
  refine T.F_check_whole.ok sc_check_whole (lift3_len fun ds M Q E ⟨a, b, h, _⟩ => by rw [h]; rfl) (fun cdv A outer s H vs Q E hr h => ?_)
  have hu := hr.units
  have hu5 := units65 hr
  refine ⟨_, (pss_one (ps_if (PW.pt (pw_or (pt_not (pt_truthK K rfl (pe_call (ok_is_whole T) (hr.mono (by decide)) (by rfl) T.g_is_whole T.k_is_whole T.b_is_whole .nil pass0 (pa_cons (pv 0) pa_nil)) (by intro _; rfl))) (pw_or1 (PW.pt (pw_and (pt_cmp (pc_notN (pv 1)) (by rfl)) (pw_and1 (pt_cmpR op_lt (pv 0) (pv 1) (nomark _)))))))) (pss_one (ps_raiseDye (by rfl) T.dye_BadNumber T.g_BadNumber hr (takes_of rfl rfl rfl rfl) (pa_cons (pv 0) (pa_cons pe_str pa_nil)))) pss_nil)), run3 h fun B ds M Q3 E3 hs hE => ?_⟩
  obtain ⟨x, k, rfl, sx, hk, q, qe⟩ := hs
  change W3s B _ _ [some x, some k] _
  try dsimp only [cxOf, Cx.nox, Cx.wish]
  refine s_if (w_orTP (a := !isI x) (b := !whO x k) ?_ (fun hx => ?_) ?_)
  · repeat walk_at "t3"
    exact ⟨x, rfl, sx, isI x, rfl, rfl, rfl⟩
  · obtain ⟨i, rfl⟩ := isI_int (x := x) (by simpa using hx)
    rcases hk with rfl | ⟨j, rfl⟩
    · refine w_andTP (a := false) (b := false) ?_ (fun h => by cases h) ⟨rfl, rfl⟩
      repeat walk_at "t3"
      exact ⟨rfl, rfl⟩
    · refine w_andTP (a := true) (b := decide (i < j)) ?_ (fun _ => ?_) ⟨?_, rfl⟩
      · repeat walk_at "t3"
        exact ⟨rfl, rfl⟩
      · repeat walk_at "t3"
        exact ⟨rfl, rfl⟩
      · show (true && decide (i < j)) = !decide (j ≤ i)
        by_cases h : i < j
        · rw [decide_eq_true h, decide_eq_false (by omega)]; rfl
        · rw [decide_eq_false h, decide_eq_true (by omega)]; rfl
  · have e : (!isI x || !whO x k) = !whO x k := by
      cases h : isI x
      · rw [whO_not h]; rfl
      · rfl
    rw [e]
    cases h : whO x k with
    | true =>
      refine iteB (fun h => by cases h) (fun _ => ?_)
      repeat walk_at "t3"
      exact q h
    | false =>
      refine iteB (fun _ => ?_) (fun h => by cases h)
      refine s_raise (impW_of hE) ?_
      repeat walk_at "t3"
      exact ⟨_, _, rfl, qe h⟩
def keyP (a : Am) : D := .tup [.int a.2, .int (wA a)]
def kdP : D → D
  | .tup [.str w, .int n] => .tup [.int n, .int (if w = "leave" then 1 else 0)]
  | x => x
theorem kdP_aD (a : Am) : kdP (aD a) = keyP a := by
  obtain ⟨b, n⟩ := a
  cases b
  · show D.tup [.int n, .int (if ("take" : Str) = "leave" then 1 else 0)] = _
    rw [if_neg (by decide +kernel)]; rfl
  · show D.tup [.int n, .int (if ("leave" : Str) = "leave" then 1 else 0)] = _
    rw [if_pos rfl]; rfl
def S_place : Sp3 := fun ds M Q _ => ∃ a : Am, ds = [aD a] ∧ Q (keyP a) M
theorem ok_place_of (T : Tx P K mg A0) : FnOk P w K mg base CX0 1 A0.f_place_of A0.d_place_of ["amount"] (lift3 S_place) := by
  refine T.F_place_of.ok sc_place_of (lift3_len fun ds M Q E ⟨a, h, _⟩ => by rw [h]; rfl) (fun cdv A outer s H vs Q E hr h => ?_)
  have hu := hr.units
  have hu5 := units65 hr
  refine ⟨_, (pss_one (ps_ret (pe_tup (pa_cons (pe_ix (ix_seqK K rfl) (pv 0) pe_int (fun _ _ => by rfl)) (pa_cons (pe_bm PySem.F.plainAttrs_tuple PySem.F.slot_tuple_index PySem.F.type_tuple_index L2.mt_tup_index (pe_glob (v := .ref A0.c_WORDS) (by rfl) T.c_WORDS rfl) (pa_cons (pe_ix (ix_seqK K rfl) (pv 0) pe_int (fun _ _ => by rfl)) pa_nil)) pa_nil))))), run3 h fun B ds M Q3 E3 hs hE => ?_⟩
  obtain ⟨a, rfl, q⟩ := hs
  change W3s B _ _ [some (aD a)] _
  try dsimp only [cxOf, Cx.nox, Cx.wish]
  repeat walk_at "t3"
  refine r3_ix_t (at3 (j := 1) (by omega) (v := .int a.2) rfl) ?_
  refine w_cons ?_
  refine w_tupIdx (a := A0.c_WORDS) (ys := WORDS2) (z := if a.1 then "leave" else "take") (j := if a.1 then 1 else 0) T.tw_WORDS T.t_WORDS ?_ ?_ ?_
  · cases a.1 <;> rfl
  · intro m hm
    cases h : a.1 with
    | false => rw [h] at hm; exact absurd hm (by simp)
    | true =>
      rw [h] at hm
      obtain rfl : m = 0 := by simp at hm; exact hm
      decide +kernel
  repeat walk_at "t3"
  refine ⟨rfl, ?_⟩
  repeat walk_at "t3"
  refine r3_ix_t (at3 (j := 0) (by omega) (v := .str (if a.1 then "leave" else "take")) rfl) ?_
  repeat walk_at "t3"
  refine ⟨rfl, ?_⟩
  have e : (((if a.1 = true then 1 else 0 : Nat)) : Int) = wA a := by unfold wA; cases a.1 <;> rfl
  repeat walk_at "t3"
  rw [e]
  exact q
theorem keyP_py (a : Am) : py (keyP a) = .tuple [.int a.2, .int (wA a)] := rfl
theorem keyList_P (L : List Am) : KeyList (fun a => kdP (aD a)) L leA where
  ok := okDs_iff.mpr fun d hd => by
    obtain ⟨a, _, rfl⟩ := List.mem_map.mp hd
    rw [kdP_aD]; rfl
  al := fun d hd d' hd' => by
    obtain ⟨a, _, rfl⟩ := List.mem_map.mp hd
    obtain ⟨b, _, rfl⟩ := List.mem_map.mp hd'
    rw [kdP_aD, kdP_aD]; rfl
  so := .inl fun d hd => by
    obtain ⟨a, _, rfl⟩ := List.mem_map.mp hd
    rw [kdP_aD]; exact ⟨_, _, rfl⟩
  le := fun a _ b _ => by
    rw [kdP_aD, kdP_aD, keyP_py, keyP_py]
    have := congrFun (congrFun (PySem.W.dataLe_ii (β := Am) (fun a => (a.2 : Int)) wA) a) b
    exact this.symm
end
end LW
set_option pp.maxSteps 1500
set_option Elab.async false
set_option linter.all false
set_option maxRecDepth 100000
set_option maxHeartbeats 4000000
namespace LW
open PySem L2 T3
open Evl (Ex)
local macro_rules | `(tactic| walk_at "t3") => `(tactic| first
  | (with_reducible refine s_seq ?_) | (with_reducible refine s_asg ?_) | (with_reducible refine s_if ?_) | (with_reducible refine s_ret ?_) | (with_reducible refine s_drop ?_) | (with_reducible refine s_asgG ?_) | (with_reducible refine s_retN ?_)
  | (with_reducible refine s_next ?_) | (with_reducible refine s_brk ?_) | (with_reducible refine s_cont ?_) | (with_reducible refine s_par ?_) | (with_reducible refine s_fld ?_)
  | ((with_reducible refine' w_var ?hx ?_); (case hx => exact rfl)) | (with_reducible refine w_cI ?_) | (with_reducible refine w_cB ?_) | (with_reducible refine w_cS ?_) | (with_reducible refine w_cN ?_) | (with_reducible refine w_cT ?_) | (with_reducible refine w_cR ?_)
  | (with_reducible refine w_op ?_) | (with_reducible refine w_un ?_) | (with_reducible refine w_nil ?_) | (with_reducible refine w_tup ?_) | (with_reducible refine w_cons ?_) | (with_reducible refine w_cb ?_) | (with_reducible refine w_bm0 ?_) | (with_reducible refine w_bm ?_)
  | (with_reducible refine w_test ?_) | (with_reducible refine w_B ?_) | (with_reducible refine w_notT ?_) | (with_reducible refine w_yes ?_) | (with_reducible refine w_notV ?_)
  | (with_reducible refine w_ifE ?_) | (with_reducible refine w_isN ?_) | (with_reducible refine w_notN ?_) | (with_reducible refine w_tr ?_) | (with_reducible refine w_chain ?_) | (with_reducible refine w_fld ?_) | (with_reducible refine w_sl ?_) | (with_reducible refine o_no ?_) | (with_reducible refine o_some ?_)
  | (with_reducible refine w_call0 ?_) | (with_reducible refine g_name ?_) | ((with_reducible refine' g_tup ?hx ?hy ?_); (case hx => exact rfl); (case hy => exact rfl)) | (with_reducible refine g_cons ?_) | (with_reducible refine g_nil ?_) | (with_reducible refine g_set ?_)
  | (with_reducible refine r3_add_ii ?_) | (with_reducible refine r3_sub ?_) | (with_reducible refine r3_lt ?_) | (with_reducible refine r3_le ?_) | (with_reducible refine r3_gt ?_) | (with_reducible refine r3_ge ?_) | (with_reducible refine u3_neg ?_)
  | (with_reducible refine c3_int_i ?_) | (with_reducible refine c3_int_b ?_) | (with_reducible refine c3_abs ?_) | (with_reducible refine c3_len_t ?_) | (with_reducible refine c3_len .fz ?_) | (with_reducible refine c3_max2 ?_) | (with_reducible refine c3_min2 ?_)
  | (with_reducible refine r3_eq (n := 9) (m := 9) okD_int okD_int ?_) | (with_reducible refine r3_ne (n := 9) (m := 9) okD_int okD_int ?_)
  | ((with_reducible refine' Exists.intro _ (And.intro ?hx ?_)); (case hx => exact rfl))
  | ((with_reducible refine' And.intro ?hx ?_); (case hx => (show List.length _ ≤ 100000); exact Nat.le_of_ble_eq_true rfl))
  | (with_reducible refine c3_lenL (c3_len_t ?_)) | (with_reducible refine c3_lenL (c3_len .fz ?_)))

section
variable {P : Program} {w : World} {K : PySem.W.Frag} {mg : Str → Option Value} {base : Heap} {A0 : Adr}

local macro_rules | `(tactic| walk_at "t3q") => `(tactic| first
  | (with_reducible refine s_seq ?_) | (with_reducible refine s_asg ?_) | (with_reducible refine s_if ?_) | (with_reducible refine s_ret ?_) | (with_reducible refine s_drop ?_) | (with_reducible refine s_asgG ?_) | (with_reducible refine s_retN ?_)
  | (with_reducible refine s_next ?_) | (with_reducible refine s_brk ?_) | (with_reducible refine s_cont ?_) | (with_reducible refine s_par ?_) | (with_reducible refine s_fld ?_)
  | ((with_reducible refine' w_var ?hx ?_); (case hx => exact rfl)) | (with_reducible refine w_cI ?_) | (with_reducible refine w_cB ?_) | (with_reducible refine w_cS ?_) | (with_reducible refine w_cN ?_) | (with_reducible refine w_cT ?_) | (with_reducible refine w_cR ?_)
  | (with_reducible refine w_op ?_) | (with_reducible refine w_un ?_) | (with_reducible refine w_nil ?_) | (with_reducible refine w_tup ?_) | (with_reducible refine w_cons ?_) | (with_reducible refine w_cb ?_) | (with_reducible refine w_bm0 ?_) | (with_reducible refine w_bm ?_)
  | (with_reducible refine w_test ?_) | (with_reducible refine w_B ?_) | (with_reducible refine w_notT ?_) | (with_reducible refine w_yes ?_) | (with_reducible refine w_notV ?_)
  | (with_reducible refine w_ifE ?_) | (with_reducible refine w_isN ?_) | (with_reducible refine w_notN ?_) | (with_reducible refine w_tr ?_) | (with_reducible refine w_chain ?_) | (with_reducible refine w_fld ?_) | (with_reducible refine w_sl ?_) | (with_reducible refine o_no ?_) | (with_reducible refine o_some ?_)
  | (with_reducible refine g_name ?_) | ((with_reducible refine' g_tup ?hx ?hy ?_); (case hx => exact rfl); (case hy => exact rfl)) | (with_reducible refine g_cons ?_) | (with_reducible refine g_nil ?_) | (with_reducible refine g_set ?_)
  | (with_reducible refine r3_add_ii ?_) | (with_reducible refine r3_sub ?_) | (with_reducible refine r3_lt ?_) | (with_reducible refine r3_le ?_) | (with_reducible refine r3_gt ?_) | (with_reducible refine r3_ge ?_) | (with_reducible refine u3_neg ?_)
  | (with_reducible refine c3_int_i ?_) | (with_reducible refine c3_int_b ?_) | (with_reducible refine c3_abs ?_) | (with_reducible refine c3_len_t ?_) | (with_reducible refine c3_len .fz ?_) | (with_reducible refine c3_max2 ?_) | (with_reducible refine c3_min2 ?_)
  | (with_reducible refine r3_eq (n := 9) (m := 9) okD_int okD_int ?_) | (with_reducible refine r3_ne (n := 9) (m := 9) okD_int okD_int ?_)
  | ((with_reducible refine' Exists.intro _ (And.intro ?hx ?_)); (case hx => exact rfl))
  | ((with_reducible refine' And.intro ?hx ?_); (case hx => (show List.length _ ≤ 100000); exact Nat.le_of_ble_eq_true rfl))
  | (with_reducible refine c3_lenL (c3_len_t ?_)) | (with_reducible refine c3_lenL (c3_len .fz ?_)))

/-- what grows -/
def Gro (M M' : Mem) : Prop := ∀ z x, M z = some x → M' z = some x
theorem Gro.refl (M : Mem) : Gro M M := fun _ _ h => h
theorem Gro.trans {M1 M2 M3 : Mem} (a : Gro M1 M2) (b : Gro M2 M3) : Gro M1 M3 := fun z x h => b z x (a z x h)
theorem Gro.new {M M' : Mem} {p : Addr} {x : DO} (h : Gro M M') (hp : M' p = none) : Gro M (mput M' p x) := fun z y hz => by rw [mput_ne (mne (h z y hz) hp)]; exact h z y hz
theorem Gro.put {M M' : Mem} {p : Addr} {x : DO} (h : Gro M M') (hp : M p = none) : Gro M (mput M' p x) := fun z y hz => by rw [mput_ne (mne hz hp)]; exact h z y hz
theorem Gro.fresh {M M' : Mem} {p : Addr} (h : Gro M M') (hp : M' p = none) : M p = none := by
  cases e : M p with
  | none => rfl
  | some x => rw [h p x e] at hp; cases hp
theorem s_vsE {B : Hp} {ts : TS} {D3 : Ends3} {σ : Sig} {M : Mem} (h : W3s B ts { D3 with nx := fun σ M => ∃ σ' M', VSs σ M σ' M' ∧ D3.nx σ' M' } σ M) : W3s B ts D3 σ M := fun F σv H Dv b hs st im => h F σv H Dv b hs st ⟨fun F' M' σ' σv' H' e s t ⟨σ2, M2, vs, q⟩ => by
  obtain ⟨F2, e2, st2, s2⟩ := vs F' H' σv' t s
  exact im.nx F2 M2 σ2 σv' H' (e.trans e2) s2 st2 q, im.rt, im.bk, im.ct⟩
/-! ### terms, good or bad -/
def pT (t : D × D) : D := .tup [t.1, t.2]
def badT (A0 : Adr) : List (D × D) → Option (Addr × D)
  | [] => none
  | t :: r => if isAm t.1 = true then (if isI t.2 = true then badT A0 r else some (A0.f_BadNumber, t.2)) else some (A0.f_BadAmount, t.1)
def tV (t : Tm) : D × D := (aD t.1, .int t.2)
theorem badT_good (A0 : Adr) (ts : List Tm) (r : List (D × D)) : badT A0 (ts.map tV ++ r) = badT A0 r := by
  induction ts with
  | nil => rfl
  | cons t ts ih =>
    rw [List.map_cons, List.cons_append]
    show (if isAm (aD t.1) = true then (if isI (.int t.2) = true then badT A0 (ts.map tV ++ r) else _) else _) = _
    rw [if_pos (isAm_aD t.1), if_pos (show isI (.int t.2) = true from rfl), ih]
structure Tms (K : PySem.W.Frag) (A0 : Adr) (M : Mem) (x : D) (l : List (D × D)) : Prop where
  at_ : LstD M x (l.map pT) ∨ x = .tup (l.map pT) ∨ (l = [] ∧ ∃ a, x = .ref a ∧ ∀ H, SqT K H a [])
  am : ∀ t ∈ l, AmV t.1 ∧ Scal t.2
  few : l.length ≤ 1000
def fmO (C : Addr) (L : List Tm) : DO := .ins C [("terms", .lst (L.map tD))]
def S_init (K : PySem.W.Frag) (A0 : Adr) : Sp3 := fun ds M Q E => ∃ (o : Addr) (x : D) (l : List (D × D)), ds = [.ref o, x] ∧ M o = some (.ins A0.f_Form []) ∧ Tms K A0 M x l ∧ (∀ C t M', badT A0 l = some (C, t) → Gro M M' → E C t M') ∧
  (∀ (ts : List Tm) (L : List Tm), l = ts.map tV → NF (cf ts) L → Q .non (mput M o (fmO A0.f_Form L)))
def unA : D → Am
  | .tup [.str w, .int n] => (decide (w = "leave"), n.toNat)
  | _ => (false, 0)
theorem unA_aD (a : Am) : unA (aD a) = a := by
  obtain ⟨b, n⟩ := a
  cases b
  · show (decide (("take" : Str) = "leave"), (n : Int).toNat) = _
    rw [show decide (("take" : Str) = "leave") = false by decide +kernel]; rfl
  · show (decide (("leave" : Str) = "leave"), (n : Int).toNat) = _
    rw [show decide (("leave" : Str) = "leave") = true by decide +kernel]; rfl
theorem i_tms {B : Hp} {σ : Sig} {M M1 : Mem} {x : D} {l : List (D × D)} {Q : List D → (Mem → Prop) → Mem → Prop} {i : Nat} (tm : Tms K A0 M x l) (g : Gro M M1) (hσ : σ[i]? = some (some x)) (k : ∀ P : Mem → Prop, (∀ M', Gro M M' → P M') → Q (l.map pT) P M1) :
    W3i B (orTI (iList K (tVar i)) (iTup K (tVar i))) σ M1 Q := by
  rcases tm.at_ with (e | ⟨a, e, hm⟩) | e | ⟨el, a, e, ht⟩
  · subst e
    exact i_or1 (i_list (w_var hσ ⟨_, rfl, k (fun _ => True) fun _ _ => trivial⟩))
  · subst e
    exact i_or1 (i_listO (w_var hσ ⟨a, _, rfl, g _ _ hm, k (fun M' => M' a = some (.lst (l.map pT))) fun M' g' => g' _ _ hm⟩))
  · subst e
    exact i_or2 (i_tup (w_var hσ ⟨_, rfl, k (fun _ => True) fun _ _ => trivial⟩))
  · subst e; subst el
    exact i_or2 (i_tupE (w_var hσ ⟨a, rfl, ht, k (fun _ => True) fun _ _ => trivial⟩))
theorem putA_len (l : List Tm) (a : Am) (n : Int) : (putA l a n).length ≤ l.length + 1 := by
  unfold putA
  split <;> simp
theorem ok_Form___init__ (T : Tx P K mg A0) : FnOk P w K mg base (L2.CX P w) 5 A0.f_Form___init__ A0.d_Form___init__ ["self", "terms"] (lift3 (S_init K A0)) := by
  refine T.F_Form___init__.ok sc_Form___init__ (lift3_len fun ds M Q E ⟨a, b, c, h, _⟩ => by rw [h]; rfl) (fun cdv A outer s H vs Q E hr h => ?_)
  have hu := hr.units
  have hu5 := units65 hr
  have hu1 := units1 hr
  refine ⟨_, (pss_cons (ps_set (i := 2) sc_Form___init__.nd (by rfl) (Or.inr (by rfl)) pe_dnewT)
  (pss_cons (ps_for (passes_of rfl) (by rfl) (pi_or (pi_list (pv 1)) (pi_tup (pv 1))) (pg_tup (by rfl) (pgs_cons (pg_name (i := 3) sc_Form___init__.nd (by rfl) (Or.inl (by rfl))) (pgs_cons (pg_name (i := 4) sc_Form___init__.nd (by rfl) (Or.inl (by rfl))) pgs_nil))) (pss_cons (ps_expr (pe_call (ok_check_amount T) (hr.mono (by decide)) (by rfl) T.g_check_amount T.k_check_amount T.b_check_amount .nil (passes_call (takes_of rfl rfl rfl rfl) (fun _ _ _ _ h => h)) (pa_cons (pv 3) pa_nil)))
  (pss_cons (ps_expr (pe_call (ok_check_whole T) (hr.mono (by decide)) (by rfl) T.g_check_whole T.k_check_whole T.b_check_whole_1 (.cons (show RelV .non .none from rfl) .nil) (passes_call (takes_of rfl rfl rfl rfl) (fun _ _ _ _ h => h)) (pa_cons (pv 4) pa_nil)))
  (pss_one (ps_dput hu1 (pv 2) (pv 3) (pe_op op_ADD (pe_dget2 hu1 (pv 2) (pv 3) pe_int ⟨by rfl, by rfl, by rfl, by rfl⟩) (pv 4)) (by rfl))))))
  (pss_cons (ps_set (i := 5) sc_Form___init__.nd (by rfl) (Or.inl (by rfl)) (pe_callBK (cr_sortG hu5 (key_def (ok_place_of T) T.b_place_of (hr.mono (by decide)))) (by rfl) T.n_sorted (by decide +kernel) (pa_cons (pe_callTy (call_lstT rfl) (by rfl) T.n_list (by decide +kernel) (pa_cons (pv 2) pa_nil)) pa_nil) (pk_cons (pe_glob (v := .ref A0.f_place_of) (by rfl) T.g_place_of rfl) pk_nil)))
  (pss_one (ps_fld (pv 0) (pe_lc (own := [("amount", 3)]) (g := (gName 3)) (by rfl) sc_Form___init__.nd (pi_list (pv 5)) (blkOk_by (N := ["self", "terms", "numbers", "amount", "number", "ordered"]) (sc := defScope s_Form___init__) (own := [("amount", 3)]) (by decide +kernel)) (fun _ _ _ _ _ => (pg_name (i := 3) sc_Form___init__.nd (by rfl) (Or.inl (by rfl)))) (fun _ _ _ _ _ => pts_one (pt_cmpR (op_neDK K rfl hu) (pe_dget hu1 (pv 2) (pv 3) (fun _ _ => by rfl)) pe_int (nomark _))) (fun _ _ _ _ _ => (pe_tup (pa_cons (pv 3) (pa_cons (pe_dget hu1 (pv 2) (pv 3) (fun _ _ => by rfl)) pa_nil))))) (by rfl)))))), run3 h fun B ds M Q3 E3 hs hE => ?_⟩
  obtain ⟨o, x, l, rfl, ho, tm, qe, q⟩ := hs
  change W3s B _ _ [some (.ref o), some x, none, none, none, none] _
  try dsimp only [cxOf, Cx.nox, Cx.wish]
  refine s_vsE ?_
  repeat walk_at "t3q"
  refine w_dnewT fun p hp => ?_
  have hpo : p ≠ o := fun e => by rw [e, ho] at hp; cases hp
  have hof : ∀ X, (mput M p X) o = some (.ins A0.f_Form []) := fun X => by rw [mput_ne hpo.symm]; exact ho
  have gM : ∀ X, Gro M (mput M p X) := fun X => Gro.put (.refl M) hp
  repeat walk_at "t3q"
  have g0 : Gro M (mput M p (.dT [])) := gM _
  refine s_for (i_tms (A0 := A0) (l := l) tm g0 rfl fun P0 hP0 => ?_)
  have lc : (l.map pT).length = l.length := List.length_map _
  refine ⟨fun i σ' M' => ∃ (b3 b4 : Option D) (ts : List Tm) (tb : List Tm), l.take i = ts.map tV ∧ Tab (cf ts) tb ∧ tb.length ≤ i ∧ σ' = [some (.ref o), some x, some (.ref p), b3, b4, none] ∧ M' = mput M p (.dT (kI (tK tb))), ?_, ⟨none, none, [], [], rfl, .nil, Nat.le_refl _, rfl, rfl⟩, ?_, ?_⟩
  · rintro i σ' M' ⟨_, _, _, _, _, _, _, _, rfl⟩
    exact hP0 _ (gM _)
  · rintro i d σ' M' hi ⟨b3, b4, ts, tb, htk, tab, hlen, rfl, rfl⟩
    obtain ⟨t, ht, rfl⟩ := map_at hi
    obtain ⟨x1, x2⟩ := t
    obtain ⟨va, vs⟩ := tm.am _ (List.mem_of_getElem? ht)
    have hil : i < l.length := (List.getElem?_eq_some_iff.mp ht).1
    have hf := tm.few
    have hsp : l = ts.map tV ++ (x1, x2) :: l.drop (i + 1) := by
      rw [← htk]
      have e := List.take_append_drop i l
      rw [List.drop_eq_getElem_cons hil, (List.getElem?_eq_some_iff.mp ht).2] at e
      exact e.symm
    have hbad : badT A0 l = badT A0 ((x1, x2) :: l.drop (i + 1)) := by rw [hsp, badT_good, ← hsp]
    repeat walk_at "t3q"
    refine w_call (dds := []) (E3 := E3) (fun _ => rfl) hE ?_
    repeat walk_at "t3q"
    refine ⟨x1, rfl, va, fun ha => ?_, fun ha => qe _ _ _ (by rw [hbad]; unfold badT; rw [if_neg (by rw [show isAm (x1, x2).1 = false from ha]; exact Bool.false_ne_true)]) (gM _)⟩
    repeat walk_at "t3q"
    refine w_call (dds := [.non]) (E3 := E3) (fun _ => ⟨_, _, rfl, rfl, rfl⟩) hE ?_
    repeat walk_at "t3q"
    refine ⟨x2, .non, rfl, vs, .inl rfl, fun hn => ?_, fun hn => qe _ _ _ (by
      have : isI x2 = false := by cases x2 <;> first | rfl | cases hn
      rw [hbad]; unfold badT; rw [if_pos (show isAm (x1, x2).1 = true from ha), if_neg (by rw [show isI (x1, x2).2 = false from this]; exact Bool.false_ne_true)]) (gM _)⟩
    obtain ⟨n, rfl⟩ : ∃ n, x2 = .int n := isI_int (by cases x2 <;> first | rfl | cases hn)
    obtain ⟨a, rfl⟩ := isAm_of ha
    repeat walk_at "t3q"
    refine s_dput ?_
    repeat walk_at "t3q"
    refine w_dget2 ?_
    repeat walk_at "t3q"
    refine ⟨⟨p, rfl, .inr ⟨_, mput_same⟩⟩, ?_⟩
    repeat walk_at "t3q"
    refine ⟨_, ⟨p, rfl, .inr ⟨_, aK a, mput_same, rfl, rfl⟩⟩, ?_⟩
    rw [valD_tK]
    have eg : ((getA tb a).map D.int).getD (.int 0) = .int ((getA tb a).getD 0) := by cases getA tb a <;> rfl
    rw [eg]
    repeat walk_at "t3q"
    refine ⟨_, ⟨p, rfl, .inr ⟨_, aK a, mput_same, rfl, ?_, rfl⟩⟩, ?_⟩
    · unfold kI tK; rw [List.length_map, List.length_map]; omega
    rw [mput_mput, putKD_tK]
    refine ⟨_, _, ts ++ [(a, n)], _, ?_, tab.put (a, n), Nat.le_trans (putA_len _ _ _) (by omega), rfl, rfl⟩
    rw [List.take_add_one, ht, htk, List.map_append]; rfl
  · rintro σ' M' ⟨b3, b4, ts, tb, htk, tab, hlen, rfl, rfl⟩
    rw [lc, List.take_length] at htk
    rw [lc] at hlen
    have hf := tm.few
    have nf := tab.form
    repeat walk_at "t3q"
    refine w_sortDef (f := aD) (kd := kdP) (le := leA) ?_
    repeat walk_at "t3q"
    refine c3_lstT mput_same ?_
    repeat walk_at "t3q"
    have ek : (kI (tK tb)).map (fun p => D.tup (p.1.map kD)) = (tb.map (·.1)).map aD := by
      unfold kI tK
      rw [List.map_map, List.map_map, List.map_map]; rfl
    rw [ek]
    refine ⟨_, tb.map (·.1), rfl, rfl, .fz, keyList_P _, fun d hd => ?_, ?_⟩
    · obtain ⟨a, _, rfl⟩ := List.mem_map.mp hd
      exact ⟨a, rfl, (kdP_aD a).symm, rfl⟩
    have hks : ∀ a ∈ (tb.map (·.1)).mergeSort leA, getA tb a = some (cf ts a) := fun a ha => by
      obtain ⟨t, ht, rfl⟩ := List.mem_map.mp (List.mem_mergeSort.mp ha)
      have h1 := getA_mem tab.nd ht
      have h2 := tab.val t.1
      rw [h1] at h2
      rw [h1, show cf ts t.1 = t.2 from h2.symm]
    have hkl : ((tb.map (·.1)).mergeSort leA).length ≤ 1000 := by rw [List.length_mergeSort, List.length_map]; omega
    generalize (tb.map (·.1)).mergeSort leA = ks at hks hkl nf ⊢
    repeat walk_at "t3q"
    refine w_lcP (fun d => decide (cf ts (unA d) ≠ 0)) (fun d => .tup [d, .int (cf ts (unA d))]) own_name (i_list ?_)
    repeat walk_at "t3q"
    refine ⟨by rw [List.length_map]; omega, trivial, ?_, ?_⟩
    · intro i d M' hi hM'
      obtain ⟨a, ha, rfl⟩ := map_at hi
      have hd := hks a (List.mem_of_getElem? ha)
      have hget : GetD M' (.ref p) (aD a) (some (.int (cf ts a))) := ⟨p, rfl, .inr ⟨_, aK a, hM' _ _ mput_same, rfl, by rw [valD_tK, hd]; rfl⟩⟩
      refine g_name ⟨rfl, ?_⟩
      repeat walk_at "t3q"
      refine w_dget ?_
      repeat walk_at "t3q"
      refine ⟨_, hget, ?_⟩
      repeat walk_at "t3q"
      refine ⟨rfl, ?_, fun _ => ?_⟩
      · rw [unA_aD]
        show (!((cf ts a) == 0)) = _
        by_cases h : cf ts a = 0 <;> simp [h]
      · repeat walk_at "t3q"
        refine w_dget ?_
        repeat walk_at "t3q"
        refine ⟨_, hget, ?_⟩
        repeat walk_at "t3q"
        refine ⟨rfl, ?_⟩
        rw [unA_aD]
    have el : ((ks.map aD).filter fun d => decide (cf ts (unA d) ≠ 0)).map (fun d => .tup [d, .int (cf ts (unA d))]) = ((ks.filter fun a => decide (cf ts a ≠ 0)).map fun a => (a, cf ts a)).map tD := by
      rw [List.filter_map, List.map_map, List.map_map]
      have : ((fun d => decide (cf ts (unA d) ≠ 0)) ∘ aD) = fun a => decide (cf ts a ≠ 0) := by funext a; show decide (cf ts (unA (aD a)) ≠ 0) = _; rw [unA_aD]
      rw [this]
      refine List.map_congr_left fun a _ => ?_
      show D.tup [aD a, .int (cf ts (unA (aD a)))] = _
      rw [unA_aD]; rfl
    rw [el]
    repeat walk_at "t3q"
    refine ⟨o, A0.f_Form, [], rfl, hof _, T.cl_Form, T.na_terms, Nat.le_of_ble_eq_true rfl, ?_⟩
    refine ⟨_, _, vss_drop p, ?_⟩
    show Q3 .non _
    rw [show ∀ X Y, mdel (mput (mput M p X) o Y) p = mput M o Y from fun X Y => by rw [mput_comm hpo]; exact mdel_mput (by rw [mput_ne hpo]; exact hp)]
    exact q ts _ htk nf

end
end LW
set_option pp.maxSteps 1500
set_option Elab.async false
set_option linter.all false
set_option maxRecDepth 100000
set_option maxHeartbeats 4000000
namespace LW
open PySem L2 T3
open Evl (Ex)
local macro_rules | `(tactic| walk_at "t3") => `(tactic| first
  | (with_reducible refine s_seq ?_) | (with_reducible refine s_asg ?_) | (with_reducible refine s_if ?_) | (with_reducible refine s_ret ?_) | (with_reducible refine s_drop ?_) | (with_reducible refine s_asgG ?_) | (with_reducible refine s_retN ?_)
  | (with_reducible refine s_next ?_) | (with_reducible refine s_brk ?_) | (with_reducible refine s_cont ?_) | (with_reducible refine s_par ?_) | (with_reducible refine s_fld ?_)
  | ((with_reducible refine' w_var ?hx ?_); (case hx => exact rfl)) | (with_reducible refine w_cI ?_) | (with_reducible refine w_cB ?_) | (with_reducible refine w_cS ?_) | (with_reducible refine w_cN ?_) | (with_reducible refine w_cT ?_) | (with_reducible refine w_cR ?_)
  | (with_reducible refine w_op ?_) | (with_reducible refine w_un ?_) | (with_reducible refine w_nil ?_) | (with_reducible refine w_tup ?_) | (with_reducible refine w_cons ?_) | (with_reducible refine w_cb ?_) | (with_reducible refine w_bm0 ?_) | (with_reducible refine w_bm ?_)
  | (with_reducible refine w_test ?_) | (with_reducible refine w_B ?_) | (with_reducible refine w_notT ?_) | (with_reducible refine w_yes ?_) | (with_reducible refine w_notV ?_)
  | (with_reducible refine w_ifE ?_) | (with_reducible refine w_isN ?_) | (with_reducible refine w_notN ?_) | (with_reducible refine w_tr ?_) | (with_reducible refine w_chain ?_) | (with_reducible refine w_fld ?_) | (with_reducible refine w_sl ?_) | (with_reducible refine o_no ?_) | (with_reducible refine o_some ?_)
  | (with_reducible refine w_call0 ?_) | (with_reducible refine g_name ?_) | ((with_reducible refine' g_tup ?hx ?hy ?_); (case hx => exact rfl); (case hy => exact rfl)) | (with_reducible refine g_cons ?_) | (with_reducible refine g_nil ?_) | (with_reducible refine g_set ?_)
  | (with_reducible refine r3_add_ii ?_) | (with_reducible refine r3_sub ?_) | (with_reducible refine r3_lt ?_) | (with_reducible refine r3_le ?_) | (with_reducible refine r3_gt ?_) | (with_reducible refine r3_ge ?_) | (with_reducible refine u3_neg ?_)
  | (with_reducible refine c3_int_i ?_) | (with_reducible refine c3_int_b ?_) | (with_reducible refine c3_abs ?_) | (with_reducible refine c3_len_t ?_) | (with_reducible refine c3_len .fz ?_) | (with_reducible refine c3_max2 ?_) | (with_reducible refine c3_min2 ?_)
  | (with_reducible refine r3_eq (n := 9) (m := 9) okD_int okD_int ?_) | (with_reducible refine r3_ne (n := 9) (m := 9) okD_int okD_int ?_)
  | ((with_reducible refine' Exists.intro _ (And.intro ?hx ?_)); (case hx => exact rfl))
  | ((with_reducible refine' And.intro ?hx ?_); (case hx => (show List.length _ ≤ 100000); exact Nat.le_of_ble_eq_true rfl))
  | (with_reducible refine c3_lenL (c3_len_t ?_)) | (with_reducible refine c3_lenL (c3_len .fz ?_)))

section
variable {P : Program} {w : World} {K : PySem.W.Frag} {mg : Str → Option Value} {base : Heap} {A0 : Adr}

local macro_rules | `(tactic| walk_at "t3q") => `(tactic| first
  | (with_reducible refine s_seq ?_) | (with_reducible refine s_asg ?_) | (with_reducible refine s_if ?_) | (with_reducible refine s_ret ?_) | (with_reducible refine s_drop ?_) | (with_reducible refine s_asgG ?_) | (with_reducible refine s_retN ?_)
  | (with_reducible refine s_next ?_) | (with_reducible refine s_brk ?_) | (with_reducible refine s_cont ?_) | (with_reducible refine s_par ?_) | (with_reducible refine s_fld ?_)
  | ((with_reducible refine' w_var ?hx ?_); (case hx => exact rfl)) | (with_reducible refine w_cI ?_) | (with_reducible refine w_cB ?_) | (with_reducible refine w_cS ?_) | (with_reducible refine w_cN ?_) | (with_reducible refine w_cT ?_) | (with_reducible refine w_cR ?_)
  | (with_reducible refine w_op ?_) | (with_reducible refine w_un ?_) | (with_reducible refine w_nil ?_) | (with_reducible refine w_tup ?_) | (with_reducible refine w_cons ?_) | (with_reducible refine w_cb ?_) | (with_reducible refine w_bm0 ?_) | (with_reducible refine w_bm ?_)
  | (with_reducible refine w_test ?_) | (with_reducible refine w_B ?_) | (with_reducible refine w_notT ?_) | (with_reducible refine w_yes ?_) | (with_reducible refine w_notV ?_)
  | (with_reducible refine w_ifE ?_) | (with_reducible refine w_isN ?_) | (with_reducible refine w_notN ?_) | (with_reducible refine w_tr ?_) | (with_reducible refine w_chain ?_) | (with_reducible refine w_fld ?_) | (with_reducible refine w_sl ?_) | (with_reducible refine o_no ?_) | (with_reducible refine o_some ?_)
  | (with_reducible refine g_name ?_) | ((with_reducible refine' g_tup ?hx ?hy ?_); (case hx => exact rfl); (case hy => exact rfl)) | (with_reducible refine g_cons ?_) | (with_reducible refine g_nil ?_) | (with_reducible refine g_set ?_)
  | (with_reducible refine r3_add_ii ?_) | (with_reducible refine r3_sub ?_) | (with_reducible refine r3_lt ?_) | (with_reducible refine r3_le ?_) | (with_reducible refine r3_gt ?_) | (with_reducible refine r3_ge ?_) | (with_reducible refine u3_neg ?_)
  | (with_reducible refine c3_int_i ?_) | (with_reducible refine c3_int_b ?_) | (with_reducible refine c3_abs ?_) | (with_reducible refine c3_len_t ?_) | (with_reducible refine c3_len .fz ?_) | (with_reducible refine c3_max2 ?_) | (with_reducible refine c3_min2 ?_)
  | (with_reducible refine r3_eq (n := 9) (m := 9) okD_int okD_int ?_) | (with_reducible refine r3_ne (n := 9) (m := 9) okD_int okD_int ?_)
  | ((with_reducible refine' Exists.intro _ (And.intro ?hx ?_)); (case hx => exact rfl))
  | ((with_reducible refine' And.intro ?hx ?_); (case hx => (show List.length _ ≤ 100000); exact Nat.le_of_ble_eq_true rfl))
  | (with_reducible refine c3_lenL (c3_len_t ?_)) | (with_reducible refine c3_lenL (c3_len .fz ?_)))

def FAt (C : Addr) (M : Mem) (x : D) (L : List Tm) : Prop := InsD M x C [("terms", .lst (L.map tD))]
theorem FAt.own {C : Addr} {M : Mem} {p : Addr} {L : List Tm} (h : M p = some (fmO C L)) : FAt C M (.ref p) L := .inr ⟨p, rfl, h⟩
/-- few terms, no huge numbers -/
structure Fw (L : List Tm) : Prop where
  few : L.length ≤ 400
  b : ∀ t ∈ L, t.2.natAbs < 2 ^ 300
def unT : D → Tm
  | .tup [x, .int n] => (unA x, n)
  | _ => ((false, 0), 0)
theorem unT_tD (t : Tm) : unT (tD t) = t := by
  show (unA (aD t.1), t.2) = t
  rw [unA_aD]
theorem map_unT {L : List Tm} (G : Tm → Tm) : (((L.map tD).filter fun _ => true).map fun d => tD (G (unT d))) = (L.map G).map tD := by
  rw [List.filter_eq_self.mpr fun _ _ => rfl, List.map_map, List.map_map]
  exact List.map_congr_left fun t _ => by show tD (G (unT (tD t))) = _; rw [unT_tD]; rfl
theorem badT_ts (A0 : Adr) (ts : List Tm) : badT A0 (ts.map tV) = none := by
  have := badT_good A0 ts []
  rw [List.append_nil] at this
  exact this
theorem tms_of {M : Mem} {ts : List Tm} (h : ts.length ≤ 1000) : Tms K A0 M (.lst (ts.map tD)) (ts.map tV) where
  at_ := .inl (.inl (by rw [List.map_map]; rfl))
  am := fun t ht => by
    obtain ⟨u, _, rfl⟩ := List.mem_map.mp ht
    exact ⟨AmV.aD u.1, .inl ⟨u.2, rfl⟩⟩
  few := by rw [List.length_map]; exact h
theorem tV_inj {ts us : List Tm} (h : ts.map tV = us.map tV) : ts = us := by
  have := congrArg (List.map fun t : D × D => (unT (pT t))) h
  rw [List.map_map, List.map_map] at this
  have e : ∀ ts : List Tm, ts.map ((fun t : D × D => unT (pT t)) ∘ tV) = ts := fun ts => (List.map_congr_left fun t _ => unT_tD t).trans (List.map_id ts)
  rwa [e, e] at this
/-- Form(ts) of good terms -/
theorem mk_form {M : Mem} {Q : DQ} {E : EQ3} {p : Addr} {ts : List Tm} (hl : ts.length ≤ 1000) (q : ∀ L, NF (cf ts) L → Q (.ref p) (mput M p (fmO A0.f_Form L))) : S_init K A0 [.ref p, .lst (ts.map tD)] (mput M p (.ins A0.f_Form [])) (fun d M2 => d = .non ∧ Q (.ref p) M2) E :=
  ⟨p, _, ts.map tV, rfl, mput_same, tms_of hl, fun C t M' h => by rw [badT_ts] at h; (cases h), fun us L hu nf => ⟨rfl, by rw [mput_mput]; obtain rfl := tV_inj hu; exact q L nf⟩⟩
def G_rmul (d : Int) (t : Tm) : Tm := (t.1, t.2 * d)
def S_rmul (A0 : Adr) : Sp3 := fun ds M Q _ => ∃ (x : D) (d : Int) (L : List Tm), ds = [x, .int d] ∧ FAt A0.f_Form M x L ∧ Fw L ∧ d.natAbs < 2 ^ 300 ∧ ∀ p L', M p = none → NF (cf (L.map (G_rmul d))) L' → Q (.ref p) (mput M p (fmO A0.f_Form L'))
theorem ok_Form___rmul__ (T : Tx P K mg A0) : FnOk P w K mg base CX0 7 A0.f_Form___rmul__ A0.d_Form___rmul__ ["self", "times"] (lift3 (S_rmul A0)) := by
  refine T.F_Form___rmul__.ok sc_Form___rmul__ (lift3_len fun ds M Q E ⟨a, b, c, h, _⟩ => by rw [h]; rfl) (fun cdv A outer s H vs Q E hr h => ?_)
  have hu := hr.units
  have hu5 := units65 hr
  have hu1 := units1 hr
  refine ⟨_, (pss_cons (ps_if (pt_not (pt_truthK K rfl (pe_call (ok_is_whole T) (hr.mono (by decide)) (by rfl) T.g_is_whole T.k_is_whole T.b_is_whole .nil pass0 (pa_cons (pv 1) pa_nil)) (by intro _; rfl))) (pss_one ps_never) pss_nil)
  (pss_one (ps_ret (pe_make T.mk_Form (ok_Form___init__ T) (hr.mono (by decide)) (by rfl) T.g_Form T.b_Form___init__ .nil passL (pa_cons (pe_lc (own := [("amount", 2), ("number", 3)]) (g := (gTup K 2 (gCons (gName 2) (gCons (gName 3) gNil)))) (by rfl) sc_Form___rmul__.nd (pi_list (pe_fldK K rfl (pv 0))) (blkOk_by (N := ["self", "times", "amount", "number"]) (sc := defScope s_Form___rmul__) (own := [("amount", 2), ("number", 3)]) (by decide +kernel)) (fun _ _ _ _ _ => (pg_tup (by rfl) (pgs_cons (pg_name (i := 2) sc_Form___rmul__.nd (by rfl) (Or.inl (by rfl))) (pgs_cons (pg_name (i := 3) sc_Form___rmul__.nd (by rfl) (Or.inl (by rfl))) pgs_nil)))) (fun _ _ _ _ _ => pts_nil) (fun _ _ _ _ _ => (pe_tup (pa_cons (pv 2) (pa_cons (pe_op op_mulW (pv 3) (pv 1)) pa_nil))))) pa_nil))))), run3 h fun B ds M Q3 E3 hs hE => ?_⟩
  obtain ⟨x, d, L, rfl, fa, fw, hb, q⟩ := hs
  change W3s B _ _ [some x, some (.int d), none, none] _
  try dsimp only [cxOf, Cx.nox, Cx.wish]
  refine s_seq (s_if ?_)
  repeat walk_at "t3"
  refine ⟨.int d, rfl, .inl ⟨d, rfl⟩, _, rfl, ?_⟩
  refine iteB (fun h => by cases h) (fun _ => s_next ?_)
  repeat walk_at "t3q"
  refine w_make (dds := []) (E3 := NoE) (fun _ => rfl) impE0 ?_
  repeat walk_at "t3q"
  refine w_lcP (fun _ => true) (fun d' => tD (G_rmul d (unT d'))) (own_tup (own_cons own_name (own_cons own_name own_nil))) (i_list ?_)
  repeat walk_at "t3q"
  refine ⟨_, _, .lst (L.map tD), fa, T.cl_Form, T.na_terms, rfl, _, rfl, by rw [List.length_map]; have := fw.few; omega, trivial, ?_, ?_⟩
  · intro i d' M' hi hM'
    obtain ⟨t, ht, rfl⟩ := map_at hi
    have hbt := fw.b t (List.mem_of_getElem? ht)
    rw [unT_tD]
    repeat walk_at "t3q"
    refine ⟨rfl, ?_⟩
    repeat walk_at "t3q"
    refine ⟨rfl, rfl, fun _ => ?_⟩
    repeat walk_at "t3q"
    refine r3_mul (mulW (by omega) (by omega)) ?_
    repeat walk_at "t3q"
    exact ⟨rfl, rfl⟩
  rw [map_unT]
  repeat walk_at "t3q"
  intro p hp
  exact mk_form (by rw [List.length_map]; have := fw.few; omega) fun L' nf => q p L' hp nf
def G_neg (t : Tm) : Tm := (t.1, -t.2)
end
end LW
set_option pp.maxSteps 1500
set_option Elab.async false
set_option linter.all false
set_option maxRecDepth 100000
set_option maxHeartbeats 4000000
namespace LW
open PySem L2 T3
open Evl (Ex)
local macro_rules | `(tactic| walk_at "t3") => `(tactic| first
  | (with_reducible refine s_seq ?_) | (with_reducible refine s_asg ?_) | (with_reducible refine s_if ?_) | (with_reducible refine s_ret ?_) | (with_reducible refine s_drop ?_) | (with_reducible refine s_asgG ?_) | (with_reducible refine s_retN ?_)
  | (with_reducible refine s_next ?_) | (with_reducible refine s_brk ?_) | (with_reducible refine s_cont ?_) | (with_reducible refine s_par ?_) | (with_reducible refine s_fld ?_)
  | ((with_reducible refine' w_var ?hx ?_); (case hx => exact rfl)) | (with_reducible refine w_cI ?_) | (with_reducible refine w_cB ?_) | (with_reducible refine w_cS ?_) | (with_reducible refine w_cN ?_) | (with_reducible refine w_cT ?_) | (with_reducible refine w_cR ?_)
  | (with_reducible refine w_op ?_) | (with_reducible refine w_un ?_) | (with_reducible refine w_nil ?_) | (with_reducible refine w_tup ?_) | (with_reducible refine w_cons ?_) | (with_reducible refine w_cb ?_) | (with_reducible refine w_bm0 ?_) | (with_reducible refine w_bm ?_)
  | (with_reducible refine w_test ?_) | (with_reducible refine w_B ?_) | (with_reducible refine w_notT ?_) | (with_reducible refine w_yes ?_) | (with_reducible refine w_notV ?_)
  | (with_reducible refine w_ifE ?_) | (with_reducible refine w_isN ?_) | (with_reducible refine w_notN ?_) | (with_reducible refine w_tr ?_) | (with_reducible refine w_chain ?_) | (with_reducible refine w_fld ?_) | (with_reducible refine w_sl ?_) | (with_reducible refine o_no ?_) | (with_reducible refine o_some ?_)
  | (with_reducible refine w_call0 ?_) | (with_reducible refine g_name ?_) | ((with_reducible refine' g_tup ?hx ?hy ?_); (case hx => exact rfl); (case hy => exact rfl)) | (with_reducible refine g_cons ?_) | (with_reducible refine g_nil ?_) | (with_reducible refine g_set ?_)
  | (with_reducible refine r3_add_ii ?_) | (with_reducible refine r3_sub ?_) | (with_reducible refine r3_lt ?_) | (with_reducible refine r3_le ?_) | (with_reducible refine r3_gt ?_) | (with_reducible refine r3_ge ?_) | (with_reducible refine u3_neg ?_)
  | (with_reducible refine c3_int_i ?_) | (with_reducible refine c3_int_b ?_) | (with_reducible refine c3_abs ?_) | (with_reducible refine c3_len_t ?_) | (with_reducible refine c3_len .fz ?_) | (with_reducible refine c3_max2 ?_) | (with_reducible refine c3_min2 ?_)
  | (with_reducible refine r3_eq (n := 9) (m := 9) okD_int okD_int ?_) | (with_reducible refine r3_ne (n := 9) (m := 9) okD_int okD_int ?_)
  | ((with_reducible refine' Exists.intro _ (And.intro ?hx ?_)); (case hx => exact rfl))
  | ((with_reducible refine' And.intro ?hx ?_); (case hx => (show List.length _ ≤ 100000); exact Nat.le_of_ble_eq_true rfl))
  | (with_reducible refine c3_lenL (c3_len_t ?_)) | (with_reducible refine c3_lenL (c3_len .fz ?_)))

section
variable {P : Program} {w : World} {K : PySem.W.Frag} {mg : Str → Option Value} {base : Heap} {A0 : Adr}

local macro_rules | `(tactic| walk_at "t3q") => `(tactic| first
  | (with_reducible refine s_seq ?_) | (with_reducible refine s_asg ?_) | (with_reducible refine s_if ?_) | (with_reducible refine s_ret ?_) | (with_reducible refine s_drop ?_) | (with_reducible refine s_asgG ?_) | (with_reducible refine s_retN ?_)
  | (with_reducible refine s_next ?_) | (with_reducible refine s_brk ?_) | (with_reducible refine s_cont ?_) | (with_reducible refine s_par ?_) | (with_reducible refine s_fld ?_)
  | ((with_reducible refine' w_var ?hx ?_); (case hx => exact rfl)) | (with_reducible refine w_cI ?_) | (with_reducible refine w_cB ?_) | (with_reducible refine w_cS ?_) | (with_reducible refine w_cN ?_) | (with_reducible refine w_cT ?_) | (with_reducible refine w_cR ?_)
  | (with_reducible refine w_op ?_) | (with_reducible refine w_un ?_) | (with_reducible refine w_nil ?_) | (with_reducible refine w_tup ?_) | (with_reducible refine w_cons ?_) | (with_reducible refine w_cb ?_) | (with_reducible refine w_bm0 ?_) | (with_reducible refine w_bm ?_)
  | (with_reducible refine w_test ?_) | (with_reducible refine w_B ?_) | (with_reducible refine w_notT ?_) | (with_reducible refine w_yes ?_) | (with_reducible refine w_notV ?_)
  | (with_reducible refine w_ifE ?_) | (with_reducible refine w_isN ?_) | (with_reducible refine w_notN ?_) | (with_reducible refine w_tr ?_) | (with_reducible refine w_chain ?_) | (with_reducible refine w_fld ?_) | (with_reducible refine w_sl ?_) | (with_reducible refine o_no ?_) | (with_reducible refine o_some ?_)
  | (with_reducible refine g_name ?_) | ((with_reducible refine' g_tup ?hx ?hy ?_); (case hx => exact rfl); (case hy => exact rfl)) | (with_reducible refine g_cons ?_) | (with_reducible refine g_nil ?_) | (with_reducible refine g_set ?_)
  | (with_reducible refine r3_add_ii ?_) | (with_reducible refine r3_sub ?_) | (with_reducible refine r3_lt ?_) | (with_reducible refine r3_le ?_) | (with_reducible refine r3_gt ?_) | (with_reducible refine r3_ge ?_) | (with_reducible refine u3_neg ?_)
  | (with_reducible refine c3_int_i ?_) | (with_reducible refine c3_int_b ?_) | (with_reducible refine c3_abs ?_) | (with_reducible refine c3_len_t ?_) | (with_reducible refine c3_len .fz ?_) | (with_reducible refine c3_max2 ?_) | (with_reducible refine c3_min2 ?_)
  | (with_reducible refine r3_eq (n := 9) (m := 9) okD_int okD_int ?_) | (with_reducible refine r3_ne (n := 9) (m := 9) okD_int okD_int ?_)
  | ((with_reducible refine' Exists.intro _ (And.intro ?hx ?_)); (case hx => exact rfl))
  | ((with_reducible refine' And.intro ?hx ?_); (case hx => (show List.length _ ≤ 100000); exact Nat.le_of_ble_eq_true rfl))
  | (with_reducible refine c3_lenL (c3_len_t ?_)) | (with_reducible refine c3_lenL (c3_len .fz ?_)))

theorem ok_Form___iter__ (T : Tx P K mg A0) : FnN P w K mg base CX0 1 A0.f_Form___iter__ A0.d_Form___iter__ ["self"] (spIt K A0.f_Form "terms") := by
  refine T.F_Form___iter__.okN sc_Form___iter__ (fun n vs H Q E ⟨a, dx, fs, l, zs, h, _⟩ => by rw [h]; rfl) (fun cdv A outer s H vs Q E hr h => ?_)
  refine ⟨_, (pss_one (ps_ret (pe_callB ItX.call_iterN (by rfl) T.n_iter (by decide +kernel) (pa_cons (pe_fldK K rfl (pv 0)) pa_nil)))), ?_⟩
  obtain ⟨a, dx, fs, l, zs, rfl, ha, hf, hl, q⟩ := h
  exact ⟨.ref a, rfl, a, A0.f_Form, dx, fs, _, rfl, ha, T.cl_Form, T.na_terms, hf, l, zs, rfl, hl, fun it h1 h2 => q it h1 h2⟩
theorem ok_Form___len__ (T : Tx P K mg A0) : FnOk P w K mg base CX0 1 A0.f_Form___len__ A0.d_Form___len__ ["self"] (spLen A0.f_Form "terms") := by
  refine T.F_Form___len__.ok sc_Form___len__ (fun vs H Q E ⟨a, dx, fs, l, zs, h, _⟩ => by rw [h]; rfl) (fun cdv A outer s H vs Q E hr h => ?_)
  refine ⟨_, (pss_one (ps_ret (pe_callB (call_lenDK K rfl) (by rfl) T.n_len PySem.boot_len (pa_cons (pe_fldK K rfl (pv 0)) pa_nil)))), ?_⟩
  obtain ⟨a, dx, fs, l, zs, rfl, ha, hf, hl, q⟩ := h
  exact ⟨.ref a, rfl, a, A0.f_Form, dx, fs, _, rfl, ha, T.cl_Form, T.na_terms, hf, .inl ⟨.ref l, zs.length, rfl, .inl ⟨zs, .inl (.inl hl), rfl⟩, q⟩⟩
theorem pq_tD (s t : Tm) : peq (tD s) (tD t) = decide (s = t) := by
  obtain ⟨a, n⟩ := s; obtain ⟨b, m⟩ := t
  show (peq (aD a) (aD b) && (peq (.int n) (.int m) && true)) = _
  rw [pq_aD, peq_int, Bool.and_true]
  rw [show ((n : Int) == m) = decide (n = m) from rfl]
  by_cases h1 : a = b <;> by_cases h2 : n = m <;> simp [h1, h2]
theorem okD_t (t : Tm) : okD 3 (tD t) = true := by
  show (okD 2 (aD t.1) && (okD 2 (.int t.2) && true)) = true
  have : okD 2 (aD t.1) = true := by
    show (okD 1 (.str _) && (okD 1 (.int _) && true)) = true
    rw [okD_S (wordS_ok t.1.1).1]; rfl
  rw [this]; rfl
theorem okDs_t (L : List Tm) : okDs 3 (L.map tD) = true := okDs_iff.mpr fun d hd => by
  obtain ⟨t, _, rfl⟩ := List.mem_map.mp hd
  exact okD_t t
def S_set (A0 : Adr) : Sp3 := fun ds M Q E => ∃ (o : Addr) (y z : D) (L : List Tm), ds = [.ref o, y, z] ∧ M o = some (fmO A0.f_Form L) ∧ Fw L ∧ AmV y ∧ Scal z ∧ (isAm y = false → E A0.f_BadAmount y M) ∧ (isAm y = true → isI z = false → E A0.f_BadNumber z M) ∧
  (∀ a n R, y = aD a → z = .int n → NF (cf ((L.filter fun t => decide (t.1 ≠ a)) ++ [(a, n)])) R → Q .non (mput M o (fmO A0.f_Form R)))
theorem ok_Form___setitem__ (T : Tx P K mg A0) : FnOk P w K mg base (L2.CX P w) 7 A0.f_Form___setitem__ A0.d_Form___setitem__ ["self", "amount", "number"] (lift3 (S_set A0)) := by
  refine T.F_Form___setitem__.okX sc_Form___setitem__ (lift3_len fun ds M Q E ⟨a, b, c, d, h, _⟩ => by rw [h]; rfl) (fun cdv A outer s H vs Q E hr h => ?_)
  have hu := hr.units
  have hu5 := units65 hr
  refine ⟨_, (pss_cons (ps_expr (pe_call (ok_check_amount T) (hr.mono (by decide)) (by rfl) T.g_check_amount T.k_check_amount T.b_check_amount .nil (passes_call (takes_of rfl rfl rfl rfl) (fun _ _ _ _ h => h)) (pa_cons (pv 1) pa_nil)))
  (pss_cons (ps_expr (pe_call (ok_check_whole T) (hr.mono (by decide)) (by rfl) T.g_check_whole T.k_check_whole T.b_check_whole_1 (.cons (show RelV .non .none from rfl) .nil) (passes_call (takes_of rfl rfl rfl rfl) (fun _ _ _ _ h => h)) (pa_cons (pv 2) pa_nil)))
  (pss_cons (ps_setLc (i := 3) (own := [("term", 4)]) (g := (gName 4)) (by rfl) sc_Form___setitem__.nd (by rfl) (by rfl) (sw_true (by rfl) (by rfl) (by rfl) (by decide +kernel)) (pi_list (pe_fldK K rfl (pv 0))) (blkOk_by (N := ["self", "amount", "number", "others", "term"]) (sc := defScope s_Form___setitem__) (own := [("term", 4)]) (by decide +kernel)) (fun _ _ _ _ _ => (pg_name (i := 4) sc_Form___setitem__.nd (by rfl) (Or.inl (by rfl)))) (fun _ _ _ _ _ => pts_one (pt_cmpR (op_neDK K rfl hu) (pe_ix (ix_seqK K rfl) (pv 4) pe_int (fun _ _ => by rfl)) (pv 1) (nomark _))) (fun _ _ _ _ _ => (pv 4)))
  (pss_one (ps_fld (pv 0) (pe_fldK K rfl (pe_make T.mk_Form (ok_Form___init__ T) (hr.mono (by decide)) (by rfl) T.g_Form T.b_Form___init__ .nil (passes_call (takes_of rfl rfl rfl rfl) (fun _ _ _ _ h => h)) (pa_cons (pe_op op_ADD (pv 3) (pe_lst (pa_cons (pe_tup (pa_cons (pv 1) (pa_cons (pv 2) pa_nil))) pa_nil))) pa_nil))) (by rfl)))))), run3 h fun B ds M Q3 E3 hs hE => ?_⟩
  obtain ⟨o, y, z, L, rfl, ho, fw, vy, sz, qa, qn, q⟩ := hs
  have fa : FAt A0.f_Form M (.ref o) L := .own ho
  change W3s B _ _ [some (.ref o), some y, some z, none, none] _
  try dsimp only [cxOf, Cx.nox, Cx.wish]
  refine s_vsE ?_
  repeat walk_at "t3q"
  refine w_call (dds := []) (E3 := E3) (fun _ => rfl) hE ?_
  repeat walk_at "t3q"
  refine ⟨y, rfl, vy, fun hy => ?_, fun hy => qa hy⟩
  repeat walk_at "t3q"
  refine w_call (dds := [.non]) (E3 := E3) (fun _ => ⟨_, _, rfl, rfl, rfl⟩) hE ?_
  repeat walk_at "t3q"
  refine ⟨z, .non, rfl, sz, .inl rfl, fun hz => ?_, fun hz => qn hy (by cases z <;> first | rfl | cases hz)⟩
  obtain ⟨n, rfl⟩ : ∃ n, z = .int n := isI_int (by cases z <;> first | rfl | cases hz)
  obtain ⟨a, rfl⟩ := isAm_of hy
  repeat walk_at "t3q"
  refine w_lcP (fun d => decide ((unT d).1 ≠ a)) (fun d => d) own_name (i_list ?_)
  repeat walk_at "t3q"
  have f1 := fw.few
  refine ⟨_, _, .lst (L.map tD), fa, T.cl_Form, T.na_terms, rfl, _, rfl, by rw [List.length_map]; omega, trivial, ?_, ?_⟩
  · intro i d M' hi hM'
    obtain ⟨t, ht, rfl⟩ := map_at hi
    refine g_name ⟨rfl, ?_⟩
    repeat walk_at "t3q"
    refine r3_ix_t (at3 (j := 0) (by omega) (v := aD t.1) rfl) ?_
    repeat walk_at "t3q"
    refine r3_ne (n := 1) (m := 1) (okD_a _) (okD_a _) ?_
    rw [pq_aD, unT_tD]
    refine ⟨_, rfl, rfl, ?_, fun _ => ?_⟩
    · by_cases h : t.1 = a <;> simp [h]
    · repeat walk_at "t3q"
      exact ⟨rfl, rfl⟩
  have el : (((L.map tD).filter fun d => decide ((unT d).1 ≠ a)).map fun d => d) = (L.filter fun t => decide (t.1 ≠ a)).map tD := by
    rw [List.map_id', List.filter_map]
    congr 1
    refine List.filter_congr fun t _ => ?_
    show decide ((unT (tD t)).1 ≠ a) = _
    rw [unT_tD]
  rw [el]
  have fl : (L.filter fun t => decide (t.1 ≠ a)).length ≤ 400 := Nat.le_trans (List.length_filter_le _ _) f1
  replace q := fun R => q a n R rfl rfl
  generalize L.filter (fun t => decide (t.1 ≠ a)) = L1 at q fl ⊢
  repeat walk_at "t3q"
  refine W3e.to (Q := fun d M1 => ∃ p R, d = .ref p ∧ M p = none ∧ NF (cf (L1 ++ [(a, n)])) R ∧ M1 = mput M p (fmO A0.f_Form R)) ?_ ?_
  rotate_left
  · rintro _ _ ⟨p, R, rfl, hp, nf, rfl⟩
    have hpo : p ≠ o := fun e => by rw [e, ho] at hp; cases hp
    refine ⟨_, _, .lst (R.map tD), .inr ⟨p, rfl, mput_same⟩, T.cl_Form, T.na_terms, rfl, ?_⟩
    repeat walk_at "t3q"
    refine ⟨o, A0.f_Form, [("terms", .lst (L.map tD))], rfl, by rw [mput_ne hpo.symm]; exact ho, T.cl_Form, T.na_terms, Nat.le_of_ble_eq_true rfl, ?_⟩
    refine ⟨_, _, vss_drop p, ?_⟩
    show Q3 .non _
    rw [show ∀ X Y, mdel (mput (mput M p X) o Y) p = mput M o Y from fun X Y => by rw [mput_comm hpo]; exact mdel_mput (by rw [mput_ne hpo]; exact hp)]
    exact q R nf
  refine w_make (dds := []) (E3 := NoE) (fun _ => rfl) impE0 ?_
  repeat walk_at "t3q"
  refine w_lst ?_
  repeat walk_at "t3q"
  refine r3_add_ll .fz .fz (by rw [List.length_map]; show _ + 1 ≤ _; omega) ?_
  rw [show L1.map tD ++ [D.tup [aD a, .int n]] = (L1 ++ [(a, n)]).map tD by rw [List.map_append]; rfl]
  repeat walk_at "t3q"
  intro p hp
  exact mk_form (Q := fun d M1 => ∃ p R, d = .ref p ∧ M p = none ∧ NF (cf (L1 ++ [(a, n)])) R ∧ M1 = mput M p (fmO A0.f_Form R)) (ts := L1 ++ [(a, n)]) (by rw [List.length_append]; show _ + 1 ≤ _; omega) fun R nf => ⟨p, R, rfl, hp, nf, rfl⟩
def S_add (A0 : Adr) : Sp3 := fun ds M Q _ => ∃ (x y : D) (L L' : List Tm), ds = [x, y] ∧ FAt A0.f_Form M x L ∧ FAt A0.f_Form M y L' ∧ Fw L ∧ Fw L' ∧ ∀ p R, M p = none → NF (cf (L ++ L')) R → Q (.ref p) (mput M p (fmO A0.f_Form R))
theorem ok_Form___add__ (T : Tx P K mg A0) : FnOk P w K mg base CX0 7 A0.f_Form___add__ A0.d_Form___add__ ["self", "other"] (lift3 (S_add A0)) := by
  refine T.F_Form___add__.ok sc_Form___add__ (lift3_len fun ds M Q E ⟨a, b, c, d, h, _⟩ => by rw [h]; rfl) (fun cdv A outer s H vs Q E hr h => ?_)
  have hu := hr.units
  have hu5 := units65 hr
  refine ⟨_, (pss_cons (ps_if (pt_not (pt_truthK K rfl (pe_callB (call_ISIK K rfl) (by rfl) T.n_isinstance (by decide +kernel) (pa_cons (pv 1) (pa_cons (pe_glob (v := .ref A0.f_Form) (by rfl) T.g_Form rfl) pa_nil))) (by intro _; rfl))) (pss_one ps_never) pss_nil)
  (pss_one (ps_ret (pe_make T.mk_Form (ok_Form___init__ T) (hr.mono (by decide)) (by rfl) T.g_Form T.b_Form___init__ .nil passL (pa_cons (pe_op op_ADD (pe_fldK K rfl (pv 0)) (pe_fldK K rfl (pv 1))) pa_nil))))), run3 h fun B ds M Q3 E3 hs hE => ?_⟩
  obtain ⟨x, y, L, L', rfl, fx, fy, fw, fw', q⟩ := hs
  change W3s B _ _ [some x, some y] _
  try dsimp only [cxOf, Cx.nox, Cx.wish]
  refine s_seq (s_if ?_)
  repeat walk_at "t3"
  refine c3_isO fy T.is_Form T.kf_Form ?_
  refine ⟨_, rfl, ?_⟩
  refine iteB (fun h => by cases h) (fun _ => s_next ?_)
  repeat walk_at "t3q"
  refine w_make (dds := []) (E3 := NoE) (fun _ => rfl) impE0 ?_
  repeat walk_at "t3q"
  refine ⟨_, _, .lst (L.map tD), fx, T.cl_Form, T.na_terms, rfl, ?_⟩
  repeat walk_at "t3q"
  refine ⟨_, _, .lst (L'.map tD), fy, T.cl_Form, T.na_terms, rfl, ?_⟩
  have f1 := fw.few
  have f2 := fw'.few
  refine r3_add_ll .fz .fz (by rw [List.length_map, List.length_map]; omega) ?_
  rw [← List.map_append]
  repeat walk_at "t3q"
  intro p hp
  exact mk_form (by rw [List.length_append]; omega) fun R nf => q p R hp nf
def S_sub (A0 : Adr) : Sp3 := fun ds M Q _ => ∃ (x y : D) (L L' : List Tm), ds = [x, y] ∧ FAt A0.f_Form M x L ∧ FAt A0.f_Form M y L' ∧ Fw L ∧ Fw L' ∧ ∀ p R, M p = none → NF (cf (L ++ L'.map G_neg)) R → Q (.ref p) (mput M p (fmO A0.f_Form R))
theorem ok_Form___sub__ (T : Tx P K mg A0) : FnOk P w K mg base CX0 7 A0.f_Form___sub__ A0.d_Form___sub__ ["self", "other"] (lift3 (S_sub A0)) := by
  refine T.F_Form___sub__.ok sc_Form___sub__ (lift3_len fun ds M Q E ⟨a, b, c, d, h, _⟩ => by rw [h]; rfl) (fun cdv A outer s H vs Q E hr h => ?_)
  have hu := hr.units
  have hu5 := units65 hr
  refine ⟨_, (pss_cons (ps_if (pt_not (pt_truthK K rfl (pe_callB (call_ISIK K rfl) (by rfl) T.n_isinstance (by decide +kernel) (pa_cons (pv 1) (pa_cons (pe_glob (v := .ref A0.f_Form) (by rfl) T.g_Form rfl) pa_nil))) (by intro _; rfl))) (pss_one ps_never) pss_nil)
  (pss_one (ps_ret (pe_make T.mk_Form (ok_Form___init__ T) (hr.mono (by decide)) (by rfl) T.g_Form T.b_Form___init__ .nil passL (pa_cons (pe_op op_ADD (pe_fldK K rfl (pv 0)) (pe_lc (own := [("amount", 2), ("number", 3)]) (g := (gTup K 2 (gCons (gName 2) (gCons (gName 3) gNil)))) (by rfl) sc_Form___sub__.nd (pi_list (pe_fldK K rfl (pv 1))) (blkOk_by (N := ["self", "other", "amount", "number"]) (sc := defScope s_Form___sub__) (own := [("amount", 2), ("number", 3)]) (by decide +kernel)) (fun _ _ _ _ _ => (pg_tup (by rfl) (pgs_cons (pg_name (i := 2) sc_Form___sub__.nd (by rfl) (Or.inl (by rfl))) (pgs_cons (pg_name (i := 3) sc_Form___sub__.nd (by rfl) (Or.inl (by rfl))) pgs_nil)))) (fun _ _ _ _ _ => pts_nil) (fun _ _ _ _ _ => (pe_tup (pa_cons (pv 2) (pa_cons (pe_un un_neg (pv 3)) pa_nil)))))) pa_nil))))), run3 h fun B ds M Q3 E3 hs hE => ?_⟩
  obtain ⟨x, y, L, L', rfl, fx, fy, fw, fw', q⟩ := hs
  change W3s B _ _ [some x, some y, none, none] _
  try dsimp only [cxOf, Cx.nox, Cx.wish]
  refine s_seq (s_if ?_)
  repeat walk_at "t3"
  refine c3_isO fy T.is_Form T.kf_Form ?_
  refine ⟨_, rfl, ?_⟩
  refine iteB (fun h => by cases h) (fun _ => s_next ?_)
  repeat walk_at "t3q"
  refine w_make (dds := []) (E3 := NoE) (fun _ => rfl) impE0 ?_
  repeat walk_at "t3q"
  refine ⟨_, _, .lst (L.map tD), fx, T.cl_Form, T.na_terms, rfl, ?_⟩
  repeat walk_at "t3q"
  refine w_lcP (fun _ => true) (fun d' => tD (G_neg (unT d'))) (own_tup (own_cons own_name (own_cons own_name own_nil))) (i_list ?_)
  repeat walk_at "t3q"
  have f1 := fw.few
  have f2 := fw'.few
  refine ⟨_, _, .lst (L'.map tD), fy, T.cl_Form, T.na_terms, rfl, _, rfl, by rw [List.length_map]; omega, trivial, ?_, ?_⟩
  · intro i d' M' hi hM'
    obtain ⟨t, ht, rfl⟩ := map_at hi
    rw [unT_tD]
    repeat walk_at "t3q"
    refine ⟨rfl, ?_⟩
    repeat walk_at "t3q"
    refine ⟨rfl, rfl, fun _ => ?_⟩
    repeat walk_at "t3q"
    exact ⟨rfl, rfl⟩
  rw [map_unT]
  refine r3_add_ll .fz .fz (by rw [List.length_map, List.length_map, List.length_map]; omega) ?_
  rw [← List.map_append]
  repeat walk_at "t3q"
  intro p hp
  exact mk_form (by rw [List.length_append, List.length_map]; omega) fun R nf => q p R hp nf
end
end LW
set_option pp.maxSteps 1500
set_option Elab.async false
set_option linter.all false
set_option maxRecDepth 100000
set_option maxHeartbeats 4000000
namespace LW
open PySem L2 T3
open Evl (Ex)
local macro_rules | `(tactic| walk_at "t3") => `(tactic| first
  | (with_reducible refine s_seq ?_) | (with_reducible refine s_asg ?_) | (with_reducible refine s_if ?_) | (with_reducible refine s_ret ?_) | (with_reducible refine s_drop ?_) | (with_reducible refine s_asgG ?_) | (with_reducible refine s_retN ?_)
  | (with_reducible refine s_next ?_) | (with_reducible refine s_brk ?_) | (with_reducible refine s_cont ?_) | (with_reducible refine s_par ?_) | (with_reducible refine s_fld ?_)
  | ((with_reducible refine' w_var ?hx ?_); (case hx => exact rfl)) | (with_reducible refine w_cI ?_) | (with_reducible refine w_cB ?_) | (with_reducible refine w_cS ?_) | (with_reducible refine w_cN ?_) | (with_reducible refine w_cT ?_) | (with_reducible refine w_cR ?_)
  | (with_reducible refine w_op ?_) | (with_reducible refine w_un ?_) | (with_reducible refine w_nil ?_) | (with_reducible refine w_tup ?_) | (with_reducible refine w_cons ?_) | (with_reducible refine w_cb ?_) | (with_reducible refine w_bm0 ?_) | (with_reducible refine w_bm ?_)
  | (with_reducible refine w_test ?_) | (with_reducible refine w_B ?_) | (with_reducible refine w_notT ?_) | (with_reducible refine w_yes ?_) | (with_reducible refine w_notV ?_)
  | (with_reducible refine w_ifE ?_) | (with_reducible refine w_isN ?_) | (with_reducible refine w_notN ?_) | (with_reducible refine w_tr ?_) | (with_reducible refine w_chain ?_) | (with_reducible refine w_fld ?_) | (with_reducible refine w_sl ?_) | (with_reducible refine o_no ?_) | (with_reducible refine o_some ?_)
  | (with_reducible refine w_call0 ?_) | (with_reducible refine g_name ?_) | ((with_reducible refine' g_tup ?hx ?hy ?_); (case hx => exact rfl); (case hy => exact rfl)) | (with_reducible refine g_cons ?_) | (with_reducible refine g_nil ?_) | (with_reducible refine g_set ?_)
  | (with_reducible refine r3_add_ii ?_) | (with_reducible refine r3_sub ?_) | (with_reducible refine r3_lt ?_) | (with_reducible refine r3_le ?_) | (with_reducible refine r3_gt ?_) | (with_reducible refine r3_ge ?_) | (with_reducible refine u3_neg ?_)
  | (with_reducible refine c3_int_i ?_) | (with_reducible refine c3_int_b ?_) | (with_reducible refine c3_abs ?_) | (with_reducible refine c3_len_t ?_) | (with_reducible refine c3_len .fz ?_) | (with_reducible refine c3_max2 ?_) | (with_reducible refine c3_min2 ?_)
  | (with_reducible refine r3_eq (n := 9) (m := 9) okD_int okD_int ?_) | (with_reducible refine r3_ne (n := 9) (m := 9) okD_int okD_int ?_)
  | ((with_reducible refine' Exists.intro _ (And.intro ?hx ?_)); (case hx => exact rfl))
  | ((with_reducible refine' And.intro ?hx ?_); (case hx => (show List.length _ ≤ 100000); exact Nat.le_of_ble_eq_true rfl))
  | (with_reducible refine c3_lenL (c3_len_t ?_)) | (with_reducible refine c3_lenL (c3_len .fz ?_)))

section
variable {P : Program} {w : World} {K : PySem.W.Frag} {mg : Str → Option Value} {base : Heap} {A0 : Adr}

local macro_rules | `(tactic| walk_at "t3q") => `(tactic| first
  | (with_reducible refine s_seq ?_) | (with_reducible refine s_asg ?_) | (with_reducible refine s_if ?_) | (with_reducible refine s_ret ?_) | (with_reducible refine s_drop ?_) | (with_reducible refine s_asgG ?_) | (with_reducible refine s_retN ?_)
  | (with_reducible refine s_next ?_) | (with_reducible refine s_brk ?_) | (with_reducible refine s_cont ?_) | (with_reducible refine s_par ?_) | (with_reducible refine s_fld ?_)
  | ((with_reducible refine' w_var ?hx ?_); (case hx => exact rfl)) | (with_reducible refine w_cI ?_) | (with_reducible refine w_cB ?_) | (with_reducible refine w_cS ?_) | (with_reducible refine w_cN ?_) | (with_reducible refine w_cT ?_) | (with_reducible refine w_cR ?_)
  | (with_reducible refine w_op ?_) | (with_reducible refine w_un ?_) | (with_reducible refine w_nil ?_) | (with_reducible refine w_tup ?_) | (with_reducible refine w_cons ?_) | (with_reducible refine w_cb ?_) | (with_reducible refine w_bm0 ?_) | (with_reducible refine w_bm ?_)
  | (with_reducible refine w_test ?_) | (with_reducible refine w_B ?_) | (with_reducible refine w_notT ?_) | (with_reducible refine w_yes ?_) | (with_reducible refine w_notV ?_)
  | (with_reducible refine w_ifE ?_) | (with_reducible refine w_isN ?_) | (with_reducible refine w_notN ?_) | (with_reducible refine w_tr ?_) | (with_reducible refine w_chain ?_) | (with_reducible refine w_fld ?_) | (with_reducible refine w_sl ?_) | (with_reducible refine o_no ?_) | (with_reducible refine o_some ?_)
  | (with_reducible refine g_name ?_) | ((with_reducible refine' g_tup ?hx ?hy ?_); (case hx => exact rfl); (case hy => exact rfl)) | (with_reducible refine g_cons ?_) | (with_reducible refine g_nil ?_) | (with_reducible refine g_set ?_)
  | (with_reducible refine r3_add_ii ?_) | (with_reducible refine r3_sub ?_) | (with_reducible refine r3_lt ?_) | (with_reducible refine r3_le ?_) | (with_reducible refine r3_gt ?_) | (with_reducible refine r3_ge ?_) | (with_reducible refine u3_neg ?_)
  | (with_reducible refine c3_int_i ?_) | (with_reducible refine c3_int_b ?_) | (with_reducible refine c3_abs ?_) | (with_reducible refine c3_len_t ?_) | (with_reducible refine c3_len .fz ?_) | (with_reducible refine c3_max2 ?_) | (with_reducible refine c3_min2 ?_)
  | (with_reducible refine r3_eq (n := 9) (m := 9) okD_int okD_int ?_) | (with_reducible refine r3_ne (n := 9) (m := 9) okD_int okD_int ?_)
  | ((with_reducible refine' Exists.intro _ (And.intro ?hx ?_)); (case hx => exact rfl))
  | ((with_reducible refine' And.intro ?hx ?_); (case hx => (show List.length _ ≤ 100000); exact Nat.le_of_ble_eq_true rfl))
  | (with_reducible refine c3_lenL (c3_len_t ?_)) | (with_reducible refine c3_lenL (c3_len .fz ?_)))

/-- one of a few whole numbers -/
theorem ix_few {B : Hp} {M : Mem} {Q : DQ} {xs : List Int} {r : Int} (h0 : 0 ≤ r) (h1 : r < xs.length) (q : ∀ x ∈ xs, Q (.int x) M) : R3 B (rIx K) (.lst (xs.map D.int)) (.int r) M Q := by
  have h2 : r.toNat < xs.length := by omega
  refine r3_ix_l .fz (at3 (j := r.toNat) (by omega) (v := .int xs[r.toNat]) (by rw [List.getElem?_map, List.getElem?_eq_getElem h2]; rfl)) ?_
  exact q _ (List.getElem_mem h2)
def S_amount : Sp3 := fun ds M Q _ => ∃ (a : Addr) (o : DO), ds = [.ref a] ∧ M a = some o ∧ IsSrc o ∧ ∀ (x : Am) o', x.2 < 10 ^ 12 → IsSrc o' → Q (aD x) (mput M a o')
theorem ok_amount (T : Tx P K mg A0) (NS : base.NoSeer) : FnOk P w K mg base CX0 34 A0.f_amount A0.d_amount ["_law_source_here"] (lift3 S_amount) := by
  refine T.F_amount.ok sc_amount (lift3_len fun ds M Q E ⟨a, o, h, _⟩ => by rw [h]; rfl) (fun cdv A outer s H vs Q E hr h => ?_)
  have hu := hr.units
  have hu5 := units65 hr
  refine ⟨_, (pss_cons (ps_set (i := 1) sc_amount.nd (by rfl) (Or.inl (by rfl)) (pe_ix (ix_seqK K rfl) (pe_lst (pa_cons pe_str (pa_cons pe_str pa_nil))) (pe_call (ok_draw T NS) (hr.mono (by decide)) (by rfl) T.g_draw T.k_draw T.b_draw .nil pass0 (pa_cons (pv 0) (pa_cons pe_int pa_nil))) (fun _ _ => by rfl)))
  (pss_one (ps_ret (pe_tup (pa_cons (pv 1) (pa_cons (pe_call (ok_draw T NS) (hr.mono (by decide)) (by rfl) T.g_draw T.k_draw T.b_draw .nil pass0 (pa_cons (pv 0) (pa_cons (pe_ix (ix_seqK K rfl) (pe_lst (pa_cons pe_int (pa_cons pe_int (pa_cons (pe_op op_pow pe_int pe_int) pa_nil)))) (pe_call (ok_draw T NS) (hr.mono (by decide)) (by rfl) T.g_draw T.k_draw T.b_draw .nil pass0 (pa_cons (pv 0) (pa_cons pe_int pa_nil))) (fun _ _ => by rfl)) pa_nil))) pa_nil)))))), run3 h fun B ds M Q3 E3 hs hE => ?_⟩
  obtain ⟨a, o, rfl, hm, so, q⟩ := hs
  change W3s B _ _ [some (.ref a), none] M
  try dsimp only [cxOf, Cx.nox, Cx.wish]
  repeat walk_at "t3"
  refine w_lst ?_
  repeat walk_at "t3"
  refine ⟨a, 2, o, rfl, hm, so, by decide, by decide, fun r1 o1 r0 r1' s1 => ?_⟩
  have hw : ∀ (Q' : DQ) (M' : Mem), (∀ b : Bool, Q' (.str (if b then "leave" else "take")) M') → R3 B (rIx K) (.lst [.str "take", .str "leave"]) (.int r1) M' Q' := fun Q' M' h => by
    rcases (by omega : r1 = 0 ∨ r1 = 1) with rfl | rfl
    · exact r3_ix_l .fz (at3 (j := 0) rfl rfl) (h false)
    · exact r3_ix_l .fz (at3 (j := 1) rfl rfl) (h true)
  refine hw _ _ fun b => ?_
  repeat walk_at "t3"
  refine w_lst ?_
  repeat walk_at "t3"
  refine r3_pow ⟨by decide, by decide, by decide⟩ ?_
  repeat walk_at "t3"
  refine ⟨a, 3, o1, rfl, mput_same, s1, by decide, by decide, fun r2 o2 r20 r21 s2 => ?_⟩
  rw [mput_mput]
  refine ix_few (xs := [3, 30, 10 ^ 12]) r20 r21 fun x hx => ?_
  have hx : 0 < x ∧ x ≤ 10 ^ 12 := by
    simp only [List.mem_cons, List.mem_nil_iff, or_false] at hx
    rcases hx with rfl | rfl | rfl <;> exact ⟨by decide, by decide⟩
  repeat walk_at "t3"
  refine ⟨a, x, o2, rfl, mput_same, s2, hx.1, by omega, fun r3 o3 r30 r31 s3 => ?_⟩
  rw [mput_mput]
  repeat walk_at "t3"
  have := q (b, r3.toNat) o3 (by show r3.toNat < _; omega) s3
  rw [show aD (b, r3.toNat) = D.tup [.str (if b = true then "leave" else "take"), .int r3] by show D.tup [_, .int ((r3.toNat : Nat) : Int)] = _; rw [Int.toNat_of_nonneg r30]] at this
  exact this
/-- a drawn term -/
def TmOk (t : Tm) : Prop := t.1.2 < 10 ^ 12 ∧ t.2.natAbs ≤ 10 ^ 30
def S_terms : Sp3 := fun ds M Q _ => ∃ (a : Addr) (most : Int) (o : DO), ds = [.ref a, .int most] ∧ M a = some o ∧ IsSrc o ∧ 0 ≤ most ∧ most ≤ 20 ∧ ∀ (ts : List Tm) o', (ts.length : Int) ≤ most → (∀ t ∈ ts, TmOk t) → IsSrc o' → Q (.lst (ts.map tD)) (mput M a o')
theorem ok_terms (T : Tx P K mg A0) (NS : base.NoSeer) : FnOk P w K mg base CX0 36 A0.f_terms A0.d_terms ["_law_source_here", "_law_most"] (lift3 S_terms) := by
  refine T.F_terms.ok sc_terms (lift3_len fun ds M Q E ⟨a, b, o, h, _⟩ => by rw [h]; rfl) (fun cdv A outer s H vs Q E hr h => ?_)
  have hu := hr.units
  have hu5 := units65 hr
  refine ⟨_, (pss_cons (ps_set (i := 2) sc_terms.nd (by rfl) (Or.inl (by rfl)) (pe_lst pa_nil))
  (pss_cons (ps_for PassesOwn.never (by rfl) (pi_range1 (by rfl) T.n_range (pa_cons (pe_op op_modN (pe_op op_ADD pe_int (pe_call (ok_draw T NS) (hr.mono (by decide)) (by rfl) T.g_draw T.k_draw T.b_draw .nil pass0 (pa_cons (pv 0) (pa_cons (pe_op op_ADD (pv 1) pe_int) pa_nil)))) (pe_op op_ADD (pv 1) pe_int)) pa_nil)) (pg_name (i := 3) sc_terms.nd (by rfl) (Or.inl (by rfl))) (pss_cons (ps_set (i := 4) sc_terms.nd (by rfl) (Or.inl (by rfl)) (pe_call (ok_amount T NS) (hr.mono (by decide)) (by rfl) T.g_amount T.k_amount T.b_amount .nil pass0 (pa_cons (pv 0) pa_nil)))
  (pss_cons (ps_if (PW.pt (pw_and (pt_cmpR (op_neDK K rfl hu) (pv 2) (pe_lst pa_nil) (nomark _)) (pw_and1 (pt_cmpR (op_eqDK K rfl hu) (pe_call (ok_draw T NS) (hr.mono (by decide)) (by rfl) T.g_draw T.k_draw T.b_draw .nil pass0 (pa_cons (pv 0) (pa_cons pe_int pa_nil))) pe_int (nomark _))))) (pss_one (ps_set (i := 4) sc_terms.nd (by rfl) (Or.inl (by rfl)) (pe_ix (ix_seqK K rfl) (pe_ix (ix_seqK K rfl) (pv 2) (pe_call (ok_draw T NS) (hr.mono (by decide)) (by rfl) T.g_draw T.k_draw T.b_draw .nil pass0 (pa_cons (pv 0) (pa_cons (pe_callB (call_lenDK K rfl) (by rfl) T.n_len PySem.boot_len (pa_cons (pv 2) pa_nil)) pa_nil))) (fun _ _ => by rfl)) pe_int (fun _ _ => by rfl)))) pss_nil)
  (pss_cons (ps_set (i := 5) sc_terms.nd (by rfl) (Or.inl (by rfl)) (pe_ix (ix_seqK K rfl) (pe_lst (pa_cons pe_int (pa_cons pe_int (pa_cons (pe_op op_pow pe_int pe_int) pa_nil)))) (pe_call (ok_draw T NS) (hr.mono (by decide)) (by rfl) T.g_draw T.k_draw T.b_draw .nil pass0 (pa_cons (pv 0) (pa_cons pe_int pa_nil))) (fun _ _ => by rfl)))
  (pss_one (ps_expr (pe_bm PySem.F.plainAttrs_list PySem.F.slot_list_append PySem.F.type_list_append mt_append (pv 2) (pa_cons (pe_tup (pa_cons (pv 4) (pa_cons (pe_op op_sub (pe_call (ok_draw T NS) (hr.mono (by decide)) (by rfl) T.g_draw T.k_draw T.b_draw .nil pass0 (pa_cons (pv 0) (pa_cons (pe_op op_ADD (pe_op op_mulW pe_int (pv 5)) pe_int) pa_nil))) (pv 5)) pa_nil))) pa_nil))))))))
  (pss_one (ps_ret (pv 2))))), run3 h fun B ds M Q3 E3 hs hE => ?_⟩
  obtain ⟨a, most, o, rfl, hm, so, m0, m20, q⟩ := hs
  change W3s B _ _ [some (.ref a), some (.int most), none, none, none, none] M
  try dsimp only [cxOf, Cx.nox, Cx.wish]
  repeat walk_at "t3"
  refine w_lstO ?_
  repeat walk_at "t3"
  intro p hp
  have hap : a ≠ p := mne hm hp
  repeat walk_at "t3"
  refine s_for (i_rng1 ?_)
  repeat walk_at "t3"
  refine ⟨a, most + 1, o, rfl, by rw [mput_ne hap]; exact hm, so, by omega, by omega, fun r1 o1 _ _ s1 => ?_⟩
  repeat walk_at "t3"
  refine r3_mod (by omega) ?_
  have k0 : 0 ≤ (3 + r1) % (most + 1) := Int.emod_nonneg _ (by omega)
  have k1 : (3 + r1) % (most + 1) < most + 1 := Int.emod_lt_of_pos _ (by omega)
  generalize (3 + r1) % (most + 1) = kk at k0 k1 ⊢
  repeat walk_at "t3"
  refine ⟨by omega, by omega, ?_⟩
  refine ⟨fun i σ' M' => ∃ (ts : List Tm) (o' : DO) (b3 b4 b5 : Option D), ts.length = i ∧ (∀ t ∈ ts, TmOk t) ∧ IsSrc o' ∧ σ' = [some (.ref a), some (.int most), some (.ref p), b3, b4, b5] ∧ M' = mput (mput M a o') p (.lst (ts.map tD)), fun _ _ _ _ => trivial, ⟨[], o1, _, _, _, rfl, fun _ h => (nomatch h), s1, rfl, mput_comm hap.symm⟩, ?_, ?_⟩
  · rintro i d σ' M' hi ⟨ts, o', b3, b4, b5, hl, hok, so', rfl, rfl⟩
    have hi' : (i : Int) < kk := by
      have := (List.getElem?_eq_some_iff.mp hi).1
      simp at this
      omega
    have ha : ∀ X Y, (mput (mput M a X) p Y) a = some X := fun X Y => by rw [mput_ne hap]; exact mput_same
    have hb : ∀ X Y Z, mput (mput (mput M a X) p Y) a Z = mput (mput M a Z) p Y := fun X Y Z => by rw [← mput_comm hap, mput_mput]
    have hq : ∀ X Y Z, mput (mput (mput M a X) p Y) p Z = mput (mput M a X) p Z := fun X Y Z => mput_mput
    refine g_name ?_
    repeat walk_at "t3"
    refine ⟨a, o', rfl, ha _ _, so', fun x o2 hx s2 => ?_⟩
    rw [hb]
    show W3s B _ _ [some (.ref a), some (.int most), some (.ref p), some d, some (aD x), b5] _
    -- an amount drawn again
    refine s_seqM (fun σ' M' => ∃ (y : Am) (o3 : DO) (b3' : Option D), y.2 < 10 ^ 12 ∧ IsSrc o3 ∧ σ' = [some (.ref a), some (.int most), some (.ref p), b3', some (aD y), b5] ∧ M' = mput (mput M a o3) p (.lst (ts.map tD))) ?_ ?_
    · refine s_if (W3t.to (Q := fun c M1 => ∃ o3, IsSrc o3 ∧ M1 = mput (mput M a o3) p (.lst (ts.map tD)) ∧ (c = true → ts ≠ [])) ?_ (fun c M' hc => ?_))
      · cases ts with
        | nil =>
          refine w_andTP (a := false) (b := false) ?_ (fun h => by cases h) ⟨o2, s2, rfl, fun h => by cases h⟩
          repeat walk_at "t3"
          refine w_lst ?_
          repeat walk_at "t3"
          refine r3_neO (n := 3) (m := 3) (.ow mput_same) .fz (okDs_t []) (okDs_t []) ?_
          exact ⟨_, rfl, rfl, rfl⟩
        | cons t ts =>
          refine w_andT ?_
          repeat walk_at "t3"
          refine w_lst ?_
          repeat walk_at "t3"
          refine r3_neO (n := 3) (m := 3) (.ow mput_same) .fz (okDs_t (t :: ts)) (okDs_t []) ?_
          refine ⟨true, rfl, ?_⟩
          rw [if_pos rfl]
          repeat walk_at "t3"
          refine ⟨a, 3, o2, rfl, ha _ _, s2, by decide, by decide, fun r o3 _ _ s3 => ?_⟩
          rw [hb]
          repeat walk_at "t3"
          exact ⟨o3, s3, rfl, fun _ => by simp⟩
      · obtain ⟨o3, s3, rfl, hne⟩ := hc
        refine iteB (fun h => ?_) (fun _ => ?_)
        · have hne := hne h
          have hlp : 0 < ts.length := List.length_pos_iff.mpr hne
          repeat walk_at "t3"
          refine c3_lenL (c3_len (.ow mput_same) ?_)
          repeat walk_at "t3"
          refine ⟨a, (ts.map tD).length, o3, rfl, ha _ _, s3, by rw [List.length_map]; omega, by rw [List.length_map]; omega, fun r o4 r0 r1 s4 => ?_⟩
          rw [hb]
          rw [List.length_map] at r1
          have h2 : r.toNat < ts.length := by omega
          refine r3_ix_l (.ow mput_same) (at3 (j := r.toNat) (by omega) (v := tD ts[r.toNat]) (by rw [List.getElem?_map, List.getElem?_eq_getElem h2]; rfl)) ?_
          repeat walk_at "t3"
          refine r3_ix_t (at3 (j := 0) (by omega) (v := aD ts[r.toNat].1) rfl) ?_
          exact ⟨_, o4, _, (hok _ (List.getElem_mem h2)).1, s4, rfl, rfl⟩
        · exact s_next ⟨x, o3, _, hx, s3, rfl, rfl⟩
    rintro _ _ ⟨y, o3, b3', hy, s3, rfl, rfl⟩
    repeat walk_at "t3"
    refine w_lst ?_
    repeat walk_at "t3"
    refine r3_pow ⟨by decide, by decide, by decide⟩ ?_
    repeat walk_at "t3"
    refine ⟨a, 3, o3, rfl, ha _ _, s3, by decide, by decide, fun r2 o4 r20 r21 s4 => ?_⟩
    rw [hb]
    refine ix_few (xs := [2, 9, 10 ^ 30]) r20 r21 fun z hz => ?_
    have hz : 0 < z ∧ z ≤ 10 ^ 30 := by
      simp only [List.mem_cons, List.mem_nil_iff, or_false] at hz
      rcases hz with rfl | rfl | rfl <;> exact ⟨by decide, by decide⟩
    repeat walk_at "t3"
    refine ⟨.lo mput_same, ?_⟩
    repeat walk_at "t3"
    refine r3_mul (mulW (by decide) (by omega)) ?_
    repeat walk_at "t3"
    refine ⟨a, 2 * z + 1, o4, rfl, ha _ _, s4, by omega, by omega, fun r5 o5 r50 r51 s5 => ?_⟩
    rw [hb]
    repeat walk_at "t3"
    refine m3_append mput_same (by rw [List.length_map]; omega) ?_
    rw [hq]
    refine ⟨ts ++ [(y, r5 - z)], o5, _, _, _, by rw [List.length_append, hl]; rfl, fun t ht => ?_, s5, rfl, by rw [List.map_append]; rfl⟩
    rcases List.mem_append.mp ht with ht | ht
    · exact hok t ht
    · rw [List.mem_singleton.mp ht]
      exact ⟨hy, by show (r5 - z).natAbs ≤ 10 ^ 30; omega⟩
  · rintro σ' M' ⟨ts, o', b3, b4, b5, hl, hok, so', rfl, rfl⟩
    rw [List.length_map, List.length_range] at hl
    refine s_ret (w_vs ?_)
    repeat walk_at "t3"
    refine ⟨_, _, vs_lst mput_same, ?_⟩
    rw [mdel_mput (by rw [mput_ne hap.symm]; exact hp)]
    exact q ts o' (by omega) hok so'
end
end LW
set_option pp.maxSteps 1500
set_option Elab.async false
set_option linter.all false
set_option maxRecDepth 100000
set_option maxHeartbeats 4000000
namespace LW
open PySem L2 T3
open Evl (Ex)
local macro_rules | `(tactic| walk_at "t3") => `(tactic| first
  | (with_reducible refine s_seq ?_) | (with_reducible refine s_asg ?_) | (with_reducible refine s_if ?_) | (with_reducible refine s_ret ?_) | (with_reducible refine s_drop ?_) | (with_reducible refine s_asgG ?_) | (with_reducible refine s_retN ?_)
  | (with_reducible refine s_next ?_) | (with_reducible refine s_brk ?_) | (with_reducible refine s_cont ?_) | (with_reducible refine s_par ?_) | (with_reducible refine s_fld ?_)
  | ((with_reducible refine' w_var ?hx ?_); (case hx => exact rfl)) | (with_reducible refine w_cI ?_) | (with_reducible refine w_cB ?_) | (with_reducible refine w_cS ?_) | (with_reducible refine w_cN ?_) | (with_reducible refine w_cT ?_) | (with_reducible refine w_cR ?_)
  | (with_reducible refine w_op ?_) | (with_reducible refine w_un ?_) | (with_reducible refine w_nil ?_) | (with_reducible refine w_tup ?_) | (with_reducible refine w_cons ?_) | (with_reducible refine w_cb ?_) | (with_reducible refine w_bm0 ?_) | (with_reducible refine w_bm ?_)
  | (with_reducible refine w_test ?_) | (with_reducible refine w_B ?_) | (with_reducible refine w_notT ?_) | (with_reducible refine w_yes ?_) | (with_reducible refine w_notV ?_)
  | (with_reducible refine w_ifE ?_) | (with_reducible refine w_isN ?_) | (with_reducible refine w_notN ?_) | (with_reducible refine w_tr ?_) | (with_reducible refine w_chain ?_) | (with_reducible refine w_fld ?_) | (with_reducible refine w_sl ?_) | (with_reducible refine o_no ?_) | (with_reducible refine o_some ?_)
  | (with_reducible refine w_call0 ?_) | (with_reducible refine g_name ?_) | ((with_reducible refine' g_tup ?hx ?hy ?_); (case hx => exact rfl); (case hy => exact rfl)) | (with_reducible refine g_cons ?_) | (with_reducible refine g_nil ?_) | (with_reducible refine g_set ?_)
  | (with_reducible refine r3_add_ii ?_) | (with_reducible refine r3_sub ?_) | (with_reducible refine r3_lt ?_) | (with_reducible refine r3_le ?_) | (with_reducible refine r3_gt ?_) | (with_reducible refine r3_ge ?_) | (with_reducible refine u3_neg ?_)
  | (with_reducible refine c3_int_i ?_) | (with_reducible refine c3_int_b ?_) | (with_reducible refine c3_abs ?_) | (with_reducible refine c3_len_t ?_) | (with_reducible refine c3_len .fz ?_) | (with_reducible refine c3_max2 ?_) | (with_reducible refine c3_min2 ?_)
  | (with_reducible refine r3_eq (n := 9) (m := 9) okD_int okD_int ?_) | (with_reducible refine r3_ne (n := 9) (m := 9) okD_int okD_int ?_)
  | ((with_reducible refine' Exists.intro _ (And.intro ?hx ?_)); (case hx => exact rfl))
  | ((with_reducible refine' And.intro ?hx ?_); (case hx => (show List.length _ ≤ 100000); exact Nat.le_of_ble_eq_true rfl))
  | (with_reducible refine c3_lenL (c3_len_t ?_)) | (with_reducible refine c3_lenL (c3_len .fz ?_)))

section
variable {P : Program} {w : World} {K : PySem.W.Frag} {mg : Str → Option Value} {base : Heap} {A0 : Adr}

local macro_rules | `(tactic| walk_at "t3q") => `(tactic| first
  | (with_reducible refine s_seq ?_) | (with_reducible refine s_asg ?_) | (with_reducible refine s_if ?_) | (with_reducible refine s_ret ?_) | (with_reducible refine s_drop ?_) | (with_reducible refine s_asgG ?_) | (with_reducible refine s_retN ?_)
  | (with_reducible refine s_next ?_) | (with_reducible refine s_brk ?_) | (with_reducible refine s_cont ?_) | (with_reducible refine s_par ?_) | (with_reducible refine s_fld ?_)
  | ((with_reducible refine' w_var ?hx ?_); (case hx => exact rfl)) | (with_reducible refine w_cI ?_) | (with_reducible refine w_cB ?_) | (with_reducible refine w_cS ?_) | (with_reducible refine w_cN ?_) | (with_reducible refine w_cT ?_) | (with_reducible refine w_cR ?_)
  | (with_reducible refine w_op ?_) | (with_reducible refine w_un ?_) | (with_reducible refine w_nil ?_) | (with_reducible refine w_tup ?_) | (with_reducible refine w_cons ?_) | (with_reducible refine w_cb ?_) | (with_reducible refine w_bm0 ?_) | (with_reducible refine w_bm ?_)
  | (with_reducible refine w_test ?_) | (with_reducible refine w_B ?_) | (with_reducible refine w_notT ?_) | (with_reducible refine w_yes ?_) | (with_reducible refine w_notV ?_)
  | (with_reducible refine w_ifE ?_) | (with_reducible refine w_isN ?_) | (with_reducible refine w_notN ?_) | (with_reducible refine w_tr ?_) | (with_reducible refine w_chain ?_) | (with_reducible refine w_fld ?_) | (with_reducible refine w_sl ?_) | (with_reducible refine o_no ?_) | (with_reducible refine o_some ?_)
  | (with_reducible refine g_name ?_) | ((with_reducible refine' g_tup ?hx ?hy ?_); (case hx => exact rfl); (case hy => exact rfl)) | (with_reducible refine g_cons ?_) | (with_reducible refine g_nil ?_) | (with_reducible refine g_set ?_)
  | (with_reducible refine r3_add_ii ?_) | (with_reducible refine r3_sub ?_) | (with_reducible refine r3_lt ?_) | (with_reducible refine r3_le ?_) | (with_reducible refine r3_gt ?_) | (with_reducible refine r3_ge ?_) | (with_reducible refine u3_neg ?_)
  | (with_reducible refine c3_int_i ?_) | (with_reducible refine c3_int_b ?_) | (with_reducible refine c3_abs ?_) | (with_reducible refine c3_len_t ?_) | (with_reducible refine c3_len .fz ?_) | (with_reducible refine c3_max2 ?_) | (with_reducible refine c3_min2 ?_)
  | (with_reducible refine r3_eq (n := 9) (m := 9) okD_int okD_int ?_) | (with_reducible refine r3_ne (n := 9) (m := 9) okD_int okD_int ?_)
  | ((with_reducible refine' Exists.intro _ (And.intro ?hx ?_)); (case hx => exact rfl))
  | ((with_reducible refine' And.intro ?hx ?_); (case hx => (show List.length _ ≤ 100000); exact Nat.le_of_ble_eq_true rfl))
  | (with_reducible refine c3_lenL (c3_len_t ?_)) | (with_reducible refine c3_lenL (c3_len .fz ?_)))

theorem units9 {k : Nat} {A : Around} (r : Room k A) : A.units + 9 < cLine := by have := r.un; omega
/-! ### bounds -/
theorem nf_len {ts R : List Tm} (h : NF (cf ts) R) : R.length ≤ ts.length := by
  have nd : (R.map (·.1)).Nodup := by
    have := List.pairwise_map.mpr h.srt
    refine List.Pairwise.imp (fun {a b} (h : ltA a b) (e : a = b) => ?_) this
    rw [e] at h; exact ltA_irr h
  have main : ∀ {l m : List Am}, l.Nodup → (∀ x ∈ l, x ∈ m) → l.length ≤ m.length := by
    intro l
    induction l with
    | nil => exact fun _ _ => Nat.zero_le _
    | cons x l ih =>
      intro m hn s
      obtain ⟨h1, h2⟩ := List.nodup_cons.mp hn
      have hx : x ∈ m := s x (List.mem_cons_self ..)
      have := ih (m := m.erase x) h2 fun y hy => (List.mem_erase_of_ne (fun (e : y = x) => h1 (by rw [← e]; exact hy))).mpr (s y (List.mem_cons_of_mem _ hy))
      rw [List.length_erase_of_mem hx] at this
      have : 0 < m.length := List.length_pos_of_mem hx
      show l.length + 1 ≤ m.length
      omega
  have := main (m := ts.map (·.1)) nd fun a ha => by
    obtain ⟨t, ht, rfl⟩ := List.mem_map.mp ha
    by_cases hk : ∃ u ∈ ts, u.1 = t.1
    · obtain ⟨u, hu, e⟩ := hk
      exact List.mem_map.mpr ⟨u, hu, e⟩
    · have h1 := (h.mem t.1 t.2 (h.nz t ht)).mp ht
      rw [cf_none fun u hu e => hk ⟨u, hu, e⟩] at h1
      exact absurd h1.symm (h.nz t ht)
  simpa using this
theorem cf_b {ts : List Tm} {B : Nat} (h : ∀ t ∈ ts, t.2.natAbs ≤ B) (a : Am) : (cf ts a).natAbs ≤ ts.length * B := by
  induction ts with
  | nil => simp [cf]
  | cons t ts ih =>
    have h1 := h t (List.mem_cons_self ..)
    have h2 := ih fun x hx => h x (List.mem_cons_of_mem _ hx)
    unfold cf
    rw [List.length_cons, Nat.succ_mul]
    split <;> omega
theorem nf_b {ts L : List Tm} {B : Nat} (h : ∀ t ∈ ts, t.2.natAbs ≤ B) (nf : NF (cf ts) L) : ∀ t ∈ L, t.2.natAbs ≤ ts.length * B := fun t ht => by
  rw [← (nf.mem t.1 t.2 (nf.nz t ht)).mp ht]
  exact cf_b h t.1
theorem nf_key {ts L : List Tm} (nf : NF (cf ts) L) {t : Tm} (ht : t ∈ L) : ∃ u ∈ ts, u.1 = t.1 := by
  by_cases hk : ∃ u ∈ ts, u.1 = t.1
  · exact hk
  · have h1 := (nf.mem t.1 t.2 (nf.nz t ht)).mp ht
    rw [cf_none fun u hu e => hk ⟨u, hu, e⟩] at h1
    exact absurd h1.symm (nf.nz t ht)
/-- a form's terms: how many, how large, how late -/
structure Bd (n B : Nat) (L : List Tm) : Prop where
  len : L.length ≤ n
  b : ∀ t ∈ L, t.2.natAbs ≤ B
  k : ∀ t ∈ L, t.1.2 < 10 ^ 12
theorem Bd.nf {n B : Nat} {ts L : List Tm} (h : Bd n B ts) (nf : NF (cf ts) L) : Bd n (n * B) L := ⟨Nat.le_trans (nf_len nf) h.len, fun t ht => Nat.le_trans (nf_b h.b nf t ht) (Nat.mul_le_mul_right B h.len), fun t ht => by
  obtain ⟨u, hu, e⟩ := nf_key nf ht
  rw [← e]; exact h.k u hu⟩
theorem Bd.app {n m B : Nat} {L L' : List Tm} (h : Bd n B L) (h' : Bd m B L') : Bd (n + m) B (L ++ L') := ⟨by rw [List.length_append]; have := h.len; have := h'.len; omega, fun t ht => (List.mem_append.mp ht).elim (h.b t) (h'.b t), fun t ht => (List.mem_append.mp ht).elim (h.k t) (h'.k t)⟩
theorem Bd.le {n m B C : Nat} {L : List Tm} (h : Bd n B L) (h1 : n ≤ m) (h2 : B ≤ C) : Bd m C L := ⟨Nat.le_trans h.len h1, fun t ht => Nat.le_trans (h.b t ht) h2, h.k⟩
theorem Bd.fw {n B : Nat} {L : List Tm} (h : Bd n B L) (h1 : n ≤ 400) (h2 : B < 2 ^ 300) : Fw L := ⟨Nat.le_trans h.len h1, fun t ht => Nat.lt_of_le_of_lt (h.b t ht) h2⟩
/-! ### values -/
def valS : List Tm → (Am → Int) → Int
  | [], _ => 0
  | t :: ts, g => t.2 * g t.1 + valS ts g
theorem valS_app (l m : List Tm) (g : Am → Int) : valS (l ++ m) g = valS l g + valS m g := by
  induction l with
  | nil => exact (Int.zero_add _).symm
  | cons t l ih => show t.2 * g t.1 + valS (l ++ m) g = t.2 * g t.1 + valS l g + valS m g; rw [ih]; omega
theorem valS_map (l : List Tm) (k : Int) (g : Am → Int) : valS (l.map fun t => (t.1, t.2 * k)) g = valS l g * k := by
  induction l with
  | nil => exact (Int.zero_mul k).symm
  | cons t l ih =>
    show t.2 * k * g t.1 + valS (l.map fun t => (t.1, t.2 * k)) g = (t.2 * g t.1 + valS l g) * k
    rw [ih, Int.add_mul, Int.mul_right_comm]
theorem valS_neg (l : List Tm) (g : Am → Int) : valS (l.map G_neg) g = -valS l g := by
  induction l with
  | nil => rfl
  | cons t l ih =>
    show (-t.2) * g t.1 + valS (l.map G_neg) g = -(t.2 * g t.1 + valS l g)
    rw [ih, Int.neg_mul]; omega
def sumK (S : List Am) (h : Am → Int) : Int := match S with
  | [] => 0
  | a :: S => h a + sumK S h
theorem sumK_add (S : List Am) (h k : Am → Int) : sumK S (fun a => h a + k a) = sumK S h + sumK S k := by
  induction S with
  | nil => rfl
  | cons a S ih => show h a + k a + sumK S (fun a => h a + k a) = h a + sumK S h + (k a + sumK S k); rw [ih]; omega
theorem sumK_congr {S : List Am} {h k : Am → Int} (e : ∀ a ∈ S, h a = k a) : sumK S h = sumK S k := by
  induction S with
  | nil => rfl
  | cons a S ih => show h a + sumK S h = k a + sumK S k; rw [e a (List.mem_cons_self ..), ih fun b hb => e b (List.mem_cons_of_mem _ hb)]
theorem sumK_zero {S : List Am} {h : Am → Int} (e : ∀ a ∈ S, h a = 0) : sumK S h = 0 := by
  induction S with
  | nil => rfl
  | cons a S ih => show h a + sumK S h = 0; rw [e a (List.mem_cons_self ..), ih fun b hb => e b (List.mem_cons_of_mem _ hb)]; rfl
theorem sumK_one {S : List Am} (nd : S.Nodup) {b : Am} (hb : b ∈ S) (n : Int) (g : Am → Int) : sumK S (fun a => (if b = a then n else 0) * g a) = n * g b := by
  induction S with
  | nil => cases hb
  | cons a S ih =>
    obtain ⟨h1, h2⟩ := List.nodup_cons.mp nd
    show (if b = a then n else 0) * g a + sumK S (fun a => (if b = a then n else 0) * g a) = _
    by_cases e : b = a
    · subst e
      rw [if_pos rfl, sumK_zero fun c hc => by rw [if_neg fun (e : b = c) => h1 (by rw [e]; exact hc)]; exact Int.zero_mul _]
      exact Int.add_zero _
    · rw [if_neg e, ih h2 ((List.mem_cons.mp hb).resolve_left e), Int.zero_mul, Int.zero_add]
theorem valS_sum {S : List Am} (nd : S.Nodup) : ∀ {ts : List Tm}, (∀ t ∈ ts, t.1 ∈ S) → ∀ g, valS ts g = sumK S fun a => cf ts a * g a
  | [], _, g => (sumK_zero fun a _ => by show (0 : Int) * g a = 0; exact Int.zero_mul _).symm
  | t :: ts, h, g => by
    have ih := valS_sum nd (ts := ts) (fun u hu => h u (List.mem_cons_of_mem _ hu)) g
    show t.2 * g t.1 + valS ts g = _
    rw [ih, ← sumK_one nd (h t (List.mem_cons_self ..)) t.2 g, ← sumK_add]
    exact sumK_congr fun a _ => by
      show _ = ((if t.1 = a then t.2 else 0) + cf ts a) * g a
      rw [Int.add_mul]
theorem keys_set : ∀ ts : List Tm, ∃ S : List Am, S.Nodup ∧ ∀ t ∈ ts, t.1 ∈ S
  | [] => ⟨[], .nil, fun _ h => nomatch h⟩
  | t :: ts => by
    obtain ⟨S, h1, h2⟩ := keys_set ts
    by_cases h : t.1 ∈ S
    · exact ⟨S, h1, fun u hu => (List.mem_cons.mp hu).elim (fun e => by rw [e]; exact h) (h2 u)⟩
    · exact ⟨t.1 :: S, List.nodup_cons.mpr ⟨h, h1⟩, fun u hu => (List.mem_cons.mp hu).elim (fun e => by rw [e]; exact List.mem_cons_self ..) fun hu => List.mem_cons_of_mem _ (h2 u hu)⟩
theorem valS_nf {ts L : List Tm} (nf : NF (cf ts) L) (g : Am → Int) : valS L g = valS ts g := by
  obtain ⟨S, nd, hs⟩ := keys_set ts
  rw [valS_sum nd hs g, valS_sum nd (fun t ht => by obtain ⟨u, hu, e⟩ := nf_key nf ht; rw [← e]; exact hs u hu) g]
  exact sumK_congr fun a _ => by rw [nf.cf]
theorem valS_filter (l : List Tm) (a : Am) (g : Am → Int) : valS (l.filter fun t => decide (t.1 ≠ a)) g = valS l fun b => if b = a then 0 else g b := by
  induction l with
  | nil => rfl
  | cons t l ih =>
    rw [List.filter_cons]
    show _ = t.2 * (if t.1 = a then 0 else g t.1) + valS l _
    by_cases e : t.1 = a
    · rw [if_neg (by simp [e]), if_pos e, ih, Int.mul_zero, Int.zero_add]
    · rw [if_pos (by simp [e]), if_neg e, ← ih]; rfl
def gA (tb : List Tm) (a : Am) : Int := (getA tb a).getD 0
theorem getD_int (o : Option Int) : ((o.map D.int).getD (.int 0)) = .int (o.getD 0) := by cases o <;> rfl
def nkA (a : Am) : L2.NK := .tup [.text (if a.1 then "leave" else "take"), .num a.2]
theorem keyD_aD (a : Am) : KeyD (nkA a) (aD a) := .inr (.inr ⟨_, _, rfl, rfl⟩)
/-! ### Form.take, Form.leave -/
def wordB (b : Bool) : Str := if b then "leave" else "take"
def S_stat (A0 : Adr) (b : Bool) : Sp3 := fun ds M Q E => ∃ y : D, ds = [y] ∧ AmV (.tup [.str (wordB b), y]) ∧ (isAm (.tup [.str (wordB b), y]) = false → ∀ M', Gro M M' → E A0.f_BadAmount (.tup [.str (wordB b), y]) M') ∧
  (∀ n : Nat, y = .int n → ∀ p, M p = none → Q (.ref p) (mput M p (fmO A0.f_Form [((b, n), 1)])))
theorem stat_nf {b : Bool} {n : Nat} {L : List Tm} (nf : NF (cf [((b, n), 1)]) L) : L = [((b, n), 1)] := nf.uniq (nf_self (List.pairwise_singleton _ _) fun t ht => by
  rw [List.mem_singleton.mp ht]
  exact (by decide : (1 : Int) ≠ 0))
theorem stat_init {M : Mem} {Q : DQ} {E : EQ3} {p : Addr} {b : Bool} {y : D} (hp : M p = none) (am : AmV (.tup [.str (wordB b), y])) (qe : isAm (.tup [.str (wordB b), y]) = false → ∀ M', Gro M M' → E A0.f_BadAmount (.tup [.str (wordB b), y]) M')
    (q : ∀ n : Nat, y = .int n → ∀ p, M p = none → Q (.ref p) (mput M p (fmO A0.f_Form [((b, n), 1)]))) : S_init K A0 [.ref p, .lst [.tup [.tup [.str (wordB b), y], .int 1]]] (mput M p (.ins A0.f_Form [])) (fun d M2 => d = .non ∧ Q (.ref p) M2) E := by
  refine ⟨p, _, [(.tup [.str (wordB b), y], .int 1)], rfl, mput_same, ⟨.inl (.inl rfl), fun t ht => ?_, Nat.le_of_ble_eq_true rfl⟩, fun C t M' h g => ?_, fun ts L e nf => ⟨rfl, ?_⟩⟩
  · rw [List.mem_singleton.mp ht]
    exact ⟨am, .inl ⟨1, rfl⟩⟩
  · unfold badT at h
    by_cases ha : isAm (.tup [.str (wordB b), y]) = true
    · rw [if_pos ha] at h; cases h
    · rw [if_neg ha] at h
      cases h
      exact qe (by simpa using ha) M' fun z x hz => g z x (by rw [mput_ne (mne hz hp)]; exact hz)
  · rcases ts with _ | ⟨t, _ | ⟨u, r⟩⟩
    · cases e
    · obtain ⟨⟨b2, n⟩, m⟩ := t
      have e : (wordB b = (if b2 = true then "leave" else "take" : Str) ∧ y = D.int (n : Nat)) ∧ (1 : Int) = m := by simpa [tV, aD] using e
      obtain ⟨⟨e1, e2⟩, e3⟩ := e
      have hb : b = b2 := by cases b <;> cases b2 <;> first | rfl | exact absurd e1 (by decide +kernel)
      subst hb
      subst e3
      rw [stat_nf nf, mput_mput]
      exact q n e2 p hp
    · simp at e
theorem ok_Form_take (T : Tx P K mg A0) : FnOk P w K mg base (L2.CX P w) 7 A0.f_Form_take A0.d_Form_take ["number"] (lift3 (S_stat A0 false)) := by
  refine T.F_Form_take.okX sc_Form_take (lift3_len fun ds M Q E ⟨a, h, _⟩ => by rw [h]; rfl) (fun cdv A outer s H vs Q E hr h => ?_)
  have hu := hr.units
  have hu5 := units65 hr
  refine ⟨_, (pss_one (ps_ret (pe_make T.mk_Form (ok_Form___init__ T) (hr.mono (by decide)) (by rfl) T.g_Form T.b_Form___init__ .nil (passes_call (takes_of rfl rfl rfl rfl) (fun _ _ _ _ h => h)) (pa_cons (pe_lst (pa_cons (pe_tup (pa_cons (pe_tup (pa_cons pe_str (pa_cons (pv 0) pa_nil))) (pa_cons pe_int pa_nil))) pa_nil)) pa_nil)))), run3 h fun B ds M Q3 E3 hs hE => ?_⟩
  obtain ⟨y, rfl, am, qe, q⟩ := hs
  change W3s B _ _ [some y] _
  try dsimp only [cxOf, Cx.nox, Cx.wish]
  repeat walk_at "t3q"
  refine w_make (dds := []) (E3 := E3) (fun _ => rfl) hE ?_
  repeat walk_at "t3q"
  refine w_lst ?_
  repeat walk_at "t3q"
  intro p hp
  exact stat_init (b := false) hp am qe q
theorem ok_Form_leave (T : Tx P K mg A0) : FnOk P w K mg base (L2.CX P w) 7 A0.f_Form_leave A0.d_Form_leave ["number"] (lift3 (S_stat A0 true)) := by
  refine T.F_Form_leave.okX sc_Form_leave (lift3_len fun ds M Q E ⟨a, h, _⟩ => by rw [h]; rfl) (fun cdv A outer s H vs Q E hr h => ?_)
  have hu := hr.units
  have hu5 := units65 hr
  refine ⟨_, (pss_one (ps_ret (pe_make T.mk_Form (ok_Form___init__ T) (hr.mono (by decide)) (by rfl) T.g_Form T.b_Form___init__ .nil (passes_call (takes_of rfl rfl rfl rfl) (fun _ _ _ _ h => h)) (pa_cons (pe_lst (pa_cons (pe_tup (pa_cons (pe_tup (pa_cons pe_str (pa_cons (pv 0) pa_nil))) (pa_cons pe_int pa_nil))) pa_nil)) pa_nil)))), run3 h fun B ds M Q3 E3 hs hE => ?_⟩
  obtain ⟨y, rfl, am, qe, q⟩ := hs
  change W3s B _ _ [some y] _
  try dsimp only [cxOf, Cx.nox, Cx.wish]
  repeat walk_at "t3q"
  refine w_make (dds := []) (E3 := E3) (fun _ => rfl) hE ?_
  repeat walk_at "t3q"
  refine w_lst ?_
  repeat walk_at "t3q"
  intro p hp
  exact stat_init (b := true) hp am qe q
/-! ### a form's value -/
def S_call (A0 : Adr) (w : World) : Sp3 := fun ds M Q _ => ∃ (x : D) (a : Addr) (L : List Tm) (g : Am → Int), ds = [x, .ref a] ∧ FAt A0.f_Form M x L ∧ Fw L ∧ (∀ t ∈ L, (g t.1).natAbs < 2 ^ 300) ∧
  ((∃ tb, M a = some (.dT (kI (tK tb))) ∧ ∀ t ∈ L, g t.1 = gA tb t.1) ∨ ∃ xs, M a = some (mxD w a xs) ∧ ∀ t ∈ L, (valD xs (nkA t.1)).getD (.int 0) = .int (g t.1)) ∧ Q (.int (valS L g)) M
theorem sum_val (L : List Tm) (g : Am → Int) : (L.map fun t => t.2 * g t.1).sum = valS L g := by
  induction L with
  | nil => rfl
  | cons t L ih => rw [List.map_cons, List.sum_cons, ih]; rfl
theorem ok_Form___call__ (T : Tx P K mg A0) : FnOk P w K mg base CX0 3 A0.f_Form___call__ A0.d_Form___call__ ["self", "amounts"] (lift3 (S_call A0 w)) := by
  refine T.F_Form___call__.ok sc_Form___call__ (lift3_len fun ds M Q E ⟨a, b, c, d, h, _⟩ => by rw [h]; rfl) (fun cdv A outer s H vs Q E hr h => ?_)
  have hu := hr.units
  have hu5 := units65 hr
  have hu1 := units1 hr
  have hu9 := units9 hr
  refine ⟨_, (pss_one (ps_ret (pe_callB (cr_sum (by rfl)) (by rfl) T.n_sum (by decide +kernel) (pa_cons (pe_lc (own := [("amount", 2), ("number", 3)]) (g := (gTup K 2 (gCons (gName 2) (gCons (gName 3) gNil)))) (by rfl) sc_Form___call__.nd (pi_list (pe_fldK K rfl (pv 0))) (blkOk_by (N := ["self", "amounts", "amount", "number"]) (sc := defScope s_Form___call__) (own := [("amount", 2), ("number", 3)]) (by decide +kernel)) (fun _ _ _ _ _ => (pg_tup (by rfl) (pgs_cons (pg_name (i := 2) sc_Form___call__.nd (by rfl) (Or.inl (by rfl))) (pgs_cons (pg_name (i := 3) sc_Form___call__.nd (by rfl) (Or.inl (by rfl))) pgs_nil)))) (fun _ _ _ _ _ => pts_nil) (fun _ _ _ _ _ => (pe_op op_mulW (pv 3) (pe_dgetX (w := w) rfl hu9 (pv 1) (pv 2) pe_int ⟨by rfl, by rfl, by rfl, by rfl⟩)))) pa_nil)))), run3 h fun B ds M Q3 E3 hs hE => ?_⟩
  obtain ⟨x, a, L, g, rfl, fa, fw, hg, hd, q⟩ := hs
  change W3s B _ _ [some x, some (.ref a), none, none] _
  try dsimp only [cxOf, Cx.nox, Cx.wish]
  repeat walk_at "t3q"
  refine w_lcP (fun _ => true) (fun d => .int ((unT d).2 * g (unT d).1)) (own_tup (own_cons own_name (own_cons own_name own_nil))) (i_list ?_)
  repeat walk_at "t3q"
  refine ⟨_, _, .lst (L.map tD), fa, T.cl_Form, T.na_terms, rfl, _, rfl, by rw [List.length_map]; have := fw.few; omega, trivial, ?_, ?_⟩
  · intro i d' M' hi hM'
    obtain ⟨t, ht, rfl⟩ := map_at hi
    have htm := List.mem_of_getElem? ht
    have hbt := fw.b t htm
    have hgt := hg t htm
    rw [unT_tD]
    repeat walk_at "t3q"
    refine ⟨rfl, ?_⟩
    repeat walk_at "t3q"
    refine ⟨rfl, rfl, fun _ => ?_⟩
    repeat walk_at "t3q"
    rcases hd with ⟨tb, hm, he⟩ | ⟨xs, hm, he⟩
    · refine w_getX1 (w_dget2 ?_)
      repeat walk_at "t3q"
      refine ⟨⟨a, rfl, .inr ⟨_, hM' _ _ hm⟩⟩, ?_⟩
      repeat walk_at "t3q"
      refine ⟨_, ⟨a, rfl, .inr ⟨_, aK t.1, hM' _ _ hm, rfl, rfl⟩⟩, ?_⟩
      rw [valD_tK, getD_int]
      have e : (getA tb t.1).getD 0 = g t.1 := (he t htm).symm
      rw [e]
      refine r3_mul (mulW (by omega) (by omega)) ?_
      exact ⟨rfl, rfl⟩
    · refine w_getX2 ?_
      repeat walk_at "t3q"
      refine ⟨a, xs, rfl, hM' _ _ hm, ?_⟩
      repeat walk_at "t3q"
      refine ⟨xs, nkA t.1, _, hM' _ _ hm, rfl, keyD_aD t.1, ?_⟩
      rw [he t htm]
      refine r3_mul (mulW (by omega) (by omega)) ?_
      exact ⟨rfl, rfl⟩
  have em : (((L.map tD).filter fun _ => true).map fun d => D.int ((unT d).2 * g (unT d).1)) = (L.map fun t => t.2 * g t.1).map D.int := by
    rw [List.filter_eq_self.mpr fun _ _ => rfl, List.map_map, List.map_map]
    exact List.map_congr_left fun t _ => by show D.int _ = D.int _; rw [unT_tD]
  rw [em]
  repeat walk_at "t3q"
  refine c3_sum .fz ?_
  rw [sum_val]
  exact q
end
end LW
set_option pp.maxSteps 1500
set_option Elab.async false
set_option linter.all false
set_option maxRecDepth 100000
set_option maxHeartbeats 4000000
namespace LW
open PySem L2 T3
open Evl (Ex)
local macro_rules | `(tactic| walk_at "t3") => `(tactic| first
  | (with_reducible refine s_seq ?_) | (with_reducible refine s_asg ?_) | (with_reducible refine s_if ?_) | (with_reducible refine s_ret ?_) | (with_reducible refine s_drop ?_) | (with_reducible refine s_asgG ?_) | (with_reducible refine s_retN ?_)
  | (with_reducible refine s_next ?_) | (with_reducible refine s_brk ?_) | (with_reducible refine s_cont ?_) | (with_reducible refine s_par ?_) | (with_reducible refine s_fld ?_)
  | ((with_reducible refine' w_var ?hx ?_); (case hx => exact rfl)) | (with_reducible refine w_cI ?_) | (with_reducible refine w_cB ?_) | (with_reducible refine w_cS ?_) | (with_reducible refine w_cN ?_) | (with_reducible refine w_cT ?_) | (with_reducible refine w_cR ?_)
  | (with_reducible refine w_op ?_) | (with_reducible refine w_un ?_) | (with_reducible refine w_nil ?_) | (with_reducible refine w_tup ?_) | (with_reducible refine w_cons ?_) | (with_reducible refine w_cb ?_) | (with_reducible refine w_bm0 ?_) | (with_reducible refine w_bm ?_)
  | (with_reducible refine w_test ?_) | (with_reducible refine w_B ?_) | (with_reducible refine w_notT ?_) | (with_reducible refine w_yes ?_) | (with_reducible refine w_notV ?_)
  | (with_reducible refine w_ifE ?_) | (with_reducible refine w_isN ?_) | (with_reducible refine w_notN ?_) | (with_reducible refine w_tr ?_) | (with_reducible refine w_chain ?_) | (with_reducible refine w_fld ?_) | (with_reducible refine w_sl ?_) | (with_reducible refine o_no ?_) | (with_reducible refine o_some ?_)
  | (with_reducible refine w_call0 ?_) | (with_reducible refine g_name ?_) | ((with_reducible refine' g_tup ?hx ?hy ?_); (case hx => exact rfl); (case hy => exact rfl)) | (with_reducible refine g_cons ?_) | (with_reducible refine g_nil ?_) | (with_reducible refine g_set ?_)
  | (with_reducible refine r3_add_ii ?_) | (with_reducible refine r3_sub ?_) | (with_reducible refine r3_lt ?_) | (with_reducible refine r3_le ?_) | (with_reducible refine r3_gt ?_) | (with_reducible refine r3_ge ?_) | (with_reducible refine u3_neg ?_)
  | (with_reducible refine c3_int_i ?_) | (with_reducible refine c3_int_b ?_) | (with_reducible refine c3_abs ?_) | (with_reducible refine c3_len_t ?_) | (with_reducible refine c3_len .fz ?_) | (with_reducible refine c3_max2 ?_) | (with_reducible refine c3_min2 ?_)
  | (with_reducible refine r3_eq (n := 9) (m := 9) okD_int okD_int ?_) | (with_reducible refine r3_ne (n := 9) (m := 9) okD_int okD_int ?_)
  | ((with_reducible refine' Exists.intro _ (And.intro ?hx ?_)); (case hx => exact rfl))
  | ((with_reducible refine' And.intro ?hx ?_); (case hx => (show List.length _ ≤ 100000); exact Nat.le_of_ble_eq_true rfl))
  | (with_reducible refine c3_lenL (c3_len_t ?_)) | (with_reducible refine c3_lenL (c3_len .fz ?_)))

section
variable {P : Program} {w : World} {K : PySem.W.Frag} {mg : Str → Option Value} {base : Heap} {A0 : Adr}

local macro_rules | `(tactic| walk_at "t3q") => `(tactic| first
  | (with_reducible refine s_seq ?_) | (with_reducible refine s_asg ?_) | (with_reducible refine s_if ?_) | (with_reducible refine s_ret ?_) | (with_reducible refine s_drop ?_) | (with_reducible refine s_asgG ?_) | (with_reducible refine s_retN ?_)
  | (with_reducible refine s_next ?_) | (with_reducible refine s_brk ?_) | (with_reducible refine s_cont ?_) | (with_reducible refine s_par ?_) | (with_reducible refine s_fld ?_)
  | ((with_reducible refine' w_var ?hx ?_); (case hx => exact rfl)) | (with_reducible refine w_cI ?_) | (with_reducible refine w_cB ?_) | (with_reducible refine w_cS ?_) | (with_reducible refine w_cN ?_) | (with_reducible refine w_cT ?_) | (with_reducible refine w_cR ?_)
  | (with_reducible refine w_op ?_) | (with_reducible refine w_un ?_) | (with_reducible refine w_nil ?_) | (with_reducible refine w_tup ?_) | (with_reducible refine w_cons ?_) | (with_reducible refine w_cb ?_) | (with_reducible refine w_bm0 ?_) | (with_reducible refine w_bm ?_)
  | (with_reducible refine w_test ?_) | (with_reducible refine w_B ?_) | (with_reducible refine w_notT ?_) | (with_reducible refine w_yes ?_) | (with_reducible refine w_notV ?_)
  | (with_reducible refine w_ifE ?_) | (with_reducible refine w_isN ?_) | (with_reducible refine w_notN ?_) | (with_reducible refine w_tr ?_) | (with_reducible refine w_chain ?_) | (with_reducible refine w_fld ?_) | (with_reducible refine w_sl ?_) | (with_reducible refine o_no ?_) | (with_reducible refine o_some ?_)
  | (with_reducible refine g_name ?_) | ((with_reducible refine' g_tup ?hx ?hy ?_); (case hx => exact rfl); (case hy => exact rfl)) | (with_reducible refine g_cons ?_) | (with_reducible refine g_nil ?_) | (with_reducible refine g_set ?_)
  | (with_reducible refine r3_add_ii ?_) | (with_reducible refine r3_sub ?_) | (with_reducible refine r3_lt ?_) | (with_reducible refine r3_le ?_) | (with_reducible refine r3_gt ?_) | (with_reducible refine r3_ge ?_) | (with_reducible refine u3_neg ?_)
  | (with_reducible refine c3_int_i ?_) | (with_reducible refine c3_int_b ?_) | (with_reducible refine c3_abs ?_) | (with_reducible refine c3_len_t ?_) | (with_reducible refine c3_len .fz ?_) | (with_reducible refine c3_max2 ?_) | (with_reducible refine c3_min2 ?_)
  | (with_reducible refine r3_eq (n := 9) (m := 9) okD_int okD_int ?_) | (with_reducible refine r3_ne (n := 9) (m := 9) okD_int okD_int ?_)
  | ((with_reducible refine' Exists.intro _ (And.intro ?hx ?_)); (case hx => exact rfl))
  | ((with_reducible refine' And.intro ?hx ?_); (case hx => (show List.length _ ≤ 100000); exact Nat.le_of_ble_eq_true rfl))
  | (with_reducible refine c3_lenL (c3_len_t ?_)) | (with_reducible refine c3_lenL (c3_len .fz ?_)))

def S_value : Sp3 := fun ds M Q _ => ∃ (ts : List Tm) (a : Addr) (tb : List Tm), ds = [.lst (ts.map tD), .ref a] ∧ M a = some (.dT (kI (tK tb))) ∧ Fw ts ∧ (∀ x, (gA tb x).natAbs < 2 ^ 300) ∧ Q (.int (valS ts (gA tb))) M
theorem ok_value (T : Tx P K mg A0) : FnOk P w K mg base CX0 1 A0.f_value A0.d_value ["_law_terms_here", "_law_amounts"] (lift3 S_value) := by
  refine T.F_value.ok sc_value (lift3_len fun ds M Q E ⟨a, b, c, h, _⟩ => by rw [h]; rfl) (fun cdv A outer s H vs Q E hr h => ?_)
  have hu := hr.units
  have hu5 := units65 hr
  have hu1 := units1 hr
  refine ⟨_, (pss_cons (ps_set (i := 2) sc_value.nd (by rfl) (Or.inl (by rfl)) pe_int)
  (pss_cons (ps_for PassesOwn.never (by rfl) (pi_list (pv 0)) (pg_tup (by rfl) (pgs_cons (pg_name (i := 3) sc_value.nd (by rfl) (Or.inl (by rfl))) (pgs_cons (pg_name (i := 4) sc_value.nd (by rfl) (Or.inl (by rfl))) pgs_nil))) (pss_one (ps_set (i := 2) sc_value.nd (by rfl) (Or.inl (by rfl)) (pe_op op_ADD (pv 2) (pe_op op_mulW (pv 4) (pe_dget2 hu1 (pv 1) (pv 3) pe_int ⟨by rfl, by rfl, by rfl, by rfl⟩))))))
  (pss_one (ps_ret (pv 2))))), run3 h fun B ds M Q3 E3 hs hE => ?_⟩
  obtain ⟨ts, a, tb, rfl, hm, fw, hg, q⟩ := hs
  change W3s B _ _ [some (.lst (ts.map tD)), some (.ref a), none, none, none] M
  try dsimp only [cxOf, Cx.nox, Cx.wish]
  repeat walk_at "t3q"
  refine s_for (i_list ?_)
  repeat walk_at "t3q"
  refine ⟨fun i σ' M' => ∃ b3 b4 : Option D, σ' = [some (.lst (ts.map tD)), some (.ref a), some (.int (valS (ts.take i) (gA tb))), b3, b4] ∧ M' = M, fun _ _ _ _ => trivial, ⟨none, none, rfl, rfl⟩, ?_, ?_⟩
  · rintro i d σ' M' hi ⟨b3, b4, rfl, rfl⟩
    obtain ⟨t, ht, rfl⟩ := map_at hi
    have h1 := fw.b t (List.mem_of_getElem? ht)
    obtain ⟨x, n⟩ := t
    have h2 := hg x
    have h1 : n.natAbs < 2 ^ 300 := h1
    repeat walk_at "t3q"
    refine w_dget2 ?_
    repeat walk_at "t3q"
    refine ⟨⟨a, rfl, .inr ⟨_, hm⟩⟩, ?_⟩
    repeat walk_at "t3q"
    refine ⟨_, ⟨a, rfl, .inr ⟨_, aK x, hm, rfl, rfl⟩⟩, ?_⟩
    rw [valD_tK, getD_int]
    have e : (getA tb x).getD 0 = gA tb x := rfl
    rw [e]
    refine r3_mul (mulW (by omega) (by omega)) ?_
    repeat walk_at "t3q"
    refine ⟨some (aD x), some (.int n), ?_, rfl⟩
    rw [List.take_add_one, ht, valS_app]
    show _ = [some (D.lst (ts.map tD)), some (.ref a), some (.int (valS (ts.take i) (gA tb) + (n * gA tb x + 0))), some (aD x), some (.int n)]
    rw [Int.add_zero]
    rfl
  · rintro σ' M' ⟨b3, b4, rfl, rfl⟩
    rw [List.length_map, List.take_length]
    repeat walk_at "t3q"
    exact q
def S_refused (A0 : Adr) : Sp3 := fun ds M Q _ => ∃ (b : Bool) (y : D), ds = [.str (wordB b), y] ∧ AmV (.tup [.str (wordB b), y]) ∧ isAm (.tup [.str (wordB b), y]) = false ∧ ∀ M', Gro M M' → Q (.bl true) M'
theorem ok_refused (T : Tx P K mg A0) : FnOk P w K mg base CX0 9 A0.f_refused A0.d_refused ["_law_word", "_law_number"] (lift3 (S_refused A0)) := by
  refine T.F_refused.ok sc_refused (lift3_len fun ds M Q E ⟨a, b, h, _⟩ => by rw [h]; rfl) (fun cdv A outer s H vs Q E hr h => ?_)
  have hu := hr.units
  have hu5 := units65 hr
  refine ⟨_, (pss_cons (ps_tryM rfl rfl sc_refused.nd rfl takes_none5 (fun W pn xe tk po => (pss_one (ps_if (pt_cmpR (op_eqDK K rfl hu) (pv 0) pe_str (nomark _)) (pss_one (ps_expr (pe_smeth (pe_glob (v := .ref A0.f_Form) (by rfl) T.g_Form rfl) T.cr_Form T.sm_take (ok_Form_take T) (hr.mono (by decide)) T.b_Form_take .nil (fun σ => passAt tk σ) (pa_cons (pv 1) pa_nil)))) (pss_one (ps_expr (pe_smeth (pe_glob (v := .ref A0.f_Form) (by rfl) T.g_Form rfl) T.cr_Form T.sm_leave (ok_Form_leave T) (hr.mono (by decide)) T.b_Form_leave .nil (fun σ => passAt tk σ) (pa_cons (pv 1) pa_nil)))))))
  (.as_ (i := 2) ⟨by rfl, by decide, .inl T.g_BadAmount⟩ (by rfl) (by rfl) (fun _ _ => (pss_one (ps_ret (pe_and (pe_cmpR (op_eqDK K rfl hu) (pe_thingK K rfl (pv 2)) (pe_tup (pa_cons (pv 0) (pa_cons (pv 1) pa_nil))) (nomark _)) (pe_one (pe_not (pe_callB (call_ISIK K rfl) (by rfl) T.n_isinstance (by decide +kernel) (pa_cons (pv 2) (pa_cons (pe_glob (v := .ref A0.f_BadNumber) (by rfl) T.g_BadNumber rfl) pa_nil))))))))) (.bare ⟨by rfl, by decide, .inl T.g_DyeError⟩ (fun _ _ => (pss_one (ps_ret pe_bl))) .nil)))
  (pss_one (ps_ret pe_bl))), run3 h fun B ds M Q3 E3 hs hE => ?_⟩
  obtain ⟨b, y, rfl, am, na, q⟩ := hs
  change W3s B _ _ [some (.str (wordB b)), some y, none] M
  try dsimp only [cxOf, Cx.nox, Cx.wish]
  have oky := am.ok
  refine s_seq ?_
  refine s_tryM impW0 (fun B' W EW bb hEW hW => ?_)
  have hE1 : ∀ M', Gro M M' → EW A0.f_BadAmount (.tup [.str (wordB b), y]) [some (.str (wordB b)), some y, none] M' := fun M' g => by
    subst hEW
    refine ⟨true, T.em_BadAmount_BadAmount, fun _ a ha => ?_, fun h => by cases h⟩
    have hm : mput M' a (.exc a A0.f_BadAmount (.tup [.str (wordB b), y])) a = some (.exc a A0.f_BadAmount (.tup [.str (wordB b), y])) := mput_same
    refine s_ret (w_vs ?_)
    refine w_andV ?_
    repeat walk_at "t3"
    refine w_thing ?_
    repeat walk_at "t3"
    refine ⟨_, _, _, rfl, hm, T.x_BadAmount, ?_⟩
    repeat walk_at "t3"
    refine r3_eq (n := 9) (m := 9) oky oky ?_
    rw [show peq (.tup [.str (wordB b), y]) (.tup [.str (wordB b), y]) = true from PySem.SeqAt.eqv_refl (py _) (okD_lay oky)]
    refine ⟨true, rfl, ?_⟩
    rw [if_pos rfl]
    repeat walk_at "t3"
    refine c3_isX hm T.x_BadAmount T.ik_BadAmount_BadNumber ?_
    refine ⟨false, rfl, ?_⟩
    exact ⟨_, _, vs_drop a, by rw [mdel_mput ha]; exact q M' g⟩
  clear hEW
  have hno : ∀ n : Nat, y = .int n → False := fun n e => by
    subst e
    have : isAm (.tup [.str (wordB b), .int (n : Int)]) = true := isAm_aD (b, n)
    rw [na] at this; cases this
  cases b with
  | false =>
    repeat walk_at "t3"
    refine r3_eq (n := 0) (m := 0) (okD_S (wordS_ok false).1) (okD_S (wordS_ok false).1) ?_
    repeat walk_at "t3"
    refine iteB (fun _ => ?_) (fun h => absurd h (by rw [pq_str]; decide +kernel))
    repeat walk_at "t3"
    refine w_smeth hW ?_
    repeat walk_at "t3"
    refine ⟨rfl, ?_⟩
    repeat walk_at "t3"
    exact ⟨y, rfl, am, fun _ M' g => hE1 M' g, fun n e => (hno n e).elim⟩
  | true =>
    repeat walk_at "t3"
    refine r3_eq (n := 0) (m := 0) (okD_S (wordS_ok true).1) (okD_S (wordS_ok false).1) ?_
    repeat walk_at "t3"
    refine iteB (fun h => absurd h (by rw [pq_str]; decide +kernel)) (fun _ => ?_)
    repeat walk_at "t3"
    refine w_smeth hW ?_
    repeat walk_at "t3"
    refine ⟨rfl, ?_⟩
    repeat walk_at "t3"
    exact ⟨y, rfl, am, fun _ M' g => hE1 M' g, fun n e => (hno n e).elim⟩
def S_shows (A0 : Adr) : Sp3 := fun ds M Q _ => ∃ (x : D) (L R : List Tm), ds = [x, .lst (R.map tD)] ∧ FAt A0.f_Form M x L ∧ L.length ≤ 1000 ∧ R.length ≤ 1000 ∧ Q (.bl (decide (L = R))) M
theorem ok_shows (T : Tx P K mg A0) : FnOk P w K mg base CX0 3 A0.f_shows A0.d_shows ["_law_form", "_law_due"] (lift3 (S_shows A0)) := by
  refine T.F_shows.ok sc_shows (lift3_len fun ds M Q E ⟨a, b, c, h, _⟩ => by rw [h]; rfl) (fun cdv A outer s H vs Q E hr h => ?_)
  have hu := hr.units
  have hu5 := units65 hr
  refine ⟨_, (pss_cons (ps_if (PW.pt (pw_or (pt_not (pt_truthK K rfl (pe_callB (call_ISIK K rfl) (by rfl) T.n_isinstance (by decide +kernel) (pa_cons (pv 0) (pa_cons (pe_glob (v := .ref A0.f_Form) (by rfl) T.g_Form rfl) pa_nil))) (by intro _; rfl))) (pw_or1 (pt_cmpR (op_neDK K rfl hu) (pe_callB (call_lenOwn T.le_Form T.fn_le (ok_Form___len__ T) T.b_Form___len__ (hr.mono (by decide))) (by rfl) T.n_len PySem.boot_len (pa_cons (pv 0) pa_nil)) (pe_callB (call_lenDK K rfl) (by rfl) T.n_len PySem.boot_len (pa_cons (pv 1) pa_nil)) (nomark _))))) (pss_one (ps_ret pe_bl)) pss_nil)
  (pss_cons (ps_set (i := 2) sc_shows.nd (by rfl) (Or.inl (by rfl)) pe_int)
  (pss_cons (ps_for PassesOwn.never (by rfl) (pi_own (E := fun _ _ _ => False) (pv 0) T.it_Form T.fn_it (ok_Form___iter__ T) (hr.mono (by decide)) T.b_Form___iter__ pass0) (pg_name (i := 3) sc_shows.nd (by rfl) (Or.inl (by rfl))) (pss_cons (ps_if (PW.pt (pw_or (pt_cmpR op_ge (pv 2) (pe_callB (call_lenDK K rfl) (by rfl) T.n_len PySem.boot_len (pa_cons (pv 1) pa_nil)) (nomark _)) (pw_or (pt_not (pt_truthK K rfl (pe_callB (call_ISIK K rfl) (by rfl) T.n_isinstance (by decide +kernel) (pa_cons (pv 3) (pa_cons (pe_bltn (v := .ty "tuple") (by rfl) T.n_tuple (by decide +kernel) rfl) pa_nil))) (by intro _; rfl))) (pw_or1 (pt_cmpR (op_neDK K rfl hu) (pv 3) (pe_ix (ix_seqK K rfl) (pv 1) (pv 2) (fun _ _ => by rfl)) (nomark _)))))) (pss_one (ps_ret pe_bl)) pss_nil)
  (pss_cons (ps_if (PW.pt (pw_or (pt_not (pt_truthK K rfl (pe_callB (call_ISIK K rfl) (by rfl) T.n_isinstance (by decide +kernel) (pa_cons (pe_ix (ix_seqK K rfl) (pe_ix (ix_seqK K rfl) (pv 3) pe_int (fun _ _ => by rfl)) pe_int (fun _ _ => by rfl)) (pa_cons (pe_bltn (v := .ty "str") (by rfl) T.n_str (by decide +kernel) rfl) pa_nil))) (by intro _; rfl))) (pw_or (pt_not (pt_truthK K rfl (pe_call (ok_lw_is_whole T) (hr.mono (by decide)) (by rfl) T.g_lw_is_whole T.k_lw_is_whole T.b_lw_is_whole .nil pass0 (pa_cons (pe_ix (ix_seqK K rfl) (pe_ix (ix_seqK K rfl) (pv 3) pe_int (fun _ _ => by rfl)) pe_int (fun _ _ => by rfl)) pa_nil)) (by intro _; rfl))) (pw_or1 (pt_not (pt_truthK K rfl (pe_call (ok_lw_is_whole T) (hr.mono (by decide)) (by rfl) T.g_lw_is_whole T.k_lw_is_whole T.b_lw_is_whole .nil pass0 (pa_cons (pe_ix (ix_seqK K rfl) (pv 3) pe_int (fun _ _ => by rfl)) pa_nil)) (by intro _; rfl))))))) (pss_one (ps_ret pe_bl)) pss_nil)
  (pss_one (ps_set (i := 2) sc_shows.nd (by rfl) (Or.inl (by rfl)) (pe_op op_ADD (pv 2) pe_int))))))
  (pss_one (ps_ret (pe_cmpR (op_eqDK K rfl hu) (pv 2) (pe_callB (call_lenDK K rfl) (by rfl) T.n_len PySem.boot_len (pa_cons (pv 1) pa_nil)) (nomark _))))))), run3 h fun B ds M Q3 E3 hs hE => ?_⟩
  obtain ⟨x, L, R, rfl, fa, hL, hR, q⟩ := hs
  change W3s B _ _ [some x, some (.lst (R.map tD)), none, none] M
  try dsimp only [cxOf, Cx.nox, Cx.wish]
  refine s_seq (s_if (w_orTP (a := false) (b := decide (L.length ≠ R.length)) ?_ (fun _ => ?_) ?_))
  · repeat walk_at "t3"
    refine c3_isO fa T.is_Form T.kf_Form ?_
    exact ⟨_, rfl, rfl, rfl⟩
  · repeat walk_at "t3"
    refine c3_lenOwnF fa rfl ?_
    repeat walk_at "t3"
    refine ⟨?_, rfl⟩
    rw [List.length_map, List.length_map, peq_int]
    congr 1
    by_cases h : L.length = R.length <;> simp [h]
    omega
  rw [Bool.false_or]
  refine iteB (fun h => ?_) (fun h => ?_)
  · have h := of_decide_eq_true h
    repeat walk_at "t3"
    rw [decide_eq_false fun e => h (by rw [e])] at q
    exact q
  have hlen : L.length = R.length := by simpa using of_decide_eq_false h
  repeat walk_at "t3"
  refine s_for (i_ownF ?_)
  repeat walk_at "t3"
  refine ⟨[("terms", .lst (L.map tD))], L.map tD, fa, rfl, ?_⟩
  refine ⟨fun i σ' M' => ∃ b3 : Option D, L.take i = R.take i ∧ σ' = [some x, some (.lst (R.map tD)), some (.int i), b3] ∧ M' = M, fun _ _ _ _ => trivial, ⟨none, rfl, rfl, rfl⟩, ?_, ?_⟩
  · rintro i d σ' M' hi ⟨b3, htk, rfl, rfl⟩
    obtain ⟨t, ht, rfl⟩ := map_at hi
    have hiL := (List.getElem?_eq_some_iff.mp ht).1
    obtain ⟨r, hr'⟩ : ∃ r, R[i]? = some r := ⟨R[i], List.getElem?_eq_getElem (by omega)⟩
    have hrm : (R.map tD)[i]? = some (tD r) := by rw [List.getElem?_map, hr']; rfl
    refine g_name ?_
    refine s_seq (s_if (w_orTP (a := false) (b := !decide (t = r)) ?_ (fun _ => w_orTP (a := false) (b := !decide (t = r)) ?_ (fun _ => ?_) ⟨?_, rfl⟩) ?_))
    · repeat walk_at "t3"
      rw [List.length_map]
      refine ⟨?_, rfl⟩
      exact decide_eq_false (by omega)
    · repeat walk_at "t3"
      refine c3_ISI rfl T.kit_tt ?_
      exact ⟨_, rfl, rfl, rfl⟩
    · repeat walk_at "t3"
      refine r3_ix_l .fz (at3 (j := i) rfl hrm) ?_
      repeat walk_at "t3"
      refine r3_ne (n := 3) (m := 3) (okD_t t) (okD_t r) ?_
      rw [pq_tD]
      exact ⟨_, rfl, rfl, rfl⟩
    · rfl
    · rw [Bool.false_or]
      refine iteB (fun h => ?_) (fun h => ?_)
      · have hne : t ≠ r := by simpa using h
        repeat walk_at "t3"
        rw [decide_eq_false fun e => hne (by subst e; rw [ht] at hr'; cases hr'; rfl)] at q
        exact q
      · have e : t = r := by simpa using h
        subst e
        refine s_next ?_
        show W3s B _ _ [some x, some (.lst (R.map tD)), some (.int i), some (tD t)] _
        refine s_seq (s_if (w_orTP (a := false) (b := false) ?_ (fun _ => w_orTP (a := false) (b := false) ?_ (fun _ => ?_) ⟨rfl, rfl⟩) ?_))
        · repeat walk_at "t3"
          refine r3_ix_t (at3 (j := 0) (by omega) (v := aD t.1) rfl) ?_
          repeat walk_at "t3"
          refine r3_ix_t (at3 (j := 0) (by omega) (v := .str (if t.1.1 then "leave" else "take")) rfl) ?_
          repeat walk_at "t3"
          refine c3_ISI rfl T.kit_ss ?_
          exact ⟨_, rfl, rfl, rfl⟩
        · repeat walk_at "t3"
          refine r3_ix_t (at3 (j := 0) (by omega) (v := aD t.1) rfl) ?_
          repeat walk_at "t3"
          refine r3_ix_t (at3 (j := 1) (by omega) (v := .int t.1.2) rfl) ?_
          repeat walk_at "t3"
          exact ⟨_, rfl, .inl ⟨_, rfl⟩, _, rfl, rfl, rfl⟩
        · repeat walk_at "t3"
          refine r3_ix_t (at3 (j := 1) (by omega) (v := .int t.2) rfl) ?_
          repeat walk_at "t3"
          exact ⟨_, rfl, .inl ⟨_, rfl⟩, _, rfl, rfl, rfl⟩
        · refine iteB (fun h => by cases h) (fun _ => ?_)
          repeat walk_at "t3"
          refine ⟨_, ?_, rfl, rfl⟩
          rw [List.take_add_one, List.take_add_one, ht, hr', htk]
  · rintro σ' M' ⟨b3, htk, rfl, rfl⟩
    rw [List.length_map, List.take_length] at htk
    have e : L = R := by rw [htk, hlen, List.take_length]
    repeat walk_at "t3"
    rw [List.length_map, List.length_map, peq_int]
    rw [decide_eq_true e] at q
    have : (((L.length : Nat) : Int) == (R.length : Nat)) = true := by rw [hlen]; simp
    rw [this]
    exact q
end
end LW
set_option pp.maxSteps 1500
set_option Elab.async false
set_option linter.all false
set_option maxRecDepth 100000
set_option maxHeartbeats 4000000
namespace LW
open PySem L2 T3
open Evl (Ex)
local macro_rules | `(tactic| walk_at "t3") => `(tactic| first
  | (with_reducible refine s_seq ?_) | (with_reducible refine s_asg ?_) | (with_reducible refine s_if ?_) | (with_reducible refine s_ret ?_) | (with_reducible refine s_drop ?_) | (with_reducible refine s_asgG ?_) | (with_reducible refine s_retN ?_)
  | (with_reducible refine s_next ?_) | (with_reducible refine s_brk ?_) | (with_reducible refine s_cont ?_) | (with_reducible refine s_par ?_) | (with_reducible refine s_fld ?_)
  | ((with_reducible refine' w_var ?hx ?_); (case hx => exact rfl)) | (with_reducible refine w_cI ?_) | (with_reducible refine w_cB ?_) | (with_reducible refine w_cS ?_) | (with_reducible refine w_cN ?_) | (with_reducible refine w_cT ?_) | (with_reducible refine w_cR ?_)
  | (with_reducible refine w_op ?_) | (with_reducible refine w_un ?_) | (with_reducible refine w_nil ?_) | (with_reducible refine w_tup ?_) | (with_reducible refine w_cons ?_) | (with_reducible refine w_cb ?_) | (with_reducible refine w_bm0 ?_) | (with_reducible refine w_bm ?_)
  | (with_reducible refine w_test ?_) | (with_reducible refine w_B ?_) | (with_reducible refine w_notT ?_) | (with_reducible refine w_yes ?_) | (with_reducible refine w_notV ?_)
  | (with_reducible refine w_ifE ?_) | (with_reducible refine w_isN ?_) | (with_reducible refine w_notN ?_) | (with_reducible refine w_tr ?_) | (with_reducible refine w_chain ?_) | (with_reducible refine w_fld ?_) | (with_reducible refine w_sl ?_) | (with_reducible refine o_no ?_) | (with_reducible refine o_some ?_)
  | (with_reducible refine w_call0 ?_) | (with_reducible refine g_name ?_) | ((with_reducible refine' g_tup ?hx ?hy ?_); (case hx => exact rfl); (case hy => exact rfl)) | (with_reducible refine g_cons ?_) | (with_reducible refine g_nil ?_) | (with_reducible refine g_set ?_)
  | (with_reducible refine r3_add_ii ?_) | (with_reducible refine r3_sub ?_) | (with_reducible refine r3_lt ?_) | (with_reducible refine r3_le ?_) | (with_reducible refine r3_gt ?_) | (with_reducible refine r3_ge ?_) | (with_reducible refine u3_neg ?_)
  | (with_reducible refine c3_int_i ?_) | (with_reducible refine c3_int_b ?_) | (with_reducible refine c3_abs ?_) | (with_reducible refine c3_len_t ?_) | (with_reducible refine c3_len .fz ?_) | (with_reducible refine c3_max2 ?_) | (with_reducible refine c3_min2 ?_)
  | (with_reducible refine r3_eq (n := 9) (m := 9) okD_int okD_int ?_) | (with_reducible refine r3_ne (n := 9) (m := 9) okD_int okD_int ?_)
  | ((with_reducible refine' Exists.intro _ (And.intro ?hx ?_)); (case hx => exact rfl))
  | ((with_reducible refine' And.intro ?hx ?_); (case hx => (show List.length _ ≤ 100000); exact Nat.le_of_ble_eq_true rfl))
  | (with_reducible refine c3_lenL (c3_len_t ?_)) | (with_reducible refine c3_lenL (c3_len .fz ?_)))

section
variable {P : Program} {w : World} {K : PySem.W.Frag} {mg : Str → Option Value} {base : Heap} {A0 : Adr}

local macro_rules | `(tactic| walk_at "t3q") => `(tactic| first
  | (with_reducible refine s_seq ?_) | (with_reducible refine s_asg ?_) | (with_reducible refine s_if ?_) | (with_reducible refine s_ret ?_) | (with_reducible refine s_drop ?_) | (with_reducible refine s_asgG ?_) | (with_reducible refine s_retN ?_)
  | (with_reducible refine s_next ?_) | (with_reducible refine s_brk ?_) | (with_reducible refine s_cont ?_) | (with_reducible refine s_par ?_) | (with_reducible refine s_fld ?_)
  | ((with_reducible refine' w_var ?hx ?_); (case hx => exact rfl)) | (with_reducible refine w_cI ?_) | (with_reducible refine w_cB ?_) | (with_reducible refine w_cS ?_) | (with_reducible refine w_cN ?_) | (with_reducible refine w_cT ?_) | (with_reducible refine w_cR ?_)
  | (with_reducible refine w_op ?_) | (with_reducible refine w_un ?_) | (with_reducible refine w_nil ?_) | (with_reducible refine w_tup ?_) | (with_reducible refine w_cons ?_) | (with_reducible refine w_cb ?_) | (with_reducible refine w_bm0 ?_) | (with_reducible refine w_bm ?_)
  | (with_reducible refine w_test ?_) | (with_reducible refine w_B ?_) | (with_reducible refine w_notT ?_) | (with_reducible refine w_yes ?_) | (with_reducible refine w_notV ?_)
  | (with_reducible refine w_ifE ?_) | (with_reducible refine w_isN ?_) | (with_reducible refine w_notN ?_) | (with_reducible refine w_tr ?_) | (with_reducible refine w_chain ?_) | (with_reducible refine w_fld ?_) | (with_reducible refine w_sl ?_) | (with_reducible refine o_no ?_) | (with_reducible refine o_some ?_)
  | (with_reducible refine g_name ?_) | ((with_reducible refine' g_tup ?hx ?hy ?_); (case hx => exact rfl); (case hy => exact rfl)) | (with_reducible refine g_cons ?_) | (with_reducible refine g_nil ?_) | (with_reducible refine g_set ?_)
  | (with_reducible refine r3_add_ii ?_) | (with_reducible refine r3_sub ?_) | (with_reducible refine r3_lt ?_) | (with_reducible refine r3_le ?_) | (with_reducible refine r3_gt ?_) | (with_reducible refine r3_ge ?_) | (with_reducible refine u3_neg ?_)
  | (with_reducible refine c3_int_i ?_) | (with_reducible refine c3_int_b ?_) | (with_reducible refine c3_abs ?_) | (with_reducible refine c3_len_t ?_) | (with_reducible refine c3_len .fz ?_) | (with_reducible refine c3_max2 ?_) | (with_reducible refine c3_min2 ?_)
  | (with_reducible refine r3_eq (n := 9) (m := 9) okD_int okD_int ?_) | (with_reducible refine r3_ne (n := 9) (m := 9) okD_int okD_int ?_)
  | ((with_reducible refine' Exists.intro _ (And.intro ?hx ?_)); (case hx => exact rfl))
  | ((with_reducible refine' And.intro ?hx ?_); (case hx => (show List.length _ ≤ 100000); exact Nat.le_of_ble_eq_true rfl))
  | (with_reducible refine c3_lenL (c3_len_t ?_)) | (with_reducible refine c3_lenL (c3_len .fz ?_)))

theorem map_tV (ts : List Tm) : (ts.map tV).map pT = ts.map tD := by rw [List.map_map]; rfl
theorem mk_formT {M : Mem} {Q : Mem → Prop} {E : EQ3} {p : Addr} {x : D} {ts : List Tm} (at_ : LstD (mput M p (.ins A0.f_Form [])) x (ts.map tD) ∨ x = .tup (ts.map tD)) (hl : ts.length ≤ 1000) (q : ∀ L, NF (cf ts) L → Q (mput M p (fmO A0.f_Form L))) : S_init K A0 [.ref p, x] (mput M p (.ins A0.f_Form [])) (fun d M2 => d = .non ∧ Q M2) E :=
  ⟨p, _, ts.map tV, rfl, mput_same, ⟨by rw [map_tV]; exact at_.imp id .inl, (tms_of (K := K) (A0 := A0) (M := M) hl).am, (tms_of (K := K) (A0 := A0) (M := M) hl).few⟩, fun C t M' h => by rw [badT_ts] at h; (cases h), fun us L hu nf => ⟨rfl, by rw [mput_mput]; obtain rfl := tV_inj hu; exact q L nf⟩⟩
theorem aD_inj {a b : Am} (h : aD a = aD b) : a = b := by
  have e := unA_aD a
  rw [h, unA_aD] at e
  exact e.symm
theorem ix_in {B : Hp} {M : Mem} {Q : DQ} {l : List D} {r : Int} (h0 : 0 ≤ r) (h1 : r < l.length) (q : ∀ x ∈ l, Q x M) : R3 B (rIx K) (.lst l) (.int r) M Q := by
  have h2 : r.toNat < l.length := by omega
  exact r3_ix_l .fz (at3 (j := r.toNat) (by omega) (List.getElem?_eq_getElem h2)) (q _ (List.getElem_mem h2))
theorem nd_take {l : List Tm} {i : Nat} {t : Tm} (nd : (l.map (·.1)).Nodup) (h : l[i]? = some t) : t.1 ∉ (l.take i).map (·.1) := by
  intro hm
  rw [← List.take_append_drop i l, List.map_append, List.nodup_append] at nd
  refine nd.2.2 t.1 hm t.1 (List.mem_map.mpr ⟨t, ?_, rfl⟩) rfl
  exact List.mem_of_getElem? (i := 0) (by rw [List.getElem?_drop]; simpa using h)
theorem valS_zero {ts : List Tm} {g : Am → Int} (h : ∀ x, g x = 0) : valS ts g = 0 := by
  induction ts with
  | nil => rfl
  | cons t ts ih => show t.2 * g t.1 + valS ts g = 0; rw [h, ih, Int.mul_zero]; rfl
theorem ne_int {i : Int} {M : Mem} : (!peq (.int i) (.int i)) = false ∧ M = M := ⟨by rw [peq_int]; simp, rfl⟩
def badsL (s : Int) : List D := [.int (0 - 1 - s), .non, .bl true, .str "0", .bl false, .tup [.int 0]]
theorem badsL_ok {s : Int} (hs : 0 ≤ s) (b : Bool) : ∀ d ∈ badsL s, AmV (.tup [.str (wordB b), d]) ∧ isAm (.tup [.str (wordB b), d]) = false := by
  have ok : ∀ d, okD 8 d = true → Scal d → AmV (.tup [.str (wordB b), d]) := fun d h1 h2 => ⟨by
      show (okD 8 (.str _) && (okD 8 d && true)) = true
      rw [okD_S (show okT (wordB b) from (wordS_ok b).1), h1]; rfl, .inr (.inr (.inr (.inr ⟨_, rfl⟩))), fun ds e x hx => by
      cases e
      rcases List.mem_cons.mp hx with rfl | hx
      · exact .inr (.inr (.inr (.inl ⟨_, rfl⟩)))
      · rw [List.mem_singleton.mp hx]; exact h2⟩
  intro d hd
  simp only [badsL, List.mem_cons, List.mem_nil_iff, or_false] at hd
  rcases hd with rfl | rfl | rfl | rfl | rfl | rfl
  · refine ⟨ok _ okD_int (.inl ⟨_, rfl⟩), ?_⟩
    show (decide _ && decide ((0 : Int) ≤ 0 - 1 - s)) = false
    rw [decide_eq_false (by omega : ¬ (0 : Int) ≤ 0 - 1 - s), Bool.and_false]
  · exact ⟨ok _ okD_non (.inr (.inr (.inl rfl))), rfl⟩
  · exact ⟨ok _ okD_bl (.inr (.inl ⟨_, rfl⟩)), rfl⟩
  · exact ⟨ok _ (okD_S (show okT "0" by unfold okT; decide +kernel)) (.inr (.inr (.inr (.inl ⟨_, rfl⟩)))), rfl⟩
  · exact ⟨ok _ okD_bl (.inr (.inl ⟨_, rfl⟩)), rfl⟩
  · exact ⟨ok _ rfl (.inr (.inr (.inr (.inr ⟨_, rfl⟩)))), rfl⟩
/-! ### the table of numbers -/
structure TBd (n B : Nat) (tb : List Tm) : Prop where
  len : tb.length ≤ n
  nd : (tb.map (·.1)).Nodup
  b : ∀ t ∈ tb, t.1.2 < 10 ^ 12 ∧ t.2.natAbs ≤ B
theorem TBd.put {n B : Nat} {tb : List Tm} (h : TBd n B tb) {x : Am} {m : Int} (hx : x.2 < 10 ^ 12) (hm : m.natAbs ≤ B) : TBd (n + 1) B (putA tb x m) where
  len := Nat.le_trans (putA_len _ _ _) (Nat.succ_le_succ h.len)
  nd := by
    rw [putA_keys]
    split
    · exact h.nd
    · rename_i hn
      rw [List.nodup_append]
      refine ⟨h.nd, by simp, fun a ha b hb e => ?_⟩
      have : b = x := by simpa using hb
      subst this; subst e
      obtain ⟨t, ht, rfl⟩ := List.mem_map.mp ha
      exact hn (List.any_eq_true.mpr ⟨t, ht, by simp⟩)
  b := fun t ht => by
    unfold putA at ht
    split at ht
    · obtain ⟨u, hu, rfl⟩ := List.mem_map.mp ht
      have := h.b u hu
      split
      · exact ⟨this.1, hm⟩
      · exact this
    · rcases List.mem_append.mp ht with ht | ht
      · exact h.b t ht
      · rw [List.mem_singleton.mp ht]; exact ⟨hx, hm⟩
theorem TBd.g {n B : Nat} {tb : List Tm} (h : TBd n B tb) (x : Am) : (gA tb x).natAbs ≤ B := by
  unfold gA
  cases e : getA tb x with
  | none => exact Nat.zero_le _
  | some v => exact (h.b _ (mem_getA e)).2
theorem w_kept {B : Hp} {σ : Sig} {M : Mem} {pa : Addr} {od : Obj} {tb : List Tm} {Q : DQ} {vs : List Nat} {n N : Nat} (hv : 6 ∈ vs) (h0 : σ[5]? = some (some (.ref pa))) (h5 : ∀ x : D, ((wipe3 σ vs).set 6 (some x))[5]? = some (some (.ref pa))) (h6 : ∀ x : D, ((wipe3 σ vs).set 6 (some x))[6]? = some (some x))
    (hm : M pa = some (lkO od (tK tb))) (tB : TBd n N tb) (hn : n ≤ 1000) (q : Q (.lst (tb.map tD)) M) :
    W3e B (tLc (iKeys (tVar 5)) (gName 6) tYes (tTup (tCons (tVar 6) (tCons (tDGet (tVar 5) (tVar 6)) tNil))) vs) σ M Q := by
  refine w_lcP (fun _ => true) (fun d => .tup [d, .int (gA tb (unA d))]) (own_name hv) (i_keysI (w_var h0 ?_))
  have ek : (tK tb).map (fun p => D.tup (p.1.map kD)) = (tb.map (·.1)).map aD := by
    unfold tK
    rw [List.map_map, List.map_map]; rfl
  refine ⟨pa, od, tK tb, rfl, hm, ?_⟩
  rw [ek]
  refine ⟨by rw [List.length_map, List.length_map]; have := tB.len; omega, hm, ?_, ?_⟩
  · intro i d M' hi hM'
    obtain ⟨a, ha, rfl⟩ := map_at hi
    obtain ⟨t, ht, rfl⟩ := List.mem_map.mp (List.mem_of_getElem? ha)
    have hv : getA tb t.1 = some (gA tb t.1) := by
      unfold gA; rw [getA_mem tB.nd ht]; rfl
    have hg : valD (kI (tK tb)) (aK t.1) = some (.int (gA tb t.1)) := by rw [valD_tK, hv]; rfl
    refine g_name ⟨rfl, ?_⟩
    refine w_yes ⟨rfl, rfl, fun _ => ?_⟩
    refine w_tup (w_cons (w_var (h6 _) (w_cons (w_dgetL (w_var (h5 _) (w_var (h6 _) ?_))))))
    refine ⟨pa, od, tK tb, aK t.1, _, rfl, hM' _ _ hm, rfl, hg, ?_⟩
    refine w_nil ⟨Nat.le_of_ble_eq_true rfl, rfl, ?_⟩
    rw [unA_aD]
  have el : (((tb.map (·.1)).map aD).filter fun _ => true).map (fun d => .tup [d, .int (gA tb (unA d))]) = tb.map tD := by
    rw [List.filter_eq_self.mpr fun _ _ => rfl, List.map_map, List.map_map]
    refine List.map_congr_left fun t ht => ?_
    show D.tup [aD t.1, .int (gA tb (unA (aD t.1)))] = _
    rw [unA_aD]
    unfold gA
    rw [getA_mem tB.nd ht]; rfl
  rw [el]
  exact q
theorem valS_b {ts : List Tm} {g : Am → Int} {B G : Nat} (h : ∀ t ∈ ts, t.2.natAbs ≤ B) (hg : ∀ x, (g x).natAbs ≤ G) : (valS ts g).natAbs ≤ ts.length * (B * G) := by
  induction ts with
  | nil => exact Nat.zero_le _
  | cons t ts ih =>
    have h1 : (t.2 * g t.1).natAbs ≤ B * G := by rw [Int.natAbs_mul]; exact Nat.mul_le_mul (h t (List.mem_cons_self ..)) (hg _)
    have h2 := ih fun u hu => h u (List.mem_cons_of_mem _ hu)
    show (t.2 * g t.1 + valS ts g).natAbs ≤ (ts.length + 1) * (B * G)
    rw [Nat.succ_mul]
    omega
/-! ### the odd dict -/
theorem nkA_inj {a b : Am} (h : nkA a = nkA b) : a = b := by
  obtain ⟨x, n⟩ := a
  obtain ⟨y, m⟩ := b
  unfold nkA at h
  simp only [PySem.NestedKey.tup.injEq, List.cons.injEq, PySem.NestedKey.text.injEq, PySem.NestedKey.num.injEq, and_true] at h
  obtain ⟨h1, h2⟩ := h
  have h2 : n = m := by omega
  subst h2
  have hw : ∀ x y : Bool, (if x = true then (("leave" : Str)) else "take") = (if y = true then ("leave" : Str) else "take") → x = y := by decide +kernel
  have := hw x y h1
  subst this
  rfl
structure OddOk (xs : List (L2.NK × D)) (l : List Tm) : Prop where
  len : xs.length = 4 + l.length
  v : ∀ a : Am, a.2 < 10 ^ 12 → valD xs (nkA a) = (getA l a).map D.int
theorem getA_none {l : List Tm} {a : Am} (h : a ∉ l.map (·.1)) : getA l a = none := by
  unfold getA
  rw [List.find?_eq_none.mpr fun t ht e => h (by rw [← of_decide_eq_true e]; exact List.mem_map.mpr ⟨t, ht, rfl⟩)]
  rfl
theorem valD_none {κ : Type} [DecidableEq κ] {xs : List (κ × D)} {k : κ} (h : valD xs k = none) : (xs.any fun x => decide (x.1 = k)) = false := by
  cases e : xs.any fun x => decide (x.1 = k) with
  | false => rfl
  | true =>
    obtain ⟨x, hx, hk⟩ := List.any_eq_true.mp e
    unfold valD at h
    cases e2 : xs.find? fun x => decide (x.1 = k) with
    | some y => rw [e2] at h; cases h
    | none => exact absurd hk (List.find?_eq_none.mp e2 x hx)
theorem valD_snoc {κ : Type} [DecidableEq κ] {xs : List (κ × D)} {k k' : κ} {v : D} (h : valD xs k = none) : valD (xs ++ [(k, v)]) k' = if k = k' then some v else valD xs k' := by
  unfold valD at h ⊢
  rw [List.find?_append]
  by_cases e : k = k'
  · subst e
    rw [if_pos rfl, Option.map_eq_none_iff.mp h]
    simp
  · rw [if_neg e]
    have : ([(k, v)] : List (κ × D)).find? (fun x => decide (x.1 = k')) = none := by simp [e]
    rw [this, Option.or_none]
theorem getA_snoc {l : List Tm} {t : Tm} {a : Am} (h : t.1 ∉ l.map (·.1)) : getA (l ++ [t]) a = if t.1 = a then some t.2 else getA l a := by
  have h0 := getA_none h
  unfold getA at h0 ⊢
  rw [List.find?_append]
  by_cases e : t.1 = a
  · subst e
    rw [if_pos rfl, Option.map_eq_none_iff.mp h0]
    simp
  · rw [if_neg e]
    have : ([t] : List Tm).find? (fun x => decide (x.1 = a)) = none := by simp [e]
    rw [this, Option.or_none]
theorem OddOk.snoc {xs : List (L2.NK × D)} {l : List Tm} {t : Tm} (h : OddOk xs l) (ht : t.1.2 < 10 ^ 12) (hn : t.1 ∉ l.map (·.1)) : OddOk (putKD xs (nkA t.1) (.int t.2)) (l ++ [t]) := by
  have h0 : valD xs (nkA t.1) = none := by rw [h.v _ ht, getA_none hn]; rfl
  have e : putKD xs (nkA t.1) (.int t.2) = xs ++ [(nkA t.1, .int t.2)] := by
    unfold putKD
    rw [valD_none h0]; rfl
  rw [e]
  refine ⟨by rw [List.length_append, List.length_append, h.len]; rfl, fun a ha => ?_⟩
  rw [valD_snoc h0, getA_snoc hn]
  by_cases q : t.1 = a
  · subst q; rw [if_pos rfl, if_pos rfl]; rfl
  · rw [if_neg q, if_neg fun z => q (nkA_inj z)]; exact h.v a ha
def kps0 : List (L2.NK × D × D) := [(.text "shade", .str "shade", .int 7), (.tup [.text "take", .num (-1)], .tup [.str "take", .int (0 - 1)], .int 3), (.tup [.text "take", .num (10 ^ 13)], .tup [.str "take", .int (10 ^ 13)], .non), (.none, .non, .str "x")]
theorem odd0 : mxDAll [] (kps0.map fun p => (p.1, p.2.2)) = [(.text "shade", .int 7), (.tup [.text "take", .num (-1)], .int 3), (.tup [.text "take", .num (10 ^ 13)], .non), (.none, .str "x")] := by
  simp [kps0, mxDAll, putKD]
theorem oddOk0 : OddOk (mxDAll [] (kps0.map fun p => (p.1, p.2.2))) [] := by
  rw [odd0]
  refine ⟨rfl, fun a ha => ?_⟩
  show valD _ _ = none
  unfold valD
  rw [List.find?_eq_none.mpr ?_]
  · rfl
  intro x hx e
  have e := of_decide_eq_true e
  simp only [List.mem_cons, List.mem_nil_iff, or_false] at hx
  rcases hx with rfl | rfl | rfl | rfl
  · cases e
  · unfold nkA at e
    simp only [PySem.NestedKey.tup.injEq, List.cons.injEq, PySem.NestedKey.num.injEq, and_true] at e
    omega
  · unfold nkA at e
    simp only [PySem.NestedKey.tup.injEq, List.cons.injEq, PySem.NestedKey.num.injEq, and_true] at e
    have := e.2
    omega
  · cases e
theorem good0 : GoodD [] kps0 := by
  refine ⟨.inr (.inr ⟨⟨_, rfl⟩, rfl⟩), .inl ⟨_, rfl⟩, .inl ⟨_, rfl⟩, .inr (.inl ⟨rfl, ?_⟩), trivial⟩
  simp [putKD]
theorem keys0 : ∀ p ∈ kps0, KeyD p.1 p.2.1 := by
  intro p hp
  simp only [kps0, List.mem_cons, List.mem_nil_iff, or_false] at hp
  rcases hp with rfl | rfl | rfl | rfl
  · exact .inl ⟨_, rfl, rfl⟩
  · exact .inr (.inr ⟨_, _, rfl, rfl⟩)
  · exact .inr (.inr ⟨_, _, rfl, rfl⟩)
  · exact .inr (.inl ⟨rfl, rfl⟩)
/-! ### what stands -/
structure SK (A0 : Adr) (p0 pa fa fb : Addr) (M : Mem) (tb La Lb : List Tm) : Prop where
  src : ∃ o, M p0 = some o ∧ IsSrc o
  d : M pa = some (.dT (kI (tK tb)))
  a : M fa = some (fmO A0.f_Form La)
  b : M fb = some (fmO A0.f_Form Lb)
  n1 : p0 ≠ pa
  n2 : p0 ≠ fa
  n3 : p0 ≠ fb
  n4 : pa ≠ fa
  n5 : pa ≠ fb
  n6 : fa ≠ fb
section
variable {p0 pa fa fb : Addr} {M M' : Mem} {tb tb' La La' Lb : List Tm} {o : DO} {p : Addr} {x : DO}
theorem SK.gro (h : SK A0 p0 pa fa fb M tb La Lb) (g : Gro M M') : SK A0 p0 pa fa fb M' tb La Lb := by
  obtain ⟨o, h1, h2⟩ := h.src
  exact ⟨⟨o, g _ _ h1, h2⟩, g _ _ h.d, g _ _ h.a, g _ _ h.b, h.n1, h.n2, h.n3, h.n4, h.n5, h.n6⟩
theorem SK.new (h : SK A0 p0 pa fa fb M tb La Lb) (hp : M p = none) : SK A0 p0 pa fa fb (mput M p x) tb La Lb := h.gro (Gro.put (.refl M) hp)
theorem SK.draw (h : SK A0 p0 pa fa fb M tb La Lb) (ho : IsSrc o) : SK A0 p0 pa fa fb (mput M p0 o) tb La Lb :=
  ⟨⟨o, mput_same, ho⟩, by rw [mput_ne h.n1.symm]; exact h.d, by rw [mput_ne h.n2.symm]; exact h.a, by rw [mput_ne h.n3.symm]; exact h.b, h.n1, h.n2, h.n3, h.n4, h.n5, h.n6⟩
theorem SK.putD (h : SK A0 p0 pa fa fb M tb La Lb) : SK A0 p0 pa fa fb (mput M pa (.dT (kI (tK tb')))) tb' La Lb := by
  obtain ⟨o, h1, h2⟩ := h.src
  exact ⟨⟨o, by rw [mput_ne h.n1]; exact h1, h2⟩, mput_same, by rw [mput_ne h.n4.symm]; exact h.a, by rw [mput_ne h.n5.symm]; exact h.b, h.n1, h.n2, h.n3, h.n4, h.n5, h.n6⟩
theorem SK.putF (h : SK A0 p0 pa fa fb M tb La Lb) : SK A0 p0 pa fa fb (mput M fa (fmO A0.f_Form La')) tb La' Lb := by
  obtain ⟨o, h1, h2⟩ := h.src
  exact ⟨⟨o, by rw [mput_ne h.n2]; exact h1, h2⟩, by rw [mput_ne h.n4]; exact h.d, mput_same, by rw [mput_ne h.n6.symm]; exact h.b, h.n1, h.n2, h.n3, h.n4, h.n5, h.n6⟩
end
def S_law (K : PySem.W.Frag) : Hp → Sp3 := fun F ds M Q _ => ∃ (a : Addr) (ns : List Int), ds = [.ref a] ∧ SqL K F a (ns.map V.int) ∧ ns.length ≤ 63 ∧ M = (fun _ => none) ∧ ∀ M', Q (.bl true) M'
theorem ok_law (T : Tx P K mg A0) (NS : base.NoSeer) : FnOk P w K mg base CX0 45 A0.f_law A0.d_law ["_law_script"] (lift3B (S_law K)) := by
  refine T.F_law.ok sc_law (lift3B_len fun F ds M Q E ⟨a, b, h, _⟩ => by rw [h]; rfl) (fun cdv A outer st0 H vs Q E hr h => ?_)
  have hu := hr.units
  have hu5 := units65 hr
  have hu1 := units1 hr
  have hu9 := units9 hr
  refine ⟨_, (pss_cons (ps_set (i := 1) sc_law.nd (by rfl) (Or.inl (by rfl)) (pe_call (ok_source T) (hr.mono (by decide)) (by rfl) T.g_source T.k_source T.b_source .nil pass0 (pa_cons (pv 0) pa_nil)))
  (pss_cons (ps_set (i := 2) sc_law.nd (by rfl) (Or.inl (by rfl)) (pe_call (ok_terms T NS) (hr.mono (by decide)) (by rfl) T.g_terms T.k_terms T.b_terms .nil pass0 (pa_cons (pv 1) (pa_cons pe_int pa_nil))))
  (pss_cons (ps_set (i := 3) sc_law.nd (by rfl) (Or.inl (by rfl)) (pe_call (ok_terms T NS) (hr.mono (by decide)) (by rfl) T.g_terms T.k_terms T.b_terms .nil pass0 (pa_cons (pv 1) (pa_cons pe_int pa_nil))))
  (pss_cons (ps_set (i := 4) sc_law.nd (by rfl) (Or.inl (by rfl)) (pe_ix (ix_seqK K rfl) (pe_lst (pa_cons pe_int (pa_cons pe_int (pa_cons (pe_op op_pow pe_int pe_int) pa_nil)))) (pe_call (ok_draw T NS) (hr.mono (by decide)) (by rfl) T.g_draw T.k_draw T.b_draw .nil pass0 (pa_cons (pv 1) (pa_cons pe_int pa_nil))) (fun _ _ => by rfl)))
  (pss_cons (ps_set (i := 5) sc_law.nd (by rfl) (Or.inr (by rfl)) pe_dnewT)
  (pss_cons (ps_for PassesOwn.never (by rfl) (pi_list (pe_op op_ADD (pe_op op_ADD (pv 2) (pv 3)) (pe_lst (pa_cons (pe_tup (pa_cons (pe_call (ok_amount T NS) (hr.mono (by decide)) (by rfl) T.g_amount T.k_amount T.b_amount .nil pass0 (pa_cons (pv 1) pa_nil)) (pa_cons pe_int pa_nil))) pa_nil)))) (pg_tup (by rfl) (pgs_cons (pg_name (i := 6) sc_law.nd (by rfl) (Or.inr (by rfl))) (pgs_cons (pg_name (i := 7) sc_law.nd (by rfl) (Or.inl (by rfl))) pgs_nil))) (pss_one (ps_if (pt_cmpR (op_neDK K rfl hu) (pe_call (ok_draw T NS) (hr.mono (by decide)) (by rfl) T.g_draw T.k_draw T.b_draw .nil pass0 (pa_cons (pv 1) (pa_cons pe_int pa_nil))) pe_int (nomark _)) (pss_one (ps_dput hu1 (pv 5) (pv 6) (pe_op op_sub (pe_call (ok_draw T NS) (hr.mono (by decide)) (by rfl) T.g_draw T.k_draw T.b_draw .nil pass0 (pa_cons (pv 1) (pa_cons (pe_op op_ADD (pe_op op_mulW pe_int (pv 4)) pe_int) pa_nil))) (pv 4)) (by rfl))) pss_nil)))
  (pss_cons (ps_lock (ps_setLc (i := 8) (own := [("_law_amount_here", 6)]) (g := (gName 6)) (by rfl) sc_law.nd (by rfl) (by rfl) (sw_true (by rfl) (by rfl) (by rfl) (by decide +kernel)) (pi_keys (pv 5)) (blkOk_by (N := ["_law_script", "_law_source_here", "_law_first", "_law_second", "_law_size", "_law_amounts", "_law_amount_here", "_law_number", "_law_kept", "_law_a", "_law_b", "_law_one", "_law_two", "_law_form", "_law_due", "_law_value_here", "_law_odd", "_law_both", "_law_bad", "_law_row"]) (sc := defScope s_law) (own := [("_law_amount_here", 6)]) (by decide +kernel)) (fun _ _ _ _ _ => (pg_name (i := 6) sc_law.nd (by rfl) (Or.inl (by rfl)))) (fun _ _ _ _ _ => pts_nil) (fun _ _ _ _ _ => (pe_tup (pa_cons (pv 6) (pa_cons (pe_dget hu1 (pv 5) (pv 6) (fun _ _ => by rfl)) pa_nil))))))
  (pss_cons (ps_set (i := 9) sc_law.nd (by rfl) (Or.inl (by rfl)) (pe_make T.mk_Form (ok_Form___init__ T) (hr.mono (by decide)) (by rfl) T.g_Form T.b_Form___init__ .nil passL (pa_cons (pe_callTy (call_lstK K rfl) (by rfl) T.n_list (by decide +kernel) (pa_cons (pv 2) pa_nil)) pa_nil)))
  (pss_cons (ps_set (i := 10) sc_law.nd (by rfl) (Or.inl (by rfl)) (pe_make T.mk_Form (ok_Form___init__ T) (hr.mono (by decide)) (by rfl) T.g_Form T.b_Form___init__ .nil passL (pa_cons (pe_callTy (call_lstK K rfl) (by rfl) T.n_list (by decide +kernel) (pa_cons (pv 3) pa_nil)) pa_nil)))
  (pss_cons (ps_set (i := 11) sc_law.nd (by rfl) (Or.inl (by rfl)) (pe_call (ok_value T) (hr.mono (by decide)) (by rfl) T.g_value T.k_value T.b_value .nil pass0 (pa_cons (pv 2) (pa_cons (pv 5) pa_nil))))
  (pss_cons (ps_set (i := 12) sc_law.nd (by rfl) (Or.inl (by rfl)) (pe_call (ok_value T) (hr.mono (by decide)) (by rfl) T.g_value T.k_value T.b_value .nil pass0 (pa_cons (pv 3) (pa_cons (pv 5) pa_nil))))
  (pss_cons (ps_for PassesOwn.never (by rfl) (pi_list (pe_lst (pa_cons (pe_tup (pa_cons (pv 9) (pa_cons (pv 11) pa_nil))) (pa_cons (pe_tup (pa_cons (pv 10) (pa_cons (pv 12) pa_nil))) (pa_cons (pe_tup (pa_cons (pe_own2 rfl (pv 9) (pv 10) T.of___add__ (ok_Form___add__ T) T.b_Form___add__ (hr.mono (by decide)) (passes_at pass0)) (pa_cons (pe_op op_ADD (pv 11) (pv 12)) pa_nil))) (pa_cons (pe_tup (pa_cons (pe_own2 rfl (pe_own2 rfl (pe_own2 rfl (pv 9) (pv 10) T.of___sub__ (ok_Form___sub__ T) T.b_Form___sub__ (hr.mono (by decide)) (passes_at pass0)) (pv 10) T.of___sub__ (ok_Form___sub__ T) T.b_Form___sub__ (hr.mono (by decide)) (passes_at pass0)) (pe_rmul rfl pe_int (pv 9) T.rm_Form (ok_Form___rmul__ T) T.b_Form___rmul__ (hr.mono (by decide)) (passes_at pass0)) T.of___add__ (ok_Form___add__ T) T.b_Form___add__ (hr.mono (by decide)) (passes_at pass0)) (pa_cons (pe_op op_sub (pe_op op_mulW pe_int (pv 11)) (pe_op op_mulW pe_int (pv 12))) pa_nil))) pa_nil)))))) (pg_tup (by rfl) (pgs_cons (pg_name (i := 13) sc_law.nd (by rfl) (Or.inl (by rfl))) (pgs_cons (pg_name (i := 14) sc_law.nd (by rfl) (Or.inl (by rfl))) pgs_nil))) (pss_cons (ps_set (i := 15) sc_law.nd (by rfl) (Or.inl (by rfl)) (pe_callI (pv 13) T.co_Form (ok_Form___call__ T) (hr.mono (by decide)) T.b_Form___call__ pass0 (pa_cons (pv 5) pa_nil)))
  (pss_one (ps_if (PW.pt (pw_or (pt_not (pt_truthK K rfl (pe_call (ok_lw_is_whole T) (hr.mono (by decide)) (by rfl) T.g_lw_is_whole T.k_lw_is_whole T.b_lw_is_whole .nil pass0 (pa_cons (pv 15) pa_nil)) (by intro _; rfl))) (pw_or1 (pt_cmpR (op_neDK K rfl hu) (pv 15) (pv 14) (nomark _))))) (pss_one (ps_ret pe_bl)) pss_nil))))
  (pss_cons (ps_if (PW.pt (pw_or (pt_cmpR (op_neDK K rfl hu) (pe_lock (pe_lc (own := [("_law_amount_here", 6)]) (g := (gName 6)) (by rfl) sc_law.nd (pi_keys (pv 5)) (blkOk_by (N := ["_law_script", "_law_source_here", "_law_first", "_law_second", "_law_size", "_law_amounts", "_law_amount_here", "_law_number", "_law_kept", "_law_a", "_law_b", "_law_one", "_law_two", "_law_form", "_law_due", "_law_value_here", "_law_odd", "_law_both", "_law_bad", "_law_row"]) (sc := defScope s_law) (own := [("_law_amount_here", 6)]) (by decide +kernel)) (fun _ _ _ _ _ => (pg_name (i := 6) sc_law.nd (by rfl) (Or.inl (by rfl)))) (fun _ _ _ _ _ => pts_nil) (fun _ _ _ _ _ => (pe_tup (pa_cons (pv 6) (pa_cons (pe_dget hu1 (pv 5) (pv 6) (fun _ _ => by rfl)) pa_nil)))))) (pv 8) (nomark _)) (pw_or1 (pt_cmpR (op_neDK K rfl hu) (pe_callI (pv 9) T.co_Form (ok_Form___call__ T) (hr.mono (by decide)) T.b_Form___call__ pass0 (pa_cons pe_dnewT pa_nil)) pe_int (nomark _))))) (pss_one (ps_ret pe_bl)) pss_nil)
  (pss_cons (ps_set (i := 16) sc_law.nd (by rfl) (Or.inl (by rfl)) (pe_mdisp (w := w) rfl (Nat.lt_of_succ_lt hu9) (pps_cons pe_str pe_int (pps_cons (pe_tup (pa_cons pe_str (pa_cons (pe_op op_sub pe_int pe_int) pa_nil))) pe_int (pps_cons (pe_tup (pa_cons pe_str (pa_cons (pe_op op_pow pe_int pe_int) pa_nil))) pe_non (pps_cons pe_non pe_str pps_nil)))) (by rfl) (by rfl) (by intro h; cases h) (by decide)))
  (pss_cons (ps_for PassesOwn.never (by rfl) (pi_list (pv 8)) (pg_tup (by rfl) (pgs_cons (pg_name (i := 6) sc_law.nd (by rfl) (Or.inr (by rfl))) (pgs_cons (pg_name (i := 7) sc_law.nd (by rfl) (Or.inl (by rfl))) pgs_nil))) (pss_one (ps_mput (w := w) rfl hu9 (pv 16) (pv 6) (pv 7) (by rfl))))
  (pss_cons (ps_set (i := 17) sc_law.nd (by rfl) (Or.inl (by rfl)) (pe_own2 rfl (pv 9) (pv 10) T.of___add__ (ok_Form___add__ T) T.b_Form___add__ (hr.mono (by decide)) (passes_at pass0)))
  (pss_cons (ps_if (PW.pt (pw_or (pt_cmpR (op_neDK K rfl hu) (pe_callI (pv 9) T.co_Form (ok_Form___call__ T) (hr.mono (by decide)) T.b_Form___call__ pass0 (pa_cons (pv 16) pa_nil)) (pv 11) (nomark _)) (pw_or (pt_cmpR (op_neDK K rfl hu) (pe_callI (pv 17) T.co_Form (ok_Form___call__ T) (hr.mono (by decide)) T.b_Form___call__ pass0 (pa_cons (pv 16) pa_nil)) (pe_op op_ADD (pv 11) (pv 12)) (nomark _)) (pw_or1 (pt_cmpR (op_neDK K rfl hu) (pe_callB (call_lenMK K w rfl rfl) (by rfl) T.n_len PySem.boot_len (pa_cons (pv 16) pa_nil)) (pe_op op_ADD (pe_callB (call_lenDK K rfl) (by rfl) T.n_len PySem.boot_len (pa_cons (pv 8) pa_nil)) pe_int) (nomark _)))))) (pss_one (ps_ret pe_bl)) pss_nil)
  (pss_cons (ps_set (i := 6) sc_law.nd (by rfl) (Or.inr (by rfl)) (pe_call (ok_amount T NS) (hr.mono (by decide)) (by rfl) T.g_amount T.k_amount T.b_amount .nil pass0 (pa_cons (pv 1) pa_nil)))
  (pss_cons (ps_dput hu1 (pv 5) (pv 6) (pe_op op_ADD (pe_dget2 hu1 (pv 5) (pv 6) pe_int ⟨by rfl, by rfl, by rfl, by rfl⟩) pe_int) (by rfl))
  (pss_cons (ps_if (pt_cmpR (op_neDK K rfl hu) (pe_callI (pv 9) T.co_Form (ok_Form___call__ T) (hr.mono (by decide)) T.b_Form___call__ pass0 (pa_cons (pv 5) pa_nil)) (pe_call (ok_value T) (hr.mono (by decide)) (by rfl) T.g_value T.k_value T.b_value .nil pass0 (pa_cons (pv 2) (pa_cons (pv 5) pa_nil))) (nomark _)) (pss_one (ps_ret pe_bl)) pss_nil)
  (pss_cons (ps_asg pe_int (pg_ownSub (pv 9) (pv 6) T.ns_Form T.si_Form T.fn_si (ok_Form___setitem__ T) T.b_Form___setitem__ (hr.mono (by decide)) (passes_at passL) rfl))
  (pss_cons (ps_if (pt_cmpR (op_neDK K rfl hu) (pe_callI (pv 9) T.co_Form (ok_Form___call__ T) (hr.mono (by decide)) T.b_Form___call__ pass0 (pa_cons (pv 5) pa_nil)) (pe_call (ok_value T) (hr.mono (by decide)) (by rfl) T.g_value T.k_value T.b_value .nil pass0 (pa_cons (pe_op op_ADD (pe_lc (own := [("_law_row", 19)]) (g := (gName 19)) (by rfl) sc_law.nd (pi_list (pv 2)) (blkOk_by (N := ["_law_script", "_law_source_here", "_law_first", "_law_second", "_law_size", "_law_amounts", "_law_amount_here", "_law_number", "_law_kept", "_law_a", "_law_b", "_law_one", "_law_two", "_law_form", "_law_due", "_law_value_here", "_law_odd", "_law_both", "_law_bad", "_law_row"]) (sc := defScope s_law) (own := [("_law_row", 19)]) (by decide +kernel)) (fun _ _ _ _ _ => (pg_name (i := 19) sc_law.nd (by rfl) (Or.inl (by rfl)))) (fun _ _ _ _ _ => pts_one (pt_cmpR (op_neDK K rfl hu) (pe_ix (ix_seqK K rfl) (pv 19) pe_int (fun _ _ => by rfl)) (pv 6) (nomark _))) (fun _ _ _ _ _ => (pv 19))) (pe_lst (pa_cons (pe_tup (pa_cons (pv 6) (pa_cons pe_int pa_nil))) pa_nil))) (pa_cons (pv 5) pa_nil))) (nomark _)) (pss_one (ps_ret pe_bl)) pss_nil)
  (pss_cons (ps_set (i := 7) sc_law.nd (by rfl) (Or.inl (by rfl)) (pe_call (ok_draw T NS) (hr.mono (by decide)) (by rfl) T.g_draw T.k_draw T.b_draw .nil pass0 (pa_cons (pv 1) (pa_cons (pe_ix (ix_seqK K rfl) (pe_lst (pa_cons (pe_op op_pow pe_int pe_int) (pa_cons (pe_op op_ADD (pe_op op_pow pe_int pe_int) (pe_callB call_abs (by rfl) T.n_abs (by decide +kernel) (pa_cons (pe_callB (cr_sum (by rfl)) (by rfl) T.n_sum (by decide +kernel) (pa_cons (pe_ix (ix_seqK K rfl) (pv 1) pe_int (fun _ _ => by rfl)) pa_nil)) pa_nil))) pa_nil))) (pe_call (ok_draw T NS) (hr.mono (by decide)) (by rfl) T.g_draw T.k_draw T.b_draw .nil pass0 (pa_cons (pv 1) (pa_cons pe_int pa_nil))) (fun _ _ => by rfl)) pa_nil))))
  (pss_cons (ps_if (pt_not (pt_truthK K rfl (pe_call (ok_shows T) (hr.mono (by decide)) (by rfl) T.g_shows T.k_shows T.b_shows .nil pass0 (pa_cons (pe_smeth (pe_glob (v := .ref A0.f_Form) (by rfl) T.g_Form rfl) T.cr_Form T.sm_take (ok_Form_take T) (hr.mono (by decide)) T.b_Form_take .nil (passes_at passL) (pa_cons (pv 7) pa_nil)) (pa_cons (pe_lst (pa_cons (pe_tup (pa_cons (pe_tup (pa_cons pe_str (pa_cons (pv 7) pa_nil))) (pa_cons pe_int pa_nil))) pa_nil)) pa_nil))) (by intro _; rfl))) (pss_one (ps_ret pe_bl)) pss_nil)
  (pss_cons (ps_if (pt_not (pt_truthK K rfl (pe_call (ok_shows T) (hr.mono (by decide)) (by rfl) T.g_shows T.k_shows T.b_shows .nil pass0 (pa_cons (pe_smeth (pe_glob (v := .ref A0.f_Form) (by rfl) T.g_Form rfl) T.cr_Form T.sm_leave (ok_Form_leave T) (hr.mono (by decide)) T.b_Form_leave .nil (passes_at passL) (pa_cons (pv 7) pa_nil)) (pa_cons (pe_lst (pa_cons (pe_tup (pa_cons (pe_tup (pa_cons pe_str (pa_cons (pv 7) pa_nil))) (pa_cons pe_int pa_nil))) pa_nil)) pa_nil))) (by intro _; rfl))) (pss_one (ps_ret pe_bl)) pss_nil)
  (pss_cons (ps_set (i := 18) sc_law.nd (by rfl) (Or.inl (by rfl)) (pe_ix (ix_seqK K rfl) (pe_lst (pa_cons (pe_op op_sub (pe_op op_sub pe_int pe_int) (pv 7)) (pa_cons pe_non (pa_cons pe_bl (pa_cons pe_str (pa_cons pe_bl (pa_cons (pe_tup (pa_cons pe_int pa_nil)) pa_nil))))))) (pe_call (ok_draw T NS) (hr.mono (by decide)) (by rfl) T.g_draw T.k_draw T.b_draw .nil pass0 (pa_cons (pv 1) (pa_cons pe_int pa_nil))) (fun _ _ => by rfl)))
  (pss_one (ps_ret (pe_and (pe_call (ok_refused T) (hr.mono (by decide)) (by rfl) T.g_refused T.k_refused T.b_refused .nil pass0 (pa_cons pe_str (pa_cons (pv 18) pa_nil))) (pe_one (pe_call (ok_refused T) (hr.mono (by decide)) (by rfl) T.g_refused T.k_refused T.b_refused .nil pass0 (pa_cons pe_str (pa_cons (pv 18) pa_nil))))))))))))))))))))))))))))))))), run3B h fun B ds M Q3 E3 hs hE => ?_⟩
  obtain ⟨sa, ns, rfl, hS, hl, rfl, q⟩ := hs
  change W3s B _ _ [some (.ref sa), none, none, none, none, none, none, none, none, none, none, none, none, none, none, none, none, none, none, none] _
  try dsimp only [cxOf, Cx.nox, Cx.wish]
  repeat walk_at "t3"
  refine w_callB0 source_mono ?_
  repeat walk_at "t3"
  refine ⟨sa, ns, rfl, hS, hl, fun p0 o hp0 so => ?_⟩
  clear hS hl hp0
  repeat walk_at "t3"
  refine ⟨p0, 8, o, rfl, mput_same, so, by decide, by decide, fun t1 o1 l1 b1 s1 => ?_⟩
  rw [mput_mput]
  repeat walk_at "t3"
  refine ⟨p0, 8, o1, rfl, mput_same, s1, by decide, by decide, fun t2 o2 l2 b2 s2 => ?_⟩
  rw [mput_mput]
  have B1 : Bd 8 (10 ^ 30) t1 := ⟨by omega, fun t ht => (b1 t ht).2, fun t ht => (b1 t ht).1⟩
  have B2 : Bd 8 (10 ^ 30) t2 := ⟨by omega, fun t ht => (b2 t ht).2, fun t ht => (b2 t ht).1⟩
  repeat walk_at "t3"
  refine w_lst ?_
  repeat walk_at "t3"
  refine r3_pow ⟨by decide, by decide, by decide⟩ ?_
  repeat walk_at "t3"
  refine ⟨p0, 3, o2, rfl, mput_same, s2, by decide, .inr trivial, fun r3 o3 r30 r31 s3 => ?_⟩
  rw [mput_mput]
  refine ix_few (xs := [2, 50, 10 ^ 25]) r30 r31 fun z hz => ?_
  have hz : 0 < z ∧ z ≤ 10 ^ 25 := by
    simp only [List.mem_cons, List.mem_nil_iff, or_false] at hz
    rcases hz with rfl | rfl | rfl <;> exact ⟨by decide, by decide⟩
  repeat walk_at "t3"
  refine w_dnewT fun pa hpa => ?_
  have n1 : p0 ≠ pa := fun e => by rw [← e, mput_same] at hpa; cases hpa
  -- the numbers
  repeat walk_at "t3"
  refine s_for (i_list ?_)
  repeat walk_at "t3"
  have len1 := B1.len
  have len2 := B2.len
  refine r3_add_ll .fz .fz (by rw [List.length_map, List.length_map]; omega) ?_
  rw [← List.map_append]
  repeat walk_at "t3"
  refine w_lst ?_
  repeat walk_at "t3"
  refine ⟨p0, o3, rfl, by rw [mput_ne n1]; exact mput_same, s3, fun x0 o4 hx0 s4 => ?_⟩
  repeat walk_at "t3"
  refine r3_add_ll .fz .fz (by rw [List.length_map, List.length_append]; show _ + 1 ≤ _; omega) ?_
  rw [show (t1 ++ t2).map tD ++ [D.tup [aD x0, .int 0]] = ((t1 ++ t2) ++ [(x0, 0)]).map tD by rw [List.map_append (l₁ := t1 ++ t2)]; rfl]
  have hkeys : ∀ t ∈ (t1 ++ t2) ++ [(x0, (0 : Int))], t.1.2 < 10 ^ 12 := fun t ht => by
    rcases List.mem_append.mp ht with ht | ht
    · exact (List.mem_append.mp ht).elim (B1.k t) (B2.k t)
    · rw [List.mem_singleton.mp ht]; exact hx0
  have hlen : ((t1 ++ t2) ++ [(x0, (0 : Int))]).length ≤ 17 := by rw [List.length_append, List.length_append]; show _ + 1 ≤ _; omega
  generalize (t1 ++ t2) ++ [(x0, (0 : Int))] = l0 at hkeys hlen
  rw [mput_comm n1.symm, mput_mput]
  refine ⟨_, rfl, fun i σ' M' => ∃ (tb : List Tm) (o : DO) (b6 b7 : Option D), TBd i (10 ^ 26) tb ∧ IsSrc o ∧ σ' = [some (.ref sa), some (.ref p0), some (.lst (t1.map tD)), some (.lst (t2.map tD)), some (.int z), some (.ref pa), b6, b7, none, none, none, none, none, none, none, none, none, none, none, none] ∧ M' = mput (mput (fun _ => none) p0 o) pa (.dT (kI (tK tb))),
    fun _ _ _ _ => trivial, ⟨[], o4, none, none, ⟨Nat.zero_le _, .nil, fun _ h => nomatch h⟩, s4, rfl, rfl⟩, ?_, ?_⟩
  · rintro i d σ' M' hi ⟨tb, o, b6, b7, tB, so, rfl, rfl⟩
    obtain ⟨t, ht, rfl⟩ := map_at hi
    have htk := hkeys t (List.mem_of_getElem? ht)
    have hil := (List.getElem?_eq_some_iff.mp ht).1
    obtain ⟨x, n⟩ := t
    have hsr : ∀ o X, (mput (mput (fun _ => none) p0 o) pa X) p0 = some o := fun o X => by rw [mput_ne n1]; exact mput_same
    have hdr : ∀ o X o', mput (mput (mput (fun _ => none) p0 o) pa X) p0 o' = mput (mput (fun _ => none) p0 o') pa X := fun o X o' => by rw [← mput_comm n1, mput_mput]
    repeat walk_at "t3"
    refine ⟨p0, 4, o, rfl, hsr _ _, so, by decide, .inr trivial, fun r o5 r0 r1 s5 => ?_⟩
    rw [hdr]
    repeat walk_at "t3"
    refine iteB (fun _ => ?_) (fun _ => ?_)
    · repeat walk_at "t3"
      refine s_dput ?_
      repeat walk_at "t3"
      refine r3_mul (mulW (by decide) (by omega)) ?_
      repeat walk_at "t3"
      refine ⟨p0, 2 * z + 1, o5, rfl, hsr _ _, s5, by omega, .inr trivial, fun r2 o6 r20 r21 s6 => ?_⟩
      rw [hdr]
      repeat walk_at "t3"
      refine ⟨_, ⟨pa, rfl, .inr ⟨_, aK x, mput_same, rfl, ?_, rfl⟩⟩, ?_⟩
      · have := tB.len
        unfold kI tK; rw [List.length_map, List.length_map]; omega
      rw [mput_mput, putKD_tK]
      exact ⟨_, o6, _, _, tB.put htk (by omega), s6, rfl, rfl⟩
    · refine s_next ⟨tb, o5, some (aD x), some (.int n), ⟨Nat.le_succ_of_le tB.len, tB.nd, tB.b⟩, s5, rfl, rfl⟩
  rintro σ' M' ⟨tb, o5, b6, b7, tB, so5, rfl, rfl⟩
  rw [List.length_map] at tB
  have tB : TBd 17 (10 ^ 26) tb := ⟨Nat.le_trans tB.len hlen, tB.nd, tB.b⟩
  clear s1 s2 s3 s4 so r30 r31
  have hdP : (mput (mput (fun _ => none) p0 o5) pa (.dT (kI (tK tb)))) pa = some (.dT (kI (tK tb))) := mput_same
  have hsP : (mput (mput (fun _ => none) p0 o5) pa (.dT (kI (tK tb)))) p0 = some o5 := by rw [mput_ne n1]; exact mput_same
  show W3s B _ _ [some (.ref sa), some (.ref p0), some (.lst (t1.map tD)), some (.lst (t2.map tD)), some (.int z), some (.ref pa), b6, b7, none, none, none, none, none, none, none, none, none, none, none, none] _
  generalize mput (mput (fun _ => none) p0 o5) pa (.dT (kI (tK tb))) = M1 at hdP hsP ⊢
  refine s_seq (s_lockI pa (tK tb) hdP fun od => ?_)
  refine s_asg ?_
  refine w_kept (od := od) (by decide) rfl (fun _ => rfl) (fun _ => rfl) mput_same tB (by decide) ?_
  refine ⟨mput_same, ?_⟩
  rw [mput_mput, mput_self hdP]
  show W3s B _ _ [some (.ref sa), some (.ref p0), some (.lst (t1.map tD)), some (.lst (t2.map tD)), some (.int z), some (.ref pa), b6, b7, some (.lst (tb.map tD)), none, none, none, none, none, none, none, none, none, none, none] M1
  -- the forms
  repeat walk_at "t3"
  refine w_make (dds := []) (E3 := NoE) (fun _ => rfl) impE0 ?_
  repeat walk_at "t3"
  refine c3_lst .fz ?_
  repeat walk_at "t3"
  intro fa hfa
  refine mk_formT (ts := t1) (.inl .fz) (Nat.le_trans len1 (by decide)) fun La na => ?_
  have hdP2 : (mput M1 fa (fmO A0.f_Form La)) pa = some (.dT (kI (tK tb))) := by rw [mput_ne (mne hdP hfa)]; exact hdP
  have hsP2 : (mput M1 fa (fmO A0.f_Form La)) p0 = some o5 := by rw [mput_ne (mne hsP hfa)]; exact hsP
  have haP2 : (mput M1 fa (fmO A0.f_Form La)) fa = some (fmO A0.f_Form La) := mput_same
  have n2 := mne hsP hfa
  have n4 := mne hdP hfa
  generalize mput M1 fa (fmO A0.f_Form La) = M2 at hdP2 hsP2 haP2 ⊢
  clear hdP hsP hfa M1
  repeat walk_at "t3"
  refine w_make (dds := []) (E3 := NoE) (fun _ => rfl) impE0 ?_
  repeat walk_at "t3"
  refine c3_lst .fz ?_
  repeat walk_at "t3"
  intro fb hfb
  refine mk_formT (ts := t2) (.inl .fz) (Nat.le_trans len2 (by decide)) fun Lb nb => ?_
  have S0 : SK A0 p0 pa fa fb (mput M2 fb (fmO A0.f_Form Lb)) tb La Lb := ⟨⟨o5, by rw [mput_ne (mne hsP2 hfb)]; exact hsP2, so5⟩, by rw [mput_ne (mne hdP2 hfb)]; exact hdP2, by rw [mput_ne (mne haP2 hfb)]; exact haP2, mput_same, n1, n2, mne hsP2 hfb, n4, mne hdP2 hfb, mne haP2 hfb⟩
  generalize mput M2 fb (fmO A0.f_Form Lb) = M3 at S0 ⊢
  clear hdP2 hsP2 haP2 hfb so5 o5 n1 n2 n4 M2
  have Ba := B1.nf na
  have Bb := B2.nf nb
  have fwa := Ba.fw (by decide) (by decide)
  have fwb := Bb.fw (by decide) (by decide)
  have fw1 := B1.fw (by decide) (by decide)
  have fw2 := B2.fw (by decide) (by decide)
  have gb : ∀ {tb : List Tm} {n : Nat}, TBd n (10 ^ 27) tb → ∀ x, (gA tb x).natAbs < 2 ^ 300 := fun h x => Nat.lt_of_le_of_lt (h.g x) (by decide)
  have tB7 : TBd 17 (10 ^ 27) tb := ⟨tB.len, tB.nd, fun t ht => ⟨(tB.b t ht).1, Nat.le_trans (tB.b t ht).2 (by decide)⟩⟩
  have va : ∀ g, valS La g = valS t1 g := fun g => valS_nf na g
  have vb : ∀ g, valS Lb g = valS t2 g := fun g => valS_nf nb g
  repeat walk_at "t3"
  refine ⟨t1, pa, tb, rfl, S0.d, fw1, gb tB7, ?_⟩
  repeat walk_at "t3"
  refine ⟨t2, pa, tb, rfl, S0.d, fw2, gb tB7, ?_⟩
  obtain ⟨v1, hv1⟩ : ∃ v, v = valS t1 (gA tb) := ⟨_, rfl⟩
  obtain ⟨v2, hv2⟩ : ∃ v, v = valS t2 (gA tb) := ⟨_, rfl⟩
  rw [← hv1, ← hv2]
  show W3s B _ _ [some (.ref sa), some (.ref p0), some (.lst (t1.map tD)), some (.lst (t2.map tD)), some (.int z), some (.ref pa), b6, b7, some (.lst (tb.map tD)), some (.ref fa), some (.ref fb), some (.int v1), some (.int v2), none, none, none, none, none, none, none] M3
  -- four forms
  repeat walk_at "t3"
  refine s_for (i_list ?_)
  repeat walk_at "t3"
  refine w_lst ?_
  repeat walk_at "t3"
  refine w_own2 ?_
  repeat walk_at "t3"
  refine ⟨⟨_, .inr ⟨fa, rfl, S0.a⟩⟩, .inr ⟨_, .inr ⟨fb, rfl, S0.b⟩⟩, .ref fa, .ref fb, La, Lb, rfl, .own S0.a, .own S0.b, fwa, fwb, fun p1 R1 hp nR1 => ?_⟩
  have S1 := S0.new (x := fmO A0.f_Form R1) hp
  have h1 : (mput M3 p1 (fmO A0.f_Form R1)) p1 = some (fmO A0.f_Form R1) := mput_same
  generalize mput M3 p1 (fmO A0.f_Form R1) = M4 at S1 h1 ⊢
  clear S0 hp
  repeat walk_at "t3"
  refine w_own2 ?_
  refine w_own2 ?_
  refine w_own2 ?_
  repeat walk_at "t3"
  refine ⟨⟨_, .inr ⟨fa, rfl, S1.a⟩⟩, .inr ⟨_, .inr ⟨fb, rfl, S1.b⟩⟩, .ref fa, .ref fb, La, Lb, rfl, .own S1.a, .own S1.b, fwa, fwb, fun p2 R2 hp nR2 => ?_⟩
  have S2 := S1.new (x := fmO A0.f_Form R2) hp
  have h12 : (mput M4 p2 (fmO A0.f_Form R2)) p1 = some (fmO A0.f_Form R1) := by rw [mput_ne (mne h1 hp)]; exact h1
  have h2 : (mput M4 p2 (fmO A0.f_Form R2)) p2 = some (fmO A0.f_Form R2) := mput_same
  generalize mput M4 p2 (fmO A0.f_Form R2) = M5 at S2 h12 h2 ⊢
  clear S1 hp h1
  have negB : ∀ {n B : Nat} {L : List Tm}, Bd n B L → Bd n B (L.map G_neg) := fun {n B L} h => ⟨by rw [List.length_map]; exact h.len, fun t ht => by
    obtain ⟨u, hu, rfl⟩ := List.mem_map.mp ht
    show (-u.2).natAbs ≤ B
    rw [Int.natAbs_neg]; exact h.b u hu, fun t ht => by
    obtain ⟨u, hu, rfl⟩ := List.mem_map.mp ht
    exact h.k u hu⟩
  have BR2 := (Ba.app (negB Bb)).nf nR2
  repeat walk_at "t3"
  refine ⟨⟨_, .inr ⟨p2, rfl, h2⟩⟩, .inr ⟨_, .inr ⟨fb, rfl, S2.b⟩⟩, .ref p2, .ref fb, R2, Lb, rfl, .own h2, .own S2.b, BR2.fw (by decide) (by decide), fwb, fun p3 R3 hp nR3 => ?_⟩
  have S3 := S2.new (x := fmO A0.f_Form R3) hp
  have h13 : (mput M5 p3 (fmO A0.f_Form R3)) p1 = some (fmO A0.f_Form R1) := by rw [mput_ne (mne h12 hp)]; exact h12
  have h3 : (mput M5 p3 (fmO A0.f_Form R3)) p3 = some (fmO A0.f_Form R3) := mput_same
  generalize mput M5 p3 (fmO A0.f_Form R3) = M6 at S3 h13 h3 ⊢
  clear S2 hp h2 h12
  have BR3 := ((BR2.le (Nat.le_refl 16) (Nat.le_refl _)).app (negB (Bb.le (Nat.le_refl 8) (by decide : 8 * 10 ^ 30 ≤ 16 * (8 * 10 ^ 30))))).nf nR3
  repeat walk_at "t3"
  refine w_rmul ?_
  repeat walk_at "t3"
  refine ⟨⟨_, rfl⟩, ⟨_, .inr ⟨fa, rfl, S3.a⟩⟩, .ref fa, 3, La, rfl, .own S3.a, fwa, Nat.lt_of_le_of_lt (m := 3) (by decide) (by decide), fun p4 R4 hp nR4 => ?_⟩
  have S4 := S3.new (x := fmO A0.f_Form R4) hp
  have h14 : (mput M6 p4 (fmO A0.f_Form R4)) p1 = some (fmO A0.f_Form R1) := by rw [mput_ne (mne h13 hp)]; exact h13
  have h34 : (mput M6 p4 (fmO A0.f_Form R4)) p3 = some (fmO A0.f_Form R3) := by rw [mput_ne (mne h3 hp)]; exact h3
  have h4 : (mput M6 p4 (fmO A0.f_Form R4)) p4 = some (fmO A0.f_Form R4) := mput_same
  generalize mput M6 p4 (fmO A0.f_Form R4) = M7 at S4 h14 h34 h4 ⊢
  clear S3 hp h3 h13
  have BR4 : Bd 8 (8 * (8 * 10 ^ 30 * 3)) R4 := Bd.nf (ts := La.map (G_rmul 3)) ⟨by rw [List.length_map]; exact Ba.len, fun t ht => by
    obtain ⟨u, hu, rfl⟩ := List.mem_map.mp ht
    show (u.2 * 3).natAbs ≤ _
    rw [Int.natAbs_mul]
    exact Nat.mul_le_mul (Ba.b u hu) (by decide), fun t ht => by
    obtain ⟨u, hu, rfl⟩ := List.mem_map.mp ht
    exact Ba.k u hu⟩ nR4
  repeat walk_at "t3"
  refine ⟨⟨_, .inr ⟨p3, rfl, h34⟩⟩, .inr ⟨_, .inr ⟨p4, rfl, h4⟩⟩, .ref p3, .ref p4, R3, R4, rfl, .own h34, .own h4, BR3.fw (by decide) (by decide), BR4.fw (by decide) (by decide), fun p5 R5 hp nR5 => ?_⟩
  have S5 := S4.new (x := fmO A0.f_Form R5) hp
  have h15 : (mput M7 p5 (fmO A0.f_Form R5)) p1 = some (fmO A0.f_Form R1) := by rw [mput_ne (mne h14 hp)]; exact h14
  have h5 : (mput M7 p5 (fmO A0.f_Form R5)) p5 = some (fmO A0.f_Form R5) := mput_same
  generalize mput M7 p5 (fmO A0.f_Form R5) = M8 at S5 h15 h5 ⊢
  clear S4 hp h4 h14 h34
  have BR1 := (Ba.app Bb).nf nR1
  have BR5 := ((BR3.le (Nat.le_refl 24) (by decide : 24 * (16 * (8 * 10 ^ 30)) ≤ 24 * (16 * (8 * 10 ^ 30)))).app (BR4.le (Nat.le_refl 8) (by decide : 8 * (8 * 10 ^ 30 * 3) ≤ 24 * (16 * (8 * 10 ^ 30))))).nf nR5
  have e1 : ∀ g, valS R1 g = valS t1 g + valS t2 g := fun g => by rw [valS_nf nR1, valS_app, va, vb]
  have e5 : ∀ g, valS R5 g = 4 * valS t1 g - 2 * valS t2 g := fun g => by
    rw [valS_nf nR5, valS_app, valS_nf nR3, valS_app, valS_nf nR2, valS_app, valS_nf nR4, valS_neg, vb, va]
    rw [show valS (La.map (G_rmul 3)) g = valS La g * 3 from valS_map La 3 g, va]
    omega
  clear nR1 nR2 nR3 nR4 nR5 BR2 BR3 BR4
  repeat walk_at "t3"
  have vb1 : v1.natAbs < 2 ^ 400 := by
    rw [hv1]
    exact Nat.lt_of_le_of_lt (Nat.le_trans (valS_b B1.b tB.g) (Nat.mul_le_mul_right _ len1)) (by decide)
  have vb2 : v2.natAbs < 2 ^ 400 := by
    rw [hv2]
    exact Nat.lt_of_le_of_lt (Nat.le_trans (valS_b B2.b tB.g) (Nat.mul_le_mul_right _ len2)) (by decide)
  refine r3_mul (mulW (by decide) vb1) ?_
  repeat walk_at "t3"
  refine r3_mul (mulW (by decide) vb2) ?_
  repeat walk_at "t3"
  have bP : ∀ {n B : Nat} {L : List Tm}, Bd n B L → n ≤ 400 → B < 2 ^ 300 → Fw L := fun h h1 h2 => h.fw h1 h2
  refine ⟨fun i σ' M' => ∃ b13 b14 b15 : Option D, σ' = [some (.ref sa), some (.ref p0), some (.lst (t1.map tD)), some (.lst (t2.map tD)), some (.int z), some (.ref pa), b6, b7, some (.lst (tb.map tD)), some (.ref fa), some (.ref fb), some (.int v1), some (.int v2), b13, b14, b15, none, none, none, none] ∧ M8 = M', fun _ _ _ _ => trivial, ⟨none, none, none, rfl, rfl⟩, ?_, ?_⟩
  · rintro i d σ' M' hi ⟨b13, b14, b15, rfl, rfl⟩
    obtain ⟨pf, L, due, rfl, hf, fw, hv⟩ : ∃ (pf : Addr) (L : List Tm) (due : Int), d = .tup [.ref pf, .int due] ∧ M8 pf = some (fmO A0.f_Form L) ∧ Fw L ∧ valS L (gA tb) = due := by
      rcases i with _ | _ | _ | _ | i
      · cases hi; exact ⟨fa, La, v1, rfl, S5.a, fwa, by rw [va, hv1]⟩
      · cases hi; exact ⟨fb, Lb, v2, rfl, S5.b, fwb, by rw [vb, hv2]⟩
      · cases hi; exact ⟨p1, R1, v1 + v2, rfl, h15, BR1.fw (by decide) (by decide), by rw [e1, hv1, hv2]⟩
      · cases hi; exact ⟨p5, R5, _, rfl, h5, BR5.fw (by decide) (by decide), by rw [e5, hv1, hv2]⟩
      · cases hi
    repeat walk_at "t3"
    refine w_callI ?_
    repeat walk_at "t3"
    refine ⟨⟨_, hf⟩, .ref pf, pa, L, gA tb, rfl, .own hf, fw, fun t _ => gb tB7 _, .inl ⟨tb, S5.d, fun _ _ => rfl⟩, ?_⟩
    rw [hv]
    refine s_if (w_orTP (a := false) (b := false) (w_notT ?_) (fun _ => ?_) ?_)
    · repeat walk_at "t3"
      refine ⟨.int due, rfl, .inl ⟨_, rfl⟩, ?_⟩
      exact ⟨true, rfl, rfl, rfl⟩
    · repeat walk_at "t3"
      exact ne_int
    refine iteB (fun h => by cases h) (fun _ => s_next ?_)
    exact ⟨some (.ref pf), some (.int due), some (.int due), rfl, rfl⟩
  rintro σ' M' ⟨b13, b14, b15, rfl, rfl⟩
  clear h15 h5 BR1 BR5 e1 e5
  -- the dict does not change
  show W3s B _ _ [some (.ref sa), some (.ref p0), some (.lst (t1.map tD)), some (.lst (t2.map tD)), some (.int z), some (.ref pa), b6, b7, some (.lst (tb.map tD)), some (.ref fa), some (.ref fb), some (.int v1), some (.int v2), b13, b14, b15, none, none, none, none] M8
  refine s_seq ?_
  refine s_if (w_orT ?_)
  repeat walk_at "t3"
  refine w_lockI pa (tK tb) S5.d fun od => ?_
  refine w_kept (od := od) (by decide) rfl (fun _ => rfl) (fun _ => rfl) mput_same tB (by decide) ?_
  refine ⟨mput_same, ?_⟩
  rw [mput_mput, mput_self S5.d]
  repeat walk_at "t3"
  refine r3_neO (n := 3) (m := 3) .fz .fz (okDs_t _) (okDs_t _) ?_
  rw [peqs_map tD pq_tD, decide_eq_true rfl]
  refine ⟨false, rfl, ?_⟩
  refine iteB (fun h => by cases h) (fun _ => ?_)
  repeat walk_at "t3"
  refine w_callI ?_
  repeat walk_at "t3"
  refine w_dnewT fun p6 hp6 => ?_
  have S6 := S5.new (x := .dT []) hp6
  have h6 : (mput M8 p6 (.dT [])) p6 = some (.dT (kI (tK []))) := mput_same
  generalize mput M8 p6 (.dT []) = M9 at S6 h6 ⊢
  clear S5 hp6
  repeat walk_at "t3"
  refine ⟨⟨_, S6.a⟩, .ref fa, p6, La, gA [], rfl, .own S6.a, fwa, fun t _ => (show (0 : Int).natAbs < 2 ^ 300 by decide), .inl ⟨[], h6, fun _ _ => rfl⟩, ?_⟩
  rw [valS_zero (g := gA []) fun _ => rfl]
  repeat walk_at "t3"
  refine iteB (fun h => by rw [peq_int] at h; cases h) (fun _ => ?_)
  refine s_next ?_
  clear h6
  show W3s B _ _ [some (.ref sa), some (.ref p0), some (.lst (t1.map tD)), some (.lst (t2.map tD)), some (.int z), some (.ref pa), b6, b7, some (.lst (tb.map tD)), some (.ref fa), some (.ref fb), some (.int v1), some (.int v2), b13, b14, b15, none, none, none, none] M9
  -- the odd dict
  repeat walk_at "t3"
  refine w_mdisp fun po hpo => ?_
  show W3e B _ _ _ _
  repeat walk_at "t3"
  show W3e B _ _ _ _
  repeat walk_at "t3"
  show W3e B _ _ _ _
  repeat walk_at "t3"
  refine r3_pow ⟨by decide, by decide, by decide⟩ ?_
  repeat walk_at "t3"
  show W3e B _ _ _ _
  repeat walk_at "t3"
  refine ⟨mput_same, kps0, rfl, keys0, good0, Nat.le_of_ble_eq_true rfl, ?_⟩
  rw [mput_mput]
  have ok0 := oddOk0
  generalize mxDAll [] (kps0.map fun p => (p.1, p.2.2)) = xs0 at ok0 ⊢
  show W3s B _ _ [some (.ref sa), some (.ref p0), some (.lst (t1.map tD)), some (.lst (t2.map tD)), some (.int z), some (.ref pa), b6, b7, some (.lst (tb.map tD)), some (.ref fa), some (.ref fb), some (.int v1), some (.int v2), b13, b14, b15, some (.ref po), none, none, none] (mput M9 po (mxD w po xs0))
  repeat walk_at "t3"
  refine s_for (i_list ?_)
  repeat walk_at "t3"
  refine ⟨fun i σ' M' => ∃ (xs : List (L2.NK × D)) (b6 b7 : Option D), OddOk xs (tb.take i) ∧ σ' = [some (.ref sa), some (.ref p0), some (.lst (t1.map tD)), some (.lst (t2.map tD)), some (.int z), some (.ref pa), b6, b7, some (.lst (tb.map tD)), some (.ref fa), some (.ref fb), some (.int v1), some (.int v2), b13, b14, b15, some (.ref po), none, none, none] ∧ M' = mput M9 po (mxD w po xs), fun _ _ _ _ => trivial, ⟨xs0, b6, b7, ok0, rfl, rfl⟩, ?_, ?_⟩
  · rintro i d σ' M' hi ⟨xs, b6, b7, ok, rfl, rfl⟩
    obtain ⟨t, ht, rfl⟩ := map_at hi
    have htb := (tB.b t (List.mem_of_getElem? ht)).1
    have hnd := nd_take tB.nd ht
    have hlx := ok.len
    have htl := tB.len
    rw [List.length_take] at hlx
    obtain ⟨x, n⟩ := t
    repeat walk_at "t3"
    refine s_mput ?_
    repeat walk_at "t3"
    refine ⟨po, xs, nkA x, _, rfl, mput_same, rfl, keyD_aD x, by omega, ?_⟩
    rw [mput_mput]
    refine ⟨_, some (aD x), some (.int n), ?_, rfl, rfl⟩
    rw [List.take_add_one, ht]
    exact ok.snoc htb hnd
  rintro σ' M' ⟨xs, b6, b7, ok, rfl, rfl⟩
  rw [List.length_map, List.take_length] at ok
  have S7 := S6.new (x := mxD w po xs) hpo
  have ho7 : (mput M9 po (mxD w po xs)) po = some (mxD w po xs) := mput_same
  show W3s B _ _ [some (.ref sa), some (.ref p0), some (.lst (t1.map tD)), some (.lst (t2.map tD)), some (.int z), some (.ref pa), b6, b7, some (.lst (tb.map tD)), some (.ref fa), some (.ref fb), some (.int v1), some (.int v2), b13, b14, b15, some (.ref po), none, none, none] (mput M9 po (mxD w po xs))
  generalize mput M9 po (mxD w po xs) = M10 at S7 ho7 ⊢
  clear S6 hpo
  repeat walk_at "t3"
  refine w_own2 ?_
  repeat walk_at "t3"
  refine ⟨⟨_, .inr ⟨fa, rfl, S7.a⟩⟩, .inr ⟨_, .inr ⟨fb, rfl, S7.b⟩⟩, .ref fa, .ref fb, La, Lb, rfl, .own S7.a, .own S7.b, fwa, fwb, fun p7 R7 hp nR7 => ?_⟩
  have S8 := S7.new (x := fmO A0.f_Form R7) hp
  have h7 : (mput M10 p7 (fmO A0.f_Form R7)) p7 = some (fmO A0.f_Form R7) := mput_same
  have ho8 : (mput M10 p7 (fmO A0.f_Form R7)) po = some (mxD w po xs) := by rw [mput_ne (mne ho7 hp)]; exact ho7
  have BR7 := (Ba.app Bb).nf nR7
  have e7 : valS R7 (gA tb) = v1 + v2 := by rw [valS_nf nR7, valS_app, va, vb, hv1, hv2]
  show W3s B _ _ [some (.ref sa), some (.ref p0), some (.lst (t1.map tD)), some (.lst (t2.map tD)), some (.int z), some (.ref pa), b6, b7, some (.lst (tb.map tD)), some (.ref fa), some (.ref fb), some (.int v1), some (.int v2), b13, b14, b15, some (.ref po), some (.ref p7), none, none] (mput M10 p7 (fmO A0.f_Form R7))
  generalize mput M10 p7 (fmO A0.f_Form R7) = M11 at S8 h7 ho8 ⊢
  clear S7 ho7 hp nR7
  have hod : ∀ {L : List Tm}, (∀ t ∈ L, t.1.2 < 10 ^ 12) → ∀ t ∈ L, (valD xs (nkA t.1)).getD (.int 0) = .int (gA tb t.1) := fun h t ht => by
    rw [ok.v _ (h t ht)]; exact getD_int _
  refine s_seq ?_
  refine s_if (w_orTP (a := false) (b := false) ?_ (fun _ => w_orTP (a := false) (b := false) ?_ (fun _ => ?_) ⟨rfl, rfl⟩) ?_)
  · repeat walk_at "t3"
    refine w_callI ?_
    repeat walk_at "t3"
    refine ⟨⟨_, S8.a⟩, .ref fa, po, La, gA tb, rfl, .own S8.a, fwa, fun t _ => gb tB7 _, .inr ⟨xs, ho8, hod Ba.k⟩, ?_⟩
    rw [va, ← hv1]
    repeat walk_at "t3"
    exact ne_int
  · repeat walk_at "t3"
    refine w_callI ?_
    repeat walk_at "t3"
    refine ⟨⟨_, h7⟩, .ref p7, po, R7, gA tb, rfl, .own h7, BR7.fw (by decide) (by decide), fun t _ => gb tB7 _, .inr ⟨xs, ho8, hod BR7.k⟩, ?_⟩
    rw [e7]
    repeat walk_at "t3"
    exact ne_int
  · repeat walk_at "t3"
    refine c3_lenM ho8 ?_
    repeat walk_at "t3"
    rw [ok.len, List.length_map]
    refine ⟨?_, rfl⟩
    rw [peq_int]
    simp
    omega
  refine iteB (fun h => by cases h) (fun _ => s_next ?_)
  clear h7 ho8 e7 BR7 hod ok
  -- a number more
  obtain ⟨o, ho, so⟩ := S8.src
  repeat walk_at "t3"
  refine ⟨p0, o, rfl, ho, so, fun x o' hx so' => ?_⟩
  have S9 := S8.draw so'
  generalize mput M11 p0 o' = M12 at S9 ⊢
  clear S8 ho so so'
  repeat walk_at "t3"
  refine s_dput ?_
  repeat walk_at "t3"
  refine w_dget2 ?_
  repeat walk_at "t3"
  refine ⟨⟨pa, rfl, .inr ⟨_, S9.d⟩⟩, ?_⟩
  repeat walk_at "t3"
  refine ⟨_, ⟨pa, rfl, .inr ⟨_, aK x, S9.d, rfl, rfl⟩⟩, ?_⟩
  rw [valD_tK, getD_int]
  repeat walk_at "t3"
  refine ⟨_, ⟨pa, rfl, .inr ⟨_, aK x, S9.d, rfl, ?_, rfl⟩⟩, ?_⟩
  · have := tB.len
    unfold kI tK; rw [List.length_map, List.length_map]; omega
  rw [putKD_tK]
  have tC : TBd 18 (10 ^ 27) (putA tb x ((getA tb x).getD 0 + 1)) := tB7.put hx (by
    have h1 : (gA tb x).natAbs ≤ 10 ^ 26 := tB.g x
    unfold gA at h1
    omega)
  have S10 := S9.putD (tb' := putA tb x ((getA tb x).getD 0 + 1))
  generalize putA tb x ((getA tb x).getD 0 + 1) = tc at tC S10 ⊢
  show W3s B _ _ [some (.ref sa), some (.ref p0), some (.lst (t1.map tD)), some (.lst (t2.map tD)), some (.int z), some (.ref pa), some (aD x), b7, some (.lst (tb.map tD)), some (.ref fa), some (.ref fb), some (.int v1), some (.int v2), b13, b14, b15, some (.ref po), some (.ref p7), none, none] (mput M12 pa (.dT (kI (tK tc))))
  generalize mput M12 pa (.dT (kI (tK tc))) = M13 at S10 ⊢
  clear S9 hv1 hv2 vb1 vb2
  have gbc : ∀ x, (gA tc x).natAbs < 2 ^ 300 := gb tC
  refine s_seq ?_
  refine s_if ?_
  repeat walk_at "t3"
  refine w_callI ?_
  repeat walk_at "t3"
  refine ⟨⟨_, S10.a⟩, .ref fa, pa, La, gA tc, rfl, .own S10.a, fwa, fun t _ => gbc _, .inl ⟨tc, S10.d, fun _ _ => rfl⟩, ?_⟩
  rw [va]
  repeat walk_at "t3"
  refine ⟨t1, pa, tc, rfl, S10.d, fw1, gbc, ?_⟩
  repeat walk_at "t3"
  refine iteB (fun h => by rw [peq_int] at h; simp at h) (fun _ => s_next ?_)
  -- the form changed
  repeat walk_at "t3"
  refine g3_ownSub ?_
  repeat walk_at "t3"
  refine ⟨⟨_, .inr ⟨fa, rfl, S10.a⟩⟩, fa, aD x, .int 9, La, rfl, S10.a, fwa, .aD _, .inl ⟨9, rfl⟩, fun h => (by rw [isAm_aD] at h; cases h), fun _ h => (by cases h), fun a n' R ea en nR => ?_⟩
  obtain rfl := aD_inj ea
  cases en
  have S11 := S10.putF (La' := R)
  generalize mput M13 fa (fmO A0.f_Form R) = M14 at S11 ⊢
  clear S10
  have BR : Bd 9 (9 * (8 * 10 ^ 30)) R := Bd.nf (ts := (La.filter fun t => decide (t.1 ≠ x)) ++ [(x, 9)]) ⟨by rw [List.length_append]; have := List.length_filter_le (fun t : Tm => decide (t.1 ≠ x)) La; have := Ba.len; show _ + 1 ≤ _; omega, fun t ht => by
      rcases List.mem_append.mp ht with ht | ht
      · exact Ba.b t (List.mem_filter.mp ht).1
      · rw [List.mem_singleton.mp ht]; show (9 : Int).natAbs ≤ _; decide, fun t ht => by
      rcases List.mem_append.mp ht with ht | ht
      · exact Ba.k t (List.mem_filter.mp ht).1
      · rw [List.mem_singleton.mp ht]; exact hx⟩ nR
  have fw9 : Fw ((t1.filter fun t => decide (t.1 ≠ x)) ++ [(x, 9)]) := ⟨by rw [List.length_append]; have := List.length_filter_le (fun t : Tm => decide (t.1 ≠ x)) t1; show _ + 1 ≤ _; omega, fun t ht => by
      rcases List.mem_append.mp ht with ht | ht
      · exact fw1.b t (List.mem_filter.mp ht).1
      · rw [List.mem_singleton.mp ht]; show (9 : Int).natAbs < _; decide⟩
  have e9 : valS R (gA tc) = valS ((t1.filter fun t => decide (t.1 ≠ x)) ++ [(x, 9)]) (gA tc) := by rw [valS_nf nR, valS_app, valS_app, valS_filter, valS_filter, va]
  refine s_seq ?_
  refine s_if ?_
  repeat walk_at "t3"
  refine w_callI ?_
  repeat walk_at "t3"
  refine ⟨⟨_, S11.a⟩, .ref fa, pa, R, gA tc, rfl, .own S11.a, BR.fw (by decide) (by decide), fun t _ => gbc _, .inl ⟨tc, S11.d, fun _ _ => rfl⟩, ?_⟩
  rw [e9]
  repeat walk_at "t3"
  refine w_lcP (fun d => decide ((unT d).1 ≠ x)) (fun d => d) own_name (i_list ?_)
  repeat walk_at "t3"
  refine ⟨by rw [List.length_map]; omega, trivial, ?_, ?_⟩
  · intro i d' M' hi hM'
    obtain ⟨t, ht, rfl⟩ := map_at hi
    repeat walk_at "t3"
    refine ⟨rfl, ?_⟩
    repeat walk_at "t3"
    refine r3_ix_t (at3 (j := 0) (by omega) (v := aD t.1) rfl) ?_
    repeat walk_at "t3"
    refine r3_ne (n := 1) (m := 1) (okD_a _) (okD_a _) ?_
    rw [pq_aD, unT_tD]
    refine ⟨_, rfl, rfl, ?_, fun _ => ?_⟩
    · by_cases h : t.1 = x <;> simp [h]
    · repeat walk_at "t3"
      exact ⟨rfl, rfl⟩
  have el : (((t1.map tD).filter fun d => decide ((unT d).1 ≠ x)).map fun d => d) = (t1.filter fun t => decide (t.1 ≠ x)).map tD := by
    rw [List.map_id', List.filter_map]
    congr 1
    refine List.filter_congr fun t _ => ?_
    show decide ((unT (tD t)).1 ≠ x) = _
    rw [unT_tD]
  rw [el]
  repeat walk_at "t3"
  refine w_lst ?_
  repeat walk_at "t3"
  have fl9 := fw9.few
  rw [List.length_append] at fl9
  refine r3_add_ll .fz .fz (by rw [List.length_map]; have : [(x, (9 : Int))].length = 1 := rfl; show _ + 1 ≤ _; omega) ?_
  rw [show (t1.filter fun t : Tm => decide (t.1 ≠ x)).map tD ++ [D.tup [aD x, .int 9]] = ((t1.filter fun t : Tm => decide (t.1 ≠ x)) ++ [(x, 9)]).map tD by rw [List.map_append]; rfl]
  repeat walk_at "t3"
  refine ⟨_, pa, tc, rfl, S11.d, fw9, gbc, ?_⟩
  repeat walk_at "t3"
  refine iteB (fun h => ?_) (fun _ => s_next ?_)
  · rw [peq_int] at h
    simp at h

  clear e9 fl9 fw9 el BR
  -- static methods
  show W3s B _ _ [some (.ref sa), some (.ref p0), some (.lst (t1.map tD)), some (.lst (t2.map tD)), some (.int z), some (.ref pa), some (aD x), b7, some (.lst (tb.map tD)), some (.ref fa), some (.ref fb), some (.int v1), some (.int v2), b13, b14, b15, some (.ref po), some (.ref p7), none, none] M14
  obtain ⟨o, ho, so⟩ := S11.src
  obtain ⟨cells, i0, j0, k0, rfl, cl, _⟩ := id so
  repeat walk_at "t3"
  refine w_lst ?_
  repeat walk_at "t3"
  refine r3_pow ⟨by decide, by decide, by decide⟩ ?_
  repeat walk_at "t3"
  refine r3_pow ⟨by decide, by decide, by decide⟩ ?_
  repeat walk_at "t3"
  refine r3_ix_l (.ow ho) rfl ?_
  repeat walk_at "t3"
  refine c3_sum .fz ?_
  repeat walk_at "t3"
  refine ⟨p0, 2, _, rfl, ho, so, by decide, .inr trivial, fun r o2 r0 r1 s2 => ?_⟩
  have S12 := S11.draw s2
  have ho2 : (mput M14 p0 o2) p0 = some o2 := mput_same
  generalize mput M14 p0 o2 = M15 at S12 ho2 ⊢
  clear S11 ho so
  refine ix_few (xs := [10 ^ 12, 10 ^ 12 + (if cells.sum < 0 then -cells.sum else cells.sum)]) r0 r1 fun y hy => ?_
  have hy : 0 < y := by
    simp only [List.mem_cons, List.mem_nil_iff, or_false] at hy
    rcases hy with rfl | rfl
    · decide
    · split <;> omega
  repeat walk_at "t3"
  refine ⟨p0, y, o2, rfl, ho2, s2, hy, .inr trivial, fun rr o3 rr0 rr1 s3 => ?_⟩
  have S13 := S12.draw s3
  generalize mput M15 p0 o3 = M16 at S13 ⊢
  clear S12 ho2 hy
  obtain ⟨n, rfl⟩ : ∃ n : Nat, rr = n := ⟨rr.toNat, by omega⟩
  have hst : ∀ (b : Bool) {M : Mem} {Q : DQ} {E : EQ3}, (∀ p, M p = none → Q (.ref p) (mput M p (fmO A0.f_Form [((b, n), 1)]))) → S_stat A0 b [.int (n : Nat)] M Q E := fun b M Q E h =>
    ⟨.int (n : Nat), rfl, AmV.aD (b, n), fun ha => (by
      have : isAm (.tup [.str (wordB b), .int (n : Int)]) = true := isAm_aD (b, n)
      rw [ha] at this; cases this), fun m e p hp => (by
      have : n = m := by cases e; rfl
      subst this; exact h p hp)⟩
  refine s_seq ?_
  refine s_if (w_notT ?_)
  repeat walk_at "t3"
  refine w_smeth0 ?_
  repeat walk_at "t3"
  refine ⟨rfl, ?_⟩
  repeat walk_at "t3"
  refine hst false fun p hp => ?_
  have S14 := S13.new (x := fmO A0.f_Form [((false, n), 1)]) hp
  have h14 : (mput M16 p (fmO A0.f_Form [((false, n), 1)])) p = some (fmO A0.f_Form [((false, n), 1)]) := mput_same
  generalize mput M16 p (fmO A0.f_Form [((false, n), 1)]) = M17 at S14 h14 ⊢
  clear S13 hp
  repeat walk_at "t3"
  refine w_lst ?_
  repeat walk_at "t3"
  refine ⟨.ref p, [((false, n), 1)], [((false, n), 1)], rfl, .own h14, Nat.le_of_ble_eq_true rfl, Nat.le_of_ble_eq_true rfl, ?_⟩
  rw [decide_eq_true rfl]
  refine ⟨true, rfl, ?_⟩
  refine iteB (fun h => by cases h) (fun _ => s_next ?_)
  clear h14
  refine s_seq ?_
  refine s_if (w_notT ?_)
  repeat walk_at "t3"
  refine w_smeth0 ?_
  repeat walk_at "t3"
  refine ⟨rfl, ?_⟩
  repeat walk_at "t3"
  refine hst true fun pp hp => ?_
  have S15 := S14.new (x := fmO A0.f_Form [((true, n), 1)]) hp
  have h15 : (mput M17 pp (fmO A0.f_Form [((true, n), 1)])) pp = some (fmO A0.f_Form [((true, n), 1)]) := mput_same
  generalize mput M17 pp (fmO A0.f_Form [((true, n), 1)]) = M18 at S15 h15 ⊢
  clear S14 hp
  repeat walk_at "t3"
  refine w_lst ?_
  repeat walk_at "t3"
  refine ⟨.ref pp, [((true, n), 1)], [((true, n), 1)], rfl, .own h15, Nat.le_of_ble_eq_true rfl, Nat.le_of_ble_eq_true rfl, ?_⟩
  rw [decide_eq_true rfl]
  refine ⟨true, rfl, ?_⟩
  refine iteB (fun h => by cases h) (fun _ => s_next ?_)
  clear h15
  -- bad ones
  obtain ⟨o, ho, so⟩ := S15.src
  repeat walk_at "t3"
  refine w_lst ?_
  repeat walk_at "t3"
  refine ⟨p0, 6, o, rfl, ho, so, by decide, .inr trivial, fun r6 o6 r60 r61 s6 => ?_⟩
  refine ix_in (l := badsL n) r60 r61 fun d hd => ?_
  have hbt := badsL_ok (Int.natCast_nonneg n) false d hd
  have hbl := badsL_ok (Int.natCast_nonneg n) true d hd
  refine s_ret (w_andV ?_)
  repeat walk_at "t3"
  refine ⟨false, d, rfl, hbt.1, hbt.2, fun M19 _ => ?_⟩
  refine ⟨true, rfl, ?_⟩
  rw [if_pos rfl]
  repeat walk_at "t3"
  exact ⟨true, d, rfl, hbl.1, hbl.2, fun M20 _ => q _⟩
end
end LW
set_option Elab.async false
set_option linter.all false
set_option maxRecDepth 100000
set_option maxHeartbeats 4000000
namespace LW
open PySem L2 T3
open Evl (Ex)
section
theorem kit_own2 {K : PySem.W.Frag} {C D : Addr} {cd : ClassData} {b : Bool} (h1 : PySem.W.clsIn K D = some cd) (h2 : PySem.W.typeIn K (.ref D) = some (.type "type")) (h3 : PySem.W.subIn K (.ref C) (.ref D) = some b) (h4 : PySem.W.subIn K (.ref C) (.ref C) = some true) : PySem.W.kitOne K (.ref C) (.ref D) = some b := by
  unfold PySem.W.kitOne
  split
  · rename_i e
    have e : (Value.ref C) = .ref D := by simpa using e
    cases e
    rw [h4] at h3
    exact h3
  · show PySem.W.kitCls K (.ref C) (.ref D) = _
    unfold PySem.W.kitCls
    dsimp only
    rw [h1, h2]
    simpa using h3
theorem kit_tyO {K : PySem.W.Frag} {T : String} {D : Addr} {cd : ClassData} {b : Bool} (h1 : PySem.W.clsIn K D = some cd) (h2 : PySem.W.typeIn K (.ref D) = some (.type "type")) (h3 : PySem.W.subIn K (.type T) (.ref D) = some b) : PySem.W.kitOne K (.type T) (.ref D) = some b := by
  unfold PySem.W.kitOne
  split
  · rename_i e
    have e : (Value.type T) = .ref D := by simpa using e
    cases e
  · show PySem.W.kitCls K (.type T) (.ref D) = _
    unfold PySem.W.kitCls
    dsimp only
    rw [h1, h2]
    simpa using h3
theorem kit_ve {K : PySem.W.Frag} {C : Addr} (hm : PySem.W.kitMeta "ValueError" = true) (h : PySem.W.subIn K (.ref C) (.type "ValueError") = some true) : PySem.W.kitOne K (.ref C) (.type "ValueError") = some true := by
  unfold PySem.W.kitOne
  split
  · rfl
  · show PySem.W.kitCls K (.ref C) (.type "ValueError") = _
    unfold PySem.W.kitCls
    simp only [hm, if_true]
    exact h
theorem exm_own2 {K : PySem.W.Frag} {C D : Addr} {cd : ClassData} {b : Bool} (hB : PySem.W.subIn K (.ref D) (.type "BaseException") = some true) (h1 : PySem.W.clsIn K D = some cd) (h2 : PySem.W.typeIn K (.ref D) = some (.type "type")) (h3 : PySem.W.subIn K (.ref C) (.ref D) = some b) : PySem.W.exmOne K (.ref C) (.ref D) = some b := by
  unfold PySem.W.exmOne
  rw [hB]
  show (if (some true == some true) = true then PySem.W.kitCls K (.ref C) (.ref D) else none) = _
  rw [if_pos (by rfl)]
  unfold PySem.W.kitCls
  dsimp only
  rw [h1, h2]
  simpa using h3
theorem all_mk {l : PySem.W.OpenLaw} {w : World} {K : PySem.W.Frag} {h : Heap} {mg : Str → Option Value} {fa : Addr} (X : K.In h) (G : h.Ns mainGlobals mg) (hfa : mg "law" = some (.ref fa))
    {f_Form : Addr}
    {f_is_whole : Addr} {oc_is_whole kV_is_whole dc_is_whole pm_is_whole cd_is_whole ct_is_whole : Value} {od_is_whole an_is_whole : Option Addr} {sl_is_whole : Array (Option Value)}
    {f_is_amount : Addr} {oc_is_amount kV_is_amount dc_is_amount pm_is_amount cd_is_amount ct_is_amount : Value} {od_is_amount an_is_amount : Option Addr} {sl_is_amount : Array (Option Value)}
    {f_check_amount : Addr} {oc_check_amount kV_check_amount dc_check_amount pm_check_amount cd_check_amount ct_check_amount : Value} {od_check_amount an_check_amount : Option Addr} {sl_check_amount : Array (Option Value)}
    {f_check_whole : Addr} {oc_check_whole kV_check_whole dc_check_whole pm_check_whole cd_check_whole ct_check_whole : Value} {od_check_whole an_check_whole : Option Addr} {sl_check_whole : Array (Option Value)}
    {dT_check_whole : Addr} {dTc_check_whole : Value} {dTd_check_whole : Option Addr} {dTn_check_whole : Nat} {dTs_check_whole : Array (Option Value)}
    {f_place_of : Addr} {oc_place_of kV_place_of dc_place_of pm_place_of cd_place_of ct_place_of : Value} {od_place_of an_place_of : Option Addr} {sl_place_of : Array (Option Value)}
    {f_Form___init__ : Addr} {oc_Form___init__ kV_Form___init__ dc_Form___init__ pm_Form___init__ cd_Form___init__ ct_Form___init__ : Value} {od_Form___init__ an_Form___init__ : Option Addr} {sl_Form___init__ : Array (Option Value)}
    {dT_Form___init__ : Addr} {dTc_Form___init__ : Value} {dTd_Form___init__ : Option Addr} {dTn_Form___init__ : Nat} {dTs_Form___init__ : Array (Option Value)}
    {f_Form_take : Addr} {oc_Form_take kV_Form_take dc_Form_take pm_Form_take cd_Form_take ct_Form_take : Value} {od_Form_take an_Form_take : Option Addr} {sl_Form_take : Array (Option Value)}
    {p_take : Addr} {pr_take : List Value}
    {f_Form_leave : Addr} {oc_Form_leave kV_Form_leave dc_Form_leave pm_Form_leave cd_Form_leave ct_Form_leave : Value} {od_Form_leave an_Form_leave : Option Addr} {sl_Form_leave : Array (Option Value)}
    {p_leave : Addr} {pr_leave : List Value}
    {f_Form___iter__ : Addr} {oc_Form___iter__ kV_Form___iter__ dc_Form___iter__ pm_Form___iter__ cd_Form___iter__ ct_Form___iter__ : Value} {od_Form___iter__ an_Form___iter__ : Option Addr} {sl_Form___iter__ : Array (Option Value)}
    {f_Form___len__ : Addr} {oc_Form___len__ kV_Form___len__ dc_Form___len__ pm_Form___len__ cd_Form___len__ ct_Form___len__ : Value} {od_Form___len__ an_Form___len__ : Option Addr} {sl_Form___len__ : Array (Option Value)}
    {f_Form___setitem__ : Addr} {oc_Form___setitem__ kV_Form___setitem__ dc_Form___setitem__ pm_Form___setitem__ cd_Form___setitem__ ct_Form___setitem__ : Value} {od_Form___setitem__ an_Form___setitem__ : Option Addr} {sl_Form___setitem__ : Array (Option Value)}
    {f_Form___add__ : Addr} {oc_Form___add__ kV_Form___add__ dc_Form___add__ pm_Form___add__ cd_Form___add__ ct_Form___add__ : Value} {od_Form___add__ an_Form___add__ : Option Addr} {sl_Form___add__ : Array (Option Value)}
    {f_Form___sub__ : Addr} {oc_Form___sub__ kV_Form___sub__ dc_Form___sub__ pm_Form___sub__ cd_Form___sub__ ct_Form___sub__ : Value} {od_Form___sub__ an_Form___sub__ : Option Addr} {sl_Form___sub__ : Array (Option Value)}
    {f_Form___rmul__ : Addr} {oc_Form___rmul__ kV_Form___rmul__ dc_Form___rmul__ pm_Form___rmul__ cd_Form___rmul__ ct_Form___rmul__ : Value} {od_Form___rmul__ an_Form___rmul__ : Option Addr} {sl_Form___rmul__ : Array (Option Value)}
    {f_Form___call__ : Addr} {oc_Form___call__ kV_Form___call__ dc_Form___call__ pm_Form___call__ cd_Form___call__ ct_Form___call__ : Value} {od_Form___call__ an_Form___call__ : Option Addr} {sl_Form___call__ : Array (Option Value)}
    {f_lw_is_whole : Addr} {oc_lw_is_whole kV_lw_is_whole dc_lw_is_whole pm_lw_is_whole cd_lw_is_whole ct_lw_is_whole : Value} {od_lw_is_whole an_lw_is_whole : Option Addr} {sl_lw_is_whole : Array (Option Value)}
    {f_source : Addr} {oc_source kV_source dc_source pm_source cd_source ct_source : Value} {od_source an_source : Option Addr} {sl_source : Array (Option Value)}
    {f_draw : Addr} {oc_draw kV_draw dc_draw pm_draw cd_draw ct_draw : Value} {od_draw an_draw : Option Addr} {sl_draw : Array (Option Value)}
    {f_amount : Addr} {oc_amount kV_amount dc_amount pm_amount cd_amount ct_amount : Value} {od_amount an_amount : Option Addr} {sl_amount : Array (Option Value)}
    {f_terms : Addr} {oc_terms kV_terms dc_terms pm_terms cd_terms ct_terms : Value} {od_terms an_terms : Option Addr} {sl_terms : Array (Option Value)}
    {f_shows : Addr} {oc_shows kV_shows dc_shows pm_shows cd_shows ct_shows : Value} {od_shows an_shows : Option Addr} {sl_shows : Array (Option Value)}
    {f_value : Addr} {oc_value kV_value dc_value pm_value cd_value ct_value : Value} {od_value an_value : Option Addr} {sl_value : Array (Option Value)}
    {f_refused : Addr} {oc_refused kV_refused dc_refused pm_refused cd_refused ct_refused : Value} {od_refused an_refused : Option Addr} {sl_refused : Array (Option Value)}
    {f_law : Addr} {oc_law kV_law dc_law pm_law cd_law ct_law : Value} {od_law an_law : Option Addr} {sl_law : Array (Option Value)}
    {c_WORDS : Addr} {nc_WORDS : Nat} {slc_WORDS : Array (Option Value)} {tc_WORDS_0 tc_WORDS_1 : Tok}
    {c_e0 : Addr} {ode0 : Option Addr} {ne0 : Nat} {sle0 : Array (Option Value)}
    {g_mul : Addr}
    {rc__add__ : Option Value}
    {fo__add__int ro__add__int : Option Value}
    {rc__sub__ : Option Value}
    {fo__sub__int ro__sub__int : Option Value}
    {f_DyeError : Addr}
    {f_BadNumber : Addr}
    {f_BadAmount : Addr}
    {cdd_DyeError : ClassData}
    {cdd_BadNumber : ClassData}
    {cdd_BadAmount : ClassData}
    {cdd_Form : ClassData}
    {f_dyeInit : Addr} {dT cda cc : Addr} {dI oc doc pm ct ccl cl : Value} {od an cdd cld : Option Addr} {dN j : Nat} {osl ccs csl dsl : Array (Option Value)} {dcl : Value} {ddd : Option Addr} {p1 p2 p3 p4 a1 a2 a3 a4 a5 a6 q1 q2 q3 q4 : Pos} {vs : Array Value} {file : Str} {tf : Tok} {cdD : ClassData}
    {nm_BadNumber : _} {q_BadNumber : _} {N_BadNumber : _} {bs_BadNumber : _} {bm_BadNumber : _} {sn_BadNumber : _} {sub_BadNumber : _} {ab_BadNumber : _} {col_BadNumber : _} {dd_BadNumber : _} {k0_BadNumber : _} {k1_BadNumber : _} {k2_BadNumber : _} {k3_BadNumber : _} {k5_BadNumber : _}
    {nm_BadAmount : _} {q_BadAmount : _} {N_BadAmount : _} {bs_BadAmount : _} {bm_BadAmount : _} {sn_BadAmount : _} {sub_BadAmount : _} {ab_BadAmount : _} {col_BadAmount : _} {dd_BadAmount : _} {k0_BadAmount : _} {k1_BadAmount : _} {k2_BadAmount : _} {k3_BadAmount : _} {k5_BadAmount : _}
    (a_Form : PySem.W.nsIn K mainGlobals "Form" = some (some (.ref f_Form)))
    (a_is_whole : PySem.W.nsIn K mainGlobals "is_whole" = some (some (.ref f_is_whole)))
    (l_is_whole : K.lookup f_is_whole = some ⟨oc_is_whole, od_is_whole, .func (PySem.W.fnOf "is_whole" "is_whole" (defArgs s_is_whole) (defBody s_is_whole) (defScope s_is_whole) .none kV_is_whole dc_is_whole pm_is_whole an_is_whole cd_is_whole ct_is_whole), sl_is_whole⟩)
    (c_is_whole : PySem.W.codeIn K cd_is_whole "is_whole" = true)
    (k_is_whole : PySem.W.keepIn K (.ref f_is_whole) = true)
    (a_is_amount : PySem.W.nsIn K mainGlobals "is_amount" = some (some (.ref f_is_amount)))
    (l_is_amount : K.lookup f_is_amount = some ⟨oc_is_amount, od_is_amount, .func (PySem.W.fnOf "is_amount" "is_amount" (defArgs s_is_amount) (defBody s_is_amount) (defScope s_is_amount) .none kV_is_amount dc_is_amount pm_is_amount an_is_amount cd_is_amount ct_is_amount), sl_is_amount⟩)
    (c_is_amount : PySem.W.codeIn K cd_is_amount "is_amount" = true)
    (k_is_amount : PySem.W.keepIn K (.ref f_is_amount) = true)
    (a_check_amount : PySem.W.nsIn K mainGlobals "check_amount" = some (some (.ref f_check_amount)))
    (l_check_amount : K.lookup f_check_amount = some ⟨oc_check_amount, od_check_amount, .func (PySem.W.fnOf "check_amount" "check_amount" (defArgs s_check_amount) (defBody s_check_amount) (defScope s_check_amount) .none kV_check_amount dc_check_amount pm_check_amount an_check_amount cd_check_amount ct_check_amount), sl_check_amount⟩)
    (c_check_amount : PySem.W.codeIn K cd_check_amount "check_amount" = true)
    (k_check_amount : PySem.W.keepIn K (.ref f_check_amount) = true)
    (a_check_whole : PySem.W.nsIn K mainGlobals "check_whole" = some (some (.ref f_check_whole)))
    (l_check_whole : K.lookup f_check_whole = some ⟨oc_check_whole, od_check_whole, .func (PySem.W.fnOf "check_whole" "check_whole" (defArgs s_check_whole) (defBody s_check_whole) (defScope s_check_whole) (.ref dT_check_whole) kV_check_whole dc_check_whole pm_check_whole an_check_whole cd_check_whole ct_check_whole), sl_check_whole⟩)
    (lT_check_whole : K.lookup dT_check_whole = some ⟨dTc_check_whole, dTd_check_whole, .seq ([.none] : List Value).toArray dTn_check_whole, dTs_check_whole⟩)
    (c_check_whole : PySem.W.codeIn K cd_check_whole "check_whole" = true)
    (k_check_whole : PySem.W.keepIn K (.ref f_check_whole) = true)
    (a_place_of : PySem.W.nsIn K mainGlobals "place_of" = some (some (.ref f_place_of)))
    (l_place_of : K.lookup f_place_of = some ⟨oc_place_of, od_place_of, .func (PySem.W.fnOf "place_of" "place_of" (defArgs s_place_of) (defBody s_place_of) (defScope s_place_of) .none kV_place_of dc_place_of pm_place_of an_place_of cd_place_of ct_place_of), sl_place_of⟩)
    (c_place_of : PySem.W.codeIn K cd_place_of "place_of" = true)
    (k_place_of : PySem.W.keepIn K (.ref f_place_of) = true)
    (at_Form___init__ : PySem.W.findIn K (.ref f_Form) "__init__" = some (some (.ref f_Form___init__)))
    (fn_Form___init__ : PySem.W.isFn K (.ref f_Form___init__) = true)
    (l_Form___init__ : K.lookup f_Form___init__ = some ⟨oc_Form___init__, od_Form___init__, .func (PySem.W.fnOf "__init__" "Form.__init__" (defArgs s_Form___init__) (defBody s_Form___init__) (defScope s_Form___init__) (.ref dT_Form___init__) kV_Form___init__ dc_Form___init__ pm_Form___init__ an_Form___init__ cd_Form___init__ ct_Form___init__), sl_Form___init__⟩)
    (lT_Form___init__ : K.lookup dT_Form___init__ = some ⟨dTc_Form___init__, dTd_Form___init__, .seq ([.ref c_e0] : List Value).toArray dTn_Form___init__, dTs_Form___init__⟩)
    (c_Form___init__ : PySem.W.codeIn K cd_Form___init__ "Form.__init__" = true)
    (k_Form___init__ : PySem.W.keepIn K (.ref f_Form___init__) = true)
    (sat_take : PySem.W.findCls K (.ref f_Form) (.type "type") "take" = some (.get (.builtin "staticmethod.__get__") (.ref p_take) .none (.ref f_Form)))
    (src_take : PySem.W.recIn K p_take "staticmethod" = some (.ref f_Form_take :: pr_take))
    (l_Form_take : K.lookup f_Form_take = some ⟨oc_Form_take, od_Form_take, .func (PySem.W.fnOf "take" "Form.take" (defArgs s_Form_take) (defBody s_Form_take) (defScope s_Form_take) .none kV_Form_take dc_Form_take pm_Form_take an_Form_take cd_Form_take ct_Form_take), sl_Form_take⟩)
    (c_Form_take : PySem.W.codeIn K cd_Form_take "Form.take" = true)
    (k_Form_take : PySem.W.keepIn K (.ref f_Form_take) = true)
    (sat_leave : PySem.W.findCls K (.ref f_Form) (.type "type") "leave" = some (.get (.builtin "staticmethod.__get__") (.ref p_leave) .none (.ref f_Form)))
    (src_leave : PySem.W.recIn K p_leave "staticmethod" = some (.ref f_Form_leave :: pr_leave))
    (l_Form_leave : K.lookup f_Form_leave = some ⟨oc_Form_leave, od_Form_leave, .func (PySem.W.fnOf "leave" "Form.leave" (defArgs s_Form_leave) (defBody s_Form_leave) (defScope s_Form_leave) .none kV_Form_leave dc_Form_leave pm_Form_leave an_Form_leave cd_Form_leave ct_Form_leave), sl_Form_leave⟩)
    (c_Form_leave : PySem.W.codeIn K cd_Form_leave "Form.leave" = true)
    (k_Form_leave : PySem.W.keepIn K (.ref f_Form_leave) = true)
    (at_Form___iter__ : PySem.W.findIn K (.ref f_Form) "__iter__" = some (some (.ref f_Form___iter__)))
    (fn_Form___iter__ : PySem.W.isFn K (.ref f_Form___iter__) = true)
    (l_Form___iter__ : K.lookup f_Form___iter__ = some ⟨oc_Form___iter__, od_Form___iter__, .func (PySem.W.fnOf "__iter__" "Form.__iter__" (defArgs s_Form___iter__) (defBody s_Form___iter__) (defScope s_Form___iter__) .none kV_Form___iter__ dc_Form___iter__ pm_Form___iter__ an_Form___iter__ cd_Form___iter__ ct_Form___iter__), sl_Form___iter__⟩)
    (c_Form___iter__ : PySem.W.codeIn K cd_Form___iter__ "Form.__iter__" = true)
    (k_Form___iter__ : PySem.W.keepIn K (.ref f_Form___iter__) = true)
    (at_Form___len__ : PySem.W.findIn K (.ref f_Form) "__len__" = some (some (.ref f_Form___len__)))
    (fn_Form___len__ : PySem.W.isFn K (.ref f_Form___len__) = true)
    (l_Form___len__ : K.lookup f_Form___len__ = some ⟨oc_Form___len__, od_Form___len__, .func (PySem.W.fnOf "__len__" "Form.__len__" (defArgs s_Form___len__) (defBody s_Form___len__) (defScope s_Form___len__) .none kV_Form___len__ dc_Form___len__ pm_Form___len__ an_Form___len__ cd_Form___len__ ct_Form___len__), sl_Form___len__⟩)
    (c_Form___len__ : PySem.W.codeIn K cd_Form___len__ "Form.__len__" = true)
    (k_Form___len__ : PySem.W.keepIn K (.ref f_Form___len__) = true)
    (at_Form___setitem__ : PySem.W.findIn K (.ref f_Form) "__setitem__" = some (some (.ref f_Form___setitem__)))
    (fn_Form___setitem__ : PySem.W.isFn K (.ref f_Form___setitem__) = true)
    (l_Form___setitem__ : K.lookup f_Form___setitem__ = some ⟨oc_Form___setitem__, od_Form___setitem__, .func (PySem.W.fnOf "__setitem__" "Form.__setitem__" (defArgs s_Form___setitem__) (defBody s_Form___setitem__) (defScope s_Form___setitem__) .none kV_Form___setitem__ dc_Form___setitem__ pm_Form___setitem__ an_Form___setitem__ cd_Form___setitem__ ct_Form___setitem__), sl_Form___setitem__⟩)
    (c_Form___setitem__ : PySem.W.codeIn K cd_Form___setitem__ "Form.__setitem__" = true)
    (k_Form___setitem__ : PySem.W.keepIn K (.ref f_Form___setitem__) = true)
    (at_Form___add__ : PySem.W.findIn K (.ref f_Form) "__add__" = some (some (.ref f_Form___add__)))
    (fn_Form___add__ : PySem.W.isFn K (.ref f_Form___add__) = true)
    (l_Form___add__ : K.lookup f_Form___add__ = some ⟨oc_Form___add__, od_Form___add__, .func (PySem.W.fnOf "__add__" "Form.__add__" (defArgs s_Form___add__) (defBody s_Form___add__) (defScope s_Form___add__) .none kV_Form___add__ dc_Form___add__ pm_Form___add__ an_Form___add__ cd_Form___add__ ct_Form___add__), sl_Form___add__⟩)
    (c_Form___add__ : PySem.W.codeIn K cd_Form___add__ "Form.__add__" = true)
    (k_Form___add__ : PySem.W.keepIn K (.ref f_Form___add__) = true)
    (at_Form___sub__ : PySem.W.findIn K (.ref f_Form) "__sub__" = some (some (.ref f_Form___sub__)))
    (fn_Form___sub__ : PySem.W.isFn K (.ref f_Form___sub__) = true)
    (l_Form___sub__ : K.lookup f_Form___sub__ = some ⟨oc_Form___sub__, od_Form___sub__, .func (PySem.W.fnOf "__sub__" "Form.__sub__" (defArgs s_Form___sub__) (defBody s_Form___sub__) (defScope s_Form___sub__) .none kV_Form___sub__ dc_Form___sub__ pm_Form___sub__ an_Form___sub__ cd_Form___sub__ ct_Form___sub__), sl_Form___sub__⟩)
    (c_Form___sub__ : PySem.W.codeIn K cd_Form___sub__ "Form.__sub__" = true)
    (k_Form___sub__ : PySem.W.keepIn K (.ref f_Form___sub__) = true)
    (at_Form___rmul__ : PySem.W.findIn K (.ref f_Form) "__rmul__" = some (some (.ref f_Form___rmul__)))
    (fn_Form___rmul__ : PySem.W.isFn K (.ref f_Form___rmul__) = true)
    (l_Form___rmul__ : K.lookup f_Form___rmul__ = some ⟨oc_Form___rmul__, od_Form___rmul__, .func (PySem.W.fnOf "__rmul__" "Form.__rmul__" (defArgs s_Form___rmul__) (defBody s_Form___rmul__) (defScope s_Form___rmul__) .none kV_Form___rmul__ dc_Form___rmul__ pm_Form___rmul__ an_Form___rmul__ cd_Form___rmul__ ct_Form___rmul__), sl_Form___rmul__⟩)
    (c_Form___rmul__ : PySem.W.codeIn K cd_Form___rmul__ "Form.__rmul__" = true)
    (k_Form___rmul__ : PySem.W.keepIn K (.ref f_Form___rmul__) = true)
    (at_Form___call__ : PySem.W.findIn K (.ref f_Form) "__call__" = some (some (.ref f_Form___call__)))
    (fn_Form___call__ : PySem.W.isFn K (.ref f_Form___call__) = true)
    (l_Form___call__ : K.lookup f_Form___call__ = some ⟨oc_Form___call__, od_Form___call__, .func (PySem.W.fnOf "__call__" "Form.__call__" (defArgs s_Form___call__) (defBody s_Form___call__) (defScope s_Form___call__) .none kV_Form___call__ dc_Form___call__ pm_Form___call__ an_Form___call__ cd_Form___call__ ct_Form___call__), sl_Form___call__⟩)
    (c_Form___call__ : PySem.W.codeIn K cd_Form___call__ "Form.__call__" = true)
    (k_Form___call__ : PySem.W.keepIn K (.ref f_Form___call__) = true)
    (a_lw_is_whole : PySem.W.nsIn K mainGlobals "_law_is_whole" = some (some (.ref f_lw_is_whole)))
    (l_lw_is_whole : K.lookup f_lw_is_whole = some ⟨oc_lw_is_whole, od_lw_is_whole, .func (PySem.W.fnOf "_law_is_whole" "_law_is_whole" (defArgs s_lw_is_whole) (defBody s_lw_is_whole) (defScope s_lw_is_whole) .none kV_lw_is_whole dc_lw_is_whole pm_lw_is_whole an_lw_is_whole cd_lw_is_whole ct_lw_is_whole), sl_lw_is_whole⟩)
    (c_lw_is_whole : PySem.W.codeIn K cd_lw_is_whole "_law_is_whole" = true)
    (k_lw_is_whole : PySem.W.keepIn K (.ref f_lw_is_whole) = true)
    (a_source : PySem.W.nsIn K mainGlobals "_law_source" = some (some (.ref f_source)))
    (l_source : K.lookup f_source = some ⟨oc_source, od_source, .func (PySem.W.fnOf "_law_source" "_law_source" (defArgs s_source) (defBody s_source) (defScope s_source) .none kV_source dc_source pm_source an_source cd_source ct_source), sl_source⟩)
    (c_source : PySem.W.codeIn K cd_source "_law_source" = true)
    (k_source : PySem.W.keepIn K (.ref f_source) = true)
    (a_draw : PySem.W.nsIn K mainGlobals "_law_draw" = some (some (.ref f_draw)))
    (l_draw : K.lookup f_draw = some ⟨oc_draw, od_draw, .func (PySem.W.fnOf "_law_draw" "_law_draw" (defArgs s_draw) (defBody s_draw) (defScope s_draw) .none kV_draw dc_draw pm_draw an_draw cd_draw ct_draw), sl_draw⟩)
    (c_draw : PySem.W.codeIn K cd_draw "_law_draw" = true)
    (k_draw : PySem.W.keepIn K (.ref f_draw) = true)
    (a_amount : PySem.W.nsIn K mainGlobals "_law_amount" = some (some (.ref f_amount)))
    (l_amount : K.lookup f_amount = some ⟨oc_amount, od_amount, .func (PySem.W.fnOf "_law_amount" "_law_amount" (defArgs s_amount) (defBody s_amount) (defScope s_amount) .none kV_amount dc_amount pm_amount an_amount cd_amount ct_amount), sl_amount⟩)
    (c_amount : PySem.W.codeIn K cd_amount "_law_amount" = true)
    (k_amount : PySem.W.keepIn K (.ref f_amount) = true)
    (a_terms : PySem.W.nsIn K mainGlobals "_law_terms" = some (some (.ref f_terms)))
    (l_terms : K.lookup f_terms = some ⟨oc_terms, od_terms, .func (PySem.W.fnOf "_law_terms" "_law_terms" (defArgs s_terms) (defBody s_terms) (defScope s_terms) .none kV_terms dc_terms pm_terms an_terms cd_terms ct_terms), sl_terms⟩)
    (c_terms : PySem.W.codeIn K cd_terms "_law_terms" = true)
    (k_terms : PySem.W.keepIn K (.ref f_terms) = true)
    (a_shows : PySem.W.nsIn K mainGlobals "_law_shows" = some (some (.ref f_shows)))
    (l_shows : K.lookup f_shows = some ⟨oc_shows, od_shows, .func (PySem.W.fnOf "_law_shows" "_law_shows" (defArgs s_shows) (defBody s_shows) (defScope s_shows) .none kV_shows dc_shows pm_shows an_shows cd_shows ct_shows), sl_shows⟩)
    (c_shows : PySem.W.codeIn K cd_shows "_law_shows" = true)
    (k_shows : PySem.W.keepIn K (.ref f_shows) = true)
    (a_value : PySem.W.nsIn K mainGlobals "_law_value" = some (some (.ref f_value)))
    (l_value : K.lookup f_value = some ⟨oc_value, od_value, .func (PySem.W.fnOf "_law_value" "_law_value" (defArgs s_value) (defBody s_value) (defScope s_value) .none kV_value dc_value pm_value an_value cd_value ct_value), sl_value⟩)
    (c_value : PySem.W.codeIn K cd_value "_law_value" = true)
    (k_value : PySem.W.keepIn K (.ref f_value) = true)
    (a_refused : PySem.W.nsIn K mainGlobals "_law_refused" = some (some (.ref f_refused)))
    (l_refused : K.lookup f_refused = some ⟨oc_refused, od_refused, .func (PySem.W.fnOf "_law_refused" "_law_refused" (defArgs s_refused) (defBody s_refused) (defScope s_refused) .none kV_refused dc_refused pm_refused an_refused cd_refused ct_refused), sl_refused⟩)
    (c_refused : PySem.W.codeIn K cd_refused "_law_refused" = true)
    (k_refused : PySem.W.keepIn K (.ref f_refused) = true)
    (a_law : PySem.W.nsIn K mainGlobals "law" = some (some (.ref f_law)))
    (l_law : K.lookup f_law = some ⟨oc_law, od_law, .func (PySem.W.fnOf "law" "law" (defArgs s_law) (defBody s_law) (defScope s_law) .none kV_law dc_law pm_law an_law cd_law ct_law), sl_law⟩)
    (c_law : PySem.W.codeIn K cd_law "law" = true)
    (k_law : PySem.W.keepIn K (.ref f_law) = true)
    (pg_Form : PySem.W.plainGet K f_Form Str.empty = true)
    (hdc_Form : PySem.W.hasDictIn K f_Form = true)
    (po_Form : PySem.W.plainOver K f_Form = true)
    (sac_Form : PySem.W.findIn K (.ref f_Form) "__setattr__" = some (some (.builtin "object.__setattr__")))
    (mks_Form : PySem.W.makesIn K f_Form = true)
    (kc_Form : PySem.W.keepIn K (.ref f_Form) = true)
    (ac_WORDS : PySem.W.nsIn K mainGlobals "WORDS" = some (some (.ref c_WORDS)))
    (lc_WORDS : K.lookup c_WORDS = some ⟨.type "tuple", none, .seq ([.str "take" tc_WORDS_0, .str "leave" tc_WORDS_1] : List Value).toArray nc_WORDS, slc_WORDS⟩)
    (na_terms : PySem.W.findIn K (.ref f_Form) "terms" = some none)
    (le0_ : K.lookup c_e0 = some ⟨.type "tuple", ode0, .seq ([] : List Value).toArray ne0, sle0⟩)
    (ns_Form : PySem.W.noSeq K f_Form = true)
    (sf_Form : PySem.W.selfFirst K f_Form = true)
    (sFF : PySem.W.subIn K (.ref f_Form) (.ref f_Form) = some true)
    (hacF : PySem.W.findIn K (.ref f_Form) "__class__" = some (some (.builtin "object.__class__")))
    (hmoF : PySem.W.mroIn K f_Form (.type "object") = some true)
    (suI_ : PySem.W.subIn K (.ref f_Form) (.type "int") = some false)
    (gt_ : l.prog.given.tree = none)
    (rdh_Form : PySem.W.readsIn K f_Form (.type "type") = true)
    (gah_Form : PySem.W.specialIn K (.ref f_Form) "__getattribute__" = some (some (.builtin "type.__getattribute__")))
    (fi_call : PySem.W.fnIn K f_Form___call__ = true)
    (at_mul_ : PySem.W.findIn K (.ref f_Form) "__mul__" = some (some (.ref g_mul)))
    (oa__add__ : PySem.W.findIn K (.ref f_Form) (PySem.dunder (Operator.info .Add).2) = some (some (.ref f_Form___add__)))
    (or__add__ : PySem.W.findIn K (.ref f_Form) (dunderR (Operator.info .Add).2) = some rc__add__)
    (op__add__ : rc__add__ = none ∨ ∃ g : Addr, rc__add__ = some (.ref g))
    (ofo__add__int : PySem.W.findIn K (.type "int") (PySem.dunder (Operator.info .Add).2) = some fo__add__int)
    (oro__add__int : PySem.W.findIn K (.type "int") (dunderR (Operator.info .Add).2) = some ro__add__int)
    (osu__add__int : PySem.W.subIn K (.type "int") (.ref f_Form) = some false)
    (oa__sub__ : PySem.W.findIn K (.ref f_Form) (PySem.dunder (Operator.info .Sub).2) = some (some (.ref f_Form___sub__)))
    (or__sub__ : PySem.W.findIn K (.ref f_Form) (dunderR (Operator.info .Sub).2) = some rc__sub__)
    (op__sub__ : rc__sub__ = none ∨ ∃ g : Addr, rc__sub__ = some (.ref g))
    (ofo__sub__int : PySem.W.findIn K (.type "int") (PySem.dunder (Operator.info .Sub).2) = some fo__sub__int)
    (oro__sub__int : PySem.W.findIn K (.type "int") (dunderR (Operator.info .Sub).2) = some ro__sub__int)
    (osu__sub__int : PySem.W.subIn K (.type "int") (.ref f_Form) = some false)
    (a_DyeError : PySem.W.nsIn K mainGlobals "DyeError" = some (some (.ref f_DyeError)))
    (a_BadNumber : PySem.W.nsIn K mainGlobals "BadNumber" = some (some (.ref f_BadNumber)))
    (a_BadAmount : PySem.W.nsIn K mainGlobals "BadAmount" = some (some (.ref f_BadAmount)))
    (n_isinstance : PySem.W.nsIn K mainGlobals "isinstance" = some none)
    (n_int : PySem.W.nsIn K mainGlobals "int" = some none)
    (n_bool : PySem.W.nsIn K mainGlobals "bool" = some none)
    (n_tuple : PySem.W.nsIn K mainGlobals "tuple" = some none)
    (n_len : PySem.W.nsIn K mainGlobals "len" = some none)
    (n_sorted : PySem.W.nsIn K mainGlobals "sorted" = some none)
    (n_list : PySem.W.nsIn K mainGlobals "list" = some none)
    (n_iter : PySem.W.nsIn K mainGlobals "iter" = some none)
    (n_sum : PySem.W.nsIn K mainGlobals "sum" = some none)
    (n_abs : PySem.W.nsIn K mainGlobals "abs" = some none)
    (n_range : PySem.W.nsIn K mainGlobals "range" = some none)
    (n_str : PySem.W.nsIn K mainGlobals "str" = some none)
    (i_DyeError : PySem.W.clsIn K f_DyeError = some cdd_DyeError)
    (t_DyeError : PySem.W.typeIn K (.ref f_DyeError) = some (.type "type"))
    (i_BadNumber : PySem.W.clsIn K f_BadNumber = some cdd_BadNumber)
    (t_BadNumber : PySem.W.typeIn K (.ref f_BadNumber) = some (.type "type"))
    (i_BadAmount : PySem.W.clsIn K f_BadAmount = some cdd_BadAmount)
    (t_BadAmount : PySem.W.typeIn K (.ref f_BadAmount) = some (.type "type"))
    (i_Form : PySem.W.clsIn K f_Form = some cdd_Form)
    (t_Form : PySem.W.typeIn K (.ref f_Form) = some (.type "type"))
    (hn_ : PySem.W.specialIn K (.builtin "object.__class__") "__get__" = some (some (.builtin "getset_descriptor.__get__")))
    (ht_ : PySem.W.takesIn K (.builtin "object.__class__") = some true)
    (s_BadAmount_DyeError : PySem.W.subIn K (.ref f_BadAmount) (.ref f_DyeError) = some true)
    (s_BadAmount_BadNumber : PySem.W.subIn K (.ref f_BadAmount) (.ref f_BadNumber) = some false)
    (s_BadAmount_BadAmount : PySem.W.subIn K (.ref f_BadAmount) (.ref f_BadAmount) = some true)
    (s_BadAmount_Form : PySem.W.subIn K (.ref f_BadAmount) (.ref f_Form) = some false)
    (ga_BadAmount : PySem.W.findIn K (.ref f_BadAmount) "__getattribute__" = some (some (.builtin "BaseException.__getattribute__")))
    (gg_BadAmount : PySem.W.findIn K (.ref f_BadAmount) "__getattr__" = some none)
    (hac_BadAmount : PySem.W.findIn K (.ref f_BadAmount) "__class__" = some (some (.builtin "object.__class__")))
    (hmo_BadAmount : PySem.W.mroIn K f_BadAmount (.type "object") = some true)
    (hd_BadAmount : PySem.W.hasDictIn K f_BadAmount = true)
    (bE_DyeError : PySem.W.subIn K (.ref f_DyeError) (.type "BaseException") = some true)
    (ho_ : PySem.W.nsIn K cStatics "thirdparty.any" = some none)
    (hsup_ : PySem.W.nsIn K mainGlobals "super" = some none)
    (htop_ : (l.prog.main.scope.names.lookup ("super" : Str)).isSome = false)
    (lo_BadNumber : List.lookup f_BadNumber K = some (PySem.excClassObj nm_BadNumber q_BadNumber f_BadNumber N_BadNumber bs_BadNumber bm_BadNumber true sn_BadNumber sub_BadNumber ab_BadNumber col_BadNumber dd_BadNumber k0_BadNumber k1_BadNumber k2_BadNumber k3_BadNumber k5_BadNumber "ValueError.__new__"))
    (re_BadNumber : PySem.HandSPX.refsVE bm_BadNumber = true)
    (sa_BadNumber : PySem.W.findIn K (.ref f_BadNumber) "__setattr__" = some (some (.builtin "object.__setattr__")))
    (no_BadNumber : PySem.W.findIn K (.ref f_BadNumber) "thing" = some none)
    (ii_BadNumber : PySem.W.findIn K (.ref f_BadNumber) "__init__" = some (some (.ref f_dyeInit)))
    (kk_BadNumber : PySem.W.keepIn K (.ref f_BadNumber) = true)
    (bE_BadNumber : PySem.W.subIn K (.ref f_BadNumber) (.type "BaseException") = some true)
    (ty_BadNumber : PySem.W.typeIn K (.ref f_BadNumber) = some (.type "type"))
    (xi_BadNumber : PySem.W.excInitIn K f_BadNumber PySem.HandSPX.veTail "ValueError.__new__" = true)
    (su_BadNumber : PySem.W.ks_superIn K f_BadNumber f_DyeError "__init__" = some (some (.builtin "ValueError.__init__")))
    (vE_BadNumber : PySem.W.subIn K (.ref f_BadNumber) (.type "ValueError") = some true)
    (mr_BadNumber : PySem.W.mroIn K f_BadNumber (.ref f_DyeError) = some true)
    (lo_BadAmount : List.lookup f_BadAmount K = some (PySem.excClassObj nm_BadAmount q_BadAmount f_BadAmount N_BadAmount bs_BadAmount bm_BadAmount true sn_BadAmount sub_BadAmount ab_BadAmount col_BadAmount dd_BadAmount k0_BadAmount k1_BadAmount k2_BadAmount k3_BadAmount k5_BadAmount "ValueError.__new__"))
    (re_BadAmount : PySem.HandSPX.refsVE bm_BadAmount = true)
    (sa_BadAmount : PySem.W.findIn K (.ref f_BadAmount) "__setattr__" = some (some (.builtin "object.__setattr__")))
    (no_BadAmount : PySem.W.findIn K (.ref f_BadAmount) "thing" = some none)
    (ii_BadAmount : PySem.W.findIn K (.ref f_BadAmount) "__init__" = some (some (.ref f_dyeInit)))
    (kk_BadAmount : PySem.W.keepIn K (.ref f_BadAmount) = true)
    (bE_BadAmount : PySem.W.subIn K (.ref f_BadAmount) (.type "BaseException") = some true)
    (ty_BadAmount : PySem.W.typeIn K (.ref f_BadAmount) = some (.type "type"))
    (xi_BadAmount : PySem.W.excInitIn K f_BadAmount PySem.HandSPX.veTail "ValueError.__new__" = true)
    (su_BadAmount : PySem.W.ks_superIn K f_BadAmount f_DyeError "__init__" = some (some (.builtin "ValueError.__init__")))
    (vE_BadAmount : PySem.W.subIn K (.ref f_BadAmount) (.type "ValueError") = some true)
    (mr_BadAmount : PySem.W.mroIn K f_BadAmount (.ref f_DyeError) = some true)
    (tI_ : PySem.W.typeIn K (.ref f_dyeInit) = some (.type "function"))
    (lI_ : K.lookup f_dyeInit = some ⟨oc, od, .func (PySem.W.ksFn "__init__" "DyeError.__init__" (PySem.DyeX.iA p1 p2 p3 p4 j) (PySem.DyeX.iB a1 a2 a3 a4 a5 a6 q1 q2 q3 q4) PySem.DyeX.iS (.ref dT) .none doc pm an (.ref cda) ct cc), osl⟩)
    (line_ : (a3.endLine == a5.line) = true)
    (lD_ : K.lookup dT = some ⟨dcl, ddd, .seq #[dI] dN, dsl⟩)
    (cI_ : PySem.W.codeIn K (.ref cda) "DyeError.__init__" = true)
    (lC_ : K.lookup cda = some ⟨ccl, cdd, .fields vs, ccs⟩)
    (vf_ : vs[2]? = some (.str file tf))
    (fi_ : ((l.prog.main.file : Str) == file) = true)
    (lc_ : K.lookup cc = some ⟨cl, cld, .cell (some (.ref f_DyeError)), csl⟩)
    (cD_ : PySem.W.clsIn K f_DyeError = some cdD) :
    ∃ fd : FuncData, (∀ (s : Shared) (v : Value), BindsTo s fd ⟨[v], []⟩ [("_law_script", v)]) ∧ ∀ base : Heap, K.In base → base.Ns mainGlobals mg → base.NoSeer → FnOk l.prog w K mg base CX0 45 fa fd ["_law_script"] (lift3B (S_law K)) := by
  have e := hfa.symm.trans (PySem.W.mg_of X G a_law)
  obtain rfl : f_law = fa := by cases e; rfl
  have F_is_whole := fun_mk (st := s_is_whole) l_is_whole c_is_whole k_is_whole
  have F_is_amount := fun_mk (st := s_is_amount) l_is_amount c_is_amount k_is_amount
  have F_check_amount := fun_mk (st := s_check_amount) l_check_amount c_check_amount k_check_amount
  have F_check_whole : FunD K "check_whole" "check_whole" (defArgs s_check_whole) (defBody s_check_whole) (defScope s_check_whole) [.non] [] f_check_whole (PySem.W.fnOf "check_whole" "check_whole" (defArgs s_check_whole) (defBody s_check_whole) (defScope s_check_whole) (.ref dT_check_whole) kV_check_whole dc_check_whole pm_check_whole an_check_whole cd_check_whole ct_check_whole) := ⟨⟨_, _, _, _, _, _, _, _, _, _, rfl, l_check_whole, c_check_whole, .inr ⟨List.cons_ne_nil _ _, _, _, _, _, rfl, lT_check_whole, rfl, (.cons (show RelV .non .none from rfl) .nil)⟩, .inl rfl⟩, k_check_whole⟩
  have F_place_of := fun_mk (st := s_place_of) l_place_of c_place_of k_place_of
  have F_Form___init__ : FunD K "__init__" "Form.__init__" (defArgs s_Form___init__) (defBody s_Form___init__) (defScope s_Form___init__) [.ref c_e0] [] f_Form___init__ (PySem.W.fnOf "__init__" "Form.__init__" (defArgs s_Form___init__) (defBody s_Form___init__) (defScope s_Form___init__) (.ref dT_Form___init__) kV_Form___init__ dc_Form___init__ pm_Form___init__ an_Form___init__ cd_Form___init__ ct_Form___init__) := ⟨⟨_, _, _, _, _, _, _, _, _, _, rfl, l_Form___init__, c_Form___init__, .inr ⟨List.cons_ne_nil _ _, _, _, _, _, rfl, lT_Form___init__, rfl, (.cons (show RelV (.ref c_e0) (.ref c_e0) from rfl) .nil)⟩, .inl rfl⟩, k_Form___init__⟩
  have F_Form_take := fun_mk (st := s_Form_take) l_Form_take c_Form_take k_Form_take
  have F_Form_leave := fun_mk (st := s_Form_leave) l_Form_leave c_Form_leave k_Form_leave
  have F_Form___iter__ := fun_mk (st := s_Form___iter__) l_Form___iter__ c_Form___iter__ k_Form___iter__
  have F_Form___len__ := fun_mk (st := s_Form___len__) l_Form___len__ c_Form___len__ k_Form___len__
  have F_Form___setitem__ := fun_mk (st := s_Form___setitem__) l_Form___setitem__ c_Form___setitem__ k_Form___setitem__
  have F_Form___add__ := fun_mk (st := s_Form___add__) l_Form___add__ c_Form___add__ k_Form___add__
  have F_Form___sub__ := fun_mk (st := s_Form___sub__) l_Form___sub__ c_Form___sub__ k_Form___sub__
  have F_Form___rmul__ := fun_mk (st := s_Form___rmul__) l_Form___rmul__ c_Form___rmul__ k_Form___rmul__
  have F_Form___call__ := fun_mk (st := s_Form___call__) l_Form___call__ c_Form___call__ k_Form___call__
  have F_lw_is_whole := fun_mk (st := s_lw_is_whole) l_lw_is_whole c_lw_is_whole k_lw_is_whole
  have F_source := fun_mk (st := s_source) l_source c_source k_source
  have F_draw := fun_mk (st := s_draw) l_draw c_draw k_draw
  have F_amount := fun_mk (st := s_amount) l_amount c_amount k_amount
  have F_terms := fun_mk (st := s_terms) l_terms c_terms k_terms
  have F_shows := fun_mk (st := s_shows) l_shows c_shows k_shows
  have F_value := fun_mk (st := s_value) l_value c_value k_value
  have F_refused := fun_mk (st := s_refused) l_refused c_refused k_refused
  have F_law := fun_mk (st := s_law) l_law c_law k_law
  have b_is_whole := F_is_whole.binds (ps := ["value"]) fun _ _ _ _ _ _ us hl => match us, hl with | [_], _ => rfl
  have b_is_amount := F_is_amount.binds (ps := ["value"]) fun _ _ _ _ _ _ us hl => match us, hl with | [_], _ => rfl
  have b_check_amount := F_check_amount.binds (ps := ["amount"]) fun _ _ _ _ _ _ us hl => match us, hl with | [_], _ => rfl
  obtain ⟨ds_check_whole_1, rv_check_whole_1, b_check_whole_1⟩ := F_check_whole.binds1 (ps := ["number", "least"]) 1 0 (List.cons_ne_nil _ _) rfl fun _ _ _ _ _ _ _ us its hl hl2 => match us, its, hl, hl2 with | [_], [_], _, _ => ⟨_, rfl, rfl⟩
  obtain ⟨z_, zs_, rfl, rz_, rzs_⟩ : ∃ z zs, ds_check_whole_1 = z :: zs ∧ RelV .non z ∧ Vals [] zs := by cases rv_check_whole_1 with | cons a b => exact ⟨_, _, rfl, a, b⟩
  cases rzs_
  obtain rfl : z_ = .none := rz_
  have b_place_of := F_place_of.binds (ps := ["amount"]) fun _ _ _ _ _ _ us hl => match us, hl with | [_], _ => rfl
  obtain ⟨ds0_Form___init__, rv0_Form___init__, b_Form___init__⟩ := F_Form___init__.binds1 (ps := ["self", "terms"]) 2 1 (List.cons_ne_nil _ _) rfl fun _ _ _ _ _ _ _ us its hl hl2 => match us, its, hl, hl2 with | [_, _], [_], _, _ => ⟨_, rfl, rfl⟩
  cases rv0_Form___init__
  have b_draw := F_draw.binds (ps := ["_law_source_here", "_law_many"]) fun _ _ _ _ _ _ us hl => match us, hl with | [_, _], _ => rfl
  have b_amount := F_amount.binds (ps := ["_law_source_here"]) fun _ _ _ _ _ _ us hl => match us, hl with | [_], _ => rfl
  have b_Form___len__ := F_Form___len__.binds (ps := ["self"]) fun _ _ _ _ _ _ us hl => match us, hl with | [_], _ => rfl
  have b_Form___iter__ := F_Form___iter__.binds (ps := ["self"]) fun _ _ _ _ _ _ us hl => match us, hl with | [_], _ => rfl
  have b_lw_is_whole := F_lw_is_whole.binds (ps := ["_law_value_here"]) fun _ _ _ _ _ _ us hl => match us, hl with | [_], _ => rfl
  have b_Form_take := F_Form_take.binds (ps := ["number"]) fun _ _ _ _ _ _ us hl => match us, hl with | [_], _ => rfl
  have b_Form_leave := F_Form_leave.binds (ps := ["number"]) fun _ _ _ _ _ _ us hl => match us, hl with | [_], _ => rfl
  have b_source := F_source.binds (ps := ["_law_script"]) fun _ _ _ _ _ _ us hl => match us, hl with | [_], _ => rfl
  have b_terms := F_terms.binds (ps := ["_law_source_here", "_law_most"]) fun _ _ _ _ _ _ us hl => match us, hl with | [_, _], _ => rfl
  have b_value := F_value.binds (ps := ["_law_terms_here", "_law_amounts"]) fun _ _ _ _ _ _ us hl => match us, hl with | [_, _], _ => rfl
  have b_Form___add__ := F_Form___add__.binds (ps := ["self", "other"]) fun _ _ _ _ _ _ us hl => match us, hl with | [_, _], _ => rfl
  have b_Form___sub__ := F_Form___sub__.binds (ps := ["self", "other"]) fun _ _ _ _ _ _ us hl => match us, hl with | [_, _], _ => rfl
  have b_Form___rmul__ := F_Form___rmul__.binds (ps := ["self", "times"]) fun _ _ _ _ _ _ us hl => match us, hl with | [_, _], _ => rfl
  have b_Form___call__ := F_Form___call__.binds (ps := ["self", "amounts"]) fun _ _ _ _ _ _ us hl => match us, hl with | [_, _], _ => rfl
  have b_Form___setitem__ := F_Form___setitem__.binds (ps := ["self", "amount", "number"]) fun _ _ _ _ _ _ us hl => match us, hl with | [_, _, _], _ => rfl
  have b_shows := F_shows.binds (ps := ["_law_form", "_law_due"]) fun _ _ _ _ _ _ us hl => match us, hl with | [_, _], _ => rfl
  have b_refused := F_refused.binds (ps := ["_law_word", "_law_number"]) fun _ _ _ _ _ _ us hl => match us, hl with | [_, _], _ => rfl
  have DY_BadNumber : PySem.DyeX.DyeTxt l.prog K f_DyeError f_BadNumber f_dyeInit := ⟨⟨_, _, _, _, _, _, _, _, _, _, _, _, _, _, _, lo_BadNumber, re_BadNumber⟩, sa_BadNumber, no_BadNumber, ii_BadNumber, tI_, kk_BadNumber, bE_BadNumber, ty_BadNumber, xi_BadNumber, su_BadNumber, vE_BadNumber, mr_BadNumber, hsup_, ho_, htop_, ⟨_, _, _, _, _, _, _, _, _, _, _, _, _, _, _, _, _, _, _, _, _, _, _, _, _, _, _, _, _, _, _, _, _, _, _, _, _, _, line_, lI_, lD_, rfl, cI_, lC_, vf_, fi_, lc_, cD_⟩⟩
  have DY_BadAmount : PySem.DyeX.DyeTxt l.prog K f_DyeError f_BadAmount f_dyeInit := ⟨⟨_, _, _, _, _, _, _, _, _, _, _, _, _, _, _, lo_BadAmount, re_BadAmount⟩, sa_BadAmount, no_BadAmount, ii_BadAmount, tI_, kk_BadAmount, bE_BadAmount, ty_BadAmount, xi_BadAmount, su_BadAmount, vE_BadAmount, mr_BadAmount, hsup_, ho_, htop_, ⟨_, _, _, _, _, _, _, _, _, _, _, _, _, _, _, _, _, _, _, _, _, _, _, _, _, _, _, _, _, _, _, _, _, _, _, _, _, _, line_, lI_, lD_, rfl, cI_, lC_, vf_, fi_, lc_, cD_⟩⟩
  let A0 : Adr := { f_is_whole := f_is_whole, d_is_whole := PySem.W.fnOf "is_whole" "is_whole" (defArgs s_is_whole) (defBody s_is_whole) (defScope s_is_whole) .none kV_is_whole dc_is_whole pm_is_whole an_is_whole cd_is_whole ct_is_whole, f_is_amount := f_is_amount, d_is_amount := PySem.W.fnOf "is_amount" "is_amount" (defArgs s_is_amount) (defBody s_is_amount) (defScope s_is_amount) .none kV_is_amount dc_is_amount pm_is_amount an_is_amount cd_is_amount ct_is_amount, f_check_amount := f_check_amount, d_check_amount := PySem.W.fnOf "check_amount" "check_amount" (defArgs s_check_amount) (defBody s_check_amount) (defScope s_check_amount) .none kV_check_amount dc_check_amount pm_check_amount an_check_amount cd_check_amount ct_check_amount, f_check_whole := f_check_whole, d_check_whole := PySem.W.fnOf "check_whole" "check_whole" (defArgs s_check_whole) (defBody s_check_whole) (defScope s_check_whole) (.ref dT_check_whole) kV_check_whole dc_check_whole pm_check_whole an_check_whole cd_check_whole ct_check_whole, f_place_of := f_place_of, d_place_of := PySem.W.fnOf "place_of" "place_of" (defArgs s_place_of) (defBody s_place_of) (defScope s_place_of) .none kV_place_of dc_place_of pm_place_of an_place_of cd_place_of ct_place_of, f_Form___init__ := f_Form___init__, d_Form___init__ := PySem.W.fnOf "__init__" "Form.__init__" (defArgs s_Form___init__) (defBody s_Form___init__) (defScope s_Form___init__) (.ref dT_Form___init__) kV_Form___init__ dc_Form___init__ pm_Form___init__ an_Form___init__ cd_Form___init__ ct_Form___init__, f_Form_take := f_Form_take, d_Form_take := PySem.W.fnOf "take" "Form.take" (defArgs s_Form_take) (defBody s_Form_take) (defScope s_Form_take) .none kV_Form_take dc_Form_take pm_Form_take an_Form_take cd_Form_take ct_Form_take, f_Form_leave := f_Form_leave, d_Form_leave := PySem.W.fnOf "leave" "Form.leave" (defArgs s_Form_leave) (defBody s_Form_leave) (defScope s_Form_leave) .none kV_Form_leave dc_Form_leave pm_Form_leave an_Form_leave cd_Form_leave ct_Form_leave, f_Form___iter__ := f_Form___iter__, d_Form___iter__ := PySem.W.fnOf "__iter__" "Form.__iter__" (defArgs s_Form___iter__) (defBody s_Form___iter__) (defScope s_Form___iter__) .none kV_Form___iter__ dc_Form___iter__ pm_Form___iter__ an_Form___iter__ cd_Form___iter__ ct_Form___iter__, f_Form___len__ := f_Form___len__, d_Form___len__ := PySem.W.fnOf "__len__" "Form.__len__" (defArgs s_Form___len__) (defBody s_Form___len__) (defScope s_Form___len__) .none kV_Form___len__ dc_Form___len__ pm_Form___len__ an_Form___len__ cd_Form___len__ ct_Form___len__, f_Form___setitem__ := f_Form___setitem__, d_Form___setitem__ := PySem.W.fnOf "__setitem__" "Form.__setitem__" (defArgs s_Form___setitem__) (defBody s_Form___setitem__) (defScope s_Form___setitem__) .none kV_Form___setitem__ dc_Form___setitem__ pm_Form___setitem__ an_Form___setitem__ cd_Form___setitem__ ct_Form___setitem__, f_Form___add__ := f_Form___add__, d_Form___add__ := PySem.W.fnOf "__add__" "Form.__add__" (defArgs s_Form___add__) (defBody s_Form___add__) (defScope s_Form___add__) .none kV_Form___add__ dc_Form___add__ pm_Form___add__ an_Form___add__ cd_Form___add__ ct_Form___add__, f_Form___sub__ := f_Form___sub__, d_Form___sub__ := PySem.W.fnOf "__sub__" "Form.__sub__" (defArgs s_Form___sub__) (defBody s_Form___sub__) (defScope s_Form___sub__) .none kV_Form___sub__ dc_Form___sub__ pm_Form___sub__ an_Form___sub__ cd_Form___sub__ ct_Form___sub__, f_Form___rmul__ := f_Form___rmul__, d_Form___rmul__ := PySem.W.fnOf "__rmul__" "Form.__rmul__" (defArgs s_Form___rmul__) (defBody s_Form___rmul__) (defScope s_Form___rmul__) .none kV_Form___rmul__ dc_Form___rmul__ pm_Form___rmul__ an_Form___rmul__ cd_Form___rmul__ ct_Form___rmul__, f_Form___call__ := f_Form___call__, d_Form___call__ := PySem.W.fnOf "__call__" "Form.__call__" (defArgs s_Form___call__) (defBody s_Form___call__) (defScope s_Form___call__) .none kV_Form___call__ dc_Form___call__ pm_Form___call__ an_Form___call__ cd_Form___call__ ct_Form___call__, f_lw_is_whole := f_lw_is_whole, d_lw_is_whole := PySem.W.fnOf "_law_is_whole" "_law_is_whole" (defArgs s_lw_is_whole) (defBody s_lw_is_whole) (defScope s_lw_is_whole) .none kV_lw_is_whole dc_lw_is_whole pm_lw_is_whole an_lw_is_whole cd_lw_is_whole ct_lw_is_whole, f_source := f_source, d_source := PySem.W.fnOf "_law_source" "_law_source" (defArgs s_source) (defBody s_source) (defScope s_source) .none kV_source dc_source pm_source an_source cd_source ct_source, f_draw := f_draw, d_draw := PySem.W.fnOf "_law_draw" "_law_draw" (defArgs s_draw) (defBody s_draw) (defScope s_draw) .none kV_draw dc_draw pm_draw an_draw cd_draw ct_draw, f_amount := f_amount, d_amount := PySem.W.fnOf "_law_amount" "_law_amount" (defArgs s_amount) (defBody s_amount) (defScope s_amount) .none kV_amount dc_amount pm_amount an_amount cd_amount ct_amount, f_terms := f_terms, d_terms := PySem.W.fnOf "_law_terms" "_law_terms" (defArgs s_terms) (defBody s_terms) (defScope s_terms) .none kV_terms dc_terms pm_terms an_terms cd_terms ct_terms, f_shows := f_shows, d_shows := PySem.W.fnOf "_law_shows" "_law_shows" (defArgs s_shows) (defBody s_shows) (defScope s_shows) .none kV_shows dc_shows pm_shows an_shows cd_shows ct_shows, f_value := f_value, d_value := PySem.W.fnOf "_law_value" "_law_value" (defArgs s_value) (defBody s_value) (defScope s_value) .none kV_value dc_value pm_value an_value cd_value ct_value, f_refused := f_refused, d_refused := PySem.W.fnOf "_law_refused" "_law_refused" (defArgs s_refused) (defBody s_refused) (defScope s_refused) .none kV_refused dc_refused pm_refused an_refused cd_refused ct_refused, f_law := f_law, d_law := PySem.W.fnOf "law" "law" (defArgs s_law) (defBody s_law) (defScope s_law) .none kV_law dc_law pm_law an_law cd_law ct_law, f_DyeError := f_DyeError, f_BadNumber := f_BadNumber, f_BadAmount := f_BadAmount, f_Form := f_Form, c_WORDS := c_WORDS, c_e0 := c_e0, p_take := p_take, p_leave := p_leave, f_dyeInit := f_dyeInit }
  have T : Tx l.prog K mg A0 := {
    F_is_whole := F_is_whole
    F_is_amount := F_is_amount
    F_check_amount := F_check_amount
    F_check_whole := F_check_whole
    F_place_of := F_place_of
    F_Form___init__ := F_Form___init__
    F_Form_take := F_Form_take
    F_Form_leave := F_Form_leave
    F_Form___iter__ := F_Form___iter__
    F_Form___len__ := F_Form___len__
    F_Form___setitem__ := F_Form___setitem__
    F_Form___add__ := F_Form___add__
    F_Form___sub__ := F_Form___sub__
    F_Form___rmul__ := F_Form___rmul__
    F_Form___call__ := F_Form___call__
    F_lw_is_whole := F_lw_is_whole
    F_source := F_source
    F_draw := F_draw
    F_amount := F_amount
    F_terms := F_terms
    F_shows := F_shows
    F_value := F_value
    F_refused := F_refused
    F_law := F_law
    n_isinstance := PySem.W.mg_none_of X G n_isinstance
    n_int := PySem.W.mg_none_of X G n_int
    n_bool := PySem.W.mg_none_of X G n_bool
    n_tuple := PySem.W.mg_none_of X G n_tuple
    n_len := PySem.W.mg_none_of X G n_len
    c_WORDS := PySem.W.mg_of X G ac_WORDS
    g_is_whole := PySem.W.mg_of X G a_is_whole
    k_is_whole := k_is_whole
    b_is_whole := b_is_whole
    g_is_amount := PySem.W.mg_of X G a_is_amount
    k_is_amount := k_is_amount
    b_is_amount := b_is_amount
    dye_BadAmount := DY_BadAmount
    g_BadAmount := PySem.W.mg_of X G a_BadAmount
    dye_BadNumber := DY_BadNumber
    g_BadNumber := PySem.W.mg_of X G a_BadNumber
    g_check_amount := PySem.W.mg_of X G a_check_amount
    k_check_amount := k_check_amount
    b_check_amount := b_check_amount
    g_check_whole := PySem.W.mg_of X G a_check_whole
    k_check_whole := k_check_whole
    b_check_whole_1 := b_check_whole_1
    b_place_of := b_place_of
    n_sorted := PySem.W.mg_none_of X G n_sorted
    n_list := PySem.W.mg_none_of X G n_list
    g_place_of := PySem.W.mg_of X G a_place_of
    mk_Form := ⟨mks_Form, at_Form___init__, fn_Form___init__, kc_Form⟩
    g_Form := PySem.W.mg_of X G a_Form
    b_Form___init__ := b_Form___init__
    n_iter := PySem.W.mg_none_of X G n_iter
    n_sum := PySem.W.mg_none_of X G n_sum
    n_abs := PySem.W.mg_none_of X G n_abs
    g_draw := PySem.W.mg_of X G a_draw
    k_draw := k_draw
    b_draw := b_draw
    n_range := PySem.W.mg_none_of X G n_range
    g_amount := PySem.W.mg_of X G a_amount
    k_amount := k_amount
    b_amount := b_amount
    b_Form___len__ := b_Form___len__
    b_Form___iter__ := b_Form___iter__
    n_str := PySem.W.mg_none_of X G n_str
    g_lw_is_whole := PySem.W.mg_of X G a_lw_is_whole
    k_lw_is_whole := k_lw_is_whole
    b_lw_is_whole := b_lw_is_whole
    b_Form_take := b_Form_take
    b_Form_leave := b_Form_leave
    g_DyeError := PySem.W.mg_of X G a_DyeError
    g_source := PySem.W.mg_of X G a_source
    k_source := k_source
    b_source := b_source
    g_terms := PySem.W.mg_of X G a_terms
    k_terms := k_terms
    b_terms := b_terms
    g_value := PySem.W.mg_of X G a_value
    k_value := k_value
    b_value := b_value
    b_Form___add__ := b_Form___add__
    b_Form___sub__ := b_Form___sub__
    b_Form___rmul__ := b_Form___rmul__
    b_Form___call__ := b_Form___call__
    b_Form___setitem__ := b_Form___setitem__
    g_shows := PySem.W.mg_of X G a_shows
    k_shows := k_shows
    b_shows := b_shows
    g_refused := PySem.W.mg_of X G a_refused
    k_refused := k_refused
    b_refused := b_refused
    cl_Form := ⟨pg_Form, hdc_Form, po_Form, sac_Form⟩
    t_WORDS := fun H => .inr ⟨_, _, _, lc_WORDS, rfl, rfl, (by show 2 ≤ sizeLine; decide), .cons ⟨_, rfl⟩ (.cons ⟨_, rfl⟩ (.nil))⟩
    tw_WORDS := ⟨_, lc_WORDS, rfl, rfl⟩
    na_terms := na_terms
    is_Form := ⟨⟨pg_Form, hdc_Form, po_Form, sac_Form⟩, hacF, hn_, ht_, hmoF⟩
    te_e0 := fun H => .inr ⟨_, _, _, le0_, rfl, rfl, (by show 0 ≤ sizeLine; decide), .nil⟩
    kf_Form := kit_own2 i_Form t_Form sFF sFF
    kit_ii := kit_ty rfl
    kit_bi := kit_ty rfl
    kit_ni := kit_ty rfl
    kit_si := kit_ty rfl
    kit_ti := kit_ty rfl
    kit_ib := kit_ty rfl
    kit_bb := kit_ty rfl
    kit_it := kit_ty rfl
    kit_bt := kit_ty rfl
    kit_nt := kit_ty rfl
    kit_st := kit_ty rfl
    kit_tt := kit_ty rfl
    kit_ss := kit_ty rfl
    kit_nb := kit_ty rfl
    kit_sb := kit_ty rfl
    kit_tb := kit_ty rfl
    x_BadAmount := ⟨by rw [i_BadAmount]; rfl, ga_BadAmount, gg_BadAmount, bE_BadAmount, hac_BadAmount, hn_, ht_, hmo_BadAmount, hd_BadAmount, no_BadAmount⟩
    em_BadAmount_BadAmount := exm_own2 bE_BadAmount i_BadAmount t_BadAmount s_BadAmount_BadAmount
    ik_BadAmount_BadNumber := kit_own2 i_BadNumber t_BadNumber s_BadAmount_BadNumber s_BadAmount_BadAmount
    le_Form := at_Form___len__
    fn_le := fn_Form___len__
    it_Form := at_Form___iter__
    fn_it := fn_Form___iter__
    si_Form := at_Form___setitem__
    fn_si := fn_Form___setitem__
    of___add__ := ⟨sf_Form, oa__add__, fn_Form___add__, ⟨_, or__add__, op__add__⟩, fun T hT => by (rcases List.mem_cons.mp hT with rfl | hT; exact ⟨_, _, ofo__add__int, oro__add__int, osu__add__int⟩; cases hT)⟩
    of___sub__ := ⟨sf_Form, oa__sub__, fn_Form___sub__, ⟨_, or__sub__, op__sub__⟩, fun T hT => by (rcases List.mem_cons.mp hT with rfl | hT; exact ⟨_, _, ofo__sub__int, oro__sub__int, osu__sub__int⟩; cases hT)⟩
    ns_Form := ns_Form
    rm_Form := ⟨sf_Form, ⟨_, at_mul_⟩, at_Form___rmul__, fn_Form___rmul__, suI_⟩
    nf_Form := fun _ h => nomatch h
    gt_ := gt_
    cr_Form := ⟨rdh_Form, gah_Form⟩
    sm_take := ⟨sat_take, ⟨_, src_take⟩, k_Form_take⟩
    sm_leave := ⟨sat_leave, ⟨_, src_leave⟩, k_Form_leave⟩
    co_Form := ⟨at_Form___call__, fn_Form___call__, fi_call⟩ }
  exact ⟨PySem.W.fnOf "law" "law" (defArgs s_law) (defBody s_law) (defScope s_law) .none kV_law dc_law pm_law an_law cd_law ct_law, fun s v => .of_eq rfl, fun base _ _ NS => ok_law T NS⟩

theorem walk {l : PySem.W.OpenLaw} {q : Program} {loose : List Str} {XP : (Str → Option Value) → Heap → Prop} {YP : World → Heap → Prop} {d : DefRec} {K : Params → PySem.W.Frag} (hq : PyProof.Rows.importsNone q = true) (hn : l.most = some 63) (hdf : d.params.defaults = [])
    (hY : ∀ (w : World) (h : Heap), YP w h → (K w.params).In h)
    (F : ∀ (w : World) (mg : Str → Option Value) (fa : Addr) (h : Heap), YP w h → (K w.params).In h → h.Ns mainGlobals mg → mg d.name = some (.ref fa) →
      ∃ fd : FuncData, (∀ (s : Shared) (u : Value), BindsTo s fd ⟨[u], []⟩ [("_law_script", u)]) ∧
        ∀ base : Heap, (K w.params).In base → base.Ns mainGlobals mg → base.NoSeer → FnOk l.prog w (K w.params) mg base CX0 45 fa fd ["_law_script"] (lift3B (S_law (K w.params)))) :
    PySem.W.WalkO q loose XP YP l.row.toRowW d [] (fun f vs => PySem.call f vs) := by
  refine Att.attach_callB (n := 63) hn hdf (fun w _ s mg mb fa _ _ _ _ a vs ns G Y _ _ _ hmg hobj hints hlen hbits hg => ?_)
  have KX := hY w _ Y
  obtain ⟨fd, hb, hF⟩ := F w mg fa _ Y KX G.T.g hmg
  have NS := G.T.seer hq
  obtain ⟨mm, nm, m1⟩ := NS.mods
  obtain ⟨mc, nc, c1, c2⟩ := NS.statics
  obtain ⟨mb2, nb, b0⟩ := NS.imp
  obtain ⟨bm, ob, g1, _, g3, g4, g5, g6⟩ := G.T.bmain
  obtain ⟨o1, es1, ep1, h1, d1, r1⟩ := id nm
  obtain ⟨o2, es2, ep2, h2, d2, r2⟩ := id nc
  obtain ⟨o3, es3, ep3, h3, d3, r3⟩ := id nb
  have hK' : ∀ {z : Addr} {o : Obj}, (((sysModules, o1) :: (cStatics, o2) :: (builtinsNs, o3) :: (bm, ob) :: K w.params : PySem.W.Frag)).lookup z = some o → s.heap.get? z = some o := fun {z o} e => by
    unfold List.lookup at e
    split at e
    · rename_i q; obtain rfl := eq_of_beq q; cases e; exact h1
    unfold List.lookup at e
    split at e
    · rename_i q; obtain rfl := eq_of_beq q; cases e; exact h2
    unfold List.lookup at e
    split at e
    · rename_i q; obtain rfl := eq_of_beq q; cases e; exact h3
    unfold List.lookup at e
    split at e
    · rename_i q; obtain rfl := eq_of_beq q; cases e; exact g3
    exact KX _ _ e
  obtain ⟨K', hKK⟩ : ∃ K' : PySem.W.Frag, ((sysModules, o1) :: (cStatics, o2) :: (builtinsNs, o3) :: (bm, ob) :: K w.params : PySem.W.Frag) = K' := ⟨_, rfl⟩
  rw [hKK] at hK'
  have up : ∀ base : Heap, K'.In base → (K w.params).In base := fun base hB z o e => by
    have e0 := KX _ _ e
    cases q : K'.lookup z with
    | some o' =>
      have := hK' q
      rw [e0] at this
      cases this
      exact hB _ _ q
    | none =>
      rw [← hKK] at q
      unfold List.lookup at q
      split at q
      · cases q
      unfold List.lookup at q
      split at q
      · cases q
      unfold List.lookup at q
      split at q
      · cases q
      unfold List.lookup at q
      split at q
      · cases q
      rw [e] at q
      cases q
  have k1 : K'.lookup sysModules = some o1 := by rw [← hKK]; rfl
  have k2 : K'.lookup cStatics = some o2 := by rw [← hKK]; rfl
  have k3 : K'.lookup builtinsNs = some o3 := by rw [← hKK]; rfl
  have k4 : ∃ o4, K'.lookup bm = some o4 := by
    rw [← hKK]
    unfold List.lookup
    split
    · exact ⟨_, rfl⟩
    unfold List.lookup
    split
    · exact ⟨_, rfl⟩
    unfold List.lookup
    split
    · exact ⟨_, rfl⟩
    unfold List.lookup
    rw [beq_self_eq_true]
    exact ⟨_, rfl⟩
  obtain ⟨o4, k4⟩ := k4
  obtain rfl : o4 = ob := by have := hK' k4; rw [g3] at this; cases this; rfl
  have low : ∀ {z : Addr} {o : Obj} {its : Array Value} {n : Nat}, K'.lookup z = some o → o.data = .seq its n → (K w.params).lookup z = some o := fun {z o its n} e hd => by
    have e' := e
    rw [← hKK] at e'
    unfold List.lookup at e'
    split at e'
    · cases e'; rw [d1] at hd; cases hd
    unfold List.lookup at e'
    split at e'
    · cases e'; rw [d2] at hd; cases hd
    unfold List.lookup at e'
    split at e'
    · cases e'; rw [d3] at hd; cases hd
    unfold List.lookup at e'
    split at e'
    · cases e'; rw [g6] at hd; cases hd
    exact e'
  have seer : ∀ base : Heap, K'.In base → base.Ns mainGlobals mg → base.NoSeer := fun base hB hG =>
    ⟨⟨mc, ⟨o2, es2, ep2, hB _ _ k2, d2, r2⟩, c1, c2⟩, ⟨mm, ⟨o1, es1, ep1, hB _ _ k1, d1, r1⟩, m1⟩, ⟨mb2, ⟨o3, es3, ep3, hB _ _ k3, d3, r3⟩, b0⟩, ⟨mg, bm, o4, hG, g1, hB _ _ k4, g4, g5⟩⟩
  refine LamX.law_callTs (K := K') (k := 45) (cs := []) (sp := lift3B (S_law (K w.params))) (x := "_law_script") (CX := CX0) (fun _ _ e => hK' e) G.T.g G.T.b G.T.builtins G.T.nolimit hg ?_ ?_ ?_ G.T.bmain hobj hints (Nat.le_trans hlen (by decide)) ⟨rfl, by decide, by decide⟩ ?_ hb ?_ (fun _ _ _ z => z)
  · intro p hp; cases hp
  · intro p hp; cases hp
  · intro p hp; cases hp
  · intro base hB hG hTB
    exact fnOk_up (up base hB) (hF base (up base hB) hG (seer base hB hG))
  · intro H hT hS
    have hS' : SqL (K w.params) H a (ns.map V.int) := by
      rcases hS with h1 | ⟨o, its, n, h1, h2, h3, h4, h5⟩
      · exact .inl h1
      · exact .inr ⟨o, its, n, low h1 h4, h2, h3, h4, h5⟩
    exact ⟨[.ref a], H, fun _ => none, fun d _ => d = .bl true, fun _ _ _ => False, ⟨_, _, rfl, rfl, rfl⟩, ⟨Ex.refl _, fun a o h => (by cases h)⟩, fun F' M' d v H' _ _ r e => (by subst e; exact r), fun _ _ _ _ _ _ _ _ _ _ _ h => h.elim, a, ns, rfl, hS', hlen, rfl, fun _ => rfl⟩
end
end LW
set_option pp.maxSteps 200
set_option pp.proofs false
open PySem PySem.W PyProof.Rows
set_option maxRecDepth 100000 in
set_option maxHeartbeats 0 in
theorem PySem.Challenge.cw_tiredpots_k05_value_of_a_form_holds : PySem.Challenge.rw_tiredpots_k05_value_of_a_form.Holds := by
  w_on; o_law; k_head; (case hw => w_witness2)
  k_fill
  refine LW.walk (l := PySem.Challenge.rw_tiredpots_k05_value_of_a_form) (by decide +kernel) rfl rfl (fun w h Y => PySem.W.kIn_of Y) ?F
  case F =>
    intro w mg fa h Y KX G hmg
    refine' LW.all_mk KX G hmg ?a_Form ?a_is_whole ?l_is_whole ?c_is_whole ?k_is_whole ?a_is_amount ?l_is_amount ?c_is_amount ?k_is_amount ?a_check_amount ?l_check_amount ?c_check_amount ?k_check_amount ?a_check_whole ?l_check_whole ?lT_check_whole ?c_check_whole ?k_check_whole ?a_place_of ?l_place_of ?c_place_of ?k_place_of ?at_Form___init__ ?fn_Form___init__ ?l_Form___init__ ?lT_Form___init__ ?c_Form___init__ ?k_Form___init__ ?sat_take ?src_take ?l_Form_take ?c_Form_take ?k_Form_take ?sat_leave ?src_leave ?l_Form_leave ?c_Form_leave ?k_Form_leave ?at_Form___iter__ ?fn_Form___iter__ ?l_Form___iter__ ?c_Form___iter__ ?k_Form___iter__ ?at_Form___len__ ?fn_Form___len__ ?l_Form___len__ ?c_Form___len__ ?k_Form___len__ ?at_Form___setitem__ ?fn_Form___setitem__ ?l_Form___setitem__ ?c_Form___setitem__ ?k_Form___setitem__ ?at_Form___add__ ?fn_Form___add__ ?l_Form___add__ ?c_Form___add__ ?k_Form___add__ ?at_Form___sub__ ?fn_Form___sub__ ?l_Form___sub__ ?c_Form___sub__ ?k_Form___sub__ ?at_Form___rmul__ ?fn_Form___rmul__ ?l_Form___rmul__ ?c_Form___rmul__ ?k_Form___rmul__ ?at_Form___call__ ?fn_Form___call__ ?l_Form___call__ ?c_Form___call__ ?k_Form___call__ ?a_lw_is_whole ?l_lw_is_whole ?c_lw_is_whole ?k_lw_is_whole ?a_source ?l_source ?c_source ?k_source ?a_draw ?l_draw ?c_draw ?k_draw ?a_amount ?l_amount ?c_amount ?k_amount ?a_terms ?l_terms ?c_terms ?k_terms ?a_shows ?l_shows ?c_shows ?k_shows ?a_value ?l_value ?c_value ?k_value ?a_refused ?l_refused ?c_refused ?k_refused ?a_law ?l_law ?c_law ?k_law ?pg_Form ?hdc_Form ?po_Form ?sac_Form ?mks_Form ?kc_Form ?ac_WORDS ?lc_WORDS ?na_terms ?le0_ ?ns_Form ?sf_Form ?sFF ?hacF ?hmoF ?suI_ ?gt_ ?rdh_Form ?gah_Form ?fi_call ?at_mul_ ?oa__add__ ?or__add__ ?op__add__ ?ofo__add__int ?oro__add__int ?osu__add__int ?oa__sub__ ?or__sub__ ?op__sub__ ?ofo__sub__int ?oro__sub__int ?osu__sub__int ?a_DyeError ?a_BadNumber ?a_BadAmount ?n_isinstance ?n_int ?n_bool ?n_tuple ?n_len ?n_sorted ?n_list ?n_iter ?n_sum ?n_abs ?n_range ?n_str ?i_DyeError ?t_DyeError ?i_BadNumber ?t_BadNumber ?i_BadAmount ?t_BadAmount ?i_Form ?t_Form ?hn_ ?ht_ ?s_BadAmount_DyeError ?s_BadAmount_BadNumber ?s_BadAmount_BadAmount ?s_BadAmount_Form ?ga_BadAmount ?gg_BadAmount ?hac_BadAmount ?hmo_BadAmount ?hd_BadAmount ?bE_DyeError ?ho_ ?hsup_ ?htop_ ?lo_BadNumber ?re_BadNumber ?sa_BadNumber ?no_BadNumber ?ii_BadNumber ?kk_BadNumber ?bE_BadNumber ?ty_BadNumber ?xi_BadNumber ?su_BadNumber ?vE_BadNumber ?mr_BadNumber ?lo_BadAmount ?re_BadAmount ?sa_BadAmount ?no_BadAmount ?ii_BadAmount ?kk_BadAmount ?bE_BadAmount ?ty_BadAmount ?xi_BadAmount ?su_BadAmount ?vE_BadAmount ?mr_BadAmount ?tI_ ?lI_ ?line_ ?lD_ ?cI_ ?lC_ ?vf_ ?fi_ ?lc_ ?cD_
    (case a_Form => k_is)
    (case a_is_whole => k_is)
    (case l_is_whole => k_is)
    (case c_is_whole => k_is)
    (case k_is_whole => k_is)
    (case a_is_amount => k_is)
    (case l_is_amount => k_is)
    (case c_is_amount => k_is)
    (case k_is_amount => k_is)
    (case a_check_amount => k_is)
    (case l_check_amount => k_is)
    (case c_check_amount => k_is)
    (case k_check_amount => k_is)
    (case a_check_whole => k_is)
    (case l_check_whole => k_is)
    (case lT_check_whole => k_is)
    (case c_check_whole => k_is)
    (case k_check_whole => k_is)
    (case a_place_of => k_is)
    (case l_place_of => k_is)
    (case c_place_of => k_is)
    (case k_place_of => k_is)
    (case at_Form___init__ => k_is)
    (case fn_Form___init__ => k_is)
    (case l_Form___init__ => k_is)
    (case lT_Form___init__ => k_is)
    (case c_Form___init__ => k_is)
    (case k_Form___init__ => k_is)
    (case sat_take => k_is)
    (case src_take => k_is)
    (case l_Form_take => k_is)
    (case c_Form_take => k_is)
    (case k_Form_take => k_is)
    (case sat_leave => k_is)
    (case src_leave => k_is)
    (case l_Form_leave => k_is)
    (case c_Form_leave => k_is)
    (case k_Form_leave => k_is)
    (case at_Form___iter__ => k_is)
    (case fn_Form___iter__ => k_is)
    (case l_Form___iter__ => k_is)
    (case c_Form___iter__ => k_is)
    (case k_Form___iter__ => k_is)
    (case at_Form___len__ => k_is)
    (case fn_Form___len__ => k_is)
    (case l_Form___len__ => k_is)
    (case c_Form___len__ => k_is)
    (case k_Form___len__ => k_is)
    (case at_Form___setitem__ => k_is)
    (case fn_Form___setitem__ => k_is)
    (case l_Form___setitem__ => k_is)
    (case c_Form___setitem__ => k_is)
    (case k_Form___setitem__ => k_is)
    (case at_Form___add__ => k_is)
    (case fn_Form___add__ => k_is)
    (case l_Form___add__ => k_is)
    (case c_Form___add__ => k_is)
    (case k_Form___add__ => k_is)
    (case at_Form___sub__ => k_is)
    (case fn_Form___sub__ => k_is)
    (case l_Form___sub__ => k_is)
    (case c_Form___sub__ => k_is)
    (case k_Form___sub__ => k_is)
    (case at_Form___rmul__ => k_is)
    (case fn_Form___rmul__ => k_is)
    (case l_Form___rmul__ => k_is)
    (case c_Form___rmul__ => k_is)
    (case k_Form___rmul__ => k_is)
    (case at_Form___call__ => k_is)
    (case fn_Form___call__ => k_is)
    (case l_Form___call__ => k_is)
    (case c_Form___call__ => k_is)
    (case k_Form___call__ => k_is)
    (case a_lw_is_whole => k_is)
    (case l_lw_is_whole => k_is)
    (case c_lw_is_whole => k_is)
    (case k_lw_is_whole => k_is)
    (case a_source => k_is)
    (case l_source => k_is)
    (case c_source => k_is)
    (case k_source => k_is)
    (case a_draw => k_is)
    (case l_draw => k_is)
    (case c_draw => k_is)
    (case k_draw => k_is)
    (case a_amount => k_is)
    (case l_amount => k_is)
    (case c_amount => k_is)
    (case k_amount => k_is)
    (case a_terms => k_is)
    (case l_terms => k_is)
    (case c_terms => k_is)
    (case k_terms => k_is)
    (case a_shows => k_is)
    (case l_shows => k_is)
    (case c_shows => k_is)
    (case k_shows => k_is)
    (case a_value => k_is)
    (case l_value => k_is)
    (case c_value => k_is)
    (case k_value => k_is)
    (case a_refused => k_is)
    (case l_refused => k_is)
    (case c_refused => k_is)
    (case k_refused => k_is)
    (case a_law => k_is)
    (case l_law => k_is)
    (case c_law => k_is)
    (case k_law => k_is)
    (case pg_Form => k_is)
    (case hdc_Form => k_is)
    (case po_Form => k_is)
    (case sac_Form => k_is)
    (case mks_Form => k_is)
    (case kc_Form => k_is)
    (case ac_WORDS => k_is)
    (case lc_WORDS => k_is)
    (case na_terms => k_is)
    (case le0_ => k_is)
    (case ns_Form => k_is)
    (case sf_Form => k_is)
    (case sFF => k_is)
    (case hacF => k_is)
    (case hmoF => k_is)
    (case suI_ => k_is)
    (case gt_ => rfl)
    (case rdh_Form => k_is)
    (case gah_Form => k_is)
    (case fi_call => k_is)
    (case at_mul_ => k_is)
    (case oa__add__ => k_is)
    (case or__add__ => k_is)
    (case op__add__ => first | exact .inl rfl | exact .inr ⟨_, rfl⟩)
    (case ofo__add__int => k_is)
    (case oro__add__int => k_is)
    (case osu__add__int => k_is)
    (case oa__sub__ => k_is)
    (case or__sub__ => k_is)
    (case op__sub__ => first | exact .inl rfl | exact .inr ⟨_, rfl⟩)
    (case ofo__sub__int => k_is)
    (case oro__sub__int => k_is)
    (case osu__sub__int => k_is)
    (case a_DyeError => k_is)
    (case a_BadNumber => k_is)
    (case a_BadAmount => k_is)
    (case n_isinstance => k_is)
    (case n_int => k_is)
    (case n_bool => k_is)
    (case n_tuple => k_is)
    (case n_len => k_is)
    (case n_sorted => k_is)
    (case n_list => k_is)
    (case n_iter => k_is)
    (case n_sum => k_is)
    (case n_abs => k_is)
    (case n_range => k_is)
    (case n_str => k_is)
    (case i_DyeError => k_is)
    (case t_DyeError => k_is)
    (case i_BadNumber => k_is)
    (case t_BadNumber => k_is)
    (case i_BadAmount => k_is)
    (case t_BadAmount => k_is)
    (case i_Form => k_is)
    (case t_Form => k_is)
    (case hn_ => k_is)
    (case ht_ => k_is)
    (case s_BadAmount_DyeError => k_is)
    (case s_BadAmount_BadNumber => k_is)
    (case s_BadAmount_BadAmount => k_is)
    (case s_BadAmount_Form => k_is)
    (case ga_BadAmount => k_is)
    (case gg_BadAmount => k_is)
    (case hac_BadAmount => k_is)
    (case hmo_BadAmount => k_is)
    (case hd_BadAmount => k_is)
    (case bE_DyeError => k_is)
    (case ho_ => k_is)
    (case hsup_ => k_is)
    (case htop_ => rfl)
    (case lo_BadNumber => k_is)
    (case re_BadNumber => exact (by decide +kernel))
    (case sa_BadNumber => k_is)
    (case no_BadNumber => k_is)
    (case ii_BadNumber => k_is)
    (case kk_BadNumber => k_is)
    (case bE_BadNumber => k_is)
    (case ty_BadNumber => k_is)
    (case xi_BadNumber => kx_is)
    (case su_BadNumber => ks_is)
    (case vE_BadNumber => k_is)
    (case mr_BadNumber => k_is)
    (case lo_BadAmount => k_is)
    (case re_BadAmount => exact (by decide +kernel))
    (case sa_BadAmount => k_is)
    (case no_BadAmount => k_is)
    (case ii_BadAmount => k_is)
    (case kk_BadAmount => k_is)
    (case bE_BadAmount => k_is)
    (case ty_BadAmount => k_is)
    (case xi_BadAmount => kx_is)
    (case su_BadAmount => ks_is)
    (case vE_BadAmount => k_is)
    (case mr_BadAmount => k_is)
    (case tI_ => k_is)
    (case lI_ => k_is)
    (case line_ => rfl)
    (case lD_ => k_is)
    (case cI_ => k_is)
    (case lC_ => k_is)
    (case vf_ => rfl)
    (case fi_ => exact (by decide +kernel))
    (case lc_ => k_is)
    (case cD_ => k_is)
