import PyProof.Rows.All
import Wide.All
import OpenK.AllK
import Wide.FinOn
import HandS.ForExc
import HandS.ExcIs
import HandS.TryMany
import KE.KExcSuper
import HandS.Defaults
import HandS.HeadWalk
import KE.KExcIs
import HandS.ForMost
import HandS.Evl
import HandS.Walk
import HandS.Deep
import HandS.IsInst
import HandS.Wide
import HandS.SetKeys
import HandS.ExcOwn
import KE.DataFind
import HandS.ExcField
import HandS.Style
import HandS.Property
import HandS.ListItems
import HandS.WordsDict
import HandS.NoneIn
import HandS.Small
import HandS.ClsMeth
import HandS.IterVal
import HandS.OwnIter
import KE.KeyNested
import KE.KDictKeyed
import HandS.TupLe
import HandS.MakeKwOnly
import HandS.Star
import KE.KParD
import PySem.Challenge.RW_tiredpots_k11_dips_that_match
import PyProof.Rows.StrCase
import HandS.EndBits
import KE.RegKSuper
set_option Elab.async false
set_option linter.all false
set_option maxRecDepth 100000
set_option maxHeartbeats 2000000
namespace L2
open PySem PySem.Spec PyProof.Rows
/-! ### defs called where an exception is handled -/
structure RoomW (k : Nat) (A : Around) : Prop where
  dp : A.depth + 3 * k + 5 < recursionLimit
  un : A.units + 16 * k + 200 < cLine
theorem RoomW.mono {j k : Nat} {A : Around} (r : RoomW k A) (h : j ≤ k) : RoomW j A := ⟨by have := r.dp; omega, by have := r.un; omega⟩
theorem RoomW.deeper {k : Nat} {A : Around} (r : RoomW (k + 1) A) (env : Env) : RoomW k (A.deeper env) :=
  ⟨by have := r.dp; show A.depth + 1 + 3 * k + 5 < _; omega, by have := r.un; show A.units + 3 + 16 * k + 200 < _; omega⟩
theorem RoomW.depth {k : Nat} {A : Around} (r : RoomW k A) : A.depth < recursionLimit := by have := r.dp; omega
theorem RoomW.units {k : Nat} {A : Around} (r : RoomW k A) : A.units + 65 < cLine := by have := r.un; omega
theorem roomW_of {k : Nat} {A : Around} (r : Room k A) (o : Option Value) : RoomW k (A.mark o) := ⟨r.dp, r.un⟩
structure FnW (P : Program) (w : World) (K : PySem.W.Frag) (mg : Str → Option Value) (base : Heap) (CX : CXT) (k : Nat) (f : Addr) (fd : FuncData) (ps : List Str) (sp : Sp) : Prop where
  len : ∀ vs H Q E, sp vs H Q E → vs.length = ps.length
  run : ∀ (A : Around) (outer : List Env) (s : Shared) (H : Hp) (args : Args) (us : List Value) (vs : List V) (Q : VK) (E : XK), RoomW k A → Env0 P w K mg base A outer s H → BindsTo s fd args (ps.zip us) → Vals vs us → sp vs H Q E →
    codeAny (model P w) A (.call (.ref f) args) (CR CX outer P w H s Q E) s
def cxW (CX : CXT) (P : Program) (w : World) (K : PySem.W.Frag) (mg : Str → Option Value) (base : Heap) (N : List Str) (qual : Str) (scope : Scope) (f : Addr) (cd : Value) (A : Around) (outer : List Env) (s : Shared) (H : Hp) (E : XK) : Cx :=
  { cxOf CX P w K mg base N qual scope f cd A outer s H E with calm := false }
theorem inv_startW {CX : CXT} {P : Program} {w : World} {K : PySem.W.Frag} {mg : Str → Option Value} {base : Heap} {N ps : List Str} {qual : Str} {scope : Scope} {f : Addr} {cd : Value} {A : Around} {outer : List Env} {s s1 : Shared} {H : Hp} {E : XK} {us : List Value} {vs : List V}
    (S : FnScope N ps scope) (e0 : Env0 P w K mg base A outer s H) (hl : vs.length = ps.length) (r : Vals vs us)
    (x : InCallC s s.heap.objs.size (bindL (envOfC qual scope s.heap.objs.size f cd).kindOf (ps.zip us) fun _ => none) (cellsFrom (s.heap.objs.size + 1) scope.names []) (bindC (envOfC qual scope s.heap.objs.size f cd).kindOf (ps.zip us) fun _ => none) s1) :
    Inv (cxW CX P w K mg base N qual scope f cd A outer s H E) [] (start N vs) H s1 := by
  have hpl : ps.length ≤ N.length := by have := congrArg List.length S.pre; rw [List.length_take] at this; omega
  obtain ⟨h1, tk, rfl, hk⟩ := x.done
  have noA : ∀ b : Addr, b ∉ (cxW CX P w K mg base N qual scope f cd A outer s H E).ex := fun b z => absurd (show b ∈ ([] : List Addr) from z) (by simp)
  refine ⟨⟨e0.mod, S.kind, rfl, rfl, Nat.le_refl _, fun y z c h1 h2 => ?_, fun y hy => ?_, fun y c _ h => ?_, (fun z => Bool.noConfusion (show false = true from z)), Around.frames_deeper e0.frames, .inr ⟨rfl, rfl⟩, fun b z => absurd z (noA b), e0.bs, e0.bsz, fun b _ _ => noA b, fun b z => absurd z (noA b), e0.funs, e0.frf⟩,
    rfl, e0.bare, Un.kept hk, ⟨_, x.toInCall.ns, fun i y v h1 h2 h3 => ?_⟩, fun y c h => ⟨_, x.cell y c h⟩, e0.hok.fresh (Nat.le_refl _), fun y c h => ?_, fun p hp => absurd (show p ∈ ([] : List (Addr × Obj)) from hp) (by simp), e0.hok.kept hk, ?_⟩
  · exact name_of_addr x.apart (PySem.mem_of_lookup h1) (PySem.mem_of_lookup h2)
  · have hy : scope.names.lookup y = some .cell ∨ scope.names.lookup y = some .free := hy
    rcases hy with hy | hy
    · exact cell_has hy
    · exact absurd rfl (S.nofree _ (PySem.mem_of_lookup hy))
  · exact Nat.le_of_lt (x.above y c (PySem.mem_of_lookup h))
  · have hi : i < vs.length := by
      unfold start at h2
      by_cases hi : i < vs.length
      · exact hi
      · rw [List.getElem?_append_right (by simpa using hi)] at h2
        rw [List.getElem?_replicate] at h2
        split at h2 <;> cases h2
    have ha : vs[i]? = some v := by
      unfold start at h2
      rw [List.getElem?_append_left (by simpa using hi), List.getElem?_map] at h2
      cases e : vs[i]? with
      | none => rw [e] at h2; cases h2
      | some a => rw [e] at h2; cases h2; rfl
    obtain ⟨u, hu, rv⟩ := r.get ha
    have hp : ps[i]? = some y := by
      rw [← S.pre, List.getElem?_take_of_lt (by omega)]; exact h1
    have ndP : ps.Nodup := by rw [← S.pre]; exact S.nd.sublist (List.take_sublist _ _)
    refine ⟨u, rv, ?_⟩
    rcases S.par y (List.mem_of_getElem? hp) with k | k
    · exact .inl ⟨k, bindL_get ndP hp hu k⟩
    · obtain ⟨c, e⟩ := cell_has (n := s.heap.objs.size + 1) k
      refine .inr ⟨.inl k, c, e, ?_⟩
      have q := x.cell y c e
      rw [bindC_get ndP hp hu (by show scope.names.lookup y ≠ _; rw [k]; decide)] at q
      exact q
  · exact e0.hok.fresh (Nat.le_of_lt (x.above y c (PySem.mem_of_lookup h)))
  · unfold start
    show _ = N.length
    rw [List.length_append, List.length_map, List.length_replicate]
    omega

theorem fn_ofW {CX : CXT} {P : Program} {w : World} {K : PySem.W.Frag} {mg : Str → Option Value} {base : Heap} {k : Nat} {f : Addr} {name qual : Str} {params : Arguments} {body : List Stmt} {scope : Scope} {dV kV doc pm cdv ct oc : Value} {an od : Option Addr}
    {osl : Array (Option Value)} {N ps : List Str} {sp : Sp} (lk : K.lookup f = some ⟨oc, od, .func (PySem.W.fnOf name qual params body scope dV kV doc pm an cdv ct), osl⟩) (hcd : PySem.W.codeIn K cdv qual = true) (S : FnScope N ps scope)
    (len : ∀ vs H Q E, sp vs H Q E → vs.length = ps.length)
    (hbody : ∀ (A : Around) (outer : List Env) (s : Shared) (H : Hp) (vs : List V) (Q : VK) (E : XK), RoomW k (A.deeper (envOfC qual scope s.heap.objs.size f cdv)) → sp vs H Q E →
      ∃ t, PSs (cxW CX P w K mg base N qual scope f cdv A outer s H E) body t ∧ t { nx := fun _ H' => Q .non H', rt := Q } (start N vs) H) :
    FnW P w K mg base CX (k + 1) f (PySem.W.fnOf name qual params body scope dV kV doc pm an cdv ct) ps sp := by
  refine ⟨len, fun A outer s H args us vs Q E hr e0 hb r hsp => ?_⟩
  have hl := len _ _ _ _ hsp
  have KX : K.In s.heap := e0.mod.kin.keeps fun b o e => (e0.bs b o e).1
  have lim : s.heap.NoLimit := e0.mod.nolimit.keeps fun b o e => (e0.bs b o e).1
  have hkind : ∀ y ∈ ps.zip us, scope.names.lookup y.1 = some .local ∨ (scope.names.lookup y.1 = some .cell ∧ ((cellsFrom (s.heap.objs.size + 1) scope.names []).lookup y.1).isSome = true) := fun ⟨n, v⟩ hy => by
    rcases S.par n (List.of_mem_zip hy).1 with q | q
    · exact .inl q
    · exact .inr ⟨q, PySem.W.cellsFrom_some _ _ _ (.inl q)⟩
  refine codeAny_call_function hr.depth (KX _ _ lk) rfl S.co S.gen rfl (PySem.W.codeRec_of KX hcd) (hb _ _ _ _ ?_)
  refine wpAny_newFunctionEnv_cells S.kind hkind fun env he s1 x => ?_
  subst he
  refine ⟨lim.keeps x.toInCall.keep, codeAny_func ?_⟩
  obtain ⟨t, ht, hq⟩ := hbody A outer s H vs Q E (hr.deeper _) hsp
  have I : Inv (cxW CX P w K mg base N qual scope f cdv A outer s H E) [] (start N vs) H s1 := inv_startW S e0 hl r x
  refine wpAny_mono (ht.run [] s1 (start N vs) H _ I hq) (fun fl s' hs => ?_) fun e s' hs => hs
  have fin : ∀ {σ' : St} {H' : Hp} {v : V} {u : Value}, Inv (cxW CX P w K mg base N qual scope f cdv A outer s H E) [] σ' H' s' → RelV v u → Q v H' → CE outer P w H s Q u s' :=
    fun {σ' H' v u} J rv q => ⟨v, H', J.os, J.bare, J.base, J.hok, rv, q⟩
  cases fl with
  | ret u =>
    obtain ⟨v, σ', H', J, rv, q⟩ := hs
    exact fin J rv q
  | next =>
    obtain ⟨σ', H', J, q⟩ := hs
    exact fin (v := V.non) (u := Value.none) J rfl q
  | brk =>
    obtain ⟨_, _, _, q⟩ := hs
    exact False.elim q
  | cont =>
    obtain ⟨_, _, _, q⟩ := hs
    exact False.elim q
theorem Fun.okW {P : Program} {w : World} {K : PySem.W.Frag} {mg : Str → Option Value} {base : Heap} {x qual : Str} {st : Stmt} {f : Addr} {fd : FuncData} {N ps : List Str} {k : Nat} {sp : Sp} (F : Fun K x qual st f fd) (S : FnScope N ps (defScope st)) (len : ∀ vs H Q E, sp vs H Q E → vs.length = ps.length)
    (hbody : ∀ (cdv : Value) (A : Around) (outer : List Env) (s : Shared) (H : Hp) (vs : List V) (Q : VK) (E : XK), RoomW k (A.deeper (envOfC qual (defScope st) s.heap.objs.size f cdv)) → sp vs H Q E →
      ∃ t, PSs (cxW CX0 P w K mg base N qual (defScope st) f cdv A outer s H E).nox (defBody st) t ∧ t { nx := fun _ H' => Q .non H', rt := Q } (start N vs) H) : FnW P w K mg base CX0 (k + 1) f fd ps sp := by
  obtain ⟨oc, od, kV, doc, pm, an, cdv, ct, osl, rfl, lk, hcd⟩ := F.ex
  refine fn_ofW lk hcd S len fun A outer s H vs Q E hr hsp => ?_
  obtain ⟨t, h, q⟩ := hbody cdv A outer s H vs Q E hr hsp
  exact ⟨t, h.nox, q⟩
section
variable {X : Cx} {CX : CXT} {k : Nat} {f C : Addr} {fd : FuncData} {ps : List Str} {sp : Sp} {dvs : List V} {ds : List Value} {E : XK} {x m : Str} {p pos apos : Pos} {e o : Expr} {es : List Expr} {ta : TE} {t : TA}
theorem run_fnW {pins : List (Addr × Obj)} {σ : St} {H : Hp} {s : Shared} {Q : VK} {us : List Value} {vs : List V} (F : FnW X.prog X.w X.K X.mg X.base CX k f fd ps sp) (hr : RoomW k X.A) (hb : Binds X.K fd ps ds) (hd : Vals dvs ds) (hx : Passes CX X E)
    (I : Inv X pins σ H s) (r : Vals vs us) (h : sp (vs ++ dvs) H Q E) : wpAny (model X.prog X.w) X.A (call (.ref f) us) (EP X pins σ Q) X.xe s := by
  have r2 : Vals (vs ++ dvs) (us ++ ds) := r.append hd
  have hl : (us ++ ds).length = ps.length := by rw [← r2.length]; exact F.len _ _ _ _ h
  refine wpAny_call (codeAny_mono (F.run X.A X.stack s H ⟨us, []⟩ (us ++ ds) (vs ++ dvs) Q E hr I.env0 (hb s us I.kIn hl) r2 h) fun r s' hq => ?_)
  cases r with
  | error e => exact hx pins σ H s e s' I hq
  | ok fl =>
    cases fl with
    | ret u => exact I.after hq
    | next => exact False.elim hq
    | brk => exact False.elim hq
    | cont => exact False.elim hq
theorem pe_callW (F : FnW X.prog X.w X.K X.mg X.base CX k f fd ps sp) (hr : RoomW k X.A) (hg : Gl X x) (hm : X.mg x = some (.ref f)) (hk : PySem.W.keepIn X.K (.ref f) = true) (hb : Binds X.K fd ps ds) (hd : Vals dvs ds) (hx : Passes CX X E)
    (ha : PA X (e :: es) t) (hdb : (x == ("__debug__" : Str)) = false := by decide) (he : starEach (e :: es) X.env = (false, eval e X.env) :: starEach es X.env := by rfl) (hpl : (backTo pos (starEach es X.env)).any (·.1) = false := by rfl) :
    PE X (.Call (.Name x p) (e :: es) [] pos) (tCall sp dvs E t) := by
  refine ⟨fun pins s σ H Q I h => ?_⟩
  refine wpAny_Call_Name_kw (ld_glob I hg hm ?_ hdb)
  refine PySem.W.callWith_K (h₀ := X.base) I.ok.mod.kin hk (thn (ha.run pos pins s σ H _ I h) fun us s1 ⟨vs, H1, I1, r, q⟩ => ⟨I1.kIn, ?_⟩) he hpl
  exact run_fnW F hr hb hd hx I1 r q
end
end L2
set_option Elab.async false
set_option linter.all false
set_option maxRecDepth 100000
set_option maxHeartbeats 2000000
namespace PySem
namespace DyeX
open PySem.W PySem.Calls PyProof.Rows PySem.HandSPX
/-! ### the text of DyeError.__init__ -/
def iA (p1 p2 p3 p4 : Pos) (j : Nat) : Arguments := { posonlyargs := [], args := [{ arg := "self", annotation := none, pos := p1 }, { arg := "thing", annotation := none, pos := p2 }, { arg := "words", annotation := none, pos := p3 }], vararg := none, kwonlyargs := [], kw_defaults := [], kwarg := none, defaults := [(.Constant (.str "refused") j p4)] }
def iB (a1 a2 a3 a4 a5 a6 q1 q2 q3 q4 : Pos) : List Stmt := [.Expr (.Call (.Attribute (.Call (.Name "super" a1) [] [] a2) "__init__" a3) [.Name "words" a4] [] a5) a6, .Assign [.Attribute (.Name "self" q1) "thing" q2] (.Name "thing" q3) q4]
def iS : Scope := { kind := .function, names := [(PySem.Str.ofString "self", .local), (PySem.Str.ofString "thing", .local), (PySem.Str.ofString "words", .local), (PySem.Str.ofString "__class__", .free), (PySem.Str.ofString "super", .globalImplicit)], isGenerator := false, isCoroutine := false, more := [] }
/-- what the written part says of an own error at C (DyeError, or a class of it without more), of DyeError at D and its __init__ at fI -/
structure DyeTxt (prog : Program) (K : Frag) (D C fI : Addr) : Prop where
  cls : ∃ nm q N bs bm sn sub ab col dd k0 k1 k2 k3 k5, K.lookup C = some (excClassObj nm q C N bs bm true sn sub ab col dd k0 k1 k2 k3 k5 "ValueError.__new__") ∧ refsVE bm = true
  sa : findIn K (.ref C) "__setattr__" = some (some (.builtin "object.__setattr__"))
  noN : findIn K (.ref C) "thing" = some none
  iC : findIn K (.ref C) "__init__" = some (some (.ref fI))
  tC : typeIn K (.ref fI) = some (.type "function")
  kC : keepIn K (.ref C) = true
  exC : subIn K (.ref C) (.type "BaseException") = some true
  tyC : typeIn K (.ref C) = some (.type "type")
  q : excInitIn K C veTail "ValueError.__new__" = true
  hm : ks_superIn K C D "__init__" = some (some (.builtin "ValueError.__init__"))
  hB : subIn K (.ref C) (.type "ValueError") = some true
  hsub : mroIn K C (.ref D) = some true
  hsuper : nsIn K mainGlobals "super" = some none
  ho : nsIn K cStatics "thirdparty.any" = some none
  htop : (prog.main.scope.names.lookup ("super" : Str)).isSome = false
  fn : ∃ (dT : Addr) (dO : Obj) (dI : Value) (dN : Nat) (oc : Value) (od : Option Addr) (doc pm : Value) (an : Option Addr) (ct : Value) (cda cc : Addr) (osl : Array (Option Value)) (p1 p2 p3 p4 : Pos) (j : Nat) (a1 a2 a3 a4 a5 a6 q1 q2 q3 q4 : Pos)
      (ccl cl : Value) (cdd cld : Option Addr) (ccs csl : Array (Option Value)) (vs : Array Value) (file : Str) (tf : Tok) (cdD : ClassData),
    (a3.endLine == a5.line) = true ∧ K.lookup fI = some ⟨oc, od, .func (ksFn "__init__" "DyeError.__init__" (iA p1 p2 p3 p4 j) (iB a1 a2 a3 a4 a5 a6 q1 q2 q3 q4) iS (.ref dT) .none doc pm an (.ref cda) ct cc), osl⟩ ∧ K.lookup dT = some dO ∧ dO.data = .seq #[dI] dN ∧ codeIn K (.ref cda) "DyeError.__init__" = true ∧
    K.lookup cda = some ⟨ccl, cdd, .fields vs, ccs⟩ ∧ vs[2]? = some (.str file tf) ∧ ((prog.main.file : Str) == file) = true ∧ K.lookup cc = some ⟨cl, cld, .cell (some (.ref D)), csl⟩ ∧ clsIn K D = some cdD
/-- what __init__ leaves of a fresh exception at x -/
structure InitEnd (h h' : Heap) (x C dx t1 : Addr) (v : Value) : Prop where
  keep : ∀ b o, b ≠ x → h.get? b = some o → h'.get? b = some o
  obj : h'.get? x = some { cls := .ref C, dict := some dx, data := .fields #[.ref t1, .none, .none, .none, .bool false, .none] }
  dbig : h.objs.size ≤ dx
  dne : dx ≠ x
  ns : h'.Ns1 dx (fun y => if y = "thing" then some v else none)
structure OwnMade (h h' : Heap) (e C d : Addr) (v : Value) : Prop where
  keep : ∀ b o, h.get? b = some o → h'.get? b = some o
  new : h.objs.size ≤ e
  obj : ∃ oe vs, h'.get? e = some oe ∧ oe.cls = .ref C ∧ oe.dict = some d ∧ oe.data = .fields vs ∧ vs[1]? = some .none
  dbig : h.objs.size ≤ d
  dne : d ≠ e
  ns : h'.Ns1 d (fun y => if y = "thing" then some v else none)
theorem two_size (v u : Value) : [v, u].length ≤ sizeLine := by rw [sizeLine_eq]; exact (by decide : 2 ≤ 16777216)
theorem one_size (v : Value) : [v].length ≤ sizeLine := by rw [sizeLine_eq]; exact (by decide : 1 ≤ 16777216)
section
variable {prog : Program} {w : World} {A : Around} {E : Value → Shared → Prop} {R : Result → Shared → Prop} {s : Shared} {K : Frag} {mg mb : Str → Option Value} {D C fI : Addr}
theorem dye_init (T : DyeTxt prog K D C fI) {x t0 : Addr} {v u : Value} (X : K.In s.heap) (hlim : s.heap.NoLimit) (Gm : s.heap.Ns mainGlobals mg) (Gb : s.heap.Ns builtinsNs mb) (hb : ∀ y : Str, y ≠ "__name__" → mb y = bootBuiltins y)
    (hx : s.heap.get? x = some (excO C t0)) (hnx : K.lookup x = none) (hnm : x ≠ mainGlobals) (hnb : x ≠ builtinsNs) (hroom : A.depth < recursionLimit)
    (hq : ∀ h' tk dx t1, InitEnd s.heap h' x C dx t1 v → R (.ok (.ret .none)) { s with heap := h', toks := tk }) :
    codeAny (model prog w) A (.call (.ref fI) ⟨[.ref x, v, u], []⟩) R s := by
  obtain ⟨dT, dO, dI, dN, oc, od, doc, pm, an, ct, cda, cc, osl, p1, p2, p3, p4, j, a1, a2, a3, a4, a5, a6, q1, q2, q3, q4, ccl, cl, cdd, cld, ccs, csl, vs, file, tf, cdD, hline, hfI, hdT, hdO, hcd, hcda, hvs, hfile, hcc, hD⟩ := T.fn
  obtain ⟨nm, q, N, bs, bm, sn, sub, ab, col, dd, k0, k1, k2, k3, k5, hC, hbm⟩ := T.cls
  have hcl : clsIn K C = some { name := nm, bases := bs, mro := .ref C :: bm, ns := N, qualname := q, hasDict := true, slotNames := sn, subclasses := sub, abstract := ab, collection := col, hasDel := false } := by unfold clsIn; rw [hC] <;> rfl
  -- the ground: the heap without x
  have Xg : K.In (hideAll s.heap [x]) := fun a o e => hideAll_get _ (X a o e) fun hm => by
    have : a = x := by simpa using hm
    rw [this, hnx] at e; cases e
  refine ks_codeAny_call_defAt (fd := ksFn "__init__" "DyeError.__init__" (iA p1 p2 p3 p4 j) (iB a1 a2 a3 a4 a5 a6 q1 q2 q3 q4) iS (.ref dT) .none doc pm an (.ref cda) ct cc) (body := iB a1 a2 a3 a4 a5 a6 q1 q2 q3 q4) (binds := [("self", .ref x), ("thing", v), ("words", u)])
    hroom (X _ _ hfI) rfl hlim (codeRec_of X hcd) rfl (L2.BindsTo.of_looks fun M => L2.looks_items X hdT hdO (PySem.W.Looks.of_pure (by first | rfl | with_unfolding_all rfl))) (by intro y hy; simp only [ksFn, fnX, iS, List.mem_cons, List.not_mem_nil, or_false] at hy; rcases hy with rfl | rfl | rfl | rfl | rfl <;> (intro z; cases z)) (by intro y hy; simp only [List.mem_cons, List.not_mem_nil, or_false] at hy; rcases hy with rfl | rfl | rfl <;> rfl) (fun h₁ hns hk₁ => ?_) rfl rfl rfl
  have F : Fr (hideAll s.heap [x]) s.heap.objs.size h₁ (fun y => [(("self" : Str), Value.ref x), ("thing", v), ("words", u)].reverse.lookup y) := ⟨hns, fun b o e => hk₁ b o (of_hideAll _ e), Nat.le_of_eq (hideAll_size _ _)⟩
  have hxL : x ≠ s.heap.objs.size := Nat.ne_of_lt (Heap.lt_size hx)
  have hx0 : (hideAll s.heap [x]).get? x = none := hideAll_none _ (by simp)
  have N0 : News (hideAll s.heap [x]) s.heap.objs.size h₁ [(x, excObj C t0 none .none)] := fun p hp => by
    have : p = (x, excObj C t0 none .none) := by simpa using hp
    rw [this]
    exact ⟨hk₁ _ _ hx, hxL, hx0⟩
  have I0 : PySem.W.InstAt h₁ x (excObj C t0 none .none) C none := ⟨hk₁ _ _ hx, rfl, rfl, trivial⟩
  have X1 : K.In h₁ := X.keeps hk₁
  have hbase : ∀ {whole : Sem Value} {Q : Value → Shared → Prop} {s1 : Shared}, s1.heap = h₁ → (∀ so h', Fr (hideAll s.heap [x]) s.heap.objs.size h' (fun y => [(("self" : Str), Value.ref x), ("thing", v), ("words", u)].reverse.lookup y) → News (hideAll s.heap [x]) s.heap.objs.size h' ((so, ks_superObj D x C) :: [(x, excObj C t0 none .none)]) → (∀ b o, h₁.get? b = some o → h'.get? b = some o) → x < so → Q (.ref so) { s1 with heap := h' }) →
      _root_.PySem.wpAt (model prog w) (A.deeper (ksEnv "DyeError.__init__" iS s.heap.objs.size fI (.ref cda) cc)) (.func (iB a1 a2 a3 a4 a5 a6 q1 q2 q3 q4) (ksEnv "DyeError.__init__" iS s.heap.objs.size fI (.ref cda) cc))
        (attributeBase (.Call (.Name "super" a1) [] [] a2) "__init__" (ksEnv "DyeError.__init__" iS s.heap.objs.size fI (.ref cda) cc) whole) Q
        (fun e s' => wpAny (model prog w) (A.deeper (ksEnv "DyeError.__init__" iS s.heap.objs.size fI (.ref cda) cc)) (leaving (ksEnv "DyeError.__init__" iS s.heap.objs.size fI (.ref cda) cc) e) (fun _ s'' => R (.error e) s'') (fun e' s'' => R (.error e') s'') s') s1 := by
    intro whole Q s1 e1 hQ
    obtain ⟨hh, g, d, t, os⟩ := s1
    have e1 : hh = h₁ := e1
    subst e1
    obtain ⟨oD, hD1, hD2⟩ : ∃ oD, hh.get? D = some oD ∧ oD.data = .cls cdD := by
      unfold clsIn at hD
      split at hD
      · rename_i c d cd' sl ho
        cases hD
        exact ⟨_, X1 _ _ ho, rfl⟩
      · cases hD
    refine ks_wpAt_super_base (env := ksEnv "DyeError.__init__" iS s.heap.objs.size fI (.ref cda) cc) rfl rfl rfl rfl (X1 _ _ hfI) rfl rfl rfl (X1 _ _ hcda) rfl hvs hfile T.htop ?_
    refine ks_loadName_global rfl rfl (loadGlobal_builtin (env := ksEnv "DyeError.__init__" iS s.heap.objs.size fI (.ref cda) cc) (Gm.keeps hk₁) (mg_none_of X Gm T.hsuper) (Gb.keeps hk₁) ((hb _ (by decide +kernel)).trans (by decide +kernel)) ⟨rfl, ?_⟩)
    refine wpAny_loadName_free rfl rfl rfl ⟨_, X1 _ _ hcc, rfl⟩ ?_
    refine wpAny_loadName_local rfl rfl hns (by rfl) ?_
    refine ks_wpAny_isType_cls hD1 hD2 ⟨rfl, ?_⟩
    refine ks_wpAny_call_super hD1 hD2 I0.at_ I0.cls (fun c e => ?_) (looks_mroIn X1 T.hsub) (fun h' e k => ?_)
    · have := I0.no
      unfold notCls at this
      rw [e] at this
      exact Bool.noConfusion this
    · obtain ⟨F', N', l'⟩ := ks_newsPush (s := ⟨hh, g, d, t, os⟩) F N0 rfl e k
      exact hQ _ _ F' N' k (l' (x, excObj C t0 none .none) List.mem_cons_self)
  refine ks_wpAt_execs_cons (ks_wpAt_Expr_any ?_ rfl)
  refine ks_wpAt_MethodCall (pl := L2.plainOf (.Call (.Name "super" a1) [] [] a2) (ksEnv "DyeError.__init__" iS s.heap.objs.size fI (.ref cda) cc)) (hbase rfl fun so h2 F2 N2 k2 lso => ?_) ?_
  · have X2 : K.In (hideAll s.heap [x]) := Xg
    have Ix2 : PySem.W.InstAt h2 x (excObj C t0 none .none) C none := ⟨k2 _ _ (hk₁ _ _ hx), rfl, rfl, trivial⟩
    refine kxs_method kxs_ValueError F2 X2 N2 List.mem_cons_self Ix2 T.ho T.hm T.hB rfl fun q h3 F3 N3 l3 => ?_
    refine kxs_callWith1 N3 List.mem_cons_self ?_ rfl rfl
    refine Calls.spliced_cons (wpAny_Name (wpAny_loadName_local rfl rfl F3.ns (by rfl) ?_) (by decide))
    refine Calls.spliced_nil ⟨kxs_at N3 List.mem_cons_self, ?_⟩
    have q1 : x < q := l3 (x, excObj C t0 none .none) (by simp)
    refine kxs_call F3 X2 N3 _root_.PySem.F.excBase_ValueError T.q List.mem_cons_self (.tail (Nat.ne_of_gt q1) (.tail (Nat.ne_of_gt lso) (.head (fun p hp => nomatch hp)))) (one_size u) fun t' h4 F4 N4 l4 => ?_
    have X4 : K.In h4 := Xg.keeps F4.keep
    have hx4 : h4.get? x = some (excO C t') := (N4 (x, excObj C t' none .none) (by simp)).1
    refine ks_wpAt_execs_cons (ks_wpAt_Assign_Attr (wpAt_of_wpAny (wpAny_Name (wpAny_loadName_local (v := v) rfl rfl F4.ns (by rfl) (wpAny_Name (wpAny_loadName_local (v := .ref x) rfl rfl F4.ns (by rfl) ?_) (by decide))) (by decide))) rfl)
    refine set_plain X4 (ox := excO C t') (od := none) ⟨hx4, rfl, rfl, trivial⟩ T.sa ?_
    refine exc_osa X4 hx4 hcl (show refsVE (.ref C :: bm) = true from hbm) rfl T.noN (fun h5 tk5 dx k5' dn dne hx5 hn5 => ?_)
    refine wpAt_of_wpAny (wpAny_execs_nil (hq h5 tk5 dx t' ⟨fun b o hb' e => ?_, hx5, ?_, dne, hn5⟩))
    · exact k5' b o hb' (F4.keep b o (hideAll_get _ e fun hm => hb' (by simpa using hm)))
    · have z : s.heap.objs.size < h4.objs.size := F4.ns.lt
      exact Nat.le_of_lt (Nat.lt_of_lt_of_le z dn)
  · have e : ∀ ov, methodCall (.Call (.Name "super" a1) [] [] a2) "__init__" a3 a5 (ksEnv "DyeError.__init__" iS s.heap.objs.size fI (.ref cda) cc) ov 1 (backTo a5 (starEach [.Name "words" a4] (ksEnv "DyeError.__init__" iS s.heap.objs.size fI (.ref cda) cc))) [] = (do
        let (f, first) ← holding [ov] (getMethod ov "__init__" (L2.plainOf (.Call (.Name "super" a1) [] [] a2) (ksEnv "DyeError.__init__" iS s.heap.objs.size fI (.ref cda) cc)))
        callWith a5 f first (backTo a5 (starEach [.Name "words" a4] (ksEnv "DyeError.__init__" iS s.heap.objs.size fI (.ref cda) cc))) []) := fun ov => L2.mcall_line rfl hline
    exact congrArg (fun k => attributeBase (.Call (.Name "super" a1) [] [] a2) "__init__" (ksEnv "DyeError.__init__" iS s.heap.objs.size fI (.ref cda) cc) (eval (.Call (.Name "super" a1) [] [] a2) (ksEnv "DyeError.__init__" iS s.heap.objs.size fI (.ref cda) cc)) >>= fun ov => standAt a3.atName >>= fun _ => k ov) (funext e)
theorem dye_made (T : DyeTxt prog K D C fI) {v u : Value} (X : K.In s.heap) (hlim : s.heap.NoLimit) (Gm : s.heap.Ns mainGlobals mg) (Gb : s.heap.Ns builtinsNs mb) (hb : ∀ y : Str, y ≠ "__name__" → mb y = bootBuiltins y) (hroom : A.depth + 1 < recursionLimit)
    (hq : ∀ h' tk e d, OwnMade s.heap h' e C d v → R (.ok (.ret (.ref e))) { s with heap := h', toks := tk }) :
    codeAny (model prog w) A (.call (.ref C) ⟨[v, u], []⟩) R s := by
  obtain ⟨nm, q, N, bs, bm, sn, sub, ab, col, dd, k0, k1, k2, k3, k5, hC, hbm⟩ := T.cls
  obtain ⟨hp, g, dr, tk, os⟩ := s
  have k : ∀ b o, hp.get? b = some o → ((hp.push (kdv_tup [v, u])).push (excO C hp.objs.size)).get? b = some o := fun b o e => Heap.get?_push_of_some _ (Heap.get?_push_of_some _ e)
  have hget : ((hp.push (kdv_tup [v, u])).push (excO C hp.objs.size)).get? (hp.objs.size + 1) = some (excO C hp.objs.size) := by heap_get
  have hnx : K.lookup (hp.objs.size + 1) = none := by
    cases e : K.lookup (hp.objs.size + 1) with
    | none => rfl
    | some o =>
      have z : hp.get? (hp.objs.size + 1) = some o := X _ _ e
      exact absurd (Nat.lt_of_succ_lt (Heap.lt_size z)) (Nat.lt_irrefl _)
  have n1 : hp.objs.size + 1 ≠ mainGlobals := fun z => by have := Gm.lt; rw [← z] at this; exact absurd (Nat.lt_of_succ_lt this) (Nat.lt_irrefl _)
  have n2 : hp.objs.size + 1 ≠ builtinsNs := fun z => by have := Gb.lt; rw [← z] at this; exact absurd (Nat.lt_of_succ_lt this) (Nat.lt_irrefl _)
  refine call_own F.excBase_ValueError (fun X => refsVE_contains X bm hbm) (X _ _ hC) (looks_findIn X T.iC) (fun self => bind_fn X self T.tC) (two_size v u) ?_
  refine dye_init (s := ⟨(hp.push (kdv_tup [v, u])).push (excO C hp.objs.size), g, dr, tk, os⟩) T (X.keeps k) (hlim.keeps k) (Gm.keeps k) (Gb.keeps k) hb hget hnx n1 n2 ?_ fun h' tk' dx t1 ⟨k', hx, dn, dne, hns⟩ => ?_
  · show A.depth + 1 < recursionLimit
    exact hroom
  · have old : ∀ b o, hp.get? b = some o → h'.get? b = some o := fun b o e => k' b o (Nat.ne_of_lt (Nat.lt_succ_of_lt (Heap.lt_size e))) (k b o e)
    have z : hp.objs.size + 1 + 1 ≤ dx := by
      first
        | (simpa only [Heap.size_push] using dn)
        | exact dn
        | (have q := dn; rw [Heap.size_push, Heap.size_push] at q; exact q)
    exact ⟨rfl, hq h' tk' (hp.objs.size + 1) dx ⟨old, Nat.le_succ _, ⟨_, _, hx, rfl, rfl, rfl, rfl⟩, Nat.le_trans (Nat.le_trans (Nat.le_succ _) (Nat.le_succ _)) z, dne, hns⟩⟩
end
end DyeX
end PySem
namespace L2
open PySem PySem.Spec PyProof.Rows
theorem relO_thing {v : V} {v' : Value} (r : RelV v v') (f : Str) : RelO (List.lookup f [(("thing" : Str), v)]) (if f = "thing" then some v' else none) := by
  by_cases hw : f = "thing"
  · subst hw
    rw [if_pos rfl]
    have q : List.lookup ("thing" : Str) [(("thing" : Str), v)] = some v := by simp [List.lookup]
    rw [q]
    exact r
  · rw [if_neg hw]
    have qw : (f == ("thing" : Str)) = false := by simpa using hw
    have q2 : List.lookup f [(("thing" : Str), v)] = none := by simp [List.lookup, qw]
    rw [q2]
    trivial
section
variable {X : Cx} {D C fI : Addr}
/-- C(thing, words) -/
def tMkDye (C : Addr) (ta : TA) : St → Hp → XK → Prop := fun σ H Q => ta σ H fun vs H1 => ∃ v u, vs = [v, u] ∧ ∀ d, H1 d = none → Q (.ref C) (some d) (upd H1 d (.xd [(("thing" : Str), v)]))
theorem pmk_dye {x : Str} {a b : Expr} {ta : TA} {p pos : Pos} {k : Nat} (T : PySem.DyeX.DyeTxt X.prog X.K D C fI) (gC : X.mg x = some (.ref C)) (hr : Room k X.A) (ha : PA X [a, b] ta) (hg : Gl X x) (hdb : (x == ("__debug__" : Str)) = false)
    (he : starEach (a :: [b]) X.env = (false, eval a X.env) :: starEach [b] X.env) (hpl : (backTo pos (starEach [b] X.env)).any (·.1) = false) :
    PMk X (.Call (.Name x p) [a, b] [] pos) (tMkDye C ta) := by
  intro pins s σ H Q I h
  refine wpAny_Call_Name_kw (ld_glob I hg gC ?_ hdb)
  refine PySem.W.callWith_K (h₀ := X.base) I.ok.mod.kin T.kC (thn (ha.run pos pins s σ H _ I h) fun us s1 hh => ?_) he hpl
  obtain ⟨vs, H1, I1, r1, v, u, ev, q1⟩ := hh
  subst ev
  refine ⟨I1.kIn, ?_⟩
  obtain ⟨v', u', rfl, rv, ru⟩ := vals2 r1
  show wpAny _ _ (call (.ref C) [v', u']) _ _ _
  have hlim := I1.nolimit
  have hglob := I1.mod.glob.keeps I1.bk
  obtain ⟨mb, hblt, hboot⟩ := I1.mod.blt
  have hblt := hblt.keeps I1.bk
  obtain ⟨hp, g, dr, tk, os⟩ := s1
  refine wpAny_call (PySem.DyeX.dye_made T I1.kIn hlim hglob hblt hboot (by have := hr.dp; omega) fun h' tk' e d M => ?_)
  show MkP X pins σ Q (.ref e) ⟨h', g, dr, tk', os⟩
  obtain ⟨oe, fv, hoe, hc, hd, hdat, h1⟩ := M.obj
  have hns := M.ns
  obtain ⟨G', g1, g2⟩ := restrict h' fun b => decide (b ≠ e)
  have gk : ∀ b, b ≠ e → G'.get? b = h'.get? b := fun b hb => g1 b (decide_eq_true hb)
  have ge : G'.get? e = none := g2 e (by simp)
  have old : ∀ b o, hp.get? b = some o → G'.get? b = some o := fun b o q => (gk b (Nat.ne_of_lt (Nat.lt_of_lt_of_le (Heap.lt_size q) M.new))).trans (M.keep b o q)
  have ob : ObjOk X.prog X.w (upd H1 d (.xd [(("thing" : Str), v)])) G' d (.xd [(("thing" : Str), v)]) :=
    ⟨_, hns.at (fun o q => (gk d M.dne).trans q), fun f => relO_thing rv f⟩
  have J : Inv X pins σ (upd H1 d (.xd [(("thing" : Str), v)])) ⟨G', g, dr, tk', os⟩ := I1.laid (t' := tk') old M.dbig ob
  refine ⟨e, oe, fv, ⟨G', g, dr, tk', os⟩, _, .ref C, some d, rfl, J, fun b o q => ?_, ge, hoe, ⟨hc, hd⟩, hdat, h1, ?_, rfl, I1.bare, raises_own T.exC T.tyC, q1 d (I1.hok.fresh M.dbig)⟩
  · by_cases hb : b = e
    · have q' : G'.get? b = some o := q
      rw [hb, ge] at q'; cases q'
    · exact (gk b hb).symm.trans q
  · rw [upd_ne (Ne.symm M.dne)]
    exact I1.hok.fresh M.new
/-- raise C(thing, words) -/
def tRaiseDye (C : Addr) (W : WX) (ta : TA) : TS := fun _ σ H => tMkDye C ta σ H fun cls d H' => W cls d σ H'
theorem ps_raiseDye {x : Str} {a b : Expr} {ta : TA} {W : WX} {p pos pos2 : Pos} {k : Nat} (hc : X.calm = true) (T : PySem.DyeX.DyeTxt X.prog X.K D C fI) (gC : X.mg x = some (.ref C)) (hr : Room k X.A) (tk : Takes X W) (ha : PA X [a, b] ta) (hg : Gl X x := by rfl) (hdb : (x == ("__debug__" : Str)) = false := by decide)
    (he : starEach (a :: [b]) X.env = (false, eval a X.env) :: starEach [b] X.env := by rfl) (hpl : (backTo pos (starEach [b] X.env)).any (·.1) = false := by rfl) :
    PS X (.Raise (some (.Call (.Name x p) [a, b] [] pos)) none pos2) (tRaiseDye C W ta) := ps_raise hc tk (pmk_dye T gC hr ha hg hdb he hpl)
end
end L2
set_option Elab.async false
set_option linter.all false
set_option maxRecDepth 100000
set_option maxHeartbeats 2000000
namespace L2
open PySem PySem.Spec PyProof.Rows
/-! ### a caught exception, tracked -/
/-- the exception at a: its class, its own dict -/
def EXO (a : Addr) (cls : Value) (d : Option Addr) : HO := .ext fun h => ∃ oe vs, h.get? a = some oe ∧ oe.cls = cls ∧ oe.dict = d ∧ oe.data = .fields vs
theorem exo_ok' {P : Program} {w : World} {H : Hp} {h : Heap} {a : Addr} {cls : Value} {d : Option Addr} {oe : Obj} {vs : Array Value} (e : h.get? a = some oe) (h1 : oe.cls = cls) (h2 : oe.dict = d) (h3 : oe.data = .fields vs) : ObjOk P w H h a (EXO a cls d) :=
  ⟨⟨oe, vs, e, h1, h2, h3⟩, ⟨oe, e⟩, fun _ h2 ⟨o, vs, q, x⟩ k => ⟨o, vs, k o q, x⟩⟩
theorem exo_of {P : Program} {w : World} {H : Hp} {h : Heap} {a : Addr} {cls : Value} {d : Option Addr} (hok : HOk P w H h) (e : H a = some (EXO a cls d)) : ∃ oe vs, h.get? a = some oe ∧ oe.cls = cls ∧ oe.dict = d ∧ oe.data = .fields vs := (hok a _ e).1
section
variable {X : Cx} {pins : List (Addr × Obj)} {σ : St} {H : Hp} {s : Shared}
/-- into an except suite, the exception tracked -/
theorem Inv.suiteT (I : Inv X pins σ H s) {a : Addr} {oe : Obj} {vs : Array Value} {cls : Value} {d : Option Addr} (ha : s.heap.get? a = some oe) (h1 : oe.cls = cls) (h2 : oe.dict = d) (hd : oe.data = .fields vs) (na : H a = none)
    (n0 : X.s_0.heap.get? a = none) (npin : ∀ p ∈ X.pn ++ pins, p.1 ≠ a) (nL : a ≠ X.env.locals) :
    Inv (X.suite a (X.pn ++ pins)) [] σ (upd H a (EXO a cls d)) s := by
  have ne : ∀ b o, H b = some o → b ≠ a := fun b o e => ne_of_none e na
  refine ⟨I.ok.suite _ _, I.os, I.bare, ⟨I.base.keep, I.base.slot, fun b o e n hx => ?_, I.base.there, fun b xs e => ?_, fun b o xs e => ?_, fun b ps e => ?_⟩, I.loc, I.cell, ?_, fun x c e => ?_, fun p hp => ?_, fun b u e => ?_, I.len⟩
  · have q : b ≠ a := fun z => by rw [z, n0] at e; cases e
    rw [upd_ne q]; exact I.base.free b o e n hx
  · have q := I.base.tups b xs e
    rw [upd_ne (ne _ _ q)]; exact q
  · have q := I.base.frzs b o xs e
    rw [upd_ne (ne _ _ q)]; exact q
  · obtain ⟨m, q⟩ := I.base.tbls b ps e
    exact ⟨m, by rw [upd_ne (ne _ _ q)]; exact q⟩
  · rw [upd_ne (Ne.symm nL)]; exact I.free
  · have q : c ≠ a := fun z => by
      obtain ⟨v, o, ho, hv⟩ := I.cell x c e
      rw [z, ha] at ho; cases ho; rw [hd] at hv; cases hv
    rw [upd_ne q]; exact I.freeC x c e
  · have hp' : p ∈ X.pn ++ pins := by rw [List.append_nil] at hp; exact hp
    obtain ⟨q1, q2, q3, q4, q5⟩ := I.pin p hp'
    exact ⟨q1, by rw [upd_ne (npin p hp')]; exact q2, q3, q4, q5⟩
  · by_cases q : b = a
    · subst q; rw [upd_same] at e; cases e
      exact exo_ok' ha h1 h2 hd
    · rw [upd_ne q] at e
      refine (I.hok b u e).stay (fun _ _ _ z => z) (fun c z => ?_) fun c xs z => ?_
      · rw [upd_ne (ne _ _ z)]; exact z
      · rw [upd_ne (ne _ _ z)]; exact z
theorem Inv.unsuiteT {a : Addr} {pn' : List (Addr × Obj)} (I : Inv (X.suite a (X.pn ++ pins)) pn' σ H s) (ok : X.Ok) : Inv X pins σ H s :=
  ⟨ok, I.os, I.bare, I.base, I.loc, I.cell, I.free, I.freeC, fun p hp => I.pin p (List.mem_append_left _ hp), I.hok, I.len⟩
end
/-- what the clauses wish of an exception of the body, one after the other; i: the slot of «as n» -/
def endI (i : Option Nat) (σ : St) : St := match i with | some i => σ.set i none | none => σ
def setI (i : Option Nat) (a : Addr) (σ : St) : St := match i with | some i => σ.set i (some (.ref a)) | none => σ
def wManyA (K : PySem.W.Frag) (Wout : WX) (D : Ends) : List (Value × Option Nat × TS) → WX
  | [] => Wout
  | (c, i, ts) :: r => fun cls d σ H => ∃ b, PySem.W.exmOne K cls c = some b ∧ (b = true → ∀ a, H a = none → ts { nx := fun σ' H' => D.nx (endI i σ') H', rt := D.rt, bk := fun σ' H' => D.bk (endI i σ') H', ct := fun σ' H' => D.ct (endI i σ') H' } (setI i a σ) (upd H a (EXO a cls d))) ∧ (b = false → wManyA K Wout D r cls d σ H)
inductive HdsOkA (X : Cx) : List ExceptHandler → List (Value × Option Nat × TS) → Prop
  | nil : HdsOkA X [] []
  | bare {x : Str} {c : Value} {ts : TS} {b₀ : Stmt} {suite : List Stmt} {np pos' : Pos} {hds : List ExceptHandler} {l : List (Value × Option Nat × TS)} (hc : Names X x c)
      (hsu : ∀ (a : Addr) (pn : List (Addr × Obj)), PSs (X.suite a pn) (b₀ :: suite) ts) (r : HdsOkA X hds l) :
      HdsOkA X (.ExceptHandler (some (.Name x np)) none (b₀ :: suite) pos' :: hds) ((c, none, ts) :: l)
  | as_ {x n : Str} {c : Value} {i : Nat} {ts : TS} {b₀ : Stmt} {suite : List Stmt} {np pos' : Pos} {hds : List ExceptHandler} {l : List (Value × Option Nat × TS)} (hc : Names X x c) (hi : X.N[i]? = some n) (hln : X.env.kindOf n = some .local)
      (hsu : ∀ (a : Addr) (pn : List (Addr × Obj)), PSs (X.suite a pn) (b₀ :: suite) ts) (r : HdsOkA X hds l) :
      HdsOkA X (.ExceptHandler (some (.Name x np)) (some n) (b₀ :: suite) pos' :: hds) ((c, some i, ts) :: l)
section
variable {X : Cx} {body : List Stmt} {h₀ : ExceptHandler} {hds : List ExceptHandler} {l : List (Value × Option Nat × TS)} {pos : Pos} {tb : WX → TS} {Wout : WX}
theorem ps_try_manyA (hs : X.stack = X.env :: X.outer) (hf : X.env.frame = some X.env.locals) (hN : X.N.Nodup) (hex : X.ex = []) (tk : Takes X Wout)
    (hb : ∀ (W : WX) (pn : List (Addr × Obj)) (xe : Value → Shared → Prop), Takes (X.tr pn xe) W → PassesOwn (model X.prog X.w) X.A X.env xe → PSs (X.tr pn xe) body (tb W))
    (hh : HdsOkA X (h₀ :: hds) l) : PS X (.Try body (h₀ :: hds) [] [] pos) (fun D σ H => tb (wManyA X.K Wout D l) D σ H) := by
  refine ⟨fun pins s σ H D I h => ?_⟩
  have ok := I.ok
  have hfr : X.A.frames = some (X.env :: X.outer) := by rw [ok.frames, hs]
  refine wpAny_Try_except ?_
  refine wpAny_mono ((hb (wManyA X.K Wout D l) (X.pn ++ pins) (fun e s₁ => wpAny (model X.prog X.w) X.A (noteFrame e X.env) (fun _ s₂ => wpAny (model X.prog X.w) X.A (setFlight e none) (fun _ s₃ =>
    wpAny (model X.prog X.w) X.A (handleBy e X.env (h₀ :: hds)) (SP X pins D) X.xe s₃) X.xe s₂) X.xe s₁) (fun u s' xx => ?_) PassesOwn.looking).run [] s σ H D (I.toTry _) h) (fun f s1 hsp => ?_) (fun e s1 he => he)
  · -- the catch
    obtain ⟨a, B, sI, pins', σ', H', cls, d, rfl, J', nb, up, sky, na, os, ag, w⟩ := xx
    have J : Inv X pins σ' H' sI := J'.ofTry ok
    have sky' : Sky B (X.env :: X.outer) a (Zc cls d) X.env.locals s'.heap := by rw [← hs]; exact sky
    show wpAny (model X.prog X.w) X.A (noteFrame (.ref a) X.env) _ _ _
    refine Sky.land Zc.steady hfr hf sky' fun h3 fl3 up3 => ?_
    have J3 : Inv X pins σ' H' { s' with heap := h3 } := J.landed nb fl3.1 (up.trans up3) os ag
    obtain ⟨oe3, vs3, he3, hz3, hd3⟩ := fl3.there
    have notFr : ∀ {h : Heap} {o : Obj} {vs : Array Value}, h.FunFrames B (X.env :: X.outer) → h.get? a = some o → o.data = .fields vs → a ∉ frs (X.env :: X.outer) := fun {h o vs} ff e dd hm => by
      obtain ⟨_, o', e', hnf⟩ := ff.mem hm
      rw [e] at e'; cases e'
      exact hnf _ dd
    have nfr := notFr fl3.2.2.1 he3 hd3
    have nL : a ≠ X.env.locals := fun z => nfr (List.mem_filterMap.mpr ⟨X.env, List.mem_cons_self, by rw [hf, z]⟩)
    have nF : a ∉ X.fs := fun hm => by
      obtain ⟨e, he, q⟩ := List.mem_filterMap.mp hm
      exact nfr (List.mem_filterMap.mpr ⟨e, List.mem_cons_of_mem _ he, q⟩)
    have S3 := J3.suite he3 hd3 na nL nF
    have gI : sI.heap.get? a = none := by
      cases q : sI.heap.get? a with
      | none => rfl
      | some o =>
        have z := nb a o q (by rw [hs]; exact nfr)
        rw [fl3.2.1] at z; cases z
    have n0 : X.s_0.heap.get? a = none := by
      cases q : X.s_0.heap.get? a with
      | none => rfl
      | some o =>
        obtain ⟨o', z⟩ := J.base.there a o q (by rw [hex]; simp)
        rw [gI] at z; cases z
    have npin : ∀ p ∈ X.pn ++ pins, p.1 ≠ a := fun p hp z => by
      have := (J.pin p hp).1
      rw [z, gI] at this; cases this
    have go : ∀ {hds' : List ExceptHandler} {l' : List (Value × Option Nat × TS)}, HdsOkA X hds' l' → wManyA X.K Wout D l' cls d σ' H' →
        wpAny (model X.prog X.w) X.A (handleBy (.ref a) X.env hds') (SP X pins D) X.xe { s' with heap := h3 } := by
      intro hds' l' hk
      induction hk with
      | nil =>
        intro w
        refine wpAny_handleBy_nil ?_
        obtain ⟨k1, k2, k3, oe, vs, T, oT, ts', he, hz, hd, h1, hr⟩ := id fl3
        unfold PySem.passOn
        refine wpAny_bind (wpAny_field he hd h1 ?_)
        rw [if_neg (show ¬ ((Value.ref T == Value.none) = true) from by simp)]
        have fin : wpAny (model X.prog X.w) X.A (setFlight (.ref a) X.env.frame) (fun _ s4 => wpAny (model X.prog X.w) X.A (throw (.ref a) : Sem Flow) (SP X pins D) X.xe s4) X.xe { s' with heap := h3 } := by
          rw [hf]
          refine HandSPX.setFlight_upZ fl3 fun h4 hh4 up4 => wpAny_throw (tk _ _ ?_)
          exact ⟨a, B, sI, pins, σ', H', cls, d, rfl, J, nb, (up.trans up3).trans up4, .inr (.inr (by rw [hs]; exact hh4)), na, os, ag, w⟩
        first
          | exact wpAny_bind (wpAny_pure (wpAny_bind fin))
          | exact wpAny_bind fin
      | @bare x c ts b₀ suite np pos' hds2 l2 hc hsu r ih =>
        intro w
        obtain ⟨b, hb1, hyes, hno⟩ := w
        refine wpAny_handleBy_cons (codeAny_handlers_test ?_) (by intro q; cases q)
        have LT : PySem.W.Looks (model X.prog X.w) h3 (typeOf (.ref a)) cls := fun A Q E s k q => wpAny_typeOf_ref (k _ _ he3) (by rw [hz3.1]; exact q)
        have LM := PySem.W.exm_one (M := model X.prog X.w) (J3.kIn) LT hb1
        have test : ∀ {Q : Value → Shared → Prop} {E : Value → Shared → Prop}, Q c { s' with heap := h3 } → wpAny (model X.prog X.w) (X.A.mark (some (.ref a))) (eval (.Name x np) X.env) Q E { s' with heap := h3 } := fun {Q E} q => by
          obtain ⟨hg, hdbg, hm | ⟨hm, hv, hnn⟩⟩ := hc
          · exact ld_glob (X := X.suite a ((a, oe3) :: (X.pn ++ pins))) S3 hg hm q hdbg
          · exact ld_blt (X := X.suite a ((a, oe3) :: (X.pn ++ pins))) S3 hg hm hv q hnn hdbg
        refine test (LM.here ?_)
        cases b with
        | true =>
          refine codeAny_handlers_suite ?_
          refine HandSPX.lands_againZ fl3 fun h4 fl4 up4 => ?_
          have J4 : Inv X pins σ' H' { s' with heap := h4 } := J.landed nb fl4.1 ((up.trans up3).trans up4) os ag
          obtain ⟨oe4, vs4, he4, hz4, hd4⟩ := fl4.there
          have S4 := J4.suiteT he4 hz4.1 hz4.2 hd4 na n0 npin nL
          refine wpAny_mono ((hsu a (X.pn ++ pins)).run [] _ _ _ _ S4 (hyes rfl a na)) (fun f s6 hsp => ?_) (fun _ _ z => False.elim z)
          cases f with
          | next =>
            obtain ⟨σ6, H6, S6, q6⟩ := hsp
            exact ⟨_, _, S6.unsuiteT ok, q6⟩
          | brk =>
            obtain ⟨σ6, H6, S6, q6⟩ := hsp
            exact ⟨_, _, S6.unsuiteT ok, q6⟩
          | cont =>
            obtain ⟨σ6, H6, S6, q6⟩ := hsp
            exact ⟨_, _, S6.unsuiteT ok, q6⟩
          | ret u =>
            obtain ⟨v6, σ6, H6, S6, r6, q6⟩ := hsp
            exact ⟨_, _, _, S6.unsuiteT ok, r6, q6⟩
        | false =>
          show wpAny _ X.A (handleBy (.ref a) X.env hds2) _ _ _
          exact ih (hno rfl)
      | @as_ x n c i ts b₀ suite np pos' hds2 l2 hc hi hln hsu r ih =>
        intro w
        obtain ⟨b, hb1, hyes, hno⟩ := w
        refine wpAny_handleBy_cons (codeAny_handlers_test ?_) (by intro q; cases q)
        have LT : PySem.W.Looks (model X.prog X.w) h3 (typeOf (.ref a)) cls := fun A Q E s k q => wpAny_typeOf_ref (k _ _ he3) (by rw [hz3.1]; exact q)
        have LM := PySem.W.exm_one (M := model X.prog X.w) (J3.kIn) LT hb1
        have test : ∀ {Q : Value → Shared → Prop} {E : Value → Shared → Prop}, Q c { s' with heap := h3 } → wpAny (model X.prog X.w) (X.A.mark (some (.ref a))) (eval (.Name x np) X.env) Q E { s' with heap := h3 } := fun {Q E} q => by
          obtain ⟨hg, hdbg, hm | ⟨hm, hv, hnn⟩⟩ := hc
          · exact ld_glob (X := X.suite a ((a, oe3) :: (X.pn ++ pins))) S3 hg hm q hdbg
          · exact ld_blt (X := X.suite a ((a, oe3) :: (X.pn ++ pins))) S3 hg hm hv q hnn hdbg
        refine test (LM.here ?_)
        cases b with
        | true =>
          refine codeAny_handlers_suite_as ?_
          refine HandSPX.lands_againZ fl3 fun h4 fl4 up4 => ?_
          have J4 : Inv X pins σ' H' { s' with heap := h4 } := J.landed nb fl4.1 ((up.trans up3).trans up4) os ag
          obtain ⟨oe4, vs4, he4, hz4, hd4⟩ := fl4.there
          have S4 := J4.suiteT he4 hz4.1 hz4.2 hd4 na n0 npin nL
          refine store_ok (X := X.suite a (X.pn ++ pins)) (v := .ref a) S4 hN hi (.inl hln) rfl (fun s5 S5 => ?_) (.inr hln)
          refine wpAny_mono ((hsu a (X.pn ++ pins)).run [] s5 _ _ _ S5 (hyes rfl a na)) (fun f s6 hsp => ?_) (fun _ _ z => False.elim z)
          have end_ : ∀ {σ6 : St} {H6 : Hp} {Q : Shared → Prop}, Inv (X.suite a (X.pn ++ pins)) [] σ6 H6 s6 → (∀ s7, Inv X pins (σ6.set i none) H6 s7 → Q s7) →
              wpAny (model X.prog X.w) X.A (do bindName X.env n .none; unbindBehindTheSuite X.env n pos') (fun _ s7 => Q s7) X.xe s6 := fun {σ6 H6 Q} S6 hq => gone_ok (S6.unsuiteT ok) hN hi hln hq
          cases f with
          | next =>
            obtain ⟨σ6, H6, S6, q6⟩ := hsp
            exact end_ S6 fun s7 J7 => ⟨_, _, J7, q6⟩
          | brk =>
            obtain ⟨σ6, H6, S6, q6⟩ := hsp
            exact end_ S6 fun s7 J7 => ⟨_, _, J7, q6⟩
          | cont =>
            obtain ⟨σ6, H6, S6, q6⟩ := hsp
            exact end_ S6 fun s7 J7 => ⟨_, _, J7, q6⟩
          | ret u =>
            obtain ⟨v6, σ6, H6, S6, r6, q6⟩ := hsp
            exact end_ S6 fun s7 J7 => ⟨_, _, _, J7, r6, q6⟩
        | false =>
          show wpAny _ X.A (handleBy (.ref a) X.env hds2) _ _ _
          exact ih (hno rfl)
    exact go hh w
  · cases f with
    | next =>
      obtain ⟨σ', H', J', q⟩ := hsp
      exact wpAny_execs_nil ⟨σ', H', J'.ofTry ok, q⟩
    | brk =>
      obtain ⟨σ', H', J', q⟩ := hsp
      exact ⟨σ', H', J'.ofTry ok, q⟩
    | cont =>
      obtain ⟨σ', H', J', q⟩ := hsp
      exact ⟨σ', H', J'.ofTry ok, q⟩
    | ret u =>
      obtain ⟨v, σ', H', J', r, q⟩ := hsp
      exact ⟨v, σ', H', J'.ofTry ok, r, q⟩
end
end L2
set_option Elab.async false
set_option linter.all false
set_option maxRecDepth 100000
set_option maxHeartbeats 2000000
namespace T3
open PySem L2
open Evl (Ex)

/-- values of the pure layer: tuples, frozen lists and frozen instances are values -/
inductive D where
  | non | bl (b : Bool) | int (i : Int) | str (x : Str) | ty (n : String) | ref (a : Addr)
  | tup (xs : List D) | lst (xs : List D)
  | ins (C : Addr) (ns : List Str) (vs : List D)

mutual
/-- the value d is v, its frozen parts in F -/
def RD (F : Hp) : D → V → Prop
  | .non, v => v = .non
  | .bl b, v => v = .bl b
  | .int i, v => v = .int i
  | .str x, v => v = .str x
  | .ty n, v => v = .ty n
  | .ref a, v => v = .ref a
  | .tup ds, v => ∃ a vs, v = .ref a ∧ F a = some (.tup vs) ∧ RDs F ds vs
  | .lst ds, v => ∃ a vs, v = .ref a ∧ F a = some (.lst vs) ∧ RDs F ds vs
  | .ins C ns ds, v => ∃ a dx vs, v = .ref a ∧ F a = some (.ins C dx (ns.zip vs)) ∧ ns.length = vs.length ∧ RDs F ds vs
def RDs (F : Hp) : List D → List V → Prop
  | [], vs => vs = []
  | d :: ds, vs => ∃ v r, vs = v :: r ∧ RD F d v ∧ RDs F ds r
end
mutual
theorem RD.mono {F F' : Hp} (e : Ex F F') : ∀ {d : D} {v : V}, RD F d v → RD F' d v
  | .non, _, h => h
  | .bl _, _, h => h
  | .int _, _, h => h
  | .str _, _, h => h
  | .ty _, _, h => h
  | .ref _, _, h => h
  | .tup _, _, ⟨a, vs, e1, h, r⟩ => ⟨a, vs, e1, e a _ h, RDs.mono e r⟩
  | .lst _, _, ⟨a, vs, e1, h, r⟩ => ⟨a, vs, e1, e a _ h, RDs.mono e r⟩
  | .ins _ _ _, _, ⟨a, dx, vs, e1, h, hl, r⟩ => ⟨a, dx, vs, e1, e a _ h, hl, RDs.mono e r⟩
theorem RDs.mono {F F' : Hp} (e : Ex F F') : ∀ {ds : List D} {vs : List V}, RDs F ds vs → RDs F' ds vs
  | [], _, h => h
  | _ :: _, _, ⟨v, r, e1, h, hr⟩ => ⟨v, r, e1, RD.mono e h, RDs.mono e hr⟩
end
theorem RDs.length {F : Hp} : ∀ {ds : List D} {vs : List V}, RDs F ds vs → ds.length = vs.length
  | [], vs, h => by rw [show vs = [] from h]; rfl
  | _ :: _, _, ⟨v, r, e1, h, hr⟩ => by rw [e1, List.length_cons, List.length_cons, RDs.length hr]
theorem RDs.append {F : Hp} : ∀ {ds es : List D} {vs us : List V}, RDs F ds vs → RDs F es us → RDs F (ds ++ es) (vs ++ us)
  | [], _, _, _, h, h2 => by rw [show _ = [] from h]; exact h2
  | _ :: _, _, _, us, ⟨v, r, e1, h, hr⟩, h2 => ⟨v, r ++ us, by rw [e1]; rfl, h, RDs.append hr h2⟩
theorem RDs.get {F : Hp} : ∀ {ds : List D} {vs : List V} {i : Nat} {v : V}, RDs F ds vs → vs[i]? = some v → ∃ d, ds[i]? = some d ∧ RD F d v
  | [], _, _, _, h, e => by rw [show _ = [] from h] at e; simp at e
  | d :: _, _, 0, v, ⟨v', r, e1, h, hr⟩, e => by subst e1; simp at e; subst e; exact ⟨d, rfl, h⟩
  | _ :: _, _, i + 1, v, ⟨v', r, e1, h, hr⟩, e => by
    subst e1
    obtain ⟨d, h1, h2⟩ := RDs.get (i := i) (v := v) hr (by simpa using e)
    exact ⟨d, by simpa using h1, h2⟩
theorem RDs.at {F : Hp} {ds : List D} {vs : List V} {i : Nat} {d : D} (h : RDs F ds vs) (e : ds[i]? = some d) : ∃ v, vs[i]? = some v ∧ RD F d v := by
  have hi : i < ds.length := (List.getElem?_eq_some_iff.mp e).1
  have hv : i < vs.length := by rw [← h.length]; exact hi
  obtain ⟨d', h1, h2⟩ := h.get (i := i) (v := vs[i]) (by simp [hv])
  rw [e] at h1; cases h1
  exact ⟨vs[i], by simp [hv], h2⟩
theorem RDs.of {F : Hp} : ∀ {ds : List D} {vs : List V}, ds.length = vs.length → (∀ (i : Nat) d v, ds[i]? = some d → vs[i]? = some v → RD F d v) → RDs F ds vs
  | [], [], _, _ => rfl
  | [], _ :: _, h, _ => by simp at h
  | _ :: _, [], h, _ => by simp at h
  | d :: ds, v :: vs, h, k => ⟨v, vs, rfl, k 0 d v rfl rfl, RDs.of (by simpa using h) fun i d v a b => k (i + 1) d v (by simpa using a) (by simpa using b)⟩
theorem RDs.take {F : Hp} {ds : List D} {vs : List V} (n : Nat) (h : RDs F ds vs) : RDs F (ds.take n) (vs.take n) := RDs.of (by simp [h.length]) fun i d v a b => by
  rw [List.getElem?_take] at a b
  split at a
  · rw [if_pos (by assumption)] at b
    obtain ⟨v', h1, h2⟩ := h.at a
    rw [b] at h1; cases h1; exact h2
  · cases a
theorem RDs.drop {F : Hp} {ds : List D} {vs : List V} (n : Nat) (h : RDs F ds vs) : RDs F (ds.drop n) (vs.drop n) := RDs.of (by simp [h.length]) fun i d v a b => by
  rw [List.getElem?_drop] at a b
  obtain ⟨v', h1, h2⟩ := h.at a
  rw [b] at h1; cases h1; exact h2
theorem RDs.set {F : Hp} {ds : List D} {vs : List V} {d : D} {v : V} (n : Nat) (h : RDs F ds vs) (r : RD F d v) : RDs F (ds.set n d) (vs.set n v) := RDs.of (by simp [h.length]) fun i d' v' a b => by
  by_cases e : n = i
  · subst e
    have hi : n < ds.length := by have := (List.getElem?_eq_some_iff.mp a).1; simpa using this
    have hv : n < vs.length := by rw [← h.length]; exact hi
    rw [List.getElem?_set_self hi] at a
    rw [List.getElem?_set_self hv] at b
    cases a; cases b; exact r
  · rw [List.getElem?_set_ne e] at a b
    obtain ⟨v'', h1, h2⟩ := h.at a
    rw [b] at h1; cases h1; exact h2
theorem RDs.reverse {F : Hp} {ds : List D} {vs : List V} (h : RDs F ds vs) : RDs F ds.reverse vs.reverse := RDs.of (by simp [h.length]) fun i d v a b => by
  have hi : i < ds.length := by have := (List.getElem?_eq_some_iff.mp a).1; simpa using this
  have hv : i < vs.length := by rw [← h.length]; exact hi
  rw [List.getElem?_reverse hi] at a
  rw [List.getElem?_reverse hv, ← h.length] at b
  obtain ⟨v'', h1, h2⟩ := h.at a
  rw [b] at h1; cases h1; exact h2
theorem RDs.eraseIdx {F : Hp} {ds : List D} {vs : List V} (n : Nat) (h : RDs F ds vs) : RDs F (ds.eraseIdx n) (vs.eraseIdx n) := by
  rw [List.eraseIdx_eq_take_drop_succ, List.eraseIdx_eq_take_drop_succ]
  exact (h.take n).append (h.drop (n + 1))
theorem RDs.one {F : Hp} {d : D} {v : V} (r : RD F d v) : RDs F [d] [v] := ⟨v, [], rfl, r, rfl⟩
theorem RDs.snoc {F : Hp} {ds : List D} {vs : List V} {d : D} {v : V} (h : RDs F ds vs) (r : RD F d v) : RDs F (ds ++ [d]) (vs ++ [v]) := h.append (.one r)

def isNon : D → Bool
  | .non => true
  | _ => false
theorem RD.isNon {F : Hp} {x : D} {v : V} (h : RD F x v) : decide (v = .non) = T3.isNon x := by
  cases x with
  | non => rw [show v = .non from h]; rfl
  | bl b => rw [show v = .bl b from h]; rfl
  | int b => rw [show v = .int b from h]; rfl
  | str b => rw [show v = .str b from h]; rfl
  | ty b => rw [show v = .ty b from h]; rfl
  | ref b => rw [show v = .ref b from h]; rfl
  | tup _ => obtain ⟨_, _, e, _⟩ := h; subst e; rfl
  | lst _ => obtain ⟨_, _, e, _⟩ := h; subst e; rfl
  | ins _ _ _ => obtain ⟨_, _, _, e, _⟩ := h; subst e; rfl
/-- a scalar as a value -/
def dV : V → D
  | .non => .non
  | .bl b => .bl b
  | .int i => .int i
  | .str x => .str x
  | .ty n => .ty n
  | .ref a => .ref a
  | .byt _ => .non
  | .flt _ => .non

/-! ### owned objects -/
inductive DO where
  | lst (ds : List D)
  | ins (C : Addr) (fs : List (Str × D))
  | dK (kvs : List (Key × D))
  | dT (kvs : List (List Key × D))
  | raw (o : HO)
  | exc (a C : Addr) (thing : D)
abbrev Mem := Addr → Option DO
abbrev Sig := List (Option D)
def PKV {κ : Type} (F : Hp) : List (κ × D) → List (κ × V) → Prop := Paired fun p q => p.1 = q.1 ∧ RD F p.2 q.2
theorem PKV.mono {κ : Type} {F F' : Hp} (e : Ex F F') {l : List (κ × D)} {m : List (κ × V)} (h : PKV F l m) : PKV F' l m := Paired.mapP h fun _ _ q => ⟨q.1, q.2.mono e⟩
def RO (F : Hp) : DO → HO → Prop
  | .lst ds, ho => ∃ vs, ho = .lst vs ∧ RDs F ds vs
  | .ins C fs, ho => ∃ dx fv, ho = .ins C dx fv ∧ PKV F fs fv
  | .dK kvs, ho => ∃ kv, ho = .dK kv ∧ PKV F kvs kv
  | .dT kvs, ho => ∃ kv, ho = .dT kv ∧ PKV F kvs kv
  | .raw o, ho => ho = o
  | .exc a C th, ho => ∃ dd v, ho = EXO a (.ref C) (some dd) ∧ F dd = some (.xd [(("thing" : Str), v)]) ∧ RD F th v
theorem RO.mono {F F' : Hp} (e : Ex F F') : ∀ {o : DO} {ho : HO}, RO F o ho → RO F' o ho
  | .lst _, _, ⟨vs, e1, r⟩ => ⟨vs, e1, r.mono e⟩
  | .ins _ _, _, ⟨dx, fv, e1, r⟩ => ⟨dx, fv, e1, r.mono e⟩
  | .dK _, _, ⟨kv, e1, r⟩ => ⟨kv, e1, r.mono e⟩
  | .dT _, _, ⟨kv, e1, r⟩ => ⟨kv, e1, r.mono e⟩
  | .raw _, _, h => h
  | .exc _ _ _, _, ⟨dd, v, e1, h, r⟩ => ⟨dd, v, e1, e dd _ h, r.mono e⟩
def mput (M : Mem) (a : Addr) (o : DO) : Mem := fun b => if b = a then some o else M b
def mdel (M : Mem) (a : Addr) : Mem := fun b => if b = a then none else M b
theorem mput_same {M : Mem} {a : Addr} {o : DO} : mput M a o a = some o := if_pos rfl
theorem mput_ne {M : Mem} {a b : Addr} {o : DO} (h : b ≠ a) : mput M a o b = M b := if_neg h
theorem mdel_same {M : Mem} {a : Addr} : mdel M a a = none := if_pos rfl
theorem mdel_ne {M : Mem} {a b : Addr} (h : b ≠ a) : mdel M a b = M b := if_neg h
theorem mput_mput {M : Mem} {a : Addr} {o u : DO} : mput (mput M a o) a u = mput M a u := by funext b; unfold mput; split <;> rfl
theorem mdel_mput {M : Mem} {a : Addr} {o : DO} (h : M a = none) : mdel (mput M a o) a = M := by
  funext b; unfold mdel; split
  · rename_i e; rw [e, h]
  · rename_i e; exact mput_ne e
theorem mput_self {M : Mem} {a : Addr} {o : DO} (h : M a = some o) : mput M a o = M := by
  funext b; unfold mput; split
  · rename_i e; rw [e, h]
  · rfl
theorem mput_comm {M : Mem} {a b : Addr} {o u : DO} (h : a ≠ b) : mput (mput M a o) b u = mput (mput M b u) a o := by
  funext c; unfold mput
  by_cases h1 : c = a
  · subst h1; rw [if_neg h, if_pos rfl, if_pos rfl]
  · by_cases h2 : c = b
    · subst h2; rw [if_pos rfl, if_neg h1, if_pos rfl]
    · rw [if_neg h2, if_neg h1, if_neg h1, if_neg h2]
theorem mne {M : Mem} {a b : Addr} {o : DO} (h : M a = some o) (h' : M b = none) : a ≠ b := by
  intro e; subst e; rw [h] at h'; cases h'

/-- the state: frozen F, owned M, the layer's heap H -/
structure St3 (F : Hp) (M : Mem) (H : Hp) : Prop where
  fz : Ex F H
  own : ∀ a o, M a = some o → F a = none ∧ ∃ ho, H a = some ho ∧ RO F o ho
theorem St3.nn {F : Hp} {M : Mem} {H : Hp} (s : St3 F M H) {p : Addr} (h : H p = none) : F p = none ∧ M p = none := by
  refine ⟨Evl.fresh_back s.fz h, ?_⟩
  cases q : M p with
  | none => rfl
  | some o => obtain ⟨_, ho, e, _⟩ := s.own p o q; rw [h] at e; cases e
/-- a new frozen object -/
theorem St3.new {F : Hp} {M : Mem} {H : Hp} (s : St3 F M H) {p : Addr} {o : HO} (h : H p = none) : St3 (upd F p o) M (upd H p o) ∧ Ex F (upd F p o) := by
  obtain ⟨f0, m0⟩ := s.nn h
  have e0 : Ex F (upd F p o) := Ex.new f0
  refine ⟨⟨fun a u e => ?_, fun a u e => ?_⟩, e0⟩
  · by_cases q : a = p
    · subst q; rw [upd_same] at e ⊢; exact e
    · rw [upd_ne q] at e ⊢; exact s.fz a u e
  · have q : a ≠ p := mne e m0
    obtain ⟨x, ho, y, z⟩ := s.own a u e
    exact ⟨by rw [upd_ne q]; exact x, ho, by rw [upd_ne q]; exact y, z.mono e0⟩
/-- a new owned object -/
theorem St3.newO {F : Hp} {M : Mem} {H : Hp} (s : St3 F M H) {p : Addr} {o : HO} {d : DO} (h : H p = none) (r : RO F d o) : St3 F (mput M p d) (upd H p o) := by
  obtain ⟨f0, m0⟩ := s.nn h
  refine ⟨fun a u e => ?_, fun a u e => ?_⟩
  · rw [upd_ne (ne_of_none e f0)]; exact s.fz a u e
  · by_cases q : a = p
    · subst q; rw [mput_same] at e; cases e
      exact ⟨f0, o, upd_same, r⟩
    · rw [mput_ne q] at e
      obtain ⟨x, ho, y, z⟩ := s.own a u e
      exact ⟨x, ho, by rw [upd_ne q]; exact y, z⟩
/-- an owned object changed -/
theorem St3.put {F : Hp} {M : Mem} {H : Hp} (s : St3 F M H) {p : Addr} {o : HO} {d d' : DO} (h : M p = some d) (r : RO F d' o) : St3 F (mput M p d') (upd H p o) := by
  obtain ⟨f0, ho, hp, _⟩ := s.own p d h
  refine ⟨fun a u e => ?_, fun a u e => ?_⟩
  · rw [upd_ne (ne_of_none e f0)]; exact s.fz a u e
  · by_cases q : a = p
    · subst q; rw [mput_same] at e; cases e
      exact ⟨f0, o, upd_same, r⟩
    · rw [mput_ne q] at e
      obtain ⟨x, ho, y, z⟩ := s.own a u e
      exact ⟨x, ho, by rw [upd_ne q]; exact y, z⟩
/-- forget an owned object -/
theorem St3.drop {F : Hp} {M : Mem} {H : Hp} (s : St3 F M H) (p : Addr) : St3 F (mdel M p) H := by
  refine ⟨s.fz, fun a u e => ?_⟩
  by_cases q : a = p
  · subst q; rw [mdel_same] at e; cases e
  · rw [mdel_ne q] at e; exact s.own a u e
/-- freeze an owned object -/
theorem St3.freeze {F : Hp} {M : Mem} {H : Hp} (s : St3 F M H) {p : Addr} {o : HO} {d : DO} (h : M p = some d) (hp : H p = some o) : St3 (upd F p o) (mdel M p) H ∧ Ex F (upd F p o) := by
  obtain ⟨f0, _⟩ := s.own p d h
  have e0 : Ex F (upd F p o) := Ex.new f0
  refine ⟨⟨fun a u e => ?_, fun a u e => ?_⟩, e0⟩
  · by_cases q : a = p
    · subst q; rw [upd_same] at e; cases e; exact hp
    · rw [upd_ne q] at e; exact s.fz a u e
  · by_cases q : a = p
    · subst q; rw [mdel_same] at e; cases e
    · rw [mdel_ne q] at e
      obtain ⟨x, ho, y, z⟩ := s.own a u e
      exact ⟨by rw [upd_ne q]; exact x, ho, y, z.mono e0⟩

/-- the slots -/
def SRel (F : Hp) (σ : Sig) (σv : St) : Prop := σ.length = σv.length ∧ ∀ (i : Nat) (d : D), σ[i]? = some (some d) → ∃ v, σv[i]? = some (some v) ∧ RD F d v
theorem SRel.mono {F F' : Hp} {σ : Sig} {σv : St} (h : SRel F σ σv) (e : Ex F F') : SRel F' σ σv := ⟨h.1, fun i d q => let ⟨v, a, b⟩ := h.2 i d q; ⟨v, a, b.mono e⟩⟩
theorem SRel.set {F : Hp} {σ : Sig} {σv : St} {i : Nat} {d : D} {v : V} (h : SRel F σ σv) (r : RD F d v) : SRel F (σ.set i (some d)) (σv.set i (some v)) := by
  refine ⟨by simp [h.1], fun j d' q => ?_⟩
  by_cases e : i = j
  · subst e
    have hi : i < σ.length := by have := (List.getElem?_eq_some_iff.mp q).1; simpa using this
    rw [List.getElem?_set_self hi] at q
    cases q
    exact ⟨v, List.getElem?_set_self (by rw [← h.1]; exact hi), r⟩
  · rw [List.getElem?_set_ne e] at q ⊢
    exact h.2 j d' q
def wipe3 (σ : Sig) : List Nat → Sig
  | [] => σ
  | v :: vs => (wipe3 σ vs).set v none
theorem SRel.setN {F : Hp} {σ : Sig} {σv : St} {i : Nat} (h : SRel F σ σv) : SRel F (σ.set i none) (σv.set i none) := by
  refine ⟨by simp [h.1], fun j d' q => ?_⟩
  by_cases e : i = j
  · subst e
    have hi : i < σ.length := by have := (List.getElem?_eq_some_iff.mp q).1; simpa using this
    rw [List.getElem?_set_self hi] at q
    cases q
  · rw [List.getElem?_set_ne e] at q ⊢
    exact h.2 j d' q
theorem SRel.wipe {F : Hp} {σ : Sig} {σv : St} (h : SRel F σ σv) : ∀ vs, SRel F (wipe3 σ vs) (L2.wipe σv vs)
  | [] => h
  | _ :: vs => (SRel.wipe h vs).setN
def start3 (N : List Str) (ds : List D) : Sig := ds.map some ++ List.replicate (N.length - ds.length) none
theorem SRel.start {F : Hp} {N : List Str} {ds : List D} {vs : List V} (h : RDs F ds vs) : SRel F (start3 N ds) (L2.start N vs) := by
  unfold start3 L2.start
  refine ⟨by simp [h.length], fun i d q => ?_⟩
  by_cases hi : i < ds.length
  · rw [List.getElem?_append_left (by simpa using hi), List.getElem?_map] at q
    obtain ⟨d', e1, e2⟩ := Option.map_eq_some_iff.mp q
    cases e2
    obtain ⟨v, e3, r⟩ := h.at e1
    refine ⟨v, ?_, r⟩
    rw [List.getElem?_append_left (by rw [List.length_map, ← h.length]; exact hi), List.getElem?_map, e3]
    rfl
  · rw [List.getElem?_append_right (by simpa using hi)] at q
    have := List.getElem?_replicate (n := N.length - ds.length) (a := (none : Option D)) (i := i - (ds.map some).length)
    rw [this] at q
    split at q <;> cases q

/-! ### the judgements -/
abbrev DQ := D → Mem → Prop
section
variable (B : Hp)
def W3e (te : TE) (σ : Sig) (M : Mem) (Q : DQ) : Prop :=
  ∀ (F : Hp) (σv : St) (H : Hp) (Qv : VK), Ex B F → SRel F σ σv → St3 F M H → (∀ F' M' d v H', Ex F F' → St3 F' M' H' → RD F' d v → Q d M' → Qv v H') → te σv H Qv
def W3t (tt : TT) (σ : Sig) (M : Mem) (Q : Bool → Mem → Prop) : Prop :=
  ∀ (F : Hp) (σv : St) (H : Hp) (Qv : Bool → Hp → Prop), Ex B F → SRel F σ σv → St3 F M H → (∀ F' M' b H', Ex F F' → St3 F' M' H' → Q b M' → Qv b H') → tt σv H Qv
def W3a (ta : TA) (σ : Sig) (M : Mem) (Q : List D → Mem → Prop) : Prop :=
  ∀ (F : Hp) (σv : St) (H : Hp) (Qv : List V → Hp → Prop), Ex B F → SRel F σ σv → St3 F M H → (∀ F' M' ds vs H', Ex F F' → St3 F' M' H' → RDs F' ds vs → Q ds M' → Qv vs H') → ta σv H Qv
def R3 (r : R2) (x y : D) (M : Mem) (Q : DQ) : Prop :=
  ∀ (F : Hp) (H : Hp) (xv yv : V) (Qv : VK), Ex B F → St3 F M H → RD F x xv → RD F y yv → (∀ F' M' d v H', Ex F F' → St3 F' M' H' → RD F' d v → Q d M' → Qv v H') → r xv yv H Qv
def U3 (r : V → Hp → VK → Prop) (x : D) (M : Mem) (Q : DQ) : Prop :=
  ∀ (F : Hp) (H : Hp) (xv : V) (Qv : VK), Ex B F → St3 F M H → RD F x xv → (∀ F' M' d v H', Ex F F' → St3 F' M' H' → RD F' d v → Q d M' → Qv v H') → r xv H Qv
def C3 (r : List V → Hp → VK → Prop) (xs : List D) (M : Mem) (Q : DQ) : Prop :=
  ∀ (F : Hp) (H : Hp) (xv : List V) (Qv : VK), Ex B F → St3 F M H → RDs F xs xv → (∀ F' M' d v H', Ex F F' → St3 F' M' H' → RD F' d v → Q d M' → Qv v H') → r xv H Qv
def M3 (r : V → List V → Hp → VK → Prop) (x : D) (xs : List D) (M : Mem) (Q : DQ) : Prop :=
  ∀ (F : Hp) (H : Hp) (xv : V) (xvs : List V) (Qv : VK), Ex B F → St3 F M H → RD F x xv → RDs F xs xvs → (∀ F' M' d v H', Ex F F' → St3 F' M' H' → RD F' d v → Q d M' → Qv v H') → r xv xvs H Qv
def G3 (g : TG) (x : D) (σ : Sig) (M : Mem) (Q : Sig → Mem → Prop) : Prop :=
  ∀ (F : Hp) (σv : St) (H : Hp) (xv : V) (Qv : St → Hp → Prop), Ex B F → SRel F σ σv → St3 F M H → RD F x xv → (∀ F' M' σ' σv' H', Ex F F' → SRel F' σ' σv' → St3 F' M' H' → Q σ' M' → Qv σv' H') → g xv σv H Qv
def G3s (g : TGs) (xs : List D) (σ : Sig) (M : Mem) (Q : Sig → Mem → Prop) : Prop :=
  ∀ (F : Hp) (σv : St) (H : Hp) (xv : List V) (Qv : St → Hp → Prop), Ex B F → SRel F σ σv → St3 F M H → RDs F xs xv → (∀ F' M' σ' σv' H', Ex F F' → SRel F' σ' σv' → St3 F' M' H' → Q σ' M' → Qv σv' H') → g xv σv H Qv
end
structure Ends3 where
  nx : Sig → Mem → Prop
  rt : DQ
  bk : Sig → Mem → Prop := fun _ _ => False
  ct : Sig → Mem → Prop := fun _ _ => False
def ImpS (F : Hp) (q : Sig → Mem → Prop) (qv : St → Hp → Prop) : Prop := ∀ F' M' σ' σv' H', Ex F F' → SRel F' σ' σv' → St3 F' M' H' → q σ' M' → qv σv' H'
structure Imp (F : Hp) (D3 : Ends3) (Dv : Ends) : Prop where
  nx : ImpS F D3.nx Dv.nx
  rt : ∀ F' M' d v H', Ex F F' → St3 F' M' H' → RD F' d v → D3.rt d M' → Dv.rt v H'
  bk : ImpS F D3.bk Dv.bk
  ct : ImpS F D3.ct Dv.ct
theorem ImpS.mono {F F1 : Hp} {q : Sig → Mem → Prop} {qv : St → Hp → Prop} (h : ImpS F q qv) (e : Ex F F1) : ImpS F1 q qv := fun F' M' σ' σv' H' a => h F' M' σ' σv' H' (e.trans a)
theorem Imp.mono {F F1 : Hp} {D3 : Ends3} {Dv : Ends} (h : Imp F D3 Dv) (e : Ex F F1) : Imp F1 D3 Dv :=
  ⟨h.nx.mono e, fun F' M' d v H' a => h.rt F' M' d v H' (e.trans a), h.bk.mono e, h.ct.mono e⟩
def W3s (B : Hp) (ts : TS) (D3 : Ends3) (σ : Sig) (M : Mem) : Prop :=
  ∀ (F : Hp) (σv : St) (H : Hp) (Dv : Ends), Ex B F → SRel F σ σv → St3 F M H → Imp F D3 Dv → ts Dv σv H

/-! ### consequence -/
section
variable {B : Hp} {te : TE} {tt : TT} {ts : TS} {σ : Sig} {M : Mem} {Q Q' : DQ} {D3 D3' : Ends3}
theorem W3e.to (h : W3e B te σ M Q) (k : ∀ d M', Q d M' → Q' d M') : W3e B te σ M Q' := fun F σv H Qv b hs st q => h F σv H Qv b hs st fun F' M' d v H' e s r z => q F' M' d v H' e s r (k d M' z)
theorem W3t.to {Q Q' : Bool → Mem → Prop} (h : W3t B tt σ M Q) (k : ∀ d M', Q d M' → Q' d M') : W3t B tt σ M Q' := fun F σv H Qv b hs st q => h F σv H Qv b hs st fun F' M' d H' e s z => q F' M' d H' e s (k d M' z)
theorem W3s.to (h : W3s B ts D3 σ M) (k1 : ∀ σ M, D3.nx σ M → D3'.nx σ M) (k2 : ∀ d M, D3.rt d M → D3'.rt d M) (k3 : ∀ σ M, D3.bk σ M → D3'.bk σ M) (k4 : ∀ σ M, D3.ct σ M → D3'.ct σ M) : W3s B ts D3' σ M :=
  fun F σv H Dv b hs st im => h F σv H Dv b hs st ⟨fun F' M' σ' σv' H' e s t q => im.nx F' M' σ' σv' H' e s t (k1 _ _ q), fun F' M' d v H' e s r q => im.rt F' M' d v H' e s r (k2 _ _ q),
    fun F' M' σ' σv' H' e s t q => im.bk F' M' σ' σv' H' e s t (k3 _ _ q), fun F' M' σ' σv' H' e s t q => im.ct F' M' σ' σv' H' e s t (k4 _ _ q)⟩
theorem W3s.nx {nx : Sig → Mem → Prop} (h : W3s B ts { D3 with nx := nx } σ M) (k : ∀ σ M, nx σ M → D3.nx σ M) : W3s B ts D3 σ M := h.to k (fun _ _ z => z) (fun _ _ z => z) (fun _ _ z => z)
end

/-! ### expressions -/
section
variable {B : Hp} {ta tb tc te : TE} {tA tB' : TT} {t tr : TA} {σ : Sig} {M : Mem} {Q : DQ} {d x y : D} {i : Nat} {r r' : R2} {K : PySem.W.Frag}
theorem w_var (h : σ[i]? = some (some d)) (q : Q d M) : W3e B (tVar i) σ M Q := fun F σv H Qv _ hs st k =>
  let ⟨v, e, rd⟩ := hs.2 i d h
  ⟨v, e, k F M d v H (Ex.refl _) st rd q⟩
theorem w_c {v : V} (q : Q d M) (h : ∀ F, RD F d v := by intro F; rfl) : W3e B (tC v) σ M Q := fun F σv H Qv _ hs st k => k F M d v H (Ex.refl _) st (h F) q
theorem w_op (h : W3e B ta σ M (fun x M1 => W3e B tb σ M1 (fun y M2 => R3 B r x y M2 Q))) : W3e B (tOp r ta tb) σ M Q := fun F σv H Qv b hs st k =>
  h F σv H _ b hs st fun F1 M1 x xv H1 e1 st1 rx q1 => q1 F1 σv H1 _ (b.trans e1) (hs.mono e1) st1 fun F2 M2 y yv H2 e2 st2 ry q2 =>
    q2 F2 H2 xv yv Qv ((b.trans e1).trans e2) st2 (rx.mono e2) ry fun F3 M3 d v H3 e3 st3 rd qd => k F3 M3 d v H3 ((e1.trans e2).trans e3) st3 rd qd
theorem w_un {r : V → Hp → VK → Prop} (h : W3e B ta σ M (fun x M1 => U3 B r x M1 Q)) : W3e B (tUn r ta) σ M Q := fun F σv H Qv b hs st k =>
  h F σv H _ b hs st fun F1 M1 x xv H1 e1 st1 rx q1 => q1 F1 H1 xv Qv (b.trans e1) st1 rx fun F3 M3 d v H3 e3 st3 rd qd => k F3 M3 d v H3 (e1.trans e3) st3 rd qd
theorem w_nil {Q : List D → Mem → Prop} (q : Q [] M) : W3a B tNil σ M Q := fun F σv H Qv _ hs st k => k F M [] [] H (Ex.refl _) st rfl q
theorem w_cons {Q : List D → Mem → Prop} (h : W3e B ta σ M (fun x M1 => W3a B tr σ M1 (fun xs M2 => Q (x :: xs) M2))) : W3a B (tCons ta tr) σ M Q := fun F σv H Qv b hs st k =>
  h F σv H _ b hs st fun F1 M1 x xv H1 e1 st1 rx q1 => q1 F1 σv H1 _ (b.trans e1) (hs.mono e1) st1 fun F2 M2 ys yv H2 e2 st2 ry q2 => k F2 M2 (x :: ys) (xv :: yv) H2 (e1.trans e2) st2 ⟨xv, yv, rfl, rx.mono e2, ry⟩ q2
theorem w_tup (h : W3a B t σ M (fun ds M1 => ds.length ≤ 100000 ∧ Q (.tup ds) M1)) : W3e B (tTup t) σ M Q := fun F σv H Qv b hs st k =>
  h F σv H _ b hs st fun F1 M1 ds vs H1 e1 st1 rx ⟨z, q⟩ => ⟨Evl.sz_of (by rw [← rx.length]; exact z), fun p hp => by
    obtain ⟨s2, e2⟩ := st1.new (o := .tup vs) hp
    exact k _ _ (.tup ds) _ _ (e1.trans e2) s2 ⟨p, vs, rfl, upd_same, rx.mono e2⟩ q⟩
theorem w_lst (h : W3a B t σ M (fun ds M1 => ds.length ≤ 100000 ∧ Q (.lst ds) M1)) : W3e B (tLst t) σ M Q := fun F σv H Qv b hs st k =>
  h F σv H _ b hs st fun F1 M1 ds vs H1 e1 st1 rx ⟨z, q⟩ => ⟨Evl.sz_of (by rw [← rx.length]; exact z), fun p hp => by
    obtain ⟨s2, e2⟩ := st1.new (o := .lst vs) hp
    exact k _ _ (.lst ds) _ _ (e1.trans e2) s2 ⟨p, vs, rfl, upd_same, rx.mono e2⟩ q⟩
/-- a written list that will change -/
theorem w_lstO (h : W3a B t σ M (fun ds M1 => ds.length ≤ 100000 ∧ ∀ p, M1 p = none → Q (.ref p) (mput M1 p (.lst ds)))) : W3e B (tLst t) σ M Q := fun F σv H Qv b hs st k =>
  h F σv H _ b hs st fun F1 M1 ds vs H1 e1 st1 rx ⟨z, q⟩ => ⟨Evl.sz_of (by rw [← rx.length]; exact z), fun p hp =>
    k _ _ (.ref p) _ _ e1 (st1.newO (d := .lst ds) hp ⟨vs, rfl, rx⟩) rfl (q p (st1.nn hp).2)⟩
/-! tests -/
theorem w_B {Q : Bool → Mem → Prop} (h : W3e B te σ M (fun x M1 => ∃ k, x = .bl k ∧ Q k M1)) : W3t B (tB te) σ M Q := fun F σv H Qv b hs st k =>
  h F σv H _ b hs st fun F1 M1 x xv H1 e1 st1 rx ⟨c, ec, q⟩ => by
    subst ec
    exact ⟨c, rx, k F1 M1 c H1 e1 st1 q⟩
theorem w_test {Q : Bool → Mem → Prop} (h : W3e B te σ M (fun x M1 => ∃ k, x = .bl k ∧ Q k M1)) : W3t B (tTest te) σ M Q := w_B h
theorem w_andT {Q : Bool → Mem → Prop} (h : W3t B tA σ M (fun c M1 => if c = true then W3t B tB' σ M1 Q else Q false M1)) : W3t B (tAnd tA tB') σ M Q := fun F σv H Qv b hs st k =>
  h F σv H _ b hs st fun F1 M1 c H1 e1 st1 q => by
    cases c with
    | true => exact q F1 σv H1 _ (b.trans e1) (hs.mono e1) st1 fun F2 M2 d H2 e2 st2 q2 => k F2 M2 d H2 (e1.trans e2) st2 q2
    | false => exact k F1 M1 false H1 e1 st1 q
theorem w_orT {Q : Bool → Mem → Prop} (h : W3t B tA σ M (fun c M1 => if c = true then Q true M1 else W3t B tB' σ M1 Q)) : W3t B (tOr tA tB') σ M Q := fun F σv H Qv b hs st k =>
  h F σv H _ b hs st fun F1 M1 c H1 e1 st1 q => by
    cases c with
    | false => exact q F1 σv H1 _ (b.trans e1) (hs.mono e1) st1 fun F2 M2 d H2 e2 st2 q2 => k F2 M2 d H2 (e1.trans e2) st2 q2
    | true => exact k F1 M1 true H1 e1 st1 q
theorem w_notT {Q : Bool → Mem → Prop} (h : W3t B tA σ M (fun c M1 => Q (!c) M1)) : W3t B (tNot tA) σ M Q := fun F σv H Qv b hs st k =>
  h F σv H _ b hs st fun F1 M1 c H1 e1 st1 q => k F1 M1 (!c) H1 e1 st1 q
theorem w_yes {Q : Bool → Mem → Prop} (q : Q true M) : W3t B tYes σ M Q := fun F σv H Qv b hs st k => k F M true H (Ex.refl _) st q
theorem w_andV (h : W3e B ta σ M (fun x M1 => ∃ c, x = .bl c ∧ if c = true then W3e B tb σ M1 Q else Q (.bl false) M1)) : W3e B (tAndV ta tb) σ M Q := fun F σv H Qv b hs st k =>
  h F σv H _ b hs st fun F1 M1 x xv H1 e1 st1 rx ⟨c, ec, q⟩ => by
    subst ec
    refine ⟨c, rx, ?_⟩
    cases c with
    | true => exact q F1 σv H1 _ (b.trans e1) (hs.mono e1) st1 fun F2 M2 d v H2 e2 st2 r2 q2 => k F2 M2 d v H2 (e1.trans e2) st2 r2 q2
    | false => exact k F1 M1 (.bl false) _ H1 e1 st1 rfl q
theorem w_orV (h : W3e B ta σ M (fun x M1 => ∃ c, x = .bl c ∧ if c = true then Q (.bl true) M1 else W3e B tb σ M1 Q)) : W3e B (tOrV ta tb) σ M Q := fun F σv H Qv b hs st k =>
  h F σv H _ b hs st fun F1 M1 x xv H1 e1 st1 rx ⟨c, ec, q⟩ => by
    subst ec
    refine ⟨c, rx, ?_⟩
    cases c with
    | false => exact q F1 σv H1 _ (b.trans e1) (hs.mono e1) st1 fun F2 M2 d v H2 e2 st2 r2 q2 => k F2 M2 d v H2 (e1.trans e2) st2 r2 q2
    | true => exact k F1 M1 (.bl true) _ H1 e1 st1 rfl q
theorem w_notV (h : W3e B ta σ M (fun x M1 => ∃ c, x = .bl c ∧ Q (.bl (!c)) M1)) : W3e B (tNotV ta) σ M Q := fun F σv H Qv b hs st k =>
  h F σv H _ b hs st fun F1 M1 x xv H1 e1 st1 rx ⟨c, ec, q⟩ => by
    subst ec
    exact ⟨c, rx, k F1 M1 (.bl (!c)) _ H1 e1 st1 rfl q⟩
theorem w_ifE (h : W3t B tA σ M (fun c M1 => if c = true then W3e B ta σ M1 Q else W3e B tb σ M1 Q)) : W3e B (tIf tA ta tb) σ M Q := fun F σv H Qv b hs st k =>
  h F σv H _ b hs st fun F1 M1 c H1 e1 st1 q => by
    cases c with
    | true => exact q F1 σv H1 _ (b.trans e1) (hs.mono e1) st1 fun F2 M2 d v H2 e2 st2 r2 q2 => k F2 M2 d v H2 (e1.trans e2) st2 r2 q2
    | false => exact q F1 σv H1 _ (b.trans e1) (hs.mono e1) st1 fun F2 M2 d v H2 e2 st2 r2 q2 => k F2 M2 d v H2 (e1.trans e2) st2 r2 q2
theorem w_isN (h : W3e B ta σ M (fun x M1 => Q (.bl (isNon x)) M1)) : W3e B (tIsN ta) σ M Q := fun F σv H Qv b hs st k =>
  h F σv H _ b hs st fun F1 M1 x xv H1 e1 st1 rx q => k F1 M1 (.bl (isNon x)) _ H1 e1 st1 (by rw [rx.isNon]; rfl) q
theorem w_notN (h : W3e B ta σ M (fun x M1 => Q (.bl (!isNon x)) M1)) : W3e B (tNotN ta) σ M Q := fun F σv H Qv b hs st k =>
  h F σv H _ b hs st fun F1 M1 x xv H1 e1 st1 rx q => k F1 M1 (.bl (!isNon x)) _ H1 e1 st1 (by rw [rx.isNon]; rfl) q
end

/-! ### statements -/
section
variable {B : Hp} {ta tb te : TE} {tc : TT} {ts tu : TS} {σ : Sig} {M : Mem} {D3 : Ends3} {g : TG} {i : Nat}
theorem s_seq (h : W3s B ts { D3 with nx := fun σ M => W3s B tu D3 σ M } σ M) : W3s B (tSeq ts tu) D3 σ M := fun F σv H Dv b hs st im =>
  h F σv H { Dv with nx := tu Dv } b hs st ⟨fun F' M' σ' σv' H' e s t q => q F' σv' H' Dv (b.trans e) s t (im.mono e), im.rt, im.bk, im.ct⟩
theorem s_next (q : D3.nx σ M) : W3s B tNext D3 σ M := fun F σv H Dv b hs st im => im.nx F M σ σv H (Ex.refl _) hs st q
theorem s_brk (q : D3.bk σ M) : W3s B tBreak D3 σ M := fun F σv H Dv b hs st im => im.bk F M σ σv H (Ex.refl _) hs st q
theorem s_cont (q : D3.ct σ M) : W3s B tCont D3 σ M := fun F σv H Dv b hs st im => im.ct F M σ σv H (Ex.refl _) hs st q
theorem s_drop (h : W3e B te σ M (fun _ M1 => D3.nx σ M1)) : W3s B (tDrop te) D3 σ M := fun F σv H Dv b hs st im =>
  h F σv H _ b hs st fun F1 M1 x xv H1 e1 st1 rx q => im.nx F1 M1 σ σv H1 e1 (hs.mono e1) st1 q
theorem s_ret (h : W3e B te σ M D3.rt) : W3s B (tRet te) D3 σ M := fun F σv H Dv b hs st im =>
  h F σv H _ b hs st fun F1 M1 x xv H1 e1 st1 rx q => im.rt F1 M1 x xv H1 e1 st1 rx q
theorem s_retN (q : D3.rt .non M) : W3s B tRetN D3 σ M := fun F σv H Dv b hs st im => im.rt F M .non .non H (Ex.refl _) st rfl q
theorem s_if (h : W3t B tc σ M (fun c M1 => if c = true then W3s B ts D3 σ M1 else W3s B tu D3 σ M1)) : W3s B (tIfS tc ts tu) D3 σ M := fun F σv H Dv b hs st im =>
  h F σv H _ b hs st fun F1 M1 c H1 e1 st1 q => by
    cases c with
    | true => exact q F1 σv H1 Dv (b.trans e1) (hs.mono e1) st1 (im.mono e1)
    | false => exact q F1 σv H1 Dv (b.trans e1) (hs.mono e1) st1 (im.mono e1)
theorem s_asgG (h : W3e B te σ M (fun x M1 => G3 B g x σ M1 D3.nx)) : W3s B (tAsg te g) D3 σ M := fun F σv H Dv b hs st im =>
  h F σv H _ b hs st fun F1 M1 x xv H1 e1 st1 rx q => q F1 σv H1 xv Dv.nx (b.trans e1) (hs.mono e1) st1 rx (im.nx.mono e1)
theorem s_asg (h : W3e B te σ M (fun x M1 => D3.nx (σ.set i (some x)) M1)) : W3s B (tAsg te (gName i)) D3 σ M := fun F σv H Dv b hs st im =>
  h F σv H _ b hs st fun F1 M1 x xv H1 e1 st1 rx q => im.nx F1 M1 _ _ H1 e1 ((hs.mono e1).set rx) st1 q
theorem s_par {i j : Nat} {t : TA} (h : W3a B t σ M (fun ds M1 => ∃ x y, ds = [x, y] ∧ D3.nx ((σ.set i (some x)).set j (some y)) M1)) : W3s B (tPar i j t) D3 σ M := fun F σv H Dv b hs st im =>
  h F σv H _ b hs st fun F1 M1 ds vs H1 e1 st1 rx ⟨x, y, ed, q⟩ => by
    subst ed
    obtain ⟨v, r, e2, r1, w, r', e3, r2, e4⟩ := rx
    subst e2; subst e3; rw [show r' = [] from e4]
    exact ⟨v, w, rfl, im.nx F1 M1 _ _ H1 e1 (((hs.mono e1).set r1).set r2) st1 q⟩
theorem s_cut {Mid : Sig → Mem → Prop} (h : W3s B ts { D3 with nx := Mid } σ M) (k : ∀ σ M, Mid σ M → D3.nx σ M) : W3s B ts D3 σ M := h.nx k
/-! freezing and forgetting -/
/-- forget slots -/
theorem SRel.weak {F : Hp} {σ σ' : Sig} {σv : St} (h : SRel F σ σv) (hl : σ'.length = σ.length) (w : ∀ (i : Nat) (d : D), σ'[i]? = some (some d) → σ[i]? = some (some d)) : SRel F σ' σv := ⟨hl.trans h.1, fun i d q => h.2 i d (w i d q)⟩
/-! targets -/
variable {x : D} {xs : List D} {Q : Sig → Mem → Prop}
theorem g_name (q : Q (σ.set i (some x)) M) : G3 B (gName i) x σ M Q := fun F σv H xv Qv b hs st rx k => k F M _ _ H (Ex.refl _) (hs.set rx) st q
theorem g_tup {K : PySem.W.Frag} {n : Nat} {t : TGs} (e : x = .tup xs) (hl : xs.length = n) (h : G3s B t xs σ M Q) : G3 B (gTup K n t) x σ M Q := fun F σv H xv Qv b hs st rx k => by
  subst e
  obtain ⟨a, vs, e1, hf, r⟩ := rx
  exact ⟨a, vs, e1, .inl (.inl (st.fz a _ hf)), by rw [← r.length]; exact hl, h F σv H vs Qv b hs st r k⟩
theorem g_nil (q : Q σ M) : G3s B gNil [] σ M Q := fun F σv H xv Qv b hs st rx k => ⟨rx, k F M σ σv H (Ex.refl _) hs st q⟩
theorem g_cons {t : TG} {u : TGs} (h : G3 B t x σ M (fun σ1 M1 => G3s B u xs σ1 M1 Q)) : G3s B (gCons t u) (x :: xs) σ M Q := fun F σv H xv Qv b hs st rx k => by
  obtain ⟨v, r, e1, r1, r2⟩ := rx
  refine ⟨v, r, e1, h F σv H v _ b hs st r1 fun F1 M1 σ1 σv1 H1 e s t' q => ?_⟩
  exact q F1 σv1 H1 r Qv (b.trans e) s t' (r2.mono e) fun F2 M2 σ2 σv2 H2 e2 s2 t2 q2 => k F2 M2 σ2 σv2 H2 (e.trans e2) s2 t2 q2
end
end T3
set_option Elab.async false
set_option linter.all false
set_option maxRecDepth 100000
set_option maxHeartbeats 2000000
namespace T3
open PySem L2
open Evl (Ex)

/-! ### seeing a state otherwise -/
def VS (d : D) (M : Mem) (d' : D) (M' : Mem) : Prop := ∀ F H v, St3 F M H → RD F d v → ∃ F', Ex F F' ∧ St3 F' M' H ∧ RD F' d' v
def VSs (σ : Sig) (M : Mem) (σ' : Sig) (M' : Mem) : Prop := ∀ F H σv, St3 F M H → SRel F σ σv → ∃ F', Ex F F' ∧ St3 F' M' H ∧ SRel F' σ' σv
theorem vs_lst {M : Mem} {p : Addr} {ds : List D} (h : M p = some (.lst ds)) : VS (.ref p) M (.lst ds) (mdel M p) := fun F H v st rd => by
  obtain ⟨f0, ho, e1, vs, e2, r⟩ := st.own p _ h
  subst e2
  obtain ⟨s2, e⟩ := st.freeze h e1
  exact ⟨_, e, s2, p, vs, rd, upd_same, r.mono e⟩
theorem zip_unzip {κ : Type} : ∀ (l : List (κ × V)), (l.map (·.1)).zip (l.map (·.2)) = l
  | [] => rfl
  | a :: r => by show (a.1, a.2) :: (r.map (·.1)).zip (r.map (·.2)) = a :: r; rw [zip_unzip r]
theorem PKV.fst {κ : Type} {F : Hp} : ∀ {l : List (κ × D)} {m : List (κ × V)}, PKV F l m → l.map (·.1) = m.map (·.1)
  | _, _, .nil => rfl
  | _, _, .cons a t => by rw [List.map_cons, List.map_cons, a.1, PKV.fst t]
theorem PKV.snd {κ : Type} {F : Hp} : ∀ {l : List (κ × D)} {m : List (κ × V)}, PKV F l m → RDs F (l.map (·.2)) (m.map (·.2))
  | _, _, .nil => rfl
  | _, _, .cons a t => ⟨_, _, rfl, a.2, PKV.snd t⟩
theorem vs_ins {M : Mem} {p C : Addr} {fs : List (Str × D)} (h : M p = some (.ins C fs)) : VS (.ref p) M (.ins C (fs.map (·.1)) (fs.map (·.2))) (mdel M p) := fun F H v st rd => by
  obtain ⟨f0, ho, e1, dx, fv, e2, r⟩ := st.own p _ h
  subst e2
  obtain ⟨s2, e⟩ := st.freeze h e1
  refine ⟨_, e, s2, p, dx, fv.map (·.2), rd, ?_, ?_, r.snd.mono e⟩
  · rw [r.fst, zip_unzip]; exact upd_same
  · rw [r.fst, List.length_map, List.length_map]
theorem vss_lst {σ : Sig} {M : Mem} {p : Addr} {ds : List D} (i : Nat) (hi : σ[i]? = some (some (.ref p))) (h : M p = some (.lst ds)) : VSs σ M (σ.set i (some (.lst ds))) (mdel M p) := fun F H σv st hs => by
  obtain ⟨f0, ho, e1, vs, e2, r⟩ := st.own p _ h
  subst e2
  obtain ⟨s2, e⟩ := st.freeze h e1
  refine ⟨_, e, s2, ?_⟩
  obtain ⟨v, hv, rv⟩ := hs.2 i _ hi
  have hset : σv.set i (some v) = σv := by
    apply List.ext_getElem?
    intro j
    by_cases q : i = j
    · subst q; rw [List.getElem?_set_self (List.getElem?_eq_some_iff.mp hv).1, hv]
    · rw [List.getElem?_set_ne q]
  have := (hs.mono e).set (i := i) (d := .lst ds) (v := v) ⟨p, vs, rv, upd_same, r.mono e⟩
  rwa [hset] at this
theorem vss_drop {σ : Sig} {M : Mem} (p : Addr) : VSs σ M σ (mdel M p) := fun F H σv st hs => ⟨F, Ex.refl _, st.drop p, hs⟩
theorem vss_wk {σ σ' : Sig} {M : Mem} (hl : σ'.length = σ.length) (w : ∀ (i : Nat) (d : D), σ'[i]? = some (some d) → σ[i]? = some (some d)) : VSs σ M σ' M := fun F H σv st hs => ⟨F, Ex.refl _, st, hs.weak hl w⟩
section
variable {B : Hp} {te : TE} {ts : TS} {σ σ' : Sig} {M M' : Mem} {Q : DQ} {D3 : Ends3}
theorem w_vs (h : W3e B te σ M (fun d M1 => ∃ d' M', VS d M1 d' M' ∧ Q d' M')) : W3e B te σ M Q := fun F σv H Qv b hs st k =>
  h F σv H _ b hs st fun F1 M1 x xv H1 e1 st1 rx ⟨d', M', vs, q⟩ => by
    obtain ⟨F2, e2, s2, r2⟩ := vs F1 H1 xv st1 rx
    exact k F2 M' d' xv H1 (e1.trans e2) s2 r2 q
theorem s_vs (vs : VSs σ M σ' M') (h : W3s B ts D3 σ' M') : W3s B ts D3 σ M := fun F σv H Dv b hs st im => by
  obtain ⟨F2, e2, s2, r2⟩ := vs F H σv st hs
  exact h F2 σv H Dv (b.trans e2) r2 s2 (im.mono e2)
theorem e_vs (vs : VSs σ M σ' M') (h : W3e B te σ' M' Q) : W3e B te σ M Q := fun F σv H Qv b hs st k => by
  obtain ⟨F2, e2, s2, r2⟩ := vs F H σv st hs
  exact h F2 σv H Qv (b.trans e2) r2 s2 fun F' M' d v H' e => k F' M' d v H' (e2.trans e)
theorem VSs.rfl' : VSs σ M σ M := fun F H σv st hs => ⟨F, Ex.refl _, st, hs⟩
theorem VSs.trans {σ1 σ2 : Sig} {M1 M2 : Mem} (a : VSs σ M σ1 M1) (b : VSs σ1 M1 σ2 M2) : VSs σ M σ2 M2 := fun F H σv st hs => by
  obtain ⟨F1, e1, s1, r1⟩ := a F H σv st hs
  obtain ⟨F2, e2, s2, r2⟩ := b F1 H σv s1 r1
  exact ⟨F2, e1.trans e2, s2, r2⟩
end

/-! ### data -/
mutual
def py : D → PyData
  | .non => .none
  | .bl b => .bool b
  | .int i => .int i
  | .str x => .str x
  | .tup ds => .tuple (pys ds)
  | .lst ds => .list (pys ds)
  | .ty _ => .none
  | .ref _ => .none
  | .ins _ _ _ => .none
def pys : List D → List PyData
  | [] => []
  | d :: ds => py d :: pys ds
end
mutual
/-- data: no reference in it, no deeper than n -/
def okD : Nat → D → Bool
  | _, .non => true
  | _, .bl _ => true
  | _, .int _ => true
  | _, .str x => x.cps.all (· < 0x110000)
  | 0, .tup _ => false
  | 0, .lst _ => false
  | n + 1, .tup ds => okDs n ds
  | n + 1, .lst ds => okDs n ds
  | _, .ty _ => false
  | _, .ref _ => false
  | _, .ins _ _ _ => false
def okDs : Nat → List D → Bool
  | _, [] => true
  | n, d :: ds => okD n d && okDs n ds
end
mutual
theorem okD_dp {K : PySem.W.Frag} {F H : Hp} (e : Ex F H) : ∀ {n : Nat} {d : D} {v : V}, okD n d = true → RD F d v → Dp K H v (py d)
  | _, .non, _, _, r => by rw [show _ = V.non from r]; exact .non
  | _, .bl b, _, _, r => by rw [show _ = V.bl b from r]; exact .bl b
  | _, .int b, _, _, r => by rw [show _ = V.int b from r]; exact .int b
  | _, .str b, _, _, r => by rw [show _ = V.str b from r]; exact .str b
  | n + 1, .tup ds, _, o, ⟨a, vs, e1, h, rs⟩ => by rw [e1]; exact .tup (.inl (.inl (e a _ h))) (okDs_dp e (n := n) o rs)
  | n + 1, .lst ds, _, o, ⟨a, vs, e1, h, rs⟩ => by rw [e1]; exact .lst (.inl (.inl (e a _ h))) (okDs_dp e (n := n) o rs)
  | 0, .tup _, _, o, _ => nomatch o
  | 0, .lst _, _, o, _ => nomatch o
  | 0, .ty _, _, o, _ => nomatch o
  | 0, .ref _, _, o, _ => nomatch o
  | 0, .ins _ _ _, _, o, _ => nomatch o
  | _ + 1, .ty _, _, o, _ => nomatch o
  | _ + 1, .ref _, _, o, _ => nomatch o
  | _ + 1, .ins _ _ _, _, o, _ => nomatch o
theorem okDs_dp {K : PySem.W.Frag} {F H : Hp} (e : Ex F H) : ∀ {n : Nat} {ds : List D} {vs : List V}, okDs n ds = true → RDs F ds vs → DpAll K H vs (pys ds)
  | _, [], _, _, r => by rw [show _ = [] from r]; exact .nil
  | n, d :: ds, _, o, ⟨v, r, e1, h, hr⟩ => by
    rw [e1]
    have o' : okD n d = true ∧ okDs n ds = true := Bool.and_eq_true_iff.mp o
    exact .cons (okD_dp e o'.1 h) (okDs_dp e o'.2 hr)
end
mutual
theorem okD_lay : ∀ {n : Nat} {d : D}, okD n d = true → (py d).canLay0 = true
  | _, .non, _ => rfl
  | _, .bl _, _ => rfl
  | _, .int _, _ => rfl
  | _, .str _, o => o
  | n + 1, .tup ds, o => by show PyData.canLayAll0 (pys ds) = true; exact okDs_lay (n := n) o
  | n + 1, .lst ds, o => by show PyData.canLayAll0 (pys ds) = true; exact okDs_lay (n := n) o
  | 0, .tup _, o => nomatch o
  | 0, .lst _, o => nomatch o
  | _, .ty _, _ => rfl
  | _, .ref _, _ => rfl
  | _, .ins _ _ _, _ => rfl
theorem okDs_lay : ∀ {n : Nat} {ds : List D}, okDs n ds = true → PyData.canLayAll0 (pys ds) = true
  | _, [], _ => rfl
  | n, d :: ds, o => by
    have o' : okD n d = true ∧ okDs n ds = true := Bool.and_eq_true_iff.mp o
    show (PyData.canLay0 (py d) && PyData.canLayAll0 (pys ds)) = true
    rw [okD_lay o'.1, okDs_lay o'.2] <;> rfl
end
mutual
theorem okD_depth : ∀ {n : Nat} {d : D}, okD n d = true → (py d).depth ≤ n
  | _, .non, _ => Nat.zero_le _
  | _, .bl _, _ => Nat.zero_le _
  | _, .int _, _ => Nat.zero_le _
  | _, .str _, _ => Nat.zero_le _
  | n + 1, .tup ds, o => by show PyData.depthAll (pys ds) + 1 ≤ n + 1; exact Nat.succ_le_succ (okDs_depth (n := n) o)
  | n + 1, .lst ds, o => by show PyData.depthAll (pys ds) + 1 ≤ n + 1; exact Nat.succ_le_succ (okDs_depth (n := n) o)
  | 0, .tup _, o => nomatch o
  | 0, .lst _, o => nomatch o
  | _, .ty _, _ => Nat.zero_le _
  | _, .ref _, _ => Nat.zero_le _
  | _, .ins _ _ _, _ => Nat.zero_le _
theorem okDs_depth : ∀ {n : Nat} {ds : List D}, okDs n ds = true → PyData.depthAll (pys ds) ≤ n
  | _, [], _ => Nat.zero_le _
  | n, d :: ds, o => by
    have o' : okD n d = true ∧ okDs n ds = true := Bool.and_eq_true_iff.mp o
    show max (py d).depth (PyData.depthAll (pys ds)) ≤ n
    exact Nat.max_le.mpr ⟨okD_depth o'.1, okDs_depth o'.2⟩
end
theorem okD_shaped {n : Nat} {d : D} (h : okD n d = true) (hn : n ≤ 64 := by decide) : SeqAt.shaped (py d) = true := by
  unfold SeqAt.shaped
  rw [okD_lay h, decide_eq_true (Nat.le_trans (okD_depth h) hn)]
  rfl
theorem okDs_iff {n : Nat} : ∀ {ds : List D}, okDs n ds = true ↔ ∀ d ∈ ds, okD n d = true
  | [] => by simp [okDs]
  | d :: ds => by simp [okDs, okDs_iff (ds := ds)]
theorem pys_map : ∀ ds : List D, pys ds = ds.map py
  | [] => rfl
  | d :: ds => by show py d :: pys ds = _; rw [pys_map ds]; rfl
/-- Python's == -/
def peq (x y : D) : Bool := PyData.eqv (py x) (py y)
@[simp] theorem peq_int (i j : Int) : peq (.int i) (.int j) = (i == j) := rfl
@[simp] theorem peq_str (i j : Str) : peq (.str i) (.str j) = (i == j) := rfl
@[simp] theorem peq_bl (i j : Bool) : peq (.bl i) (.bl j) = (i == j) := rfl
@[simp] theorem peq_tup (x y : List D) : peq (.tup x) (.tup y) = PyData.eqvAll (pys x) (pys y) := rfl
@[simp] theorem peq_lst (x y : List D) : peq (.lst x) (.lst y) = PyData.eqvAll (pys x) (pys y) := rfl
@[simp] theorem peqs_nil : PyData.eqvAll (pys []) (pys []) = true := rfl
@[simp] theorem peqs_nc (y : D) (ys : List D) : PyData.eqvAll (pys []) (pys (y :: ys)) = false := rfl
@[simp] theorem peqs_cn (y : D) (ys : List D) : PyData.eqvAll (pys (y :: ys)) (pys []) = false := rfl
@[simp] theorem peqs_cc (x y : D) (xs ys : List D) : PyData.eqvAll (pys (x :: xs)) (pys (y :: ys)) = (peq x y && PyData.eqvAll (pys xs) (pys ys)) := rfl
/-- for encodings whose == is equality -/
theorem peqs_map {α : Type} [DecidableEq α] (f : α → D) (h : ∀ a b, peq (f a) (f b) = decide (a = b)) : ∀ xs ys : List α, PyData.eqvAll (pys (xs.map f)) (pys (ys.map f)) = decide (xs = ys)
  | [], [] => rfl
  | [], _ :: _ => rfl
  | _ :: _, [] => rfl
  | x :: xs, y :: ys => by
    show (peq (f x) (f y) && PyData.eqvAll (pys (xs.map f)) (pys (ys.map f))) = _
    rw [h, peqs_map f h xs ys]
    simp [List.cons.injEq]

/-! ### operators by their kinds of values -/
def rADD : R2 := fun x y H Q => (∃ i j, x = .int i ∧ y = .int j ∧ Q (.int (i + j)) H) ∨ (∃ i j, x = .str i ∧ y = .str j ∧ i.length + j.length ≤ sizeLine ∧ Q (.str (i ++ j)) H) ∨ rCat x y H Q
section
variable {X : Cx}
theorem op_ADD : OpR X (binaryOp .Add) rADD := by
  intro pins s σ H x y v u Q I rx ry h
  rcases h with h | h | h
  · exact op_add pins s σ H x y v u Q I rx ry h
  · exact op_add_str pins s σ H x y v u Q I rx ry h
  · exact op_cat pins s σ H x y v u Q I rx ry h
end
def rIN (K : PySem.W.Frag) (P : Program) (w : World) (neg : Bool) : R2 := fun x y H Q =>
  (∃ d ds, Dp K H x d ∧ Dp K H y (.list ds) ∧ SeqAt.shaped d = true ∧ SeqAt.shaped (.list ds) = true ∧ Q (.bl (if neg then !(ds.any fun z => PyData.eqv z d) else ds.any fun z => PyData.eqv z d)) H) ∨
  rIn K neg x y H Q ∨ rSInK P w neg x y H Q ∨ (∃ (c : Nat) (z : Str), x = .str ⟨#[c]⟩ ∧ y = .str z ∧ Q (.bl (if neg then !(decide (c ∈ z.cps.toList)) else decide (c ∈ z.cps.toList))) H)
section
variable {X : Cx}
theorem op_IN (hu : X.A.units + 65 < cLine) : OpR X (compareOp .In) (rIN X.K X.prog X.w false) := by
  intro pins s σ H x y v u Q I rx ry h
  rcases h with h | h | h | h
  · exact op_inD hu pins s σ H x y v u Q I rx ry h
  · exact op_in_seq pins s σ H x y v u Q I rx ry h
  · exact or_sinK pins s σ H x y v u Q I rx ry h
  · exact op_in_sign pins s σ H x y v u Q I rx ry h
theorem op_NIN (hu : X.A.units + 65 < cLine) : OpR X (compareOp .NotIn) (rIN X.K X.prog X.w true) := by
  intro pins s σ H x y v u Q I rx ry h
  rcases h with h | h | h | h
  · exact op_notInD hu pins s σ H x y v u Q I rx ry h
  · exact op_notIn_seq pins s σ H x y v u Q I rx ry h
  · exact or_snotinK pins s σ H x y v u Q I rx ry h
  · exact op_notIn_sign pins s σ H x y v u Q I rx ry h
end
end T3
set_option Elab.async false
set_option linter.all false
set_option maxRecDepth 100000
set_option maxHeartbeats 2000000
namespace T3
open PySem L2
open Evl (Ex)
/-! ### operators -/
section
variable {B : Hp} {M : Mem} {Q : DQ} {K : PySem.W.Frag} {P : Program} {w : World} {d x y : D} {ds xs ys : List D} {i j : Int} {s t : Str} {a b : Addr}
theorem r3_I0 {g : Int → Int → V} (q : Q d M) (h : ∀ F, RD F d (g i j) := by intro F; rfl) : R3 B (rI0 g) (.int i) (.int j) M Q := fun F H xv yv Qv _ st rx ry k => ⟨i, j, rx, ry, k F M d _ H (Ex.refl _) st (h F) q⟩
theorem r3_I {C : Int → Int → Prop} {g : Int → Int → V} (hc : C i j) (q : Q d M) (h : ∀ F, RD F d (g i j) := by intro F; rfl) : R3 B (rI C g) (.int i) (.int j) M Q := fun F H xv yv Qv _ st rx ry k => ⟨i, j, rx, ry, hc, k F M d _ H (Ex.refl _) st (h F) q⟩
theorem u3_I {g : Int → V} (q : Q d M) (h : ∀ F, RD F d (g i) := by intro F; rfl) : U3 B (rU g) (.int i) M Q := fun F H xv Qv _ st rx k => ⟨i, rx, k F M d _ H (Ex.refl _) st (h F) q⟩
theorem r3_add_ii (q : Q (.int (i + j)) M) : R3 B rADD (.int i) (.int j) M Q := fun F H xv yv Qv b st rx ry k => .inl ⟨i, j, rx, ry, k F M (.int (i + j)) _ H (Ex.refl _) st rfl q⟩
theorem r3_add_ss (h : s.length + t.length ≤ 1000000) (q : Q (.str (s ++ t)) M) : R3 B rADD (.str s) (.str t) M Q := fun F H xv yv Qv b st rx ry k => .inr (.inl ⟨s, t, rx, ry, Nat.le_trans h (by decide), k F M (.str (s ++ t)) _ H (Ex.refl _) st rfl q⟩)
/-- a list to be read: frozen, or owned -/
def LstD (M : Mem) (x : D) (ds : List D) : Prop := x = .lst ds ∨ ∃ a, x = .ref a ∧ M a = some (.lst ds)
theorem LstD.fz {M : Mem} {ds : List D} : LstD M (.lst ds) ds := .inl rfl
theorem LstD.ow {M : Mem} {a : Addr} {ds : List D} (h : M a = some (.lst ds)) : LstD M (.ref a) ds := .inr ⟨a, rfl, h⟩
theorem LstD.at {M : Mem} {x : D} {ds : List D} {F H : Hp} {v : V} (l : LstD M x ds) (st : St3 F M H) (r : RD F x v) : ∃ a vs, v = .ref a ∧ H a = some (.lst vs) ∧ RDs F ds vs := by
  rcases l with e | ⟨a, e, h⟩
  · subst e
    obtain ⟨a, vs, e1, h, rs⟩ := r
    exact ⟨a, vs, e1, st.fz a _ h, rs⟩
  · subst e
    obtain ⟨_, ho, h1, vs, e2, rs⟩ := st.own a _ h
    subst e2
    exact ⟨a, vs, r, h1, rs⟩
theorem LstD.seq {M : Mem} {x : D} {ds : List D} {F H : Hp} {v : V} (l : LstD M x ds) (st : St3 F M H) (r : RD F x v) : ∃ a vs, v = .ref a ∧ SqL K H a vs ∧ RDs F ds vs := by
  obtain ⟨a, vs, e, h, rs⟩ := l.at st r
  exact ⟨a, vs, e, .inl (.inl h), rs⟩
theorem r3_add_ll (lx : LstD M x xs) (ly : LstD M y ys) (h : xs.length + ys.length ≤ 1000000) (q : Q (.lst (xs ++ ys)) M) : R3 B rADD x y M Q := fun F H xv yv Qv b st rx ry k => by
  obtain ⟨a, vs, e1, h1, r1⟩ := lx.at st rx
  obtain ⟨c, us, e2, h2, r2⟩ := ly.at st ry
  refine .inr (.inr ⟨a, c, vs, us, e1, e2, h1, h2, ?_, fun p hp => ?_⟩)
  · rw [← r1.length, ← r2.length]; exact Nat.le_trans h (by decide)
  · obtain ⟨s2, e⟩ := st.new (o := .lst (vs ++ us)) hp
    exact k _ _ (.lst (xs ++ ys)) _ _ e s2 ⟨p, _, rfl, upd_same, (r1.append r2).mono e⟩ q
theorem r3_eq {n m : Nat} (hx : okD n x = true) (hy : okD m y = true) (q : Q (.bl (peq x y)) M) (hn : n ≤ 64 := by decide) (hm : m ≤ 64 := by decide) : R3 B (rEqD K) x y M Q := fun F H xv yv Qv b st rx ry k =>
  ⟨py x, py y, okD_dp st.fz hx rx, okD_dp st.fz hy ry, okD_shaped hx hn, okD_shaped hy hm, k F M (.bl (peq x y)) _ H (Ex.refl _) st rfl q⟩
theorem r3_ne {n m : Nat} (hx : okD n x = true) (hy : okD m y = true) (q : Q (.bl (!peq x y)) M) (hn : n ≤ 64 := by decide) (hm : m ≤ 64 := by decide) : R3 B (rNeD K) x y M Q := fun F H xv yv Qv b st rx ry k =>
  ⟨py x, py y, okD_dp st.fz hx rx, okD_dp st.fz hy ry, okD_shaped hx hn, okD_shaped hy hm, k F M (.bl (!peq x y)) _ H (Ex.refl _) st rfl q⟩
/-- owned lists of data -/
theorem LstD.dp {M : Mem} {n : Nat} {F H : Hp} {v : V} (l : LstD M x ds) (h : okDs n ds = true) (st : St3 F M H) (r : RD F x v) : Dp K H v (.list (pys ds)) := by
  obtain ⟨a, vs, e, h1, rs⟩ := l.at st r
  rw [e]
  exact .lst (.inl (.inl h1)) (okDs_dp st.fz h rs)
theorem okDs_shaped {n : Nat} (h : okDs n ds = true) (hn : n < 64) : SeqAt.shaped (.list (pys ds)) = true := by
  have : okD (n + 1) (.lst ds) = true := h
  exact okD_shaped this hn
theorem r3_eqO {n m : Nat} (lx : LstD M x xs) (ly : LstD M y ys) (hx : okDs n xs = true) (hy : okDs m ys = true) (q : Q (.bl (PyData.eqvAll (pys xs) (pys ys))) M) (hn : n < 64 := by decide) (hm : m < 64 := by decide) : R3 B (rEqD K) x y M Q := fun F H xv yv Qv b st rx ry k =>
  ⟨.list (pys xs), .list (pys ys), lx.dp hx st rx, ly.dp hy st ry, okDs_shaped hx hn, okDs_shaped hy hm, k F M (.bl (PyData.eqvAll (pys xs) (pys ys))) _ H (Ex.refl _) st rfl q⟩
theorem r3_neO {n m : Nat} (lx : LstD M x xs) (ly : LstD M y ys) (hx : okDs n xs = true) (hy : okDs m ys = true) (q : Q (.bl (!PyData.eqvAll (pys xs) (pys ys))) M) (hn : n < 64 := by decide) (hm : m < 64 := by decide) : R3 B (rNeD K) x y M Q := fun F H xv yv Qv b st rx ry k =>
  ⟨.list (pys xs), .list (pys ys), lx.dp hx st rx, ly.dp hy st ry, okDs_shaped hx hn, okDs_shaped hy hm, k F M (.bl (!PyData.eqvAll (pys xs) (pys ys))) _ H (Ex.refl _) st rfl q⟩
theorem any_pys (d : PyData) : ∀ ds : List D, ((pys ds).any fun z => PyData.eqv z d) = ds.any fun z => PyData.eqv (py z) d
  | [] => rfl
  | z :: zs => by show (PyData.eqv (py z) d || (pys zs).any _) = (PyData.eqv (py z) d || zs.any _); rw [any_pys d zs]
theorem r3_in {n m : Nat} {neg : Bool} (ly : LstD M y ys) (hx : okD n x = true) (hy : okDs m ys = true) (q : Q (.bl (if neg then !(ys.any fun z => peq z x) else ys.any fun z => peq z x)) M) (hn : n ≤ 64 := by decide) (hm : m < 64 := by decide) : R3 B (rIN K P w neg) x y M Q := fun F H xv yv Qv b st rx ry k =>
  .inl ⟨py x, pys ys, okD_dp st.fz hx rx, ly.dp hy st ry, okD_shaped hx hn, okDs_shaped hy hm, by
    rw [any_pys]
    exact k F M (.bl (if neg then !(ys.any fun z => peq z x) else ys.any fun z => peq z x)) _ H (Ex.refl _) st (by cases neg <;> rfl) q⟩
theorem r3_in_set {neg : Bool} {k : Key} {S : Key → Bool} {n : Nat} (hx : ∀ F v, RD F x v → v = kV k) (h : M a = some (.raw (SetK P w a S n))) (q : Q (.bl (if neg then !S k else S k)) M) : R3 B (rIN K P w neg) x (.ref a) M Q := fun F H xv yv Qv b st rx ry kk => by
  obtain ⟨_, ho, h1, e⟩ := st.own a _ h
  rw [show ho = _ from e] at h1
  exact .inr (.inr (.inl ⟨k, a, S, n, hx F xv rx, ry, h1, kk F M (.bl (if neg then !S k else S k)) _ H (Ex.refl _) st rfl q⟩))
theorem r3_in_sign {neg : Bool} {c : Nat} {z : Str} (q : Q (.bl (if neg then !(decide (c ∈ z.cps.toList)) else decide (c ∈ z.cps.toList))) M) : R3 B (rIN K P w neg) (.str ⟨#[c]⟩) (.str z) M Q := fun F H xv yv Qv b st rx ry kk =>
  .inr (.inr (.inr ⟨c, z, rx, ry, kk F M (.bl (if neg then !(decide (c ∈ z.cps.toList)) else decide (c ∈ z.cps.toList))) _ H (Ex.refl _) st rfl q⟩))
end
/-! ### items, slices -/
section
variable {B : Hp} {M : Mem} {Q : DQ} {K : PySem.W.Frag} {P : Program} {w : World} {d x y : D} {ds xs ys : List D} {i j : Int} {s t : Str} {a b : Addr}
theorem atI_rel {F : Hp} {vs : List V} (r : RDs F ds vs) (h : atI ds i = some d) : ∃ v, atI vs i = some v ∧ RD F d v := by
  unfold atI at h ⊢
  rw [← r.length]
  cases e : ixN ds.length i with
  | none => rw [e] at h; cases h
  | some k =>
    rw [e] at h
    exact r.at h
theorem r3_ix_l (l : LstD M x ds) (h : atI ds i = some d) (q : Q d M) : R3 B (rIx K) x (.int i) M Q := fun F H xv yv Qv b st rx ry k => by
  obtain ⟨a, vs, e, h1, r⟩ := l.seq (K := K) st rx
  obtain ⟨v, hv, rv⟩ := atI_rel r h
  exact .inl ⟨a, vs, i, v, e, ry, h1, hv, k F M d v H (Ex.refl _) st rv q⟩
theorem r3_ix_t (h : atI ds i = some d) (q : Q d M) : R3 B (rIx K) (.tup ds) (.int i) M Q := fun F H xv yv Qv b st rx ry k => by
  obtain ⟨a, vs, e, h1, r⟩ := rx
  obtain ⟨v, hv, rv⟩ := atI_rel r h
  exact .inr (.inl ⟨a, vs, i, v, e, ry, .inl (.inl (st.fz a _ h1)), hv, k F M d v H (Ex.refl _) st rv q⟩)
theorem r3_ix_s {c : Nat} (hl : s.length ≤ 1000000) (h : atI s.cps.toList i = some c) (q : Q (.str ⟨#[c]⟩) M) : R3 B (rIx K) (.str s) (.int i) M Q := fun F H xv yv Qv b st rx ry k =>
  .inr (.inr ⟨s, i, c, rx, ry, Nat.le_trans hl (by decide), h, k F M (.str ⟨#[c]⟩) _ H (Ex.refl _) st rfl q⟩)
def O3 (B : Hp) (to : TO) (σ : Sig) (M : Mem) (Q : Option Int → Mem → Prop) : Prop :=
  ∀ (F : Hp) (σv : St) (H : Hp) (Qv : Option Int → Hp → Prop), Ex B F → SRel F σ σv → St3 F M H → (∀ F' M' o H', Ex F F' → St3 F' M' H' → Q o M' → Qv o H') → to σv H Qv
theorem o_no {σ : Sig} {Q : Option Int → Mem → Prop} (q : Q none M) : O3 B tNoPart σ M Q := fun F σv H Qv b hs st k => k F M none H (Ex.refl _) st q
theorem o_some {σ : Sig} {te : TE} {Q : Option Int → Mem → Prop} (h : W3e B te σ M (fun x M1 => ∃ i, x = .int i ∧ Q (some i) M1)) : O3 B (tPart te) σ M Q := fun F σv H Qv b hs st k =>
  h F σv H _ b hs st fun F1 M1 x xv H1 e1 st1 rx ⟨i, ex, q⟩ => by
    subst ex
    exact ⟨i, rx, k F1 M1 (some i) H1 e1 st1 q⟩
def S3 (B : Hp) (r : V → Option Int → Option Int → Hp → VK → Prop) (x : D) (lo hi : Option Int) (M : Mem) (Q : DQ) : Prop :=
  ∀ (F : Hp) (H : Hp) (xv : V) (Qv : VK), Ex B F → St3 F M H → RD F x xv → (∀ F' M' d v H', Ex F F' → St3 F' M' H' → RD F' d v → Q d M' → Qv v H') → r xv lo hi H Qv
theorem w_sl {r : V → Option Int → Option Int → Hp → VK → Prop} {te : TE} {tl th : TO} {σ : Sig} (h : W3e B te σ M (fun x M1 => O3 B tl σ M1 (fun lo M2 => O3 B th σ M2 (fun hi M3 => S3 B r x lo hi M3 Q)))) : W3e B (tSl r te tl th) σ M Q := fun F σv H Qv b hs st k =>
  h F σv H _ b hs st fun F1 M1 x xv H1 e1 st1 rx q1 => q1 F1 σv H1 _ (b.trans e1) (hs.mono e1) st1 fun F2 M2 lo H2 e2 st2 q2 =>
    q2 F2 σv H2 _ ((b.trans e1).trans e2) ((hs.mono e1).mono e2) st2 fun F3 M3 hi H3 e3 st3 q3 =>
      q3 F3 H3 xv Qv (((b.trans e1).trans e2).trans e3) st3 ((rx.mono e2).mono e3) fun F4 M4 d v H4 e4 st4 rd qd => k F4 M4 d v H4 (((e1.trans e2).trans e3).trans e4) st4 rd qd
def cutD (xs : List D) (lo hi : Option Int) : List D := (xs.drop (HT.sIx xs.length 0 lo)).take (HT.sIx xs.length xs.length hi - HT.sIx xs.length 0 lo)
theorem RDs.cut {F : Hp} {vs : List V} (r : RDs F ds vs) (lo hi : Option Int) : RDs F (cutD ds lo hi) (cutV vs lo hi) := by
  unfold cutD cutV
  rw [← r.length]
  exact (r.drop _).take _
def rSL (K : PySem.W.Frag) : V → Option Int → Option Int → Hp → VK → Prop := fun x lo hi H Q => rSlL K x lo hi H Q ∨ rSlS x lo hi H Q
theorem sl_SL {X : Cx} : SlR X (rSL X.K) := sl_list.or sl_str
theorem s3_l {lo hi : Option Int} (l : LstD M x ds) (q : Q (.lst (cutD ds lo hi)) M) : S3 B (rSL K) x lo hi M Q := fun F H xv Qv b st rx k => by
  obtain ⟨a, vs, e, h1, r⟩ := l.seq (K := K) st rx
  refine .inl ⟨a, vs, e, h1, fun p hp => ?_⟩
  obtain ⟨s2, e2⟩ := st.new (o := .lst (cutV vs lo hi)) hp
  exact k _ _ (.lst (cutD ds lo hi)) _ _ e2 s2 ⟨p, _, rfl, upd_same, (r.cut lo hi).mono e2⟩ q
end
section
variable {B : Hp} {M : Mem} {Q : DQ} {K : PySem.W.Frag} {P : Program} {w : World} {d x y : D} {ds xs ys : List D} {i j : Int} {s t : Str} {a b : Addr}
theorem s3_s {lo hi : Option Int} (hl : s.length ≤ 1000000) (q : Q (.str (cutS s lo hi)) M) : S3 B (rSL K) (.str s) lo hi M Q := fun F H xv Qv b st rx k =>
  .inr ⟨s, rx, Nat.le_trans hl (by decide), k F M (.str (cutS s lo hi)) _ H (Ex.refl _) st rfl q⟩
/-! ### calls of built-ins -/
theorem w_cb {r : List V → Hp → VK → Prop} {t : TA} {σ : Sig} (h : W3a B t σ M (fun xs M1 => C3 B r xs M1 Q)) : W3e B (tCB r t) σ M Q := fun F σv H Qv b hs st k =>
  h F σv H _ b hs st fun F1 M1 x xv H1 e1 st1 rx q1 => q1 F1 H1 xv Qv (b.trans e1) st1 rx fun F3 M3 d v H3 e3 st3 rd qd => k F3 M3 d v H3 (e1.trans e3) st3 rd qd
theorem RDs.sing {F : Hp} {xv : List V} (h : RDs F [x] xv) : ∃ v, xv = [v] ∧ RD F x v := by
  obtain ⟨v, r, e, h1, h2⟩ := h
  exact ⟨v, by rw [e, show r = [] from h2], h1⟩
theorem RDs.two {F : Hp} {xv : List V} (h : RDs F [x, y] xv) : ∃ v u, xv = [v, u] ∧ RD F x v ∧ RD F y u := by
  obtain ⟨v, r, e, h1, h2⟩ := h
  obtain ⟨u, e2, h3⟩ := h2.sing
  exact ⟨v, u, by rw [e, e2], h1, h3⟩
abbrev rLEN (K : PySem.W.Frag) : List V → Hp → VK → Prop := fun xs H Q => ∃ x n, xs = [x] ∧ LenV K x H n ∧ Q (.int n) H
theorem c3_len (l : LstD M x ds) (q : Q (.int ds.length) M) : C3 B (rLEN K) [x] M Q := fun F H xv Qv b st rx k => by
  obtain ⟨v, e, r⟩ := rx.sing
  obtain ⟨a, vs, e1, h1, rs⟩ := l.seq (K := K) st r
  subst e; subst e1
  exact ⟨.ref a, ds.length, rfl, .inl ⟨vs, h1, rs.length⟩, k F M (.int ds.length) _ H (Ex.refl _) st rfl q⟩
theorem c3_len_t (q : Q (.int ds.length) M) : C3 B (rLEN K) [.tup ds] M Q := fun F H xv Qv b st rx k => by
  obtain ⟨v, e, a, vs, e1, h1, rs⟩ := rx.sing
  subst e; subst e1
  exact ⟨.ref a, ds.length, rfl, .inr ⟨vs, .inl (.inl (st.fz a _ h1)), rs.length⟩, k F M (.int ds.length) _ H (Ex.refl _) st rfl q⟩
theorem c3_len_s (hl : s.length ≤ 1000000) (q : Q (.int s.length) M) : C3 B (rLEN K) [.str s] M Q := fun F H xv Qv b st rx k => by
  obtain ⟨v, e, r⟩ := rx.sing
  subst e
  rw [show v = V.str s from r]
  exact ⟨.str s, s.length, rfl, ⟨Nat.le_trans hl (by decide), rfl⟩, k F M (.int s.length) _ H (Ex.refl _) st rfl q⟩
abbrev rINT : List V → Hp → VK → Prop := fun xs H Q => (∃ i, xs = [.int i] ∧ Q (.int i) H) ∨ ∃ k, xs = [.bl k] ∧ Q (.int (if k then 1 else 0)) H
theorem c3_int_i (q : Q (.int i) M) : C3 B rINT [.int i] M Q := fun F H xv Qv b st rx k => by
  obtain ⟨v, e, r⟩ := rx.sing
  subst e
  rw [show v = V.int i from r]
  exact .inl ⟨i, rfl, k F M (.int i) _ H (Ex.refl _) st rfl q⟩
theorem c3_int_b {c : Bool} (q : Q (.int (if c then 1 else 0)) M) : C3 B rINT [.bl c] M Q := fun F H xv Qv b st rx k => by
  obtain ⟨v, e, r⟩ := rx.sing
  subst e
  rw [show v = V.bl c from r]
  exact .inr ⟨c, rfl, k F M (.int (if c then 1 else 0)) _ H (Ex.refl _) st rfl q⟩
abbrev rABS : List V → Hp → VK → Prop := fun xs H Q => ∃ i, xs = [.int i] ∧ Q (.int (if i < 0 then -i else i)) H
theorem c3_abs (q : Q (.int (if i < 0 then -i else i)) M) : C3 B rABS [.int i] M Q := fun F H xv Qv b st rx k => by
  obtain ⟨v, e, r⟩ := rx.sing
  subst e
  rw [show v = V.int i from r]
  exact ⟨i, rfl, k F M (.int (if i < 0 then -i else i)) _ H (Ex.refl _) st rfl q⟩
abbrev rMAX2 : List V → Hp → VK → Prop := fun xs H Q => ∃ i j, xs = [.int i, .int j] ∧ Q (.int (if j > i then j else i)) H
abbrev rMIN2 : List V → Hp → VK → Prop := fun xs H Q => ∃ i j, xs = [.int i, .int j] ∧ Q (.int (if j < i then j else i)) H
theorem c3_max2 (q : Q (.int (if j > i then j else i)) M) : C3 B rMAX2 [.int i, .int j] M Q := fun F H xv Qv b st rx k => by
  obtain ⟨v, u, e, r1, r2⟩ := rx.two
  subst e
  rw [show v = V.int i from r1, show u = V.int j from r2]
  exact ⟨i, j, rfl, k F M (.int (if j > i then j else i)) _ H (Ex.refl _) st rfl q⟩
theorem c3_min2 (q : Q (.int (if j < i then j else i)) M) : C3 B rMIN2 [.int i, .int j] M Q := fun F H xv Qv b st rx k => by
  obtain ⟨v, u, e, r1, r2⟩ := rx.two
  subst e
  rw [show v = V.int i from r1, show u = V.int j from r2]
  exact ⟨i, j, rfl, k F M (.int (if j < i then j else i)) _ H (Ex.refl _) st rfl q⟩
abbrev rLST (K : PySem.W.Frag) : List V → Hp → VK → Prop := fun xs H Q => ∃ p ys, xs = [.ref p] ∧ (SqL K H p ys ∨ SqT K H p ys) ∧ ∀ l, H l = none → Q (.ref l) (upd H l (.lst ys))
/-- list(x): a frozen copy; one that will change -/
theorem c3_lst (l : LstD M x ds) (q : Q (.lst ds) M) : C3 B (rLST K) [x] M Q := fun F H xv Qv b st rx k => by
  obtain ⟨v, e, r⟩ := rx.sing
  obtain ⟨a, vs, e1, h1, rs⟩ := l.seq (K := K) st r
  subst e; subst e1
  refine ⟨a, vs, rfl, .inl h1, fun p hp => ?_⟩
  obtain ⟨s2, e2⟩ := st.new (o := .lst vs) hp
  exact k _ _ (.lst ds) _ _ e2 s2 ⟨p, _, rfl, upd_same, rs.mono e2⟩ q
theorem c3_lstO (l : LstD M x ds) (q : ∀ p, M p = none → Q (.ref p) (mput M p (.lst ds))) : C3 B (rLST K) [x] M Q := fun F H xv Qv b st rx k => by
  obtain ⟨v, e, r⟩ := rx.sing
  obtain ⟨a, vs, e1, h1, rs⟩ := l.seq (K := K) st r
  subst e; subst e1
  exact ⟨a, vs, rfl, .inl h1, fun p hp => k F _ (.ref p) _ _ (Ex.refl _) (st.newO (d := .lst ds) hp ⟨vs, rfl, rs⟩) rfl (q p (st.nn hp).2)⟩
theorem c3_lst_t (q : Q (.lst ds) M) : C3 B (rLST K) [.tup ds] M Q := fun F H xv Qv b st rx k => by
  obtain ⟨v, e, a, vs, e1, h1, rs⟩ := rx.sing
  subst e; subst e1
  refine ⟨a, vs, rfl, .inr (.inl (.inl (st.fz a _ h1))), fun p hp => ?_⟩
  obtain ⟨s2, e2⟩ := st.new (o := .lst vs) hp
  exact k _ _ (.lst ds) _ _ e2 s2 ⟨p, _, rfl, upd_same, rs.mono e2⟩ q
theorem RDs.bls {F : Hp} : ∀ {bs : List Bool} {vs : List V}, RDs F (bs.map D.bl) vs → vs = bs.map V.bl
  | [], _, h => h
  | b :: bs, _, ⟨v, r, e, h1, h2⟩ => by rw [e, show v = V.bl b from h1, RDs.bls h2]; rfl
theorem RDs.ints {F : Hp} : ∀ {bs : List Int} {vs : List V}, RDs F (bs.map D.int) vs → vs = bs.map V.int
  | [], _, h => h
  | b :: bs, _, ⟨v, r, e, h1, h2⟩ => by rw [e, show v = V.int b from h1, RDs.ints h2]; rfl
theorem RDs.strs {F : Hp} : ∀ {bs : List Str} {vs : List V}, RDs F (bs.map D.str) vs → vs = bs.map V.str
  | [], _, h => h
  | b :: bs, _, ⟨v, r, e, h1, h2⟩ => by rw [e, show v = V.str b from h1, RDs.strs h2]; rfl
theorem c3_any {bs : List Bool} (l : LstD M x (bs.map D.bl)) (q : Q (.bl (bs.any id)) M) : C3 B (rAny K) [x] M Q := fun F H xv Qv b st rx k => by
  obtain ⟨v, e, r⟩ := rx.sing
  obtain ⟨a, vs, e1, h1, rs⟩ := l.seq (K := K) st r
  subst e; subst e1
  rw [rs.bls] at h1
  exact ⟨a, bs, rfl, h1, k F M (.bl (bs.any id)) _ H (Ex.refl _) st rfl q⟩
theorem c3_all {bs : List Bool} (l : LstD M x (bs.map D.bl)) (q : Q (.bl (bs.all id)) M) : C3 B (rAll K) [x] M Q := fun F H xv Qv b st rx k => by
  obtain ⟨v, e, r⟩ := rx.sing
  obtain ⟨a, vs, e1, h1, rs⟩ := l.seq (K := K) st r
  subst e; subst e1
  rw [rs.bls] at h1
  exact ⟨a, bs, rfl, h1, k F M (.bl (bs.all id)) _ H (Ex.refl _) st rfl q⟩
theorem c3_sum {bs : List Int} (l : LstD M x (bs.map D.int)) (q : Q (.int bs.sum) M) : C3 B (rSum K) [x] M Q := fun F H xv Qv b st rx k => by
  obtain ⟨v, e, r⟩ := rx.sing
  obtain ⟨a, vs, e1, h1, rs⟩ := l.seq (K := K) st r
  subst e; subst e1
  rw [rs.ints] at h1
  exact ⟨a, bs, rfl, h1, k F M (.int bs.sum) _ H (Ex.refl _) st rfl q⟩
def tyD : D → String
  | .non => "NoneType"
  | .bl _ => "bool"
  | .int _ => "int"
  | .str _ => "str"
  | .tup _ => "tuple"
  | .lst _ => "list"
  | _ => ""
theorem RD.tyX {F H : Hp} {v : V} (e : Ex F H) (r : RD F x v) (h : (tyD x == "") = false) : TyX K H v (.type (tyD x)) := by
  cases x with
  | non => rw [show v = _ from r]; exact .base .non
  | bl b => rw [show v = _ from r]; exact .base (.bl b)
  | int b => rw [show v = _ from r]; exact .base (.int b)
  | str b => rw [show v = _ from r]; exact .base (.str b)
  | tup ds => obtain ⟨a, vs, e1, h1, _⟩ := r; rw [e1]; exact .base (.tup (e a _ h1))
  | lst ds => obtain ⟨a, vs, e1, h1, _⟩ := r; rw [e1]; exact .base (.lst (e a _ h1))
  | _ => exact nomatch h
theorem c3_isi {n : String} {c : Bool} (h : (tyD x == "") = false) (hk : PySem.W.kitOne K (.type (tyD x)) (.type n) = some c) (q : Q (.bl c) M) : C3 B (rIsi K) [x, .ty n] M Q := fun F H xv Qv b st rx k => by
  obtain ⟨v, u, e, r1, r2⟩ := rx.two
  subst e
  rw [show u = V.ty n from r2]
  exact ⟨v, .ty n, .type (tyD x), .type n, c, rfl, .ty n, r1.tyX st.fz h, hk, k F M (.bl c) _ H (Ex.refl _) st rfl q⟩
/-! ### methods of built-ins -/
def TyD (M : Mem) (T : String) (x : D) : Prop := (T = "str" ∧ ∃ s, x = .str s) ∨ (T = "list" ∧ ∃ ds, LstD M x ds) ∨ (T = "dict" ∧ ∃ a, x = .ref a ∧ ((∃ kvs, M a = some (.dK kvs)) ∨ ∃ kvs, M a = some (.dT kvs)))
theorem TyD.at {F H : Hp} {T : String} {v : V} (h : TyD M T x) (st : St3 F M H) (r : RD F x v) : tyV K T v H := by
  rcases h with ⟨rfl, s, e⟩ | ⟨rfl, ds, l⟩ | ⟨rfl, a, e, h⟩
  · subst e; rw [show v = V.str s from r]; rfl
  · obtain ⟨a, vs, e1, h1, _⟩ := l.seq (K := K) st r
    rw [e1]
    exact .inl ⟨rfl, vs, h1⟩
  · subst e
    rw [show v = V.ref a from r]
    rcases h with ⟨kvs, h⟩ | ⟨kvs, h⟩
    · obtain ⟨_, ho, h1, kv, e2, _⟩ := st.own a _ h
      rw [e2] at h1
      exact .inr (.inr (.inl ⟨rfl, .inl ⟨kv, h1⟩⟩))
    · obtain ⟨_, ho, h1, kv, e2, _⟩ := st.own a _ h
      rw [e2] at h1
      exact .inr (.inr (.inl ⟨rfl, .inr ⟨kv, h1⟩⟩))
theorem TyD.lf {ds : List D} : TyD M "list" (.lst ds) := .inr (.inl ⟨rfl, ds, .fz⟩)
theorem TyD.lo {ds : List D} (h : M a = some (.lst ds)) : TyD M "list" (.ref a) := .inr (.inl ⟨rfl, ds, .ow h⟩)
theorem TyD.txt : TyD M "str" (.str s) := .inl ⟨rfl, s, rfl⟩
theorem w_bm0 {T : String} {r : V → List V → Hp → VK → Prop} {ta : TE} {σ : Sig} (h : W3e B ta σ M (fun x M1 => TyD M1 T x ∧ M3 B r x [] M1 Q)) : W3e B (tBM0 K T r ta) σ M Q := fun F σv H Qv b hs st k =>
  h F σv H _ b hs st fun F1 M1 x xv H1 e1 st1 rx ⟨ty, q1⟩ => ⟨ty.at st1 rx, q1 F1 H1 xv [] Qv (b.trans e1) st1 rx rfl fun F3 M3 d v H3 e3 st3 rd qd => k F3 M3 d v H3 (e1.trans e3) st3 rd qd⟩
theorem w_bm {T : String} {r : V → List V → Hp → VK → Prop} {ta : TE} {t : TA} {σ : Sig} (h : W3e B ta σ M (fun x M1 => TyD M1 T x ∧ W3a B t σ M1 (fun xs M2 => M3 B r x xs M2 Q))) : W3e B (tBM K T r ta t) σ M Q := fun F σv H Qv b hs st k =>
  h F σv H _ b hs st fun F1 M1 x xv H1 e1 st1 rx ⟨ty, q1⟩ => ⟨ty.at st1 rx, q1 F1 σv H1 _ (b.trans e1) (hs.mono e1) st1 fun F2 M2 xs xvs H2 e2 st2 rxs q2 =>
    q2 F2 H2 xv xvs Qv ((b.trans e1).trans e2) st2 (rx.mono e2) rxs fun F3 M3 d v H3 e3 st3 rd qd => k F3 M3 d v H3 ((e1.trans e2).trans e3) st3 rd qd⟩
theorem m3_append (h : M a = some (.lst ds)) (hl : ds.length ≤ 100000) (q : Q .non (mput M a (.lst (ds ++ [y])))) : M3 B rAppend (.ref a) [y] M Q := fun F H xv xvs Qv b st rx rxs k => by
  obtain ⟨v, e, ry⟩ := rxs.sing
  obtain ⟨_, ho, h1, vs, e2, rs⟩ := st.own a _ h
  subst e2
  refine ⟨a, vs, v, rx, e, h1, ?_, k F _ .non _ _ (Ex.refl _) (st.put h (d' := .lst (ds ++ [y])) ⟨_, rfl, rs.snoc ry⟩) rfl q⟩
  rw [← rs.length]; exact Nat.lt_of_le_of_lt hl (by decide)
theorem m3_extend (h : M a = some (.lst ds)) (l : LstD M y ys) (hl : ds.length + ys.length ≤ 100000) (q : Q .non (mput M a (.lst (ds ++ ys)))) : M3 B rExtend (.ref a) [y] M Q := fun F H xv xvs Qv b st rx rxs k => by
  obtain ⟨v, e, ry⟩ := rxs.sing
  obtain ⟨_, ho, h1, vs, e2, rs⟩ := st.own a _ h
  obtain ⟨c, us, e3, h3, r3⟩ := l.at st ry
  subst e2; subst e3
  refine ⟨a, c, vs, us, rx, e, h1, h3, ?_, k F _ .non _ _ (Ex.refl _) (st.put h (d' := .lst (ds ++ ys)) ⟨_, rfl, rs.append r3⟩) rfl q⟩
  rw [← rs.length, ← r3.length]; exact Nat.le_trans hl (by decide)
theorem m3_clear (h : M a = some (.lst ds)) (q : Q .non (mput M a (.lst []))) : M3 B rClear (.ref a) [] M Q := fun F H xv xvs Qv b st rx rxs k => by
  obtain ⟨_, ho, h1, vs, e2, rs⟩ := st.own a _ h
  subst e2
  exact ⟨a, vs, rx, rxs, h1, k F _ .non _ _ (Ex.refl _) (st.put h (d' := .lst []) ⟨_, rfl, rfl⟩) rfl q⟩
theorem m3_pop0 (h : M a = some (.lst (x :: ds))) (q : Q x (mput M a (.lst ds))) : M3 B rPopAt (.ref a) [.int 0] M Q := fun F H xv xvs Qv b st rx rxs k => by
  obtain ⟨v, e, ry⟩ := rxs.sing
  obtain ⟨_, ho, h1, vs, e2, rs⟩ := st.own a _ h
  obtain ⟨z, us, e3, r1, r2⟩ := rs
  subst e2; subst e3
  rw [show v = V.int 0 from ry] at e
  exact ⟨a, z :: us, 0, 0, z, rx, e, h1, by decide, by decide, by simp [seqIndex?], rfl, k F _ x _ _ (Ex.refl _) (st.put h (d' := .lst ds) ⟨_, rfl, r2⟩) r1 q⟩
end
end T3
set_option Elab.async false
set_option linter.all false
set_option maxRecDepth 100000
set_option maxHeartbeats 2000000
namespace T3
open PySem L2
open Evl (Ex)
/-! ### what is walked -/
/-- J walks the items ds while P holds of the owned objects -/
def WD (F : Hp) (J : It) (ds : List D) (P : Mem → Prop) : Prop := ∃ (G : Hp → Prop) (Y : Nat → Hp → V → Hp → Prop), Walk J ds.length G Y ∧ (∀ F' M H, Ex F F' → St3 F' M H → P M → G H) ∧
  (∀ (i : Nat) d x H H' F' M, ds[i]? = some d → Ex F F' → St3 F' M H → P M → Y i H x H' → ∃ F2, Ex F' F2 ∧ St3 F2 M H' ∧ RD F2 d x) ∧ (∀ M p o, M p = none → P M → P (mput M p o))
def W3i (B : Hp) (wi : TI) (σ : Sig) (M : Mem) (Q : List D → (Mem → Prop) → Mem → Prop) : Prop :=
  ∀ (F : Hp) (σv : St) (H : Hp) (R : It → Hp → Prop), Ex B F → SRel F σ σv → St3 F M H → (∀ F' M' J ds P H', Ex F F' → St3 F' M' H' → WD F' J ds P → Q ds P M' → R J H') → wi σv H R
section
variable {B : Hp} {M : Mem} {K : PySem.W.Frag} {σ : Sig} {te : TE} {ta : TA} {Q : List D → (Mem → Prop) → Mem → Prop}
theorem WD.len {F : Hp} {ds : List D} {vs : List V} {J : It} {n : Nat} {G : Hp → Prop} {Y : Nat → Hp → V → Hp → Prop} (w : Walk J n G Y) (e : n = ds.length) : Walk J ds.length G Y := e ▸ w
theorem i_list (h : W3e B te σ M (fun x M1 => ∃ ds, x = .lst ds ∧ Q ds (fun _ => True) M1)) : W3i B (iList K te) σ M Q := fun F σv H R b hs st k =>
  h F σv H _ b hs st fun F1 M1 x xv H1 e1 st1 rx ⟨ds, ex, q⟩ => by
    subst ex
    obtain ⟨a, vs, ev, hf, rs⟩ := rx
    refine ⟨a, ev, ⟨vs, .inl (.inl (st1.fz a _ hf))⟩, k F1 M1 (Itl K a) ds _ H1 e1 st1 ⟨fun H => SqL K H a vs, YAt vs, WD.len (F := F1) (vs := vs) walk_list rs.length.symm, ?_, ?_, fun _ _ _ _ z => z⟩ q⟩
    · intro F' M' H' e s _
      exact .inl (.inl (s.fz a _ (e a _ hf)))
    · intro i d x H' H'' F' M' hd e s _ y
      obtain ⟨y1, y2⟩ := y
      subst y1
      obtain ⟨v, hv, rv⟩ := rs.at hd
      rw [y2] at hv; cases hv
      exact ⟨F', Ex.refl _, s, rv.mono e⟩
/-- over an owned list that stands still -/
theorem i_listO (h : W3e B te σ M (fun x M1 => ∃ a ds, x = .ref a ∧ M1 a = some (.lst ds) ∧ Q ds (fun M => M a = some (.lst ds)) M1)) : W3i B (iList K te) σ M Q := fun F σv H R b hs st k =>
  h F σv H _ b hs st fun F1 M1 x xv H1 e1 st1 rx ⟨a, ds, ex, hm, q⟩ => by
    subst ex
    obtain ⟨_, ho, h1, vs, e2, rs⟩ := st1.own a _ hm
    subst e2
    refine ⟨a, rx, ⟨vs, .inl (.inl h1)⟩, k F1 M1 (Itl K a) ds _ H1 e1 st1 ⟨fun H => ∃ us, SqL K H a us ∧ us.length = vs.length, fun i H x H' => H' = H ∧ ∀ us, SqL K H a us → us[i]? = some x, ?_, ?_, ?_, ?_⟩ q⟩
    · rw [rs.length]
      exact ⟨fun i H hi ⟨us, g, hl⟩ => ⟨us, us[i], g, by simp [hl, hi]⟩, fun H ⟨us, g, hl⟩ => ⟨us, g, Nat.le_of_eq hl⟩, fun i H x H' hi g y => y⟩
    · intro F' M' H' e s p
      obtain ⟨_, ho, h1', us, e2, rs'⟩ := s.own a _ p
      subst e2
      exact ⟨us, .inl (.inl h1'), by rw [← rs'.length, rs.length]⟩
    · intro i d x H' H'' F' M' hd e s p ⟨y1, y2⟩
      subst y1
      obtain ⟨f0, ho, h1', us', e2, rs'⟩ := s.own a _ p
      subst e2
      obtain ⟨v, hv, rv⟩ := rs'.at hd
      rw [y2 us' (.inl (.inl h1'))] at hv; cases hv
      exact ⟨F', Ex.refl _, s, rv⟩
    · intro M' p o hp hm'
      show mput M' p o a = _
      rw [mput_ne (mne hm' hp)]; exact hm'

theorem i_rng1 (h : W3a B ta σ M (fun xs M1 => ∃ j : Int, xs = [.int j] ∧ -1000000 ≤ j ∧ j ≤ 1000000 ∧ Q ((List.range j.toNat).map fun (i : Nat) => D.int (i : Int)) (fun _ => True) M1)) : W3i B (iRng1 ta) σ M Q := fun F σv H R b hs st k =>
  h F σv H _ b hs st fun F1 M1 xs xv H1 e1 st1 rx ⟨j, ex, hj0, hj, q⟩ => by
    subst ex
    obtain ⟨v, e, r⟩ := rx.sing
    subst e
    rw [show v = V.int j from r]
    refine ⟨j, rfl, by omega, by omega, k F1 M1 _ _ _ H1 e1 st1 ⟨fun _ => True, _, WD.len (F := F1) (ds := (List.range j.toNat).map fun (i : Nat) => D.int (i : Int)) (vs := []) walk_range (by simp), fun _ _ _ _ _ _ => trivial, ?_, fun _ _ _ _ z => z⟩ q⟩
    intro i d x H' H'' F' M' hd e s _ ⟨y1, y2⟩
    subst y1
    refine ⟨F', Ex.refl _, s, ?_⟩
    rw [List.getElem?_map] at hd
    obtain ⟨i', h1, h2⟩ := Option.map_eq_some_iff.mp hd
    rw [List.getElem?_range (by have := (List.getElem?_eq_some_iff.mp h1).1; simpa using this)] at h1
    cases h1
    rw [← h2, y2]
    show V.int (0 + (i : Int)) = V.int (i : Int)
    rw [Int.zero_add]
theorem i_rng2 (h : W3a B ta σ M (fun xs M1 => ∃ i j : Int, xs = [.int i, .int j] ∧ -1000000 ≤ i ∧ i ≤ 1000000 ∧ -1000000 ≤ j ∧ j ≤ 1000000 ∧ Q ((List.range (j - i).toNat).map fun (n : Nat) => D.int (i + n)) (fun _ => True) M1)) : W3i B (iRng2 ta) σ M Q := fun F σv H R b hs st k =>
  h F σv H _ b hs st fun F1 M1 xs xv H1 e1 st1 rx ⟨l, j, ex, h1, h2, h3, h4, q⟩ => by
    subst ex
    obtain ⟨v, u, e, r, r2⟩ := rx.two
    subst e
    rw [show v = V.int l from r, show u = V.int j from r2]
    refine ⟨l, j, rfl, ⟨by omega, by omega, by omega, by omega⟩, k F1 M1 _ _ _ H1 e1 st1 ⟨fun _ => True, _, WD.len (F := F1) (ds := (List.range (j - l).toNat).map fun (n : Nat) => D.int (l + n)) (vs := []) walk_range (by simp), fun _ _ _ _ _ _ => trivial, ?_, fun _ _ _ _ z => z⟩ q⟩
    intro i d x H' H'' F' M' hd e s _ ⟨y1, y2⟩
    subst y1
    refine ⟨F', Ex.refl _, s, ?_⟩
    rw [List.getElem?_map] at hd
    obtain ⟨i', h1, h2⟩ := Option.map_eq_some_iff.mp hd
    rw [List.getElem?_range (by have := (List.getElem?_eq_some_iff.mp h1).1; simpa using this)] at h1
    cases h1
    rw [← h2, y2]
    rfl
end
/-! ### for -/
section
variable {B : Hp} {M : Mem} {K : PySem.W.Frag} {σ : Sig} {wi : TI} {g : TG} {tb : TS} {D3 : Ends3}
theorem s_for (h : W3i B wi σ M (fun ds P M1 => ∃ I : Nat → Sig → Mem → Prop, (∀ i σ' M', I i σ' M' → P M') ∧ I 0 σ M1 ∧
      (∀ (i : Nat) d σ' M', ds[i]? = some d → I i σ' M' → G3 B g d σ' M' (fun σ2 M2 => W3s B tb { D3 with nx := I (i + 1), ct := I (i + 1), bk := D3.nx } σ2 M2)) ∧ (∀ σ' M', I ds.length σ' M' → D3.nx σ' M'))) :
    W3s B (tFor wi g tb) D3 σ M := fun F σv H Dv b hs st im =>
  h F σv H _ b hs st fun F1 M1 J ds P H1 e1 st1 ⟨G, Y, w, hG, hY, _⟩ ⟨I, hP, h0, turn, fin⟩ =>
    for_it w (fun i σv' H' => ∃ F' M' σ', Ex F1 F' ∧ SRel F' σ' σv' ∧ St3 F' M' H' ∧ I i σ' M') ⟨F1, M1, σ, Ex.refl _, hs.mono e1, st1, h0⟩
      (fun i σv' H' _ ⟨F', M', σ', e, s, t, q⟩ => hG F' M' H' e t (hP i σ' M' q))
      (fun i x σv' H' H'' hi ⟨F', M', σ', e, s, t, q⟩ y => by
        have hd : ds[i]? = some ds[i] := by simp [hi]
        obtain ⟨F2, e2, t2, rd⟩ := hY i _ x H' H'' F' M' hd e t (hP i σ' M' q) y
        refine turn i _ σ' M' hd q F2 σv' H'' x _ (b.trans ((e1.trans e).trans e2)) (s.mono e2) t2 rd fun F3 M3 σ3 σv3 H3 e3 s3 t3 q3 => ?_
        refine q3 F3 σv3 H3 _ (b.trans (((e1.trans e).trans e2).trans e3)) s3 t3 ⟨fun F4 M4 σ4 σv4 H4 e4 s4 t4 q4 => ?_, ?_, ?_, fun F4 M4 σ4 σv4 H4 e4 s4 t4 q4 => ?_⟩
        · exact ⟨F4, M4, σ4, ((e.trans e2).trans e3).trans e4, s4, t4, q4⟩
        · exact (im.mono (((e1.trans e).trans e2).trans e3)).rt
        · exact (im.mono (((e1.trans e).trans e2).trans e3)).nx
        · exact ⟨F4, M4, σ4, ((e.trans e2).trans e3).trans e4, s4, t4, q4⟩)
      (fun σv' H' ⟨F', M', σ', e, s, t, q⟩ => im.nx F' M' σ' σv' H' (e1.trans e) s t (fin σ' M' q))
/-- while: a measure -/
theorem s_while {tc : TT} (I : Nat → Sig → Mem → Prop) (m0 : Nat) (h0 : I m0 σ M)
    (hs : ∀ m σ' M', I m σ' M' → W3t B tc σ' M' (fun c M1 => if c = true then W3s B tb { D3 with nx := fun σ2 M2 => ∃ m', m' < m ∧ I m' σ2 M2, ct := fun σ2 M2 => ∃ m', m' < m ∧ I m' σ2 M2, bk := D3.nx } σ' M1 else D3.nx σ' M1)) : W3s B (tWhile tc tb) D3 σ M := fun F σv H Dv b hs' st im => by
  refine ⟨fun m σv' H' => ∃ F' M' σ', Ex F F' ∧ SRel F' σ' σv' ∧ St3 F' M' H' ∧ I m σ' M', ⟨m0, F, M, σ, Ex.refl _, hs', st, h0⟩, ?_⟩
  rintro m σv' H' ⟨F', M', σ', e, s, t, q⟩
  refine hs m σ' M' q F' σv' H' _ (b.trans e) s t fun F2 M2 c H2 e2 t2 q2 => ?_
  cases c with
  | false => exact im.nx F2 M2 σ' σv' H2 (e.trans e2) (s.mono e2) t2 q2
  | true =>
    refine ⟨_, fun σ' H' z => z, q2 F2 σv' H2 _ (b.trans (e.trans e2)) (s.mono e2) t2 ⟨fun F4 M4 σ4 σv4 H4 e4 s4 t4 ⟨m', hm, q4⟩ => ?_, ?_, ?_, fun F4 M4 σ4 σv4 H4 e4 s4 t4 ⟨m', hm, q4⟩ => ?_⟩⟩
    · exact ⟨m', hm, F4, M4, σ4, (e.trans e2).trans e4, s4, t4, q4⟩
    · exact (im.mono (e.trans e2)).rt
    · exact (im.mono (e.trans e2)).nx
    · exact ⟨m', hm, F4, M4, σ4, (e.trans e2).trans e4, s4, t4, q4⟩
end
/-! ### comprehensions -/
def OwnG (g : TG) (vs : List Nat) : Prop := ∀ x σ H Q Q', (∀ σ2 H2, L2.wipe σ2 vs = L2.wipe σ vs → Q σ2 H2 → Q' σ2 H2) → g x σ H Q → g x σ H Q'
def OwnGs (g : TGs) (vs : List Nat) : Prop := ∀ x σ H Q Q', (∀ σ2 H2, L2.wipe σ2 vs = L2.wipe σ vs → Q σ2 H2 → Q' σ2 H2) → g x σ H Q → g x σ H Q'
theorem wipe_at : ∀ (vs : List Nat) (σ : St) (i : Nat), (L2.wipe σ vs)[i]? = if i ∈ vs then (if i < σ.length then some none else none) else σ[i]?
  | [], σ, i => by simp [L2.wipe]
  | v :: vs, σ, i => by
    show ((L2.wipe σ vs).set v none)[i]? = _
    by_cases e : v = i
    · subst e
      rw [if_pos List.mem_cons_self]
      by_cases h : v < σ.length
      · rw [List.getElem?_set_self (by rw [wipe_length]; exact h), if_pos h]
      · rw [if_neg h, List.getElem?_eq_none]
        rw [List.length_set, wipe_length]; omega
    · rw [List.getElem?_set_ne e, wipe_at vs σ i]
      by_cases h : i ∈ vs
      · rw [if_pos h, if_pos (List.mem_cons_of_mem _ h)]
      · rw [if_neg h, if_neg (by simp only [List.mem_cons, not_or]; exact ⟨fun z => e z.symm, h⟩)]
theorem wipe_set {vs : List Nat} {σ : St} {j : Nat} {x : Option V} (h : j ∈ vs) : L2.wipe (σ.set j x) vs = L2.wipe σ vs := by
  apply List.ext_getElem?
  intro i
  rw [wipe_at, wipe_at, List.length_set]
  by_cases e : i ∈ vs
  · rw [if_pos e, if_pos e]
  · rw [if_neg e, if_neg e, List.getElem?_set_ne (fun z => e (by rw [← z]; exact h))]
theorem wipe_wipe {vs : List Nat} {σ : St} : L2.wipe (L2.wipe σ vs) vs = L2.wipe σ vs := by
  apply List.ext_getElem?
  intro i
  rw [wipe_at, wipe_at, wipe_length]
  by_cases e : i ∈ vs
  · rw [if_pos e]; rw [if_pos e]
  · rw [if_neg e]
theorem own_name {j : Nat} {vs : List Nat} (h : j ∈ vs := by decide) : OwnG (gName j) vs := fun x σ H Q Q' k q => k _ _ (wipe_set h) q
theorem own_nil {vs : List Nat} : OwnGs gNil vs := fun x σ H Q Q' k q => ⟨q.1, k _ _ rfl q.2⟩
theorem own_cons {t : TG} {u : TGs} {vs : List Nat} (h1 : OwnG t vs) (h2 : OwnGs u vs) : OwnGs (gCons t u) vs := fun x σ H Q Q' k ⟨v, r, e, q⟩ =>
  ⟨v, r, e, h1 v σ H _ _ (fun σ2 H2 w q2 => h2 r σ2 H2 Q Q' (fun σ3 H3 w3 q3 => k σ3 H3 (w3.trans w) q3) q2) q⟩
theorem own_tup {K : PySem.W.Frag} {n : Nat} {t : TGs} {vs : List Nat} (h : OwnGs t vs) : OwnG (gTup K n t) vs := fun x σ H Q Q' k ⟨a, xs, e, hq, hl, q⟩ => ⟨a, xs, e, hq, hl, h _ _ _ _ _ k q⟩
section
variable {B : Hp} {M : Mem} {K : PySem.W.Frag} {σ : Sig} {wi : TI} {g : TG} {tt : TT} {te : TE} {vs : List Nat} {Q : DQ}
/-- a comprehension; the new list, while it grows, is an owned one at L -/
theorem w_lc (hg : OwnG g vs) (h : W3i B wi σ M (fun ds P M1 => ∃ I : Nat → List D → Mem → Prop, (∀ i acc M', I i acc M' → P M' ∧ acc.length ≤ i) ∧ ds.length ≤ 1000000 ∧ I 0 [] M1 ∧
      (∀ (i : Nat) d acc M' L, ds[i]? = some d → I i acc M' → M' L = none → G3 B g d (wipe3 σ vs) (mput M' L (.lst acc)) (fun σ2 M2 => W3t B tt σ2 M2 (fun b M3 =>
        if b = true then W3e B te σ2 M3 (fun y M4 => ∃ M5, M4 = mput M5 L (.lst acc) ∧ M5 L = none ∧ I (i + 1) (acc ++ [y]) M5) else ∃ M5, M3 = mput M5 L (.lst acc) ∧ M5 L = none ∧ I (i + 1) acc M5))) ∧
      (∀ acc M', I ds.length acc M' → Q (.lst acc) M'))) :
    W3e B (tLc wi g tt te vs) σ M Q := fun F σv H Qv b hs st k =>
  h F σv H _ b hs st fun F1 M1 J ds P H1 e1 st1 ⟨G, Y, w, hG, hY, hX⟩ ⟨I, hP, hl, h0, turn, fin⟩ L hL =>
    lc_it w (fun i H' => ∃ F' M' acc, Ex F1 F' ∧ M' L = none ∧ St3 F' (mput M' L (.lst acc)) H' ∧ I i acc M')
      ⟨F1, M1, [], Ex.refl _, (st1.nn hL).2, st1.newO (d := .lst []) hL ⟨[], rfl, rfl⟩, h0⟩
      (fun i H' _ ⟨F', M', acc, e, n, t, q⟩ => hG F' _ H' e t (hX M' L _ n (hP i acc M' q).1))
      (fun i x H' H'' hi ⟨F', M', acc, e, n, t, q⟩ y => by
        have hd : ds[i]? = some ds[i] := by simp [hi]
        obtain ⟨F2, e2, t2, rd⟩ := hY i _ x H' H'' F' _ hd e t (hX M' L _ n (hP i acc M' q).1) y
        have main := turn i _ acc M' L hd q n F2 (L2.wipe σv vs) H'' x (fun σ2 H2 => tt σ2 H2 fun b H3 => if b = true then te σ2 H3 fun y H4 => ∃ acc, H4 L = some (.lst acc) ∧ acc.length < sizeLine ∧ (∃ F' M' acc', Ex F1 F' ∧ M' L = none ∧ St3 F' (mput M' L (.lst acc')) (upd H4 L (.lst (acc ++ [y]))) ∧ I (i + 1) acc' M') else (∃ F' M' acc', Ex F1 F' ∧ M' L = none ∧ St3 F' (mput M' L (.lst acc')) H3 ∧ I (i + 1) acc' M'))
          (b.trans ((e1.trans e).trans e2)) (((hs.mono e1).mono (e.trans e2)).wipe vs) t2 rd fun F3 M3 σ3 σv3 H3 e3 s3 t3 q3 => ?_
        · exact hg x (L2.wipe σv vs) H'' _ _ (fun σ2 H2 w2 q2 => ⟨w2.trans wipe_wipe, q2⟩) main
        · refine q3 F3 σv3 H3 _ (b.trans (((e1.trans e).trans e2).trans e3)) s3 t3 fun F4 M4 c H4 e4 t4 q4 => ?_
          cases c with
          | false =>
            obtain ⟨M5, em, n5, i5⟩ := q4
            subst em
            exact ⟨F4, M5, acc, ((e.trans e2).trans e3).trans e4, n5, t4, i5⟩
          | true =>
            refine q4 F4 σv3 H4 _ (b.trans ((((e1.trans e).trans e2).trans e3).trans e4)) (s3.mono e4) t4 fun F5 M5' y v5 H5 e5 t5 r5 ⟨M5, em, n5, i5⟩ => ?_
            subst em
            obtain ⟨_, ho, h1, us, e6, rs⟩ := t5.own L _ mput_same
            subst e6
            have hlen := (hP i acc M' q).2
            refine ⟨us, h1, by rw [← rs.length]; exact Nat.lt_of_lt_of_le (Nat.lt_of_le_of_lt hlen hi) (Nat.le_trans hl (by decide)), F5, M5, acc ++ [y], (((e.trans e2).trans e3).trans e4).trans e5, n5, ?_, i5⟩
            have := t5.put (p := L) (d := .lst acc) (d' := .lst (acc ++ [y])) mput_same ⟨us ++ [v5], rfl, rs.snoc r5⟩
            rwa [mput_mput] at this)
      (fun H' ⟨F', M', acc, e, n, t, q⟩ => by
        obtain ⟨_, ho, h1, us, e6, rs⟩ := t.own L _ mput_same
        subst e6
        obtain ⟨t2, e2⟩ := t.freeze mput_same h1
        rw [mdel_mput n] at t2
        exact k _ M' (.lst acc) (.ref L) H' ((e1.trans e).trans e2) t2 ⟨L, us, rfl, upd_same, rs.mono e2⟩ (fin acc M' q))
/-- .. where nothing changes: filter and map -/
theorem w_lcP (p : D → Bool) (f : D → D) (hg : OwnG g vs) (h : W3i B wi σ M (fun ds P M1 => ds.length ≤ 1000000 ∧ P M1 ∧
      (∀ (i : Nat) d M', ds[i]? = some d → (∀ a o, M1 a = some o → M' a = some o) → G3 B g d (wipe3 σ vs) M' (fun σ2 M2 => M2 = M' ∧ W3t B tt σ2 M' (fun b M3 => M3 = M' ∧ b = p d ∧ (b = true → W3e B te σ2 M' (fun y M4 => M4 = M' ∧ y = f d))))) ∧
      Q (.lst ((ds.filter p).map f)) M1)) :
    W3e B (tLc wi g tt te vs) σ M Q := by
  refine w_lc hg fun F σv H R b hs st k => h F σv H R b hs st fun F' M' J ds P H' e s wd ⟨hl, hP, turn, q⟩ => k F' M' J ds P H' e s wd ?_
  refine ⟨fun i acc M2 => i ≤ ds.length ∧ M2 = M' ∧ acc = ((ds.take i).filter p).map f, fun i acc M2 ⟨hi, a, c⟩ => ⟨by rw [a]; exact hP, ?_⟩, hl, ⟨Nat.zero_le _, rfl, rfl⟩, fun i d acc M2 L hd ⟨hi, em, ea⟩ hL => ?_, fun acc M2 ⟨_, em, ea⟩ => ?_⟩
  · rw [c, List.length_map]
    exact Nat.le_trans (List.length_filter_le _ _) (by rw [List.length_take]; exact Nat.min_le_left _ _)
  · subst em
    have hlt : i < ds.length := (List.getElem?_eq_some_iff.mp hd).1
    have et : ds.take (i + 1) = ds.take i ++ [d] := by rw [List.take_add_one, hd]; rfl
    intro F2 σ2 H2 xv Qv b2 hs2 st2 rx kk
    refine turn i d _ hd (fun a o ha => by rw [mput_ne (mne ha hL)]; exact ha) F2 σ2 H2 xv Qv b2 hs2 st2 rx fun F3 M3 σ3 σv3 H3 e3 s3 t3 ⟨e4, q4⟩ => kk F3 M3 σ3 σv3 H3 e3 s3 t3 ?_
    subst e4
    refine q4.to fun c M4 ⟨e5, e6, q5⟩ => ?_
    subst e5
    cases c with
    | true =>
      refine (q5 rfl).to fun y M5 ⟨e7, e8⟩ => ?_
      subst e7
      refine ⟨M2, rfl, hL, hlt, rfl, ?_⟩
      rw [et, List.filter_append, List.map_append, ← ea, e8]
      simp [← e6]
    | false =>
      refine ⟨M2, rfl, hL, hlt, rfl, ?_⟩
      rw [et, List.filter_append, List.map_append, ← ea]
      simp [← e6]
  · rw [List.take_length] at ea
    subst em; subst ea
    exact q
end
end T3
set_option Elab.async false
set_option linter.all false
set_option maxRecDepth 100000
set_option maxHeartbeats 2000000
namespace T3
open PySem L2
open Evl (Ex)
/-! ### defs -/
abbrev EQ3 := Addr → D → Mem → Prop
abbrev NoE : EQ3 := fun _ _ _ => False
abbrev Sp3 := List D → Mem → DQ → EQ3 → Prop
def ImpE (F : Hp) (E3 : EQ3) (E : XK) : Prop := ∀ F' M' C d thing v H', Ex F F' → St3 F' M' H' → RD F' thing v → F' d = some (.xd [(("thing" : Str), v)]) → E3 C thing M' → E (.ref C) (some d) H'
theorem ImpE.mono {F F1 : Hp} {E3 : EQ3} {E : XK} (h : ImpE F E3 E) (e : Ex F F1) : ImpE F1 E3 E := fun F' M' C d t v H' a => h F' M' C d t v H' (e.trans a)
theorem impE0 {F : Hp} {E : XK} : ImpE F NoE E := fun _ _ _ _ _ _ _ _ _ _ _ h => h.elim
def lift3 (S : Sp3) : Sp := fun vs H Q E => ∃ (ds : List D) (F : Hp) (M : Mem) (Q3 : DQ) (E3 : EQ3), RDs F ds vs ∧ St3 F M H ∧ (∀ F' M' d v H', Ex F F' → St3 F' M' H' → RD F' d v → Q3 d M' → Q v H') ∧ ImpE F E3 E ∧ S ds M Q3 E3
theorem run3 {S : Sp3} {N : List Str} {vs : List V} {H : Hp} {Q : VK} {E : XK} {t : TS} (h : lift3 S vs H Q E)
    (k : ∀ B ds M Q3 E3, S ds M Q3 E3 → ImpE B E3 E → W3s B t { nx := fun _ M => Q3 .non M, rt := Q3 } (start3 N ds) M) : t { nx := fun _ H' => Q .non H', rt := Q } (L2.start N vs) H := by
  obtain ⟨ds, F, M, Q3, E3, r, st, hq, he, hs⟩ := h
  exact k F ds M Q3 E3 hs he F _ H _ (Ex.refl _) (SRel.start r) st ⟨fun F' M' σ' σv' H' e s t q => hq F' M' .non .non H' e t rfl q, hq, fun _ _ _ _ _ _ _ _ q => q.elim, fun _ _ _ _ _ _ _ _ q => q.elim⟩
theorem lift3_len {S : Sp3} {n : Nat} (h : ∀ ds M Q E, S ds M Q E → ds.length = n) : ∀ vs H Q E, lift3 S vs H Q E → vs.length = n := fun vs H Q E ⟨ds, F, M, Q3, E3, r, _, _, _, hs⟩ => by rw [← r.length]; exact h ds M Q3 E3 hs
section
variable {B : Hp} {M : Mem} {K : PySem.W.Frag} {σ : Sig} {t : TA} {ta tv te : TE} {Q : DQ} {S : Sp3} {E : XK} {E3 : EQ3} {dds : List D} {dvs : List V}
theorem lift_of {F : Hp} {H : Hp} {Qv : VK} {ds : List D} {vs : List V} (b : Ex B F) (st : St3 F M H) (r : RDs F ds vs) (hE : ImpE B E3 E) (k : ∀ F' M' d v H', Ex F F' → St3 F' M' H' → RD F' d v → Q d M' → Qv v H') (h : S ds M Q E3) : lift3 S vs H Qv E :=
  ⟨ds, F, M, Q, E3, r, st, k, hE.mono b, h⟩
theorem w_call (hd : ∀ F, RDs F dds dvs) (hE : ImpE B E3 E) (h : W3a B t σ M (fun ds M1 => S (ds ++ dds) M1 Q E3)) : W3e B (tCall (lift3 S) dvs E t) σ M Q := fun F σv H Qv b hs st k =>
  h F σv H _ b hs st fun F1 M1 ds vs H1 e1 st1 rx q => lift_of (b.trans e1) st1 (rx.append (hd F1)) hE (fun F2 M2 d v H2 e2 => k F2 M2 d v H2 (e1.trans e2)) q
theorem w_call0 (h : W3a B t σ M (fun ds M1 => S ds M1 Q NoE)) : W3e B (tCall (lift3 S) [] E t) σ M Q := fun F σv H Qv b hs st k =>
  h F σv H _ b hs st fun F1 M1 ds vs H1 e1 st1 rx q => lift_of (b.trans e1) st1 (by rw [List.append_nil]; exact rx) impE0 (fun F2 M2 d v H2 e2 => k F2 M2 d v H2 (e1.trans e2)) q
/-- an instance: frozen, or owned -/
def InsD (M : Mem) (x : D) (C : Addr) (fs : List (Str × D)) : Prop := x = .ins C (fs.map (·.1)) (fs.map (·.2)) ∨ ∃ a, x = .ref a ∧ M a = some (.ins C fs)
theorem pkv_of {F : Hp} : ∀ {fs : List (Str × D)} {vs : List V}, RDs F (fs.map (·.2)) vs → PKV F fs ((fs.map (·.1)).zip vs)
  | [], _, h => by rw [show _ = [] from h]; exact .nil
  | a :: r, _, ⟨v, us, e, h1, h2⟩ => by subst e; exact .cons ⟨rfl, h1⟩ (pkv_of h2)
theorem InsD.at {x : D} {C : Addr} {fs : List (Str × D)} {F H : Hp} {v : V} (h : InsD M x C fs) (st : St3 F M H) (r : RD F x v) : ∃ a dx fv, v = .ref a ∧ H a = some (.ins C dx fv) ∧ PKV F fs fv := by
  rcases h with e | ⟨a, e, h⟩
  · subst e
    obtain ⟨a, dx, vs, e1, h1, hl, rs⟩ := r
    exact ⟨a, dx, _, e1, st.fz a _ h1, pkv_of rs⟩
  · subst e
    obtain ⟨_, ho, h1, dx, fv, e2, rs⟩ := st.own a _ h
    subst e2
    exact ⟨a, dx, fv, r, h1, rs⟩
theorem pkv_look {F : Hp} {f : Str} : ∀ {fs : List (Str × D)} {fv : List (Str × V)}, PKV F fs fv → (∀ {d : D}, fs.lookup f = some d → ∃ v, fv.lookup f = some v ∧ RD F d v) ∧ (fs.lookup f = none → fv.lookup f = none)
  | _, _, .nil => ⟨fun {d} h => (by cases h), fun _ => rfl⟩
  | (g, d) :: r, (g', v) :: rv, .cons h t => by
    have e : g = g' := h.1
    subst e
    obtain ⟨i1, i2⟩ := pkv_look (f := f) t
    constructor
    · intro d' hd
      by_cases q : f = g
      · subst q
        rw [List.lookup_cons_self] at hd ⊢
        cases hd
        exact ⟨v, rfl, h.2⟩
      · have qb : (f == g) = false := beq_eq_false_iff_ne.mpr q
        rw [List.lookup_cons, qb] at hd ⊢
        exact i1 hd
    · intro hd
      by_cases q : f = g
      · subst q; rw [List.lookup_cons_self] at hd; cases hd
      · have qb : (f == g) = false := beq_eq_false_iff_ne.mpr q
        rw [List.lookup_cons, qb] at hd ⊢
        exact i2 hd
def putD (f : Str) (v : D) : List (Str × D) → List (Str × D)
  | [] => [(f, v)]
  | (g, x) :: r => if g = f then (g, v) :: r else (g, x) :: putD f v r
theorem pkv_put {F : Hp} {f : Str} {d : D} {v : V} (rd : RD F d v) : ∀ {fs : List (Str × D)} {fv : List (Str × V)}, PKV F fs fv → PKV F (putD f d fs) (putF f v fv)
  | _, _, .nil => .cons ⟨rfl, rd⟩ .nil
  | (g, d') :: r, (g', v') :: rv, .cons h t => by
    have e : g = g' := h.1
    subst e
    show PKV F (if g = f then (g, d) :: r else (g, d') :: putD f d r) (if g = f then (g, v) :: rv else (g, v') :: putF f v rv)
    by_cases q : g = f
    · rw [if_pos q, if_pos q]; exact .cons ⟨rfl, rd⟩ t
    · rw [if_neg q, if_neg q]; exact .cons h (pkv_put rd t)
theorem w_fld {f : Str} (h : W3e B ta σ M (fun x M1 => ∃ C fs d, InsD M1 x C fs ∧ Cls K C ∧ NoAttr K C f ∧ fs.lookup f = some d ∧ Q d M1)) : W3e B (tFld K ta f) σ M Q := fun F σv H Qv b hs st k =>
  h F σv H _ b hs st fun F1 M1 x xv H1 e1 st1 rx ⟨C, fs, d, hi, c, n, l, q⟩ => by
    obtain ⟨a, dx, fv, ev, ha, pk⟩ := hi.at st1 rx
    obtain ⟨v, hv, rv⟩ := (pkv_look pk).1 l
    exact ⟨a, C, dx, fv, v, ev, ha, c, n, hv, k F1 M1 d v H1 e1 st1 rv q⟩
theorem pkv_len {F : Hp} {fs : List (Str × D)} {fv : List (Str × V)} (h : PKV F fs fv) : fs.length = fv.length := by
  have := congrArg List.length h.fst
  simpa using this
theorem s_fld {f : Str} {D3 : Ends3} (h : W3e B tv σ M (fun y M1 => W3e B ta σ M1 (fun x M2 => ∃ a C fs, x = .ref a ∧ M2 a = some (.ins C fs) ∧ Cls K C ∧ NoAttr K C f ∧ fs.length < 1000 ∧ D3.nx σ (mput M2 a (.ins C (putD f y fs)))))) : W3s B (sFld K ta tv f) D3 σ M := fun F σv H Dv b hs st im =>
  h F σv H _ b hs st fun F1 M1 y yv H1 e1 st1 ry q1 => q1 F1 σv H1 _ (b.trans e1) (hs.mono e1) st1 fun F2 M2 x xv H2 e2 st2 rx ⟨a, C, fs, ex, hm, c, n, l, q⟩ => by
    subst ex
    obtain ⟨_, ho, h1, dx, fv, e3, pk⟩ := st2.own a _ hm
    subst e3
    exact ⟨a, C, dx, fv, rx, h1, c, n, by rw [← pkv_len pk]; exact l, im.nx F2 _ σ σv _ (e1.trans e2) ((hs.mono e1).mono e2) (st2.put hm (d' := .ins C (putD f y fs)) ⟨dx, _, rfl, pkv_put (ry.mono e2) pk⟩) q⟩
theorem w_meth {C : Addr} {m : Str} (hd : ∀ F, RDs F dds dvs) (hE : ImpE B E3 E) (h : W3e B ta σ M (fun x M1 => ∃ fs, InsD M1 x C fs ∧ fs.lookup m = none ∧ W3a B t σ M1 (fun ds M2 => S (x :: (ds ++ dds)) M2 Q E3))) : W3e B (tMeth C m (lift3 S) dvs E ta t) σ M Q := fun F σv H Qv b hs st k =>
  h F σv H _ b hs st fun F1 M1 x xv H1 e1 st1 rx ⟨fs, hi, l, q1⟩ => by
    obtain ⟨a, dx, fv, ev, ha, pk⟩ := hi.at st1 rx
    refine ⟨a, dx, fv, ev, ha, (pkv_look pk).2 l, q1 F1 σv H1 _ (b.trans e1) (hs.mono e1) st1 fun F2 M2 ds vs H2 e2 st2 rs q2 => ?_⟩
    exact lift_of (ds := x :: (ds ++ dds)) ((b.trans e1).trans e2) st2 ⟨xv, _, rfl, rx.mono e2, rs.append (hd F2)⟩ hE (fun F3 M3 d v H3 e3 => k F3 M3 d v H3 ((e1.trans e2).trans e3)) q2
theorem w_meth0 {C : Addr} {m : Str} (h : W3e B ta σ M (fun x M1 => ∃ fs, InsD M1 x C fs ∧ fs.lookup m = none ∧ W3a B t σ M1 (fun ds M2 => S (x :: ds) M2 Q NoE))) : W3e B (tMeth C m (lift3 S) [] E ta t) σ M Q :=
  w_meth (dds := []) (fun _ => rfl) impE0 (h.to fun x M1 ⟨fs, a, b, c⟩ => ⟨fs, a, b, fun F σv H Qv bb hs st k => c F σv H Qv bb hs st fun F' M' ds vs H' e s r q => k F' M' ds vs H' e s r (by show S (x :: (ds ++ [])) M' Q NoE; rw [List.append_nil]; exact q)⟩)
theorem w_make {C : Addr} (hd : ∀ F, RDs F dds dvs) (hE : ImpE B E3 E) (h : W3a B t σ M (fun ds M1 => ∀ p, M1 p = none → S (.ref p :: (ds ++ dds)) (mput M1 p (.ins C [])) (fun d M2 => d = .non ∧ Q (.ref p) M2) E3)) : W3e B (tMake C (lift3 S) dvs E t) σ M Q := fun F σv H Qv b hs st k =>
  h F σv H _ b hs st fun F1 M1 ds vs H1 e1 st1 rx q x dx hx hdx hne => by
    have hx2 : (upd H1 dx (.own x)) x = none := by rw [upd_ne (Ne.symm hne)]; exact hx
    have s1 : St3 F1 M1 (upd H1 dx (.own x)) := by
      obtain ⟨f0, m0⟩ := st1.nn hdx
      refine ⟨fun a u e => ?_, fun a u e => ?_⟩
      · rw [upd_ne (ne_of_none e f0)]; exact st1.fz a u e
      · obtain ⟨y1, ho, y2, y3⟩ := st1.own a u e
        exact ⟨y1, ho, by rw [upd_ne (mne e m0)]; exact y2, y3⟩
    have s2 := s1.newO (p := x) (o := .ins C dx []) (d := .ins C []) hx2 ⟨dx, [], rfl, .nil⟩
    exact lift_of (ds := .ref x :: (ds ++ dds)) (b.trans e1) s2 ⟨.ref x, _, rfl, rfl, rx.append (hd F1)⟩ hE (fun F3 M3 d v H3 e3 s3 r3 ⟨ed, q3⟩ => by
      subst ed
      exact ⟨r3, k F3 M3 (.ref x) (.ref x) H3 (e1.trans e3) s3 rfl q3⟩) (q x (st1.nn hx).2)
end
end T3
set_option Elab.async false
set_option linter.all false
set_option maxRecDepth 100000
set_option maxHeartbeats 2000000
namespace T3
open PySem L2
open Evl (Ex)
/-- truth by value -/
def truD (M : Mem) (x : D) (k : Bool) : Prop := match x with
  | .non => k = false
  | .bl b => k = b
  | .int i => k = (i != 0)
  | .str y => y.length ≤ 1000000 ∧ k = ((y.length : Int) != 0)
  | .lst ds => k = !ds.isEmpty
  | .tup ds => k = !ds.isEmpty
  | .ref a => ∃ ds, M a = some (.lst ds) ∧ k = !ds.isEmpty
  | _ => False
theorem RDs.emp {F : Hp} : ∀ {ds : List D} {vs : List V}, RDs F ds vs → (!ds.isEmpty) = !vs.isEmpty
  | [], vs, h => by rw [show vs = [] from h]; rfl
  | _ :: _, _, ⟨v, r, e, _, _⟩ => by rw [e]; rfl
section
variable {B : Hp} {M : Mem} {K : PySem.W.Frag} {σ : Sig} {te ta tb : TE}
abbrev tTR (K : PySem.W.Frag) (ta : TE) : TT := fun σ H Q => ta σ H fun x H' => ∃ k, TruV K x H' k ∧ Q k H'
theorem truD_at {F H : Hp} {x : D} {v : V} {k : Bool} (st : St3 F M H) (r : RD F x v) (h : truD M x k) : TruV K v H k := by
  cases x with
  | non => rw [show v = _ from r]; exact h
  | bl b => rw [show v = _ from r]; exact h
  | int b => rw [show v = _ from r]; exact h
  | str b => rw [show v = _ from r]; exact ⟨Nat.le_trans h.1 (by decide), h.2⟩
  | lst ds => obtain ⟨a, vs, e1, h1, rs⟩ := r; rw [e1]; exact .inl ⟨vs, .inl (.inl (st.fz a _ h1)), by rw [← rs.emp]; exact h⟩
  | tup ds => obtain ⟨a, vs, e1, h1, rs⟩ := r; rw [e1]; exact .inr (.inl ⟨vs, .inl (.inl (st.fz a _ h1)), by rw [← rs.emp]; exact h⟩)
  | ref a =>
    obtain ⟨ds, hm, e⟩ := h
    obtain ⟨_, ho, h1, vs, e2, rs⟩ := st.own a _ hm
    subst e2
    rw [show v = _ from r]
    exact .inl ⟨vs, .inl (.inl h1), by rw [← rs.emp]; exact e⟩
  | ty _ => exact h.elim
  | ins _ _ _ => exact h.elim
theorem w_tr {Q : Bool → Mem → Prop} (h : W3e B ta σ M (fun x M1 => ∃ k, truD M1 x k ∧ Q k M1)) : W3t B (tTR K ta) σ M Q := fun F σv H Qv b hs st k =>
  h F σv H _ b hs st fun F1 M1 x xv H1 e1 st1 rx ⟨c, hc, q⟩ => ⟨c, truD_at st1 rx hc, k F1 M1 c H1 e1 st1 q⟩
theorem w_chain {r r' : R2} {tc : TE} {Q : DQ} (h : W3e B ta σ M (fun x M1 => W3e B tb σ M1 (fun y M2 => R3 B r x y M2 (fun z M3 => ∃ c, z = .bl c ∧ if c = true then W3e B tc σ M3 (fun w M4 => R3 B r' y w M4 Q) else Q (.bl false) M3)))) : W3e B (tChain r r' ta tb tc) σ M Q := fun F σv H Qv b hs st k =>
  h F σv H _ b hs st fun F1 M1 x xv H1 e1 st1 rx q1 => q1 F1 σv H1 _ (b.trans e1) (hs.mono e1) st1 fun F2 M2 y yv H2 e2 st2 ry q2 =>
    q2 F2 H2 xv yv _ ((b.trans e1).trans e2) st2 (rx.mono e2) ry fun F3 M3 z zv H3 e3 st3 rz ⟨c, ez, q3⟩ => by
      subst ez
      refine ⟨c, rz, ?_⟩
      cases c with
      | true =>
        show tc σv H3 fun w' H4 => r' yv w' H4 Qv
        exact q3 F3 σv H3 _ (((b.trans e1).trans e2).trans e3) (((hs.mono e1).mono e2).mono e3) st3 fun F4 M4 w wv H4 e4 st4 rw q4 =>
          q4 F4 H4 yv wv Qv ((((b.trans e1).trans e2).trans e3).trans e4) st4 ((ry.mono e3).mono e4) rw fun F5 M5 d v H5 e5 st5 r5 q5 => k F5 M5 d v H5 ((((e1.trans e2).trans e3).trans e4).trans e5) st5 r5 q5
      | false => exact k F3 M3 (.bl false) _ H3 ((e1.trans e2).trans e3) st3 rfl q3
/-- xs[i] = v, xs owned -/
theorem g_set {x : D} {Q : Sig → Mem → Prop} (h : W3e B ta σ M (fun o M1 => W3e B tb σ M1 (fun i M2 => ∃ a ds n j, o = .ref a ∧ i = .int n ∧ M2 a = some (.lst ds) ∧ ixN ds.length n = some j ∧ Q σ (mput M2 a (.lst (ds.set j x)))))) : G3 B (gSub ta tb rSetL) x σ M Q := fun F σv H xv Qv b hs st rx k =>
  h F σv H _ b hs st fun F1 M1 o ov H1 e1 st1 ro q1 => q1 F1 σv H1 _ (b.trans e1) (hs.mono e1) st1 fun F2 M2 i iv H2 e2 st2 ri ⟨a, ds, n, j, eo, ei, hm, hj, q⟩ => by
    subst eo; subst ei
    obtain ⟨_, ho, h1, vs, e3, rs⟩ := st2.own a _ hm
    subst e3
    exact ⟨a, vs, n, j, ro, ri, h1, by rw [← rs.length]; exact hj, k F2 _ σ σv _ (e1.trans e2) ((hs.mono e1).mono e2) (st2.put hm (d' := .lst (ds.set j x)) ⟨_, rfl, rs.set j ((rx.mono e1).mono e2)⟩) q⟩
theorem okD_int {n : Nat} {i : Int} : okD n (.int i) = true := by cases n <;> rfl
theorem okD_bl {n : Nat} {i : Bool} : okD n (.bl i) = true := by cases n <;> rfl
theorem okD_non {n : Nat} : okD n .non = true := by cases n <;> rfl
theorem okD_str {n : Nat} {s : Str} (h : s.cps.all (· < 0x110000) = true) : okD n (.str s) = true := by cases n <;> exact h
end
section
variable {B : Hp} {M : Mem} {Q : DQ} {σ : Sig} {i j : Int} {K : PySem.W.Frag}
theorem w_cI (q : Q (.int i) M) : W3e B (tC (.int i)) σ M Q := w_c q
theorem w_cB {b : Bool} (q : Q (.bl b) M) : W3e B (tC (.bl b)) σ M Q := w_c q
theorem w_cS {s : Str} (q : Q (.str s) M) : W3e B (tC (.str s)) σ M Q := w_c q
theorem w_cN (q : Q .non M) : W3e B (tC .non) σ M Q := w_c q
theorem w_cT {n : String} (q : Q (.ty n) M) : W3e B (tC (.ty n)) σ M Q := w_c q
theorem w_cR {a : Addr} (q : Q (.ref a) M) : W3e B (tC (.ref a)) σ M Q := w_c q
theorem r3_sub (q : Q (.int (i - j)) M) : R3 B (rI0 fun i j => .int (i - j)) (.int i) (.int j) M Q := r3_I0 q
theorem r3_lt (q : Q (.bl (decide (i < j))) M) : R3 B (rI0 fun i j => .bl (decide (i < j))) (.int i) (.int j) M Q := r3_I0 q
theorem r3_le (q : Q (.bl (decide (i ≤ j))) M) : R3 B (rI0 fun i j => .bl (decide (i ≤ j))) (.int i) (.int j) M Q := r3_I0 q
theorem r3_gt (q : Q (.bl (decide (j < i))) M) : R3 B (rI0 fun i j => .bl (decide (j < i))) (.int i) (.int j) M Q := r3_I0 q
theorem r3_ge (q : Q (.bl (decide (j ≤ i))) M) : R3 B (rI0 fun i j => .bl (decide (j ≤ i))) (.int i) (.int j) M Q := r3_I0 q
theorem r3_mul (h : CMulW i j) (q : Q (.int (i * j)) M) : R3 B (rI CMulW fun i j => .int (i * j)) (.int i) (.int j) M Q := r3_I h q
theorem r3_mod (h : 0 < j) (q : Q (.int (i % j)) M) : R3 B (rI (fun _ j => j ≠ 0) fun i j => .int (i.fmod j)) (.int i) (.int j) M Q := r3_I (d := .int (i.fmod j)) (by omega) (by rw [Int.fmod_eq_emod_of_nonneg _ (by omega)]; exact q)
theorem r3_fdiv (h : 0 < j) (h2 : j.natAbs < 2 ^ 400) (q : Q (.int (i / j)) M) : R3 B (rI CDivW fun i j => .int (i / j)) (.int i) (.int j) M Q := r3_I ⟨h, Nat.lt_of_lt_of_le (PySem.Flt.log2_lt_of (by decide) h2) (by decide)⟩ q
theorem r3_pow (h : CPow i j) (q : Q (.int (i ^ j.toNat)) M) : R3 B (rI CPow fun i j => .int (i ^ j.toNat)) (.int i) (.int j) M Q := r3_I h q
theorem u3_neg (q : Q (.int (-i)) M) : U3 B (rU fun i => .int (-i)) (.int i) M Q := u3_I q
theorem at3 {α : Type} {xs : List α} {z : Int} {j : Nat} {v : α} (e : z = (j : Int)) (h : xs[j]? = some v) : atI xs z = some v := by rw [e]; exact atI_nat h
/-- both factors below 2 ^ 400 -/
theorem mulW {i j : Int} (hi : i.natAbs < 2 ^ 400) (hj : j.natAbs < 2 ^ 400) : CMulW i j := wide_mul hi hj (by decide) (by decide) (by decide)
end
section
variable {B : Hp} {ta tb te : TE} {ts tu : TS} {tA tB' : TT} {σ : Sig} {M : Mem} {Q : DQ} {D3 : Ends3}
theorem w_orP {a b : Bool} (h1 : W3e B ta σ M (fun x M1 => x = .bl a ∧ M1 = M)) (h2 : a = false → W3e B tb σ M (fun x M1 => x = .bl b ∧ M1 = M)) (q : Q (.bl (a || b)) M) : W3e B (tOrV ta tb) σ M Q :=
  w_orV (h1.to fun d M1 ⟨e1, e2⟩ => ⟨a, e1, by
    subst e2
    cases a with
    | true => exact q
    | false => exact (h2 rfl).to fun d M2 ⟨e3, e4⟩ => by subst e3; subst e4; exact q⟩)
theorem w_andP {a b : Bool} (h1 : W3e B ta σ M (fun x M1 => x = .bl a ∧ M1 = M)) (h2 : a = true → W3e B tb σ M (fun x M1 => x = .bl b ∧ M1 = M)) (q : Q (.bl (a && b)) M) : W3e B (tAndV ta tb) σ M Q :=
  w_andV (h1.to fun d M1 ⟨e1, e2⟩ => ⟨a, e1, by
    subst e2
    cases a with
    | false => exact q
    | true => exact (h2 rfl).to fun d M2 ⟨e3, e4⟩ => by subst e3; subst e4; exact q⟩)
theorem w_andTP {a b : Bool} {Q : Bool → Mem → Prop} (h1 : W3t B tA σ M (fun x M1 => x = a ∧ M1 = M)) (h2 : a = true → W3t B tB' σ M (fun x M1 => x = b ∧ M1 = M)) (q : Q (a && b) M) : W3t B (tAnd tA tB') σ M Q :=
  w_andT (h1.to fun d M1 ⟨e1, e2⟩ => by
    subst e1; subst e2
    cases d with
    | false => exact q
    | true => exact (h2 rfl).to fun d M2 ⟨e3, e4⟩ => by subst e3; subst e4; exact q)
theorem w_orTP {a b : Bool} {Q : Bool → Mem → Prop} (h1 : W3t B tA σ M (fun x M1 => x = a ∧ M1 = M)) (h2 : a = false → W3t B tB' σ M (fun x M1 => x = b ∧ M1 = M)) (q : Q (a || b) M) : W3t B (tOr tA tB') σ M Q :=
  w_orT (h1.to fun d M1 ⟨e1, e2⟩ => by
    subst e1; subst e2
    cases d with
    | true => exact q
    | false => exact (h2 rfl).to fun d M2 ⟨e3, e4⟩ => by subst e3; subst e4; exact q)
theorem s_seqM (Mid : Sig → Mem → Prop) (h : W3s B ts { D3 with nx := Mid } σ M) (k : ∀ σ M, Mid σ M → W3s B tu D3 σ M) : W3s B (tSeq ts tu) D3 σ M :=
  s_seq (h.to (fun σ M z => k σ M z) (fun _ _ z => z) (fun _ _ z => z) (fun _ _ z => z))
theorem iteB {c : Bool} {P R : Prop} (h1 : c = true → P) (h2 : c = false → R) : if c = true then P else R := by
  cases c with
  | true => exact h1 rfl
  | false => exact h2 rfl
end
end T3
set_option Elab.async false
set_option linter.all false
set_option maxRecDepth 100000
set_option maxHeartbeats 2000000
namespace L2
open PySem PySem.Spec PyProof.Rows
/-- l.count(x) -/
def rCountD (K : PySem.W.Frag) : V → List V → Hp → VK → Prop := fun x xs H Q => ∃ (a : Addr) (y : V) (d : PyData) (ds : List PyData), x = V.ref a ∧ xs = [y] ∧ Dp K H (V.ref a) (.list ds) ∧ Dp K H y d ∧
  SeqAt.shaped (.list ds) = true ∧ SeqAt.shaped d = true ∧ Q (.int ((ds.countP fun z => PyData.eqv z d : Nat))) H
/-- l.remove(x), x is there -/
def rRemoveD (K : PySem.W.Frag) : V → List V → Hp → VK → Prop := fun x xs H Q => ∃ (a : Addr) (us : List V) (y : V) (d : PyData) (ds : List PyData) (j : Nat) (z : PyData), x = V.ref a ∧ xs = [y] ∧ H a = some (.lst us) ∧ DpAll K H us ds ∧ Dp K H y d ∧
  SeqAt.shaped (.list ds) = true ∧ SeqAt.shaped d = true ∧ ds[j]? = some z ∧ PyData.eqv z d = true ∧ (∀ (m : Nat) (z' : PyData), m < j → ds[m]? = some z' → PyData.eqv z' d = false) ∧ Q .non (upd H a (.lst (us.eraseIdx j)))
section
variable {X : Cx}
theorem mt_countD (hu : X.A.units + 65 < cLine) : MtR X "list.count" (rCountD X.K) := by
  intro pins s σ H x xs v us Q I rx rxs h
  obtain ⟨a, y, d, ds, rfl, rfl, hl, hy, sl, sd, q⟩ := h
  cases rx
  cases rxs with
  | cons ry rt =>
    rename_i uy ut
    cases rt
    obtain ⟨bs, r1⟩ := Dp.reads I d y uy hy ry
    have hxs : PyData.canLayAll0 ds = true := SeqAt.canLay_of_shaped sl
    have hroom : X.A.units + 1 + min (PyData.depthAll ds) d.depth < cLine := room_in_shaped sd hu
    cases hl with
    | lst hs ha =>
      obtain ⟨its, rv, ⟨⟨cls, dd, data, sls⟩, n, ho, hc, hdn, hdt⟩, hlen⟩ := I.list hs
      simp only at hc hdt
      subst hc hdt
      obtain ⟨as, h4⟩ := Dp.readsAll I ds _ its ha rv
      have hmap : its.map (SeqAt.readOf s.heap) = ds := SeqAt.readsAll_map ds its as hxs h4
      refine call_meets PySem.F.slot_list_count ⟨_, ho, rfl⟩ PySem.F.entry_list_count (PySem.F.args_list_count_2 _ _)
        (SeqAt.list_countAt a its.toArray n dd sls uy (fun u => PyData.eqv (SeqAt.readOf s.heap u) d)) ⟨ho, SeqAt.items_eqAt (vs := its.toArray) (show ReadsAll s.heap its.toArray.toList ds as from h4) r1 hxs (SeqAt.canLay_of_shaped sd) hroom, ?_⟩
      have ec : List.countP (fun u => PyData.eqv (SeqAt.readOf s.heap u) d) its.toArray.toList = ds.countP fun z => PyData.eqv z d := by
        rw [← hmap, List.countP_map]; rfl
      rw [ec]
      exact ⟨.int (_ : Nat), H, I.tok _, ⟨_, rfl⟩, q⟩
theorem mt_removeD (hu : X.A.units + 65 < cLine) : MtR X "list.remove" (rRemoveD X.K) := by
  intro pins s σ H x xs v us Q I rx rxs h
  obtain ⟨a, vs, y, d, ds, j, z, rfl, rfl, hH, ha, hy, sl, sd, hz, hzj, hno, q⟩ := h
  cases rx
  cases rxs with
  | cons ry rt =>
    rename_i uy ut
    cases rt
    obtain ⟨bs, r1⟩ := Dp.reads I d y uy hy ry
    have hxs : PyData.canLayAll0 ds = true := SeqAt.canLay_of_shaped sl
    have hroom : X.A.units + 1 + min (PyData.depthAll ds) d.depth < cLine := room_in_shaped sd hu
    obtain ⟨hlen, its, n, rv, ho⟩ := I.hok a _ hH
    obtain ⟨as, h4⟩ := Dp.readsAll I ds _ its ha rv
    have hn : its.length = ds.length := SeqAt.ReadsAll.length ds its as h4
    have hmap : its.map (SeqAt.readOf s.heap) = ds := SeqAt.readsAll_map ds its as hxs h4
    have hvl := rv.length
    obtain ⟨hjd, _⟩ := List.getElem?_eq_some_iff.mp hz
    have hjl : j < its.length := by omega
    have hj : j < its.toArray.size := by simpa using hjl
    have at_ : ∀ (m : Nat) (hm : m < its.toArray.size) (z' : PyData), ds[m]? = some z' → SeqAt.readOf s.heap its.toArray[m] = z' := by
      intro m hm z' hz'
      have hml : m < its.length := by simpa using hm
      rw [← hmap, List.getElem?_map, List.getElem?_eq_getElem hml] at hz'
      have e1 : SeqAt.readOf s.heap its[m] = z' := Option.some.inj (show some (SeqAt.readOf s.heap its[m]) = some z' from hz')
      simpa using e1
    refine call_meets PySem.F.slot_list_remove ⟨_, ho, rfl⟩ PySem.F.entry_list_remove (PySem.F.args_list_remove_2 _ _)
      (SeqAt.list_removeAt a its.toArray n none #[] uy (fun u => PyData.eqv (SeqAt.readOf s.heap u) d) j hj ?_ ?_ (by simp; omega)) ⟨ho, SeqAt.items_eqAt (vs := its.toArray) (show ReadsAll s.heap its.toArray.toList ds as from h4) r1 hxs (SeqAt.canLay_of_shaped sd) hroom, ?_⟩
    · show PyData.eqv (SeqAt.readOf s.heap its.toArray[j]) d = true
      rw [at_ j hj z hz]
      exact hzj
    · intro m hm hmj
      have hmd : m < ds.length := by omega
      have hz' : ds[m]? = some ds[m] := List.getElem?_eq_getElem hmd
      show PyData.eqv (SeqAt.readOf s.heap its.toArray[m]) d = false
      rw [at_ m hm _ hz']
      exact hno m _ hmj hz'
    · refine ⟨.non, _, I.lstUpd (its' := its.eraseIdx j) (n' := n + 1) hH ho ?_ (rv.eraseIdx j) (Nat.le_trans (List.length_eraseIdx_le ..) hlen) _, rfl, q⟩
      simp [Obj.mapSeq, Array.eraseIdxIfInBounds, hjl]
      rw [List.length_eraseIdx_of_lt hjl]; omega
end
end L2
set_option Elab.async false
set_option linter.all false
set_option maxRecDepth 100000
set_option maxHeartbeats 2000000
namespace L2
open PySem PySem.Spec PyProof.Rows
/-! ### isinstance of a tracked exception, its field -/
structure ExcX (K : PySem.W.Frag) (D : Addr) : Prop where
  cl : (PySem.W.clsIn K D).isSome = true
  ga : PySem.W.findIn K (.ref D) "__getattribute__" = some (some (.builtin "BaseException.__getattribute__"))
  gg : PySem.W.findIn K (.ref D) "__getattr__" = some none
  hs : PySem.W.subIn K (.ref D) (.type "BaseException") = some true
  ha : PySem.W.findIn K (.ref D) "__class__" = some (some (.builtin "object.__class__"))
  hn : PySem.W.specialIn K (.builtin "object.__class__") "__get__" = some (some (.builtin "getset_descriptor.__get__"))
  ht : PySem.W.takesIn K (.builtin "object.__class__") = some true
  hm : PySem.W.mroIn K D (.type "object") = some true
  hd : PySem.W.hasDictIn K D = true
  no : PySem.W.findIn K (.ref D) "thing" = some none
/-- the exception at a, of the class D, with the dict at dd -/
def ExAt (H : Hp) (a D dd : Addr) (fs : List (Str × V)) : Prop := H a = some (EXO a (.ref D) (some dd)) ∧ H dd = some (.xd fs)
def rIsX (K : PySem.W.Frag) : List V → Hp → VK → Prop := fun xs H Q => ∃ (a D dd : Addr) (fs : List (Str × V)) (c : V) (cv : Value) (b : Bool), xs = [.ref a, c] ∧ ExAt H a D dd fs ∧ ExcX K D ∧ ClsV c cv ∧ PySem.W.kitOne K (.ref D) cv = some b ∧ Q (.bl b) H
def rISI (K : PySem.W.Frag) : List V → Hp → VK → Prop := fun xs H Q => rIsi K xs H Q ∨ rIsX K xs H Q
section
variable {X : Cx}
theorem exAt_inst {pins : List (Addr × Obj)} {σ : St} {H : Hp} {s : Shared} {a D dd : Addr} {fs : List (Str × V)} (I : Inv X pins σ H s) (e : ExAt H a D dd fs) :
    ∃ oe od, PySem.W.InstAt s.heap a oe D (some od) ∧ (∃ mA, s.heap.Ns1 dd mA ∧ ∀ f, RelO (fs.lookup f) (mA f)) ∧ s.heap.get? dd = some od ∧ oe.dict = some dd := by
  obtain ⟨oe, vs, h1, h2, h3, h4⟩ := exo_of I.hok e.1
  have hx : ObjOk X.prog X.w H s.heap dd (.xd fs) := I.hok dd _ e.2
  obtain ⟨mA, hns, hr⟩ := hx
  obtain ⟨od, ho, hl⟩ := lookIn_ns hns
  exact ⟨oe, od, ⟨h1, h2, by unfold PySem.W.notCls; rw [h4] <;> rfl, by rw [h3]; exact ho⟩, ⟨mA, hns, hr⟩, ho, h3⟩
theorem call_isX : CallR X (.builtin "isinstance") (rIsX X.K) := by
  intro pins s σ H xs us Q I r h
  obtain ⟨a, D, dd, fs, c, cv, b, rfl, hx, C, hc, e, q⟩ := h
  obtain ⟨u1, u2, rfl, r1, r2⟩ := vals2 r
  cases (show u1 = Value.ref a from r1)
  have e2 := hc.eq r2
  subst e2
  obtain ⟨oe, od, J, _⟩ := exAt_inst I hx
  exact PySem.W.kia_one (PySem.W.kitx_exc C.cl C.ga C.gg C.hs C.ha C.hn C.ht C.hm) I.kIn J e (fun z => nomatch z) fun tk => ⟨.bl b, H, I.kept (t' := tk) fun _ _ z => z, rfl, q⟩
theorem call_ISI : CallR X (.builtin "isinstance") (rISI X.K) := by
  intro pins s σ H xs us Q I r h
  rcases h with h | h
  · exact call_isi pins s σ H xs us Q I r h
  · exact call_isX pins s σ H xs us Q I r h
def tThing (K : PySem.W.Frag) (te : TE) : TE := fun σ H Q => te σ H fun x H1 => ∃ (a D dd : Addr) (v : V), x = .ref a ∧ ExAt H1 a D dd [(("thing" : Str), v)] ∧ ExcX K D ∧ Q v H1
theorem pe_thing {e : Expr} {te : TE} {pos : Pos} (he : PE X e te) (hb : attributeBase e "thing" X.env (eval e X.env) = eval e X.env := by rfl) : PE X (.Attribute e "thing" pos) (tThing X.K te) := by
  refine ⟨fun pins s σ H Q I h => ?_⟩
  refine attr_of hb (thn (he.run pins s σ H _ I h) fun u s1 hh => ?_)
  obtain ⟨x, H1, I1, rx, a, D, dd, v, ex, ea, T, q⟩ := hh
  subst ex
  obtain rfl : u = Value.ref a := rx
  obtain ⟨oe, od, J, ⟨mA, hns, hr⟩, ho, hdd⟩ := exAt_inst I1 ea
  obtain ⟨od', ho', hl⟩ := lookIn_ns hns
  rw [ho] at ho'; cases ho'
  have l : List.lookup ("thing" : Str) [(("thing" : Str), v)] = some v := by simp [List.lookup]
  obtain ⟨u, hu, ru⟩ := RelO.some_of (v := v) (o := mA "thing") (by rw [← l]; exact hr "thing")
  exact HandSPX.exc_get I1.kIn J T.ga T.gg T.hs (PySem.W.findObj_own T.hd T.no rfl (by rw [hl, hu])) (handed_of ru) ⟨v, H1, I1.tok _, ru, q⟩
end
end L2
namespace T3
open PySem L2
open Evl (Ex)
/-! ### exceptions at the pure level -/
abbrev EW3 := Addr → D → Sig → Mem → Prop
def ImpW (F : Hp) (EW : EW3) (W : WX) : Prop := ∀ F' M' σ' σv' C d thing v H', Ex F F' → SRel F' σ' σv' → St3 F' M' H' → RD F' thing v → F' d = some (.xd [(("thing" : Str), v)]) → EW C thing σ' M' → W (.ref C) (some d) σv' H'
theorem ImpW.mono {F F1 : Hp} {EW : EW3} {W : WX} (h : ImpW F EW W) (e : Ex F F1) : ImpW F1 EW W := fun F' M' σ' σv' C d t v H' a => h F' M' σ' σv' C d t v H' (e.trans a)
theorem impW_of {F : Hp} {E3 : EQ3} {E : XK} (h : ImpE F E3 E) : ImpW F (fun C th _ M => E3 C th M) (fun cls d _ H => E cls d H) := fun F' M' σ' σv' C d t v H' e _ s r x q => h F' M' C d t v H' e s r x q
theorem impW0 {F : Hp} : ImpW F (fun _ _ _ _ => False) (fun _ _ _ _ => False) := fun _ _ _ _ _ _ _ _ _ _ _ _ _ _ q => q
def end3 (i : Option Nat) (σ : Sig) : Sig := match i with | some i => σ.set i none | none => σ
def set3 (i : Option Nat) (a : Addr) (σ : Sig) : Sig := match i with | some i => σ.set i (some (.ref a)) | none => σ
def exW (B : Hp) (K : PySem.W.Frag) (EWo : EW3) (D3 : Ends3) : List (Value × Option Nat × TS) → EW3
  | [] => EWo
  | (c, i, ts) :: r => fun C th σ M => ∃ b, PySem.W.exmOne K (.ref C) c = some b ∧ (b = true → ∀ a, M a = none → W3s B ts { nx := fun σ' M' => D3.nx (end3 i σ') M', rt := D3.rt, bk := fun σ' M' => D3.bk (end3 i σ') M', ct := fun σ' M' => D3.ct (end3 i σ') M' } (set3 i a σ) (mput M a (.exc a C th))) ∧
      (b = false → exW B K EWo D3 r C th σ M)
theorem SRel.end3 {F : Hp} {σ : Sig} {σv : St} (h : SRel F σ σv) (i : Option Nat) : SRel F (T3.end3 i σ) (endI i σv) := by
  cases i with
  | none => exact h
  | some i => exact h.setN
theorem SRel.set3 {F : Hp} {σ : Sig} {σv : St} (h : SRel F σ σv) (i : Option Nat) (a : Addr) : SRel F (T3.set3 i a σ) (setI i a σv) := by
  cases i with
  | none => exact h
  | some i => exact h.set rfl
theorem exW_imp {B : Hp} {K : PySem.W.Frag} {EWo : EW3} {D3 : Ends3} {Wo : WX} {Dv : Ends} {F : Hp} (b : Ex B F) (im : Imp F D3 Dv) (ho : ImpW F EWo Wo) : ∀ l : List (Value × Option Nat × TS), ImpW F (exW B K EWo D3 l) (wManyA K Wo Dv l)
  | [] => ho
  | (c, i, ts) :: r => fun F' M' σ' σv' C d t v H' e s st rt x ⟨k, hk, hy, hn⟩ => by
    refine ⟨k, hk, fun ek a na => ?_, fun ek => exW_imp b im ho r F' M' σ' σv' C d t v H' e s st rt x (hn ek)⟩
    obtain ⟨f0, m0⟩ := st.nn na
    have st2 : St3 F' (mput M' a (.exc a C t)) (upd H' a (EXO a (.ref C) (some d))) := st.newO na ⟨d, v, rfl, x, rt⟩
    have im' := im.mono e
    refine hy ek a m0 F' (setI i a σv') _ _ (b.trans e) (s.set3 i a) st2 ⟨fun F2 M2 σ2 σv2 H2 e2 s2 t2 q => ?_, ?_, fun F2 M2 σ2 σv2 H2 e2 s2 t2 q => ?_, fun F2 M2 σ2 σv2 H2 e2 s2 t2 q => ?_⟩
    · exact im'.nx F2 M2 _ _ H2 e2 (s2.end3 i) t2 q
    · exact im'.rt
    · exact im'.bk F2 M2 _ _ H2 e2 (s2.end3 i) t2 q
    · exact im'.ct F2 M2 _ _ H2 e2 (s2.end3 i) t2 q
section
variable {B : Hp} {M : Mem} {K : PySem.W.Frag} {σ : Sig} {D3 : Ends3} {te : TE} {t ta : TA} {Q : DQ} {S : Sp3}
theorem s_try {tb : WX → TS} {l : List (Value × Option Nat × TS)} {Wo : WX} {EWo : EW3} (ho : ImpW B EWo Wo) (h : ∀ B' W, Ex B B' → ImpW B' (exW B K EWo D3 l) W → W3s B' (tb W) D3 σ M) : W3s B (fun D σ H => tb (wManyA K Wo D l) D σ H) D3 σ M := fun F σv H Dv b hs st im =>
  h F (wManyA K Wo Dv l) b (exW_imp b im (ho.mono b) l) F σv H Dv (Ex.refl _) hs st im
theorem w_callS {W : WX} {EW : EW3} (hW : ImpW B EW W) (h : W3a B t σ M (fun ds M1 => S ds M1 Q (fun C th M' => EW C th σ M'))) : W3e B (tCallS (lift3 S) (WE W) t) σ M Q := fun F σv H Qv b hs st k =>
  h F σv H _ b hs st fun F1 M1 ds vs H1 e1 st1 rx q => ⟨ds, F1, M1, Q, _, rx, st1, fun F2 M2 d v H2 e2 => k F2 M2 d v H2 (e1.trans e2), fun F' M' C d thing v H' e s r x q' => hW F' M' σ σv C d thing v H' ((b.trans e1).trans e) ((hs.mono e1).mono e) s r x q', q⟩
theorem s_raise {C : Addr} {W : WX} {EW : EW3} (hW : ImpW B EW W) (h : W3a B ta σ M (fun ds M1 => ∃ x y, ds = [x, y] ∧ EW C x σ M1)) : W3s B (tRaiseDye C W ta) D3 σ M := fun F σv H Dv b hs st im =>
  h F σv H _ b hs st fun F1 M1 ds vs H1 e1 st1 rx ⟨x, y, ed, q⟩ => by
    subst ed
    obtain ⟨v, u, ev, rv, ru⟩ := rx.two
    refine ⟨v, u, ev, fun d hd => ?_⟩
    obtain ⟨s2, e2⟩ := st1.new (o := .xd [(("thing" : Str), v)]) hd
    exact hW _ M1 σ σv C d x v _ ((b.trans e1).trans e2) ((hs.mono e1).mono e2) s2 (rv.mono e2) upd_same q
theorem w_thing (h : W3e B te σ M (fun x M1 => ∃ a C th, x = .ref a ∧ M1 a = some (.exc a C th) ∧ ExcX K C ∧ Q th M1)) : W3e B (tThing K te) σ M Q := fun F σv H Qv b hs st k =>
  h F σv H _ b hs st fun F1 M1 x xv H1 e1 st1 rx ⟨a, C, th, ex, hm, hc, q⟩ => by
    subst ex
    obtain ⟨_, ho, h1, dd, v, e2, hx, rv⟩ := st1.own a _ hm
    subst e2
    exact ⟨a, C, dd, v, rx, ⟨h1, st1.fz dd _ hx⟩, hc, k F1 M1 th v H1 e1 st1 rv q⟩
theorem c3_ISI {x : D} {n : String} {c : Bool} (h : (tyD x == "") = false) (hk : PySem.W.kitOne K (.type (tyD x)) (.type n) = some c) (q : Q (.bl c) M) : C3 B (rISI K) [x, .ty n] M Q := fun F H xv Qv b st rx k => .inl (c3_isi h hk q F H xv Qv b st rx k)
theorem c3_isX {a C C2 : Addr} {th : D} {c : Bool} (hm : M a = some (.exc a C th)) (hC : ExcX K C) (hk : PySem.W.kitOne K (.ref C) (.ref C2) = some c) (q : Q (.bl c) M) : C3 B (rISI K) [.ref a, .ref C2] M Q := fun F H xv Qv b st rx k => by
  obtain ⟨v, u, e, r1, r2⟩ := rx.two
  obtain ⟨_, ho, h1, dd, tv, e2, hx, rv⟩ := st.own a _ hm
  subst e2
  exact .inr ⟨a, C, dd, _, u, .ref C2, c, by rw [e, show v = V.ref a from r1], ⟨h1, st.fz dd _ hx⟩, hC, by rw [show u = V.ref C2 from r2]; exact .own C2, hk, k F M (.bl c) _ H (Ex.refl _) st rfl q⟩
theorem c3_isXt {a C : Addr} {n : String} {th : D} {c : Bool} (hm : M a = some (.exc a C th)) (hC : ExcX K C) (hk : PySem.W.kitOne K (.ref C) (.type n) = some c) (q : Q (.bl c) M) : C3 B (rISI K) [.ref a, .ty n] M Q := fun F H xv Qv b st rx k => by
  obtain ⟨v, u, e, r1, r2⟩ := rx.two
  obtain ⟨_, ho, h1, dd, tv, e2, hx, rv⟩ := st.own a _ hm
  subst e2
  exact .inr ⟨a, C, dd, _, u, .type n, c, by rw [e, show v = V.ref a from r1], ⟨h1, st.fz dd _ hx⟩, hC, by rw [show u = V.ty n from r2]; exact .ty n, hk, k F M (.bl c) _ H (Ex.refl _) st rfl q⟩
/-! ### index, count, remove by value -/
def rMD (K : PySem.W.Frag) : V → List V → Hp → VK → Prop := rIndexD K
theorem getM {α β : Type} {f : α → β} {l : List α} {i : Nat} {b : β} (h : (l.map f)[i]? = some b) : ∃ a, l[i]? = some a ∧ f a = b := by
  rw [List.getElem?_map] at h
  exact Option.map_eq_some_iff.mp h
theorem m3_index {n m : Nat} {x y z : D} {ds : List D} {j : Nat} (l : LstD M x ds) (hx : okDs n ds = true) (hy : okD m y = true) (hz : ds[j]? = some z) (he : peq z y = true) (hno : ∀ (i : Nat) z', i < j → ds[i]? = some z' → peq z' y = false) (q : Q (.int j) M) (hn : n < 64 := by decide) (hm : m ≤ 64 := by decide) : M3 B (rIndexD K) x [y] M Q := fun F H xv xvs Qv b st rx rxs k => by
  obtain ⟨v, e, ry⟩ := rxs.sing
  have hd := l.dp (K := K) hx st rx
  obtain ⟨a, vs, ev, _, _⟩ := l.at st rx
  subst ev
  refine ⟨a, v, py y, pys ds, j, py z, rfl, e, hd, okD_dp st.fz hy ry, okDs_shaped hx hn, okD_shaped hy hm, ?_, he, fun i z' hi hz' => ?_, k F M (.int j) _ H (Ex.refl _) st rfl q⟩
  · rw [pys_map, List.getElem?_map, hz]; rfl
  · rw [pys_map] at hz'
    obtain ⟨z2, h1, h2⟩ := getM hz'
    rw [← h2]; exact hno i z2 hi h1
theorem m3_count {n m : Nat} {x y : D} {ds : List D} (l : LstD M x ds) (hx : okDs n ds = true) (hy : okD m y = true) (q : Q (.int (ds.countP fun z => peq z y : Nat)) M) (hn : n < 64 := by decide) (hm : m ≤ 64 := by decide) : M3 B (rCountD K) x [y] M Q := fun F H xv xvs Qv b st rx rxs k => by
  obtain ⟨v, e, ry⟩ := rxs.sing
  have hd := l.dp (K := K) hx st rx
  obtain ⟨a, vs, ev, _, _⟩ := l.at st rx
  subst ev
  refine ⟨a, v, py y, pys ds, rfl, e, hd, okD_dp st.fz hy ry, okDs_shaped hx hn, okD_shaped hy hm, ?_⟩
  have ec : ((pys ds).countP fun z => PyData.eqv z (py y)) = ds.countP fun z => peq z y := by rw [pys_map, List.countP_map]; rfl
  rw [ec]
  exact k F M (.int _) _ H (Ex.refl _) st rfl q
theorem m3_remove {n m : Nat} {y z : D} {a : Addr} {ds : List D} {j : Nat} (hM : M a = some (.lst ds)) (hx : okDs n ds = true) (hy : okD m y = true) (hz : ds[j]? = some z) (he : peq z y = true) (hno : ∀ (i : Nat) z', i < j → ds[i]? = some z' → peq z' y = false) (q : Q .non (mput M a (.lst (ds.eraseIdx j)))) (hn : n < 64 := by decide) (hm : m ≤ 64 := by decide) : M3 B (rRemoveD K) (.ref a) [y] M Q := fun F H xv xvs Qv b st rx rxs k => by
  obtain ⟨v, e, ry⟩ := rxs.sing
  obtain ⟨_, ho, h1, vs, e2, rs⟩ := st.own a _ hM
  subst e2
  refine ⟨a, vs, v, py y, pys ds, j, py z, rx, e, h1, okDs_dp st.fz hx rs, okD_dp st.fz hy ry, okDs_shaped hx hn, okD_shaped hy hm, ?_, he, fun i z' hi hz' => ?_, k F _ .non _ _ (Ex.refl _) (st.put hM (d' := .lst (ds.eraseIdx j)) ⟨_, rfl, rs.eraseIdx j⟩) rfl q⟩
  · rw [pys_map, List.getElem?_map, hz]; rfl
  · rw [pys_map] at hz'
    obtain ⟨z2, h1, h2⟩ := getM hz'
    rw [← h2]; exact hno i z2 hi h1
end
end T3
set_option Elab.async false
set_option linter.all false
namespace T3
open PySem L2
open Evl (Ex)
section
variable {B : Hp} {M : Mem} {K : PySem.W.Frag} {σ : Sig} {te : TE} {t : TA} {Q : DQ} {P : Program} {w : World}
theorem RDs.rev {F : Hp} : ∀ {ds : List D} {vs : List V}, RDs F ds vs → RDs F ds.reverse vs.reverse
  | [], _, h => by rw [show _ = [] from h]; rfl
  | d :: ds, _, ⟨v, vs, e, r, rs⟩ => by subst e; rw [List.reverse_cons, List.reverse_cons]; exact (RDs.rev rs).snoc r
theorem w_rev (h : W3e B te σ M (fun x M1 => ∃ ds, LstD M1 x ds ∧ Q (.lst ds.reverse) M1)) : W3e B (tRevL K te) σ M Q := fun F σv H Qv b hs st k =>
  h F σv H _ b hs st fun F1 M1 x xv H1 e1 st1 rx ⟨ds, l, q⟩ => by
    obtain ⟨a, vs, e, h1, rs⟩ := l.seq (K := K) st1 rx
    refine ⟨a, vs, e, h1, fun p hp => ?_⟩
    obtain ⟨s2, e2⟩ := st1.new (o := .lst vs.reverse) hp
    exact k _ M1 (.lst ds.reverse) _ _ (e1.trans e2) s2 ⟨p, _, rfl, upd_same, rs.rev.mono e2⟩ q
theorem c3_set0 (q : ∀ p, M p = none → Q (.ref p) (mput M p (.raw (SetK P w p (fun _ => false) 0)))) : C3 B (rSet0K P w) [] M Q := fun F H xv Qv b st rx k => by
  refine ⟨rx, fun p hp => ?_⟩
  exact k F _ (.ref p) _ _ (Ex.refl _) (st.newO (d := .raw _) hp rfl) rfl (q p (st.nn hp).2)
theorem w_sadd (h : W3e B te σ M (fun x M1 => ∃ a S n, x = .ref a ∧ M1 a = some (.raw (SetK P w a S n)) ∧ W3a B t σ M1 (fun ds M2 => ∃ d k S n, ds = [d] ∧ (∀ F v, RD F d v → v = kV k) ∧ M2 a = some (.raw (SetK P w a S n)) ∧ n + 1 < scanBound ∧
      Q .non (mput M2 a (.raw (SetK P w a (fun j => S j || decide (j = k)) (if S k = true then n else n + 1))))))) : W3e B (tSAddK P w te t) σ M Q := fun F σv H Qv b hs st kk =>
  h F σv H _ b hs st fun F1 M1 x xv H1 e1 st1 rx ⟨a, S, n, ex, hm, q⟩ => by
    subst ex
    obtain ⟨_, ho, h1, e⟩ := st1.own a _ hm
    rw [show ho = _ from e] at h1
    refine ⟨⟨a, S, n, rx, h1⟩, q F1 σv H1 _ (b.trans e1) (hs.mono e1) st1 fun F2 M2 ds vs H2 e2 st2 rxs ⟨d, k, S', n', ed, hk, hm2, hn, q2⟩ => ?_⟩
    subst ed
    obtain ⟨v, ev, rv⟩ := rxs.sing
    obtain ⟨_, ho', h2, e'⟩ := st2.own a _ hm2
    rw [show ho' = _ from e'] at h2
    exact ⟨a, k, S', n', rx, by rw [ev, hk F2 v rv], h2, hn, kk F2 _ .non _ _ (e1.trans e2) (st2.put hm2 (d' := .raw _) rfl) rfl q2⟩
def rJOIN (K : PySem.W.Frag) : V → List V → Hp → VK → Prop := fun x xs H Q => ∃ a p, ∃ ys : List Str, x = .str a ∧ xs = [.ref p] ∧ (SqL K H p (ys.map V.str) ∨ SqT K H p (ys.map V.str)) ∧
    (ys.map (·.length)).sum + ys.length * a.length ≤ 16777216 ∧ Q (.str (Txt.join a ys)) H
theorem mt_JOIN {X : Cx} : MtR X "str.join" (rJOIN X.K) := mt_join
theorem m3_join {y : D} {ys : List Str} {s : Str} (l : LstD M y (ys.map D.str)) (hb : (ys.map (·.length)).sum + ys.length * s.length ≤ 16777216) (q : Q (.str (Txt.join s ys)) M) : M3 B (rJOIN K) (.str s) [y] M Q := fun F H xv xvs Qv b st rx rxs k => by
  obtain ⟨v, e, r⟩ := rxs.sing
  obtain ⟨a, vs, e1, h1, rs⟩ := l.seq (K := K) st r
  rw [rs.strs] at h1
  exact ⟨s, a, ys, rx, by rw [e, e1], .inl h1, hb, k F M (.str _) _ H (Ex.refl _) st rfl q⟩
end
end T3
namespace T3
open PySem L2
theorem sl_SLK {X : Cx} (K : PySem.W.Frag) (h : X.K = K) : SlR X (rSL K) := by subst h; exact sl_SL
theorem op_INK {X : Cx} (K : PySem.W.Frag) (P : Program) (w : World) (h1 : X.K = K) (h2 : X.prog = P) (h3 : X.w = w) (hu : X.A.units + 65 < cLine) : OpR X (compareOp .In) (rIN K P w false) := by subst h1; subst h2; subst h3; exact op_IN hu
theorem vs_drop {d : D} {M : Mem} (p : Addr) : VS d M d (mdel M p) := fun F H v s r => ⟨F, Evl.Ex.refl _, s.drop p, r⟩
theorem s_nvs {B : Hp} {ts : TS} {D3 : Ends3} {σ : Sig} {M : Mem} (h : W3s B ts { D3 with nx := fun σ M => ∃ σ' M', VSs σ M σ' M' ∧ D3.nx σ' M' } σ M) : W3s B ts D3 σ M := fun F σv H Dv b hs st im =>
  h F σv H Dv b hs st ⟨fun F' M' σ' σv' H' e s t ⟨σ2, M2, vs, q⟩ => by
    obtain ⟨F2, e2, t2, s2⟩ := vs F' H' σv' t s
    exact im.nx F2 M2 σ2 σv' H' (e.trans e2) s2 t2 q, im.rt, im.bk, im.ct⟩
theorem ix_seqK {X : Cx} (K : PySem.W.Frag) (h : X.K = K) : IxR X (rIx K) := by subst h; exact ix_seq
theorem pt_truthK {X : Cx} {a : Expr} {ta : TE} (K : PySem.W.Frag) (h : X.K = K) (ha : PE X a ta) (he : ∀ whole, isTrue a X.env whole = (do let v ← whole; standAt a.pos; holding [v] (truthy v))) : PT X a (tTR K ta) := by subst h; exact pt_truth ha he
theorem call_lenK {X : Cx} (K : PySem.W.Frag) (h : X.K = K) : CallR X (.builtin "len") (rLEN K) := by subst h; exact call_len
theorem call_lstK {X : Cx} (K : PySem.W.Frag) (h : X.K = K) : CallR X (.type "list") (rLST K) := by subst h; exact call_list_of
theorem call_ISIK {X : Cx} (K : PySem.W.Frag) (h : X.K = K) : CallR X (.builtin "isinstance") (rISI K) := by subst h; exact call_ISI
theorem pe_thingK {X : Cx} {e : Expr} {te : TE} {pos : Pos} (K : PySem.W.Frag) (h : X.K = K) (he : PE X e te) (hb : attributeBase e "thing" X.env (eval e X.env) = eval e X.env := by rfl) : PE X (.Attribute e "thing" pos) (tThing K te) := by subst h; exact pe_thing he hb
theorem roomW_le {j k : Nat} {A A' : Around} (r : Room k A) (h : j ≤ k) (e1 : A'.depth = A.depth) (e2 : A'.units = A.units) : RoomW j A' := ⟨by have := r.dp; omega, by have := r.un; omega⟩
/-- promises that look at the frozen heap -/
def lift3B (S : Hp → Sp3) : Sp := fun vs H Q E => ∃ (ds : List D) (F : Hp) (M : Mem) (Q3 : DQ) (E3 : EQ3), RDs F ds vs ∧ St3 F M H ∧ (∀ F' M' d v H', Evl.Ex F F' → St3 F' M' H' → RD F' d v → Q3 d M' → Q v H') ∧ ImpE F E3 E ∧ S F ds M Q3 E3
theorem run3B {S : Hp → Sp3} {N : List Str} {vs : List V} {H : Hp} {Q : VK} {E : XK} {t : TS} (h : lift3B S vs H Q E)
    (k : ∀ B ds M Q3 E3, S B ds M Q3 E3 → ImpE B E3 E → W3s B t { nx := fun _ M => Q3 .non M, rt := Q3 } (start3 N ds) M) : t { nx := fun _ H' => Q .non H', rt := Q } (L2.start N vs) H := by
  obtain ⟨ds, F, M, Q3, E3, r, st, hq, he, hs⟩ := h
  exact k F ds M Q3 E3 hs he F _ H _ (Evl.Ex.refl _) (SRel.start r) st ⟨fun F' M' σ' σv' H' e s t q => hq F' M' .non .non H' e t rfl q, hq, fun _ _ _ _ _ _ _ _ q => q.elim, fun _ _ _ _ _ _ _ _ q => q.elim⟩
theorem lift3B_len {S : Hp → Sp3} {n : Nat} (h : ∀ F ds M Q E, S F ds M Q E → ds.length = n) : ∀ vs H Q E, lift3B S vs H Q E → vs.length = n := fun vs H Q E ⟨ds, F, M, Q3, E3, r, _, _, _, hs⟩ => by rw [← r.length]; exact h F ds M Q3 E3 hs
theorem w_callB0 {B : Hp} {M : Mem} {σ : Sig} {t : TA} {Q : DQ} {S : Hp → Sp3} {E : XK} (mono : ∀ F F' ds M Q E, Evl.Ex F F' → S F ds M Q E → S F' ds M Q E) (h : W3a B t σ M (fun ds M1 => S B ds M1 Q NoE)) : W3e B (tCall (lift3B S) [] E t) σ M Q := fun F σv H Qv b hs st k =>
  h F σv H _ b hs st fun F1 M1 ds vs H1 e1 st1 rx q => ⟨ds, F1, M1, Q, NoE, by rw [List.append_nil]; exact rx, st1, fun F2 M2 d v H2 e2 => k F2 M2 d v H2 (e1.trans e2), impE0, mono B F1 ds M1 Q NoE (b.trans e1) q⟩
theorem s3_q {B : Hp} {M : Mem} {K : PySem.W.Frag} {Q : DQ} {a : Addr} {ns : List Int} {lo hi : Option Int} (h : SqL K B a (ns.map V.int)) (q : Q (.lst (cutD (ns.map D.int) lo hi)) M) : S3 B (rSL K) (.ref a) lo hi M Q := fun F H xv Qv b st rx k => by
  refine .inl ⟨a, ns.map V.int, rx, Evl.ex_l (b.trans st.fz) h, fun p hp => ?_⟩
  obtain ⟨s2, e2⟩ := st.new (o := .lst (cutV (ns.map V.int) lo hi)) hp
  have r : ∀ l : List Int, RDs F (l.map D.int) (l.map V.int) := fun l => by
    induction l with
    | nil => rfl
    | cons i l ih => exact ⟨_, _, rfl, rfl, ih⟩
  exact k _ _ (.lst (cutD (ns.map D.int) lo hi)) _ _ e2 s2 ⟨p, _, rfl, upd_same, ((r ns).cut lo hi).mono e2⟩ q
theorem op_eqDK {X : Cx} (K : PySem.W.Frag) (h : X.K = K) (hu : X.A.units + 64 < cLine) : OpR X (compareOp .Eq) (rEqD K) := by subst h; exact op_eqD hu
theorem op_neDK {X : Cx} (K : PySem.W.Frag) (h : X.K = K) (hu : X.A.units + 64 < cLine) : OpR X (compareOp .NotEq) (rNeD K) := by subst h; exact op_neD hu
theorem op_NINK {X : Cx} (K : PySem.W.Frag) (P : Program) (w : World) (h1 : X.K = K) (h2 : X.prog = P) (h3 : X.w = w) (hu : X.A.units + 65 < cLine) : OpR X (compareOp .NotIn) (rIN K P w true) := by subst h1; subst h2; subst h3; exact op_NIN hu
end T3
set_option Elab.async false
set_option linter.all false
set_option maxRecDepth 100000
set_option maxHeartbeats 2000000
namespace L2
open PySem PySem.Spec PyProof.Rows
/-! ### a store to a property of an own class -/
structure PropSet (K : PySem.W.Frag) (C : Addr) (f : Str) (p g : Addr) : Prop where
  tk : PySem.W.takerIn K C f = some (some (.ref p))
  tT : PySem.W.typeIn K (.ref p) = some (.type "property")
  rec_ : ∃ a rest, PySem.W.recIn K p "property" = some (a :: .ref g :: rest)
def tPropSet (C : Addr) (sp : Sp) (E : St → XK) (ta tv : TE) : TS := fun D σ H => tv σ H fun y H1 => ta σ H1 fun x H2 => ∃ a dx fs, x = .ref a ∧ H2 a = some (.ins C dx fs) ∧ sp [.ref a, y] H2 (fun _ H3 => D.nx σ H3) (E σ)
section
variable {X : Cx} {CX : CXT} {k : Nat} {C p g a dx : Addr} {fs : List (Str × V)} {f : Str} {fd : FuncData} {ps : List Str} {sp : Sp} {E : St → XK} {o value : Expr} {pos pos' : Pos} {ta tv : TE}
theorem setprop_ok {pins : List (Addr × Obj)} {σ : St} {H : Hp} {s : Shared} {Q : VK} (I : Inv X pins σ H s) (ea : H a = some (.ins C dx fs)) (c : Cls X.K C) (hp : PropSet X.K C f p g)
    (F : FnOk X.prog X.w X.K X.mg X.base CX k g fd ps sp) (hr : Room (k + 2) X.A) (hb : Binds X.K fd ps []) (hx : PassesAt CX X σ (E σ)) {y : V} {u : Value} (ry : RelV y u) (h : sp [.ref a, y] H Q (E σ)) :
    wpAny (model X.prog X.w) X.A (setAttr (.ref a) f u) (fun _ s' => ∃ v H', Inv X pins σ H' s' ∧ Q v H') X.xe s := by
  obtain ⟨mA, O, _, _, _, _⟩ := ins_get I.hok ea
  obtain ⟨od, J, _⟩ := O.look
  obtain ⟨a0, rest, hrec⟩ := hp.rec_
  have I1 := (I.tok (s.toks + 1)).tok (s.toks + 1 + 1)
  have I2 := I.tok (s.toks + 1)
  have hl : [Value.ref a, u].length = ps.length := by rw [← F.len _ _ _ _ h]; rfl
  have b := hb { s with toks := s.toks + 1 } [.ref a, u] I.kIn (by rw [List.append_nil]; exact hl)
  rw [List.append_nil] at b
  refine PySem.W.set_plain I.kIn J c.sa (PySem.W.osa_descr (s := { s with toks := s.toks + 1 }) PySem.W.KF.slot_pset I.kIn J c.po hp.tk hp.tT (PySem.W.prop_set (s := { s with toks := s.toks + 1 }) I.kIn hrec
    (codeAny_mono (F.run X.A.in1.in1 X.stack { s with toks := s.toks + 1 } H ⟨[.ref a, u], []⟩ [.ref a, u] [.ref a, y] Q (E σ) hr.in1.in1 I2.env0.in1.in1 b (.cons rfl (.cons ry .nil)) h) fun r s' hq => ?_)))
  cases r with
  | error er => exact hx pins H { s with toks := s.toks + 1 } er s' I2 hq
  | ok fl =>
    cases fl with
    | ret u =>
      obtain ⟨v, H', I3, rv, q3⟩ := I2.after hq
      exact ⟨v, H', I3, q3⟩
    | next => exact False.elim hq
    | brk => exact False.elim hq
    | cont => exact False.elim hq
/-- o.f = value, f a property -/
theorem ps_propset (ha : PE X o ta) (hv : PE X value tv) (c : Cls X.K C) (hp : PropSet X.K C f p g) (F : FnOk X.prog X.w X.K X.mg X.base CX k g fd ps sp) (hr : Room (k + 2) X.A) (hb : Binds X.K fd ps []) (hx : ∀ σ, PassesAt CX X σ (E σ))
    (hs : swapsWith value (some (.Attribute o f pos')) pos.line X.env = pure false) : PS X (.Assign [.Attribute o f pos'] value pos) (tPropSet C sp E ta tv) := by
  refine ⟨fun pins s σ H D I h => ?_⟩
  refine plainObj_wpAny_Assign_Attribute (thn (hv.run pins s σ H _ I h) fun u s1 ⟨y, H1, I1, ry, q⟩ => thn (ha.run pins s1 σ H1 _ I1 q) fun ov s2 ⟨x, H2, I2, rx, a, dx, fs, ex, ea, q2⟩ => ?_) hs
  subst ex
  obtain rfl : ov = Value.ref a := rx
  exact thn (setprop_ok I2 ea c hp F hr hb (hx σ) ry q2) fun _ s3 ⟨v, H3, I3, q3⟩ => ⟨σ, H3, I3, q3⟩
end
end L2
set_option Elab.async false
set_option linter.all false
set_option maxRecDepth 100000
namespace T3
open PySem L2
open Evl (Ex)
/-! ### dicts -/
section
variable {κ : Type} [DecidableEq κ]
def valD (kvs : List (κ × D)) (k : κ) : Option D := (kvs.find? fun kv => decide (kv.1 = k)).map (·.2)
def putKD (kvs : List (κ × D)) (k : κ) (v : D) : List (κ × D) :=
  if (kvs.any fun kv => decide (kv.1 = k)) = true then kvs.map (fun kv => if kv.1 = k then (kv.1, v) else kv) else kvs ++ [(k, v)]
def OptR (F : Hp) : Option D → Option V → Prop
  | some d, some v => RD F d v
  | none, none => True
  | _, _ => False
theorem pkv_val {F : Hp} {k : κ} : ∀ {l : List (κ × D)} {m : List (κ × V)}, PKV F l m → OptR F (valD l k) (valV m k)
  | _, _, .nil => trivial
  | (a, d) :: l, (b, v) :: m, .cons h t => by
    have e : a = b := h.1
    subst e
    unfold valD valV
    rw [List.find?_cons, List.find?_cons]
    by_cases q : a = k
    · simp only [q, decide_true]; exact h.2
    · simp only [q, decide_false]; exact pkv_val t
theorem pkv_any {F : Hp} {k : κ} : ∀ {l : List (κ × D)} {m : List (κ × V)}, PKV F l m → (l.any fun kv => decide (kv.1 = k)) = (m.any fun kv => decide (kv.1 = k))
  | _, _, .nil => rfl
  | (a, d) :: l, (b, v) :: m, .cons h t => by
    have e : a = b := h.1
    subst e
    rw [List.any_cons, List.any_cons, pkv_any t]
theorem pkv_set {F : Hp} {k : κ} {d : D} {v : V} (r : RD F d v) : ∀ {l : List (κ × D)} {m : List (κ × V)}, PKV F l m → PKV F (l.map (fun kv => if kv.1 = k then (kv.1, d) else kv)) (m.map (fun kv => if kv.1 = k then (kv.1, v) else kv))
  | _, _, .nil => .nil
  | (a, d') :: l, (b, v') :: m, .cons h t => by
    have e : a = b := h.1
    subst e
    rw [List.map_cons, List.map_cons]
    refine .cons ?_ (pkv_set r t)
    by_cases q : a = k
    · rw [if_pos q, if_pos q]; exact ⟨rfl, r⟩
    · rw [if_neg q, if_neg q]; exact h
theorem pkv_app {F : Hp} {x : κ × D} {y : κ × V} (r : x.1 = y.1 ∧ RD F x.2 y.2) : ∀ {l : List (κ × D)} {m : List (κ × V)}, PKV F l m → PKV F (l ++ [x]) (m ++ [y])
  | _, _, .nil => .cons r .nil
  | _, _, .cons h t => .cons h (pkv_app r t)
theorem pkv_putK {F : Hp} {k : κ} {d : D} {v : V} (r : RD F d v) {l : List (κ × D)} {m : List (κ × V)} (h : PKV F l m) : PKV F (putKD l k d) (putK m k v) := by
  unfold putKD putK
  rw [pkv_any h]
  split
  · exact pkv_set r h
  · exact pkv_app ⟨rfl, r⟩ h
theorem pkv_length {F : Hp} : ∀ {l : List (κ × D)} {m : List (κ × V)}, PKV F l m → l.length = m.length
  | _, _, .nil => rfl
  | _, _, .cons _ t => congrArg (· + 1) (pkv_length t)
end
def kD : Key → D
  | .inl i => .int i
  | .inr s => .str s
theorem kD_V {k : Key} {F : Hp} {v : V} (r : RD F (kD k) v) : v = kV k := by cases k <;> exact r
section
variable {B : Hp} {M : Mem} {K : PySem.W.Frag} {σ : Sig} {te ty tx tv : TE} {Q : DQ} {D3 : Ends3} {P : Program} {w : World}
theorem w_dnewK (q : ∀ p, M p = none → Q (.ref p) (mput M p (.dK []))) : W3e B tDNewK σ M Q := fun F σv H Qv b hs st k p hp =>
  k F _ (.ref p) _ _ (Ex.refl _) (st.newO (d := .dK []) hp ⟨[], rfl, .nil⟩) rfl (q p (st.nn hp).2)
theorem w_dnewT (q : ∀ p, M p = none → Q (.ref p) (mput M p (.dT []))) : W3e B tDNewT σ M Q := fun F σv H Qv b hs st k p hp =>
  k F _ (.ref p) _ _ (Ex.refl _) (st.newO (d := .dT []) hp ⟨[], rfl, .nil⟩) rfl (q p (st.nn hp).2)
/-- a is a dict of ints and texts and y a key of it (tuple keys: dT) -/
def GetD (M : Mem) (x y : D) (o : Option D) : Prop := ∃ a, x = .ref a ∧ ((∃ kvs k, M a = some (.dK kvs) ∧ y = kD k ∧ o = valD kvs k) ∨ ∃ kvs k, M a = some (.dT kvs) ∧ y = .tup (k.map kD) ∧ o = valD kvs k)
theorem RDs.keys {F : Hp} : ∀ {k : List Key} {vs : List V}, RDs F (k.map kD) vs → vs = k.map kV
  | [], _, h => h
  | _ :: _, _, ⟨v, vs, e, r, rs⟩ => by rw [e, kD_V r, RDs.keys rs]; rfl
theorem GetD.at {F H : Hp} {x y : D} {o : Option D} {xv yv : V} (g : GetD M x y o) (st : St3 F M H) (rx : RD F x xv) (ry : RD F y yv) : ∃ a ov, xv = .ref a ∧ DGet H a yv ov ∧ OptR F o ov := by
  obtain ⟨a, ex, ⟨kvs, k, hm, ey, eo⟩ | ⟨kvs, k, hm, ey, eo⟩⟩ := g
  · subst ex; subst ey; subst eo
    obtain ⟨_, ho, h1, kv, e, pk⟩ := st.own a _ hm
    subst e
    rw [kD_V ry]
    exact ⟨a, _, rx, DGet.k h1, pkv_val pk⟩
  · subst ex; subst ey; subst eo
    obtain ⟨_, ho, h1, kv, e, pk⟩ := st.own a _ hm
    subst e
    obtain ⟨b, vs, e2, hb, rs⟩ := ry
    subst e2
    rw [rs.keys] at hb
    exact ⟨a, _, rx, DGet.t h1 (st.fz b _ hb), pkv_val pk⟩
theorem w_dget (h : W3e B te σ M (fun x M1 => W3e B ty σ M1 (fun y M2 => ∃ d, GetD M2 x y (some d) ∧ Q d M2))) : W3e B (tDGet te ty) σ M Q := fun F σv H Qv b hs st k =>
  h F σv H _ b hs st fun F1 M1 x xv H1 e1 st1 rx q1 => q1 F1 σv H1 _ (b.trans e1) (hs.mono e1) st1 fun F2 M2 y yv H2 e2 st2 ry ⟨d, g, q⟩ => by
    obtain ⟨a, ov, ex, g2, r⟩ := g.at st2 (rx.mono e2) ry
    cases ov with
    | none => exact r.elim
    | some v => exact ⟨a, v, ex, g2, k F2 M2 d v H2 (e1.trans e2) st2 r q⟩
theorem w_dget2 (h : W3e B te σ M (fun x M1 => (∃ a, x = .ref a ∧ ((∃ kvs, M1 a = some (.dK kvs)) ∨ ∃ kvs, M1 a = some (.dT kvs))) ∧ W3e B ty σ M1 (fun y M2 => W3e B tx σ M2 (fun z M3 => ∃ o, GetD M3 x y o ∧ Q (o.getD z) M3)))) : W3e B (tDGet2 te ty tx) σ M Q := fun F σv H Qv b hs st k =>
  h F σv H _ b hs st fun F1 M1 x xv H1 e1 st1 rx ⟨⟨a, ex, ht⟩, q1⟩ => by
    subst ex
    refine ⟨a, rx, ?_, q1 F1 σv H1 _ (b.trans e1) (hs.mono e1) st1 fun F2 M2 y yv H2 e2 st2 ry q2 => q2 F2 σv H2 _ (b.trans (e1.trans e2)) (hs.mono (e1.trans e2)) st2 fun F3 M3 z zv H3 e3 st3 rz ⟨o, g, q⟩ => ?_⟩
    · rcases ht with ⟨kvs, hm⟩ | ⟨kvs, hm⟩
      · obtain ⟨_, ho, h1, kv, e, _⟩ := st1.own a _ hm
        subst e; exact .inl ⟨kv, .inl h1⟩
      · obtain ⟨_, ho, h1, kv, e, _⟩ := st1.own a _ hm
        subst e; exact .inr ⟨kv, .inl h1⟩
    · obtain ⟨a', ov, ex, g2, r⟩ := g.at st3 (show RD F3 (.ref a) (.ref a) from rfl) (ry.mono e3)
      cases ex
      refine ⟨ov, g2, ?_⟩
      cases o with
      | none =>
        cases ov with
        | none => exact k F3 M3 z zv H3 (e1.trans (e2.trans e3)) st3 rz q
        | some v => exact r.elim
      | some d =>
        cases ov with
        | none => exact r.elim
        | some v => exact k F3 M3 d v H3 (e1.trans (e2.trans e3)) st3 r q
/-- d[y] = v -/
def PutD (M : Mem) (x y v : D) (M' : Mem) : Prop := ∃ a, x = .ref a ∧ ((∃ kvs k, M a = some (.dK kvs) ∧ y = kD k ∧ kvs.length < 100000 ∧ M' = mput M a (.dK (putKD kvs k v))) ∨ ∃ kvs k, M a = some (.dT kvs) ∧ y = .tup (k.map kD) ∧ kvs.length < 100000 ∧ M' = mput M a (.dT (putKD kvs k v)))
theorem PutD.at {F H : Hp} {x y v : D} {M' : Mem} {xv yv vv : V} (g : PutD M x y v M') (st : St3 F M H) (rx : RD F x xv) (ry : RD F y yv) (rv : RD F v vv) : ∃ a H', xv = .ref a ∧ DPut H a yv vv H' ∧ St3 F M' H' := by
  obtain ⟨a, ex, ⟨kvs, k, hm, ey, hl, eM⟩ | ⟨kvs, k, hm, ey, hl, eM⟩⟩ := g
  · subst ex; subst ey; subst eM
    obtain ⟨_, ho, h1, kv, e, pk⟩ := st.own a _ hm
    subst e
    rw [kD_V ry]
    exact ⟨a, _, rx, DPut.k h1 (by rw [← pkv_length pk]; exact Nat.lt_trans hl (by decide)), st.put hm (d' := .dK (putKD kvs k v)) ⟨_, rfl, pkv_putK rv pk⟩⟩
  · subst ex; subst ey; subst eM
    obtain ⟨_, ho, h1, kv, e, pk⟩ := st.own a _ hm
    subst e
    obtain ⟨b, vs, e2, hb, rs⟩ := ry
    subst e2
    rw [rs.keys] at hb
    exact ⟨a, _, rx, DPut.t h1 (st.fz b _ hb) (by rw [← pkv_length pk]; exact Nat.lt_trans hl (by decide)), st.put hm (d' := .dT (putKD kvs k v)) ⟨_, rfl, pkv_putK rv pk⟩⟩
theorem s_dput (h : W3e B tv σ M (fun v M1 => W3e B te σ M1 (fun x M2 => W3e B ty σ M2 (fun y M3 => ∃ M4, PutD M3 x y v M4 ∧ D3.nx σ M4)))) : W3s B (sDPut te ty tv) D3 σ M := fun F σv H Dv b hs st im =>
  h F σv H _ b hs st fun F1 M1 v vv H1 e1 st1 rv q1 => q1 F1 σv H1 _ (b.trans e1) (hs.mono e1) st1 fun F2 M2 x xv H2 e2 st2 rx q2 => q2 F2 σv H2 _ (b.trans (e1.trans e2)) (hs.mono (e1.trans e2)) st2 fun F3 M3 y yv H3 e3 st3 ry ⟨M4, g, q⟩ => by
    obtain ⟨a, H', ex, g2, st4⟩ := g.at st3 (rx.mono e3) ry (rv.mono (e2.trans e3))
    exact ⟨a, H', ex, g2, im.nx F3 M4 σ σv H' (e1.trans (e2.trans e3)) (hs.mono (e1.trans (e2.trans e3))) st4 q⟩
/-! ### in, with dicts -/
def rIND (K : PySem.W.Frag) (P : Program) (w : World) (neg : Bool) : R2 := fun x y H Q => rIN K P w neg x y H Q ∨ (∃ a o, y = .ref a ∧ DGet H a x o ∧ Q (.bl (if neg then !o.isSome else o.isSome)) H) ∨ ∃ a kvs, y = .ref a ∧ x = .non ∧ Rd H a (.dK kvs) ∧ Q (.bl neg) H
theorem op_INDK {X : Cx} (K : PySem.W.Frag) (P : Program) (w : World) (h1 : X.K = K) (h2 : X.prog = P) (h3 : X.w = w) (hu : X.A.units + 65 < cLine) : OpR X (compareOp .In) (rIND K P w false) := by
  subst h1; subst h2; subst h3
  intro pins s σ H x y v u Q I rx ry h
  rcases h with h | ⟨a, o, ey, g, q⟩ | ⟨a, kvs, ey, ex, g, q⟩
  · exact op_IN hu pins s σ H x y v u Q I rx ry h
  · subst ey
    obtain rfl : u = Value.ref a := ry
    exact d_in (by omega) I g rx fun s3 I3 => ⟨.bl o.isSome, H, I3, rfl, q⟩
  · subst ey; subst ex
    obtain rfl : u = Value.ref a := ry
    obtain rfl : v = Value.none := rx
    exact d_inNone I g fun s3 I3 => ⟨.bl false, H, I3, rfl, q⟩
theorem op_NINDK {X : Cx} (K : PySem.W.Frag) (P : Program) (w : World) (h1 : X.K = K) (h2 : X.prog = P) (h3 : X.w = w) (hu : X.A.units + 65 < cLine) : OpR X (compareOp .NotIn) (rIND K P w true) := by
  subst h1; subst h2; subst h3
  intro pins s σ H x y v u Q I rx ry h
  rcases h with h | ⟨a, o, ey, g, q⟩ | ⟨a, kvs, ey, ex, g, q⟩
  · exact op_NIN hu pins s σ H x y v u Q I rx ry h
  · subst ey
    obtain rfl : u = Value.ref a := ry
    exact d_notIn (by omega) I g rx fun s3 I3 => ⟨.bl (!o.isSome), H, I3, rfl, q⟩
  · subst ey; subst ex
    obtain rfl : u = Value.ref a := ry
    obtain rfl : v = Value.none := rx
    exact d_notInNone I g fun s3 I3 => ⟨.bl true, H, I3, rfl, q⟩
theorem r3_inL {neg : Bool} {x y : D} (h : R3 B (rIN K P w neg) x y M Q) : R3 B (rIND K P w neg) x y M Q := fun F H xv yv Qv b st rx ry k => .inl (h F H xv yv Qv b st rx ry k)
theorem OptR.isSome {F : Hp} {o : Option D} {ov : Option V} (r : OptR F o ov) : o.isSome = ov.isSome := by
  cases o <;> cases ov <;> first | rfl | exact r.elim
theorem r3_inD {neg : Bool} {x y : D} {o : Option D} (g : GetD M y x o) (q : Q (.bl (if neg then !o.isSome else o.isSome)) M) : R3 B (rIND K P w neg) x y M Q := fun F H xv yv Qv b st rx ry k => by
  obtain ⟨a, ov, ey, g2, r⟩ := g.at st ry rx
  refine .inr (.inl ⟨a, ov, ey, g2, ?_⟩)
  rw [← r.isSome]
  exact k F M (.bl _) _ H (Ex.refl _) st rfl q
theorem r3_inN {neg : Bool} {a : Addr} {kvs : List (Key × D)} (hm : M a = some (.dK kvs)) (q : Q (.bl neg) M) : R3 B (rIND K P w neg) .non (.ref a) M Q := fun F H xv yv Qv b st rx ry k => by
  obtain ⟨_, ho, h1, kv, e, pk⟩ := st.own a _ hm
  subst e
  exact .inr (.inr ⟨a, kv, ry, rx, .inl h1, k F M (.bl neg) _ H (Ex.refl _) st rfl q⟩)
end
end T3
set_option Elab.async false
set_option linter.all false
set_option maxRecDepth 100000
set_option maxHeartbeats 2000000
namespace L2
open PySem PySem.Spec PyProof.Rows
/-! ### methods whose exceptions are looked at where they arise; keywords -/
def tMethT (C : Addr) (m : Str) (sp : Sp) (dvs : List V) (E : St → XK) (ta : TE) (t : TA) : TE := fun σ H Q => ta σ H fun x H1 => ∃ a dx fs, x = .ref a ∧ H1 a = some (.ins C dx fs) ∧ fs.lookup m = none ∧
  t σ H1 fun vs H2 => sp (x :: (vs ++ dvs)) H2 Q (E σ)
def tMethN (C : Addr) (m : Str) (n k : Nat) (sp : Sp) (gV : List V → List V → List V) (E : St → XK) (ta : TE) (t tk : TA) : TE := fun σ H Q => ta σ H fun x H1 => ∃ a dx fs, x = .ref a ∧ H1 a = some (.ins C dx fs) ∧ fs.lookup m = none ∧
  t σ H1 fun vs H2 => tk σ H2 fun zs H3 => vs.length + 1 = n ∧ zs.length = k ∧ sp (gV (x :: vs) zs) H3 Q (E σ)
section
variable {X : Cx} {CX : CXT} {k n : Nat} {C f : Addr} {fd : FuncData} {ps ks : List Str} {sp : Sp} {dvs : List V} {ds : List Value} {E : St → XK} {m : Str} {e o : Expr} {es : List Expr} {kws : List Keyword} {apos pos : Pos} {ta : TE} {t tk : TA}
  {g : List Value → List Value → List Value} {gV : List V → List V → List V}
theorem run_fnT {pins : List (Addr × Obj)} {σ : St} {H : Hp} {s : Shared} {Q : VK} {us : List Value} {vs : List V} (F : FnOk X.prog X.w X.K X.mg X.base CX k f fd ps sp) (hr : Room k X.A) (hb : Binds X.K fd ps ds) (hd : Vals dvs ds) (hx : PassesAt CX X σ (E σ))
    (I : Inv X pins σ H s) (r : Vals vs us) (h : sp (vs ++ dvs) H Q (E σ)) : wpAny (model X.prog X.w) X.A (call (.ref f) us) (EP X pins σ Q) X.xe s := by
  have r2 : Vals (vs ++ dvs) (us ++ ds) := r.append hd
  have hl : (us ++ ds).length = ps.length := by rw [← r2.length]; exact F.len _ _ _ _ h
  refine wpAny_call (codeAny_mono (F.run X.A X.stack s H ⟨us, []⟩ (us ++ ds) (vs ++ dvs) Q (E σ) hr I.env0 (hb s us I.kIn hl) r2 h) fun r s' hq => ?_)
  cases r with
  | error e => exact hx pins H s e s' I hq
  | ok fl =>
    cases fl with
    | ret u => exact I.after hq
    | next => exact False.elim hq
    | brk => exact False.elim hq
    | cont => exact False.elim hq
theorem pe_methT {pl : Sem Bool} (he : PE X o ta) (c : Cls X.K C) (hm : Meth X.K C m f) (F : FnOk X.prog X.w X.K X.mg X.base CX k f fd ps sp) (hr : Room k X.A) (hb : Binds X.K fd ps ds) (hd : Vals dvs ds) (hx : ∀ σ, PassesAt CX X σ (E σ)) (ha : PA X (e :: es) t)
    (hst : starEach (e :: es) X.env = (false, eval e X.env) :: starEach es X.env := by rfl) (hpl : (backTo pos (starEach es X.env)).any (·.1) = false := by rfl)
    (ht : eval (.Call (.Attribute o m apos) (e :: es) [] pos) X.env = (do
      let ov ← eval o X.env
      standAt apos.atName
      let (f, first) ← holding [ov] (getMethod ov m pl)
      callWith pos f first (backTo pos (starEach (e :: es) X.env)) (backToKw pos (keywordEach [] X.env))) := by rfl) :
    PE X (.Call (.Attribute o m apos) (e :: es) [] pos) (tMethT C m sp dvs E ta t) := by
  refine ⟨fun pins s σ H Q I h => ?_⟩
  refine PySem.W.methodCall_KW (pl := pl) (thn (he.run pins s σ H _ I h) fun u s1 ⟨x, H1, I1, rx, a, dx, fs, ex, ea, l, q⟩ => ?_) ht
  subst ex
  obtain rfl : u = Value.ref a := rx
  refine getmeth_ok I1 ea c hm l ?_
  refine PySem.W.callWith_K (first := [.ref a]) (h₀ := X.base) I.ok.mod.kin hm.kp (thn (ha.run pos pins s1 σ H1 _ I1 q) fun us s2 ⟨vs, H2, I2, r, q2⟩ => ⟨I2.kIn, ?_⟩) hst hpl
  exact run_fnT (us := .ref a :: us) (vs := .ref a :: vs) F hr hb hd (hx σ) I2 (.cons rfl r) q2
theorem run_fnNT {pins : List (Addr × Obj)} {σ : St} {H : Hp} {s : Shared} {Q : VK} {us ws : List Value} {vs zs : List V} (F : FnOk X.prog X.w X.K X.mg X.base CX k f fd ps sp) (hr : Room k X.A) (hb : KBn X.K fd ps n ks g gV) (hx : PassesAt CX X σ (E σ))
    (I : Inv X pins σ H s) (r : Vals vs us) (rz : Vals zs ws) (l1 : vs.length = n) (l2 : zs.length = ks.length) (h : sp (gV vs zs) H Q (E σ)) : wpAny (model X.prog X.w) X.A (call (.ref f) us (ks.zip ws)) (EP X pins σ Q) X.xe s := by
  have r2 := hb.rel r rz
  refine wpAny_call (codeAny_mono (F.run X.A X.stack s H ⟨us, ks.zip ws⟩ (g us ws) (gV vs zs) Q (E σ) hr I.env0 (hb.to s us ws I.kIn (r.length.symm.trans l1) (rz.length.symm.trans l2)) r2 h) fun r s' hq => ?_)
  cases r with
  | error e => exact hx pins H s e s' I hq
  | ok fl =>
    cases fl with
    | ret u => exact I.after hq
    | next => exact False.elim hq
    | brk => exact False.elim hq
    | cont => exact False.elim hq
theorem pe_methN {pl : Sem Bool} (he : PE X o ta) (c : Cls X.K C) (hm : Meth X.K C m f) (F : FnOk X.prog X.w X.K X.mg X.base CX k f fd ps sp) (hr : Room k X.A) (hb : KBn X.K fd ps n ks g gV) (hx : ∀ σ, PassesAt CX X σ (E σ)) (ha : PA X (e :: es) t) (hkw : PK X kws tk)
    (hall : (backToKw pos (keywordEach kws X.env)).all (·.1.isSome) = true := by rfl) (hks : (backToKw pos (keywordEach kws X.env)).filterMap (·.1) = ks := by rfl)
    (hst : starEach (e :: es) X.env = (false, eval e X.env) :: starEach es X.env := by rfl) (hpl : ((backTo pos (starEach (e :: es) X.env)).any (·.1) || (backToKw pos (keywordEach kws X.env)).any (·.1.isNone)) = false := by rfl)
    (ht : eval (.Call (.Attribute o m apos) (e :: es) kws pos) X.env = (do
      let ov ← eval o X.env
      standAt apos.atName
      let (f, first) ← holding [ov] (getMethod ov m pl)
      callWith pos f first (backTo pos (starEach (e :: es) X.env)) (backToKw pos (keywordEach kws X.env))) := by rfl) :
    PE X (.Call (.Attribute o m apos) (e :: es) kws pos) (tMethN C m n ks.length sp gV E ta t tk) := by
  refine ⟨fun pins s σ H Q I h => ?_⟩
  refine PySem.W.methodCall_KW (pl := pl) (thn (he.run pins s σ H _ I h) fun u s1 ⟨x, H1, I1, rx, a, dx, fs, ex, ea, l, q⟩ => ?_) ht
  subst ex
  obtain rfl : u = Value.ref a := rx
  refine getmeth_ok I1 ea c hm l ?_
  refine PySem.W.callWith_KW (first := [.ref a]) (h₀ := X.base) I.ok.mod.kin hm.kp hall (thn (ha.run pos pins s1 σ H1 _ I1 q) fun us s2 ⟨vs, H2, I2, r, q2⟩ => ?_) hpl hst
  refine thn (hkw.run pos pins s2 σ H2 _ I2 q2) fun ws s3 ⟨zs, H3, I3, rz, l1, l2, q3⟩ => ⟨I3.kIn, ?_⟩
  rw [hks]
  exact run_fnNT (us := .ref a :: us) (vs := .ref a :: vs) F hr hb (hx σ) I3 (.cons rfl r) rz l1 l2 q3
theorem passes_at {E : XK} (h : Passes CX X E) : ∀ σ, PassesAt CX X σ ((fun _ => E) σ) := fun σ pins H s e s' I c => h pins σ H s e s' I c
end
end L2
namespace T3
open PySem L2
open Evl (Ex)
section
variable {B : Hp} {M : Mem} {K : PySem.W.Frag} {σ : Sig} {t tk : TA} {ta tv te : TE} {Q : DQ} {S : Sp3} {E3 : EQ3} {dds : List D} {dvs : List V} {P : Program} {w : World} {D3 : Ends3}
theorem w_methT {C : Addr} {m : Str} {W : WX} {EW : EW3} (hd : ∀ F, RDs F dds dvs) (hW : ImpW B EW W) (h : W3e B ta σ M (fun x M1 => ∃ fs, InsD M1 x C fs ∧ fs.lookup m = none ∧ W3a B t σ M1 (fun ds M2 => S (x :: (ds ++ dds)) M2 Q (fun C th M' => EW C th σ M')))) : W3e B (tMethT C m (lift3 S) dvs (WE W) ta t) σ M Q := fun F σv H Qv b hs st k =>
  h F σv H _ b hs st fun F1 M1 x xv H1 e1 st1 rx ⟨fs, hi, l, q1⟩ => by
    obtain ⟨a, dx, fv, ev, ha, pk⟩ := hi.at st1 rx
    refine ⟨a, dx, fv, ev, ha, (pkv_look pk).2 l, q1 F1 σv H1 _ (b.trans e1) (hs.mono e1) st1 fun F2 M2 ds vs H2 e2 st2 rs q2 => ?_⟩
    exact ⟨x :: (ds ++ dds), F2, M2, Q, _, ⟨xv, _, rfl, rx.mono e2, rs.append (hd F2)⟩, st2, fun F3 M3 d v H3 e3 => k F3 M3 d v H3 ((e1.trans e2).trans e3),
      fun F' M' C d thing v H' e s r z q' => hW F' M' σ σv C d thing v H' ((b.trans (e1.trans e2)).trans e) ((hs.mono (e1.trans e2)).mono e) s r z q', q2⟩
/-- the keywords' values put in their places, alike for both -/
def Put2 (gV : List V → List V → List V) (gD : List D → List D → List D) : Prop := ∀ F vs ds zs es, RDs F ds vs → RDs F es zs → RDs F (gD ds es) (gV vs zs)
theorem w_methN {C : Addr} {m : Str} {n k' : Nat} {gV : List V → List V → List V} {gD : List D → List D → List D} {W : WX} {EW : EW3} (hg : Put2 gV gD) (hW : ImpW B EW W)
    (h : W3e B ta σ M (fun x M1 => ∃ fs, InsD M1 x C fs ∧ fs.lookup m = none ∧ W3a B t σ M1 (fun ds M2 => W3a B tk σ M2 (fun es M3 => ds.length + 1 = n ∧ es.length = k' ∧ S (gD (x :: ds) es) M3 Q (fun C th M' => EW C th σ M'))))) : W3e B (tMethN C m n k' (lift3 S) gV (WE W) ta t tk) σ M Q := fun F σv H Qv b hs st k =>
  h F σv H _ b hs st fun F1 M1 x xv H1 e1 st1 rx ⟨fs, hi, l, q1⟩ => by
    obtain ⟨a, dx, fv, ev, ha, pk⟩ := hi.at st1 rx
    refine ⟨a, dx, fv, ev, ha, (pkv_look pk).2 l, q1 F1 σv H1 _ (b.trans e1) (hs.mono e1) st1 fun F2 M2 ds vs H2 e2 st2 rs q2 => q2 F2 σv H2 _ (b.trans (e1.trans e2)) (hs.mono (e1.trans e2)) st2 fun F3 M3 es zs H3 e3 st3 rz ⟨l1, l2, q3⟩ => ?_⟩
    refine ⟨by rw [← rs.length]; exact l1, by rw [← rz.length]; exact l2, gD (x :: ds) es, F3, M3, Q, _, hg _ _ _ _ _ ⟨xv, _, rfl, (rx.mono e2).mono e3, rs.mono e3⟩ rz, st3, fun F4 M4 d v H4 e4 => k F4 M4 d v H4 ((e1.trans (e2.trans e3)).trans e4),
      fun F' M' C d thing v H' e s r z q' => hW F' M' σ σv C d thing v H' ((b.trans (e1.trans (e2.trans e3))).trans e) ((hs.mono (e1.trans (e2.trans e3))).mono e) s r z q', q3⟩
/-- a store to a property -/
theorem s_propset {C : Addr} {W : WX} {EW : EW3} (hW : ImpW B EW W) (h : W3e B tv σ M (fun y M1 => W3e B ta σ M1 (fun x M2 => ∃ fs, InsD M2 x C fs ∧ S [x, y] M2 (fun _ M3 => D3.nx σ M3) (fun C th M' => EW C th σ M')))) : W3s B (tPropSet C (lift3 S) (WE W) ta tv) D3 σ M := fun F σv H Dv b hs st im =>
  h F σv H _ b hs st fun F1 M1 y yv H1 e1 st1 ry q1 => q1 F1 σv H1 _ (b.trans e1) (hs.mono e1) st1 fun F2 M2 x xv H2 e2 st2 rx ⟨fs, hi, q2⟩ => by
    obtain ⟨a, dx, fv, ev, ha, pk⟩ := hi.at st2 rx
    refine ⟨a, dx, fv, ev, ha, [x, y], F2, M2, _, _, ?_, st2, fun F3 M3 d v H3 e3 st3 rd q => im.nx F3 M3 σ σv H3 ((e1.trans e2).trans e3) (hs.mono ((e1.trans e2).trans e3)) st3 q,
      fun F' M' C d thing v H' e s r z q' => hW F' M' σ σv C d thing v H' ((b.trans (e1.trans e2)).trans e) ((hs.mono (e1.trans e2)).mono e) s r z q', q2⟩
    rw [← ev]
    exact ⟨xv, _, rfl, rx, _, _, rfl, ry.mono e2, rfl⟩
/-- a constant of a class -/
theorem w_cval {f : Str} {i : Int} {C : Addr} {mc u : Value} (hC : ClX.CRead K C mc) (hv : ClX.CVal K C mc f (.int i) u) (h : W3e B ta σ M (fun x M1 => x = .ref C ∧ Q (.int i) M1)) : W3e B (ClX.tCVal K ta f) σ M Q := fun F σv H Qv b hs st k =>
  h F σv H _ b hs st fun F1 M1 x xv H1 e1 st1 rx ⟨ex, q⟩ => by
    subst ex
    exact ⟨C, mc, .int i, u, rx, hC, hv, k F1 M1 (.int i) _ H1 e1 st1 rfl q⟩
/-- len, of dicts too -/
def rLEND (K : PySem.W.Frag) : List V → Hp → VK → Prop := fun xs H Q => rLEN K xs H Q ∨ ∃ a kvs, xs = [V.ref a] ∧ H a = some (.dK kvs) ∧ Q (.int kvs.length) H
theorem call_lenDK {X : Cx} (K : PySem.W.Frag) (h : X.K = K) : CallR X (.builtin "len") (rLEND K) := by
  subst h
  intro pins s σ H xs us Q I r h
  rcases h with h | h
  · exact call_len pins s σ H xs us Q I r h
  · exact call_lenD pins s σ H xs us Q I r h
theorem c3_lenL {x : D} (h : C3 B (rLEN K) [x] M Q) : C3 B (rLEND K) [x] M Q := fun F H xv Qv b st rx k => .inl (h F H xv Qv b st rx k)
theorem c3_lenD {a : Addr} {kvs : List (Key × D)} (hm : M a = some (.dK kvs)) (q : Q (.int kvs.length) M) : C3 B (rLEND K) [.ref a] M Q := fun F H xv Qv b st rx k => by
  obtain ⟨v, e, r⟩ := rx.sing
  obtain ⟨_, ho, h1, kv, e2, pk⟩ := st.own a _ hm
  subst e2
  exact .inr ⟨a, kv, by rw [e, show v = V.ref a from r], h1, by rw [← pkv_length pk]; exact k F M (.int _) _ H (Ex.refl _) st rfl q⟩
/-- over a text -/
def signs (z : Str) : List D := z.cps.toList.map fun c => D.str ⟨#[c]⟩
theorem i_str {Q : List D → (Mem → Prop) → Mem → Prop} (h : W3e B te σ M (fun x M1 => ∃ z, x = .str z ∧ Q (signs z) (fun _ => True) M1)) : W3i B (iStr te) σ M Q := fun F σv H R b hs st k =>
  h F σv H _ b hs st fun F1 M1 x xv H1 e1 st1 rx ⟨z, ex, q⟩ => by
    subst ex
    refine ⟨z, rx, k F1 M1 (Its z) (signs z) _ H1 e1 st1 ⟨fun _ => True, _, WD.len (F := F1) (vs := []) walk_str (by unfold signs; rw [List.length_map, Array.length_toList]), fun _ _ _ _ _ _ => trivial, ?_, fun _ _ _ _ _ => trivial⟩ q⟩
    intro i d x H' H'' F' M' hd e s _ y
    obtain ⟨y1, c, hc, ev⟩ := y
    subst y1
    refine ⟨F', Ex.refl _, s, ?_⟩
    unfold signs at hd
    rw [List.getElem?_map] at hd
    obtain ⟨c', h1, h2⟩ := Option.map_eq_some_iff.mp hd
    rw [Array.getElem?_toList, hc] at h1
    cases h1
    subst h2
    exact ev
/-- list(d.items()) -/
theorem w_items (h : W3e B te σ M (fun x M1 => ∃ a kvs, x = .ref a ∧ M1 a = some (.dK kvs) ∧ Q (.lst (kvs.map fun p => .tup [kD p.1, p.2])) M1)) : W3e B (LiI.tListItems te) σ M Q := fun F σv H Qv b hs st k =>
  h F σv H _ b hs st fun F1 M1 x xv H1 e1 st1 rx ⟨a, kvs, ex, hm, q⟩ => by
    subst ex
    obtain ⟨_, ho, h1, kv, e2, pk⟩ := st1.own a _ hm
    subst e2
    refine ⟨a, kv, rx, h1, fun H' p ts ext np nts pts hp hpair => ?_⟩
    -- the frozen heap with the new list and its pairs
    let F2 : Hp := fun c => if c = p ∨ c ∈ ts then H' c else F1 c
    have hF1 : ∀ c, F1 c ≠ none → ¬ (c = p ∨ c ∈ ts) := fun c hc hh => by
      cases hf : F1 c with
      | none => exact hc hf
      | some o =>
        have := st1.fz c o hf
        rcases hh with rfl | hh
        · rw [np] at this; cases this
        · rw [nts c hh] at this; cases this
    have e12 : Ex F1 F2 := fun c o hc => by
      show (if c = p ∨ c ∈ ts then H' c else F1 c) = some o
      rw [if_neg (hF1 c (by rw [hc]; exact Option.some_ne_none o)), hc]
    have st2 : St3 F2 M1 H' := by
      refine ⟨fun c o hc => ?_, fun c o hc => ?_⟩
      · have hc : (if c = p ∨ c ∈ ts then H' c else F1 c) = some o := hc
        split at hc
        · exact hc
        · exact ext c o (st1.fz c o hc)
      · obtain ⟨hn, ho, hh, r⟩ := st1.own c o hc
        refine ⟨?_, ho, ext c ho hh, r.mono e12⟩
        show (if c = p ∨ c ∈ ts then H' c else F1 c) = none
        rw [if_neg, hn]
        rintro (rfl | hm)
        · rw [np] at hh; cases hh
        · rw [nts c hm] at hh; cases hh
    have key : ∀ (kvs : List (Key × D)) (kv : List (Key × V)) (us : List Addr), PKV F1 kvs kv → Paired (fun (t : Addr) (q : Key × V) => H' t = some (.tup [kV q.1, q.2])) us kv → (∀ t ∈ us, t ∈ ts) → RDs F2 (kvs.map fun p => .tup [kD p.1, p.2]) (us.map V.ref) := by
      intro kvs
      induction kvs with
      | nil =>
        intro kv us pk pr _
        cases pk; cases pr; rfl
      | cons x kvs ih =>
        intro kv us pk pr hin
        match kv, us, pk, pr with
        | y :: kv, u :: us, .cons hx pk, .cons hy pr =>
            refine ⟨.ref u, us.map V.ref, rfl, ⟨u, [kV y.1, y.2], rfl, ?_, ⟨kV y.1, [y.2], rfl, ?_, ⟨y.2, [], rfl, hx.2.mono e12, rfl⟩⟩⟩, ih _ _ pk pr fun t ht => hin t (List.mem_cons_of_mem _ ht)⟩
            · show (if u = p ∨ u ∈ ts then H' u else F1 u) = _
              rw [if_pos (.inr (hin _ (List.mem_cons_self ..)))]
              exact hy
            · have e := hx.1
              rw [← e]
              cases x.1 <;> rfl
    refine k F2 M1 (.lst (kvs.map fun p => .tup [kD p.1, p.2])) (.ref p) H' (e1.trans e12) st2 ⟨p, ts.map V.ref, rfl, ?_, key _ _ _ pk hpair fun _ h => h⟩ q
    show (if p = p ∨ p ∈ ts then H' p else F1 p) = _
    rw [if_pos (.inl rfl)]
    exact hp
end
end T3
namespace T3
open PySem L2
theorem pe_fldK {X : Cx} {e : Expr} {ta : TE} {f : Str} {pos : Pos} (K : PySem.W.Frag) (h : X.K = K) (he : PE X e ta) (hb : attributeBase e f X.env (eval e X.env) = eval e X.env := by rfl) : PE X (.Attribute e f pos) (tFld K ta f) := by subst h; exact pe_fld he hb
theorem pe_cvalK {X : Cx} {e : Expr} {ta : TE} {f : Str} {pos : Pos} (K : PySem.W.Frag) (h : X.K = K) (he : PE X e ta) (hb : attributeBase e f X.env (eval e X.env) = eval e X.env := by rfl) : PE X (.Attribute e f pos) (ClX.tCVal K ta f) := by subst h; exact ClX.pe_cval he hb
end T3
set_option Elab.async false
set_option linter.all false
namespace T3
open PySem L2
open Evl (Ex)
section
variable {B : Hp} {M : Mem} {σ : Sig} {ta : TA} {Q : List D → (Mem → Prop) → Mem → Prop}
theorem i_rng3 (h : W3a B ta σ M (fun xs M1 => ∃ (i j c : Int) (n : Nat), xs = [.int i, .int j, .int c] ∧ RgC i j c n ∧ Q ((List.range n).map fun (k : Nat) => D.int (i + (k : Nat) * c)) (fun _ => True) M1)) : W3i B (iRng3 ta) σ M Q := fun F σv H R b hs st k =>
  h F σv H _ b hs st fun F1 M1 xs xv H1 e1 st1 rx ⟨i, j, c, n, ex, hr, q⟩ => by
    subst ex
    obtain ⟨v1, vs1, e, r1, v2, vs2, e', r2, v3, vs3, e'', r3, r4⟩ := rx
    subst e; subst e'; subst e''
    rw [show v1 = V.int i from r1, show v2 = V.int j from r2, show v3 = V.int c from r3, show vs3 = [] from r4]
    refine ⟨i, j, c, n, rfl, hr, k F1 M1 _ _ _ H1 e1 st1 ⟨fun _ => True, _, WD.len (F := F1) (ds := (List.range n).map fun (k : Nat) => D.int (i + (k : Nat) * c)) (vs := []) walk_rangeC (by simp), fun _ _ _ _ _ _ => trivial, ?_, fun _ _ _ _ z => z⟩ q⟩
    intro i' d x H' H'' F' M' hd e s _ ⟨y1, y2⟩
    subst y1
    refine ⟨F', Ex.refl _, s, ?_⟩
    rw [List.getElem?_map] at hd
    obtain ⟨k', h1, h2⟩ := Option.map_eq_some_iff.mp hd
    rw [List.getElem?_range (by have := (List.getElem?_eq_some_iff.mp h1).1; simpa using this)] at h1
    cases h1
    rw [← h2, y2]
    rfl
end
end T3
set_option Elab.async false
set_option linter.all false
namespace T3
open PySem L2
open Evl (Ex)
/-- slices of lists, texts and tuples -/
def rSLT (K : PySem.W.Frag) : V → Option Int → Option Int → Hp → VK → Prop := fun x lo hi H Q => rSL K x lo hi H Q ∨ rSlT K x lo hi H Q
theorem sl_SLTK {X : Cx} (K : PySem.W.Frag) (h : X.K = K) : SlR X (rSLT K) := by subst h; exact sl_SL.or sl_tup
section
variable {B : Hp} {M : Mem} {K : PySem.W.Frag} {σ : Sig} {te : TE} {Q : DQ} {ds : List D}
theorem s3_L {lo hi : Option Int} {x : D} (h : S3 B (rSL K) x lo hi M Q) : S3 B (rSLT K) x lo hi M Q := fun F H xv Qv b st rx k => .inl (h F H xv Qv b st rx k)
theorem s3_t {lo hi : Option Int} (hne : ¬ (HT.sIx ds.length 0 lo = 0 ∧ HT.sIx ds.length ds.length hi = ds.length)) (q : Q (.tup (cutD ds lo hi)) M) : S3 B (rSLT K) (.tup ds) lo hi M Q := fun F H xv Qv b st rx k => by
  obtain ⟨a, vs, e, h1, r⟩ := rx
  refine .inr ⟨a, vs, e, .inl (.inl (st.fz a _ h1)), by rw [← r.length]; exact hne, fun p hp => ?_⟩
  obtain ⟨s2, e2⟩ := st.new (o := .tup (cutV vs lo hi)) hp
  exact k _ _ (.tup (cutD ds lo hi)) _ _ e2 s2 ⟨p, _, rfl, upd_same, (r.cut lo hi).mono e2⟩ q
theorem i_tup {Q : List D → (Mem → Prop) → Mem → Prop} (h : W3e B te σ M (fun x M1 => ∃ ds, x = .tup ds ∧ Q ds (fun _ => True) M1)) : W3i B (iTup K te) σ M Q := fun F σv H R b hs st k =>
  h F σv H _ b hs st fun F1 M1 x xv H1 e1 st1 rx ⟨ds, ex, q⟩ => by
    subst ex
    obtain ⟨a, vs, ev, hf, rs⟩ := rx
    refine ⟨a, ev, ⟨vs, .inl (.inl (st1.fz a _ hf))⟩, k F1 M1 (Itt K a) ds _ H1 e1 st1 ⟨fun H => SqT K H a vs, YAt vs, WD.len (F := F1) (vs := vs) walk_tup rs.length.symm, ?_, ?_, fun _ _ _ _ z => z⟩ q⟩
    · intro F' M' H' e s _
      exact .inl (.inl (s.fz a _ (e a _ hf)))
    · intro i d x H' H'' F' M' hd e s _ y
      obtain ⟨y1, y2⟩ := y
      subst y1
      obtain ⟨v, hv, rv⟩ := rs.at hd
      rw [y2] at hv; cases hv
      exact ⟨F', Ex.refl _, s, rv.mono e⟩
end
end T3
set_option Elab.async false
set_option linter.all false
namespace T3
open PySem L2
open Evl (Ex)
section
variable {B : Hp} {M : Mem} {σ : Sig} {te : TE} {D3 : Ends3}
/-- x += e, whole numbers -/
theorem s_augI {i : Nat} {a : Int} (hx : σ[i]? = some (some (.int a))) (h : W3e B te σ M (fun y M1 => ∃ b : Int, y = .int b ∧ D3.nx (σ.set i (some (.int (a + b)))) M1)) : W3s B (tAug i te (ipI fun i j => i + j)) D3 σ M := fun F σv H Dv b hs st im => by
  obtain ⟨v, hv, rv⟩ := hs.2 i _ hx
  refine ⟨v, hv, h F σv H _ b hs st fun F1 M1 y yv H1 e1 st1 ry ⟨c, ey, q⟩ => ?_⟩
  subst ey
  refine ⟨a, c, rv, ry, ?_⟩
  exact im.nx F1 M1 _ _ H1 e1 ((hs.mono e1).set (d := .int (a + c)) (v := .int (a + c)) rfl) st1 q
end
end T3
set_option Elab.async false
set_option linter.all false
set_option maxRecDepth 100000
set_option maxHeartbeats 2000000
namespace L2
open PySem PySem.Spec PyProof.Rows ItX
/-! ### a def whose promise knows how large the heap was (for what it makes anew) -/
structure FnN (P : Program) (w : World) (K : PySem.W.Frag) (mg : Str → Option Value) (base : Heap) (CX : CXT) (k : Nat) (f : Addr) (fd : FuncData) (ps : List Str) (sp : Nat → Sp) : Prop where
  len : ∀ n vs H Q E, sp n vs H Q E → vs.length = ps.length
  run : ∀ (A : Around) (outer : List Env) (s : Shared) (H : Hp) (args : Args) (us : List Value) (vs : List V) (Q : VK) (E : XK), Room k A → Env0 P w K mg base A outer s H → BindsTo s fd args (ps.zip us) → Vals vs us →
    sp s.heap.objs.size vs H Q E → codeAny (model P w) A (.call (.ref f) args) (CR CX outer P w H s Q E) s
section
variable {X : Cx} {CX : CXT} {k : Nat} {C f : Addr} {fd : FuncData} {ps : List Str} {sp : Nat → Sp} {E : XK} {e tg : Expr} {te : TE}
def iOwn (K : PySem.W.Frag) (C : Addr) (sp : Nat → Sp) (E : XK) (te : TE) : TI := fun σ H R => te σ H fun x H1 => ∃ (a dx : Addr) (fs : List (Str × V)), x = V.ref a ∧ H1 a = some (.ins C dx fs) ∧
  ∀ n, sp n [.ref a] H1 (fun v H2 => ∃ (it l : Addr), v = V.ref it ∧ H2 it = some (ItO l it 0) ∧ n ≤ it ∧ R (ItlF K l 0) (dropH H2 it)) E
theorem pi_own (he : PE X e te) (hs : PySem.W.findIn X.K (.ref C) "__iter__" = some (some (.ref f))) (hf : PySem.W.isFn X.K (.ref f) = true) (F : FnN X.prog X.w X.K X.mg X.base CX k f fd ps sp) (hr : Room k X.A) (hb : Binds X.K fd ps []) (hx : Passes CX X E) :
    PI X tg e (iOwn X.K C sp E te) := by
  refine ⟨fun pins s σ H R I h => ?_⟩
  refine thn (he.run pins s σ H _ I h) fun u s1 ⟨x, H1, I1, rx, a, dx, fs, ex, ea, q⟩ => ?_
  subst ex
  obtain rfl : u = Value.ref a := rx
  obtain ⟨mA, O, _, _, _, _⟩ := ins_get I1.hok ea
  obtain ⟨od, J, _⟩ := O.look
  have KX := I1.kIn
  have q1 := q s1.heap.objs.size
  have hl : [Value.ref a].length = ps.length := by rw [← F.len _ _ _ _ _ q1]; rfl
  have b := hb s1 [.ref a] KX (by rw [List.append_nil]; exact hl)
  rw [List.append_nil] at b
  unfold pyIter
  refine wpAny_bind (wpAny_bind (J.type.here ((PySem.W.looks_findIn KX hs).here ?_)))
  dsimp only
  refine wpAny_bind ?_
  have call_ : wpAny (model X.prog X.w) X.A (call (.ref f) [.ref a]) (EP X pins σ (fun v H2 => ∃ (it l : Addr), v = V.ref it ∧ H2 it = some (ItO l it 0) ∧ s1.heap.objs.size ≤ it ∧ R (ItlF X.K l 0) (dropH H2 it))) X.xe s1 := by
    refine wpAny_call (codeAny_mono (F.run X.A X.stack s1 H1 ⟨[.ref a], []⟩ [.ref a] [.ref a] _ E hr I1.env0 b (.cons rfl .nil) q1) fun r s' hq => ?_)
    cases r with
    | error e => exact hx pins σ H1 s1 e s' I1 hq
    | ok fl =>
      cases fl with
      | ret u => exact I1.after hq
      | next => exact False.elim hq
      | brk => exact False.elim hq
      | cont => exact False.elim hq
  have tail : ∀ (v : Value) (s2 : Shared) (k : Option Value → Sem Value), (∀ r, k (some r) = pure v) → EP X pins σ (fun v H2 => ∃ (it l : Addr), v = V.ref it ∧ H2 it = some (ItO l it 0) ∧ s1.heap.objs.size ≤ it ∧ R (ItlF X.K l 0) (dropH H2 it)) v s2 →
      wpAny (model X.prog X.w) X.A (specialOf v "__next__" >>= k) (PIE X pins σ tg R) X.xe s2 := by
    rintro v s2 k hk ⟨y, H2, I2, ry, it, l, ey, hi, hn, hR⟩
    subst ey
    obtain rfl : v = Value.ref it := ry
    have eo := itO_get I2 hi
    have st : s2.heap.IsListIter it l (0 + 0) := ⟨_, eo, rfl, rfl⟩
    have hi' := hi
    unfold ItO at hi'
    refine wpAny_bind (wpAny_specialOf st.typeIs slot_listiter_next.lookup ?_)
    rw [hk]
    refine wpAny_pure ?_
    refine ⟨it, [it], _, _, dropH H2 it, rfl, inv_drop I2 hi', turn_listF l it 0, st, fun b hb => ?_, hR⟩
    have e : b = it := by simpa using hb
    rw [e]
    exact inv_fp I2 hi (Nat.le_trans I1.sz hn)
  unfold callSpecialIfBoundUnlessNone?
  refine wpAny_holding ?_
  simp only [bindSpecialIfBound?]
  refine wpAny_bind (wpAny_bind (wpAny_bind (J.type.here ((PySem.W.looks_findIn KX hs).here ?_))))
  refine wpAny_bind (wpAny_askSetting (wpAny_ite ?_))
  split
  · refine wpAny_bind ((PySem.W.bind_fn KX _ (beq_iff_eq.mp hf)).here (wpAny_pure ?_))
    dsimp only
    rw [if_neg (by simp)]
    exact wpAny_bind (wpAny_mono call_ (fun v s2 hv => wpAny_pure (tail v s2 _ (fun _ => rfl) hv)) fun _ _ z => z)
  · refine wpAny_tryCatch (wpAny_bind ((PySem.W.bind_fn KX _ (beq_iff_eq.mp hf)).here (wpAny_pure ?_)))
    dsimp only
    rw [if_neg (by simp)]
    exact wpAny_bind (wpAny_mono call_ (fun v s2 hv => wpAny_pure (tail v s2 _ (fun _ => rfl) hv)) fun _ _ z => z)
end
end L2
namespace L2
open PySem PySem.Spec PyProof.Rows ItX
/-- such a def by its body: the promise is asked at the size that stands when the body begins -/
theorem fn_ofN {CX : CXT} {P : Program} {w : World} {K : PySem.W.Frag} {mg : Str → Option Value} {base : Heap} {k : Nat} {f : Addr} {name qual : Str} {pars : Arguments} {bd : List Stmt} {scp : Scope} {dV kV doc pm cdv ct oc : Value} {an od : Option Addr}
    {osl : Array (Option Value)} {N ps : List Str} {sp : Nat → Sp} (look : K.lookup f = some ⟨oc, od, .func (PySem.W.fnOf name qual pars bd scp dV kV doc pm an cdv ct), osl⟩) (code : PySem.W.codeIn K cdv qual = true) (S : FnScope N ps scp)
    (ln : ∀ n vs H Q E, sp n vs H Q E → vs.length = ps.length)
    (bdy : ∀ (A : Around) (outer : List Env) (s : Shared) (H : Hp) (vs : List V) (Q : VK) (E : XK), Room k (A.deeper (envOfC qual scp s.heap.objs.size f cdv)) → sp s.heap.objs.size vs H Q E →
      ∃ t, PSs (cxOf CX P w K mg base N qual scp f cdv A outer s H E) bd t ∧ t { nx := fun _ H2 => Q .non H2, rt := Q } (start N vs) H) :
    FnN P w K mg base CX (k + 1) f (PySem.W.fnOf name qual pars bd scp dV kV doc pm an cdv ct) ps sp := by
  refine ⟨ln, fun A outer s H args us vs Q E room env bind rel prom => ?_⟩
  have same_ := ln _ _ _ _ _ prom
  have inK : K.In s.heap := env.mod.kin.keeps fun b o e => (env.bs b o e).1
  have noLim : s.heap.NoLimit := env.mod.nolimit.keeps fun b o e => (env.bs b o e).1
  have kinds_ : ∀ y ∈ ps.zip us, scp.names.lookup y.1 = some .local ∨ (scp.names.lookup y.1 = some .cell ∧ ((cellsFrom (s.heap.objs.size + 1) scp.names []).lookup y.1).isSome = true) := fun ⟨n, v⟩ hy => by
    rcases S.par n (List.of_mem_zip hy).1 with z | z
    · exact .inl z
    · exact .inr ⟨z, PySem.W.cellsFrom_some _ _ _ (.inl z)⟩
  refine codeAny_call_function room.depth (inK _ _ look) rfl S.co S.gen rfl (PySem.W.codeRec_of inK code) (bind _ _ _ _ ?_)
  refine wpAny_newFunctionEnv_cells S.kind kinds_ fun env2 he2 s1 x => ?_
  subst he2
  refine ⟨noLim.keeps x.toInCall.keep, codeAny_func ?_⟩
  obtain ⟨t, ht, hq⟩ := bdy A outer s H vs Q E (room.deeper _) prom
  have I : Inv (cxOf CX P w K mg base N qual scp f cdv A outer s H E) [] (start N vs) H s1 := inv_start S room.hd env same_ rel x
  refine wpAny_mono (ht.run [] s1 (start N vs) H _ I hq) (fun fl s2 out => ?_) fun _ _ out => out
  have close_ : ∀ {σ2 : St} {H2 : Hp} {v : V} {u : Value}, Inv (cxOf CX P w K mg base N qual scp f cdv A outer s H E) [] σ2 H2 s2 → RelV v u → Q v H2 → CE outer P w H s Q u s2 :=
    fun {σ2 H2 v u} J rv q => ⟨v, H2, J.os, J.bare, J.base, J.hok, rv, q⟩
  cases fl with
  | ret u =>
    obtain ⟨v, σ2, H2, J, rv, q⟩ := out
    exact close_ J rv q
  | next =>
    obtain ⟨σ2, H2, J, q⟩ := out
    exact close_ (v := V.non) (u := Value.none) J rfl q
  | brk =>
    rcases out with ⟨_, _, _, z⟩
    exact z.elim
  | cont =>
    rcases out with ⟨_, _, _, z⟩
    exact z.elim
theorem Fun.okN {P : Program} {w : World} {K : PySem.W.Frag} {mg : Str → Option Value} {base : Heap} {x qual : Str} {st : Stmt} {f : Addr} {fd : FuncData} {N ps : List Str} {k : Nat} {sp : Nat → Sp} (F : Fun K x qual st f fd) (S : FnScope N ps (defScope st)) (ln : ∀ n vs H Q E, sp n vs H Q E → vs.length = ps.length)
    (bdy : ∀ (cdv : Value) (A : Around) (outer : List Env) (s : Shared) (H : Hp) (vs : List V) (Q : VK) (E : XK), Room k (A.deeper (envOfC qual (defScope st) s.heap.objs.size f cdv)) → sp s.heap.objs.size vs H Q E →
      ∃ t, PSs (cxOf CX0 P w K mg base N qual (defScope st) f cdv A outer s H E).nox (defBody st) t ∧ t { nx := fun _ H2 => Q .non H2, rt := Q } (start N vs) H) : FnN P w K mg base CX0 (k + 1) f fd ps sp := by
  obtain ⟨oc, od, kV, doc, pm, an, cdv, ct, osl, rfl, lk, hcd⟩ := F.ex
  refine fn_ofN lk hcd S ln fun A outer s H vs Q E hr hsp => ?_
  obtain ⟨t, h, q⟩ := bdy cdv A outer s H vs Q E hr hsp
  exact ⟨t, h.nox, q⟩
end L2
set_option Elab.async false
set_option linter.all false
namespace T3
open PySem L2
open ItX
open Evl (Ex)
/-- what an __iter__ that hands out iter(self.f) promises, f a field with a list -/
def spIt (K : PySem.W.Frag) (C : Addr) (f : Str) : Nat → Sp := fun n vs H Q _ => ∃ (a dx : Addr) (fs : List (Str × V)) (l : Addr) (zs : List V), vs = [V.ref a] ∧ H a = some (.ins C dx fs) ∧ fs.lookup f = some (V.ref l) ∧ SqL K H l zs ∧
  ∀ it, H it = none → n ≤ it → Q (.ref it) (upd H it (ItO l it 0))
theorem itlF0 {K : PySem.W.Frag} {l : Addr} : ItlF K l 0 = Itl K l := by
  unfold ItlF
  simp only [Nat.zero_add]
section
variable {B : Hp} {M : Mem} {K : PySem.W.Frag} {σ : Sig} {te : TE} {Q : List D → (Mem → Prop) → Mem → Prop}
/-- walking an own instance whose __iter__ hands out its list's iterator -/
theorem i_own {C : Addr} {f : Str} {E : XK} (h : W3e B te σ M (fun x M1 => ∃ b fs l ds, x = .ref b ∧ M1 b = some (.ins C fs) ∧ fs.lookup f = some (.ref l) ∧ M1 l = some (.lst ds) ∧ Q ds (fun M => M l = some (.lst ds)) M1)) : W3i B (iOwn K C (spIt K C f) E te) σ M Q := fun F σv H R b hs st k =>
  h F σv H _ b hs st fun F1 M1 x xv H1 e1 st1 rx ⟨bb, fs, a, ds, ex, hb, hf, hm, q⟩ => by
    subst ex
    obtain ⟨_, ho0, h0, dx, fv, e0, pk⟩ := st1.own bb _ hb
    subst e0
    obtain ⟨v0, hv0, rv0⟩ := (pkv_look (f := f) pk).1 hf
    have rv0 : v0 = V.ref a := rv0
    subst rv0
    obtain ⟨_, ho, h1, vs, e2, rs⟩ := st1.own a _ hm
    subst e2
    refine ⟨bb, dx, fv, rx, h0, fun n => ⟨bb, dx, fv, a, vs, rfl, h0, hv0, .inl (.inl h1), fun it hit hn => ⟨it, a, rfl, upd_same, hn, ?_⟩⟩⟩
    rw [dropH_upd hit, itlF0]
    refine k F1 M1 (Itl K a) ds _ H1 e1 st1 ⟨fun H => ∃ us, SqL K H a us ∧ us.length = vs.length, fun i H x H' => H' = H ∧ ∀ us, SqL K H a us → us[i]? = some x, ?_, ?_, ?_, ?_⟩ q
    · rw [rs.length]
      exact ⟨fun i H hi ⟨us, g, hl⟩ => ⟨us, us[i], g, by simp [hl, hi]⟩, fun H ⟨us, g, hl⟩ => ⟨us, g, Nat.le_of_eq hl⟩, fun i H x H' hi g y => y⟩
    · intro F' M' H' e s p
      obtain ⟨_, ho, h1', us, e2, rs'⟩ := s.own a _ p
      subst e2
      exact ⟨us, .inl (.inl h1'), by rw [← rs'.length, rs.length]⟩
    · intro i d x H' H'' F' M' hd e s p ⟨y1, y2⟩
      subst y1
      obtain ⟨f0, ho, h1', us', e2, rs'⟩ := s.own a _ p
      subst e2
      obtain ⟨v, hv, rv⟩ := rs'.at hd
      rw [y2 us' (.inl (.inl h1'))] at hv; cases hv
      exact ⟨F', Ex.refl _, s, rv⟩
    · intro M' p o hp hm'
      show mput M' p o a = _
      rw [mput_ne (mne hm' hp)]; exact hm'
end
end T3
set_option Elab.async false
set_option linter.all false
set_option maxRecDepth 100000
set_option maxHeartbeats 2000000
namespace L2
open PySem PySem.Spec PyProof.Rows ItX
/-- list(o) of an own instance whose __iter__ hands out iter(self.f) and whose __len__ is len(self.f) -/
def spLen (C : Addr) (f : Str) : Sp := fun vs H Q _ => ∃ (a dx : Addr) (fs : List (Str × V)) (l : Addr) (zs : List V), vs = [V.ref a] ∧ H a = some (.ins C dx fs) ∧ fs.lookup f = some (V.ref l) ∧ H l = some (.lst zs) ∧ Q (.int zs.length) H
def rLO (C : Addr) (f : Str) : List V → Hp → VK → Prop := fun xs H Q => ∃ (a dx : Addr) (fs : List (Str × V)) (l : Addr) (zs : List V), xs = [V.ref a] ∧ H a = some (.ins C dx fs) ∧ fs.lookup f = some (V.ref l) ∧ H l = some (.lst zs) ∧
  ∀ q, H q = none → Q (.ref q) (upd H q (.lst zs))
section
variable {X : Cx} {pins : List (Addr × Obj)} {σ : St} {H : Hp} {s : Shared} {C f fi fl l q it : Addr} {fdI fdL : FuncData} {psI psL : List Str} {g : Str} {n : Nat} {A1 : Around} {Rs : Result → Shared → Prop}
theorem lo_loop (sb : Sub X n A1.in1) (hc : A1.in1.handled = none) (hql : q ≠ l) (hqi : q ≠ it) {zs : List V} (hdone : ∀ s, Inv X pins σ (upd H q (.lst zs)) s → Rs (.ok (.ret .none)) s) (hl : H l = some (.lst zs)) (hf : FpOk X pins H it) :
    ∀ (k i : Nat) (s : Shared), i + k = zs.length → Inv X pins σ (upd H q (.lst (zs.take i))) s → s.heap.IsListIter it l i → codeAny (model X.prog X.w) A1 (.builtin "list.extend.loop" ⟨[.ref q, .ref it, .none], []⟩) Rs s := by
  obtain ⟨f0, f1, f2, f3, f4, f5⟩ := hf
  intro k
  induction k with
  | zero =>
    intro i s hk I st
    have hl' : upd H q (.lst (zs.take i)) l = some (.lst zs) := by rw [upd_ne (Ne.symm hql)]; exact hl
    have f0' : upd H q (.lst (zs.take i)) it = none := by rw [upd_ne (Ne.symm hqi)]; exact f0
    refine codeAny_builtin PySem.F.entry_extend_loop ?_
    rw [Around.under_plainId PySem.F.plain_extend_loop _]
    show wpAny _ A1.in1 (pyNext (.ref it) >>= _) _ _ s
    obtain ⟨_, its, c, rv, hlen, e⟩ := I.lstM hl'
    refine wpAny_bind (wpAny_pyNext_list_end hc st (PySem.IsL.isList e) (by simp; omega) fun h' eb => ?_)
    have I1 := I.turned (t' := s.toks) (fun b o hb e => eb b o hb e) f0' f1 f3 f4 f5
    rw [List.take_of_length_le (by omega)] at I1
    exact wpAny_pure (hdone _ I1)
  | succ k ih =>
    intro i s hk I st
    have hl' : upd H q (.lst (zs.take i)) l = some (.lst zs) := by rw [upd_ne (Ne.symm hql)]; exact hl
    have f0' : upd H q (.lst (zs.take i)) it = none := by rw [upd_ne (Ne.symm hqi)]; exact f0
    refine codeAny_builtin PySem.F.entry_extend_loop ?_
    rw [Around.under_plainId PySem.F.plain_extend_loop _]
    show wpAny _ A1.in1 (pyNext (.ref it) >>= _) _ _ s
    obtain ⟨hsz, its, c, rv, hlen, e⟩ := I.lstM hl'
    obtain ⟨x, hx⟩ : ∃ x, zs[i]? = some x := ⟨zs[i], List.getElem?_eq_getElem (by omega)⟩
    obtain ⟨u, hu, ru⟩ := rv.get hx
    refine wpAny_bind (wpAny_pyNext_list_item st (PySem.IsL.isList e) (x := u) (by simpa using hu) fun h' st' sb' => ?_)
    have I1 : Inv X pins σ (upd H q (.lst (zs.take i))) { s with heap := h' } := I.turned (t' := s.toks) (fun b o hb e => (sb'.2 b hb).trans e) f0' f1 f3 f4 f5
    show wpAny _ A1.in1 (updateSeq q (·.push u) >>= _) _ _ _
    obtain ⟨hs3, its3, k3, r3, hl3, e3⟩ := I1.lstM upd_same
    have h3 : its3.length = i := by rw [← hl3, List.length_take]; omega
    refine wpAny_bind (wpAny_updateSeq e3 rfl (wpAny_pure ⟨plainId_quiet PySem.F.plain_extend_loop _, ?_⟩) (by rw [List.size_toArray]; omega) (by show (its3.toArray.push u).size ≤ sizeLine + 1; rw [Array.size_push, List.size_toArray]; omega))
    have I2 := I1.lset (f := (·.push u)) (its' := its3 ++ [u]) (t' := s.toks) (ys := zs.take i ++ [x]) upd_same e3 (by simp) (r3.append (.cons ru .nil)) (by rw [List.length_append, List.length_singleton, List.length_take]; omega)
    rw [upd_upd] at I2
    have ht : zs.take i ++ [x] = zs.take (i + 1) := by
      rw [List.take_add_one, hx]; rfl
    rw [ht] at I2
    exact ih (i + 1) _ (by omega) I2 (st'.at fun o e => (Heap.get?_update_other _ _ hqi).trans e)
theorem own_iter {a dx : Addr} {fs : List (Str × V)} {sp : Nat → Sp} {E : XK} {R : Addr → Addr → Hp → Prop} {Q : Value → Shared → Prop} {EE : Value → Shared → Prop} (sb : Sub X n A1) (hs : PySem.W.findIn X.K (.ref C) "__iter__" = some (some (.ref fi))) (hf : PySem.W.isFn X.K (.ref fi) = true)
    (F : FnN X.prog X.w X.K X.mg X.base CX0 n fi fdI psI sp) (hb : Binds X.K fdI psI []) (I1 : Inv X pins σ H s) (ea : H a = some (.ins C dx fs))
    (q1 : sp s.heap.objs.size [.ref a] H (fun v H2 => ∃ (it l : Addr), v = V.ref it ∧ H2 it = some (ItO l it 0) ∧ s.heap.objs.size ≤ it ∧ R it l H2) E)
    (k : ∀ it l H2 s2, Inv X pins σ H2 s2 → H2 it = some (ItO l it 0) → s.heap.objs.size ≤ it → R it l H2 → Q (.ref it) s2) : wpAny (model X.prog X.w) A1 (pyIter (.ref a)) Q EE s := by
  obtain ⟨mA, O, _, _, _, _⟩ := ins_get I1.hok ea
  obtain ⟨od, J, _⟩ := O.look
  have KX := I1.kIn
  have hl : [Value.ref a].length = psI.length := by rw [← F.len _ _ _ _ _ q1]; rfl
  have b := hb s [.ref a] KX (by rw [List.append_nil]; exact hl)
  rw [List.append_nil] at b
  have e0 : Env0 X.prog X.w X.K X.mg X.base A1 X.stack s H := by
    have e := I1.env0
    exact ⟨by rw [sb.fr]; exact e.frames, e.mod, e.bs, e.bsz, e.funs, e.frf, e.hok, e.bare⟩
  obtain ⟨m0, hF⟩ := I1.fr
  refine PySem.W.owit_iter hF I1.ok.mod.kin J hs hf ?_
  have call_ : wpAny (model X.prog X.w) A1 (call (.ref fi) [.ref a]) (EP X pins σ (fun v H2 => ∃ (it l : Addr), v = V.ref it ∧ H2 it = some (ItO l it 0) ∧ s.heap.objs.size ≤ it ∧ R it l H2)) EE s := by
    refine wpAny_call (codeAny_mono (F.run A1 X.stack s H ⟨[.ref a], []⟩ [.ref a] [.ref a] _ E sb.room e0 b (.cons rfl .nil) q1) fun r s' hq => ?_)
    cases r with
    | error e => exact hq.elim
    | ok fl =>
      cases fl with
      | ret u => exact I1.after hq
      | next => exact False.elim hq
      | brk => exact False.elim hq
      | cont => exact False.elim hq
  refine wpAny_mono call_ (fun v s2 hv => ?_) fun _ _ z => z
  obtain ⟨y, H2, I2, ry, it, l, ey, hi, hn, hR⟩ := hv
  subst ey
  obtain rfl : v = Value.ref it := ry
  have eo := itO_get I2 hi
  have st : s2.heap.IsListIter it l (0 + 0) := ⟨_, eo, rfl, rfl⟩
  exact wpAny_specialOf st.typeIs slot_listiter_next.lookup (k it l H2 s2 I2 hi hn hR)
/-- the hint: __len__ is called -/
theorem own_hintL {a dx : Addr} {fs : List (Str × V)} {zs : List V} {Q : Bool → Shared → Prop} {EE : Value → Shared → Prop} (sb : Sub X n A1.in1) (hle : PySem.W.findIn X.K (.ref C) "__len__" = some (some (.ref fl))) (hlf : PySem.W.isFn X.K (.ref fl) = true)
    (FL : FnOk X.prog X.w X.K X.mg X.base CX0 n fl fdL psL (spLen C g)) (bL : Binds X.K fdL psL []) (I : Inv X pins σ H s) (ha : H a = some (.ins C dx fs)) (hg : fs.lookup g = some (.ref l)) (hl : H l = some (.lst zs))
    (k : ∀ b s', Inv X pins σ H s' → Q b s') : wpAny (model X.prog X.w) A1 (Builtin.List.listLengthHint (.ref a)) Q EE s := by
  obtain ⟨mA, J, _⟩ := ins_get I.hok ha
  obtain ⟨od, J, _⟩ := J.look
  obtain ⟨m0, hF⟩ := I.fr
  have KX := I.kIn
  have hlen := (I.lstM hl).1
  have q1 : spLen C g [.ref a] H (fun v H' => v = .int zs.length ∧ H' = H) (fun _ _ _ => False) := ⟨a, dx, fs, l, zs, rfl, ha, hg, hl, rfl, rfl⟩
  have hll := FL.len _ _ _ _ q1
  have e0 : Env0 X.prog X.w X.K X.mg X.base A1.in1 X.stack s H := by
    have e := I.env0
    exact ⟨by rw [sb.fr]; exact e.frames, e.mod, e.bs, e.bsz, e.funs, e.frf, e.hok, e.bare⟩
  have b := bL s [.ref a] KX (by simpa using hll)
  rw [List.append_nil] at b
  unfold Builtin.List.listLengthHint
  refine wpAny_bind (wpAny_bind (J.type.here ((PySem.W.looks_findIn KX hle).here ?_)))
  refine PySem.W.KFB.if_not rfl ?_
  refine wpAny_ite_split (fun _ => ?_) (fun h => absurd rfl h)
  refine wpAny_bind (wpAny_rule ?_)
  refine wpAny_bind (wpAny_attempt (PySem.W.len_K hF I.ok.mod.kin J hle hlf ?_))
  refine wpAny_call (codeAny_mono (FL.run A1.in1 X.stack s H ⟨[.ref a], []⟩ [.ref a] [.ref a] _ (fun _ _ _ => False) sb.room e0 b (.cons rfl .nil) q1) fun r s' hq => ?_)
  cases r with
  | error e => exact hq.elim
  | ok fl =>
    cases fl with
    | next => exact False.elim hq
    | brk => exact False.elim hq
    | cont => exact False.elim hq
    | ret u =>
      obtain ⟨v, H', I', rv, ev, eH⟩ := I.after hq
      subst ev
      rw [eH] at I'
      obtain ⟨t, rfl⟩ := rv
      have hz := sizeLine_eq
      refine ⟨⟨by omega, by omega⟩, ?_⟩
      show wpAny _ _ (asInt? (.int (zs.length : Int) s'.toks) >>= _) _ _ _
      refine wpAny_bind (m := asInt? _) (wpAny_pure ?_)
      dsimp only
      rw [if_neg (by rw [Int.toNat_natCast, notLongL hlen]; exact Bool.false_ne_true)]
      exact wpAny_pure (k _ _ (I'.tok _))
theorem lo_extend {zs : List V} {a dx : Addr} {fs : List (Str × V)} (sb : Sub X (n + 1) A1.in1) (hn0 : A1.in1.handled = none) (hit : PySem.W.findIn X.K (.ref C) "__iter__" = some (some (.ref fi))) (hif : PySem.W.isFn X.K (.ref fi) = true)
    (hle : PySem.W.findIn X.K (.ref C) "__len__" = some (some (.ref fl))) (hlf : PySem.W.isFn X.K (.ref fl) = true)
    (FI : FnN X.prog X.w X.K X.mg X.base CX0 n fi fdI psI (T3.spIt X.K C g)) (bI : Binds X.K fdI psI []) (FL : FnOk X.prog X.w X.K X.mg X.base CX0 n fl fdL psL (spLen C g)) (bL : Binds X.K fdL psL [])
    (hdone : ∀ s, Inv X pins σ (upd H q (.lst zs)) s → Rs (.ok (.ret .none)) s) (herr : ∀ e s, X.xe e s → Rs (.error e) s)
    (I : Inv X pins σ (upd H q (.lst [])) s) (hq : H q = none) (ha : H a = some (.ins C dx fs)) (hg : fs.lookup g = some (.ref l)) (hl : H l = some (.lst zs)) :
    wpAny (model X.prog X.w) A1.in1 (Builtin.List.listExtendWith (.ref q) (.ref a) .none)
      (fun fin s' => match fin with | .done f => Rs (.ok f) s' | .again c' => c'.quiet = true ∧ codeAny (model X.prog X.w) A1 c' Rs s') (fun e s' => Rs (.error e) s') s := by
  have hqa : q ≠ a := fun e => by rw [e, ha] at hq; cases hq
  have hql : q ≠ l := fun e => by rw [e, hl] at hq; cases hq
  have ha1 : upd H q (.lst []) a = some (.ins C dx fs) := by rw [upd_ne (Ne.symm hqa)]; exact ha
  have hl1 : upd H q (.lst []) l = some (.lst zs) := by rw [upd_ne (Ne.symm hql)]; exact hl
  obtain ⟨mA, J, _⟩ := ins_get I.hok ha1
  obtain ⟨od, J, _⟩ := J.look
  have KX := I.kIn
  have hlen := (I.lstM hl1).1
  unfold Builtin.List.listExtendWith
  refine wpAny_bind (J.type.here ?_)
  have h1 : Builtin.List.listSameRef (.ref q) (.ref a) = false := by simp [Builtin.List.listSameRef, hqa]
  have h2 : (Value.ref C == Value.type "list") = false := rfl
  have h3 : (Value.ref C == Value.type "tuple") = false := rfl
  simp only [h1, h2, h3, Bool.or_false, Bool.false_eq_true, if_false]
  refine wpAny_bind (own_iter (R := fun it l' H2 => l' = l ∧ upd H q (.lst []) it = none ∧ H2 = upd (upd H q (.lst [])) it (ItO l it 0)) (E := fun _ _ _ => False) (sb.mono (Nat.le_succ n)) hit hif FI bI I ha1 ?_ ?_)
  · exact ⟨a, dx, fs, l, zs, rfl, ha1, hg, .inl (.inl hl1), fun it h1 h2 => ⟨it, l, rfl, upd_same, h2, rfl, h1, rfl⟩⟩
  rintro it l' H2 s2 I2 hi hle' ⟨rfl, hn, rfl⟩
  have ne : ∀ {b : Addr} {o : HO}, upd H q (.lst []) b = some o → b ≠ it := fun e z => by rw [z, hn] at e; cases e
  refine wpAny_bind (wpAny_holding (own_hintL sb.in1 hle hlf FL bL I2 (by rw [upd_ne (ne ha1)]; exact ha1) hg (by rw [upd_ne (ne hl1)]; exact hl1) fun b s3 I3 => ?_))
  have I4 := inv_drop I3 hi
  have fp := inv_fp I3 hi (Nat.le_trans I.sz hle')
  rw [dropH_upd hn] at I4 fp
  have st : s3.heap.IsListIter it l' 0 := ⟨_, itO_get I3 hi, rfl, rfl⟩
  have hqi : q ≠ it := fun e => by rw [← e, upd_same] at hn; cases hn
  have fpH : FpOk X pins H it := ⟨by have := fp.1; rwa [upd_ne (Ne.symm hqi)] at this, fp.2⟩
  have loop : ∀ s, Inv X pins σ (upd H q (.lst (zs.take 0))) s → s.heap.IsListIter it l' 0 → codeAny (model X.prog X.w) A1 (.builtin "list.extend.loop" ⟨[.ref q, .ref it, .none], []⟩) Rs s :=
    fun s I st => lo_loop (sb.mono (Nat.le_succ n)) hn0 hql hqi hdone hl fpH zs.length 0 s (by omega) I st
  refine wpAny_ite_split (fun _ => ?_) (fun _ => wpAny_pure ⟨plainId_quiet PySem.F.plain_extend_loop _, loop s3 I4 st⟩)
  refine wpAny_bind (wpAny_rule ?_)
  refine wpAny_bind ?_
  show wpAny _ _ (updateSeq q (·.push .none) >>= fun _ => updateSeq q (·.pop)) _ _ _
  obtain ⟨z3, its3, k3, r3, hl3, e3⟩ := I4.lstM upd_same
  cases r3
  refine wpAny_bind (wpAny_updateSeq e3 rfl ?_)
  have I5 := I4.lset (f := (·.push Value.none)) (its' := [Value.none]) (ys := [.non]) (t' := s3.toks) upd_same e3 (by simp) (.cons rfl .nil) (by rw [List.length_singleton, sizeLine_eq]; decide)
  obtain ⟨z4, its4, k4, r4, hl4, e4⟩ := I5.lstM upd_same
  obtain ⟨u4, rfl, ru4⟩ := r4.one
  refine wpAny_updateSeq e4 rfl ?_ (by show 1 ≤ sizeLine; rw [sizeLine_eq]; decide) (by show 0 ≤ sizeLine + 1; exact Nat.zero_le _)
  have I6 := I5.lset (f := (·.pop)) (its := [u4]) (its' := []) (ys := []) (t' := s3.toks) upd_same e4 (by rfl) .nil (Nat.zero_le _)
  rw [upd_upd, upd_upd] at I6
  refine wpAny_pure ⟨plainId_quiet PySem.F.plain_extend_loop _, loop _ I6 ?_⟩
  exact st.at fun o e => (Heap.get?_update_other _ _ hqi).trans ((Heap.get?_update_other _ _ hqi).trans e)
theorem call_lstOwn (hcm : X.calm = true) (hit : PySem.W.findIn X.K (.ref C) "__iter__" = some (some (.ref fi))) (hif : PySem.W.isFn X.K (.ref fi) = true)
    (hle : PySem.W.findIn X.K (.ref C) "__len__" = some (some (.ref fl))) (hlf : PySem.W.isFn X.K (.ref fl) = true)
    (FI : FnN X.prog X.w X.K X.mg X.base CX0 n fi fdI psI (T3.spIt X.K C g)) (bI : Binds X.K fdI psI []) (FL : FnOk X.prog X.w X.K X.mg X.base CX0 n fl fdL psL (spLen C g)) (bL : Binds X.K fdL psL []) (hr : Room (n + 3) X.A) : CallR X (.type "list") (rLO C g) := by
  intro pins s σ H xs us Q I rv h
  obtain ⟨a, dx, fs, l, zs, rfl, ha, hg, hl, hq⟩ := h
  obtain ⟨u, rfl, ru⟩ := rv.one
  cases ru
  have sb : Sub X (n + 1) X.A.in1.in1 := (Sub.in1 (Sub.in1 (⟨hr, rfl⟩ : Sub X (n + 3) X.A)))
  refine callType_codes (Q₁ := fun obj s₁ => obj = .ref s.heap.objs.size ∧ s₁ = { s with heap := s.heap.push { cls := .type "list", data := .seq #[] } }) PySem.F.called_list (PySem.F.typeCall_list_1 _) PySem.F.entry_list_init
    (code_list_new _ ⟨rfl, rfl⟩) fun obj s₁ h₁ => ?_
  obtain ⟨rfl, rfl⟩ := h₁
  have hS : (s.heap.push { cls := .type "list", data := .seq #[] }).get? s.heap.objs.size = some { cls := .type "list", data := .seq #[] } := Heap.get?_push_size _ rfl
  refine ⟨⟨_, hS, rfl⟩, PySem.F.args_list_init_2 _ _, ?_⟩
  have fr : H s.heap.objs.size = none := I.hok.fresh (Nat.le_refl _)
  have I1 : Inv X pins σ (upd H s.heap.objs.size (.lst [])) { s with heap := s.heap.push { cls := .type "list", data := .seq #[] } } := I.lnew (its := []) (t' := s.toks) .nil (Nat.zero_le _)
  show wpAny _ _ (do let old ← Builtin.List.listItems (.ref s.heap.objs.size); Builtin.List.listUpdate (.ref s.heap.objs.size) (fun _ => #[]); letGo old.toList.reverse; Builtin.List.listExtendWith (.ref s.heap.objs.size) (.ref a) .none) _ _ _
  refine wpAny_bind ?_
  unfold Builtin.List.listItems
  refine wpAny_bind (wpAny_seqItems hS rfl (wpAny_pure ?_))
  show wpAny _ _ (updateSeq s.heap.objs.size (fun _ => #[]) >>= fun _ => letGo (#[] : Array Value).toList.reverse >>= fun _ => Builtin.List.listExtendWith (.ref s.heap.objs.size) (.ref a) .none) _ _ _
  refine wpAny_bind (wpAny_updateSeq hS rfl ?_)
  have I2 := I1.lset (f := fun _ => #[]) (its := []) (its' := []) (ys := []) (t' := s.toks) upd_same hS rfl .nil (Nat.zero_le _)
  rw [upd_upd] at I2
  refine wpAny_bind (wpAny_letGo ?_)
  exact lo_extend (A1 := X.A.in1) (Rs := wants (fun r s₂ => r = .none ∧ EP X pins σ Q (.ref s.heap.objs.size) s₂) X.xe) sb (I.ok.hd hcm) hit hif hle hlf FI bI FL bL
    (fun s' I' => ⟨rfl, .ref s.heap.objs.size, _, I', rfl, hq _ fr⟩) (fun e s' he => he) I2 fr ha hg hl
end
end L2
namespace T3
open PySem L2
open Evl (Ex)
section
variable {B : Hp} {M : Mem} {K : PySem.W.Frag} {Q : DQ}
theorem c3_lstOwn {b l C : Addr} {f : Str} {fs : List (Str × D)} {ds : List D} (hb : M b = some (.ins C fs)) (hf : fs.lookup f = some (.ref l)) (hm : M l = some (.lst ds)) (q : ∀ p, M p = none → Q (.ref p) (mput M p (.lst ds))) : C3 B (rLO C f) [.ref b] M Q := fun F H xv Qv bb st rx k => by
  obtain ⟨v, e, r⟩ := rx.sing
  subst e
  obtain rfl : v = V.ref b := r
  obtain ⟨_, ho0, h0, dx, fv, e0, pk⟩ := st.own b _ hb
  subst e0
  obtain ⟨v0, hv0, rv0⟩ := (pkv_look (f := f) pk).1 hf
  have rv0 : v0 = V.ref l := rv0
  subst rv0
  obtain ⟨_, ho, h1, vs, e2, rs⟩ := st.own l _ hm
  subst e2
  exact ⟨b, dx, fv, l, vs, rfl, h0, hv0, h1, fun p hp => k F _ (.ref p) _ _ (Ex.refl _) (st.newO (d := .lst ds) hp ⟨vs, rfl, rs⟩) rfl (q p (st.nn hp).2)⟩
end
end T3
set_option Elab.async false
set_option linter.all false
namespace T3
open PySem L2
open Evl (Ex)
def enumD (ds : List D) : List D := ds.mapIdx fun i d => .tup [.int (i : Nat), d]
theorem enumD_at {ds : List D} {i : Nat} {d : D} (h : (enumD ds)[i]? = some d) : ∃ x, ds[i]? = some x ∧ d = .tup [.int (i : Nat), x] := by
  unfold enumD at h
  rw [List.getElem?_mapIdx] at h
  obtain ⟨x, h1, h2⟩ := Option.map_eq_some_iff.mp h
  exact ⟨x, h1, h2.symm⟩
theorem enumD_len {ds : List D} : (enumD ds).length = ds.length := by simp [enumD]
section
variable {B : Hp} {M : Mem} {K : PySem.W.Frag} {σ : Sig} {ta : TA} {x y : D} {xs ys : List D}
theorem i_enum {Q : List D → (Mem → Prop) → Mem → Prop} (h : W3a B ta σ M (fun xs M1 => ∃ ds, xs = [.lst ds] ∧ Q (enumD ds) (fun _ => True) M1)) : W3i B (iEnum K ta) σ M Q := fun F σv H R b hs st k =>
  h F σv H _ b hs st fun F1 M1 xs xv H1 e1 st1 rx ⟨ds, ex, q⟩ => by
    subst ex
    obtain ⟨v, e, a, vs, ev, hf, rs⟩ := rx.sing
    subst e; subst ev
    refine ⟨a, vs, rfl, .inl (.inl (st1.fz a _ hf)), k F1 M1 (Ite K a) (enumD ds) _ H1 e1 st1 ⟨fun H => SqL K H a vs, _, WD.len (F := F1) (ds := enumD ds) (vs := []) walk_enum (by rw [enumD_len, rs.length]), ?_, ?_, fun _ _ _ _ z => z⟩ q⟩
    · intro F' M' H' e s _
      exact .inl (.inl (s.fz a _ (e a _ hf)))
    · intro i d x H' H'' F' M' hd e s _ y
      obtain ⟨T, u, v, rfl, hT, rfl, hu, hv⟩ := y
      cases hu
      obtain ⟨d0, h0, rfl⟩ := enumD_at hd
      obtain ⟨v', hv', rv⟩ := rs.at h0
      have hv : vs[i]? = some v := hv
      rw [hv] at hv'; cases hv'
      obtain ⟨s2, e2⟩ := s.new (o := .tup [.int (i : Nat), v]) hT
      exact ⟨_, e2, s2, T, _, rfl, upd_same, _, _, rfl, rfl, _, _, rfl, rv.mono (e.trans e2), rfl⟩
theorem r3_add_llO {Q : DQ} (lx : LstD M x xs) (ly : LstD M y ys) (h : xs.length + ys.length ≤ 1000000) (q : ∀ p, M p = none → Q (.ref p) (mput M p (.lst (xs ++ ys)))) : R3 B rADD x y M Q := fun F H xv yv Qv b st rx ry k => by
  obtain ⟨a, vs, e1, h1, r1⟩ := lx.at st rx
  obtain ⟨c, us, e2, h2, r2⟩ := ly.at st ry
  refine .inr (.inr ⟨a, c, vs, us, e1, e2, h1, h2, ?_, fun p hp => ?_⟩)
  · rw [← r1.length, ← r2.length]; exact Nat.le_trans h (by decide)
  · exact k F _ (.ref p) _ _ (Ex.refl _) (st.newO (d := .lst (xs ++ ys)) hp ⟨vs ++ us, rfl, r1.append r2⟩) rfl (q p (st.nn hp).2)
theorem c3_lstF {Q : DQ} {b l C : Addr} {f : Str} {fs : List (Str × D)} {ds : List D} (hb : M b = some (.ins C fs)) (hf : fs.lookup f = some (.ref l)) (hm : M l = some (.lst ds)) (q : Q (.lst ds) M) : C3 B (rLO C f) [.ref b] M Q := fun F H xv Qv bb st rx k => by
  obtain ⟨v, e, r⟩ := rx.sing
  subst e
  obtain rfl : v = V.ref b := r
  obtain ⟨_, ho0, h0, dx, fv, e0, pk⟩ := st.own b _ hb
  subst e0
  obtain ⟨v0, hv0, rv0⟩ := (pkv_look (f := f) pk).1 hf
  have rv0 : v0 = V.ref l := rv0
  subst rv0
  obtain ⟨_, ho, h1, vs, e2, rs⟩ := st.own l _ hm
  subst e2
  refine ⟨b, dx, fv, l, vs, rfl, h0, hv0, h1, fun p hp => ?_⟩
  obtain ⟨s2, e2⟩ := st.new (o := .lst vs) hp
  exact k _ _ (.lst ds) _ _ e2 s2 ⟨p, _, rfl, upd_same, rs.mono e2⟩ q
end
section
variable {B : Hp} {M : Mem} {K : PySem.W.Frag} {σ : Sig} {wi : TI} {g : TG} {tt : TT} {te : TE} {vs : List Nat} {Q : DQ}
theorem w_lcO (hg : OwnG g vs) (h : W3i B wi σ M (fun ds P M1 => ∃ I : Nat → List D → Mem → Prop, (∀ i acc M', I i acc M' → P M' ∧ acc.length ≤ i) ∧ ds.length ≤ 1000000 ∧ I 0 [] M1 ∧
      (∀ (i : Nat) d acc M' L, ds[i]? = some d → I i acc M' → M' L = none → G3 B g d (wipe3 σ vs) (mput M' L (.lst acc)) (fun σ2 M2 => W3t B tt σ2 M2 (fun b M3 =>
        if b = true then W3e B te σ2 M3 (fun y M4 => ∃ M5, M4 = mput M5 L (.lst acc) ∧ M5 L = none ∧ I (i + 1) (acc ++ [y]) M5) else ∃ M5, M3 = mput M5 L (.lst acc) ∧ M5 L = none ∧ I (i + 1) acc M5))) ∧
      (∀ acc M' L, M' L = none → I ds.length acc M' → Q (.ref L) (mput M' L (.lst acc))))) :
    W3e B (tLc wi g tt te vs) σ M Q := fun F σv H Qv b hs st k =>
  h F σv H _ b hs st fun F1 M1 J ds P H1 e1 st1 ⟨G, Y, w, hG, hY, hX⟩ ⟨I, hP, hl, h0, turn, fin⟩ L hL =>
    lc_it w (fun i H' => ∃ F' M' acc, Ex F1 F' ∧ M' L = none ∧ St3 F' (mput M' L (.lst acc)) H' ∧ I i acc M')
      ⟨F1, M1, [], Ex.refl _, (st1.nn hL).2, st1.newO (d := .lst []) hL ⟨[], rfl, rfl⟩, h0⟩
      (fun i H' _ ⟨F', M', acc, e, n, t, q⟩ => hG F' _ H' e t (hX M' L _ n (hP i acc M' q).1))
      (fun i x H' H'' hi ⟨F', M', acc, e, n, t, q⟩ y => by
        have hd : ds[i]? = some ds[i] := by simp [hi]
        obtain ⟨F2, e2, t2, rd⟩ := hY i _ x H' H'' F' _ hd e t (hX M' L _ n (hP i acc M' q).1) y
        have main := turn i _ acc M' L hd q n F2 (L2.wipe σv vs) H'' x (fun σ2 H2 => tt σ2 H2 fun b H3 => if b = true then te σ2 H3 fun y H4 => ∃ acc, H4 L = some (.lst acc) ∧ acc.length < sizeLine ∧ (∃ F' M' acc', Ex F1 F' ∧ M' L = none ∧ St3 F' (mput M' L (.lst acc')) (upd H4 L (.lst (acc ++ [y]))) ∧ I (i + 1) acc' M') else (∃ F' M' acc', Ex F1 F' ∧ M' L = none ∧ St3 F' (mput M' L (.lst acc')) H3 ∧ I (i + 1) acc' M'))
          (b.trans ((e1.trans e).trans e2)) (((hs.mono e1).mono (e.trans e2)).wipe vs) t2 rd fun F3 M3 σ3 σv3 H3 e3 s3 t3 q3 => ?_
        · exact hg x (L2.wipe σv vs) H'' _ _ (fun σ2 H2 w2 q2 => ⟨w2.trans wipe_wipe, q2⟩) main
        · refine q3 F3 σv3 H3 _ (b.trans (((e1.trans e).trans e2).trans e3)) s3 t3 fun F4 M4 c H4 e4 t4 q4 => ?_
          cases c with
          | false =>
            obtain ⟨M5, em, n5, i5⟩ := q4
            subst em
            exact ⟨F4, M5, acc, ((e.trans e2).trans e3).trans e4, n5, t4, i5⟩
          | true =>
            refine q4 F4 σv3 H4 _ (b.trans ((((e1.trans e).trans e2).trans e3).trans e4)) (s3.mono e4) t4 fun F5 M5' y v5 H5 e5 t5 r5 ⟨M5, em, n5, i5⟩ => ?_
            subst em
            obtain ⟨_, ho, h1, us, e6, rs⟩ := t5.own L _ mput_same
            subst e6
            have hlen := (hP i acc M' q).2
            refine ⟨us, h1, by rw [← rs.length]; exact Nat.lt_of_lt_of_le (Nat.lt_of_le_of_lt hlen hi) (Nat.le_trans hl (by decide)), F5, M5, acc ++ [y], (((e.trans e2).trans e3).trans e4).trans e5, n5, ?_, i5⟩
            have := t5.put (p := L) (d := .lst acc) (d' := .lst (acc ++ [y])) mput_same ⟨us ++ [v5], rfl, rs.snoc r5⟩
            rwa [mput_mput] at this)
      (fun H' ⟨F', M', acc, e, n, t, q⟩ => by
        obtain ⟨_, ho, h1, us, e6, rs⟩ := t.own L _ mput_same
        subst e6
        exact k _ _ (.ref L) (.ref L) H' (e1.trans e) t rfl (fin acc M' L n q))
theorem w_lcPO (p : D → Bool) (f : D → D) (hg : OwnG g vs) (h : W3i B wi σ M (fun ds P M1 => ds.length ≤ 1000000 ∧ P M1 ∧
      (∀ (i : Nat) d M', ds[i]? = some d → (∀ a o, M1 a = some o → M' a = some o) → G3 B g d (wipe3 σ vs) M' (fun σ2 M2 => M2 = M' ∧ W3t B tt σ2 M' (fun b M3 => M3 = M' ∧ b = p d ∧ (b = true → W3e B te σ2 M' (fun y M4 => M4 = M' ∧ y = f d))))) ∧
      ∀ L, M1 L = none → Q (.ref L) (mput M1 L (.lst ((ds.filter p).map f))))) :
    W3e B (tLc wi g tt te vs) σ M Q := by
  refine w_lcO hg fun F σv H R b hs st k => h F σv H R b hs st fun F' M' J ds P H' e s wd ⟨hl, hP, turn, q⟩ => k F' M' J ds P H' e s wd ?_
  refine ⟨fun i acc M2 => i ≤ ds.length ∧ M2 = M' ∧ acc = ((ds.take i).filter p).map f, fun i acc M2 ⟨hi, a, c⟩ => ⟨by rw [a]; exact hP, ?_⟩, hl, ⟨Nat.zero_le _, rfl, rfl⟩, fun i d acc M2 L hd ⟨hi, em, ea⟩ hL => ?_, fun acc M2 L hL ⟨_, em, ea⟩ => ?_⟩
  · rw [c, List.length_map]
    exact Nat.le_trans (List.length_filter_le _ _) (by rw [List.length_take]; exact Nat.min_le_left _ _)
  · subst em
    have hlt : i < ds.length := (List.getElem?_eq_some_iff.mp hd).1
    have et : ds.take (i + 1) = ds.take i ++ [d] := by rw [List.take_add_one, hd]; rfl
    intro F2 σ2 H2 xv Qv b2 hs2 st2 rx kk
    refine turn i d _ hd (fun a o ha => by rw [mput_ne (mne ha hL)]; exact ha) F2 σ2 H2 xv Qv b2 hs2 st2 rx fun F3 M3 σ3 σv3 H3 e3 s3 t3 ⟨e4, q4⟩ => kk F3 M3 σ3 σv3 H3 e3 s3 t3 ?_
    subst e4
    refine q4.to fun c M4 ⟨e5, e6, q5⟩ => ?_
    subst e5
    cases c with
    | true =>
      refine (q5 rfl).to fun y M5 ⟨e7, e8⟩ => ?_
      subst e7
      refine ⟨M2, rfl, hL, hlt, rfl, ?_⟩
      rw [et, List.filter_append, List.map_append, ← ea, e8]
      simp [← e6]
    | false =>
      refine ⟨M2, rfl, hL, hlt, rfl, ?_⟩
      rw [et, List.filter_append, List.map_append, ← ea]
      simp [← e6]
  · rw [List.take_length] at ea
    subst em; subst ea
    exact q L hL
end
end T3
set_option Elab.async false
set_option linter.all false
set_option maxRecDepth 100000
set_option maxHeartbeats 2000000
namespace L2
open PySem PySem.Spec PyProof.Rows
/-! ### keys that no dict of texts has: a truth value, a tuple -/
def bkIs : Bool ⊕ Str → Value → Bool
  | .inl b, v => v == .bool b
  | .inr x, v => Value.isStrOf x v
theorem bk_inl {b : Bool} {v : Value} (h : bkIs (.inl b) v = true) : v = .bool b := by simpa [bkIs] using h
theorem bk_inr {x : Str} {v : Value} (h : bkIs (.inr x) v = true) : ∃ t, v = .str x t := Value.isStrOf_shape (x := x) (v := v) h
def boolKind (prog : Program) (w : World) : PySem.KeyKind prog w (Bool ⊕ Str) where
  is := bkIs
  hash := fun k => match k with
    | .inl b => hashInt (if b = true then 1 else 0)
    | .inr x => hashStr w x
  inj := fun v a b ha hb => by
    cases a with
    | inl a =>
      have e := bk_inl ha
      subst e
      cases b with
      | inl b =>
        have e := bk_inl hb
        cases e; rfl
      | inr y =>
        obtain ⟨t, e⟩ := bk_inr hb
        cases e
    | inr x =>
      obtain ⟨t, e⟩ := bk_inr ha
      subst e
      cases b with
      | inl b => cases bk_inl hb
      | inr y =>
        obtain ⟨t, e⟩ := bk_inr hb
        cases e; rfl
  byValue := fun k v h => by
    cases k with
    | inl b => rw [bk_inl h]; rfl
    | inr x =>
      obtain ⟨t, e⟩ := bk_inr h
      rw [e]; rfl
  pyHash := @fun A E s k v Q hv h => by
    cases k with
    | inl b =>
      have e := bk_inl hv
      subst e
      have h' : Q (hashInt (if b = true then 1 else 0)) { s with toks := s.toks + 1 } := h
      rw [← reduce_bool] at h'
      refine PySem.W.pyHash_slot (T := "bool") rfl PySem.F.slot_bool_hash entry_int_hash (args_int_hash _) (beq_builtin_none _) (.inl rfl) ?_
      cases b
      · exact (show wpAny _ _ (do ret (← mkInt 0)) _ _ s from wpAny_bind (wpAny_mkInt (wpAny_pure ⟨_, _, rfl, h'⟩)))
      · exact (show wpAny _ _ (do ret (← mkInt 1)) _ _ s from wpAny_bind (wpAny_mkInt (wpAny_pure ⟨_, _, rfl, h'⟩)))
    | inr x =>
      obtain ⟨t, e⟩ := bk_inr hv
      subst e
      exact wpAny_pyHash_str h
  eqBool := @fun A E s a b u v Q hu hv h => by
    cases a with
    | inl a =>
      have e := bk_inl hu
      subst e
      cases b with
      | inl b =>
        have e := bk_inl hv
        subst e
        refine SeqAt.EqAt.bool_bool a b _ _ _ _ ?_
        have e : decide ((Sum.inl a : Bool ⊕ Str) = .inl b) = (a == b) := by cases a <;> cases b <;> rfl
        rw [← e]; exact h
      | inr y =>
        obtain ⟨t, e⟩ := bk_inr hv
        subst e
        rw [decide_eq_false (fun z => nomatch z)] at h
        exact SeqAt.EqAt.bool_str a y t _ _ _ _ h
    | inr x =>
      obtain ⟨t, e⟩ := bk_inr hu
      subst e
      cases b with
      | inl b =>
        have e := bk_inl hv
        subst e
        rw [decide_eq_false (fun z => nomatch z)] at h
        exact SeqAt.EqAt.str_bool x t b _ _ _ _ h
      | inr y =>
        obtain ⟨t', e⟩ := bk_inr hv
        subst e
        refine SeqAt.EqAt.str_str x t y t' _ _ _ _ ?_
        have e : decide ((Sum.inr x : Bool ⊕ Str) = .inr y) = (x == y) := by
          by_cases c : x = y
          · subst c; simp
          · rw [decide_eq_false (fun z => c (Sum.inr.inj z))]; exact (beq_eq_false_iff_ne.mpr c).symm
        rw [← e]; exact h
  «strs» := fun k x t v h => by
    cases k with
    | inl b => cases bk_inl h
    | inr y =>
      obtain ⟨t', e⟩ := bk_inr h
      cases e
      exact (mixKind prog w).«strs» (.inr x) x t v (by simp [mixKind, keyIs, Value.isStrOf] <;> rfl)
end L2
namespace L2
open PySem PySem.Spec PyProof.Rows
theorem pairs_mem {K : Type} [DecidableEq K] {prog : Program} {w : World} {knd : PySem.KeyKind prog w K} : ∀ {es : List DictEntry} {kvs : List (K × Value)}, Pairs knd es kvs → ∀ e ∈ es, ∃ p ∈ kvs, knd.is p.1 e.key = true
  | _, _, .nil, e, h => by cases h
  | _, _, .cons h1 _ r, e, h => by
    rcases List.mem_cons.mp h with rfl | h
    · exact ⟨_, List.mem_cons_self .., h1⟩
    · obtain ⟨p, hp, q⟩ := pairs_mem r e h
      exact ⟨p, List.mem_cons_of_mem _ hp, q⟩
theorem txt_keys {P : Program} {w : World} {h : Heap} {a : Addr} {vs : List (Key × Value)} (d : h.DictOf (mixKind P w) a vs) (ht : ∀ p ∈ vs, ∃ x, p.1 = Sum.inr x) :
    ∃ o es ep, h.get? a = some o ∧ o.ExactDict ∧ o.data = .dict es ep ∧ ∀ e ∈ es, ∃ (x : Str) (t : Tok), e.key = .str x t ∧ e.hash = hashStr w x := by
  obtain ⟨o, es, ep, ho, hx, hdt, hk, hp, hn⟩ := d
  refine ⟨o, es, ep, ho, hx, hdt, fun e he => ?_⟩
  obtain ⟨k, h1, h2⟩ := hk e he
  obtain ⟨p, hpm, h3⟩ := pairs_mem hp e (Array.mem_toList_iff.mpr he)
  obtain ⟨x, hx⟩ := ht p hpm
  have e1 : k = p.1 := (mixKind P w).inj e.key k p.1 h1 h3
  rw [hx] at e1
  subst e1
  rcases keyIs_shape (show keyIs (.inr x) e.key = true from h1) with ⟨i, t, e2, _⟩ | ⟨y, t, e2, e3⟩
  · cases e2
  · cases e2
    exact ⟨x, t, e3, h2⟩
theorem bool_map {P : Program} {w : World} {h : Heap} {a : Addr} {vs : List (Key × Value)} (d : h.DictOf (mixKind P w) a vs) (ht : ∀ p ∈ vs, ∃ x, p.1 = Sum.inr x) : ∃ f, h.MapOf (boolKind P w) a f ∧ ∀ b, f (.inl b) = none := by
  obtain ⟨o, es, ep, ho, hx, hdt, hk⟩ := txt_keys d ht
  refine ⟨fun k => findBy (boolKind P w).is es k, ⟨o, es, ep, ho, hx, hdt, fun e he => ?_, fun k => rfl⟩, fun b => ?_⟩
  · obtain ⟨x, t, h1, h2⟩ := hk e he
    refine ⟨.inr x, ?_, h2⟩
    show Value.isStrOf x e.key = true
    rw [h1]; simp [Value.isStrOf]
  · have q : (es.find? fun e => bkIs (.inl b) e.key) = none := by
      rw [Array.find?_eq_none]
      intro e he hq
      obtain ⟨x, t, h1, _⟩ := hk e he
      rw [h1] at hq
      exact nomatch bk_inl hq
    show (es.find? fun e => bkIs (.inl b) e.key).map (·.val) = none
    rw [q] <;> rfl
section
variable {prog : Program} {w : World} {K : Type} [DecidableEq K] {knd : HeapKind prog w K} {A : Around} {E : Value → Shared → Prop} {s : Shared}
theorem tells_alien {a : Addr} {k : K} {stored : List Value} {Q : Bool → Shared → Prop} (hkey : knd.is s.heap k a) (hst : ∀ v ∈ stored, ∃ (x : Str) (t : Tok), v = .str x t) (h : Q false s) :
    wpAny (model prog w) A (tableMayTell (.ref a) stored) Q E s := by
  unfold tableMayTell
  split
  · exact wpAny_pure h
  · refine wpAny_bind (knd.quiet hkey ?_)
    simp only [Bool.not_true, Bool.false_eq_true, if_false]
    refine wpAny_bind ?_
    refine wpAny_forIn_list _ (fun rest r s' => s' = s ∧ r = (none, ()) ∧ ∀ v ∈ rest, ∃ (x : Str) (t : Tok), v = .str x t) _ ?_ ?_ _ _ ⟨rfl, rfl, hst⟩
    · rintro x rest r s' ⟨rfl, rfl, hr⟩
      obtain ⟨x, t, rfl⟩ := hr _ List.mem_cons_self
      refine wpAny_bind (wpAny_pure ?_)
      simp only [Bool.not_true, Bool.false_eq_true, if_false]
      exact wpAny_pure ⟨rfl, rfl, fun v hv => hr v (List.mem_cons_of_mem _ hv)⟩
    · rintro r s' ⟨rfl, rfl, _⟩
      exact wpAny_pure h
theorem find_alien {d a : Addr} {o : Obj} {es : Array DictEntry} {ep : Nat} {k : K} {items : Array Value} {Q : Option Nat → Shared → Prop} (hA : A.units < cLine) (hkey : knd.is s.heap k a) (htup : s.heap.IsTuple a items)
    (ho : s.heap.get? d = some o) (hd : o.data = .dict es ep) (hk : ∀ e ∈ es, ∃ (x : Str) (t : Tok), e.key = .str x t) (hQ : Q none s) : wpAny (model prog w) A (dictFind d (.ref a) (knd.hash k)) Q E s := by
  have hany : ¬ (es.any fun e => e.key == Value.ref a && e.hash != knd.hash k) = true := by
    rw [← Array.any_toList, List.any_eq_true]
    rintro ⟨e, hin, hc⟩
    obtain ⟨x, t, h1⟩ := hk e (Array.mem_toList_iff.mp hin)
    rw [h1] at hc
    simp at hc
  have hst : ∀ v ∈ (placesWithHash es.size (fun i => es[i]?.map (·.hash)) (knd.hash k)).filterMap (fun i => es[i]?.map (·.key)), ∃ (x : Str) (t : Tok), v = .str x t := by
    intro v hv
    obtain ⟨i, _, hi⟩ := List.mem_filterMap.mp hv
    cases hei : es[i]? with
    | none => rw [hei] at hi; cases hi
    | some e =>
      rw [hei] at hi
      obtain rfl : e.key = v := by simpa using hi
      exact hk e (Array.mem_of_getElem? hei)
  unfold dictFind
  try with_reducible refine wpAny_holding ?_
  refine wpAny_bind (wpAny_dictEntries ho hd ?_)
  dsimp only
  rw [if_neg (show ¬ ((Value.ref a :: (placesWithHash es.size (fun i => es[i]?.map (·.hash)) (knd.hash k)).filterMap (fun i => es[i]?.map (·.key))).all carriedByValue) = true by simp [carriedByValue])]
  rw [if_neg hany]
  by_cases hone : (((placesWithHash es.size (fun i => es[i]?.map (·.hash)) (knd.hash k)).filterMap (fun i => es[i]?.map (·.key))) == [Value.ref a]) = true <;>
  (first | rw [if_pos hone] | rw [if_neg hone]) <;> (first | refine wpAny_bind (wpAny_pure ?_) | refine wpAny_bind (tells_alien hkey hst ?_)) <;> (
    rw [if_neg (by simp)]
    refine wpAny_bind ?_
    refine wpAny_forIn_list _ (fun rest b s' => s' = s ∧ b = (none, none)) _ ?_ ?_ _ _ ⟨rfl, rfl⟩
    · rintro x rest b s' ⟨rfl, rfl⟩
      cases hei : es[x]? with
      | none => exact wpAny_pure ⟨rfl, rfl⟩
      | some e =>
        obtain ⟨y, t, h1⟩ := hk e (Array.mem_of_getElem? hei)
        dsimp only
        by_cases hh : (e.hash == knd.hash k) = true
        · rw [if_pos hh, h1]
          refine wpAny_bind (wpAny_dictEpoch ho hd (wpAny_bind (SeqAt.EqAt.str_tuple y t htup hA _ _ _ _ (wpAny_bind (wpAny_dictEpoch ho hd ?_)))))
          show wpAny _ _ (if (ep != ep) = true then _ else _) _ E _
          rw [if_neg (by simp)]
          simp only [Bool.false_eq_true, if_false]
          refine wpAny_bind (wpAny_rule ?_)
          first | rw [if_neg (by simp)] | skip
          first
            | exact wpAny_pure ⟨rfl, rfl⟩
            | exact wpAny_bind (wpAny_pure (wpAny_pure ⟨rfl, rfl⟩))
        · rw [if_neg hh]
          exact wpAny_pure ⟨rfl, rfl⟩
    · rintro b s' ⟨rfl, rfl⟩
      exact wpAny_pure hQ)
end
end L2
namespace L2
open PySem PySem.Spec PyProof.Rows
section
variable {prog : Program} {w : World} {K : Type} [DecidableEq K] {knd : HeapKind prog w K} {A : Around} {E : Value → Shared → Prop} {s : Shared} {d a : Addr} {k : K} {items : Array Value} {vs : List (Key × Value)}
theorem get_alien {Q : Option Value → Shared → Prop} (hA : A.units < cLine) (hu : knd.room A) (hkey : knd.is s.heap k a) (htup : s.heap.IsTuple a items) (dd : s.heap.DictOf (mixKind prog w) d vs) (ht : ∀ p ∈ vs, ∃ x, p.1 = Sum.inr x)
    (h : Q none { s with toks := s.toks + knd.draws k }) : wpAny (model prog w) A (dictGet d (.ref a)) Q E s := by
  obtain ⟨o, es, ep, ho, _, hd, hk⟩ := txt_keys dd ht
  unfold dictGet
  try with_reducible refine wpAny_holding ?_
  refine wpAny_bind (knd.pyHash hu hkey (wpAny_bind ?_))
  exact find_alien (s := { s with toks := s.toks + knd.draws k }) hA hkey htup ho hd (fun e he => let ⟨x, t, q, _⟩ := hk e he; ⟨x, t, q⟩) (wpAny_pure h)
theorem has_alien {Q : Bool → Shared → Prop} (hA : A.in1.units < cLine) (hu : knd.room A.in1) (hkey : knd.is s.heap k a) (htup : s.heap.IsTuple a items) (hs : (d == sysModules) = false) (dd : s.heap.DictOf (mixKind prog w) d vs) (ht : ∀ p ∈ vs, ∃ x, p.1 = Sum.inr x)
    (h : Q false { s with toks := s.toks + knd.draws k }) : wpAny (model prog w) A (contains (.ref d) (.ref a)) Q E s := by
  refine wpAny_contains_slot dd.typeIs PySem.F.slot_dict_contains ?_
  refine call_meetsIn PySem.F.slot_dict_contains dd.typeIs PySem.F.entry_dict_contains (PySem.F.args_dict_contains_2 _ _) (S := fun A' R s' => A' = A ∧ s' = s ∧ R (.ok (.ret (.bool false))) { s with toks := s.toks + knd.draws k }) (fun A' R s' hS => ?_) ⟨rfl, rfl, wpAny_truthy_bool h⟩
  obtain ⟨rfl, rfl, hq⟩ := hS
  show wpAny _ _ (dictGet d (.ref a) >>= _) _ _ _
  refine wpAny_bind (get_alien hA hu hkey htup dd ht ?_)
  show wpAny _ _ (Builtin.Dict.pendingKey? d (.ref a) >>= _) _ _ _
  exact wpAny_bind (wpAny_pendingKey_other hs (wpAny_pure hq))
end
section
variable {X : Cx} {pins : List (Addr × Obj)} {σ : St} {H : Hp} {s : Shared} {a : Addr} {kvs : List (Key × V)} {A : Around} {E : Value → Shared → Prop}
/-- what no dict of texts has as a key -/
def NoKey (H : Hp) (y : V) : Prop := (∃ b, y = .bl b) ∨ ∃ (p : Addr) (ks : List Key), y = .ref p ∧ H p = some (.tup (ks.map kV))
theorem kv_txt {vs : List (Key × Value)} (r : KV kvs vs) (ht : ∀ p ∈ kvs, ∃ x, p.1 = Sum.inr x) : ∀ p ∈ vs, ∃ x, p.1 = Sum.inr x := by
  induction r with
  | nil => intro p hp; cases hp
  | cons h _ ih =>
    intro p hp
    rcases List.mem_cons.mp hp with rfl | hp
    · obtain ⟨x, hx⟩ := ht _ (List.mem_cons_self ..)
      exact ⟨x, by rw [← h.1]; exact hx⟩
    · exact ih (fun q hq => ht q (List.mem_cons_of_mem _ hq)) p hp
theorem d_inAl {Q : Value → Shared → Prop} {y : V} {u : Value} (hu : A.units + 1 < cLine) (I : Inv X pins σ H s) (e : Rd H a (.dK kvs)) (ht : ∀ p ∈ kvs, ∃ x, p.1 = Sum.inr x) (n : NoKey H y) (ry : RelV y u) (h : ∀ s', Inv X pins σ H s' → Q (.bool false) s') :
    wpAny (model X.prog X.w) A (compareOp .In u (.ref a)) Q E s := by
  obtain ⟨_, hd, vs, rel, dd⟩ := dk_rd I.hok e
  have ht' := kv_txt rel ht
  rcases n with ⟨b, rfl⟩ | ⟨p, ks, rfl, hp⟩
  · obtain ⟨f, hm, hf⟩ := bool_map dd ht'
    obtain rfl : u = Value.bool b := ry
    refine wpAny_in_of (show (boolKind X.prog X.w).is (.inl b) (.bool b) = true by simp [boolKind, bkIs]) hd hm ?_
    rw [hf]
    exact h _ (I.tok _)
  · cases (show u = Value.ref p from ry)
    have hk := key_of I.hok hp
    obtain ⟨o, its, n, h1, h2, h3, h4⟩ := id hk
    show wpAny _ _ (contains (.ref a) (.ref p) >>= fun b => pure (.bool b)) Q E s
    exact wpAny_bind (has_alien (by show A.units + 1 < cLine; exact hu) (tupleKind_room_in1 hu) hk ⟨o, h1, h2, n, h3⟩ hd dd ht' (wpAny_pure (h _ (I.tok _))))
theorem d_outAl {Q : Value → Shared → Prop} {y : V} {u : Value} (hu : A.units + 1 < cLine) (I : Inv X pins σ H s) (e : Rd H a (.dK kvs)) (ht : ∀ p ∈ kvs, ∃ x, p.1 = Sum.inr x) (n : NoKey H y) (ry : RelV y u) (h : ∀ s', Inv X pins σ H s' → Q (.bool true) s') :
    wpAny (model X.prog X.w) A (compareOp .NotIn u (.ref a)) Q E s := by
  obtain ⟨_, hd, vs, rel, dd⟩ := dk_rd I.hok e
  have ht' := kv_txt rel ht
  rcases n with ⟨b, rfl⟩ | ⟨p, ks, rfl, hp⟩
  · obtain ⟨f, hm, hf⟩ := bool_map dd ht'
    obtain rfl : u = Value.bool b := ry
    refine wpAny_notIn_of (show (boolKind X.prog X.w).is (.inl b) (.bool b) = true by simp [boolKind, bkIs]) hd hm ?_
    rw [hf]
    exact h _ (I.tok _)
  · cases (show u = Value.ref p from ry)
    have hk := key_of I.hok hp
    obtain ⟨o, its, n, h1, h2, h3, h4⟩ := id hk
    show wpAny _ _ (contains (.ref a) (.ref p) >>= fun b => pure (.bool !b)) Q E s
    exact wpAny_bind (has_alien (by show A.units + 1 < cLine; exact hu) (tupleKind_room_in1 hu) hk ⟨o, h1, h2, n, h3⟩ hd dd ht' (wpAny_pure (h _ (I.tok _))))
end
end L2
set_option Elab.async false
set_option linter.all false
set_option maxHeartbeats 1000000
namespace T3
open PySem L2
open Evl (Ex)
/-- in: as rIND; and values that no dict of texts has; and any data in a tuple of texts -/
def rINA (K : PySem.W.Frag) (P : Program) (w : World) (neg : Bool) : R2 := fun x y H Q => rIND K P w neg x y H Q ∨ (∃ (a : Addr) (kvs : List (L2.Key × V)), y = .ref a ∧ Rd H a (.dK kvs) ∧ (∀ p ∈ kvs, ∃ z, p.1 = Sum.inr z) ∧ NoKey H x ∧ Q (.bl neg) H) ∨
  ∃ d ds, Dp K H x d ∧ Dp K H y (.tuple ds) ∧ SeqAt.shaped d = true ∧ SeqAt.shaped (.tuple ds) = true ∧ Q (.bl (if neg then !(ds.any fun z => PyData.eqv z d) else ds.any fun z => PyData.eqv z d)) H
theorem canAll_of {ds : List PyData} (h : SeqAt.shaped (.tuple ds) = true) : PyData.canLayAll0 ds = true := by
  have := SeqAt.canLay_of_shaped h
  simpa [PyData.canLay0] using this
theorem op_INAK {X : Cx} (K : PySem.W.Frag) (P : Program) (w : World) (h1 : X.K = K) (h2 : X.prog = P) (h3 : X.w = w) (hu : X.A.units + 65 < cLine) : OpR X (compareOp .In) (rINA K P w false) := by
  intro pins s σ H x y v u Q I rx ry h
  rcases h with h | ⟨a, kvs, ey, hr, ht, hn, q⟩ | ⟨d, ds, hd, he, sd, se, q⟩
  · exact op_INDK K P w h1 h2 h3 hu pins s σ H x y v u Q I rx ry h
  · subst ey
    obtain rfl : u = Value.ref a := ry
    exact d_inAl (by omega) I hr ht hn rx fun s3 I3 => ⟨.bl false, H, I3, rfl, q⟩
  · subst h1
    obtain ⟨as, r1⟩ := Dp.reads I d x v hd rx
    obtain ⟨bs, r2⟩ := Dp.reads I (.tuple ds) y u he ry
    exact SeqAt.in_tuple_reads r2 r1 (canAll_of se) (SeqAt.canLay_of_shaped sd) (PyProof.Rows.room_in_shaped sd hu) ⟨.bl _, H, I, rfl, q⟩
theorem op_NINAK {X : Cx} (K : PySem.W.Frag) (P : Program) (w : World) (h1 : X.K = K) (h2 : X.prog = P) (h3 : X.w = w) (hu : X.A.units + 65 < cLine) : OpR X (compareOp .NotIn) (rINA K P w true) := by
  intro pins s σ H x y v u Q I rx ry h
  rcases h with h | ⟨a, kvs, ey, hr, ht, hn, q⟩ | ⟨d, ds, hd, he, sd, se, q⟩
  · exact op_NINDK K P w h1 h2 h3 hu pins s σ H x y v u Q I rx ry h
  · subst ey
    obtain rfl : u = Value.ref a := ry
    exact d_outAl (by omega) I hr ht hn rx fun s3 I3 => ⟨.bl true, H, I3, rfl, q⟩
  · subst h1
    obtain ⟨as, r1⟩ := Dp.reads I d x v hd rx
    obtain ⟨bs, r2⟩ := Dp.reads I (.tuple ds) y u he ry
    exact SeqAt.notIn_tuple_reads r2 r1 (canAll_of se) (SeqAt.canLay_of_shaped sd) (PyProof.Rows.room_in_shaped sd hu) ⟨.bl _, H, I, rfl, q⟩
section
variable {B : Hp} {M : Mem} {K : PySem.W.Frag} {P : Program} {w : World} {Q : DQ} {neg : Bool} {x y : D}
theorem r3_inA (h : R3 B (rIND K P w neg) x y M Q) : R3 B (rINA K P w neg) x y M Q := fun F H xv yv Qv b st rx ry k => .inl (h F H xv yv Qv b st rx ry k)
/-- what is no key of a dict of texts -/
def NoKeyD (x : D) : Prop := (∃ b, x = .bl b) ∨ ∃ ks : List L2.Key, x = .tup (ks.map kD)
theorem pkv_txt {F : Hp} : ∀ {kvs : List (L2.Key × D)} {kv : List (L2.Key × V)}, PKV F kvs kv → (∀ p ∈ kvs, ∃ z, p.1 = Sum.inr z) → ∀ p ∈ kv, ∃ z, p.1 = Sum.inr z
  | _, _, .nil, _, p, hp => by cases hp
  | (g, d') :: r, (g', v') :: rv, .cons h t, ht, p, hp => by
    rcases List.mem_cons.mp hp with rfl | hp
    · obtain ⟨z, hz⟩ := ht _ (List.mem_cons_self ..)
      exact ⟨z, h.1.symm.trans hz⟩
    · exact pkv_txt t (fun q hq => ht q (List.mem_cons_of_mem _ hq)) p hp
theorem r3_inNo {a : Addr} {kvs : List (L2.Key × D)} (hx : NoKeyD x) (hm : M a = some (.dK kvs)) (ht : ∀ p ∈ kvs, ∃ z, p.1 = Sum.inr z) (q : Q (.bl neg) M) : R3 B (rINA K P w neg) x (.ref a) M Q := fun F H xv yv Qv b st rx ry k => by
  obtain ⟨_, ho, h1, kv, e, pk⟩ := st.own a _ hm
  subst e
  refine .inr (.inl ⟨a, kv, ry, .inl h1, pkv_txt pk ht, ?_, k F M (.bl neg) _ H (Ex.refl _) st rfl q⟩)
  rcases hx with ⟨c, rfl⟩ | ⟨ks, rfl⟩
  · exact .inl ⟨c, rx⟩
  · obtain ⟨p, vs, e2, hb, rs⟩ := rx
    rw [rs.keys] at hb
    exact .inr ⟨p, ks, e2, st.fz p _ hb⟩
theorem dp_strs {H : Hp} : ∀ ss : List Str, DpAll K H (ss.map V.str) (ss.map PyData.str)
  | [] => .nil
  | x :: ss => .cons (.str x) (dp_strs ss)
theorem pys_strs : ∀ ss : List Str, pys (ss.map D.str) = ss.map PyData.str
  | [] => rfl
  | z :: zs => by
    show py (D.str z) :: pys (zs.map D.str) = PyData.str z :: zs.map PyData.str
    rw [pys_strs zs]; rfl
theorem r3_inTup {n : Nat} {a : Addr} {ss : List Str} (ht : ∀ H, SqT K H a (ss.map V.str)) (hss : okDs 0 (ss.map D.str) = true) (hx : okD n x = true) (q : Q (.bl (if neg then !((ss.map D.str).any fun z => peq z x) else (ss.map D.str).any fun z => peq z x)) M) (hn : n ≤ 64 := by decide) :
    R3 B (rINA K P w neg) x (.ref a) M Q := fun F H xv yv Qv b st rx ry k => by
  have e1 := pys_strs ss
  have e2 : okD 1 (.tup (ss.map D.str)) = true := hss
  have e3 : SeqAt.shaped (.tuple (ss.map PyData.str)) = true := by
    have := okD_shaped e2 (by decide)
    rw [← e1]; exact this
  refine .inr (.inr ⟨py x, ss.map PyData.str, okD_dp st.fz hx rx, ?_, okD_shaped hx hn, e3, ?_⟩)
  · rw [show yv = V.ref a from ry]
    exact .tup (ht H) (dp_strs ss)
  · have e4 : ((ss.map PyData.str).any fun z => PyData.eqv z (py x)) = (ss.map D.str).any fun z => peq z x := by
      rw [← e1, any_pys]; rfl
    rw [e4]
    exact k F M (.bl _) _ H (Ex.refl _) st rfl q
end
end T3
set_option Elab.async false
set_option linter.all false
set_option maxRecDepth 100000
set_option maxHeartbeats 2000000
namespace L2
open PySem PySem.Spec PyProof.Rows
def rNB : V → V → Hp → VK → Prop := fun x y H Q => ∃ a b, x = .bl a ∧ y = .bl b ∧ Q (.bl (!decide (a = b))) H
theorem op_NB {X : Cx} : OpR X (compareOp .IsNot) rNB := op_isnot_bl
def rIB : V → V → Hp → VK → Prop := fun x y H Q => ∃ a b, x = .bl a ∧ y = .bl b ∧ Q (.bl (decide (a = b))) H
theorem op_IB {X : Cx} : OpR X (compareOp .Is) rIB := op_is_bl
def rUP : V → List V → Hp → VK → Prop := fun x xs H Q => ∃ a, x = .str a ∧ xs = [] ∧ a.length ≤ 5592405 ∧ Q (.str (Txt.upper a)) H
theorem mt_UP {X : Cx} : MtR X "str.upper" rUP := mt_upper
theorem pi_listK {X : Cx} (K : PySem.W.Frag) (hK : X.K = K) {tg l : Expr} {tl : TE} (hl : PE X l tl) : PI X tg l (iList K tl) := hK ▸ pi_list hl
end L2
namespace T3
open PySem L2
open Evl (Ex)
section
variable {B : Hp} {M : Mem} {K : PySem.W.Frag} {Q : DQ} {x y : D} {ds : List D} {a : Addr} {s : Str}
theorem r3_NB {c d : Bool} (q : Q (.bl (!decide (c = d))) M) : R3 B rNB (.bl c) (.bl d) M Q := fun F H xv yv Qv b st rx ry k => ⟨c, d, rx, ry, k F M (.bl _) _ H (Ex.refl _) st rfl q⟩
theorem r3_IB {c d : Bool} (q : Q (.bl (decide (c = d))) M) : R3 B rIB (.bl c) (.bl d) M Q := fun F H xv yv Qv b st rx ry k => ⟨c, d, rx, ry, k F M (.bl _) _ H (Ex.refl _) st rfl q⟩
theorem m3_upper (hl : s.length ≤ 1000000) (q : Q (.str (Txt.upper s)) M) : M3 B rUP (.str s) [] M Q := fun F H xv xvs Qv b st rx rxs k =>
  ⟨s, rx, rxs, Nat.le_trans hl (by decide), k F M (.str (Txt.upper s)) _ H (Ex.refl _) st rfl q⟩
theorem m3_popAt0 (h : M a = some (.lst (x :: ds))) (hl : ds.length ≤ 100000) (q : Q x (mput M a (.lst ds))) : M3 B rPopAt (.ref a) [.int 0] M Q := fun F H xv xvs Qv b st rx rxs k => by
  obtain ⟨v, e, ry⟩ := rxs.sing
  rw [show v = V.int 0 from ry] at e
  obtain ⟨_, ho, h1, vs, e2, rs⟩ := st.own a _ h
  subst e2
  obtain ⟨u, us, eu, ru, rus⟩ := rs
  subst eu
  refine ⟨a, u :: us, 0, 0, u, rx, e, h1, by decide, by decide, ?_, rfl, k F _ x _ _ (Ex.refl _) (st.put h (d' := .lst ds) ⟨us, rfl, rus⟩) ru q⟩
  simp [seqIndex?]
/-- a slice that is changed later -/
theorem s3_lO {lo hi : Option Int} (l : LstD M x ds) (q : ∀ p, M p = none → Q (.ref p) (mput M p (.lst (cutD ds lo hi)))) : S3 B (rSL K) x lo hi M Q := fun F H xv Qv b st rx k => by
  obtain ⟨c, vs, e, h1, r⟩ := l.seq (K := K) st rx
  exact .inl ⟨c, vs, e, h1, fun p hp => k F (mput M p (.lst (cutD ds lo hi))) (.ref p) _ _ (Ex.refl _) (st.newO hp ⟨_, rfl, r.cut lo hi⟩) rfl (q p (st.nn hp).2)⟩
end
end T3
set_option Elab.async false
set_option linter.all false
namespace L2
open PySem PySem.Spec PyProof.Rows
def tTry (K : PySem.W.Frag) (Wo : WX) (l : List (Value × Option Nat × TS)) (tb : WX → TS) : TS := fun D σ H => tb (wManyA K Wo D l) D σ H
section
variable {X : Cx} {body : List Stmt} {h₀ : ExceptHandler} {hds : List ExceptHandler} {l : List (Value × Option Nat × TS)} {pos : Pos} {tb : WX → TS} {Wout : WX}
theorem ps_tryM (hs : X.stack = X.env :: X.outer) (hf : X.env.frame = some X.env.locals) (hN : X.N.Nodup) (hex : X.ex = []) (tk : Takes X Wout)
    (hb : ∀ (W : WX) (pn : List (Addr × Obj)) (xe : Value → Shared → Prop), Takes (X.tr pn xe) W → PassesOwn (model X.prog X.w) X.A X.env xe → PSs (X.tr pn xe) body (tb W))
    (hh : HdsOkA X (h₀ :: hds) l) : PS X (.Try body (h₀ :: hds) [] [] pos) (tTry X.K Wout l tb) := ps_try_manyA hs hf hN hex tk hb hh
end
end L2
namespace T3
open PySem L2
open Evl (Ex)
theorem s_tryM {B : Hp} {M : Mem} {K : PySem.W.Frag} {σ : Sig} {D3 : Ends3} {tb : WX → TS} {l : List (Value × Option Nat × TS)} {Wo : WX} {EWo : EW3} (ho : ImpW B EWo Wo) (h : ∀ B' W EW, Ex B B' → exW B K EWo D3 l = EW → ImpW B' EW W → W3s B' (tb W) D3 σ M) : W3s B (tTry K Wo l tb) D3 σ M := s_try (tb := tb) ho fun B' W b hW => h B' W _ b rfl hW
end T3
set_option Elab.async false
set_option linter.all false
set_option maxRecDepth 100000
set_option maxHeartbeats 2000000
namespace L2
open PySem PySem.Spec PyProof.Rows
/-! ### C(k = v) where what it raises is looked at with the slots of that moment -/
def tMakeT (C : Addr) (n m : Nat) (sp : Sp) (gV : List V → List V → List V) (E : St → XK) (t tk : TA) : TE := fun σ H Q => t σ H fun vs H1 => tk σ H1 fun zs H2 => vs.length = n ∧ zs.length = m ∧ ∀ x dx, H2 x = none → H2 dx = none → dx ≠ x →
  sp (gV (.ref x :: vs) zs) (upd (upd H2 dx (.own x)) x (.ins C dx [])) (fun v H3 => v = .non ∧ Q (.ref x) H3) (E σ)
/-- what leaves a call in a fresh state leaves at the caller's -/
def PassesNew (CX : CXT) (X : Cx) (σ : St) (E : XK) : Prop := ∀ (pins : List (Addr × Obj)) (H H' : Hp) (s s0 : Shared) (e : Value) (s' : Shared), Inv X pins σ H s → Inv X pins σ H' s0 → CX X.stack H' s0 E e s' → X.xe e s'
theorem passesNew {CX : CXT} {X : Cx} {σ : St} {E : XK} (h : PassesAt CX X σ E) : PassesNew CX X σ E := fun pins _ H' _ s0 e s' _ I c => h pins H' s0 e s' I c
section
variable {X : Cx} {CX : CXT} {k n : Nat} {f C : Addr} {fd : FuncData} {ps ks : List Str} {sp : Sp} {E : St → XK} {x : Str} {p pos : Pos} {kws : List Keyword} {t tk : TA} {g : List Value → List Value → List Value} {gV : List V → List V → List V}
theorem run_makeT {pins : List (Addr × Obj)} {σ : St} {H : Hp} {s : Shared} {Q : VK} {us ws : List Value} {vs zs : List V} (M : Mk X.K C f) (F : FnOk X.prog X.w X.K X.mg X.base CX k f fd ps sp) (hr : Room (k + 1) X.A) (hb : KBn X.K fd ps (n + 1) ks g gV) (hx : PassesAt CX X σ (E σ))
    (I : Inv X pins σ H s) (r : Vals vs us) (rz : Vals zs ws) (l1 : vs.length = n) (l2 : zs.length = ks.length)
    (h : ∀ x dx, H x = none → H dx = none → dx ≠ x → sp (gV (.ref x :: vs) zs) (upd (upd H dx (.own x)) x (.ins C dx [])) (fun v H2 => v = .non ∧ Q (.ref x) H2) (E σ)) :
    wpAny (model X.prog X.w) X.A (call (.ref C) us (ks.zip ws)) (EP X pins σ Q) X.xe s := by
  have hq := h (s.heap.objs.size + 1) s.heap.objs.size (I.hok.fresh (Nat.le_succ _)) (I.hok.fresh (Nat.le_refl _)) (Nat.ne_of_lt (Nat.lt_succ_self _))
  have I2 := Inv.made (C := C) I
  have r1 : Vals (V.ref (s.heap.objs.size + 1) :: vs) (Value.ref (s.heap.objs.size + 1) :: us) := .cons rfl r
  have r2 := hb.rel r1 rz
  have n1 : (Value.ref (s.heap.objs.size + 1) :: us).length = n + 1 := by
    rw [List.length_cons, ← r.length, l1]
  refine wpAny_call (make_map (f := f) I.kIn M.makes M.init (beq_iff_eq.mp M.fn) (codeAny_mono (F.run _ X.stack _ _ ⟨Value.ref (s.heap.objs.size + 1) :: us, ks.zip ws⟩ (g (Value.ref (s.heap.objs.size + 1) :: us) ws) _ _ (E σ) (hr.make C us (ks.zip ws))
    (I2.env0.make C us (ks.zip ws)) (hb.to _ (Value.ref (s.heap.objs.size + 1) :: us) ws I2.kIn n1 (rz.length.symm.trans l2)) r2 hq) fun r s' hq' => ?_))
  cases r with
  | error e => exact hx pins _ _ e s' I2 hq'
  | ok fl =>
    cases fl with
    | ret u =>
      obtain ⟨v, H', I3, rv, ev, q3⟩ := I2.after hq'
      subst ev
      exact ⟨rv, ⟨V.ref (s.heap.objs.size + 1), H', I3, rfl, q3⟩⟩
    | next => exact False.elim hq'
    | brk => exact False.elim hq'
    | cont => exact False.elim hq'
theorem pe_makeT0 (M : Mk X.K C f) (F : FnOk X.prog X.w X.K X.mg X.base CX k f fd ps sp) (hr : Room (k + 1) X.A) (hg : Gl X x) (hm : X.mg x = some (.ref C)) (hb : KBn X.K fd ps 1 ks g gV) (hx : ∀ σ, PassesAt CX X σ (E σ)) (hkw : PK X kws tk)
    (hall : (backToKw pos (keywordEach kws X.env)).all (·.1.isSome) = true := by rfl) (hks : (backToKw pos (keywordEach kws X.env)).filterMap (·.1) = ks := by rfl) (hdb : (x == ("__debug__" : Str)) = false := by decide)
    (hpl : ((backTo pos (starEach [] X.env)).any (·.1) || (backToKw pos (keywordEach kws X.env)).any (·.1.isNone)) = false := by rfl) :
    PE X (.Call (.Name x p) [] kws pos) (tMakeT C 0 ks.length sp gV E tNil tk) := by
  refine ⟨fun pins s σ H Q I h => ?_⟩
  refine wpAny_Call_Name_kw (ld_glob I hg hm ?_ hdb)
  refine PySem.W.callWith_KW0 (h₀ := X.base) I.ok.mod.kin M.kp hall ?_ hpl
  refine thn (hkw.run pos pins s σ H _ I h) fun ws s2 ⟨zs, H2, I2, rz, l1, l2, q2⟩ => ⟨I2.kIn, ?_⟩
  rw [hks]
  exact run_makeT (us := []) (vs := []) M F hr hb (hx σ) I2 .nil rz rfl l2 q2
theorem pe_conK {X : Cx} {e : Expr} {ta : TE} {f : Str} {pos : Pos} (K : PySem.W.Frag) (h : X.K = K) (he : PE X e ta) (hb : attributeBase e f X.env (eval e X.env) = eval e X.env := by rfl) : PE X (.Attribute e f pos) (tCon K ta f) := by subst h; exact pe_con he hb
end
/-! ### len of an own instance -/
def rLenOwn (C : Addr) (f : Str) : List V → Hp → VK → Prop := fun xs H Q => ∃ (a dx : Addr) (fs : List (Str × V)) (l : Addr) (zs : List V), xs = [V.ref a] ∧ H a = some (.ins C dx fs) ∧ fs.lookup f = some (V.ref l) ∧ H l = some (.lst zs) ∧ Q (.int zs.length) H
section
variable {X : Cx} {n : Nat} {C fl : Addr} {fdL : FuncData} {psL : List Str} {g : Str}
theorem call_lenOwn (hle : PySem.W.findIn X.K (.ref C) "__len__" = some (some (.ref fl))) (hlf : PySem.W.isFn X.K (.ref fl) = true)
    (FL : FnOk X.prog X.w X.K X.mg X.base CX0 n fl fdL psL (spLen C g)) (bL : Binds X.K fdL psL []) (hr : Room (n + 1) X.A) : CallR X (.builtin "len") (rLenOwn C g) := by
  intro pins s σ H xs us Q I rv h
  obtain ⟨a, dx, fs, l, zs, rfl, ha, hg, hl, q⟩ := h
  obtain ⟨u, rfl, ru⟩ := vals1 rv
  obtain rfl : u = Value.ref a := ru
  obtain ⟨mA, J, _⟩ := ins_get I.hok ha
  obtain ⟨od, J, _⟩ := J.look
  obtain ⟨m0, hF⟩ := I.fr
  have KX := I.kIn
  have hlen := (I.lstM hl).1
  have q1 : spLen C g [.ref a] H (fun v H' => v = .int zs.length ∧ H' = H) (fun _ _ _ => False) := ⟨a, dx, fs, l, zs, rfl, ha, hg, hl, rfl, rfl⟩
  have hll := FL.len _ _ _ _ q1
  have e0 : Env0 X.prog X.w X.K X.mg X.base X.A.in1 X.stack s H := I.env0.in1
  have b := bL s [.ref a] KX (by simpa using hll)
  rw [List.append_nil] at b
  refine PySem.W.len_K hF I.ok.mod.kin J hle hlf ?_
  refine wpAny_call (codeAny_mono (FL.run X.A.in1 X.stack s H ⟨[.ref a], []⟩ [.ref a] [.ref a] _ (fun _ _ _ => False) hr.in1 e0 b (.cons rfl .nil) q1) fun r s' hq => ?_)
  cases r with
  | error e => exact hq.elim
  | ok fl =>
    cases fl with
    | next => exact False.elim hq
    | brk => exact False.elim hq
    | cont => exact False.elim hq
    | ret u =>
      obtain ⟨v, H', I', rv, ev, eH⟩ := I.after hq
      subst ev
      rw [eH] at I'
      obtain ⟨t, rfl⟩ := rv
      have hz := sizeLine_eq
      exact ⟨⟨by omega, by omega⟩, .int zs.length, H, I'.tok _, ⟨_, rfl⟩, q⟩
end
end L2
namespace T3
open PySem L2
open Evl (Ex)
section
variable {B : Hp} {M : Mem} {K : PySem.W.Frag} {σ : Sig} {t tk : TA} {ta tv te : TE} {Q : DQ} {S : Sp3} {E3 : EQ3} {dds : List D} {dvs : List V} {P : Program} {w : World} {D3 : Ends3}
/-- a constant of the class through an instance -/
theorem w_con {f : Str} {i : Int} {C : Addr} {u : Value} (hv : Con K C f (.int i) u) (hc : Cls K C) (h : W3e B ta σ M (fun x M1 => ∃ fs, InsD M1 x C fs ∧ fs.lookup f = none ∧ Q (.int i) M1)) : W3e B (tCon K ta f) σ M Q := fun F σv H Qv b hs st k =>
  h F σv H _ b hs st fun F1 M1 x xv H1 e1 st1 rx ⟨fs, hi, l, q⟩ => by
    obtain ⟨a, dx, fv, ev, ha, pk⟩ := hi.at st1 rx
    exact ⟨a, C, dx, fv, .int i, u, ev, ha, hc, hv, (pkv_look pk).2 l, k F1 M1 (.int i) _ H1 e1 st1 rfl q⟩
/-- a property, read -/
theorem w_prop {C : Addr} {E : XK} (hE : ImpE B E3 E) (h : W3e B ta σ M (fun x M1 => ∃ fs, InsD M1 x C fs ∧ S [x] M1 Q E3)) : W3e B (tProp C (lift3 S) [] E ta) σ M Q := fun F σv H Qv b hs st k =>
  h F σv H _ b hs st fun F1 M1 x xv H1 e1 st1 rx ⟨fs, hi, q1⟩ => by
    obtain ⟨a, dx, fv, ev, ha, pk⟩ := hi.at st1 rx
    refine ⟨a, dx, fv, ev, ha, ?_⟩
    exact lift_of (ds := [x]) (b.trans e1) st1 ⟨_, _, rfl, (by rw [← ev]; exact rx), rfl⟩ hE (fun F3 M3 d v H3 e3 s3 r3 q3 => k F3 M3 d v H3 (e1.trans e3) s3 r3 q3) q1
theorem c3_lenOwn {b l C : Addr} {f : Str} {fs : List (Str × D)} {ds : List D} (hb : M b = some (.ins C fs)) (hf : fs.lookup f = some (.ref l)) (hm : M l = some (.lst ds)) (q : Q (.int ds.length) M) : C3 B (rLenOwn C f) [.ref b] M Q := fun F H xv Qv bb st rx k => by
  obtain ⟨v, e, r⟩ := rx.sing
  subst e
  obtain rfl : v = V.ref b := r
  obtain ⟨_, ho0, h0, dx, fv, e0, pk⟩ := st.own b _ hb
  subst e0
  obtain ⟨v0, hv0, rv0⟩ := (pkv_look (f := f) pk).1 hf
  have rv0 : v0 = V.ref l := rv0
  subst rv0
  obtain ⟨_, ho, h1, vs, e2, rs⟩ := st.own l _ hm
  subst e2
  exact ⟨b, dx, fv, l, vs, rfl, h0, hv0, h1, by rw [← rs.length]; exact k F M (.int _) _ H (Ex.refl _) st rfl q⟩
/-- C(k = v) -/
theorem w_makeT {C : Addr} {n k' : Nat} {gV : List V → List V → List V} {gD : List D → List D → List D} {W : WX} {EW : EW3} (hg : Put2 gV gD) (hW : ImpW B EW W)
    (h : W3a B t σ M (fun ds M2 => W3a B tk σ M2 (fun es M3 => ds.length = n ∧ es.length = k' ∧ ∀ p, M3 p = none → S (gD (.ref p :: ds) es) (mput M3 p (.ins C [])) (fun d M4 => d = .non ∧ Q (.ref p) M4) (fun C th M' => EW C th σ M')))) : W3e B (tMakeT C n k' (lift3 S) gV (WE W) t tk) σ M Q := fun F σv H Qv b hs st k =>
  h F σv H _ b hs st fun F1 M1 ds vs H1 e1 st1 rs q1 => q1 F1 σv H1 _ (b.trans e1) (hs.mono e1) st1 fun F2 M2 es zs H2 e2 st2 rz ⟨l1, l2, q2⟩ => by
    refine ⟨by rw [← rs.length]; exact l1, by rw [← rz.length]; exact l2, fun x dx hx hdx hne => ?_⟩
    have hx2 : (upd H2 dx (.own x)) x = none := by rw [upd_ne (Ne.symm hne)]; exact hx
    have s1 : St3 F2 M2 (upd H2 dx (.own x)) := by
      obtain ⟨f0, m0⟩ := st2.nn hdx
      refine ⟨fun a u e => ?_, fun a u e => ?_⟩
      · rw [upd_ne (ne_of_none e f0)]; exact st2.fz a u e
      · obtain ⟨y1, ho, y2, y3⟩ := st2.own a u e
        exact ⟨y1, ho, by rw [upd_ne (mne e m0)]; exact y2, y3⟩
    have s2 := s1.newO (p := x) (o := .ins C dx []) (d := .ins C []) hx2 ⟨dx, [], rfl, .nil⟩
    refine ⟨gD (.ref x :: ds) es, F2, _, (fun d M4 => d = .non ∧ Q (.ref x) M4), _, hg _ _ _ _ _ ⟨V.ref x, _, rfl, rfl, rs.mono e2⟩ rz, s2, fun F3 M3 d v H3 e3 s3 r3 ⟨ed, q3⟩ => ?_, fun F' M' C d thing v H' e s r z q' => hW F' M' σ σv C d thing v H' ((b.trans (e1.trans e2)).trans e) ((hs.mono (e1.trans e2)).mono e) s r z q', q2 x (st2.nn hx).2⟩
    subst ed
    exact ⟨r3, k F3 M3 (.ref x) (.ref x) H3 ((e1.trans e2).trans e3) s3 rfl q3⟩
/-- forget much at once -/
theorem vs_less {d : D} {M M' : Mem} (h : ∀ a o, M' a = some o → M a = some o) : VS d M d M' := fun F H v s r => ⟨F, Ex.refl _, ⟨s.fz, fun a o e => s.own a o (h a o e)⟩, r⟩
theorem vss_less {σ : Sig} {M M' : Mem} (h : ∀ a o, M' a = some o → M a = some o) : VSs σ M σ M' := fun F H σv s r => ⟨F, Ex.refl _, ⟨s.fz, fun a o e => s.own a o (h a o e)⟩, r⟩
end
end T3
set_option Elab.async false
set_option linter.all false
set_option maxRecDepth 100000
set_option maxHeartbeats 2000000
namespace L2
open PySem PySem.Spec PyProof.Rows PySem.W
/-! ### a method with **d, called with keywords: they are laid into a new dict -/
def kwPs (ks : List Str) (zs : List V) : List (Key × V) := (ks.map Sum.inr).zip zs
theorem mod_last {α : Type} (f : α → α) (a : α) : ∀ l : List α, (l ++ [a]).modify l.length f = l ++ [f a]
  | [] => rfl
  | x :: l => by
    show x :: (l ++ [a]).modify l.length f = _
    rw [mod_last f a l]
    rfl
theorem push_update (h : Heap) (o : Obj) (f : Obj → Obj) : (h.push o).update h.objs.size f = h.push (f o) := by
  cases h with
  | mk objs l =>
    show (⟨(objs.push o).modify objs.size f, l⟩ : Heap) = ⟨objs.push (f o), l⟩
    congr 1
    apply Array.ext'
    rw [Array.toList_modify, Array.toList_push, Array.toList_push]
    exact mod_last f o objs.toList
theorem kw_put {M : Model} {A : Around} {E : Value → Shared → Prop} {h : Heap} {s : Shared} {es : List DictEntry} {n : Nat} {k : Str} {v : Value} {Q : Unit → Shared → Prop} (hp : s.heap = h.push (dictOf es n))
    (hs : ∀ e ∈ es, e.key.isStr k = false) (hr : ∀ e ∈ es, e.refKey = false)
    (q : Q () { s with heap := h.push (dictOf (es ++ [⟨PyData.keyHash M.w.params k, .str k s.toks, v⟩]) (n + 1)), toks := s.toks + 1 }) :
    wpAny M A (nsSet h.objs.size k v) Q E s := by
  have e1 : es.any (·.key.isStr k) = false := by
    cases q : es.any (·.key.isStr k) with
    | false => rfl
    | true => obtain ⟨e, he, z⟩ := List.any_eq_true.mp q; rw [hs e he] at z; cases z
  have e2 : es.any (·.refKey) = false := by
    cases q : es.any (·.refKey) with
    | false => rfl
    | true => obtain ⟨e, he, z⟩ := List.any_eq_true.mp q; rw [hr e he] at z; cases z
  have e : Obj.putName k (PyData.keyHash M.w.params k) (.str k s.toks) v (dictOf es n) = dictOf (es ++ [⟨PyData.keyHash M.w.params k, .str k s.toks, v⟩]) (n + 1) := by
    rw [putName_dict, putL_new hs]
    show dictOf _ (if es.any (·.key.isStr k) then n else n + 1) = _
    rw [e1, if_neg Bool.false_ne_true]
  have D : s.heap.get? h.objs.size = some (dictOf es n) := by rw [hp]; exact Heap.get?_push_size h rfl
  have c : aRefKeyMayBeTheName k es.toArray = false := by
    rw [aRefKeyMayBeTheName_at, ← Array.any_toList, ← Array.any_toList]
    show (!es.any (·.key.isStr k) && es.any (·.refKey)) = false
    rw [e2, Bool.and_false]
  unfold nsSet
  refine wpAny_bind (wpAny_bind (wpAny_askSetting (wpAny_pure (wpAny_bind (wpAny_mkText (wpAny_bind (wpAny_loadPart D ?_)))))))
  dsimp only
  rw [c]
  refine wpAny_updatePart D ?_
  show Q () { s with heap := s.heap.update h.objs.size _, toks := s.toks + 1 }
  rw [hp, push_update]
  show Q () { s with heap := h.push (Obj.putName k (PyData.keyHash M.w.params k) (.str k s.toks) v (dictOf es n)), toks := s.toks + 1 }
  rw [e]
  exact q
theorem kw_fill {M : Model} {A : Around} {E : Value → Shared → Prop} {h : Heap} {Q : PUnit → Shared → Prop} : ∀ (ex : List (Str × Value)) (s : Shared) (es : List DictEntry) (n : Nat), s.heap = h.push (dictOf es n) →
    (∀ e ∈ es, ∀ x ∈ ex, e.key.isStr x.1 = false) → (∀ e ∈ es, e.refKey = false) → (ex.map (·.1)).Nodup →
    Q ⟨⟩ { s with heap := h.push (dictOf (es ++ kwEs M.w.params s.toks ex) (n + ex.length)), toks := s.toks + ex.length } →
    wpAny M A (forIn ex PUnit.unit fun x _ => (nsSet h.objs.size x.1 x.2 >>= fun _ => pure (ForInStep.yield PUnit.unit))) Q E s
  | [], s, es, n, hp, _, _, _, q => by
    rw [List.forIn_nil]
    refine wpAny_pure ?_
    have q : Q ⟨⟩ { s with heap := h.push (dictOf (es ++ []) n), toks := s.toks } := q
    rw [List.append_nil, ← hp] at q
    exact q
  | x :: r, s, es, n, hp, hs, hr, hn, q => by
    obtain ⟨hn1, hn2⟩ := List.nodup_cons.mp (show (x.1 :: r.map (·.1)).Nodup from hn)
    rw [List.forIn_cons]
    refine wpAny_bind (wpAny_bind (kw_put hp (fun e he => hs e he x (.head _)) hr (wpAny_pure ?_)))
    show wpAny M A (forIn r PUnit.unit fun x _ => (nsSet h.objs.size x.1 x.2 >>= fun _ => pure (ForInStep.yield PUnit.unit))) Q E _
    refine kw_fill r _ _ _ rfl (fun e he y hy => ?_) (fun e he => ?_) hn2 ?_
    · rcases List.mem_append.mp he with he | he
      · exact hs e he y (.tail _ hy)
      · obtain rfl := List.mem_singleton.mp he
        show (x.1 == y.1) = false
        exact beq_eq_false_iff_ne.mpr fun q => hn1 (by rw [q]; exact List.mem_map_of_mem hy)
    · rcases List.mem_append.mp he with he | he
      · exact hr e he
      · obtain rfl := List.mem_singleton.mp he
        rfl
    · have t1 : s.toks + 1 + r.length = s.toks + (r.length + 1) := by omega
      have t2 : n + 1 + r.length = n + (r.length + 1) := by omega
      show Q ⟨⟩ { s with heap := h.push (dictOf ((es ++ [⟨PyData.keyHash M.w.params x.1, .str x.1 s.toks, x.2⟩]) ++ kwEs M.w.params (s.toks + 1) r) (n + 1 + r.length)), toks := s.toks + 1 + r.length }
      rw [t1, t2, List.append_assoc]
      exact q
theorem kwEs_mix {P : Program} {w : World} : ∀ {ks : List Str} {ws : List Value} {zs : List V} (t : Tok), Vals zs ws → zs.length = ks.length → ∃ vs, KV (kwPs ks zs) vs ∧ Pairs (mixKind P w) (kwEs w.params t (ks.zip ws)) vs ∧ vs.map (·.1) = ks.map Sum.inr
  | [], _, _, t, .nil, _ => ⟨[], .nil, .nil, rfl⟩
  | k :: ks, _, _, t, .cons r rs, l => by
    obtain ⟨vs, h1, h2, h3⟩ := kwEs_mix (P := P) (w := w) (ks := ks) (t + 1) rs (Nat.succ.inj l)
    exact ⟨(Sum.inr k, _) :: vs, .cons ⟨rfl, r⟩ h1, .cons (mixKind_str P w k t) rfl h2, by rw [List.map_cons, h3]; rfl⟩
  | [], _, _, _, .cons _ _, l => nomatch l
  | _ :: _, _, _, _, .nil, l => nomatch l
theorem kw_obj {P : Program} {w : World} {H : Hp} {h : Heap} {ks : List Str} {ws : List Value} {zs : List V} {n : Nat} (t : Tok) (hb : sysModules < h.objs.size) (r : Vals zs ws) (l : zs.length = ks.length) (hz : ks.length ≤ sizeLine) (nd : ks.Nodup) :
    ObjOk P w H (h.push (dictOf (kwEs w.params t (ks.zip ws)) n)) h.objs.size (.dK (kwPs ks zs)) := by
  obtain ⟨vs, h1, h2, h3⟩ := kwEs_mix (P := P) (w := w) t r l
  refine ⟨?_, beq_eq_false_iff_ne.mpr (Ne.symm (Nat.ne_of_lt hb)), vs, h1, _, _, _, Heap.get?_push_size _ rfl, ⟨rfl, rfl, rfl⟩, rfl, fun e he => ?_, h2, ?_⟩
  · show (kwPs ks zs).length ≤ sizeLine
    unfold kwPs
    rw [List.length_zip, List.length_map]
    exact Nat.le_trans (Nat.min_le_left _ _) hz
  · obtain ⟨k, u, hk, hh⟩ := kwEs_key (ks.zip ws) t e (List.mem_toArray.mp he)
    exact ⟨.inr k, by rw [hk]; exact mixKind_str P w k u, hh.trans rfl⟩
  · rw [h3]
    exact List.Pairwise.map _ (fun a b q z => q (Sum.inr.inj z)) nd
/-- what binding does where keywords that are no parameters are let -/
structure KwB (fd : FuncData) (ps : List Str) (pd : Str) (ks : List Str) : Prop where
  to : ∀ (us ws : List Value), us.length = ps.length → ws.length = ks.length → bindArgs fd ⟨us, ks.zip ws⟩ =
    ((alloc (dictOf [] 0) : Sem Addr) >>= fun d => forIn (ks.zip ws) PUnit.unit (fun x _ => (nsSet d x.1 x.2 >>= fun _ => pure (ForInStep.yield PUnit.unit))) >>= fun _ => pure (ps.zip us ++ [(pd, Value.ref d)]))
  nd : ks.Nodup
  le : ks.length ≤ sizeLine
/-- a def with **d, called with the keywords ks -/
def FnKw (P : Program) (w : World) (K : PySem.W.Frag) (mg : Str → Option Value) (base : Heap) (CX : CXT) (k : Nat) (f : Addr) (ks : List Str) (sp : Sp) : Prop :=
  ∀ (A : Around) (outer : List Env) (s : Shared) (H : Hp) (us ws : List Value) (vs zs : List V) (Q : VK) (E : XK), Room k A → Env0 P w K mg base A outer s H → Vals vs us → Vals zs ws → zs.length = ks.length →
    (∀ d o, H d = none → sp (vs ++ [V.ref d]) (upd H d (.frz o (.dK (kwPs ks zs)))) Q E) → codeAny (model P w) A (.call (.ref f) ⟨us, ks.zip ws⟩) (CR CX outer P w H s Q E) s
section
open StX
variable {CX : CXT} {P : Program} {w : World} {K : PySem.W.Frag} {mg : Str → Option Value} {base : Heap} {k : Nat} {f : Addr} {x qual : Str} {st : Stmt} {fd : FuncData} {N ps ks : List Str} {sp : Sp} {pd : Str}
theorem Fun.okKw (F : Fun K x qual st f fd) (S : FnScope N (ps ++ [pd]) (defScope st)) (hCX : CXUp CX) (hb : KwB fd ps pd ks) (len : ∀ vs H Q E, sp vs H Q E → vs.length = ps.length + 1)
    (hbody : ∀ (cdv : Value) (A : Around) (outer : List Env) (s : Shared) (H : Hp) (vs : List V) (Q : VK) (E : XK), Room k (A.deeper (envOfC qual (defScope st) s.heap.objs.size f cdv)) → sp vs H Q E →
      ∃ t, PSs (cxOf CX P w K mg base N qual (defScope st) f cdv A outer s H E) (defBody st) t ∧ t { nx := fun _ H' => Q .non H', rt := Q } (start N vs) H) : FnKw P w K mg base CX (k + 1) f ks sp := by
  obtain ⟨oc, od, kV, doc, pm, an, cdv, ct, osl, rfl, lk, hcd⟩ := F.ex
  intro A outer s H us ws vs zs Q E hr e0 r rz lz hq
  have hn : H s.heap.objs.size = Option.none := e0.hok.fresh (Nat.le_refl _)
  have hl : us.length = ps.length := by
    have z := len _ _ _ _ (hq _ (dictOf [] 0) hn)
    rw [List.length_append] at z
    rw [← r.length]
    exact Nat.succ.inj z
  have hw : ws.length = ks.length := by rw [← rz.length]; exact lz
  refine run_bnd lk hcd S hr e0 (G := fun xs H2 => ∃ p o, H p = Option.none ∧ xs = vs ++ [V.ref p] ∧ H2 = upd H p (.frz o (.dK (kwPs ks zs)))) (fun A' Ex Q' h => ?_) fun s2 H2 xs ⟨p, o, hp, ex, eH⟩ hr' => ?_
  · rw [hb.to us ws hl hw]
    have hmap : ((ks.zip ws).map (·.1)) = ks := List.map_fst_zip (by rw [hw]; exact Nat.le_refl _)
    refine wpAny_bind (wpAny_alloc (wpAny_bind (kw_fill (ks.zip ws) _ [] 0 rfl (fun _ he => nomatch he) (fun _ he => nomatch he) (by rw [hmap]; exact hb.nd) (wpAny_pure ?_))))
    have new := kw_obj (P := P) (w := w) (H := upd H s.heap.objs.size (.frz (dictOf (kwEs w.params s.toks (ks.zip ws)) (0 + (ks.zip ws).length)) (.dK (kwPs ks zs)))) (h := s.heap) (n := 0 + (ks.zip ws).length) s.toks (env0_big e0) rz lz hb.le hb.nd
    have un := un_laid (fs := frs outer) (s := s) (o := dictOf (kwEs w.params s.toks (ks.zip ws)) (0 + (ks.zip ws).length)) (u := .frz (dictOf (kwEs w.params s.toks (ks.zip ws)) (0 + (ks.zip ws).length)) (.dK (kwPs ks zs))) hn
    have e1 := env0_laid (u := .frz (dictOf (kwEs w.params s.toks (ks.zip ws)) (0 + (ks.zip ws).length)) (.dK (kwPs ks zs))) e0 ⟨Heap.get?_push_size _ rfl, new⟩
    have e2 : Env0 P w K mg base A outer { s with heap := s.heap.push (dictOf (kwEs w.params s.toks (ks.zip ws)) (0 + (ks.zip ws).length)), toks := s.toks + (ks.zip ws).length } (upd H s.heap.objs.size (.frz (dictOf (kwEs w.params s.toks (ks.zip ws)) (0 + (ks.zip ws).length)) (.dK (kwPs ks zs)))) := ⟨e1.frames, e1.mod, e1.bs, e1.bsz, e1.funs, e1.frf, e1.hok, e1.bare⟩
    have z := h _ _ (vs ++ [V.ref s.heap.objs.size]) (us ++ [Value.ref s.heap.objs.size]) e2 un rfl (fun e s' => hCX outer s H _ _ E e s' un (fun b o q => Heap.get?_push_of_some _ q) rfl) (r.append (.cons rfl .nil))
      (by rw [List.length_append, List.length_append, r.length, hl] <;> rfl) ⟨_, _, hn, rfl, rfl⟩
    rw [List.zip_append hl.symm] at z
    exact z
  · subst ex eH
    exact hbody cdv A outer s2 _ _ Q E hr' (hq p o hp)
end
def tMethKw (C : Addr) (m : Str) (ks : List Str) (sp : Sp) (E : St → XK) (ta : TE) (tk : TA) : TE := fun σ H Q => ta σ H fun x H1 => ∃ a dx fs, x = .ref a ∧ H1 a = some (.ins C dx fs) ∧ fs.lookup m = none ∧
  tk σ H1 fun zs H3 => zs.length = ks.length ∧ ∀ d o, H3 d = none → sp [x, .ref d] (upd H3 d (.frz o (.dK (kwPs ks zs)))) Q (E σ)
section
variable {X : Cx} {CX : CXT} {k : Nat} {C f : Addr} {ks : List Str} {sp : Sp} {E : St → XK} {m : Str} {o : Expr} {kws : List Keyword} {apos pos : Pos} {ta : TE} {tk : TA}
theorem run_fnKw {pins : List (Addr × Obj)} {σ : St} {H : Hp} {s : Shared} {Q : VK} {us ws : List Value} {vs zs : List V} (F : FnKw X.prog X.w X.K X.mg X.base CX k f ks sp) (hr : Room k X.A) (hx : PassesAt CX X σ (E σ))
    (I : Inv X pins σ H s) (r : Vals vs us) (rz : Vals zs ws) (l : zs.length = ks.length) (h : ∀ d o, H d = none → sp (vs ++ [V.ref d]) (upd H d (.frz o (.dK (kwPs ks zs)))) Q (E σ)) : wpAny (model X.prog X.w) X.A (call (.ref f) us (ks.zip ws)) (EP X pins σ Q) X.xe s := by
  refine wpAny_call (codeAny_mono (F X.A X.stack s H us ws vs zs Q (E σ) hr I.env0 r rz l h) fun r s' hq => ?_)
  cases r with
  | error e => exact hx pins H s e s' I hq
  | ok fl =>
    cases fl with
    | ret u => exact I.after hq
    | next => exact False.elim hq
    | brk => exact False.elim hq
    | cont => exact False.elim hq
theorem pe_methKw {pl : Sem Bool} (he : PE X o ta) (c : Cls X.K C) (hm : Meth X.K C m f) (F : FnKw X.prog X.w X.K X.mg X.base CX k f ks sp) (hr : Room k X.A) (hx : ∀ σ, PassesAt CX X σ (E σ)) (hkw : PK X kws tk)
    (hall : (backToKw pos (keywordEach kws X.env)).all (·.1.isSome) = true := by rfl) (hks : (backToKw pos (keywordEach kws X.env)).filterMap (·.1) = ks := by rfl)
    (hpl : ((backTo pos (starEach [] X.env)).any (·.1) || (backToKw pos (keywordEach kws X.env)).any (·.1.isNone)) = false := by rfl)
    (ht : eval (.Call (.Attribute o m apos) [] kws pos) X.env = (do
      let ov ← eval o X.env
      standAt apos.atName
      let (f, first) ← holding [ov] (getMethod ov m pl)
      callWith pos f first (backTo pos (starEach [] X.env)) (backToKw pos (keywordEach kws X.env))) := by rfl) :
    PE X (.Call (.Attribute o m apos) [] kws pos) (tMethKw C m ks sp E ta tk) := by
  refine ⟨fun pins s σ H Q I h => ?_⟩
  refine PySem.W.methodCall_KW (pl := pl) (thn (he.run pins s σ H _ I h) fun u s1 ⟨x, H1, I1, rx, a, dx, fs, ex, ea, l, q⟩ => ?_) ht
  subst ex
  obtain rfl : u = Value.ref a := rx
  refine getmeth_ok I1 ea c hm l ?_
  refine PySem.W.callWith_KW0 (first := [.ref a]) (h₀ := X.base) I.ok.mod.kin hm.kp hall ?_ hpl
  refine thn (hkw.run pos pins s1 σ H1 _ I1 q) fun ws s3 ⟨zs, H3, I3, rz, l2, q3⟩ => ⟨I3.kIn, ?_⟩
  rw [hks]
  exact run_fnKw (us := [.ref a]) (vs := [.ref a]) F hr (hx σ) I3 (.cons rfl .nil) rz l2 q3
end
end L2
namespace T3
open PySem L2
open Evl (Ex)
section
variable {B : Hp} {M : Mem} {K : PySem.W.Frag} {σ : Sig} {tk : TA} {ta : TE} {Q : DQ} {S : Sp3}
/-- the keywords' names and their texts, as they lie in the dict -/
def kwS (l : List (Str × Str)) : List (Key × V) := l.map fun p => (Sum.inr p.1, V.str p.2)
theorem kwPs_S {F : Hp} : ∀ {ks txs : List Str} {zs : List V}, RDs F (txs.map D.str) zs → kwPs ks zs = kwS (ks.zip txs)
  | [], _, _, _ => rfl
  | _ :: _, [], _, h => by
    obtain rfl := h
    rfl
  | k :: ks, t :: ts, _, h => by
    obtain ⟨v, r, rfl, rd, rs⟩ := h
    obtain rfl : v = V.str t := rd
    show (Sum.inr k, V.str t) :: kwPs ks r = _
    rw [kwPs_S (ks := ks) rs]
    rfl
abbrev kwO (o : Obj) (l : List (Str × Str)) : DO := .raw (.frz o (.dK (kwS l)))
theorem w_methKw {C : Addr} {m : Str} {ks : List Str} {W : WX} {EW : EW3} (hW : ImpW B EW W)
    (h : W3e B ta σ M (fun x M1 => ∃ fs, InsD M1 x C fs ∧ fs.lookup m = none ∧ W3a B tk σ M1 (fun es M3 => ∃ txs : List Str, es = txs.map D.str ∧ txs.length = ks.length ∧ ∀ d o, M3 d = none → S [x, .ref d] (mput M3 d (kwO o (ks.zip txs))) Q (fun C th M' => EW C th σ M')))) : W3e B (tMethKw C m ks (lift3 S) (WE W) ta tk) σ M Q := fun F σv H Qv b hs st k =>
  h F σv H _ b hs st fun F1 M1 x xv H1 e1 st1 rx ⟨fs, hi, l, q1⟩ => by
    obtain ⟨a, dx, fv, ev, ha, pk⟩ := hi.at st1 rx
    refine ⟨a, dx, fv, ev, ha, (pkv_look pk).2 l, q1 F1 σv H1 _ (b.trans e1) (hs.mono e1) st1 fun F2 M2 es zs H2 e2 st2 rz ⟨txs, ex, l2, q2⟩ => ?_⟩
    subst ex
    refine ⟨by rw [← rz.length, List.length_map]; exact l2, fun d o hd => ?_⟩
    rw [kwPs_S (ks := ks) rz]
    have s2 := st2.newO (p := d) (o := .frz o (.dK (kwS (ks.zip txs)))) (d := kwO o (ks.zip txs)) hd rfl
    exact ⟨[x, .ref d], F2, _, Q, _, ⟨xv, _, rfl, rx.mono e2, V.ref d, _, rfl, rfl, rfl⟩, s2, fun F3 M3 d v H3 e3 => k F3 M3 d v H3 ((e1.trans e2).trans e3), fun F' M' C d thing v H' e s r z q' => hW F' M' σ σv C d thing v H' ((b.trans (e1.trans e2)).trans e) ((hs.mono (e1.trans e2)).mono e) s r z q', q2 d o (st2.nn hd).2⟩
theorem kwS_at {l : List (Str × Str)} {i : Nat} {k : Key} {v : V} (h : (kwS l)[i]? = some (k, v)) : ∃ p, l[i]? = some p ∧ k = .inr p.1 ∧ v = .str p.2 := by
  unfold kwS at h
  rw [List.getElem?_map] at h
  obtain ⟨p, h1, h2⟩ := Option.map_eq_some_iff.mp h
  cases h2
  exact ⟨p, h1, rfl, rfl⟩
theorem map_at' {α β : Type} {f : α → β} {l : List α} {i : Nat} {d : β} (h : (l.map f)[i]? = some d) : ∃ x, l[i]? = some x ∧ d = f x := by
  rw [List.getElem?_map] at h
  obtain ⟨x, h1, h2⟩ := Option.map_eq_some_iff.mp h
  exact ⟨x, h1, h2.symm⟩
/-- for k in d -/
theorem i_keysF {te : TE} {Q : List D → (Mem → Prop) → Mem → Prop} (h : W3e B te σ M (fun x M1 => ∃ a o l, x = .ref a ∧ M1 a = some (kwO o l) ∧ Q (l.map fun p => .str p.1) (fun M => M a = some (kwO o l)) M1)) : W3i B (iKeys te) σ M Q := fun F σv H R b hs st k =>
  h F σv H _ b hs st fun F1 M1 x xv H1 e1 st1 rx ⟨a, o, l, ex, hm, q⟩ => by
    subst ex
    obtain ⟨_, ho, h1, e2⟩ := st1.own a _ hm
    obtain rfl : ho = .frz o (.dK (kwS l)) := e2
    refine ⟨a, o, rx, .inl ⟨kwS l, h1, k F1 M1 (Itk a o (kwS l)) _ _ H1 e1 st1 ⟨fun H => H a = some (.frz o (.dK (kwS l))), fun i H x H' => H' = H ∧ ∃ k v, (kwS l)[i]? = some (k, v) ∧ x = kV k, ?_, ?_, ?_, ?_⟩ q⟩⟩
    · have hl : (kwS l).length = (l.map fun p => D.str p.1).length := by unfold kwS; rw [List.length_map, List.length_map]
      rw [← hl]
      exact ⟨fun i H hi g => ⟨g, hi⟩, fun H g => ⟨g, Nat.le_refl _⟩, fun i H x H' hi g y => y⟩
    · intro F' M' H' e s p
      obtain ⟨_, ho, h1', e2⟩ := s.own a _ p
      obtain rfl : ho = .frz o (.dK (kwS l)) := e2
      exact h1'
    · intro i d x H' H'' F' M' hd e s p ⟨y1, kk, v, y2, y3⟩
      subst y1
      obtain ⟨pp, hp, rfl, rfl⟩ := kwS_at y2
      obtain ⟨p2, hp2, rfl⟩ := map_at' hd
      rw [hp] at hp2; cases hp2
      exact ⟨F', Ex.refl _, s, y3⟩
    · intro M' p o' hp hm'
      show mput M' p o' a = _
      rw [mput_ne (mne hm' hp)]; exact hm'
/-- for k, v in d.items() -/
theorem i_itemsF {te : TE} {Q : List D → (Mem → Prop) → Mem → Prop} (h : W3e B te σ M (fun x M1 => ∃ a o l, x = .ref a ∧ M1 a = some (kwO o l) ∧ Q (l.map fun p => .tup [.str p.1, .str p.2]) (fun M => M a = some (kwO o l)) M1)) : W3i B (iItems te) σ M Q := fun F σv H R b hs st k =>
  h F σv H _ b hs st fun F1 M1 x xv H1 e1 st1 rx ⟨a, o, l, ex, hm, q⟩ => by
    subst ex
    obtain ⟨_, ho, h1, e2⟩ := st1.own a _ hm
    obtain rfl : ho = .frz o (.dK (kwS l)) := e2
    refine ⟨a, o, kwS l, rx, h1, k F1 M1 (Iti a o (kwS l)) _ _ H1 e1 st1 ⟨fun H => H a = some (.frz o (.dK (kwS l))), fun i H x H' => ∃ T k v, (kwS l)[i]? = some (k, v) ∧ x = .ref T ∧ H T = none ∧ H' = upd H T (.tup [kV k, v]), ?_, ?_, ?_, ?_⟩ q⟩
    · have hl : (kwS l).length = (l.map fun p => D.tup [.str p.1, .str p.2]).length := by unfold kwS; rw [List.length_map, List.length_map]
      rw [← hl]
      refine ⟨fun i H hi g => ⟨g, hi⟩, fun H g => ⟨g, Nat.le_refl _⟩, fun i H x H' hi g y => y⟩
    · intro F' M' H' e s p
      obtain ⟨_, ho, h1', e2⟩ := s.own a _ p
      obtain rfl : ho = .frz o (.dK (kwS l)) := e2
      exact h1'
    · intro i d x H' H'' F' M' hd e s p ⟨T, kk, v, y2, ex, hT, eH⟩
      subst ex eH
      obtain ⟨pp, hp, rfl, rfl⟩ := kwS_at y2
      obtain ⟨p2, hp2, rfl⟩ := map_at' hd
      rw [hp] at hp2; cases hp2
      obtain ⟨s2, e2⟩ := s.new (o := .tup [.str pp.1, .str pp.2]) hT
      exact ⟨_, e2, s2, T, _, rfl, upd_same, _, _, rfl, rfl, _, _, rfl, rfl, rfl⟩
    · intro M' p o' hp hm'
      show mput M' p o' a = _
      rw [mput_ne (mne hm' hp)]; exact hm'
/-- enumerate over an owned list that stands still -/
theorem i_enumO {ta : TA} {Q : List D → (Mem → Prop) → Mem → Prop} (h : W3a B ta σ M (fun xs M1 => ∃ a ds, xs = [.ref a] ∧ M1 a = some (.lst ds) ∧ Q (enumD ds) (fun M => M a = some (.lst ds)) M1)) : W3i B (iEnum K ta) σ M Q := fun F σv H R b hs st k =>
  h F σv H _ b hs st fun F1 M1 xs xv H1 e1 st1 rx ⟨a, ds, ex, hm, q⟩ => by
    subst ex
    obtain ⟨v, e, rv⟩ := rx.sing
    subst e
    obtain rfl : v = V.ref a := rv
    obtain ⟨_, ho, h1, vs, e2, rs⟩ := st1.own a _ hm
    subst e2
    refine ⟨a, vs, rfl, .inl (.inl h1), k F1 M1 (Ite K a) (enumD ds) _ H1 e1 st1 ⟨fun H => ∃ us, SqL K H a us ∧ us.length = vs.length, fun i H v H' => ∃ T x, v = .ref T ∧ H T = none ∧ H' = upd H T (.tup [.int (i : Nat), x]) ∧ ∀ us, SqL K H a us → us[i]? = some x, ?_, ?_, ?_, ?_⟩ q⟩
    · rw [enumD_len, rs.length]
      exact ⟨fun i H hi ⟨us, g, hl⟩ => ⟨us, us[i], g, by simp [hl, hi]⟩, fun H ⟨us, g, hl⟩ => ⟨us, g, Nat.le_of_eq hl⟩, fun i H x H' hi g y => y⟩
    · intro F' M' H' e s p
      obtain ⟨_, ho, h1', us, e2, rs'⟩ := s.own a _ p
      subst e2
      exact ⟨us, .inl (.inl h1'), by rw [← rs'.length, rs.length]⟩
    · intro i d x H' H'' F' M' hd e s p ⟨T, y, ex, hT, eH, hy⟩
      subst ex eH
      obtain ⟨d0, h0, rfl⟩ := enumD_at hd
      obtain ⟨f0, ho, h1', us', e2, rs'⟩ := s.own a _ p
      subst e2
      obtain ⟨v', hv', rv'⟩ := rs'.at h0
      rw [hy us' (.inl (.inl h1'))] at hv'; cases hv'
      obtain ⟨s2, e2⟩ := s.new (o := .tup [.int (i : Nat), y]) hT
      exact ⟨_, e2, s2, T, _, rfl, upd_same, _, _, rfl, rfl, _, _, rfl, rv'.mono e2, rfl⟩
    · intro M' p o hp hm'
      show mput M' p o a = _
      rw [mput_ne (mne hm' hp)]; exact hm'
/-! ### {k: v, ..} -/
def W3p (B : Hp) : List (TE × TE) → Sig → Mem → (List (D × D) → Mem → Prop) → Prop
  | [], _, M, Q => Q [] M
  | (tk, tv) :: r, σ, M, Q => W3e B tk σ M fun x M1 => W3e B tv σ M1 fun y M2 => W3p B r σ M2 fun ps M3 => Q ((x, y) :: ps) M3
def RPs (F : Hp) : List (D × D) → List (V × V) → Prop := Paired fun p q => RD F p.1 q.1 ∧ RD F p.2 q.2
theorem w_pairs : ∀ {trs : List (TE × TE)} {σ : Sig} {M : Mem} {Q : List (D × D) → Mem → Prop}, W3p B trs σ M Q → ∀ (F : Hp) (σv : St) (H : Hp) (Qv : List (V × V) → Hp → Prop), Ex B F → SRel F σ σv → St3 F M H →
    (∀ F' M' ps pv H', Ex F F' → St3 F' M' H' → RPs F' ps pv → Q ps M' → Qv pv H') → tPairs trs σv H Qv
  | [], σ, M, Q, h, F, σv, H, Qv, b, hs, st, k => k F M [] [] H (Ex.refl _) st .nil h
  | (tk, tv) :: r, σ, M, Q, h, F, σv, H, Qv, b, hs, st, k =>
    h F σv H _ b hs st fun F1 M1 x xv H1 e1 st1 rx q1 => q1 F1 σv H1 _ (b.trans e1) (hs.mono e1) st1 fun F2 M2 y yv H2 e2 st2 ry q2 =>
      w_pairs q2 F2 σv H2 _ (b.trans (e1.trans e2)) (hs.mono (e1.trans e2)) st2 fun F3 M3 ps pv H3 e3 st3 rp q3 =>
        k F3 M3 _ _ H3 ((e1.trans e2).trans e3) st3 (.cons ⟨(rx.mono e2).mono e3, ry.mono e3⟩ rp) q3
def mergeKD (kvs more : List (Key × D)) : List (Key × D) := more.foldl (fun acc kv => putKD acc kv.1 kv.2) kvs
theorem pkv_merge {F : Hp} {more : List (Key × D)} {mv : List (Key × V)} (r : PKV F more mv) : ∀ {kvs : List (Key × D)} {kv : List (Key × V)}, PKV F kvs kv → PKV F (mergeKD kvs more) (mergeK kv mv) := by
  unfold PKV at r
  induction r with
  | nil => exact fun h => h
  | @cons p q ps qs h t ih =>
    intro kvs kv h0
    have e : PKV F (putKD kvs p.1 p.2) (putK kv q.1 q.2) := by
      have z := pkv_putK (k := p.1) h.2 h0
      rw [← h.1]
      exact z
    exact ih e
theorem rps_keys {F : Hp} : ∀ {kvs : List (Key × D)} {pv : List (V × V)}, RPs F (kvs.map fun kv => (kD kv.1, kv.2)) pv → ∃ kv : List (Key × V), pv = kv.map (fun kv => (kV kv.1, kv.2)) ∧ PKV F kvs kv
  | [], pv, h => by cases h; exact ⟨[], rfl, .nil⟩
  | p :: kvs, pv, h => by
    rw [List.map_cons] at h
    cases h with
    | @cons a b as bs r t =>
      obtain ⟨kv, e, pk⟩ := rps_keys t
      obtain ⟨b1, b2⟩ := b
      have e1 : b1 = kV p.1 := kD_V r.1
      exact ⟨(p.1, b2) :: kv, by rw [e, e1]; rfl, .cons ⟨rfl, r.2⟩ pk⟩
theorem w_disp {trs : List (TE × TE)} (h : ∀ p, M p = none → W3p B trs σ (mput M p (.dK [])) (fun ps M2 => M2 p = some (.dK []) ∧ ∃ kvs : List (Key × D), ps = kvs.map (fun kv => (kD kv.1, kv.2)) ∧ kvs.length ≤ 15 ∧ Q (.ref p) (mput M2 p (.dK (mergeKD [] kvs))))) : W3e B (tDisp trs) σ M Q := fun F σv H Qv b hs st k p hp => by
  have s1 := st.newO (p := p) (o := .dK []) (d := .dK []) hp ⟨[], rfl, .nil⟩
  refine w_pairs (h p (st.nn hp).2) F σv _ _ b hs s1 fun F2 M2 ps pv H2 e2 st2 rp ⟨hm, kvs, e, l15, q⟩ => ?_
  subst e
  obtain ⟨kv, ev, pk⟩ := rps_keys rp
  obtain ⟨_, ho, h1, kv0, eo, pk0⟩ := st2.own p _ hm
  subst eo
  cases pk0
  refine ⟨h1, kv, ev, by rw [← pkv_length pk]; exact l15, ?_⟩
  exact k F2 _ (.ref p) _ _ e2 (st2.put (o := .dK (mergeK [] kv)) (d' := .dK (mergeKD [] kvs)) hm ⟨_, rfl, pkv_merge pk .nil⟩) rfl q
end
end T3
set_option Elab.async false
set_option linter.all false
set_option maxRecDepth 100000
set_option maxHeartbeats 4000000
namespace LW
open PySem L2 T3
open Evl (Ex)
def topS (i : Nat) : Stmt := PySem.Challenge.pw_tiredpots_k11_dips_that_match.main.body.getD i (.Pass ⟨0, 0, 0, 0⟩)
def inClass : Stmt → Nat → Stmt
  | .ClassDef _ _ _ b _ _ _ _ _ _ _, j => b.getD j (.Pass ⟨0, 0, 0, 0⟩)
  | s, _ => s
abbrev s_is_whole : Stmt := topS 12
theorem sc_is_whole : FnScope ["value"] ["value"] (defScope s_is_whole) := ⟨rfl, rfl, rfl, by decide +kernel, rfl, by decide +kernel, by decide +kernel⟩
abbrev s_is_amount : Stmt := topS 13
theorem sc_is_amount : FnScope ["value", "good"] ["value"] (defScope s_is_amount) := ⟨rfl, rfl, rfl, by decide +kernel, rfl, by decide +kernel, by decide +kernel⟩
abbrev s_check_name : Stmt := topS 18
theorem sc_check_name : FnScope ["name", "known", "good", "letter"] ["name", "known"] (defScope s_check_name) := ⟨rfl, rfl, rfl, by decide +kernel, rfl, by decide +kernel, by decide +kernel⟩
abbrev s_check_known : Stmt := topS 19
theorem sc_check_known : FnScope ["name", "known"] ["name", "known"] (defScope s_check_known) := ⟨rfl, rfl, rfl, by decide +kernel, rfl, by decide +kernel, by decide +kernel⟩
abbrev s_check_room : Stmt := topS 20
theorem sc_check_room : FnScope ["things", "most"] ["things", "most"] (defScope s_check_room) := ⟨rfl, rfl, rfl, by decide +kernel, rfl, by decide +kernel, by decide +kernel⟩
abbrev s_Book___init__ : Stmt := inClass (topS 21) 3
theorem sc_Book___init__ : FnScope ["self", "bound"] ["self", "bound"] (defScope s_Book___init__) := ⟨rfl, rfl, rfl, by decide +kernel, rfl, by decide +kernel, by decide +kernel⟩
abbrev s_Book_bound : Stmt := inClass (topS 21) 5
theorem sc_Book_bound : FnScope ["self", "number"] ["self", "number"] (defScope s_Book_bound) := ⟨rfl, rfl, rfl, by decide +kernel, rfl, by decide +kernel, by decide +kernel⟩
abbrev s_Book_add_kind : Stmt := inClass (topS 21) 7
theorem sc_Book_add_kind : FnScope ["self", "name", "hold"] ["self", "name", "hold"] (defScope s_Book_add_kind) := ⟨rfl, rfl, rfl, by decide +kernel, rfl, by decide +kernel, by decide +kernel⟩
abbrev s_Book_add_thirst : Stmt := inClass (topS 21) 8
theorem sc_Book_add_thirst : FnScope ["self", "more", "less"] ["self", "more", "less"] (defScope s_Book_add_thirst) := ⟨rfl, rfl, rfl, by decide +kernel, rfl, by decide +kernel, by decide +kernel⟩
abbrev s_Book_add_pot : Stmt := inClass (topS 21) 9
theorem sc_Book_add_pot : FnScope ["self", "name"] ["self", "name"] (defScope s_Book_add_pot) := ⟨rfl, rfl, rfl, by decide +kernel, rfl, by decide +kernel, by decide +kernel⟩
abbrev s_Book_add_cloth : Stmt := inClass (topS 21) 10
theorem sc_Book_add_cloth : FnScope ["self", "name", "kind"] ["self", "name", "kind"] (defScope s_Book_add_cloth) := ⟨rfl, rfl, rfl, by decide +kernel, rfl, by decide +kernel, by decide +kernel⟩
abbrev s_Book_dip : Stmt := inClass (topS 21) 11
theorem sc_Book_dip : FnScope ["self", "cloth", "pot"] ["self", "cloth", "pot"] (defScope s_Book_dip) := ⟨rfl, rfl, rfl, by decide +kernel, rfl, by decide +kernel, by decide +kernel⟩
abbrev s_Book_tell : Stmt := inClass (topS 21) 12
theorem sc_Book_tell : FnScope ["self", "more", "less"] ["self", "more", "less"] (defScope s_Book_tell) := ⟨rfl, rfl, rfl, by decide +kernel, rfl, by decide +kernel, by decide +kernel⟩
abbrev s_Book_tell_some : Stmt := inClass (topS 21) 13
theorem sc_Book_tell_some : FnScope ["self", "amount"] ["self", "amount"] (defScope s_Book_tell_some) := ⟨rfl, rfl, rfl, by decide +kernel, rfl, by decide +kernel, by decide +kernel⟩
abbrev s_Book_add_fact : Stmt := inClass (topS 21) 14
theorem sc_Book_add_fact : FnScope ["self", "fact", "known", "amount"] ["self", "fact"] (defScope s_Book_add_fact) := ⟨rfl, rfl, rfl, by decide +kernel, rfl, by decide +kernel, by decide +kernel⟩
abbrev s_Book_kind_of : Stmt := inClass (topS 21) 22
theorem sc_Book_kind_of : FnScope ["self", "cloth"] ["self", "cloth"] (defScope s_Book_kind_of) := ⟨rfl, rfl, rfl, by decide +kernel, rfl, by decide +kernel, by decide +kernel⟩
abbrev s_Book_hold_of : Stmt := inClass (topS 21) 23
theorem sc_Book_hold_of : FnScope ["self", "kind"] ["self", "kind"] (defScope s_Book_hold_of) := ⟨rfl, rfl, rfl, by decide +kernel, rfl, by decide +kernel, by decide +kernel⟩
abbrev s_Book_previous : Stmt := inClass (topS 21) 25
theorem sc_Book_previous : FnScope ["self", "number", "earlier"] ["self", "number"] (defScope s_Book_previous) := ⟨rfl, rfl, rfl, by decide +kernel, rfl, by decide +kernel, by decide +kernel⟩
abbrev s_Book_leaves : Stmt := inClass (topS 21) 26
theorem sc_Book_leaves : FnScope ["self", "number", "before", "cloth", "pot"] ["self", "number"] (defScope s_Book_leaves) := ⟨rfl, rfl, rfl, by decide +kernel, rfl, by decide +kernel, by decide +kernel⟩
abbrev s_Book_amounts : Stmt := inClass (topS 21) 27
theorem sc_Book_amounts : FnScope ["self", "found", "number"] ["self"] (defScope s_Book_amounts) := ⟨rfl, rfl, rfl, by decide +kernel, rfl, by decide +kernel, by decide +kernel⟩
abbrev s_Book_where : Stmt := inClass (topS 21) 28
theorem sc_Book_where : FnScope ["self", "asked", "word", "found", "number", "cloth", "pot", "own", "name"] ["self", "asked"] (defScope s_Book_where) := ⟨rfl, rfl, rfl, by decide +kernel, rfl, by decide +kernel, by decide +kernel⟩
abbrev s_lw_is_whole : Stmt := topS 23
theorem sc_lw_is_whole : FnScope ["_law_value"] ["_law_value"] (defScope s_lw_is_whole) := ⟨rfl, rfl, rfl, by decide +kernel, rfl, by decide +kernel, by decide +kernel⟩
abbrev s_source : Stmt := topS 24
theorem sc_source : FnScope ["_law_script", "_law_cell"] ["_law_script"] (defScope s_source) := ⟨rfl, rfl, rfl, by decide +kernel, rfl, by decide +kernel, by decide +kernel⟩
abbrev s_draw : Stmt := topS 25
theorem sc_draw : FnScope ["_law_source_here", "_law_many", "_law_cell", "_law_great", "_law_number", "_law_shift", "_law_mixed"] ["_law_source_here", "_law_many"] (defScope s_draw) := ⟨rfl, rfl, rfl, by decide +kernel, rfl, by decide +kernel, by decide +kernel⟩
abbrev s_word : Stmt := topS 26
theorem sc_word : FnScope ["_law_number", "_law_letters", "_law_word_here", "_law_k"] ["_law_number"] (defScope s_word) := ⟨rfl, rfl, rfl, by decide +kernel, rfl, by decide +kernel, by decide +kernel⟩
abbrev s_name : Stmt := topS 27
theorem sc_name : FnScope ["_law_source_here", "_law_k", "_law_size"] ["_law_source_here", "_law_k"] (defScope s_name) := ⟨rfl, rfl, rfl, by decide +kernel, rfl, by decide +kernel, by decide +kernel⟩
abbrev s_names : Stmt := topS 28
theorem sc_names : FnScope ["_law_source_here", "_law_many", "_law_word_here", "_law_place", "_law_turn", "_law_k"] ["_law_source_here", "_law_many"] (defScope s_names) := ⟨rfl, rfl, rfl, by decide +kernel, rfl, by decide +kernel, by decide +kernel⟩
abbrev s_model : Stmt := topS 29
theorem sc_model : FnScope ["_law_source_here", "_law_most", "_law_grips", "_law_many", "_law_model_here", "_law_name_here", "_law_k", "_law_first", "_law_garment"] ["_law_source_here", "_law_most"] (defScope s_model) := ⟨rfl, rfl, rfl, by decide +kernel, rfl, by decide +kernel, by decide +kernel⟩
abbrev s_sort : Stmt := topS 30
theorem sc_sort : FnScope ["_law_model_here", "_law_garment", "_law_row"] ["_law_model_here", "_law_garment"] (defScope s_sort) := ⟨rfl, rfl, rfl, by decide +kernel, rfl, by decide +kernel, by decide +kernel⟩
abbrev s_build : Stmt := topS 31
theorem sc_build : FnScope ["_law_model_here", "_law_book", "_law_name_here", "_law_grip", "_law_more", "_law_less", "_law_sort_here", "_law_garment", "_law_vat", "_law_fact"] ["_law_model_here"] (defScope s_build) := ⟨rfl, rfl, rfl, by decide +kernel, rfl, by decide +kernel, by decide +kernel⟩
abbrev s_matches : Stmt := topS 32
theorem sc_matches : FnScope ["_law_model_here", "_law_garment", "_law_vat", "_law_sort_here", "_law_found", "_law_i", "_law_dip"] ["_law_model_here", "_law_garment", "_law_vat", "_law_sort_here"] (defScope s_matches) := ⟨rfl, rfl, rfl, by decide +kernel, rfl, by decide +kernel, by decide +kernel⟩
abbrev s_refused : Stmt := topS 33
theorem sc_refused : FnScope ["_law_book", "_law_way", "_law_vat", "e"] ["_law_book", "_law_way", "_law_vat"] (defScope s_refused) := ⟨rfl, rfl, rfl, by decide +kernel, rfl, by decide +kernel, by decide +kernel⟩
abbrev s_good : Stmt := topS 34
theorem sc_good : FnScope ["_law_book", "_law_model_here", "_law_names_here", "_law_garment", "_law_vat", "_law_sort_here", "_law_asked", "_law_answer", "_law_given", "_law_due", "_law_number"] ["_law_book", "_law_model_here", "_law_names_here"] (defScope s_good) := ⟨rfl, rfl, rfl, by decide +kernel, rfl, by decide +kernel, by decide +kernel⟩
abbrev s_law : Stmt := topS 35
theorem sc_law : FnScope ["_law_script", "_law_source_here", "_law_model_here", "_law_book", "_law_strange", "_law_k", "_law_names_here", "_law_place", "_law_name_here", "_law_near", "_law_dip", "_law_answer", "_law_row"] ["_law_script"] (defScope s_law) := ⟨rfl, rfl, rfl, by decide +kernel, rfl, by decide +kernel, by decide +kernel⟩
structure Adr where
  (f_is_whole f_is_amount f_check_name f_check_known f_check_room f_Book___init__ f_Book_bound f_Book_add_kind f_Book_add_thirst f_Book_add_pot f_Book_add_cloth f_Book_dip f_Book_tell f_Book_tell_some f_Book_add_fact f_Book_kind_of f_Book_hold_of f_Book_previous f_Book_leaves f_Book_amounts f_Book_where f_lw_is_whole f_source f_draw f_word f_name f_names f_model f_sort f_build f_matches f_refused f_good f_law f_DyeError f_BadName f_BadHold f_BadNumber f_BadAmount f_Known f_Unknown f_Full f_Book f_dyeInit c_HOLDS p_bound c_WORDS : Addr)
  (d_is_whole d_is_amount d_check_name d_check_known d_check_room d_Book___init__ d_Book_bound d_Book_add_kind d_Book_add_thirst d_Book_add_pot d_Book_add_cloth d_Book_dip d_Book_tell d_Book_tell_some d_Book_add_fact d_Book_kind_of d_Book_hold_of d_Book_previous d_Book_leaves d_Book_amounts d_Book_where d_lw_is_whole d_source d_draw d_word d_name d_names d_model d_sort d_build d_matches d_refused d_good d_law : FuncData)
structure Tx (P : Program) (K : PySem.W.Frag) (mg : Str → Option Value) (A : Adr) : Prop where
  F_is_whole : Fun K "is_whole" "is_whole" s_is_whole A.f_is_whole A.d_is_whole
  F_is_amount : Fun K "is_amount" "is_amount" s_is_amount A.f_is_amount A.d_is_amount
  F_check_name : Fun K "check_name" "check_name" s_check_name A.f_check_name A.d_check_name
  F_check_known : Fun K "check_known" "check_known" s_check_known A.f_check_known A.d_check_known
  F_check_room : Fun K "check_room" "check_room" s_check_room A.f_check_room A.d_check_room
  F_Book___init__ : FunD K "__init__" "Book.__init__" (defArgs s_Book___init__) (defBody s_Book___init__) (defScope s_Book___init__) [] [("bound", .int 24)] A.f_Book___init__ A.d_Book___init__
  F_Book_bound : Fun K "bound" "Book.bound" s_Book_bound A.f_Book_bound A.d_Book_bound
  F_Book_add_kind : FunD K "add_kind" "Book.add_kind" (defArgs s_Book_add_kind) (defBody s_Book_add_kind) (defScope s_Book_add_kind) [] [("hold", .str "unsure")] A.f_Book_add_kind A.d_Book_add_kind
  F_Book_add_thirst : Fun K "add_thirst" "Book.add_thirst" s_Book_add_thirst A.f_Book_add_thirst A.d_Book_add_thirst
  F_Book_add_pot : Fun K "add_pot" "Book.add_pot" s_Book_add_pot A.f_Book_add_pot A.d_Book_add_pot
  F_Book_add_cloth : Fun K "add_cloth" "Book.add_cloth" s_Book_add_cloth A.f_Book_add_cloth A.d_Book_add_cloth
  F_Book_dip : Fun K "dip" "Book.dip" s_Book_dip A.f_Book_dip A.d_Book_dip
  F_Book_tell : Fun K "tell" "Book.tell" s_Book_tell A.f_Book_tell A.d_Book_tell
  F_Book_tell_some : Fun K "tell_some" "Book.tell_some" s_Book_tell_some A.f_Book_tell_some A.d_Book_tell_some
  F_Book_add_fact : Fun K "add_fact" "Book.add_fact" s_Book_add_fact A.f_Book_add_fact A.d_Book_add_fact
  F_Book_kind_of : Fun K "kind_of" "Book.kind_of" s_Book_kind_of A.f_Book_kind_of A.d_Book_kind_of
  F_Book_hold_of : Fun K "hold_of" "Book.hold_of" s_Book_hold_of A.f_Book_hold_of A.d_Book_hold_of
  F_Book_previous : Fun K "previous" "Book.previous" s_Book_previous A.f_Book_previous A.d_Book_previous
  F_Book_leaves : Fun K "leaves" "Book.leaves" s_Book_leaves A.f_Book_leaves A.d_Book_leaves
  F_Book_amounts : Fun K "amounts" "Book.amounts" s_Book_amounts A.f_Book_amounts A.d_Book_amounts
  F_Book_where : Fun K "where" "Book.where" s_Book_where A.f_Book_where A.d_Book_where
  F_lw_is_whole : Fun K "_law_is_whole" "_law_is_whole" s_lw_is_whole A.f_lw_is_whole A.d_lw_is_whole
  F_source : Fun K "_law_source" "_law_source" s_source A.f_source A.d_source
  F_draw : Fun K "_law_draw" "_law_draw" s_draw A.f_draw A.d_draw
  F_word : Fun K "_law_word" "_law_word" s_word A.f_word A.d_word
  F_name : Fun K "_law_name" "_law_name" s_name A.f_name A.d_name
  F_names : Fun K "_law_names" "_law_names" s_names A.f_names A.d_names
  F_model : Fun K "_law_model" "_law_model" s_model A.f_model A.d_model
  F_sort : Fun K "_law_sort" "_law_sort" s_sort A.f_sort A.d_sort
  F_build : Fun K "_law_build" "_law_build" s_build A.f_build A.d_build
  F_matches : Fun K "_law_matches" "_law_matches" s_matches A.f_matches A.d_matches
  F_refused : Fun K "_law_refused" "_law_refused" s_refused A.f_refused A.d_refused
  F_good : Fun K "_law_good" "_law_good" s_good A.f_good A.d_good
  F_law : Fun K "law" "law" s_law A.f_law A.d_law
  n_isinstance : mg "isinstance" = none
  n_int : mg "int" = none
  n_bool : mg "bool" = none
  n_tuple : mg "tuple" = none
  n_len : mg "len" = none
  c_WORDS : mg "WORDS" = some (.ref A.c_WORDS)
  g_is_whole : mg "is_whole" = some (.ref A.f_is_whole)
  k_is_whole : PySem.W.keepIn K (.ref A.f_is_whole) = true
  b_is_whole : Binds K A.d_is_whole ["value"] []
  n_str : mg "str" = none
  n_all : mg "all" = none
  dye_BadName : PySem.DyeX.DyeTxt P K A.f_DyeError A.f_BadName A.f_dyeInit
  g_BadName : mg "BadName" = some (.ref A.f_BadName)
  dye_Known : PySem.DyeX.DyeTxt P K A.f_DyeError A.f_Known A.f_dyeInit
  g_Known : mg "Known" = some (.ref A.f_Known)
  dye_Unknown : PySem.DyeX.DyeTxt P K A.f_DyeError A.f_Unknown A.f_dyeInit
  g_Unknown : mg "Unknown" = some (.ref A.f_Unknown)
  dye_Full : PySem.DyeX.DyeTxt P K A.f_DyeError A.f_Full A.f_dyeInit
  g_Full : mg "Full" = some (.ref A.f_Full)
  cl_Book : Cls K A.f_Book
  ps_bound : PropSet K A.f_Book "bound" A.p_bound A.f_Book_bound
  b_Book_bound : Binds K A.d_Book_bound ["self", "number"] []
  dye_BadNumber : PySem.DyeX.DyeTxt P K A.f_DyeError A.f_BadNumber A.f_dyeInit
  g_BadNumber : mg "BadNumber" = some (.ref A.f_BadNumber)
  g_check_name : mg "check_name" = some (.ref A.f_check_name)
  k_check_name : PySem.W.keepIn K (.ref A.f_check_name) = true
  b_check_name : Binds K A.d_check_name ["name", "known"] []
  c_HOLDS : mg "HOLDS" = some (.ref A.c_HOLDS)
  dye_BadHold : PySem.DyeX.DyeTxt P K A.f_DyeError A.f_BadHold A.f_dyeInit
  g_BadHold : mg "BadHold" = some (.ref A.f_BadHold)
  g_check_room : mg "check_room" = some (.ref A.f_check_room)
  k_check_room : PySem.W.keepIn K (.ref A.f_check_room) = true
  b_check_room : Binds K A.d_check_room ["things", "most"] []
  g_Book : mg "Book" = some (.ref A.f_Book)
  g_check_known : mg "check_known" = some (.ref A.f_check_known)
  k_check_known : PySem.W.keepIn K (.ref A.f_check_known) = true
  b_check_known : Binds K A.d_check_known ["name", "known"] []
  m_Book_add_fact : Meth K A.f_Book "add_fact" A.f_Book_add_fact
  b_Book_add_fact : Binds K A.d_Book_add_fact ["self", "fact"] []
  m_Book_amounts : Meth K A.f_Book "amounts" A.f_Book_amounts
  b_Book_amounts : Binds K A.d_Book_amounts ["self"] []
  g_is_amount : mg "is_amount" = some (.ref A.f_is_amount)
  k_is_amount : PySem.W.keepIn K (.ref A.f_is_amount) = true
  b_is_amount : Binds K A.d_is_amount ["value"] []
  dye_BadAmount : PySem.DyeX.DyeTxt P K A.f_DyeError A.f_BadAmount A.f_dyeInit
  g_BadAmount : mg "BadAmount" = some (.ref A.f_BadAmount)
  n_range : mg "range" = none
  m_Book_previous : Meth K A.f_Book "previous" A.f_Book_previous
  b_Book_previous : Binds K A.d_Book_previous ["self", "number"] []
  m_Book_hold_of : Meth K A.f_Book "hold_of" A.f_Book_hold_of
  b_Book_hold_of : Binds K A.d_Book_hold_of ["self", "kind"] []
  m_Book_kind_of : Meth K A.f_Book "kind_of" A.f_Book_kind_of
  b_Book_kind_of : Binds K A.d_Book_kind_of ["self", "cloth"] []
  m_Book_leaves : Meth K A.f_Book "leaves" A.f_Book_leaves
  b_Book_leaves : Binds K A.d_Book_leaves ["self", "number"] []
  n_enumerate : mg "enumerate" = none
  n_abs : mg "abs" = none
  g_draw : mg "_law_draw" = some (.ref A.f_draw)
  k_draw : PySem.W.keepIn K (.ref A.f_draw) = true
  b_draw : Binds K A.d_draw ["_law_source_here", "_law_many"] []
  g_word : mg "_law_word" = some (.ref A.f_word)
  k_word : PySem.W.keepIn K (.ref A.f_word) = true
  b_word : Binds K A.d_word ["_law_number"] []
  g_name : mg "_law_name" = some (.ref A.f_name)
  k_name : PySem.W.keepIn K (.ref A.f_name) = true
  b_name : Binds K A.d_name ["_law_source_here", "_law_k"] []
  g_names : mg "_law_names" = some (.ref A.f_names)
  k_names : PySem.W.keepIn K (.ref A.f_names) = true
  b_names : Binds K A.d_names ["_law_source_here", "_law_many"] []
  n_min : mg "min" = none
  mk_Book : Mk K A.f_Book A.f_Book___init__
  m_Book_add_kind : Meth K A.f_Book "add_kind" A.f_Book_add_kind
  kb_add_kind : KBn K A.d_Book_add_kind ["self", "name", "hold"] 2 ["hold"] (fun us ws => us ++ ws) (fun vs zs => vs ++ zs)
  m_Book_add_thirst : Meth K A.f_Book "add_thirst" A.f_Book_add_thirst
  b_Book_add_thirst : Binds K A.d_Book_add_thirst ["self", "more", "less"] []
  m_Book_add_pot : Meth K A.f_Book "add_pot" A.f_Book_add_pot
  b_Book_add_pot : Binds K A.d_Book_add_pot ["self", "name"] []
  m_Book_add_cloth : Meth K A.f_Book "add_cloth" A.f_Book_add_cloth
  b_Book_add_cloth : Binds K A.d_Book_add_cloth ["self", "name", "kind"] []
  m_Book_dip : Meth K A.f_Book "dip" A.f_Book_dip
  b_Book_dip : Binds K A.d_Book_dip ["self", "cloth", "pot"] []
  m_Book_tell : Meth K A.f_Book "tell" A.f_Book_tell
  b_Book_tell : Binds K A.d_Book_tell ["self", "more", "less"] []
  m_Book_tell_some : Meth K A.f_Book "tell_some" A.f_Book_tell_some
  b_Book_tell_some : Binds K A.d_Book_tell_some ["self", "amount"] []
  g_sort : mg "_law_sort" = some (.ref A.f_sort)
  k_sort : PySem.W.keepIn K (.ref A.f_sort) = true
  b_sort : Binds K A.d_sort ["_law_model_here", "_law_garment"] []
  m_Book_where : Meth K A.f_Book "where" A.f_Book_where
  kw_where_colour : KwB A.d_Book_where ["self"] "asked" ["colour"]
  kw_where_pot_shade_breadth : KwB A.d_Book_where ["self"] "asked" ["pot", "shade", "breadth"]
  kw_where_kinds : KwB A.d_Book_where ["self"] "asked" ["kinds"]
  g_DyeError : mg "DyeError" = some (.ref A.f_DyeError)
  kw_where : KwB A.d_Book_where ["self"] "asked" []
  kw_where_cloth : KwB A.d_Book_where ["self"] "asked" ["cloth"]
  kw_where_pot : KwB A.d_Book_where ["self"] "asked" ["pot"]
  kw_where_kind : KwB A.d_Book_where ["self"] "asked" ["kind"]
  kw_where_pot_cloth : KwB A.d_Book_where ["self"] "asked" ["pot", "cloth"]
  kw_where_cloth_kind : KwB A.d_Book_where ["self"] "asked" ["cloth", "kind"]
  kw_where_kind_pot : KwB A.d_Book_where ["self"] "asked" ["kind", "pot"]
  kw_where_cloth_pot_kind : KwB A.d_Book_where ["self"] "asked" ["cloth", "pot", "kind"]
  g_matches : mg "_law_matches" = some (.ref A.f_matches)
  k_matches : PySem.W.keepIn K (.ref A.f_matches) = true
  b_matches : Binds K A.d_matches ["_law_model_here", "_law_garment", "_law_vat", "_law_sort_here"] []
  n_list : mg "list" = none
  g_lw_is_whole : mg "_law_is_whole" = some (.ref A.f_lw_is_whole)
  k_lw_is_whole : PySem.W.keepIn K (.ref A.f_lw_is_whole) = true
  b_lw_is_whole : Binds K A.d_lw_is_whole ["_law_value"] []
  g_source : mg "_law_source" = some (.ref A.f_source)
  k_source : PySem.W.keepIn K (.ref A.f_source) = true
  b_source : Binds K A.d_source ["_law_script"] []
  g_model : mg "_law_model" = some (.ref A.f_model)
  k_model : PySem.W.keepIn K (.ref A.f_model) = true
  b_model : Binds K A.d_model ["_law_source_here", "_law_most"] []
  g_build : mg "_law_build" = some (.ref A.f_build)
  k_build : PySem.W.keepIn K (.ref A.f_build) = true
  b_build : Binds K A.d_build ["_law_model_here"] []
  g_good : mg "_law_good" = some (.ref A.f_good)
  k_good : PySem.W.keepIn K (.ref A.f_good) = true
  b_good : Binds K A.d_good ["_law_book", "_law_model_here", "_law_names_here"] []
  g_refused : mg "_law_refused" = some (.ref A.f_refused)
  k_refused : PySem.W.keepIn K (.ref A.f_refused) = true
  b_refused : Binds K A.d_refused ["_law_book", "_law_way", "_law_vat"] []
  hLETTERS : ∃ t, mg "LETTERS" = some (.str "abcdefghijklmnopqrstuvwxyz" t)
  hMOST_DIPS : ∃ t, mg "MOST_DIPS" = some (.int 24 t)
  t_HOLDS : ∀ H, SqT K H A.c_HOLDS [.str "fast", .str "loose", .str "unsure"]
  t_WORDS : ∀ H, SqT K H A.c_WORDS [.str "take", .str "leave"]
  hbi : ∃ ds, Vals [.int 24] ds ∧ Binds K A.d_Book___init__ ["self", "bound"] ds
  hbk : ∃ ds, Vals [.str "unsure"] ds ∧ Binds K A.d_Book_add_kind ["self", "name", "hold"] ds
  rd_Book : ∃ mc, ClX.CRead K A.f_Book mc ∧ (∃ u, ClX.CVal K A.f_Book mc "NAMES" (.int 8) u) ∧ (∃ u, ClX.CVal K A.f_Book mc "FACTS" (.int 32) u) ∧ ∃ u, ClX.CVal K A.f_Book mc "DIPS" (.int 24) u
  na_hold_by_kind : NoAttr K A.f_Book "hold_by_kind"
  na_thirst_rows : NoAttr K A.f_Book "thirst_rows"
  na_pot_names : NoAttr K A.f_Book "pot_names"
  na_kind_by_cloth : NoAttr K A.f_Book "kind_by_cloth"
  na_dip_rows : NoAttr K A.f_Book "dip_rows"
  na_fact_rows : NoAttr K A.f_Book "fact_rows"
  na_most_dips : NoAttr K A.f_Book "most_dips"
  kit_ss : PySem.W.kitOne K (.type "str") (.type "str") = some true
  kit_ns : PySem.W.kitOne K (.type "NoneType") (.type "str") = some false
  kit_is : PySem.W.kitOne K (.type "int") (.type "str") = some false
  kit_bs : PySem.W.kitOne K (.type "bool") (.type "str") = some false
  kit_ts : PySem.W.kitOne K (.type "tuple") (.type "str") = some false
  kit_ii : PySem.W.kitOne K (.type "int") (.type "int") = some true
  kit_bi : PySem.W.kitOne K (.type "bool") (.type "int") = some true
  kit_ni : PySem.W.kitOne K (.type "NoneType") (.type "int") = some false
  kit_si : PySem.W.kitOne K (.type "str") (.type "int") = some false
  kit_ti : PySem.W.kitOne K (.type "tuple") (.type "int") = some false
  kit_ib : PySem.W.kitOne K (.type "int") (.type "bool") = some false
  kit_bb : PySem.W.kitOne K (.type "bool") (.type "bool") = some true
  kit_ll : PySem.W.kitOne K (.type "list") (.type "list") = some true
  kit_tt : PySem.W.kitOne K (.type "tuple") (.type "tuple") = some true
  kit_it : PySem.W.kitOne K (.type "int") (.type "tuple") = some false
  kit_bt : PySem.W.kitOne K (.type "bool") (.type "tuple") = some false
  kit_nt : PySem.W.kitOne K (.type "NoneType") (.type "tuple") = some false
  kit_st : PySem.W.kitOne K (.type "str") (.type "tuple") = some false
  x_Unknown : L2.ExcX K A.f_Unknown
  em_Unknown_Unknown : PySem.W.exmOne K (.ref A.f_Unknown) (.ref A.f_Unknown) = some true
  ik_Unknown_DyeError : PySem.W.kitOne K (.ref A.f_Unknown) (.ref A.f_DyeError) = some true
  ik_Unknown_Full : PySem.W.kitOne K (.ref A.f_Unknown) (.ref A.f_Full) = some false
theorem units65 {k : Nat} {A : Around} (r : Room k A) : A.units + 65 < cLine := by have := r.un; omega
theorem units1 {k : Nat} {A : Around} (r : Room k A) : A.units + 1 < cLine := by have := r.un; omega
end LW
namespace L2
open PySem
theorem pt_never {X : Cx} {c : Expr} : PT X c (fun _ _ _ => False) := ⟨fun _ _ _ _ _ _ h => h.elim⟩
end L2
set_option Elab.async false
set_option linter.all false
set_option maxRecDepth 100000
set_option maxHeartbeats 4000000
namespace LW
open PySem L2 T3
open Evl (Ex)
local macro_rules | `(tactic| walk_at "t3") => `(tactic| first
  | (with_reducible refine s_seq ?_) | (with_reducible refine s_asg ?_) | (with_reducible refine s_if ?_) | (with_reducible refine s_ret ?_) | (with_reducible refine s_drop ?_) | (with_reducible refine s_asgG ?_) | (with_reducible refine s_retN ?_)
  | (with_reducible refine s_next ?_) | (with_reducible refine s_brk ?_) | (with_reducible refine s_cont ?_) | (with_reducible refine s_par ?_) | (with_reducible refine s_fld ?_)
  | ((with_reducible refine' w_var ?hx ?_); (case hx => exact rfl)) | (with_reducible refine w_cI ?_) | (with_reducible refine w_cB ?_) | (with_reducible refine w_cS ?_) | (with_reducible refine w_cN ?_) | (with_reducible refine w_cT ?_) | (with_reducible refine w_cR ?_)
  | (with_reducible refine w_op ?_) | (with_reducible refine w_un ?_) | (with_reducible refine w_nil ?_) | (with_reducible refine w_tup ?_) | (with_reducible refine w_cons ?_) | (with_reducible refine w_cb ?_) | (with_reducible refine w_bm0 ?_) | (with_reducible refine w_bm ?_)
  | (with_reducible refine w_test ?_) | (with_reducible refine w_B ?_) | (with_reducible refine w_notT ?_) | (with_reducible refine w_yes ?_) | (with_reducible refine w_notV ?_)
  | (with_reducible refine w_ifE ?_) | (with_reducible refine w_isN ?_) | (with_reducible refine w_notN ?_) | (with_reducible refine w_tr ?_) | (with_reducible refine w_chain ?_) | (with_reducible refine w_fld ?_) | (with_reducible refine w_sl ?_) | (with_reducible refine o_no ?_) | (with_reducible refine o_some ?_)
  | (with_reducible refine w_call0 ?_) | (with_reducible refine g_name ?_) | ((with_reducible refine' g_tup ?hx ?hy ?_); (case hx => exact rfl); (case hy => exact rfl)) | (with_reducible refine g_cons ?_) | (with_reducible refine g_nil ?_) | (with_reducible refine g_set ?_)
  | (with_reducible refine r3_add_ii ?_) | (with_reducible refine r3_sub ?_) | (with_reducible refine r3_lt ?_) | (with_reducible refine r3_le ?_) | (with_reducible refine r3_gt ?_) | (with_reducible refine r3_ge ?_) | (with_reducible refine u3_neg ?_)
  | (with_reducible refine c3_int_i ?_) | (with_reducible refine c3_int_b ?_) | (with_reducible refine c3_abs ?_) | (with_reducible refine c3_len_t ?_) | (with_reducible refine c3_len .fz ?_) | (with_reducible refine c3_max2 ?_) | (with_reducible refine c3_min2 ?_)
  | (with_reducible refine r3_eq (n := 9) (m := 9) okD_int okD_int ?_) | (with_reducible refine r3_ne (n := 9) (m := 9) okD_int okD_int ?_)
  | ((with_reducible refine' Exists.intro _ (And.intro ?hx ?_)); (case hx => exact rfl))
  | ((with_reducible refine' And.intro ?hx ?_); (case hx => (show List.length _ ≤ 100000); exact Nat.le_of_ble_eq_true rfl))
  | (with_reducible refine c3_lenL (c3_len_t ?_)) | (with_reducible refine c3_lenL (c3_len .fz ?_)))

section
variable {P : Program} {w : World} {K : PySem.W.Frag} {mg : Str → Option Value} {base : Heap} {A0 : Adr}

/-! ### a book in memory -/
structure BA where (b h t p c d f : Addr)
structure BM where (kinds thirst : List (Str × Str)) (pots : List Str) (cloths dips : List (Str × Str)) (facts : List D) (most : Int)
def wD (w : Str × Str) : D := .tup [.str w.1, .str w.2]
def kvD (l : List (Str × Str)) : List (Key × D) := l.map fun p => ((.inr p.1 : Key), D.str p.2)
def bookF (A : BA) (m : BM) : List (Str × D) := [("hold_by_kind", .ref A.h), ("thirst_rows", .ref A.t), ("pot_names", .ref A.p), ("kind_by_cloth", .ref A.c), ("dip_rows", .ref A.d), ("fact_rows", .ref A.f), ("most_dips", .int m.most)]
def bookM (C : Addr) (M : Mem) (A : BA) (m : BM) : Mem := fun a =>
  if a = A.b then some (.ins C (bookF A m)) else if a = A.h then some (.dK (kvD m.kinds)) else if a = A.t then some (.lst (m.thirst.map wD)) else if a = A.p then some (.lst (m.pots.map .str)) else
  if a = A.c then some (.dK (kvD m.cloths)) else if a = A.d then some (.lst (m.dips.map wD)) else if a = A.f then some (.lst m.facts) else M a
structure BOk (A : BA) : Prop where
  bh : A.b ≠ A.h
  bt : A.b ≠ A.t
  bp : A.b ≠ A.p
  bc : A.b ≠ A.c
  bd : A.b ≠ A.d
  bf : A.b ≠ A.f
  ht : A.h ≠ A.t
  hp : A.h ≠ A.p
  hc : A.h ≠ A.c
  hd : A.h ≠ A.d
  hf : A.h ≠ A.f
  tp : A.t ≠ A.p
  tc : A.t ≠ A.c
  td : A.t ≠ A.d
  tf : A.t ≠ A.f
  pc : A.p ≠ A.c
  pd : A.p ≠ A.d
  pf : A.p ≠ A.f
  cd : A.c ≠ A.d
  cf : A.c ≠ A.f
  df : A.d ≠ A.f
section
variable {C : Addr} {M : Mem} {A : BA} {m : BM}
theorem bk_b : bookM C M A m A.b = some (.ins C (bookF A m)) := if_pos rfl
theorem bk_h (o : BOk A) : bookM C M A m A.h = some (.dK (kvD m.kinds)) := by simp [bookM, Ne.symm o.bh]
theorem bk_t (o : BOk A) : bookM C M A m A.t = some (.lst (m.thirst.map wD)) := by simp [bookM, Ne.symm o.bt, Ne.symm o.ht]
theorem bk_p (o : BOk A) : bookM C M A m A.p = some (.lst (m.pots.map .str)) := by simp [bookM, Ne.symm o.bp, Ne.symm o.hp, Ne.symm o.tp]
theorem bk_c (o : BOk A) : bookM C M A m A.c = some (.dK (kvD m.cloths)) := by simp [bookM, Ne.symm o.bc, Ne.symm o.hc, Ne.symm o.tc, Ne.symm o.pc]
theorem bk_d (o : BOk A) : bookM C M A m A.d = some (.lst (m.dips.map wD)) := by simp [bookM, Ne.symm o.bd, Ne.symm o.hd, Ne.symm o.td, Ne.symm o.pd, Ne.symm o.cd]
theorem bk_f (o : BOk A) : bookM C M A m A.f = some (.lst m.facts) := by simp [bookM, Ne.symm o.bf, Ne.symm o.hf, Ne.symm o.tf, Ne.symm o.pf, Ne.symm o.cf, Ne.symm o.df]
theorem pt_h (o : BOk A) (k : List (Str × Str)) : mput (bookM C M A m) A.h (.dK (kvD k)) = bookM C M A { m with kinds := k } := by
  funext a; unfold mput bookM
  by_cases e : a = A.h
  · subst e; simp [Ne.symm o.bh]
  · simp only [e, if_false]; rfl
theorem pt_t (o : BOk A) (k : List (Str × Str)) : mput (bookM C M A m) A.t (.lst (k.map wD)) = bookM C M A { m with thirst := k } := by
  funext a; unfold mput bookM
  by_cases e : a = A.t
  · subst e; simp [Ne.symm o.bt, Ne.symm o.ht]
  · simp only [e, if_false]; rfl
theorem pt_p (o : BOk A) (k : List Str) : mput (bookM C M A m) A.p (.lst (k.map .str)) = bookM C M A { m with pots := k } := by
  funext a; unfold mput bookM
  by_cases e : a = A.p
  · subst e; simp [Ne.symm o.bp, Ne.symm o.hp, Ne.symm o.tp]
  · simp only [e, if_false]; rfl
theorem pt_c (o : BOk A) (k : List (Str × Str)) : mput (bookM C M A m) A.c (.dK (kvD k)) = bookM C M A { m with cloths := k } := by
  funext a; unfold mput bookM
  by_cases e : a = A.c
  · subst e; simp [Ne.symm o.bc, Ne.symm o.hc, Ne.symm o.tc, Ne.symm o.pc]
  · simp only [e, if_false]; rfl
theorem pt_d (o : BOk A) (k : List (Str × Str)) : mput (bookM C M A m) A.d (.lst (k.map wD)) = bookM C M A { m with dips := k } := by
  funext a; unfold mput bookM
  by_cases e : a = A.d
  · subst e; simp [Ne.symm o.bd, Ne.symm o.hd, Ne.symm o.td, Ne.symm o.pd, Ne.symm o.cd]
  · simp only [e, if_false]; rfl
theorem pt_f (o : BOk A) (k : List D) : mput (bookM C M A m) A.f (.lst k) = bookM C M A { m with facts := k } := by
  funext a; unfold mput bookM
  by_cases e : a = A.f
  · subst e; simp [Ne.symm o.bf, Ne.symm o.hf, Ne.symm o.tf, Ne.symm o.pf, Ne.symm o.cf, Ne.symm o.df]
  · simp only [e, if_false]; rfl
end
/-- one key in a table of texts -/
theorem valD_kv (l : List (Str × Str)) (x : Str) : valD (kvD l) (.inr x) = (l.lookup x).map D.str := by
  induction l with
  | nil => rfl
  | cons p l ih =>
    obtain ⟨a, b⟩ := p
    show ((((.inr a : Key), D.str b) :: kvD l).find? _).map _ = _
    rw [List.find?_cons, List.lookup_cons]
    by_cases e : a = x
    · subst e; simp
    · have e2 : ¬ ((.inr a : Key) = .inr x) := fun h => e (Sum.inr.inj h)
      have e3 : (x == a) = false := beq_eq_false_iff_ne.mpr (fun h => e h.symm)
      simp only [e2, decide_false, e3]
      exact ih
theorem putKD_kv (l : List (Str × Str)) (x y : Str) (h : l.lookup x = none) : putKD (kvD l) (.inr x) (.str y) = kvD (l ++ [(x, y)]) := by
  have hn : ((kvD l).any fun kv => decide (kv.1 = (.inr x : Key))) = false := by
    induction l with
    | nil => rfl
    | cons p l ih =>
      obtain ⟨a, b⟩ := p
      rw [List.lookup_cons] at h
      by_cases e : a = x
      · subst e; simp at h
      · have e3 : (x == a) = false := beq_eq_false_iff_ne.mpr (fun h => e h.symm)
        rw [e3] at h
        show (decide _ || (kvD l).any _) = false
        rw [ih h, decide_eq_false (fun h => e (Sum.inr.inj h))]; rfl
  unfold putKD
  rw [hn]
  simp [kvD]
/-! ### check_known, check_room, is_whole -/
def okT (s : Str) : Prop := s.cps.all (· < 0x110000) = true
theorem pq_str (a b : Str) : peq (.str a) (.str b) = decide (a = b) := by rw [peq_str]; rfl
theorem okD_S {n : Nat} {s : Str} (h : okT s) : okD n (.str s) = true := okD_str h
theorem okDs_S {n : Nat} {l : List Str} (h : ∀ s ∈ l, okT s) : okDs n (l.map D.str) = true := okDs_iff.mpr fun d hd => by
  obtain ⟨s, hs, rfl⟩ := List.mem_map.mp hd
  exact okD_S (h s hs)
theorem any_strs (l : List Str) (x : Str) : ((l.map D.str).any fun z => peq z (.str x)) = decide (x ∈ l) := by
  rw [List.any_map]
  induction l with
  | nil => rfl
  | cons y l ih =>
    rw [List.any_cons, ih]
    show (peq (.str y) (.str x) || _) = _
    rw [pq_str, ← Bool.decide_or]
    by_cases h : x = y <;> simp [h, eq_comm]
/-- known: a table of texts, or a list of them -/
def InK (M : Mem) (y : D) (x : Str) (k : Bool) : Prop := ∃ a, y = .ref a ∧ ((∃ l, M a = some (.dK (kvD l)) ∧ k = (l.lookup x).isSome) ∨ ∃ l : List Str, M a = some (.lst (l.map .str)) ∧ (∀ s ∈ l, okT s) ∧ okT x ∧ k = decide (x ∈ l))
theorem r3_inK {B : Hp} {M : Mem} {y : D} {x : Str} {k neg : Bool} {Q : DQ} (h : InK M y x k) (q : Q (.bl (if neg then !k else k)) M) : R3 B (rINA K P w neg) (.str x) y M Q := by
  obtain ⟨a, rfl, ⟨l, hm, rfl⟩ | ⟨l, hm, ol, ox, rfl⟩⟩ := h
  · refine r3_inA <| r3_inD (o := valD (kvD l) (.inr x)) ⟨a, rfl, .inl ⟨_, .inr x, hm, rfl, rfl⟩⟩ ?_
    rw [valD_kv, Option.isSome_map]; exact q
  · refine r3_inA <| r3_inL (r3_in (n := 9) (m := 9) (.ow hm) (okD_S ox) (okDs_S ol) ?_)
    rw [any_strs]; exact q
/-! ### values of any kind -/
def NonTxt (x : D) : Prop := x = .non ∨ (∃ i, x = .int i) ∨ NoKeyD x
structure AVal (x : D) : Prop where
  ok : okD 9 x = true
  kind : (∃ s : Str, x = .str s ∧ s.length ≤ 1000000) ∨ NonTxt x
def hasK (l : List (Str × Str)) : D → Bool
  | .str s => (l.lookup s).isSome
  | _ => false
theorem kv_txtD (l : List (Str × Str)) : ∀ p ∈ kvD l, ∃ z, p.1 = Sum.inr z := fun p hp => by
  obtain ⟨w, _, rfl⟩ := List.mem_map.mp hp
  exact ⟨w.1, rfl⟩
theorem valD_int (l : List (Str × Str)) (i : Int) : valD (kvD l) (.inl i) = none := by
  induction l with
  | nil => rfl
  | cons p l ih =>
    show ((((.inr p.1 : Key), D.str p.2) :: kvD l).find? _).map _ = _
    rw [List.find?_cons]
    have e2 : ¬ ((.inr p.1 : Key) = .inl i) := fun h => nomatch h
    simp only [e2, decide_false]
    exact ih
theorem r3_inV {B : Hp} {M : Mem} {x : D} {a : Addr} {l : List (Str × Str)} {neg : Bool} {Q : DQ} (v : AVal x) (hm : M a = some (.dK (kvD l))) (q : Q (.bl (if neg then !hasK l x else hasK l x)) M) : R3 B (rINA K P w neg) x (.ref a) M Q := by
  rcases v.kind with ⟨s, rfl, _⟩ | rfl | ⟨i, rfl⟩ | n
  · refine r3_inA <| r3_inD (o := valD (kvD l) (.inr s)) ⟨a, rfl, .inl ⟨_, .inr s, hm, rfl, rfl⟩⟩ ?_
    rw [valD_kv, Option.isSome_map]; exact q
  · refine r3_inA <| r3_inN hm ?_
    cases neg <;> exact q
  · refine r3_inA <| r3_inD (o := valD (kvD l) (.inl i)) ⟨a, rfl, .inl ⟨_, .inl i, hm, rfl, rfl⟩⟩ ?_
    rw [valD_int]; exact q
  · refine r3_inNo n hm (kv_txtD l) ?_
    have e : hasK l x = false := by
      rcases n with ⟨b, rfl⟩ | ⟨ks, rfl⟩ <;> rfl
    rw [e] at q
    cases neg <;> exact q
def inS (ot : List Str) (g : D) : Bool := (ot.map D.str).any fun z => peq z g
theorem inS_str (ot : List Str) (s : Str) : inS ot (.str s) = decide (s ∈ ot) := any_strs ot s
theorem inS_nt {ot : List Str} {g : D} (v : NonTxt g) : inS ot g = false := by
  unfold inS
  rw [List.any_map]
  refine List.any_eq_false.mpr fun z _ => ?_
  rcases v with rfl | ⟨i, rfl⟩ | ⟨b, rfl⟩ | ⟨ks, rfl⟩ <;> (show ¬ peq (.str z) _ = true; simp [peq, py, PyData.eqv])
/-- a table of texts, or a list of them, and a value of any kind -/
def InV (M : Mem) (y x : D) (k : Bool) : Prop := ∃ a, y = .ref a ∧ ((∃ l, M a = some (.dK (kvD l)) ∧ k = hasK l x) ∨ ∃ l : List Str, M a = some (.lst (l.map .str)) ∧ (∀ s ∈ l, okT s) ∧ k = inS l x)
theorem r3_inW {B : Hp} {M : Mem} {x y : D} {k neg : Bool} {Q : DQ} (v : AVal x) (h : InV M y x k) (q : Q (.bl (if neg then !k else k)) M) : R3 B (rINA K P w neg) x y M Q := by
  obtain ⟨a, rfl, ⟨l, hm, rfl⟩ | ⟨l, hm, ol, rfl⟩⟩ := h
  · exact r3_inV v hm q
  · exact r3_inA <| r3_inL (r3_in (n := 9) (m := 9) (.ow hm) v.ok (okDs_S ol) q)
def S_known (A0 : Adr) : Sp3 := fun ds M Q E => ∃ (x y : D) (k : Bool), ds = [x, y] ∧ AVal x ∧ InV M y x k ∧ (k = true → Q .non M) ∧ (k = false → E A0.f_Unknown x M)
theorem ok_check_known (T : Tx P K mg A0) : FnOk P w K mg base (L2.CX P w) 1 A0.f_check_known A0.d_check_known ["name", "known"] (lift3 (S_known A0)) := by
  refine T.F_check_known.okX sc_check_known (lift3_len fun ds M Q E ⟨a, b, c, h, _⟩ => by rw [h]; rfl) (fun cdv A outer s H vs Q E hr h => ?_)
  have hu := hr.units
  have hu5 := units65 hr
  refine ⟨_, (pss_one (ps_if (pt_cmpR (op_NINAK K P w rfl rfl rfl hu5) (pv 0) (pv 1) (by rfl)) (pss_one (ps_raiseDye (by rfl) T.dye_Unknown T.g_Unknown hr (takes_of rfl rfl rfl rfl) (pa_cons (pv 0) (pa_cons pe_str pa_nil)))) pss_nil)), run3 h fun B ds M Q3 E3 hs hE => ?_⟩
  obtain ⟨x, y, k, rfl, v, hk, q, qe⟩ := hs
  change W3s B _ _ [some x, some y] M
  try dsimp only [cxOf, Cx.nox, Cx.wish]
  repeat walk_at "t3"
  refine r3_inW v hk ?_
  repeat walk_at "t3"
  refine iteB (fun h => ?_) (fun h => ?_)
  · refine s_raise (impW_of hE) ?_
    repeat walk_at "t3"
    exact ⟨_, _, rfl, qe (by simpa using h)⟩
  · repeat walk_at "t3"
    exact q (by simpa using h)
/-- things: how many -/
def LenK (M : Mem) (y : D) (n : Nat) : Prop := ∃ a, y = .ref a ∧ ((∃ l, M a = some (.dK l) ∧ n = l.length) ∨ ∃ l, M a = some (.lst l) ∧ n = l.length)
theorem c3_lenK {B : Hp} {M : Mem} {y : D} {n : Nat} {Q : DQ} (h : LenK M y n) (q : Q (.int n) M) : C3 B (rLEND K) [y] M Q := by
  obtain ⟨a, rfl, ⟨l, hm, rfl⟩ | ⟨l, hm, rfl⟩⟩ := h
  · exact c3_lenD hm q
  · exact c3_lenL (c3_len (.ow hm) q)
def S_room (A0 : Adr) : Sp3 := fun ds M Q E => ∃ (y : D) (n : Nat) (most : Int), ds = [y, .int most] ∧ LenK M y n ∧ ((n : Int) < most → Q .non M) ∧ (most ≤ n → E A0.f_Full (.int most) M)
theorem ok_check_room (T : Tx P K mg A0) : FnOk P w K mg base (L2.CX P w) 1 A0.f_check_room A0.d_check_room ["things", "most"] (lift3 (S_room A0)) := by
  refine T.F_check_room.okX sc_check_room (lift3_len fun ds M Q E ⟨a, b, c, h, _⟩ => by rw [h]; rfl) (fun cdv A outer s H vs Q E hr h => ?_)
  have hu := hr.units
  have hu5 := units65 hr
  refine ⟨_, (pss_one (ps_if (pt_cmpR op_ge (pe_callB (call_lenDK K rfl) (by rfl) T.n_len PySem.boot_len (pa_cons (pv 0) pa_nil)) (pv 1) (nomark _)) (pss_one (ps_raiseDye (by rfl) T.dye_Full T.g_Full hr (takes_of rfl rfl rfl rfl) (pa_cons (pv 1) (pa_cons pe_str pa_nil)))) pss_nil)), run3 h fun B ds M Q3 E3 hs hE => ?_⟩
  obtain ⟨y, n, most, rfl, hk, q, qe⟩ := hs
  change W3s B _ _ [some y, some (.int most)] M
  try dsimp only [cxOf, Cx.nox, Cx.wish]
  repeat walk_at "t3"
  refine c3_lenK hk ?_
  repeat walk_at "t3"
  refine iteB (fun h => ?_) (fun h => ?_)
  · refine s_raise (impW_of hE) ?_
    repeat walk_at "t3"
    exact ⟨_, _, rfl, qe (of_decide_eq_true h)⟩
  · repeat walk_at "t3"
    exact q (by have := of_decide_eq_false h; omega)
/-! ### what is refused -/
inductive Rf | name | known | hold | unknown | full | number | amount
def Rf.cls (A0 : Adr) : Rf → Addr
  | .name => A0.f_BadName
  | .known => A0.f_Known
  | .hold => A0.f_BadHold
  | .unknown => A0.f_Unknown
  | .full => A0.f_Full
  | .number => A0.f_BadNumber
  | .amount => A0.f_BadAmount
abbrev RO := Option (Rf × D)
theorem or_some {α : Type} {a b : Option α} {r : α} (h : a = some r) : a.or b = some r := by rw [h]; rfl
theorem or_none {α : Type} {a b : Option α} (h : a = none) : a.or b = b := by rw [h]; rfl
/-- refused goes out, let goes on -/
def Ends (A0 : Adr) (o : RO) (E : EQ3) (M : Mem) (q : Prop) : Prop := (∀ C t, o = some (C, t) → E (C.cls A0) t M) ∧ (o = none → q)
theorem Ends.no {A0 : Adr} {o : RO} {E : EQ3} {M : Mem} {q : Prop} (h : o = none) (k : q) : Ends A0 o E M q := ⟨fun C t e => (by rw [h] at e; cases e), fun _ => k⟩
theorem Ends.yes {A0 : Adr} {o : RO} {E : EQ3} {M : Mem} {q : Prop} {C : Rf} {t : D} (h : o = some (C, t)) (k : E (C.cls A0) t M) : Ends A0 o E M q := ⟨fun C' t' e => (by rw [h] at e; cases e; exact k), fun e => (by rw [h] at e; cases e)⟩
theorem map_at {α : Type} {f : α → D} {l : List α} {i : Nat} {d : D} (h : (l.map f)[i]? = some d) : ∃ a, l[i]? = some a ∧ d = f a := by
  rw [List.getElem?_map] at h
  obtain ⟨a, h1, h2⟩ := Option.map_eq_some_iff.mp h
  exact ⟨a, h1, h2.symm⟩
theorem txt_key {l : List (Str × Str)} {y : D} (h : hasK l y = true) : ∃ k, y = .str k := by
  cases y with
  | str k => exact ⟨k, rfl⟩
  | _ => exact nomatch (show false = true from h)
theorem inS_key {l : List Str} {y : D} (v : AVal y) (h : inS l y = true) : ∃ k, y = .str k ∧ k ∈ l := by
  rcases v.kind with ⟨s, rfl, _⟩ | n
  · rw [inS_str] at h; exact ⟨s, rfl, of_decide_eq_true h⟩
  · rw [inS_nt n] at h; cases h
/-- plain values -/
def Scal (x : D) : Prop := (∃ i, x = .int i) ∨ (∃ b, x = .bl b) ∨ x = .non ∨ (∃ s, x = .str s) ∨ ∃ l, x = .tup l
theorem AVal.scal {x : D} (v : AVal x) : Scal x := by
  rcases v.kind with ⟨s, rfl, _⟩ | rfl | ⟨i, rfl⟩ | ⟨b, rfl⟩ | ⟨ks, rfl⟩
  · exact .inr (.inr (.inr (.inl ⟨s, rfl⟩)))
  · exact .inr (.inr (.inl rfl))
  · exact .inl ⟨i, rfl⟩
  · exact .inr (.inl ⟨b, rfl⟩)
  · exact .inr (.inr (.inr (.inr ⟨_, rfl⟩)))
def isI : D → Bool
  | .int _ => true
  | _ => false
theorem isI_int {x : D} (h : isI x = true) : ∃ i, x = .int i := by
  cases x with
  | int i => exact ⟨i, rfl⟩
  | _ => exact nomatch (show false = true from h)
end
end LW
set_option Elab.async false
set_option linter.all false
set_option maxRecDepth 100000
set_option maxHeartbeats 4000000
namespace LW
open PySem L2 T3
open Evl (Ex)
local macro_rules | `(tactic| walk_at "t3") => `(tactic| first
  | (with_reducible refine s_seq ?_) | (with_reducible refine s_asg ?_) | (with_reducible refine s_if ?_) | (with_reducible refine s_ret ?_) | (with_reducible refine s_drop ?_) | (with_reducible refine s_asgG ?_) | (with_reducible refine s_retN ?_)
  | (with_reducible refine s_next ?_) | (with_reducible refine s_brk ?_) | (with_reducible refine s_cont ?_) | (with_reducible refine s_par ?_) | (with_reducible refine s_fld ?_)
  | ((with_reducible refine' w_var ?hx ?_); (case hx => exact rfl)) | (with_reducible refine w_cI ?_) | (with_reducible refine w_cB ?_) | (with_reducible refine w_cS ?_) | (with_reducible refine w_cN ?_) | (with_reducible refine w_cT ?_) | (with_reducible refine w_cR ?_)
  | (with_reducible refine w_op ?_) | (with_reducible refine w_un ?_) | (with_reducible refine w_nil ?_) | (with_reducible refine w_tup ?_) | (with_reducible refine w_cons ?_) | (with_reducible refine w_cb ?_) | (with_reducible refine w_bm0 ?_) | (with_reducible refine w_bm ?_)
  | (with_reducible refine w_test ?_) | (with_reducible refine w_B ?_) | (with_reducible refine w_notT ?_) | (with_reducible refine w_yes ?_) | (with_reducible refine w_notV ?_)
  | (with_reducible refine w_ifE ?_) | (with_reducible refine w_isN ?_) | (with_reducible refine w_notN ?_) | (with_reducible refine w_tr ?_) | (with_reducible refine w_chain ?_) | (with_reducible refine w_fld ?_) | (with_reducible refine w_sl ?_) | (with_reducible refine o_no ?_) | (with_reducible refine o_some ?_)
  | (with_reducible refine w_call0 ?_) | (with_reducible refine g_name ?_) | ((with_reducible refine' g_tup ?hx ?hy ?_); (case hx => exact rfl); (case hy => exact rfl)) | (with_reducible refine g_cons ?_) | (with_reducible refine g_nil ?_) | (with_reducible refine g_set ?_)
  | (with_reducible refine r3_add_ii ?_) | (with_reducible refine r3_sub ?_) | (with_reducible refine r3_lt ?_) | (with_reducible refine r3_le ?_) | (with_reducible refine r3_gt ?_) | (with_reducible refine r3_ge ?_) | (with_reducible refine u3_neg ?_)
  | (with_reducible refine c3_int_i ?_) | (with_reducible refine c3_int_b ?_) | (with_reducible refine c3_abs ?_) | (with_reducible refine c3_len_t ?_) | (with_reducible refine c3_len .fz ?_) | (with_reducible refine c3_max2 ?_) | (with_reducible refine c3_min2 ?_)
  | (with_reducible refine r3_eq (n := 9) (m := 9) okD_int okD_int ?_) | (with_reducible refine r3_ne (n := 9) (m := 9) okD_int okD_int ?_)
  | ((with_reducible refine' Exists.intro _ (And.intro ?hx ?_)); (case hx => exact rfl))
  | ((with_reducible refine' And.intro ?hx ?_); (case hx => (show List.length _ ≤ 100000); exact Nat.le_of_ble_eq_true rfl))
  | (with_reducible refine c3_lenL (c3_len_t ?_)) | (with_reducible refine c3_lenL (c3_len .fz ?_)))

section
variable {P : Program} {w : World} {K : PySem.W.Frag} {mg : Str → Option Value} {base : Heap} {A0 : Adr}

def LET : List Nat := ("abcdefghijklmnopqrstuvwxyz" : Str).cps.toList
def goodS (x : Str) : Bool := (decide ((1 : Int) ≤ x.length) && decide ((x.length : Int) ≤ 12)) && x.cps.toList.all fun c => decide (c ∈ LET)
def S_cname (A0 : Adr) : Sp3 := fun ds M Q E => ∃ (z y : D), ds = [z, y] ∧ ((∃ (x : Str) (k : Bool), z = .str x ∧ InK M y x k ∧ x.length ≤ 1000000 ∧ (goodS x = true → k = false → Q .non M) ∧ (goodS x = false → E A0.f_BadName (.str x) M) ∧ (goodS x = true → k = true → E A0.f_Known (.str x) M)) ∨ (NonTxt z ∧ E A0.f_BadName z M))
theorem ok_check_name (T : Tx P K mg A0) : FnOk P w K mg base (L2.CX P w) 1 A0.f_check_name A0.d_check_name ["name", "known"] (lift3 (S_cname A0)) := by
  refine T.F_check_name.okX sc_check_name (lift3_len fun ds M Q E ⟨a, b, h, _⟩ => by rw [h]; rfl) (fun cdv A outer s H vs Q E hr h => ?_)
  have hu := hr.units
  have hu5 := units65 hr
  obtain ⟨tL, hLETTERS⟩ := T.hLETTERS
  refine ⟨_, (pss_cons (ps_set (i := 2) sc_check_name.nd (by rfl) (Or.inl (by rfl)) (pe_and (pe_callB (call_ISIK K rfl) (by rfl) T.n_isinstance (by decide +kernel) (pa_cons (pv 0) (pa_cons (pe_bltn (v := .ty "str") (by rfl) T.n_str (by decide +kernel) rfl) pa_nil))) (pe_one (pe_chain op_le op_le pe_int (pe_callB (call_lenDK K rfl) (by rfl) T.n_len PySem.boot_len (pa_cons (pv 0) pa_nil)) pe_int))))
  (pss_cons (ps_if (PW.pt (pw_or (pt_not (pt_truthK K rfl (pv 2) (by intro _; rfl))) (pw_or1 (pt_not (pt_truthK K rfl (pe_callB (cr_all (by rfl)) (by rfl) T.n_all (by decide +kernel) (pa_cons (pe_lc (own := [("letter", 3)]) (g := (gName 3)) (by rfl) sc_check_name.nd (pi_str (pv 0)) (blkOk_by (N := ["name", "known", "good", "letter"]) (sc := defScope s_check_name) (own := [("letter", 3)]) (by decide +kernel)) (fun _ _ _ _ _ => (pg_name (i := 3) sc_check_name.nd (by rfl) (Or.inl (by rfl)))) (fun _ _ _ _ _ => pts_nil) (fun _ _ _ _ _ => (pe_cmpR (op_INAK K P w rfl rfl rfl hu5) (pv 3) (pe_glob (v := .str "abcdefghijklmnopqrstuvwxyz") (by rfl) hLETTERS ⟨_, rfl⟩) (by rfl)))) pa_nil)) (by intro _; rfl)))))) (pss_one (ps_raiseDye (by rfl) T.dye_BadName T.g_BadName hr (takes_of rfl rfl rfl rfl) (pa_cons (pv 0) (pa_cons pe_str pa_nil)))) pss_nil)
  (pss_one (ps_if (pt_cmpR (op_INAK K P w rfl rfl rfl hu5) (pv 0) (pv 1) (by rfl)) (pss_one (ps_raiseDye (by rfl) T.dye_Known T.g_Known hr (takes_of rfl rfl rfl rfl) (pa_cons (pv 0) (pa_cons pe_str pa_nil)))) pss_nil)))), run3 h fun B ds M Q3 E3 hs hE => ?_⟩
  obtain ⟨z, y, rfl, ⟨x, k, rfl, hk, hx, q, qb, qk⟩ | ⟨nt, qb⟩⟩ := hs
  case inr =>
    change W3s B _ _ [some z, some y, none, none] M
    try dsimp only [cxOf, Cx.nox, Cx.wish]
    have hk : (tyD z == "") = false ∧ PySem.W.kitOne K (.type (tyD z)) (.type "str") = some false := by
      rcases nt with rfl | ⟨i, rfl⟩ | ⟨b, rfl⟩ | ⟨ks, rfl⟩
      · exact ⟨rfl, T.kit_ns⟩
      · exact ⟨rfl, T.kit_is⟩
      · exact ⟨rfl, T.kit_bs⟩
      · exact ⟨rfl, T.kit_ts⟩
    repeat walk_at "t3"
    refine w_andP (a := false) (b := false) ?_ (fun h => by cases h) ?_
    · repeat walk_at "t3"
      refine c3_ISI hk.1 hk.2 ?_
      exact ⟨rfl, rfl⟩
    repeat walk_at "t3"
    refine w_orTP (a := true) (b := true) ?_ (fun h => by cases h) ?_
    · repeat walk_at "t3"
      exact ⟨rfl, rfl⟩
    · refine iteB (fun _ => ?_) (fun h => by cases h)
      refine s_raise (impW_of hE) ?_
      repeat walk_at "t3"
      exact ⟨_, _, rfl, qb⟩
  change W3s B _ _ [some (.str x), some y, none, none] M
  try dsimp only [cxOf, Cx.nox, Cx.wish]
  repeat walk_at "t3"
  refine w_andP (a := true) (b := decide ((1 : Int) ≤ x.length) && decide ((x.length : Int) ≤ 12)) ?_ (fun _ => ?_) ?_
  · repeat walk_at "t3"
    refine c3_ISI rfl T.kit_ss ?_
    exact ⟨rfl, rfl⟩
  · repeat walk_at "t3"
    refine c3_lenL (c3_len_s hx ?_)
    repeat walk_at "t3"
    refine iteB (fun h => ?_) (fun h => ?_)
    · repeat walk_at "t3"
      rw [h]
      exact ⟨rfl, rfl⟩
    · rw [h]
      exact ⟨rfl, rfl⟩
  rw [Bool.true_and]
  generalize hg : (decide ((1 : Int) ≤ x.length) && decide ((x.length : Int) ≤ 12)) = g
  repeat walk_at "t3"
  refine w_orTP (a := !g) (b := !(x.cps.toList.all fun c => decide (c ∈ LET))) ?_ (fun _ => ?_) ?_
  · repeat walk_at "t3"
    exact ⟨rfl, rfl⟩
  · repeat walk_at "t3"
    refine w_lcP (fun _ => true) (fun d => match d with | .str ⟨#[c]⟩ => .bl (decide (c ∈ LET)) | d => d) own_name (i_str ?_)
    repeat walk_at "t3"
    refine ⟨by unfold signs; rw [List.length_map, Array.length_toList]; exact Nat.le_trans hx (by decide), trivial, ?_, ?_⟩
    · intro i d M' hi _
      unfold signs at hi
      rw [List.getElem?_map] at hi
      obtain ⟨c, _, rfl⟩ := Option.map_eq_some_iff.mp hi
      repeat walk_at "t3"
      refine ⟨rfl, ?_⟩
      repeat walk_at "t3"
      refine ⟨rfl, rfl, fun _ => ?_⟩
      repeat walk_at "t3"
      refine r3_inA <| r3_inL (r3_in_sign ?_)
      exact ⟨rfl, rfl⟩
    have e : ((signs x).filter (fun _ => true)).map (fun d => match d with | .str ⟨#[c]⟩ => .bl (decide (c ∈ LET)) | d => d) = (x.cps.toList.map fun c => decide (c ∈ LET)).map D.bl := by
      rw [List.filter_eq_self.mpr (fun _ _ => rfl)]
      unfold signs
      rw [List.map_map, List.map_map]; rfl
    rw [e]
    repeat walk_at "t3"
    refine c3_all .fz ?_
    rw [List.all_map]
    exact ⟨_, rfl, rfl, rfl⟩
  · have hgood : goodS x = (g && x.cps.toList.all fun c => decide (c ∈ LET)) := by unfold goodS; rw [hg]
    refine iteB (fun h => ?_) (fun h => ?_)
    · refine s_raise (impW_of hE) ?_
      repeat walk_at "t3"
      refine ⟨_, _, rfl, qb ?_⟩
      rw [hgood]
      cases g <;> simp at h ⊢
      simpa using h
    · have good : goodS x = true := by
        rw [hgood]
        cases g <;> simp at h ⊢
        simpa using h
      repeat walk_at "t3"
      refine r3_inK hk ?_
      repeat walk_at "t3"
      refine iteB (fun h => ?_) (fun h => ?_)
      · refine s_raise (impW_of hE) ?_
        repeat walk_at "t3"
        exact ⟨_, _, rfl, qk good (by simpa using h)⟩
      · repeat walk_at "t3"
        exact q good (by simpa using h)
def S_whole : Sp3 := fun ds M Q _ => ∃ x : D, ds = [x] ∧ Scal x ∧ Q (.bl (isI x)) M
theorem ok_is_whole (T : Tx P K mg A0) : FnOk P w K mg base CX0 1 A0.f_is_whole A0.d_is_whole ["value"] (lift3 S_whole) := by
  refine T.F_is_whole.ok sc_is_whole (lift3_len fun ds M Q E ⟨a, h, _⟩ => by rw [h]; rfl) (fun cdv A outer s H vs Q E hr h => ?_)
  have hu := hr.units
  have hu5 := units65 hr
  refine ⟨_, (pss_one (ps_ret (pe_and (pe_callB (call_ISIK K rfl) (by rfl) T.n_isinstance (by decide +kernel) (pa_cons (pv 0) (pa_cons (pe_bltn (v := .ty "int") (by rfl) T.n_int (by decide +kernel) rfl) pa_nil))) (pe_one (pe_not (pe_callB (call_ISIK K rfl) (by rfl) T.n_isinstance (by decide +kernel) (pa_cons (pv 0) (pa_cons (pe_bltn (v := .ty "bool") (by rfl) T.n_bool (by decide +kernel) rfl) pa_nil)))))))), run3 h fun B ds M Q3 E3 hs hE => ?_⟩
  obtain ⟨x, rfl, sx, q⟩ := hs
  change W3s B _ _ [some x] M
  try dsimp only [cxOf, Cx.nox, Cx.wish]
  have key : ∀ a b, (tyD x == "") = false → PySem.W.kitOne K (.type (tyD x)) (.type "int") = some a → (a = true → PySem.W.kitOne K (.type (tyD x)) (.type "bool") = some b) → isI x = (a && !b) → W3s B (tRet (tAndV (tCB (rISI K) (tCons (tVar 0) (tCons (tC (.ty "int")) tNil))) (tNotV (tCB (rISI K) (tCons (tVar 0) (tCons (tC (.ty "bool")) tNil)))))) { nx := fun _ M => Q3 D.non M, rt := Q3 } [some x] M := by
    intro a b h0 h1 h2 e
    rw [e] at q
    refine s_ret (w_andP (a := a) (b := !b) ?_ (fun h => ?_) q)
    · repeat walk_at "t3"
      refine c3_ISI h0 h1 ?_
      exact ⟨rfl, rfl⟩
    · repeat walk_at "t3"
      refine c3_ISI h0 (h2 h) ?_
      exact ⟨_, rfl, rfl, rfl⟩
  rcases sx with ⟨i, rfl⟩ | ⟨b, rfl⟩ | rfl | ⟨s, rfl⟩ | ⟨l, rfl⟩
  · exact key true false rfl T.kit_ii (fun _ => T.kit_ib) rfl
  · exact key true true rfl T.kit_bi (fun _ => T.kit_bb) rfl
  · exact key false true rfl T.kit_ni (fun h => by cases h) rfl
  · exact key false true rfl T.kit_si (fun h => by cases h) rfl
  · exact key false true rfl T.kit_ti (fun h => by cases h) rfl
/-- a bound: a whole number from the number of dips to 24 -/
def numO (lo hi : Int) : D → RO
  | .int i => if lo ≤ i ∧ i ≤ hi then none else some (.number, .int i)
  | x => some (.number, x)
theorem numO_not {lo hi : Int} {x : D} (h : isI x = false) : numO lo hi x = some (.number, x) := by
  cases x with
  | int i => cases h
  | _ => rfl
theorem numO_int {lo hi : Int} {x : D} (h : numO lo hi x = none) : ∃ i, x = .int i ∧ lo ≤ i ∧ i ≤ hi := by
  cases x with
  | int i =>
    by_cases hc : lo ≤ i ∧ i ≤ hi
    · exact ⟨i, rfl, hc⟩
    · have h : (if lo ≤ i ∧ i ≤ hi then none else some (Rf.number, D.int i)) = none := h
      rw [if_neg hc] at h; cases h
  | _ => cases h
def S_bound (A0 : Adr) : Sp3 := fun ds M Q E => ∃ (b d : Addr) (x : D) (fs : List (Str × D)) (l : List D), ds = [.ref b, x] ∧ Scal x ∧ M b = some (.ins A0.f_Book fs) ∧ fs.lookup ("dip_rows" : Str) = some (.ref d) ∧ fs.length < 1000 ∧ M d = some (.lst l) ∧
  (∀ C t, numO l.length 24 x = some (C, t) → E (C.cls A0) t M) ∧ (numO l.length 24 x = none → Q .non (mput M b (.ins A0.f_Book (putD "most_dips" x fs))))
theorem ok_Book_bound (T : Tx P K mg A0) : FnOk P w K mg base (L2.CX P w) 2 A0.f_Book_bound A0.d_Book_bound ["self", "number"] (lift3 (S_bound A0)) := by
  refine T.F_Book_bound.okX sc_Book_bound (lift3_len fun ds M Q E ⟨a, b, c, d, e, h, _⟩ => by rw [h]; rfl) (fun cdv A outer s H vs Q E hr h => ?_)
  have hu := hr.units
  have hu5 := units65 hr
  obtain ⟨tM, hMOST_DIPS⟩ := T.hMOST_DIPS
  refine ⟨_, (pss_cons (ps_if (PW.pt (pw_or (pt_not (pt_truthK K rfl (pe_call (ok_is_whole T) (hr.mono (by decide)) (by rfl) T.g_is_whole T.k_is_whole T.b_is_whole .nil pass0 (pa_cons (pv 1) pa_nil)) (by intro _; rfl))) (pw_or1 (pt_not (pt_chain op_le op_le (pe_callB (call_lenDK K rfl) (by rfl) T.n_len PySem.boot_len (pa_cons (pe_fldK K rfl (pv 0)) pa_nil)) (pv 1) (pe_glob (v := .int 24) (by rfl) hMOST_DIPS ⟨_, rfl⟩)))))) (pss_one (ps_raiseDye (by rfl) T.dye_BadNumber T.g_BadNumber hr (takes_of rfl rfl rfl rfl) (pa_cons (pv 1) (pa_cons pe_str pa_nil)))) pss_nil)
  (pss_one (ps_fld (pv 0) (pv 1) (by rfl)))), run3 h fun B ds M Q3 E3 hs hE => ?_⟩
  obtain ⟨b, d, x, fs, l, rfl, sx, hb, hf, hfl, hd, qe, q⟩ := hs
  change W3s B _ _ [some (.ref b), some x] M
  try dsimp only [cxOf, Cx.nox, Cx.wish]
  repeat walk_at "t3"
  cases hw : isI x with
  | false =>
    refine w_orTP (a := true) (b := true) ?_ (fun h => by cases h) ?_
    · repeat walk_at "t3"
      exact ⟨x, rfl, sx, false, by rw [hw]; rfl, rfl, rfl⟩
    · refine iteB (fun _ => ?_) (fun h => by cases h)
      refine s_raise (impW_of hE) ?_
      repeat walk_at "t3"
      exact ⟨_, _, rfl, qe _ _ (numO_not hw)⟩
  | true =>
    obtain ⟨n, rfl⟩ := isI_int hw
    refine w_orTP (a := false) (b := !(decide ((l.length : Int) ≤ n) && decide (n ≤ 24))) ?_ (fun _ => ?_) ?_
    · repeat walk_at "t3"
      exact ⟨_, rfl, sx, true, rfl, rfl, rfl⟩
    · repeat walk_at "t3"
      refine ⟨A0.f_Book, fs, .ref d, .inr ⟨b, rfl, hb⟩, T.cl_Book, T.na_dip_rows, hf, ?_⟩
      repeat walk_at "t3"
      refine c3_lenL (c3_len (.ow hd) ?_)
      repeat walk_at "t3"
      refine iteB (fun h => ?_) (fun h => ?_)
      · repeat walk_at "t3"
        rw [h]
        exact ⟨rfl, rfl⟩
      · rw [h]
        exact ⟨_, rfl, rfl, rfl⟩
    · refine iteB (fun h => ?_) (fun h => ?_)
      · refine s_raise (impW_of hE) ?_
        repeat walk_at "t3"
        refine ⟨_, _, rfl, qe .number _ ?_⟩
        show (if (l.length : Int) ≤ n ∧ n ≤ 24 then none else some (Rf.number, D.int n)) = _
        rw [if_neg fun hc => ?_]
        rw [decide_eq_true hc.1, decide_eq_true hc.2] at h
        cases h
      · repeat walk_at "t3"
        have h : (decide ((l.length : Int) ≤ n) && decide (n ≤ 24)) = true := by simpa using h
        have h := Bool.and_eq_true_iff.mp h
        refine ⟨b, A0.f_Book, fs, rfl, hb, T.cl_Book, T.na_most_dips, hfl, q ?_⟩
        show (if (l.length : Int) ≤ n ∧ n ≤ 24 then none else some (Rf.number, D.int n)) = _
        rw [if_pos ⟨of_decide_eq_true h.1, of_decide_eq_true h.2⟩]
def m0 : BM := ⟨[], [], [], [], [], [], 24⟩
def Fresh (M : Mem) (A : BA) : Prop := M A.b = none ∧ M A.h = none ∧ M A.t = none ∧ M A.p = none ∧ M A.c = none ∧ M A.d = none ∧ M A.f = none
def S_init (A0 : Adr) : Sp3 := fun ds M Q E => ∃ (b : Addr) (M0 : Mem) (x : D), ds = [.ref b, x] ∧ M = mput M0 b (.ins A0.f_Book []) ∧ M0 b = none ∧ Scal x ∧ (∀ C t M', numO 0 24 x = some (C, t) → (∀ z o, M0 z = some o → M' z = some o) → E (C.cls A0) t M') ∧
  ∀ (n : Int) (A : BA), x = .int n → numO 0 24 x = none → BOk A → A.b = b → Fresh M0 A → Q .non (bookM A0.f_Book M0 A { m0 with most := n })
theorem ok_Book___init__ (T : Tx P K mg A0) : FnOk P w K mg base (L2.CX P w) 5 A0.f_Book___init__ A0.d_Book___init__ ["self", "bound"] (lift3 (S_init A0)) := by
  refine T.F_Book___init__.ok sc_Book___init__ (lift3_len fun ds M Q E ⟨a, b, c, h, _⟩ => by rw [h]; rfl) (fun cdv A outer s H vs Q E hr h => ?_)
  have hu := hr.units
  have hu5 := units65 hr
  refine ⟨_, (pss_cons (ps_fld (pv 0) pe_dnewK (by rfl))
  (pss_cons (ps_fld (pv 0) (pe_lst pa_nil) (by rfl))
  (pss_cons (ps_fld (pv 0) (pe_lst pa_nil) (by rfl))
  (pss_cons (ps_fld (pv 0) pe_dnewK (by rfl))
  (pss_cons (ps_fld (pv 0) (pe_lst pa_nil) (by rfl))
  (pss_cons (ps_fld (pv 0) (pe_lst pa_nil) (by rfl))
  (pss_one (ps_propset (pv 0) (pv 1) T.cl_Book T.ps_bound (ok_Book_bound T) (hr.mono (by decide)) T.b_Book_bound (passes_at (passes_call (takes_of rfl rfl rfl rfl) (fun _ _ _ _ h => h))) (by rfl))))))))), run3 h fun B ds M Q3 E3 hs hE => ?_⟩
  obtain ⟨b, M0, x, rfl, rfl, hb0, sx, qe, q⟩ := hs
  change W3s B _ _ [some (.ref b), some x] _
  try dsimp only [cxOf, Cx.nox, Cx.wish]
  repeat walk_at "t3"
  refine w_dnewK fun h1 hh1 => ?_
  have nbh : b ≠ h1 := fun e => by rw [← e] at hh1; simp [mput] at hh1
  repeat walk_at "t3"
  refine ⟨b, A0.f_Book, [], rfl, by simp [mput, nbh, nbh.symm], T.cl_Book, T.na_hold_by_kind, Nat.le_of_ble_eq_true rfl, ?_⟩
  repeat walk_at "t3"
  refine w_lstO ?_
  repeat walk_at "t3"
  intro t1 ht1
  have nbt : b ≠ t1 := fun e => by rw [← e] at ht1; simp [mput, nbh, nbh.symm] at ht1
  have nht : h1 ≠ t1 := fun e => by rw [← e] at ht1; simp [mput, nbh, nbh.symm] at ht1
  repeat walk_at "t3"
  refine ⟨b, A0.f_Book, (putD "hold_by_kind" (.ref h1) []), rfl, by simp [mput, nbh, nbt, nht, nbh.symm, nbt.symm, nht.symm], T.cl_Book, T.na_thirst_rows, Nat.le_of_ble_eq_true rfl, ?_⟩
  repeat walk_at "t3"
  refine w_lstO ?_
  repeat walk_at "t3"
  intro p1 hp1
  have nbp : b ≠ p1 := fun e => by rw [← e] at hp1; simp [mput, nbh, nbh.symm, nbt, nbt.symm, nht, nht.symm] at hp1
  have nhp : h1 ≠ p1 := fun e => by rw [← e] at hp1; simp [mput, nbh, nbh.symm, nbt, nbt.symm, nht, nht.symm] at hp1
  have ntp : t1 ≠ p1 := fun e => by rw [← e] at hp1; simp [mput, nbh, nbh.symm, nbt, nbt.symm, nht, nht.symm] at hp1
  repeat walk_at "t3"
  refine ⟨b, A0.f_Book, (putD "thirst_rows" (.ref t1) (putD "hold_by_kind" (.ref h1) [])), rfl, by simp [mput, nbh, nbt, nht, nbp, nhp, ntp, nbh.symm, nbt.symm, nht.symm, nbp.symm, nhp.symm, ntp.symm], T.cl_Book, T.na_pot_names, Nat.le_of_ble_eq_true rfl, ?_⟩
  repeat walk_at "t3"
  refine w_dnewK fun c1 hc1 => ?_
  have nbc : b ≠ c1 := fun e => by rw [← e] at hc1; simp [mput, nbh, nbh.symm, nbt, nbt.symm, nht, nht.symm, nbp, nbp.symm, nhp, nhp.symm, ntp, ntp.symm] at hc1
  have nhc : h1 ≠ c1 := fun e => by rw [← e] at hc1; simp [mput, nbh, nbh.symm, nbt, nbt.symm, nht, nht.symm, nbp, nbp.symm, nhp, nhp.symm, ntp, ntp.symm] at hc1
  have ntc : t1 ≠ c1 := fun e => by rw [← e] at hc1; simp [mput, nbh, nbh.symm, nbt, nbt.symm, nht, nht.symm, nbp, nbp.symm, nhp, nhp.symm, ntp, ntp.symm] at hc1
  have npc : p1 ≠ c1 := fun e => by rw [← e] at hc1; simp [mput, nbh, nbh.symm, nbt, nbt.symm, nht, nht.symm, nbp, nbp.symm, nhp, nhp.symm, ntp, ntp.symm] at hc1
  repeat walk_at "t3"
  refine ⟨b, A0.f_Book, (putD "pot_names" (.ref p1) (putD "thirst_rows" (.ref t1) (putD "hold_by_kind" (.ref h1) []))), rfl, by simp [mput, nbh, nbt, nht, nbp, nhp, ntp, nbc, nhc, ntc, npc, nbh.symm, nbt.symm, nht.symm, nbp.symm, nhp.symm, ntp.symm, nbc.symm, nhc.symm, ntc.symm, npc.symm], T.cl_Book, T.na_kind_by_cloth, Nat.le_of_ble_eq_true rfl, ?_⟩
  repeat walk_at "t3"
  refine w_lstO ?_
  repeat walk_at "t3"
  intro d1 hd1
  have nbd : b ≠ d1 := fun e => by rw [← e] at hd1; simp [mput, nbh, nbh.symm, nbt, nbt.symm, nht, nht.symm, nbp, nbp.symm, nhp, nhp.symm, ntp, ntp.symm, nbc, nbc.symm, nhc, nhc.symm, ntc, ntc.symm, npc, npc.symm] at hd1
  have nhd : h1 ≠ d1 := fun e => by rw [← e] at hd1; simp [mput, nbh, nbh.symm, nbt, nbt.symm, nht, nht.symm, nbp, nbp.symm, nhp, nhp.symm, ntp, ntp.symm, nbc, nbc.symm, nhc, nhc.symm, ntc, ntc.symm, npc, npc.symm] at hd1
  have ntd : t1 ≠ d1 := fun e => by rw [← e] at hd1; simp [mput, nbh, nbh.symm, nbt, nbt.symm, nht, nht.symm, nbp, nbp.symm, nhp, nhp.symm, ntp, ntp.symm, nbc, nbc.symm, nhc, nhc.symm, ntc, ntc.symm, npc, npc.symm] at hd1
  have npd : p1 ≠ d1 := fun e => by rw [← e] at hd1; simp [mput, nbh, nbh.symm, nbt, nbt.symm, nht, nht.symm, nbp, nbp.symm, nhp, nhp.symm, ntp, ntp.symm, nbc, nbc.symm, nhc, nhc.symm, ntc, ntc.symm, npc, npc.symm] at hd1
  have ncd : c1 ≠ d1 := fun e => by rw [← e] at hd1; simp [mput, nbh, nbh.symm, nbt, nbt.symm, nht, nht.symm, nbp, nbp.symm, nhp, nhp.symm, ntp, ntp.symm, nbc, nbc.symm, nhc, nhc.symm, ntc, ntc.symm, npc, npc.symm] at hd1
  repeat walk_at "t3"
  refine ⟨b, A0.f_Book, (putD "kind_by_cloth" (.ref c1) (putD "pot_names" (.ref p1) (putD "thirst_rows" (.ref t1) (putD "hold_by_kind" (.ref h1) [])))), rfl, by simp [mput, nbh, nbt, nht, nbp, nhp, ntp, nbc, nhc, ntc, npc, nbd, nhd, ntd, npd, ncd, nbh.symm, nbt.symm, nht.symm, nbp.symm, nhp.symm, ntp.symm, nbc.symm, nhc.symm, ntc.symm, npc.symm, nbd.symm, nhd.symm, ntd.symm, npd.symm, ncd.symm], T.cl_Book, T.na_dip_rows, Nat.le_of_ble_eq_true rfl, ?_⟩
  repeat walk_at "t3"
  refine w_lstO ?_
  repeat walk_at "t3"
  intro f1 hf1
  have nbf : b ≠ f1 := fun e => by rw [← e] at hf1; simp [mput, nbh, nbh.symm, nbt, nbt.symm, nht, nht.symm, nbp, nbp.symm, nhp, nhp.symm, ntp, ntp.symm, nbc, nbc.symm, nhc, nhc.symm, ntc, ntc.symm, npc, npc.symm, nbd, nbd.symm, nhd, nhd.symm, ntd, ntd.symm, npd, npd.symm, ncd, ncd.symm] at hf1
  have nhf : h1 ≠ f1 := fun e => by rw [← e] at hf1; simp [mput, nbh, nbh.symm, nbt, nbt.symm, nht, nht.symm, nbp, nbp.symm, nhp, nhp.symm, ntp, ntp.symm, nbc, nbc.symm, nhc, nhc.symm, ntc, ntc.symm, npc, npc.symm, nbd, nbd.symm, nhd, nhd.symm, ntd, ntd.symm, npd, npd.symm, ncd, ncd.symm] at hf1
  have ntf : t1 ≠ f1 := fun e => by rw [← e] at hf1; simp [mput, nbh, nbh.symm, nbt, nbt.symm, nht, nht.symm, nbp, nbp.symm, nhp, nhp.symm, ntp, ntp.symm, nbc, nbc.symm, nhc, nhc.symm, ntc, ntc.symm, npc, npc.symm, nbd, nbd.symm, nhd, nhd.symm, ntd, ntd.symm, npd, npd.symm, ncd, ncd.symm] at hf1
  have npf : p1 ≠ f1 := fun e => by rw [← e] at hf1; simp [mput, nbh, nbh.symm, nbt, nbt.symm, nht, nht.symm, nbp, nbp.symm, nhp, nhp.symm, ntp, ntp.symm, nbc, nbc.symm, nhc, nhc.symm, ntc, ntc.symm, npc, npc.symm, nbd, nbd.symm, nhd, nhd.symm, ntd, ntd.symm, npd, npd.symm, ncd, ncd.symm] at hf1
  have ncf : c1 ≠ f1 := fun e => by rw [← e] at hf1; simp [mput, nbh, nbh.symm, nbt, nbt.symm, nht, nht.symm, nbp, nbp.symm, nhp, nhp.symm, ntp, ntp.symm, nbc, nbc.symm, nhc, nhc.symm, ntc, ntc.symm, npc, npc.symm, nbd, nbd.symm, nhd, nhd.symm, ntd, ntd.symm, npd, npd.symm, ncd, ncd.symm] at hf1
  have ndf : d1 ≠ f1 := fun e => by rw [← e] at hf1; simp [mput, nbh, nbh.symm, nbt, nbt.symm, nht, nht.symm, nbp, nbp.symm, nhp, nhp.symm, ntp, ntp.symm, nbc, nbc.symm, nhc, nhc.symm, ntc, ntc.symm, npc, npc.symm, nbd, nbd.symm, nhd, nhd.symm, ntd, ntd.symm, npd, npd.symm, ncd, ncd.symm] at hf1
  repeat walk_at "t3"
  refine ⟨b, A0.f_Book, (putD "dip_rows" (.ref d1) (putD "kind_by_cloth" (.ref c1) (putD "pot_names" (.ref p1) (putD "thirst_rows" (.ref t1) (putD "hold_by_kind" (.ref h1) []))))), rfl, by simp [mput, nbh, nbt, nht, nbp, nhp, ntp, nbc, nhc, ntc, npc, nbd, nhd, ntd, npd, ncd, nbf, nhf, ntf, npf, ncf, ndf, nbh.symm, nbt.symm, nht.symm, nbp.symm, nhp.symm, ntp.symm, nbc.symm, nhc.symm, ntc.symm, npc.symm, nbd.symm, nhd.symm, ntd.symm, npd.symm, ncd.symm, nbf.symm, nhf.symm, ntf.symm, npf.symm, ncf.symm, ndf.symm], T.cl_Book, T.na_fact_rows, Nat.le_of_ble_eq_true rfl, ?_⟩
  repeat walk_at "t3"
  refine s_propset (EW := fun C th _ M => E3 C th M) (impW_of hE) ?_
  repeat walk_at "t3"
  refine ⟨(putD "fact_rows" (.ref f1) (putD "dip_rows" (.ref d1) (putD "kind_by_cloth" (.ref c1) (putD "pot_names" (.ref p1) (putD "thirst_rows" (.ref t1) (putD "hold_by_kind" (.ref h1) [])))))), .inr ⟨b, rfl, by simp [mput, nbh, nbt, nht, nbp, nhp, ntp, nbc, nhc, ntc, npc, nbd, nhd, ntd, npd, ncd, nbf, nhf, ntf, npf, ncf, ndf, nbh.symm, nbt.symm, nht.symm, nbp.symm, nhp.symm, ntp.symm, nbc.symm, nhc.symm, ntc.symm, npc.symm, nbd.symm, nhd.symm, ntd.symm, npd.symm, ncd.symm, nbf.symm, nhf.symm, ntf.symm, npf.symm, ncf.symm, ndf.symm]⟩, b, d1, x, (putD "fact_rows" (.ref f1) (putD "dip_rows" (.ref d1) (putD "kind_by_cloth" (.ref c1) (putD "pot_names" (.ref p1) (putD "thirst_rows" (.ref t1) (putD "hold_by_kind" (.ref h1) [])))))), [], rfl, sx, by simp [mput, nbh, nbt, nht, nbp, nhp, ntp, nbc, nhc, ntc, npc, nbd, nhd, ntd, npd, ncd, nbf, nhf, ntf, npf, ncf, ndf, nbh.symm, nbt.symm, nht.symm, nbp.symm, nhp.symm, ntp.symm, nbc.symm, nhc.symm, ntc.symm, npc.symm, nbd.symm, nhd.symm, ntd.symm, npd.symm, ncd.symm, nbf.symm, nhf.symm, ntf.symm, npf.symm, ncf.symm, ndf.symm], by rfl, Nat.le_of_ble_eq_true rfl, by simp [mput, nbh, nbt, nht, nbp, nhp, ntp, nbc, nhc, ntc, npc, nbd, nhd, ntd, npd, ncd, nbf, nhf, ntf, npf, ncf, ndf, nbh.symm, nbt.symm, nht.symm, nbp.symm, nhp.symm, ntp.symm, nbc.symm, nhc.symm, ntc.symm, npc.symm, nbd.symm, nhd.symm, ntd.symm, npd.symm, ncd.symm, nbf.symm, nhf.symm, ntf.symm, npf.symm, ncf.symm, ndf.symm], fun C t he => qe C t _ he ?_, fun hn => ?_⟩
  · intro z o hz
    have fresh : ∀ y, M0 y = none → z ≠ y := fun y hy e => by rw [e, hy] at hz; cases hz
    have e1 := fresh b hb0
    have e2 := fresh h1 (by simpa [mput, nbh, nbt, nht, nbp, nhp, ntp, nbc, nhc, ntc, npc, nbd, nhd, ntd, npd, ncd, nbf, nhf, ntf, npf, ncf, ndf, nbh.symm, nbt.symm, nht.symm, nbp.symm, nhp.symm, ntp.symm, nbc.symm, nhc.symm, ntc.symm, npc.symm, nbd.symm, nhd.symm, ntd.symm, npd.symm, ncd.symm, nbf.symm, nhf.symm, ntf.symm, npf.symm, ncf.symm, ndf.symm] using hh1)
    have e3 := fresh t1 (by simpa [mput, nbh, nbt, nht, nbp, nhp, ntp, nbc, nhc, ntc, npc, nbd, nhd, ntd, npd, ncd, nbf, nhf, ntf, npf, ncf, ndf, nbh.symm, nbt.symm, nht.symm, nbp.symm, nhp.symm, ntp.symm, nbc.symm, nhc.symm, ntc.symm, npc.symm, nbd.symm, nhd.symm, ntd.symm, npd.symm, ncd.symm, nbf.symm, nhf.symm, ntf.symm, npf.symm, ncf.symm, ndf.symm] using ht1)
    have e4 := fresh p1 (by simpa [mput, nbh, nbt, nht, nbp, nhp, ntp, nbc, nhc, ntc, npc, nbd, nhd, ntd, npd, ncd, nbf, nhf, ntf, npf, ncf, ndf, nbh.symm, nbt.symm, nht.symm, nbp.symm, nhp.symm, ntp.symm, nbc.symm, nhc.symm, ntc.symm, npc.symm, nbd.symm, nhd.symm, ntd.symm, npd.symm, ncd.symm, nbf.symm, nhf.symm, ntf.symm, npf.symm, ncf.symm, ndf.symm] using hp1)
    have e5 := fresh c1 (by simpa [mput, nbh, nbt, nht, nbp, nhp, ntp, nbc, nhc, ntc, npc, nbd, nhd, ntd, npd, ncd, nbf, nhf, ntf, npf, ncf, ndf, nbh.symm, nbt.symm, nht.symm, nbp.symm, nhp.symm, ntp.symm, nbc.symm, nhc.symm, ntc.symm, npc.symm, nbd.symm, nhd.symm, ntd.symm, npd.symm, ncd.symm, nbf.symm, nhf.symm, ntf.symm, npf.symm, ncf.symm, ndf.symm] using hc1)
    have e6 := fresh d1 (by simpa [mput, nbh, nbt, nht, nbp, nhp, ntp, nbc, nhc, ntc, npc, nbd, nhd, ntd, npd, ncd, nbf, nhf, ntf, npf, ncf, ndf, nbh.symm, nbt.symm, nht.symm, nbp.symm, nhp.symm, ntp.symm, nbc.symm, nhc.symm, ntc.symm, npc.symm, nbd.symm, nhd.symm, ntd.symm, npd.symm, ncd.symm, nbf.symm, nhf.symm, ntf.symm, npf.symm, ncf.symm, ndf.symm] using hd1)
    have e7 := fresh f1 (by simpa [mput, nbh, nbt, nht, nbp, nhp, ntp, nbc, nhc, ntc, npc, nbd, nhd, ntd, npd, ncd, nbf, nhf, ntf, npf, ncf, ndf, nbh.symm, nbt.symm, nht.symm, nbp.symm, nhp.symm, ntp.symm, nbc.symm, nhc.symm, ntc.symm, npc.symm, nbd.symm, nhd.symm, ntd.symm, npd.symm, ncd.symm, nbf.symm, nhf.symm, ntf.symm, npf.symm, ncf.symm, ndf.symm] using hf1)
    simp [mput, e1, e2, e3, e4, e5, e6, e7, hz]
  obtain ⟨n, rfl, _⟩ := numO_int hn
  show Q3 .non _
  refine cast (congrArg (Q3 D.non) ?_) (q n ⟨b, h1, t1, p1, c1, d1, f1⟩ rfl hn ⟨nbh, nbt, nbp, nbc, nbd, nbf, nht, nhp, nhc, nhd, nhf, ntp, ntc, ntd, ntf, npc, npd, npf, ncd, ncf, ndf⟩ rfl ⟨hb0, by simpa [mput, nbh, nbt, nht, nbp, nhp, ntp, nbc, nhc, ntc, npc, nbd, nhd, ntd, npd, ncd, nbf, nhf, ntf, npf, ncf, ndf, nbh.symm, nbt.symm, nht.symm, nbp.symm, nhp.symm, ntp.symm, nbc.symm, nhc.symm, ntc.symm, npc.symm, nbd.symm, nhd.symm, ntd.symm, npd.symm, ncd.symm, nbf.symm, nhf.symm, ntf.symm, npf.symm, ncf.symm, ndf.symm] using hh1, by simpa [mput, nbh, nbt, nht, nbp, nhp, ntp, nbc, nhc, ntc, npc, nbd, nhd, ntd, npd, ncd, nbf, nhf, ntf, npf, ncf, ndf, nbh.symm, nbt.symm, nht.symm, nbp.symm, nhp.symm, ntp.symm, nbc.symm, nhc.symm, ntc.symm, npc.symm, nbd.symm, nhd.symm, ntd.symm, npd.symm, ncd.symm, nbf.symm, nhf.symm, ntf.symm, npf.symm, ncf.symm, ndf.symm] using ht1, by simpa [mput, nbh, nbt, nht, nbp, nhp, ntp, nbc, nhc, ntc, npc, nbd, nhd, ntd, npd, ncd, nbf, nhf, ntf, npf, ncf, ndf, nbh.symm, nbt.symm, nht.symm, nbp.symm, nhp.symm, ntp.symm, nbc.symm, nhc.symm, ntc.symm, npc.symm, nbd.symm, nhd.symm, ntd.symm, npd.symm, ncd.symm, nbf.symm, nhf.symm, ntf.symm, npf.symm, ncf.symm, ndf.symm] using hp1, by simpa [mput, nbh, nbt, nht, nbp, nhp, ntp, nbc, nhc, ntc, npc, nbd, nhd, ntd, npd, ncd, nbf, nhf, ntf, npf, ncf, ndf, nbh.symm, nbt.symm, nht.symm, nbp.symm, nhp.symm, ntp.symm, nbc.symm, nhc.symm, ntc.symm, npc.symm, nbd.symm, nhd.symm, ntd.symm, npd.symm, ncd.symm, nbf.symm, nhf.symm, ntf.symm, npf.symm, ncf.symm, ndf.symm] using hc1, by simpa [mput, nbh, nbt, nht, nbp, nhp, ntp, nbc, nhc, ntc, npc, nbd, nhd, ntd, npd, ncd, nbf, nhf, ntf, npf, ncf, ndf, nbh.symm, nbt.symm, nht.symm, nbp.symm, nhp.symm, ntp.symm, nbc.symm, nhc.symm, ntc.symm, npc.symm, nbd.symm, nhd.symm, ntd.symm, npd.symm, ncd.symm, nbf.symm, nhf.symm, ntf.symm, npf.symm, ncf.symm, ndf.symm] using hd1, by simpa [mput, nbh, nbt, nht, nbp, nhp, ntp, nbc, nhc, ntc, npc, nbd, nhd, ntd, npd, ncd, nbf, nhf, ntf, npf, ncf, ndf, nbh.symm, nbt.symm, nht.symm, nbp.symm, nhp.symm, ntp.symm, nbc.symm, nhc.symm, ntc.symm, npc.symm, nbd.symm, nhd.symm, ntd.symm, npd.symm, ncd.symm, nbf.symm, nhf.symm, ntf.symm, npf.symm, ncf.symm, ndf.symm] using hf1⟩)
  funext a
  by_cases eb : a = b
  · subst eb; simp [mput, bookM, nbh, nbt, nht, nbp, nhp, ntp, nbc, nhc, ntc, npc, nbd, nhd, ntd, npd, ncd, nbf, nhf, ntf, npf, ncf, ndf, nbh.symm, nbt.symm, nht.symm, nbp.symm, nhp.symm, ntp.symm, nbc.symm, nhc.symm, ntc.symm, npc.symm, nbd.symm, nhd.symm, ntd.symm, npd.symm, ncd.symm, nbf.symm, nhf.symm, ntf.symm, npf.symm, ncf.symm, ndf.symm]; rfl
  by_cases eh : a = h1
  · subst eh; simp [mput, bookM, m0, kvD, nbh, nbt, nht, nbp, nhp, ntp, nbc, nhc, ntc, npc, nbd, nhd, ntd, npd, ncd, nbf, nhf, ntf, npf, ncf, ndf, nbh.symm, nbt.symm, nht.symm, nbp.symm, nhp.symm, ntp.symm, nbc.symm, nhc.symm, ntc.symm, npc.symm, nbd.symm, nhd.symm, ntd.symm, npd.symm, ncd.symm, nbf.symm, nhf.symm, ntf.symm, npf.symm, ncf.symm, ndf.symm]
  by_cases et : a = t1
  · subst et; simp [mput, bookM, m0, kvD, nbh, nbt, nht, nbp, nhp, ntp, nbc, nhc, ntc, npc, nbd, nhd, ntd, npd, ncd, nbf, nhf, ntf, npf, ncf, ndf, nbh.symm, nbt.symm, nht.symm, nbp.symm, nhp.symm, ntp.symm, nbc.symm, nhc.symm, ntc.symm, npc.symm, nbd.symm, nhd.symm, ntd.symm, npd.symm, ncd.symm, nbf.symm, nhf.symm, ntf.symm, npf.symm, ncf.symm, ndf.symm]
  by_cases ep : a = p1
  · subst ep; simp [mput, bookM, m0, kvD, nbh, nbt, nht, nbp, nhp, ntp, nbc, nhc, ntc, npc, nbd, nhd, ntd, npd, ncd, nbf, nhf, ntf, npf, ncf, ndf, nbh.symm, nbt.symm, nht.symm, nbp.symm, nhp.symm, ntp.symm, nbc.symm, nhc.symm, ntc.symm, npc.symm, nbd.symm, nhd.symm, ntd.symm, npd.symm, ncd.symm, nbf.symm, nhf.symm, ntf.symm, npf.symm, ncf.symm, ndf.symm]
  by_cases ec : a = c1
  · subst ec; simp [mput, bookM, m0, kvD, nbh, nbt, nht, nbp, nhp, ntp, nbc, nhc, ntc, npc, nbd, nhd, ntd, npd, ncd, nbf, nhf, ntf, npf, ncf, ndf, nbh.symm, nbt.symm, nht.symm, nbp.symm, nhp.symm, ntp.symm, nbc.symm, nhc.symm, ntc.symm, npc.symm, nbd.symm, nhd.symm, ntd.symm, npd.symm, ncd.symm, nbf.symm, nhf.symm, ntf.symm, npf.symm, ncf.symm, ndf.symm]
  by_cases ed : a = d1
  · subst ed; simp [mput, bookM, m0, kvD, nbh, nbt, nht, nbp, nhp, ntp, nbc, nhc, ntc, npc, nbd, nhd, ntd, npd, ncd, nbf, nhf, ntf, npf, ncf, ndf, nbh.symm, nbt.symm, nht.symm, nbp.symm, nhp.symm, ntp.symm, nbc.symm, nhc.symm, ntc.symm, npc.symm, nbd.symm, nhd.symm, ntd.symm, npd.symm, ncd.symm, nbf.symm, nhf.symm, ntf.symm, npf.symm, ncf.symm, ndf.symm]
  by_cases ef : a = f1
  · subst ef; simp [mput, bookM, m0, kvD, nbh, nbt, nht, nbp, nhp, ntp, nbc, nhc, ntc, npc, nbd, nhd, ntd, npd, ncd, nbf, nhf, ntf, npf, ncf, ndf, nbh.symm, nbt.symm, nht.symm, nbp.symm, nhp.symm, ntp.symm, nbc.symm, nhc.symm, ntc.symm, npc.symm, nbd.symm, nhd.symm, ntd.symm, npd.symm, ncd.symm, nbf.symm, nhf.symm, ntf.symm, npf.symm, ncf.symm, ndf.symm]
  simp [mput, bookM, eb, eh, et, ep, ec, ed, ef]
end
end LW
set_option Elab.async false
set_option linter.all false
set_option maxRecDepth 100000
set_option maxHeartbeats 4000000
namespace LW
open PySem L2 T3
open Evl (Ex)
local macro_rules | `(tactic| walk_at "t3") => `(tactic| first
  | (with_reducible refine s_seq ?_) | (with_reducible refine s_asg ?_) | (with_reducible refine s_if ?_) | (with_reducible refine s_ret ?_) | (with_reducible refine s_drop ?_) | (with_reducible refine s_asgG ?_) | (with_reducible refine s_retN ?_)
  | (with_reducible refine s_next ?_) | (with_reducible refine s_brk ?_) | (with_reducible refine s_cont ?_) | (with_reducible refine s_par ?_) | (with_reducible refine s_fld ?_)
  | ((with_reducible refine' w_var ?hx ?_); (case hx => exact rfl)) | (with_reducible refine w_cI ?_) | (with_reducible refine w_cB ?_) | (with_reducible refine w_cS ?_) | (with_reducible refine w_cN ?_) | (with_reducible refine w_cT ?_) | (with_reducible refine w_cR ?_)
  | (with_reducible refine w_op ?_) | (with_reducible refine w_un ?_) | (with_reducible refine w_nil ?_) | (with_reducible refine w_tup ?_) | (with_reducible refine w_cons ?_) | (with_reducible refine w_cb ?_) | (with_reducible refine w_bm0 ?_) | (with_reducible refine w_bm ?_)
  | (with_reducible refine w_test ?_) | (with_reducible refine w_B ?_) | (with_reducible refine w_notT ?_) | (with_reducible refine w_yes ?_) | (with_reducible refine w_notV ?_)
  | (with_reducible refine w_ifE ?_) | (with_reducible refine w_isN ?_) | (with_reducible refine w_notN ?_) | (with_reducible refine w_tr ?_) | (with_reducible refine w_chain ?_) | (with_reducible refine w_fld ?_) | (with_reducible refine w_sl ?_) | (with_reducible refine o_no ?_) | (with_reducible refine o_some ?_)
  | (with_reducible refine w_call0 ?_) | (with_reducible refine g_name ?_) | ((with_reducible refine' g_tup ?hx ?hy ?_); (case hx => exact rfl); (case hy => exact rfl)) | (with_reducible refine g_cons ?_) | (with_reducible refine g_nil ?_) | (with_reducible refine g_set ?_)
  | (with_reducible refine r3_add_ii ?_) | (with_reducible refine r3_sub ?_) | (with_reducible refine r3_lt ?_) | (with_reducible refine r3_le ?_) | (with_reducible refine r3_gt ?_) | (with_reducible refine r3_ge ?_) | (with_reducible refine u3_neg ?_)
  | (with_reducible refine c3_int_i ?_) | (with_reducible refine c3_int_b ?_) | (with_reducible refine c3_abs ?_) | (with_reducible refine c3_len_t ?_) | (with_reducible refine c3_len .fz ?_) | (with_reducible refine c3_max2 ?_) | (with_reducible refine c3_min2 ?_)
  | (with_reducible refine r3_eq (n := 9) (m := 9) okD_int okD_int ?_) | (with_reducible refine r3_ne (n := 9) (m := 9) okD_int okD_int ?_)
  | ((with_reducible refine' Exists.intro _ (And.intro ?hx ?_)); (case hx => exact rfl))
  | ((with_reducible refine' And.intro ?hx ?_); (case hx => (show List.length _ ≤ 100000); exact Nat.le_of_ble_eq_true rfl))
  | (with_reducible refine c3_lenL (c3_len_t ?_)) | (with_reducible refine c3_lenL (c3_len .fz ?_)))

section
variable {P : Program} {w : World} {K : PySem.W.Frag} {mg : Str → Option Value} {base : Heap} {A0 : Adr}

local macro_rules | `(tactic| walk_at "t3q") => `(tactic| first
  | (with_reducible refine s_seq ?_) | (with_reducible refine s_asg ?_) | (with_reducible refine s_if ?_) | (with_reducible refine s_ret ?_) | (with_reducible refine s_drop ?_) | (with_reducible refine s_asgG ?_) | (with_reducible refine s_retN ?_)
  | (with_reducible refine s_next ?_) | (with_reducible refine s_brk ?_) | (with_reducible refine s_cont ?_) | (with_reducible refine s_par ?_) | (with_reducible refine s_fld ?_)
  | ((with_reducible refine' w_var ?hx ?_); (case hx => exact rfl)) | (with_reducible refine w_cI ?_) | (with_reducible refine w_cB ?_) | (with_reducible refine w_cS ?_) | (with_reducible refine w_cN ?_) | (with_reducible refine w_cT ?_) | (with_reducible refine w_cR ?_)
  | (with_reducible refine w_op ?_) | (with_reducible refine w_un ?_) | (with_reducible refine w_nil ?_) | (with_reducible refine w_tup ?_) | (with_reducible refine w_cons ?_) | (with_reducible refine w_cb ?_) | (with_reducible refine w_bm0 ?_) | (with_reducible refine w_bm ?_)
  | (with_reducible refine w_test ?_) | (with_reducible refine w_B ?_) | (with_reducible refine w_notT ?_) | (with_reducible refine w_yes ?_) | (with_reducible refine w_notV ?_)
  | (with_reducible refine w_ifE ?_) | (with_reducible refine w_isN ?_) | (with_reducible refine w_notN ?_) | (with_reducible refine w_tr ?_) | (with_reducible refine w_chain ?_) | (with_reducible refine w_fld ?_) | (with_reducible refine w_sl ?_) | (with_reducible refine o_no ?_) | (with_reducible refine o_some ?_)
  | (with_reducible refine g_name ?_) | ((with_reducible refine' g_tup ?hx ?hy ?_); (case hx => exact rfl); (case hy => exact rfl)) | (with_reducible refine g_cons ?_) | (with_reducible refine g_nil ?_) | (with_reducible refine g_set ?_)
  | (with_reducible refine r3_add_ii ?_) | (with_reducible refine r3_sub ?_) | (with_reducible refine r3_lt ?_) | (with_reducible refine r3_le ?_) | (with_reducible refine r3_gt ?_) | (with_reducible refine r3_ge ?_) | (with_reducible refine u3_neg ?_)
  | (with_reducible refine c3_int_i ?_) | (with_reducible refine c3_int_b ?_) | (with_reducible refine c3_abs ?_) | (with_reducible refine c3_len_t ?_) | (with_reducible refine c3_len .fz ?_) | (with_reducible refine c3_max2 ?_) | (with_reducible refine c3_min2 ?_)
  | (with_reducible refine r3_eq (n := 9) (m := 9) okD_int okD_int ?_) | (with_reducible refine r3_ne (n := 9) (m := 9) okD_int okD_int ?_)
  | ((with_reducible refine' Exists.intro _ (And.intro ?hx ?_)); (case hx => exact rfl))
  | ((with_reducible refine' And.intro ?hx ?_); (case hx => (show List.length _ ≤ 100000); exact Nat.le_of_ble_eq_true rfl))
  | (with_reducible refine c3_lenL (c3_len_t ?_)) | (with_reducible refine c3_lenL (c3_len .fz ?_)))
def HOLDS3 : List Str := ["fast", "loose", "unsure"]
def nameO (known : Str → Bool) : D → Option (Rf × D)
  | .str s => if goodS s = true then (if known s = true then some (Rf.known, .str s) else none) else some (Rf.name, .str s)
  | x => some (Rf.name, x)
def holdIn (h : D) : Bool := (HOLDS3.map D.str).any fun z => peq z h
def roomO (n : Nat) : Option (Rf × D) := if n < 8 then none else some (Rf.full, .int 8)
def addKindO (m : BM) (x h : D) : Option (Rf × D) := (nameO (fun s => (m.kinds.lookup s).isSome) x).or (if holdIn h = true then roomO m.kinds.length else some (Rf.hold, h))
def addPotO (m : BM) (x : D) : Option (Rf × D) := (nameO (fun s => decide (s ∈ m.pots)) x).or (roomO m.pots.length)
def addClothO (m : BM) (x k : D) : Option (Rf × D) := (nameO (fun s => (m.cloths.lookup s).isSome) x).or (if hasK m.kinds k = true then roomO m.cloths.length else some (Rf.unknown, k))
theorem nameO_nt {kn : Str → Bool} {x : D} (n : NonTxt x) : nameO kn x = some (Rf.name, x) := by
  rcases n with rfl | ⟨i, rfl⟩ | ⟨b, rfl⟩ | ⟨ks, rfl⟩ <;> rfl
theorem okDs_H : okDs 0 (HOLDS3.map D.str) = true := okDs_S (n := 0) fun s hs => by
  have : ∀ x ∈ HOLDS3, okT x := by unfold okT; decide +kernel
  exact this s hs
/-- check_name where its refusals go out -/
theorem cname_of {A0 : Adr} {x y : D} {M : Mem} {Q : DQ} {E : EQ3} {kn : Str → Bool} (v : AVal x) (hk : ∀ s, x = .str s → InK M y s (kn s)) (qe : ∀ C t, nameO kn x = some (C, t) → E (C.cls A0) t M) (q : nameO kn x = none → Q .non M) : S_cname A0 [x, y] M Q E := by
  refine ⟨x, y, rfl, ?_⟩
  rcases v.kind with ⟨s, rfl, hl⟩ | n
  · refine .inl ⟨s, kn s, rfl, hk s rfl, hl, fun g k => q ?_, fun g => qe .name _ ?_, fun g k => qe .known _ ?_⟩
    · simp [nameO, g, k]
    · simp [nameO, g]
    · simp [nameO, g, k]
  · exact .inr ⟨n, qe .name _ (nameO_nt n)⟩
theorem txt_of {kn : Str → Bool} {x : D} (v : AVal x) (hn : nameO kn x = none) : ∃ s, x = .str s ∧ goodS s = true ∧ kn s = false := by
  rcases v.kind with ⟨s, rfl, _⟩ | n
  · refine ⟨s, rfl, ?_⟩
    have hn : (if goodS s = true then (if kn s = true then some (Rf.known, D.str s) else none) else some (Rf.name, D.str s)) = none := hn
    by_cases g : goodS s = true
    · rw [if_pos g] at hn
      refine ⟨g, ?_⟩
      cases e : kn s with
      | false => rfl
      | true => rw [e] at hn; cases hn
    · rw [if_neg g] at hn; cases hn
  · rw [nameO_nt n] at hn; cases hn
end
end LW
set_option Elab.async false
set_option linter.all false
set_option maxRecDepth 100000
set_option maxHeartbeats 4000000
namespace LW
open PySem L2 T3
open Evl (Ex)
local macro_rules | `(tactic| walk_at "t3") => `(tactic| first
  | (with_reducible refine s_seq ?_) | (with_reducible refine s_asg ?_) | (with_reducible refine s_if ?_) | (with_reducible refine s_ret ?_) | (with_reducible refine s_drop ?_) | (with_reducible refine s_asgG ?_) | (with_reducible refine s_retN ?_)
  | (with_reducible refine s_next ?_) | (with_reducible refine s_brk ?_) | (with_reducible refine s_cont ?_) | (with_reducible refine s_par ?_) | (with_reducible refine s_fld ?_)
  | ((with_reducible refine' w_var ?hx ?_); (case hx => exact rfl)) | (with_reducible refine w_cI ?_) | (with_reducible refine w_cB ?_) | (with_reducible refine w_cS ?_) | (with_reducible refine w_cN ?_) | (with_reducible refine w_cT ?_) | (with_reducible refine w_cR ?_)
  | (with_reducible refine w_op ?_) | (with_reducible refine w_un ?_) | (with_reducible refine w_nil ?_) | (with_reducible refine w_tup ?_) | (with_reducible refine w_cons ?_) | (with_reducible refine w_cb ?_) | (with_reducible refine w_bm0 ?_) | (with_reducible refine w_bm ?_)
  | (with_reducible refine w_test ?_) | (with_reducible refine w_B ?_) | (with_reducible refine w_notT ?_) | (with_reducible refine w_yes ?_) | (with_reducible refine w_notV ?_)
  | (with_reducible refine w_ifE ?_) | (with_reducible refine w_isN ?_) | (with_reducible refine w_notN ?_) | (with_reducible refine w_tr ?_) | (with_reducible refine w_chain ?_) | (with_reducible refine w_fld ?_) | (with_reducible refine w_sl ?_) | (with_reducible refine o_no ?_) | (with_reducible refine o_some ?_)
  | (with_reducible refine w_call0 ?_) | (with_reducible refine g_name ?_) | ((with_reducible refine' g_tup ?hx ?hy ?_); (case hx => exact rfl); (case hy => exact rfl)) | (with_reducible refine g_cons ?_) | (with_reducible refine g_nil ?_) | (with_reducible refine g_set ?_)
  | (with_reducible refine r3_add_ii ?_) | (with_reducible refine r3_sub ?_) | (with_reducible refine r3_lt ?_) | (with_reducible refine r3_le ?_) | (with_reducible refine r3_gt ?_) | (with_reducible refine r3_ge ?_) | (with_reducible refine u3_neg ?_)
  | (with_reducible refine c3_int_i ?_) | (with_reducible refine c3_int_b ?_) | (with_reducible refine c3_abs ?_) | (with_reducible refine c3_len_t ?_) | (with_reducible refine c3_len .fz ?_) | (with_reducible refine c3_max2 ?_) | (with_reducible refine c3_min2 ?_)
  | (with_reducible refine r3_eq (n := 9) (m := 9) okD_int okD_int ?_) | (with_reducible refine r3_ne (n := 9) (m := 9) okD_int okD_int ?_)
  | ((with_reducible refine' Exists.intro _ (And.intro ?hx ?_)); (case hx => exact rfl))
  | ((with_reducible refine' And.intro ?hx ?_); (case hx => (show List.length _ ≤ 100000); exact Nat.le_of_ble_eq_true rfl))
  | (with_reducible refine c3_lenL (c3_len_t ?_)) | (with_reducible refine c3_lenL (c3_len .fz ?_)))

section
variable {P : Program} {w : World} {K : PySem.W.Frag} {mg : Str → Option Value} {base : Heap} {A0 : Adr}

local macro_rules | `(tactic| walk_at "t3q") => `(tactic| first
  | (with_reducible refine s_seq ?_) | (with_reducible refine s_asg ?_) | (with_reducible refine s_if ?_) | (with_reducible refine s_ret ?_) | (with_reducible refine s_drop ?_) | (with_reducible refine s_asgG ?_) | (with_reducible refine s_retN ?_)
  | (with_reducible refine s_next ?_) | (with_reducible refine s_brk ?_) | (with_reducible refine s_cont ?_) | (with_reducible refine s_par ?_) | (with_reducible refine s_fld ?_)
  | ((with_reducible refine' w_var ?hx ?_); (case hx => exact rfl)) | (with_reducible refine w_cI ?_) | (with_reducible refine w_cB ?_) | (with_reducible refine w_cS ?_) | (with_reducible refine w_cN ?_) | (with_reducible refine w_cT ?_) | (with_reducible refine w_cR ?_)
  | (with_reducible refine w_op ?_) | (with_reducible refine w_un ?_) | (with_reducible refine w_nil ?_) | (with_reducible refine w_tup ?_) | (with_reducible refine w_cons ?_) | (with_reducible refine w_cb ?_) | (with_reducible refine w_bm0 ?_) | (with_reducible refine w_bm ?_)
  | (with_reducible refine w_test ?_) | (with_reducible refine w_B ?_) | (with_reducible refine w_notT ?_) | (with_reducible refine w_yes ?_) | (with_reducible refine w_notV ?_)
  | (with_reducible refine w_ifE ?_) | (with_reducible refine w_isN ?_) | (with_reducible refine w_notN ?_) | (with_reducible refine w_tr ?_) | (with_reducible refine w_chain ?_) | (with_reducible refine w_fld ?_) | (with_reducible refine w_sl ?_) | (with_reducible refine o_no ?_) | (with_reducible refine o_some ?_)
  | (with_reducible refine g_name ?_) | ((with_reducible refine' g_tup ?hx ?hy ?_); (case hx => exact rfl); (case hy => exact rfl)) | (with_reducible refine g_cons ?_) | (with_reducible refine g_nil ?_) | (with_reducible refine g_set ?_)
  | (with_reducible refine r3_add_ii ?_) | (with_reducible refine r3_sub ?_) | (with_reducible refine r3_lt ?_) | (with_reducible refine r3_le ?_) | (with_reducible refine r3_gt ?_) | (with_reducible refine r3_ge ?_) | (with_reducible refine u3_neg ?_)
  | (with_reducible refine c3_int_i ?_) | (with_reducible refine c3_int_b ?_) | (with_reducible refine c3_abs ?_) | (with_reducible refine c3_len_t ?_) | (with_reducible refine c3_len .fz ?_) | (with_reducible refine c3_max2 ?_) | (with_reducible refine c3_min2 ?_)
  | (with_reducible refine r3_eq (n := 9) (m := 9) okD_int okD_int ?_) | (with_reducible refine r3_ne (n := 9) (m := 9) okD_int okD_int ?_)
  | ((with_reducible refine' Exists.intro _ (And.intro ?hx ?_)); (case hx => exact rfl))
  | ((with_reducible refine' And.intro ?hx ?_); (case hx => (show List.length _ ≤ 100000); exact Nat.le_of_ble_eq_true rfl))
  | (with_reducible refine c3_lenL (c3_len_t ?_)) | (with_reducible refine c3_lenL (c3_len .fz ?_)))
def S_add_kind (A0 : Adr) : Sp3 := fun ds M Q E => ∃ (M0 : Mem) (A : BA) (m : BM) (x h : D), ds = [.ref A.b, x, h] ∧ M = bookM A0.f_Book M0 A m ∧ BOk A ∧ AVal x ∧ okD 9 h = true ∧ m.kinds.length ≤ 8 ∧ (∀ C t, addKindO m x h = some (C, t) → E (C.cls A0) t M) ∧
  (∀ s h', x = .str s → h = .str h' → addKindO m x h = none → Q .non (bookM A0.f_Book M0 A { m with kinds := m.kinds ++ [(s, h')] }))
theorem str_of_in {h : D} (ok : okD 9 h = true) (hh : holdIn h = true) : ∃ s, h = .str s := by
  unfold holdIn at hh
  obtain ⟨z, hz, e⟩ := List.any_eq_true.mp hh
  obtain ⟨s, _, rfl⟩ := List.mem_map.mp hz
  cases h with
  | str s => exact ⟨s, rfl⟩
  | _ => first | exact nomatch e | exact nomatch ok | (exfalso; revert e; simp [peq, py, PyData.eqv])
theorem ok_Book_add_kind (T : Tx P K mg A0) : FnOk P w K mg base (L2.CX P w) 3 A0.f_Book_add_kind A0.d_Book_add_kind ["self", "name", "hold"] (lift3 (S_add_kind A0)) := by
  refine T.F_Book_add_kind.ok sc_Book_add_kind (lift3_len fun ds M Q E ⟨a, b, c, d, e, h, _⟩ => by rw [h]; rfl) (fun cdv A outer s H vs Q E hr h => ?_)
  have hu := hr.units
  have hu5 := units65 hr
  have hu1 := units1 hr
  refine ⟨_, (pss_cons (ps_expr (pe_call (ok_check_name T) (hr.mono (by decide)) (by rfl) T.g_check_name T.k_check_name T.b_check_name .nil (passes_call (takes_of rfl rfl rfl rfl) (fun _ _ _ _ h => h)) (pa_cons (pv 1) (pa_cons (pe_fldK K rfl (pv 0)) pa_nil))))
  (pss_cons (ps_if (pt_cmpR (op_NINAK K P w rfl rfl rfl hu5) (pv 2) (pe_glob (v := .ref A0.c_HOLDS) (by rfl) T.c_HOLDS rfl) (by rfl)) (pss_one (ps_raiseDye (by rfl) T.dye_BadHold T.g_BadHold hr (takes_of rfl rfl rfl rfl) (pa_cons (pv 2) (pa_cons pe_str pa_nil)))) pss_nil)
  (pss_cons (ps_expr (pe_call (ok_check_room T) (hr.mono (by decide)) (by rfl) T.g_check_room T.k_check_room T.b_check_room .nil (passes_call (takes_of rfl rfl rfl rfl) (fun _ _ _ _ h => h)) (pa_cons (pe_fldK K rfl (pv 0)) (pa_cons (pe_cvalK K rfl (pe_glob (v := .ref A0.f_Book) (by rfl) T.g_Book rfl)) pa_nil))))
  (pss_one (ps_dput hu1 (pe_fldK K rfl (pv 0)) (pv 1) (pv 2) (by rfl)))))), run3 h fun B ds M Q3 E3 hs hE => ?_⟩
  obtain ⟨M0, A, m, x, hd, rfl, rfl, o, v, okh, l8, qe, q⟩ := hs
  change W3s B _ _ [some (.ref A.b), some x, some hd] _
  try dsimp only [cxOf, Cx.nox, Cx.wish]
  repeat walk_at "t3q"
  refine w_call (dds := []) (E3 := E3) (fun _ => rfl) hE ?_
  repeat walk_at "t3q"
  refine ⟨_, _, .ref A.h, .inr ⟨_, rfl, bk_b⟩, T.cl_Book, T.na_hold_by_kind, rfl, ?_⟩
  repeat walk_at "t3q"
  refine cname_of v (fun s _ => ⟨A.h, rfl, .inl ⟨m.kinds, bk_h o, rfl⟩⟩) (fun C t h => qe C t (or_some h)) fun hn => ?_
  have e0 : addKindO m x hd = if holdIn hd = true then roomO m.kinds.length else some (Rf.hold, hd) := or_none hn
  rw [e0] at qe q
  repeat walk_at "t3q"
  refine r3_inTup (ss := HOLDS3) T.t_HOLDS okDs_H okh ?_
  repeat walk_at "t3q"
  refine iteB (fun h => ?_) (fun h => ?_)
  · refine s_raise (impW_of hE) ?_
    repeat walk_at "t3q"
    have h : holdIn hd = false := by
      cases e : holdIn hd with
      | false => rfl
      | true => exact absurd h (by show ¬ (!holdIn hd) = true; rw [e]; decide)
    exact ⟨_, _, rfl, qe .hold _ (by rw [if_neg (by rw [h]; exact Bool.false_ne_true)])⟩
  have hh : holdIn hd = true := by
    cases e : holdIn hd with
    | true => rfl
    | false => exact absurd h (by show ¬ (!holdIn hd) = false; rw [e]; decide)
  rw [if_pos hh] at qe q
  obtain ⟨h', rfl⟩ := str_of_in okh hh
  repeat walk_at "t3q"
  refine w_call (dds := []) (E3 := E3) (fun _ => rfl) hE ?_
  repeat walk_at "t3q"
  refine ⟨_, _, .ref A.h, .inr ⟨_, rfl, bk_b⟩, T.cl_Book, T.na_hold_by_kind, rfl, ?_⟩
  repeat walk_at "t3q"
  obtain ⟨mc, hrd, ⟨u8, h8⟩, _⟩ := T.rd_Book
  refine w_cval hrd h8 ?_
  repeat walk_at "t3q"
  refine ⟨rfl, ?_⟩
  repeat walk_at "t3q"
  refine ⟨.ref A.h, m.kinds.length, 8, rfl, ⟨A.h, rfl, .inl ⟨_, bk_h o, by unfold kvD; rw [List.length_map]⟩⟩, fun hl => ?_, fun hl => qe .full _ (by unfold roomO; rw [if_neg (by omega)])⟩
  have hl8 : m.kinds.length < 8 := by omega
  obtain ⟨s, rfl, hsn⟩ : ∃ s, x = .str s ∧ m.kinds.lookup s = none := by
    rcases v.kind with ⟨s, rfl, _⟩ | n
    · refine ⟨s, rfl, ?_⟩
      by_cases g : goodS s = true
      · have hn : (if goodS s = true then (if (m.kinds.lookup s).isSome = true then some (Rf.known, D.str s) else none) else some (Rf.name, D.str s)) = none := hn
        rw [if_pos g] at hn
        cases e : m.kinds.lookup s with
        | none => rfl
        | some y => rw [e] at hn; cases hn
      · simp [nameO, g] at hn
    · rw [nameO_nt n] at hn; cases hn
  have q := q s h' rfl rfl (by unfold roomO; rw [if_pos hl8])
  repeat walk_at "t3q"
  refine s_dput ?_
  repeat walk_at "t3q"
  refine ⟨_, _, .ref A.h, .inr ⟨_, rfl, bk_b⟩, T.cl_Book, T.na_hold_by_kind, rfl, ?_⟩
  repeat walk_at "t3q"
  refine ⟨_, ⟨A.h, rfl, .inl ⟨_, .inr s, bk_h o, rfl, by unfold kvD; rw [List.length_map]; omega, rfl⟩⟩, ?_⟩
  rw [putKD_kv _ _ _ hsn, pt_h o]
  exact q
theorem AVal.good {s : Str} (h : goodS s = true) (ok : okT s) (l : s.length ≤ 1000000) : AVal (.str s) := ⟨okD_S ok, .inl ⟨s, rfl, l⟩⟩
theorem gk_kind {A0 : Adr} {M0 : Mem} {A : BA} {m : BM} {Q : DQ} {E : EQ3} {x h : Str} (o : BOk A) (g : goodS x = true) (ok : okT x) (hl : m.kinds.lookup x = none) (hh : h ∈ HOLDS3) (l : m.kinds.length < 8) (q : Q .non (bookM A0.f_Book M0 A { m with kinds := m.kinds ++ [(x, h)] })) : S_add_kind A0 [.ref A.b, .str x, .str h] (bookM A0.f_Book M0 A m) Q E := by
  have l12 : x.length ≤ 1000000 := by
    unfold goodS at g
    have := of_decide_eq_true (Bool.and_eq_true_iff.mp (Bool.and_eq_true_iff.mp g).1).2
    omega
  have okh : okT h := by
    have : ∀ x ∈ HOLDS3, okT x := by unfold okT; decide +kernel
    exact this h hh
  have e1 : holdIn (.str h) = true := by
    unfold holdIn
    rw [any_strs]; exact decide_eq_true hh
  have e : addKindO m (.str x) (.str h) = none := by
    have e0 : nameO (fun s => (m.kinds.lookup s).isSome) (.str x) = none := by
      show (if goodS x = true then (if (m.kinds.lookup x).isSome = true then some (Rf.known, D.str x) else none) else some (Rf.name, D.str x)) = none
      rw [if_pos g, hl]; rfl
    unfold addKindO
    rw [e0, e1]
    show roomO m.kinds.length = none
    unfold roomO; rw [if_pos l]
  refine ⟨M0, A, m, .str x, .str h, rfl, rfl, o, ⟨okD_S ok, .inl ⟨x, rfl, l12⟩⟩, okD_S okh, by omega, fun C t he => (by rw [e] at he; cases he), fun s h' e1 e2 _ => ?_⟩
  cases e1; cases e2
  exact q
end
end LW
set_option Elab.async false
set_option linter.all false
set_option maxRecDepth 100000
set_option maxHeartbeats 4000000
namespace LW
open PySem L2 T3
open Evl (Ex)
local macro_rules | `(tactic| walk_at "t3") => `(tactic| first
  | (with_reducible refine s_seq ?_) | (with_reducible refine s_asg ?_) | (with_reducible refine s_if ?_) | (with_reducible refine s_ret ?_) | (with_reducible refine s_drop ?_) | (with_reducible refine s_asgG ?_) | (with_reducible refine s_retN ?_)
  | (with_reducible refine s_next ?_) | (with_reducible refine s_brk ?_) | (with_reducible refine s_cont ?_) | (with_reducible refine s_par ?_) | (with_reducible refine s_fld ?_)
  | ((with_reducible refine' w_var ?hx ?_); (case hx => exact rfl)) | (with_reducible refine w_cI ?_) | (with_reducible refine w_cB ?_) | (with_reducible refine w_cS ?_) | (with_reducible refine w_cN ?_) | (with_reducible refine w_cT ?_) | (with_reducible refine w_cR ?_)
  | (with_reducible refine w_op ?_) | (with_reducible refine w_un ?_) | (with_reducible refine w_nil ?_) | (with_reducible refine w_tup ?_) | (with_reducible refine w_cons ?_) | (with_reducible refine w_cb ?_) | (with_reducible refine w_bm0 ?_) | (with_reducible refine w_bm ?_)
  | (with_reducible refine w_test ?_) | (with_reducible refine w_B ?_) | (with_reducible refine w_notT ?_) | (with_reducible refine w_yes ?_) | (with_reducible refine w_notV ?_)
  | (with_reducible refine w_ifE ?_) | (with_reducible refine w_isN ?_) | (with_reducible refine w_notN ?_) | (with_reducible refine w_tr ?_) | (with_reducible refine w_chain ?_) | (with_reducible refine w_fld ?_) | (with_reducible refine w_sl ?_) | (with_reducible refine o_no ?_) | (with_reducible refine o_some ?_)
  | (with_reducible refine w_call0 ?_) | (with_reducible refine g_name ?_) | ((with_reducible refine' g_tup ?hx ?hy ?_); (case hx => exact rfl); (case hy => exact rfl)) | (with_reducible refine g_cons ?_) | (with_reducible refine g_nil ?_) | (with_reducible refine g_set ?_)
  | (with_reducible refine r3_add_ii ?_) | (with_reducible refine r3_sub ?_) | (with_reducible refine r3_lt ?_) | (with_reducible refine r3_le ?_) | (with_reducible refine r3_gt ?_) | (with_reducible refine r3_ge ?_) | (with_reducible refine u3_neg ?_)
  | (with_reducible refine c3_int_i ?_) | (with_reducible refine c3_int_b ?_) | (with_reducible refine c3_abs ?_) | (with_reducible refine c3_len_t ?_) | (with_reducible refine c3_len .fz ?_) | (with_reducible refine c3_max2 ?_) | (with_reducible refine c3_min2 ?_)
  | (with_reducible refine r3_eq (n := 9) (m := 9) okD_int okD_int ?_) | (with_reducible refine r3_ne (n := 9) (m := 9) okD_int okD_int ?_)
  | ((with_reducible refine' Exists.intro _ (And.intro ?hx ?_)); (case hx => exact rfl))
  | ((with_reducible refine' And.intro ?hx ?_); (case hx => (show List.length _ ≤ 100000); exact Nat.le_of_ble_eq_true rfl))
  | (with_reducible refine c3_lenL (c3_len_t ?_)) | (with_reducible refine c3_lenL (c3_len .fz ?_)))

section
variable {P : Program} {w : World} {K : PySem.W.Frag} {mg : Str → Option Value} {base : Heap} {A0 : Adr}

local macro_rules | `(tactic| walk_at "t3q") => `(tactic| first
  | (with_reducible refine s_seq ?_) | (with_reducible refine s_asg ?_) | (with_reducible refine s_if ?_) | (with_reducible refine s_ret ?_) | (with_reducible refine s_drop ?_) | (with_reducible refine s_asgG ?_) | (with_reducible refine s_retN ?_)
  | (with_reducible refine s_next ?_) | (with_reducible refine s_brk ?_) | (with_reducible refine s_cont ?_) | (with_reducible refine s_par ?_) | (with_reducible refine s_fld ?_)
  | ((with_reducible refine' w_var ?hx ?_); (case hx => exact rfl)) | (with_reducible refine w_cI ?_) | (with_reducible refine w_cB ?_) | (with_reducible refine w_cS ?_) | (with_reducible refine w_cN ?_) | (with_reducible refine w_cT ?_) | (with_reducible refine w_cR ?_)
  | (with_reducible refine w_op ?_) | (with_reducible refine w_un ?_) | (with_reducible refine w_nil ?_) | (with_reducible refine w_tup ?_) | (with_reducible refine w_cons ?_) | (with_reducible refine w_cb ?_) | (with_reducible refine w_bm0 ?_) | (with_reducible refine w_bm ?_)
  | (with_reducible refine w_test ?_) | (with_reducible refine w_B ?_) | (with_reducible refine w_notT ?_) | (with_reducible refine w_yes ?_) | (with_reducible refine w_notV ?_)
  | (with_reducible refine w_ifE ?_) | (with_reducible refine w_isN ?_) | (with_reducible refine w_notN ?_) | (with_reducible refine w_tr ?_) | (with_reducible refine w_chain ?_) | (with_reducible refine w_fld ?_) | (with_reducible refine w_sl ?_) | (with_reducible refine o_no ?_) | (with_reducible refine o_some ?_)
  | (with_reducible refine g_name ?_) | ((with_reducible refine' g_tup ?hx ?hy ?_); (case hx => exact rfl); (case hy => exact rfl)) | (with_reducible refine g_cons ?_) | (with_reducible refine g_nil ?_) | (with_reducible refine g_set ?_)
  | (with_reducible refine r3_add_ii ?_) | (with_reducible refine r3_sub ?_) | (with_reducible refine r3_lt ?_) | (with_reducible refine r3_le ?_) | (with_reducible refine r3_gt ?_) | (with_reducible refine r3_ge ?_) | (with_reducible refine u3_neg ?_)
  | (with_reducible refine c3_int_i ?_) | (with_reducible refine c3_int_b ?_) | (with_reducible refine c3_abs ?_) | (with_reducible refine c3_len_t ?_) | (with_reducible refine c3_len .fz ?_) | (with_reducible refine c3_max2 ?_) | (with_reducible refine c3_min2 ?_)
  | (with_reducible refine r3_eq (n := 9) (m := 9) okD_int okD_int ?_) | (with_reducible refine r3_ne (n := 9) (m := 9) okD_int okD_int ?_)
  | ((with_reducible refine' Exists.intro _ (And.intro ?hx ?_)); (case hx => exact rfl))
  | ((with_reducible refine' And.intro ?hx ?_); (case hx => (show List.length _ ≤ 100000); exact Nat.le_of_ble_eq_true rfl))
  | (with_reducible refine c3_lenL (c3_len_t ?_)) | (with_reducible refine c3_lenL (c3_len .fz ?_)))
def S_add_pot (A0 : Adr) : Sp3 := fun ds M Q E => ∃ (M0 : Mem) (A : BA) (m : BM) (x : D), ds = [.ref A.b, x] ∧ M = bookM A0.f_Book M0 A m ∧ BOk A ∧ AVal x ∧ (∀ s ∈ m.pots, okT s) ∧ m.pots.length ≤ 8 ∧ (∀ C t, addPotO m x = some (C, t) → E (C.cls A0) t M) ∧
  (∀ s, x = .str s → addPotO m x = none → Q .non (bookM A0.f_Book M0 A { m with pots := m.pots ++ [s] }))
theorem ok_Book_add_pot (T : Tx P K mg A0) : FnOk P w K mg base (L2.CX P w) 3 A0.f_Book_add_pot A0.d_Book_add_pot ["self", "name"] (lift3 (S_add_pot A0)) := by
  refine T.F_Book_add_pot.okX sc_Book_add_pot (lift3_len fun ds M Q E ⟨a, b, c, d, h, _⟩ => by rw [h]; rfl) (fun cdv A outer s H vs Q E hr h => ?_)
  have hu := hr.units
  have hu5 := units65 hr
  have hu1 := units1 hr
  refine ⟨_, (pss_cons (ps_expr (pe_call (ok_check_name T) (hr.mono (by decide)) (by rfl) T.g_check_name T.k_check_name T.b_check_name .nil (passes_call (takes_of rfl rfl rfl rfl) (fun _ _ _ _ h => h)) (pa_cons (pv 1) (pa_cons (pe_fldK K rfl (pv 0)) pa_nil))))
  (pss_cons (ps_expr (pe_call (ok_check_room T) (hr.mono (by decide)) (by rfl) T.g_check_room T.k_check_room T.b_check_room .nil (passes_call (takes_of rfl rfl rfl rfl) (fun _ _ _ _ h => h)) (pa_cons (pe_fldK K rfl (pv 0)) (pa_cons (pe_cvalK K rfl (pe_glob (v := .ref A0.f_Book) (by rfl) T.g_Book rfl)) pa_nil))))
  (pss_one (ps_expr (pe_bm PySem.F.plainAttrs_list PySem.F.slot_list_append PySem.F.type_list_append mt_append (pe_fldK K rfl (pv 0)) (pa_cons (pv 1) pa_nil)))))), run3 h fun B ds M Q3 E3 hs hE => ?_⟩
  obtain ⟨M0, A, m, x, rfl, rfl, o, v, okp, l8, qe, q⟩ := hs
  change W3s B _ _ [some (.ref A.b), some x] _
  try dsimp only [cxOf, Cx.nox, Cx.wish]
  repeat walk_at "t3q"
  refine w_call (dds := []) (E3 := E3) (fun _ => rfl) hE ?_
  repeat walk_at "t3q"
  refine ⟨_, _, .ref A.p, .inr ⟨_, rfl, bk_b⟩, T.cl_Book, T.na_pot_names, rfl, ?_⟩
  repeat walk_at "t3q"
  refine cname_of v (fun s hs => ⟨A.p, rfl, .inr ⟨m.pots, bk_p o, okp, (by have := v.ok; rw [hs] at this; exact this), rfl⟩⟩) (fun C t h => qe C t (or_some h)) fun hn => ?_
  have e0 : addPotO m x = roomO m.pots.length := or_none hn
  rw [e0] at qe q
  repeat walk_at "t3q"
  refine w_call (dds := []) (E3 := E3) (fun _ => rfl) hE ?_
  repeat walk_at "t3q"
  refine ⟨_, _, .ref A.p, .inr ⟨_, rfl, bk_b⟩, T.cl_Book, T.na_pot_names, rfl, ?_⟩
  repeat walk_at "t3q"
  obtain ⟨mc, hrd, ⟨u8, h8⟩, _⟩ := T.rd_Book
  refine w_cval hrd h8 ?_
  repeat walk_at "t3q"
  refine ⟨rfl, ?_⟩
  repeat walk_at "t3q"
  refine ⟨.ref A.p, m.pots.length, 8, rfl, ⟨A.p, rfl, .inr ⟨_, bk_p o, by rw [List.length_map]⟩⟩, fun hl => ?_, fun hl => qe .full _ (by unfold roomO; rw [if_neg (by omega)])⟩
  have hl8 : m.pots.length < 8 := by omega
  obtain ⟨s, rfl, _, _⟩ := txt_of v hn
  have q := q s rfl (by unfold roomO; rw [if_pos hl8])
  repeat walk_at "t3q"
  refine ⟨_, _, .ref A.p, .inr ⟨_, rfl, bk_b⟩, T.cl_Book, T.na_pot_names, rfl, ?_⟩
  refine ⟨.lo (bk_p o), ?_⟩
  repeat walk_at "t3q"
  refine m3_append (bk_p o) (by rw [List.length_map]; omega) ?_
  rw [show m.pots.map D.str ++ [D.str s] = (m.pots ++ [s]).map D.str by rw [List.map_append]; rfl, pt_p o]
  exact q
theorem gk_pot {A0 : Adr} {M0 : Mem} {A : BA} {m : BM} {Q : DQ} {E : EQ3} {x : Str} (o : BOk A) (g : goodS x = true) (ok : okT x) (okp : ∀ s ∈ m.pots, okT s) (hl : x ∉ m.pots) (l : m.pots.length < 8) (q : Q .non (bookM A0.f_Book M0 A { m with pots := m.pots ++ [x] })) : S_add_pot A0 [.ref A.b, .str x] (bookM A0.f_Book M0 A m) Q E := by
  have l12 : x.length ≤ 1000000 := by
    unfold goodS at g
    have := of_decide_eq_true (Bool.and_eq_true_iff.mp (Bool.and_eq_true_iff.mp g).1).2
    omega
  have e : addPotO m (.str x) = none := by
    have e0 : nameO (fun s => decide (s ∈ m.pots)) (.str x) = none := by
      show (if goodS x = true then (if decide (x ∈ m.pots) = true then some (Rf.known, D.str x) else none) else some (Rf.name, D.str x)) = none
      rw [if_pos g, decide_eq_false hl]; rfl
    unfold addPotO
    rw [e0]
    show roomO m.pots.length = none
    unfold roomO; rw [if_pos l]
  refine ⟨M0, A, m, .str x, rfl, rfl, o, ⟨okD_S ok, .inl ⟨x, rfl, l12⟩⟩, okp, by omega, fun C t he => (by rw [e] at he; cases he), fun s e1 _ => ?_⟩
  cases e1
  exact q
end
end LW
set_option Elab.async false
set_option linter.all false
set_option maxRecDepth 100000
set_option maxHeartbeats 4000000
namespace LW
open PySem L2 T3
open Evl (Ex)
local macro_rules | `(tactic| walk_at "t3") => `(tactic| first
  | (with_reducible refine s_seq ?_) | (with_reducible refine s_asg ?_) | (with_reducible refine s_if ?_) | (with_reducible refine s_ret ?_) | (with_reducible refine s_drop ?_) | (with_reducible refine s_asgG ?_) | (with_reducible refine s_retN ?_)
  | (with_reducible refine s_next ?_) | (with_reducible refine s_brk ?_) | (with_reducible refine s_cont ?_) | (with_reducible refine s_par ?_) | (with_reducible refine s_fld ?_)
  | ((with_reducible refine' w_var ?hx ?_); (case hx => exact rfl)) | (with_reducible refine w_cI ?_) | (with_reducible refine w_cB ?_) | (with_reducible refine w_cS ?_) | (with_reducible refine w_cN ?_) | (with_reducible refine w_cT ?_) | (with_reducible refine w_cR ?_)
  | (with_reducible refine w_op ?_) | (with_reducible refine w_un ?_) | (with_reducible refine w_nil ?_) | (with_reducible refine w_tup ?_) | (with_reducible refine w_cons ?_) | (with_reducible refine w_cb ?_) | (with_reducible refine w_bm0 ?_) | (with_reducible refine w_bm ?_)
  | (with_reducible refine w_test ?_) | (with_reducible refine w_B ?_) | (with_reducible refine w_notT ?_) | (with_reducible refine w_yes ?_) | (with_reducible refine w_notV ?_)
  | (with_reducible refine w_ifE ?_) | (with_reducible refine w_isN ?_) | (with_reducible refine w_notN ?_) | (with_reducible refine w_tr ?_) | (with_reducible refine w_chain ?_) | (with_reducible refine w_fld ?_) | (with_reducible refine w_sl ?_) | (with_reducible refine o_no ?_) | (with_reducible refine o_some ?_)
  | (with_reducible refine w_call0 ?_) | (with_reducible refine g_name ?_) | ((with_reducible refine' g_tup ?hx ?hy ?_); (case hx => exact rfl); (case hy => exact rfl)) | (with_reducible refine g_cons ?_) | (with_reducible refine g_nil ?_) | (with_reducible refine g_set ?_)
  | (with_reducible refine r3_add_ii ?_) | (with_reducible refine r3_sub ?_) | (with_reducible refine r3_lt ?_) | (with_reducible refine r3_le ?_) | (with_reducible refine r3_gt ?_) | (with_reducible refine r3_ge ?_) | (with_reducible refine u3_neg ?_)
  | (with_reducible refine c3_int_i ?_) | (with_reducible refine c3_int_b ?_) | (with_reducible refine c3_abs ?_) | (with_reducible refine c3_len_t ?_) | (with_reducible refine c3_len .fz ?_) | (with_reducible refine c3_max2 ?_) | (with_reducible refine c3_min2 ?_)
  | (with_reducible refine r3_eq (n := 9) (m := 9) okD_int okD_int ?_) | (with_reducible refine r3_ne (n := 9) (m := 9) okD_int okD_int ?_)
  | ((with_reducible refine' Exists.intro _ (And.intro ?hx ?_)); (case hx => exact rfl))
  | ((with_reducible refine' And.intro ?hx ?_); (case hx => (show List.length _ ≤ 100000); exact Nat.le_of_ble_eq_true rfl))
  | (with_reducible refine c3_lenL (c3_len_t ?_)) | (with_reducible refine c3_lenL (c3_len .fz ?_)))

section
variable {P : Program} {w : World} {K : PySem.W.Frag} {mg : Str → Option Value} {base : Heap} {A0 : Adr}

local macro_rules | `(tactic| walk_at "t3q") => `(tactic| first
  | (with_reducible refine s_seq ?_) | (with_reducible refine s_asg ?_) | (with_reducible refine s_if ?_) | (with_reducible refine s_ret ?_) | (with_reducible refine s_drop ?_) | (with_reducible refine s_asgG ?_) | (with_reducible refine s_retN ?_)
  | (with_reducible refine s_next ?_) | (with_reducible refine s_brk ?_) | (with_reducible refine s_cont ?_) | (with_reducible refine s_par ?_) | (with_reducible refine s_fld ?_)
  | ((with_reducible refine' w_var ?hx ?_); (case hx => exact rfl)) | (with_reducible refine w_cI ?_) | (with_reducible refine w_cB ?_) | (with_reducible refine w_cS ?_) | (with_reducible refine w_cN ?_) | (with_reducible refine w_cT ?_) | (with_reducible refine w_cR ?_)
  | (with_reducible refine w_op ?_) | (with_reducible refine w_un ?_) | (with_reducible refine w_nil ?_) | (with_reducible refine w_tup ?_) | (with_reducible refine w_cons ?_) | (with_reducible refine w_cb ?_) | (with_reducible refine w_bm0 ?_) | (with_reducible refine w_bm ?_)
  | (with_reducible refine w_test ?_) | (with_reducible refine w_B ?_) | (with_reducible refine w_notT ?_) | (with_reducible refine w_yes ?_) | (with_reducible refine w_notV ?_)
  | (with_reducible refine w_ifE ?_) | (with_reducible refine w_isN ?_) | (with_reducible refine w_notN ?_) | (with_reducible refine w_tr ?_) | (with_reducible refine w_chain ?_) | (with_reducible refine w_fld ?_) | (with_reducible refine w_sl ?_) | (with_reducible refine o_no ?_) | (with_reducible refine o_some ?_)
  | (with_reducible refine g_name ?_) | ((with_reducible refine' g_tup ?hx ?hy ?_); (case hx => exact rfl); (case hy => exact rfl)) | (with_reducible refine g_cons ?_) | (with_reducible refine g_nil ?_) | (with_reducible refine g_set ?_)
  | (with_reducible refine r3_add_ii ?_) | (with_reducible refine r3_sub ?_) | (with_reducible refine r3_lt ?_) | (with_reducible refine r3_le ?_) | (with_reducible refine r3_gt ?_) | (with_reducible refine r3_ge ?_) | (with_reducible refine u3_neg ?_)
  | (with_reducible refine c3_int_i ?_) | (with_reducible refine c3_int_b ?_) | (with_reducible refine c3_abs ?_) | (with_reducible refine c3_len_t ?_) | (with_reducible refine c3_len .fz ?_) | (with_reducible refine c3_max2 ?_) | (with_reducible refine c3_min2 ?_)
  | (with_reducible refine r3_eq (n := 9) (m := 9) okD_int okD_int ?_) | (with_reducible refine r3_ne (n := 9) (m := 9) okD_int okD_int ?_)
  | ((with_reducible refine' Exists.intro _ (And.intro ?hx ?_)); (case hx => exact rfl))
  | ((with_reducible refine' And.intro ?hx ?_); (case hx => (show List.length _ ≤ 100000); exact Nat.le_of_ble_eq_true rfl))
  | (with_reducible refine c3_lenL (c3_len_t ?_)) | (with_reducible refine c3_lenL (c3_len .fz ?_)))
def S_add_cloth (A0 : Adr) : Sp3 := fun ds M Q E => ∃ (M0 : Mem) (A : BA) (m : BM) (x y : D), ds = [.ref A.b, x, y] ∧ M = bookM A0.f_Book M0 A m ∧ BOk A ∧ AVal x ∧ AVal y ∧ m.cloths.length ≤ 8 ∧ (∀ C t, addClothO m x y = some (C, t) → E (C.cls A0) t M) ∧
  (∀ s k, x = .str s → y = .str k → addClothO m x y = none → Q .non (bookM A0.f_Book M0 A { m with cloths := m.cloths ++ [(s, k)] }))
theorem ok_Book_add_cloth (T : Tx P K mg A0) : FnOk P w K mg base (L2.CX P w) 3 A0.f_Book_add_cloth A0.d_Book_add_cloth ["self", "name", "kind"] (lift3 (S_add_cloth A0)) := by
  refine T.F_Book_add_cloth.okX sc_Book_add_cloth (lift3_len fun ds M Q E ⟨a, b, c, d, e, h, _⟩ => by rw [h]; rfl) (fun cdv A outer s H vs Q E hr h => ?_)
  have hu := hr.units
  have hu5 := units65 hr
  have hu1 := units1 hr
  refine ⟨_, (pss_cons (ps_expr (pe_call (ok_check_name T) (hr.mono (by decide)) (by rfl) T.g_check_name T.k_check_name T.b_check_name .nil (passes_call (takes_of rfl rfl rfl rfl) (fun _ _ _ _ h => h)) (pa_cons (pv 1) (pa_cons (pe_fldK K rfl (pv 0)) pa_nil))))
  (pss_cons (ps_expr (pe_call (ok_check_known T) (hr.mono (by decide)) (by rfl) T.g_check_known T.k_check_known T.b_check_known .nil (passes_call (takes_of rfl rfl rfl rfl) (fun _ _ _ _ h => h)) (pa_cons (pv 2) (pa_cons (pe_fldK K rfl (pv 0)) pa_nil))))
  (pss_cons (ps_expr (pe_call (ok_check_room T) (hr.mono (by decide)) (by rfl) T.g_check_room T.k_check_room T.b_check_room .nil (passes_call (takes_of rfl rfl rfl rfl) (fun _ _ _ _ h => h)) (pa_cons (pe_fldK K rfl (pv 0)) (pa_cons (pe_cvalK K rfl (pe_glob (v := .ref A0.f_Book) (by rfl) T.g_Book rfl)) pa_nil))))
  (pss_one (ps_dput hu1 (pe_fldK K rfl (pv 0)) (pv 1) (pv 2) (by rfl)))))), run3 h fun B ds M Q3 E3 hs hE => ?_⟩
  obtain ⟨M0, A, m, x, y, rfl, rfl, o, v, vy, l8, qe, q⟩ := hs
  change W3s B _ _ [some (.ref A.b), some x, some y] _
  try dsimp only [cxOf, Cx.nox, Cx.wish]
  repeat walk_at "t3q"
  refine w_call (dds := []) (E3 := E3) (fun _ => rfl) hE ?_
  repeat walk_at "t3q"
  refine ⟨_, _, .ref A.c, .inr ⟨_, rfl, bk_b⟩, T.cl_Book, T.na_kind_by_cloth, rfl, ?_⟩
  repeat walk_at "t3q"
  refine cname_of v (fun s _ => ⟨A.c, rfl, .inl ⟨m.cloths, bk_c o, rfl⟩⟩) (fun C t h => qe C t (or_some h)) fun hn => ?_
  have e0 : addClothO m x y = if hasK m.kinds y = true then roomO m.cloths.length else some (Rf.unknown, y) := or_none hn
  rw [e0] at qe q
  repeat walk_at "t3q"
  refine w_call (dds := []) (E3 := E3) (fun _ => rfl) hE ?_
  repeat walk_at "t3q"
  refine ⟨_, _, .ref A.h, .inr ⟨_, rfl, bk_b⟩, T.cl_Book, T.na_hold_by_kind, rfl, ?_⟩
  repeat walk_at "t3q"
  refine ⟨y, .ref A.h, _, rfl, vy, ⟨A.h, rfl, .inl ⟨m.kinds, bk_h o, rfl⟩⟩, fun hh => ?_, fun hh => qe .unknown _ (by rw [if_neg (by rw [hh]; exact Bool.false_ne_true)])⟩
  rw [if_pos hh] at qe q
  obtain ⟨k, rfl⟩ := txt_key hh
  repeat walk_at "t3q"
  refine w_call (dds := []) (E3 := E3) (fun _ => rfl) hE ?_
  repeat walk_at "t3q"
  refine ⟨_, _, .ref A.c, .inr ⟨_, rfl, bk_b⟩, T.cl_Book, T.na_kind_by_cloth, rfl, ?_⟩
  repeat walk_at "t3q"
  obtain ⟨mc, hrd, ⟨u8, h8⟩, _⟩ := T.rd_Book
  refine w_cval hrd h8 ?_
  repeat walk_at "t3q"
  refine ⟨rfl, ?_⟩
  repeat walk_at "t3q"
  refine ⟨.ref A.c, m.cloths.length, 8, rfl, ⟨A.c, rfl, .inl ⟨_, bk_c o, by unfold kvD; rw [List.length_map]⟩⟩, fun hl => ?_, fun hl => qe .full _ (by unfold roomO; rw [if_neg (by omega)])⟩
  have hl8 : m.cloths.length < 8 := by omega
  obtain ⟨s, rfl, _, hsn⟩ := txt_of v hn
  have hsn : m.cloths.lookup s = none := by
    cases e : m.cloths.lookup s with
    | none => rfl
    | some z => rw [e] at hsn; cases hsn
  have q := q s k rfl rfl (by unfold roomO; rw [if_pos hl8])
  repeat walk_at "t3q"
  refine s_dput ?_
  repeat walk_at "t3q"
  refine ⟨_, _, .ref A.c, .inr ⟨_, rfl, bk_b⟩, T.cl_Book, T.na_kind_by_cloth, rfl, ?_⟩
  repeat walk_at "t3q"
  refine ⟨_, ⟨A.c, rfl, .inl ⟨_, .inr s, bk_c o, rfl, by unfold kvD; rw [List.length_map]; omega, rfl⟩⟩, ?_⟩
  rw [putKD_kv _ _ _ hsn, pt_c o]
  exact q
theorem gk_cloth {A0 : Adr} {M0 : Mem} {A : BA} {m : BM} {Q : DQ} {E : EQ3} {x k : Str} (o : BOk A) (g : goodS x = true) (ok : okT x) (hl : m.cloths.lookup x = none) (okk : okT k) (lk : k.length ≤ 1000000) (hk : (m.kinds.lookup k).isSome = true) (l : m.cloths.length < 8) (q : Q .non (bookM A0.f_Book M0 A { m with cloths := m.cloths ++ [(x, k)] })) : S_add_cloth A0 [.ref A.b, .str x, .str k] (bookM A0.f_Book M0 A m) Q E := by
  have l12 : x.length ≤ 1000000 := by
    unfold goodS at g
    have := of_decide_eq_true (Bool.and_eq_true_iff.mp (Bool.and_eq_true_iff.mp g).1).2
    omega
  have e : addClothO m (.str x) (.str k) = none := by
    have e0 : nameO (fun s => (m.cloths.lookup s).isSome) (.str x) = none := by
      show (if goodS x = true then (if (m.cloths.lookup x).isSome = true then some (Rf.known, D.str x) else none) else some (Rf.name, D.str x)) = none
      rw [if_pos g, hl]; rfl
    unfold addClothO
    rw [e0]
    show (if (m.kinds.lookup k).isSome = true then roomO m.cloths.length else some (Rf.unknown, .str k)) = none
    unfold roomO; rw [if_pos hk, if_pos l]
  refine ⟨M0, A, m, .str x, .str k, rfl, rfl, o, ⟨okD_S ok, .inl ⟨x, rfl, l12⟩⟩, ⟨okD_S okk, .inl ⟨k, rfl, lk⟩⟩, by omega, fun C t he => (by rw [e] at he; cases he), fun s k' e1 e2 _ => ?_⟩
  cases e1; cases e2
  exact q
end
end LW
set_option Elab.async false
set_option linter.all false
set_option maxRecDepth 100000
set_option maxHeartbeats 4000000
namespace LW
open PySem L2 T3
open Evl (Ex)
local macro_rules | `(tactic| walk_at "t3") => `(tactic| first
  | (with_reducible refine s_seq ?_) | (with_reducible refine s_asg ?_) | (with_reducible refine s_if ?_) | (with_reducible refine s_ret ?_) | (with_reducible refine s_drop ?_) | (with_reducible refine s_asgG ?_) | (with_reducible refine s_retN ?_)
  | (with_reducible refine s_next ?_) | (with_reducible refine s_brk ?_) | (with_reducible refine s_cont ?_) | (with_reducible refine s_par ?_) | (with_reducible refine s_fld ?_)
  | ((with_reducible refine' w_var ?hx ?_); (case hx => exact rfl)) | (with_reducible refine w_cI ?_) | (with_reducible refine w_cB ?_) | (with_reducible refine w_cS ?_) | (with_reducible refine w_cN ?_) | (with_reducible refine w_cT ?_) | (with_reducible refine w_cR ?_)
  | (with_reducible refine w_op ?_) | (with_reducible refine w_un ?_) | (with_reducible refine w_nil ?_) | (with_reducible refine w_tup ?_) | (with_reducible refine w_cons ?_) | (with_reducible refine w_cb ?_) | (with_reducible refine w_bm0 ?_) | (with_reducible refine w_bm ?_)
  | (with_reducible refine w_test ?_) | (with_reducible refine w_B ?_) | (with_reducible refine w_notT ?_) | (with_reducible refine w_yes ?_) | (with_reducible refine w_notV ?_)
  | (with_reducible refine w_ifE ?_) | (with_reducible refine w_isN ?_) | (with_reducible refine w_notN ?_) | (with_reducible refine w_tr ?_) | (with_reducible refine w_chain ?_) | (with_reducible refine w_fld ?_) | (with_reducible refine w_sl ?_) | (with_reducible refine o_no ?_) | (with_reducible refine o_some ?_)
  | (with_reducible refine w_call0 ?_) | (with_reducible refine g_name ?_) | ((with_reducible refine' g_tup ?hx ?hy ?_); (case hx => exact rfl); (case hy => exact rfl)) | (with_reducible refine g_cons ?_) | (with_reducible refine g_nil ?_) | (with_reducible refine g_set ?_)
  | (with_reducible refine r3_add_ii ?_) | (with_reducible refine r3_sub ?_) | (with_reducible refine r3_lt ?_) | (with_reducible refine r3_le ?_) | (with_reducible refine r3_gt ?_) | (with_reducible refine r3_ge ?_) | (with_reducible refine u3_neg ?_)
  | (with_reducible refine c3_int_i ?_) | (with_reducible refine c3_int_b ?_) | (with_reducible refine c3_abs ?_) | (with_reducible refine c3_len_t ?_) | (with_reducible refine c3_len .fz ?_) | (with_reducible refine c3_max2 ?_) | (with_reducible refine c3_min2 ?_)
  | (with_reducible refine r3_eq (n := 9) (m := 9) okD_int okD_int ?_) | (with_reducible refine r3_ne (n := 9) (m := 9) okD_int okD_int ?_)
  | ((with_reducible refine' Exists.intro _ (And.intro ?hx ?_)); (case hx => exact rfl))
  | ((with_reducible refine' And.intro ?hx ?_); (case hx => (show List.length _ ≤ 100000); exact Nat.le_of_ble_eq_true rfl))
  | (with_reducible refine c3_lenL (c3_len_t ?_)) | (with_reducible refine c3_lenL (c3_len .fz ?_)))

section
variable {P : Program} {w : World} {K : PySem.W.Frag} {mg : Str → Option Value} {base : Heap} {A0 : Adr}

local macro_rules | `(tactic| walk_at "t3q") => `(tactic| first
  | (with_reducible refine s_seq ?_) | (with_reducible refine s_asg ?_) | (with_reducible refine s_if ?_) | (with_reducible refine s_ret ?_) | (with_reducible refine s_drop ?_) | (with_reducible refine s_asgG ?_) | (with_reducible refine s_retN ?_)
  | (with_reducible refine s_next ?_) | (with_reducible refine s_brk ?_) | (with_reducible refine s_cont ?_) | (with_reducible refine s_par ?_) | (with_reducible refine s_fld ?_)
  | ((with_reducible refine' w_var ?hx ?_); (case hx => exact rfl)) | (with_reducible refine w_cI ?_) | (with_reducible refine w_cB ?_) | (with_reducible refine w_cS ?_) | (with_reducible refine w_cN ?_) | (with_reducible refine w_cT ?_) | (with_reducible refine w_cR ?_)
  | (with_reducible refine w_op ?_) | (with_reducible refine w_un ?_) | (with_reducible refine w_nil ?_) | (with_reducible refine w_tup ?_) | (with_reducible refine w_cons ?_) | (with_reducible refine w_cb ?_) | (with_reducible refine w_bm0 ?_) | (with_reducible refine w_bm ?_)
  | (with_reducible refine w_test ?_) | (with_reducible refine w_B ?_) | (with_reducible refine w_notT ?_) | (with_reducible refine w_yes ?_) | (with_reducible refine w_notV ?_)
  | (with_reducible refine w_ifE ?_) | (with_reducible refine w_isN ?_) | (with_reducible refine w_notN ?_) | (with_reducible refine w_tr ?_) | (with_reducible refine w_chain ?_) | (with_reducible refine w_fld ?_) | (with_reducible refine w_sl ?_) | (with_reducible refine o_no ?_) | (with_reducible refine o_some ?_)
  | (with_reducible refine g_name ?_) | ((with_reducible refine' g_tup ?hx ?hy ?_); (case hx => exact rfl); (case hy => exact rfl)) | (with_reducible refine g_cons ?_) | (with_reducible refine g_nil ?_) | (with_reducible refine g_set ?_)
  | (with_reducible refine r3_add_ii ?_) | (with_reducible refine r3_sub ?_) | (with_reducible refine r3_lt ?_) | (with_reducible refine r3_le ?_) | (with_reducible refine r3_gt ?_) | (with_reducible refine r3_ge ?_) | (with_reducible refine u3_neg ?_)
  | (with_reducible refine c3_int_i ?_) | (with_reducible refine c3_int_b ?_) | (with_reducible refine c3_abs ?_) | (with_reducible refine c3_len_t ?_) | (with_reducible refine c3_len .fz ?_) | (with_reducible refine c3_max2 ?_) | (with_reducible refine c3_min2 ?_)
  | (with_reducible refine r3_eq (n := 9) (m := 9) okD_int okD_int ?_) | (with_reducible refine r3_ne (n := 9) (m := 9) okD_int okD_int ?_)
  | ((with_reducible refine' Exists.intro _ (And.intro ?hx ?_)); (case hx => exact rfl))
  | ((with_reducible refine' And.intro ?hx ?_); (case hx => (show List.length _ ≤ 100000); exact Nat.le_of_ble_eq_true rfl))
  | (with_reducible refine c3_lenL (c3_len_t ?_)) | (with_reducible refine c3_lenL (c3_len .fz ?_)))
def thirO (m : BM) (x y : D) : Option (Rf × D) := if hasK m.kinds x = true then (if hasK m.kinds y = true then none else some (Rf.unknown, y)) else some (Rf.unknown, x)
def addThO (m : BM) (x y : D) : Option (Rf × D) := (thirO m x y).or (if m.thirst.length < 32 then none else some (Rf.full, .int 32))
def S_add_thirst (A0 : Adr) : Sp3 := fun ds M Q E => ∃ (M0 : Mem) (A : BA) (m : BM) (x y : D), ds = [.ref A.b, x, y] ∧ M = bookM A0.f_Book M0 A m ∧ BOk A ∧ AVal x ∧ AVal y ∧ m.thirst.length ≤ 32 ∧ (∀ C t, addThO m x y = some (C, t) → E (C.cls A0) t M) ∧
  (∀ s k, x = .str s → y = .str k → addThO m x y = none → Q .non (bookM A0.f_Book M0 A { m with thirst := m.thirst ++ [(s, k)] }))
theorem ok_Book_add_thirst (T : Tx P K mg A0) : FnOk P w K mg base (L2.CX P w) 3 A0.f_Book_add_thirst A0.d_Book_add_thirst ["self", "more", "less"] (lift3 (S_add_thirst A0)) := by
  refine T.F_Book_add_thirst.okX sc_Book_add_thirst (lift3_len fun ds M Q E ⟨a, b, c, d, e, h, _⟩ => by rw [h]; rfl) (fun cdv A outer s H vs Q E hr h => ?_)
  have hu := hr.units
  have hu5 := units65 hr
  have hu1 := units1 hr
  refine ⟨_, (pss_cons (ps_expr (pe_call (ok_check_known T) (hr.mono (by decide)) (by rfl) T.g_check_known T.k_check_known T.b_check_known .nil (passes_call (takes_of rfl rfl rfl rfl) (fun _ _ _ _ h => h)) (pa_cons (pv 1) (pa_cons (pe_fldK K rfl (pv 0)) pa_nil))))
  (pss_cons (ps_expr (pe_call (ok_check_known T) (hr.mono (by decide)) (by rfl) T.g_check_known T.k_check_known T.b_check_known .nil (passes_call (takes_of rfl rfl rfl rfl) (fun _ _ _ _ h => h)) (pa_cons (pv 2) (pa_cons (pe_fldK K rfl (pv 0)) pa_nil))))
  (pss_cons (ps_expr (pe_call (ok_check_room T) (hr.mono (by decide)) (by rfl) T.g_check_room T.k_check_room T.b_check_room .nil (passes_call (takes_of rfl rfl rfl rfl) (fun _ _ _ _ h => h)) (pa_cons (pe_fldK K rfl (pv 0)) (pa_cons (pe_cvalK K rfl (pe_glob (v := .ref A0.f_Book) (by rfl) T.g_Book rfl)) pa_nil))))
  (pss_one (ps_expr (pe_bm PySem.F.plainAttrs_list PySem.F.slot_list_append PySem.F.type_list_append mt_append (pe_fldK K rfl (pv 0)) (pa_cons (pe_tup (pa_cons (pv 1) (pa_cons (pv 2) pa_nil))) pa_nil))))))), run3 h fun B ds M Q3 E3 hs hE => ?_⟩
  obtain ⟨M0, A, m, x, y, rfl, rfl, o, v, vy, l8, qe, q⟩ := hs
  change W3s B _ _ [some (.ref A.b), some x, some y] _
  try dsimp only [cxOf, Cx.nox, Cx.wish]
  repeat walk_at "t3q"
  refine w_call (dds := []) (E3 := E3) (fun _ => rfl) hE ?_
  repeat walk_at "t3q"
  refine ⟨_, _, .ref A.h, .inr ⟨_, rfl, bk_b⟩, T.cl_Book, T.na_hold_by_kind, rfl, ?_⟩
  repeat walk_at "t3q"
  refine ⟨x, .ref A.h, _, rfl, v, ⟨A.h, rfl, .inl ⟨m.kinds, bk_h o, rfl⟩⟩, fun hx => ?_, fun hx => qe .unknown _ (by unfold addThO thirO; rw [if_neg (by rw [hx]; exact Bool.false_ne_true)]; rfl)⟩
  repeat walk_at "t3q"
  refine w_call (dds := []) (E3 := E3) (fun _ => rfl) hE ?_
  repeat walk_at "t3q"
  refine ⟨_, _, .ref A.h, .inr ⟨_, rfl, bk_b⟩, T.cl_Book, T.na_hold_by_kind, rfl, ?_⟩
  repeat walk_at "t3q"
  refine ⟨y, .ref A.h, _, rfl, vy, ⟨A.h, rfl, .inl ⟨m.kinds, bk_h o, rfl⟩⟩, fun hy => ?_, fun hy => qe .unknown _ (by unfold addThO thirO; rw [if_pos hx, if_neg (by rw [hy]; exact Bool.false_ne_true)]; rfl)⟩
  have e0 : addThO m x y = if m.thirst.length < 32 then none else some (Rf.full, .int 32) := by unfold addThO thirO; rw [if_pos hx, if_pos hy]; rfl
  rw [e0] at qe q
  obtain ⟨s, rfl⟩ := txt_key hx
  obtain ⟨k, rfl⟩ := txt_key hy
  repeat walk_at "t3q"
  refine w_call (dds := []) (E3 := E3) (fun _ => rfl) hE ?_
  repeat walk_at "t3q"
  refine ⟨_, _, .ref A.t, .inr ⟨_, rfl, bk_b⟩, T.cl_Book, T.na_thirst_rows, rfl, ?_⟩
  repeat walk_at "t3q"
  obtain ⟨mc, hrd, ⟨u8, h8⟩, ⟨u9, h9⟩, _⟩ := T.rd_Book
  refine w_cval hrd h9 ?_
  repeat walk_at "t3q"
  refine ⟨rfl, ?_⟩
  repeat walk_at "t3q"
  refine ⟨.ref A.t, m.thirst.length, 32, rfl, ⟨A.t, rfl, .inr ⟨_, bk_t o, by rw [List.length_map]⟩⟩, fun hl => ?_, fun hl => qe .full _ (by rw [if_neg (by omega)])⟩
  have hl8 : m.thirst.length < 32 := by omega
  have q := q s k rfl rfl (by rw [if_pos hl8])
  repeat walk_at "t3q"
  refine ⟨_, _, .ref A.t, .inr ⟨_, rfl, bk_b⟩, T.cl_Book, T.na_thirst_rows, rfl, ?_⟩
  refine ⟨.lo (bk_t o), ?_⟩
  repeat walk_at "t3q"
  refine m3_append (bk_t o) (by rw [List.length_map]; omega) ?_
  rw [show m.thirst.map wD ++ [D.tup [D.str s, D.str k]] = (m.thirst ++ [(s, k)]).map wD by rw [List.map_append]; rfl, pt_t o]
  exact q
theorem gk_thirst {A0 : Adr} {M0 : Mem} {A : BA} {m : BM} {Q : DQ} {E : EQ3} {x y : Str} (o : BOk A) (vx : AVal (.str x)) (vy : AVal (.str y)) (hx : (m.kinds.lookup x).isSome = true) (hy : (m.kinds.lookup y).isSome = true) (l : m.thirst.length < 32) (q : Q .non (bookM A0.f_Book M0 A { m with thirst := m.thirst ++ [(x, y)] })) : S_add_thirst A0 [.ref A.b, .str x, .str y] (bookM A0.f_Book M0 A m) Q E := by
  have e : addThO m (.str x) (.str y) = none := by
    unfold addThO thirO
    rw [if_pos (show hasK m.kinds (.str x) = true from hx), if_pos (show hasK m.kinds (.str y) = true from hy), if_pos l]; rfl
  refine ⟨M0, A, m, .str x, .str y, rfl, rfl, o, vx, vy, by omega, fun C t he => (by rw [e] at he; cases he), fun s k' e1 e2 _ => ?_⟩
  cases e1; cases e2
  exact q
end
end LW
set_option Elab.async false
set_option linter.all false
set_option maxRecDepth 100000
set_option maxHeartbeats 4000000
namespace LW
open PySem L2 T3
open Evl (Ex)
local macro_rules | `(tactic| walk_at "t3") => `(tactic| first
  | (with_reducible refine s_seq ?_) | (with_reducible refine s_asg ?_) | (with_reducible refine s_if ?_) | (with_reducible refine s_ret ?_) | (with_reducible refine s_drop ?_) | (with_reducible refine s_asgG ?_) | (with_reducible refine s_retN ?_)
  | (with_reducible refine s_next ?_) | (with_reducible refine s_brk ?_) | (with_reducible refine s_cont ?_) | (with_reducible refine s_par ?_) | (with_reducible refine s_fld ?_)
  | ((with_reducible refine' w_var ?hx ?_); (case hx => exact rfl)) | (with_reducible refine w_cI ?_) | (with_reducible refine w_cB ?_) | (with_reducible refine w_cS ?_) | (with_reducible refine w_cN ?_) | (with_reducible refine w_cT ?_) | (with_reducible refine w_cR ?_)
  | (with_reducible refine w_op ?_) | (with_reducible refine w_un ?_) | (with_reducible refine w_nil ?_) | (with_reducible refine w_tup ?_) | (with_reducible refine w_cons ?_) | (with_reducible refine w_cb ?_) | (with_reducible refine w_bm0 ?_) | (with_reducible refine w_bm ?_)
  | (with_reducible refine w_test ?_) | (with_reducible refine w_B ?_) | (with_reducible refine w_notT ?_) | (with_reducible refine w_yes ?_) | (with_reducible refine w_notV ?_)
  | (with_reducible refine w_ifE ?_) | (with_reducible refine w_isN ?_) | (with_reducible refine w_notN ?_) | (with_reducible refine w_tr ?_) | (with_reducible refine w_chain ?_) | (with_reducible refine w_fld ?_) | (with_reducible refine w_sl ?_) | (with_reducible refine o_no ?_) | (with_reducible refine o_some ?_)
  | (with_reducible refine w_call0 ?_) | (with_reducible refine g_name ?_) | ((with_reducible refine' g_tup ?hx ?hy ?_); (case hx => exact rfl); (case hy => exact rfl)) | (with_reducible refine g_cons ?_) | (with_reducible refine g_nil ?_) | (with_reducible refine g_set ?_)
  | (with_reducible refine r3_add_ii ?_) | (with_reducible refine r3_sub ?_) | (with_reducible refine r3_lt ?_) | (with_reducible refine r3_le ?_) | (with_reducible refine r3_gt ?_) | (with_reducible refine r3_ge ?_) | (with_reducible refine u3_neg ?_)
  | (with_reducible refine c3_int_i ?_) | (with_reducible refine c3_int_b ?_) | (with_reducible refine c3_abs ?_) | (with_reducible refine c3_len_t ?_) | (with_reducible refine c3_len .fz ?_) | (with_reducible refine c3_max2 ?_) | (with_reducible refine c3_min2 ?_)
  | (with_reducible refine r3_eq (n := 9) (m := 9) okD_int okD_int ?_) | (with_reducible refine r3_ne (n := 9) (m := 9) okD_int okD_int ?_)
  | ((with_reducible refine' Exists.intro _ (And.intro ?hx ?_)); (case hx => exact rfl))
  | ((with_reducible refine' And.intro ?hx ?_); (case hx => (show List.length _ ≤ 100000); exact Nat.le_of_ble_eq_true rfl))
  | (with_reducible refine c3_lenL (c3_len_t ?_)) | (with_reducible refine c3_lenL (c3_len .fz ?_)))

section
variable {P : Program} {w : World} {K : PySem.W.Frag} {mg : Str → Option Value} {base : Heap} {A0 : Adr}

local macro_rules | `(tactic| walk_at "t3q") => `(tactic| first
  | (with_reducible refine s_seq ?_) | (with_reducible refine s_asg ?_) | (with_reducible refine s_if ?_) | (with_reducible refine s_ret ?_) | (with_reducible refine s_drop ?_) | (with_reducible refine s_asgG ?_) | (with_reducible refine s_retN ?_)
  | (with_reducible refine s_next ?_) | (with_reducible refine s_brk ?_) | (with_reducible refine s_cont ?_) | (with_reducible refine s_par ?_) | (with_reducible refine s_fld ?_)
  | ((with_reducible refine' w_var ?hx ?_); (case hx => exact rfl)) | (with_reducible refine w_cI ?_) | (with_reducible refine w_cB ?_) | (with_reducible refine w_cS ?_) | (with_reducible refine w_cN ?_) | (with_reducible refine w_cT ?_) | (with_reducible refine w_cR ?_)
  | (with_reducible refine w_op ?_) | (with_reducible refine w_un ?_) | (with_reducible refine w_nil ?_) | (with_reducible refine w_tup ?_) | (with_reducible refine w_cons ?_) | (with_reducible refine w_cb ?_) | (with_reducible refine w_bm0 ?_) | (with_reducible refine w_bm ?_)
  | (with_reducible refine w_test ?_) | (with_reducible refine w_B ?_) | (with_reducible refine w_notT ?_) | (with_reducible refine w_yes ?_) | (with_reducible refine w_notV ?_)
  | (with_reducible refine w_ifE ?_) | (with_reducible refine w_isN ?_) | (with_reducible refine w_notN ?_) | (with_reducible refine w_tr ?_) | (with_reducible refine w_chain ?_) | (with_reducible refine w_fld ?_) | (with_reducible refine w_sl ?_) | (with_reducible refine o_no ?_) | (with_reducible refine o_some ?_)
  | (with_reducible refine g_name ?_) | ((with_reducible refine' g_tup ?hx ?hy ?_); (case hx => exact rfl); (case hy => exact rfl)) | (with_reducible refine g_cons ?_) | (with_reducible refine g_nil ?_) | (with_reducible refine g_set ?_)
  | (with_reducible refine r3_add_ii ?_) | (with_reducible refine r3_sub ?_) | (with_reducible refine r3_lt ?_) | (with_reducible refine r3_le ?_) | (with_reducible refine r3_gt ?_) | (with_reducible refine r3_ge ?_) | (with_reducible refine u3_neg ?_)
  | (with_reducible refine c3_int_i ?_) | (with_reducible refine c3_int_b ?_) | (with_reducible refine c3_abs ?_) | (with_reducible refine c3_len_t ?_) | (with_reducible refine c3_len .fz ?_) | (with_reducible refine c3_max2 ?_) | (with_reducible refine c3_min2 ?_)
  | (with_reducible refine r3_eq (n := 9) (m := 9) okD_int okD_int ?_) | (with_reducible refine r3_ne (n := 9) (m := 9) okD_int okD_int ?_)
  | ((with_reducible refine' Exists.intro _ (And.intro ?hx ?_)); (case hx => exact rfl))
  | ((with_reducible refine' And.intro ?hx ?_); (case hx => (show List.length _ ≤ 100000); exact Nat.le_of_ble_eq_true rfl))
  | (with_reducible refine c3_lenL (c3_len_t ?_)) | (with_reducible refine c3_lenL (c3_len .fz ?_)))

def dipO (m : BM) (x y : D) : RO := if hasK m.cloths x = true then (if inS m.pots y = true then (if (m.dips.length : Int) < m.most then none else some (.full, .int m.most)) else some (.unknown, y)) else some (.unknown, x)
theorem dipO_none {m : BM} {x y : D} (v : AVal y) (h : dipO m x y = none) : ∃ c p, x = .str c ∧ y = .str p ∧ (m.cloths.lookup c).isSome = true ∧ p ∈ m.pots ∧ (m.dips.length : Int) < m.most := by
  unfold dipO at h
  split at h
  · rename_i h1
    split at h
    · rename_i h2
      split at h
      · rename_i h3
        obtain ⟨c, rfl⟩ := txt_key h1
        obtain ⟨p, rfl, hp⟩ := inS_key v h2
        exact ⟨c, p, rfl, rfl, h1, hp, h3⟩
      · cases h
    · cases h
  · cases h
def S_dip (A0 : Adr) : Sp3 := fun ds M Q E => ∃ (M0 : Mem) (A : BA) (m : BM) (x y : D), ds = [.ref A.b, x, y] ∧ M = bookM A0.f_Book M0 A m ∧ BOk A ∧ AVal x ∧ AVal y ∧ (∀ s ∈ m.pots, okT s) ∧ m.dips.length < 10000 ∧ (∀ C t, dipO m x y = some (C, t) → E (C.cls A0) t M) ∧
  (∀ c p, x = .str c → y = .str p → dipO m x y = none → Q (.int m.dips.length) (bookM A0.f_Book M0 A { m with dips := m.dips ++ [(c, p)] }))
theorem ok_Book_dip (T : Tx P K mg A0) : FnOk P w K mg base (L2.CX P w) 3 A0.f_Book_dip A0.d_Book_dip ["self", "cloth", "pot"] (lift3 (S_dip A0)) := by
  refine T.F_Book_dip.okX sc_Book_dip (lift3_len fun ds M Q E ⟨a, b, c, d, e, h, _⟩ => by rw [h]; rfl) (fun cdv A outer s H vs Q E hr h => ?_)
  have hu := hr.units
  have hu5 := units65 hr
  have hu1 := units1 hr
  refine ⟨_, (pss_cons (ps_expr (pe_call (ok_check_known T) (hr.mono (by decide)) (by rfl) T.g_check_known T.k_check_known T.b_check_known .nil (passes_call (takes_of rfl rfl rfl rfl) (fun _ _ _ _ h => h)) (pa_cons (pv 1) (pa_cons (pe_fldK K rfl (pv 0)) pa_nil))))
  (pss_cons (ps_expr (pe_call (ok_check_known T) (hr.mono (by decide)) (by rfl) T.g_check_known T.k_check_known T.b_check_known .nil (passes_call (takes_of rfl rfl rfl rfl) (fun _ _ _ _ h => h)) (pa_cons (pv 2) (pa_cons (pe_fldK K rfl (pv 0)) pa_nil))))
  (pss_cons (ps_expr (pe_call (ok_check_room T) (hr.mono (by decide)) (by rfl) T.g_check_room T.k_check_room T.b_check_room .nil (passes_call (takes_of rfl rfl rfl rfl) (fun _ _ _ _ h => h)) (pa_cons (pe_fldK K rfl (pv 0)) (pa_cons (pe_fldK K rfl (pv 0)) pa_nil))))
  (pss_cons (ps_expr (pe_bm PySem.F.plainAttrs_list PySem.F.slot_list_append PySem.F.type_list_append mt_append (pe_fldK K rfl (pv 0)) (pa_cons (pe_tup (pa_cons (pv 1) (pa_cons (pv 2) pa_nil))) pa_nil)))
  (pss_one (ps_ret (pe_op op_sub (pe_callB (call_lenDK K rfl) (by rfl) T.n_len PySem.boot_len (pa_cons (pe_fldK K rfl (pv 0)) pa_nil)) pe_int))))))), run3 h fun B ds M Q3 E3 hs hE => ?_⟩
  obtain ⟨M0, A, m, x, y, rfl, rfl, o, vx, vy, okp, hbig, qe, q⟩ := hs
  change W3s B _ _ [some (.ref A.b), some x, some y] _
  try dsimp only [cxOf, Cx.nox, Cx.wish]
  repeat walk_at "t3q"
  refine w_call (dds := []) (E3 := E3) (fun _ => rfl) hE ?_
  repeat walk_at "t3q"
  refine ⟨_, _, .ref A.c, .inr ⟨_, rfl, bk_b⟩, T.cl_Book, T.na_kind_by_cloth, rfl, ?_⟩
  repeat walk_at "t3q"
  refine ⟨x, .ref A.c, _, rfl, vx, ⟨A.c, rfl, .inl ⟨m.cloths, bk_c o, rfl⟩⟩, fun hx => ?_, fun hx => qe .unknown _ (by unfold dipO; rw [if_neg (by rw [hx]; exact Bool.false_ne_true)])⟩
  repeat walk_at "t3q"
  refine w_call (dds := []) (E3 := E3) (fun _ => rfl) hE ?_
  repeat walk_at "t3q"
  refine ⟨_, _, .ref A.p, .inr ⟨_, rfl, bk_b⟩, T.cl_Book, T.na_pot_names, rfl, ?_⟩
  repeat walk_at "t3q"
  refine ⟨y, .ref A.p, _, rfl, vy, ⟨A.p, rfl, .inr ⟨m.pots, bk_p o, okp, rfl⟩⟩, fun hy => ?_, fun hy => qe .unknown _ (by unfold dipO; rw [if_pos hx, if_neg (by rw [hy]; exact Bool.false_ne_true)])⟩
  have e0 : dipO m x y = if (m.dips.length : Int) < m.most then none else some (.full, .int m.most) := by unfold dipO; rw [if_pos hx, if_pos hy]
  rw [e0] at qe q
  obtain ⟨c, rfl⟩ := txt_key hx
  obtain ⟨p, rfl, hp⟩ := inS_key vy hy
  repeat walk_at "t3q"
  refine w_call (dds := []) (E3 := E3) (fun _ => rfl) hE ?_
  repeat walk_at "t3q"
  refine ⟨_, _, .ref A.d, .inr ⟨_, rfl, bk_b⟩, T.cl_Book, T.na_dip_rows, rfl, ?_⟩
  repeat walk_at "t3q"
  refine ⟨_, _, .int m.most, .inr ⟨_, rfl, bk_b⟩, T.cl_Book, T.na_most_dips, rfl, ?_⟩
  repeat walk_at "t3q"
  refine ⟨.ref A.d, m.dips.length, m.most, rfl, ⟨A.d, rfl, .inr ⟨_, bk_d o, by rw [List.length_map]⟩⟩, fun hl => ?_, fun hl => qe .full _ (by rw [if_neg (by omega)])⟩
  have q := q c p rfl rfl (by rw [if_pos hl])
  repeat walk_at "t3q"
  refine ⟨_, _, .ref A.d, .inr ⟨_, rfl, bk_b⟩, T.cl_Book, T.na_dip_rows, rfl, ?_⟩
  refine ⟨.lo (bk_d o), ?_⟩
  repeat walk_at "t3q"
  refine m3_append (bk_d o) (by rw [List.length_map]; omega) ?_
  rw [show m.dips.map wD ++ [D.tup [.str c, .str p]] = (m.dips ++ [(c, p)]).map wD by rw [List.map_append]; rfl, pt_d o]
  repeat walk_at "t3q"
  refine ⟨_, _, .ref A.d, .inr ⟨_, rfl, bk_b⟩, T.cl_Book, T.na_dip_rows, rfl, ?_⟩
  repeat walk_at "t3q"
  refine c3_lenL (c3_len (.ow (bk_d o)) ?_)
  repeat walk_at "t3q"
  have e : (((({ m with dips := m.dips ++ [(c, p)] } : BM).dips.map wD).length : Nat) : Int) - 1 = m.dips.length := by
    show ((((m.dips ++ [(c, p)]).map wD).length : Nat) : Int) - 1 = m.dips.length
    rw [List.length_map, List.length_append]
    show ((m.dips.length + 1 : Nat) : Int) - 1 = m.dips.length
    omega
  rw [e]
  exact q
theorem gk_dip {A0 : Adr} {M0 : Mem} {A : BA} {m : BM} {Q : DQ} {E : EQ3} {x y : Str} (o : BOk A) (vx : AVal (.str x)) (vy : AVal (.str y)) (hx : (m.cloths.lookup x).isSome = true) (okp : ∀ s ∈ m.pots, okT s) (hy : y ∈ m.pots) (l : (m.dips.length : Int) < m.most) (l2 : m.dips.length < 10000) (q : Q (.int m.dips.length) (bookM A0.f_Book M0 A { m with dips := m.dips ++ [(x, y)] })) : S_dip A0 [.ref A.b, .str x, .str y] (bookM A0.f_Book M0 A m) Q E := by
  have e : dipO m (.str x) (.str y) = none := by
    unfold dipO
    rw [if_pos (show hasK m.cloths (.str x) = true from hx), if_pos (show inS m.pots (.str y) = true by rw [inS_str]; exact decide_eq_true hy), if_pos l]
  refine ⟨M0, A, m, .str x, .str y, rfl, rfl, o, vx, vy, okp, l2, fun C t he => (by rw [e] at he; cases he), fun s k' e1 e2 _ => ?_⟩
  cases e1; cases e2
  exact q
end
end LW
set_option Elab.async false
set_option linter.all false
set_option maxRecDepth 100000
set_option maxHeartbeats 4000000
namespace LW
open PySem L2 T3
open Evl (Ex)
local macro_rules | `(tactic| walk_at "t3") => `(tactic| first
  | (with_reducible refine s_seq ?_) | (with_reducible refine s_asg ?_) | (with_reducible refine s_if ?_) | (with_reducible refine s_ret ?_) | (with_reducible refine s_drop ?_) | (with_reducible refine s_asgG ?_) | (with_reducible refine s_retN ?_)
  | (with_reducible refine s_next ?_) | (with_reducible refine s_brk ?_) | (with_reducible refine s_cont ?_) | (with_reducible refine s_par ?_) | (with_reducible refine s_fld ?_)
  | ((with_reducible refine' w_var ?hx ?_); (case hx => exact rfl)) | (with_reducible refine w_cI ?_) | (with_reducible refine w_cB ?_) | (with_reducible refine w_cS ?_) | (with_reducible refine w_cN ?_) | (with_reducible refine w_cT ?_) | (with_reducible refine w_cR ?_)
  | (with_reducible refine w_op ?_) | (with_reducible refine w_un ?_) | (with_reducible refine w_nil ?_) | (with_reducible refine w_tup ?_) | (with_reducible refine w_cons ?_) | (with_reducible refine w_cb ?_) | (with_reducible refine w_bm0 ?_) | (with_reducible refine w_bm ?_)
  | (with_reducible refine w_test ?_) | (with_reducible refine w_B ?_) | (with_reducible refine w_notT ?_) | (with_reducible refine w_yes ?_) | (with_reducible refine w_notV ?_)
  | (with_reducible refine w_ifE ?_) | (with_reducible refine w_isN ?_) | (with_reducible refine w_notN ?_) | (with_reducible refine w_tr ?_) | (with_reducible refine w_chain ?_) | (with_reducible refine w_fld ?_) | (with_reducible refine w_sl ?_) | (with_reducible refine o_no ?_) | (with_reducible refine o_some ?_)
  | (with_reducible refine w_call0 ?_) | (with_reducible refine g_name ?_) | ((with_reducible refine' g_tup ?hx ?hy ?_); (case hx => exact rfl); (case hy => exact rfl)) | (with_reducible refine g_cons ?_) | (with_reducible refine g_nil ?_) | (with_reducible refine g_set ?_)
  | (with_reducible refine r3_add_ii ?_) | (with_reducible refine r3_sub ?_) | (with_reducible refine r3_lt ?_) | (with_reducible refine r3_le ?_) | (with_reducible refine r3_gt ?_) | (with_reducible refine r3_ge ?_) | (with_reducible refine u3_neg ?_)
  | (with_reducible refine c3_int_i ?_) | (with_reducible refine c3_int_b ?_) | (with_reducible refine c3_abs ?_) | (with_reducible refine c3_len_t ?_) | (with_reducible refine c3_len .fz ?_) | (with_reducible refine c3_max2 ?_) | (with_reducible refine c3_min2 ?_)
  | (with_reducible refine r3_eq (n := 9) (m := 9) okD_int okD_int ?_) | (with_reducible refine r3_ne (n := 9) (m := 9) okD_int okD_int ?_)
  | ((with_reducible refine' Exists.intro _ (And.intro ?hx ?_)); (case hx => exact rfl))
  | ((with_reducible refine' And.intro ?hx ?_); (case hx => (show List.length _ ≤ 100000); exact Nat.le_of_ble_eq_true rfl))
  | (with_reducible refine c3_lenL (c3_len_t ?_)) | (with_reducible refine c3_lenL (c3_len .fz ?_)))

section
variable {P : Program} {w : World} {K : PySem.W.Frag} {mg : Str → Option Value} {base : Heap} {A0 : Adr}

local macro_rules | `(tactic| walk_at "t3q") => `(tactic| first
  | (with_reducible refine s_seq ?_) | (with_reducible refine s_asg ?_) | (with_reducible refine s_if ?_) | (with_reducible refine s_ret ?_) | (with_reducible refine s_drop ?_) | (with_reducible refine s_asgG ?_) | (with_reducible refine s_retN ?_)
  | (with_reducible refine s_next ?_) | (with_reducible refine s_brk ?_) | (with_reducible refine s_cont ?_) | (with_reducible refine s_par ?_) | (with_reducible refine s_fld ?_)
  | ((with_reducible refine' w_var ?hx ?_); (case hx => exact rfl)) | (with_reducible refine w_cI ?_) | (with_reducible refine w_cB ?_) | (with_reducible refine w_cS ?_) | (with_reducible refine w_cN ?_) | (with_reducible refine w_cT ?_) | (with_reducible refine w_cR ?_)
  | (with_reducible refine w_op ?_) | (with_reducible refine w_un ?_) | (with_reducible refine w_nil ?_) | (with_reducible refine w_tup ?_) | (with_reducible refine w_cons ?_) | (with_reducible refine w_cb ?_) | (with_reducible refine w_bm0 ?_) | (with_reducible refine w_bm ?_)
  | (with_reducible refine w_test ?_) | (with_reducible refine w_B ?_) | (with_reducible refine w_notT ?_) | (with_reducible refine w_yes ?_) | (with_reducible refine w_notV ?_)
  | (with_reducible refine w_ifE ?_) | (with_reducible refine w_isN ?_) | (with_reducible refine w_notN ?_) | (with_reducible refine w_tr ?_) | (with_reducible refine w_chain ?_) | (with_reducible refine w_fld ?_) | (with_reducible refine w_sl ?_) | (with_reducible refine o_no ?_) | (with_reducible refine o_some ?_)
  | (with_reducible refine g_name ?_) | ((with_reducible refine' g_tup ?hx ?hy ?_); (case hx => exact rfl); (case hy => exact rfl)) | (with_reducible refine g_cons ?_) | (with_reducible refine g_nil ?_) | (with_reducible refine g_set ?_)
  | (with_reducible refine r3_add_ii ?_) | (with_reducible refine r3_sub ?_) | (with_reducible refine r3_lt ?_) | (with_reducible refine r3_le ?_) | (with_reducible refine r3_gt ?_) | (with_reducible refine r3_ge ?_) | (with_reducible refine u3_neg ?_)
  | (with_reducible refine c3_int_i ?_) | (with_reducible refine c3_int_b ?_) | (with_reducible refine c3_abs ?_) | (with_reducible refine c3_len_t ?_) | (with_reducible refine c3_len .fz ?_) | (with_reducible refine c3_max2 ?_) | (with_reducible refine c3_min2 ?_)
  | (with_reducible refine r3_eq (n := 9) (m := 9) okD_int okD_int ?_) | (with_reducible refine r3_ne (n := 9) (m := 9) okD_int okD_int ?_)
  | ((with_reducible refine' Exists.intro _ (And.intro ?hx ?_)); (case hx => exact rfl))
  | ((with_reducible refine' And.intro ?hx ?_); (case hx => (show List.length _ ≤ 100000); exact Nat.le_of_ble_eq_true rfl))
  | (with_reducible refine c3_lenL (c3_len_t ?_)) | (with_reducible refine c3_lenL (c3_len .fz ?_)))

def S_kind_of (A0 : Adr) : Sp3 := fun ds M Q E => ∃ (M0 : Mem) (A : BA) (m : BM) (x : D), ds = [.ref A.b, x] ∧ M = bookM A0.f_Book M0 A m ∧ BOk A ∧ AVal x ∧ (hasK m.cloths x = false → E A0.f_Unknown x M) ∧ (∀ c y, x = .str c → m.cloths.lookup c = some y → Q (.str y) M)
theorem ok_Book_kind_of (T : Tx P K mg A0) : FnOk P w K mg base (L2.CX P w) 3 A0.f_Book_kind_of A0.d_Book_kind_of ["self", "cloth"] (lift3 (S_kind_of A0)) := by
  refine T.F_Book_kind_of.okX sc_Book_kind_of (lift3_len fun ds M Q E ⟨a, b, c, d, h, _⟩ => by rw [h]; rfl) (fun cdv A outer s H vs Q E hr h => ?_)
  have hu := hr.units
  have hu5 := units65 hr
  have hu1 := units1 hr
  refine ⟨_, (pss_cons (ps_expr (pe_call (ok_check_known T) (hr.mono (by decide)) (by rfl) T.g_check_known T.k_check_known T.b_check_known .nil (passes_call (takes_of rfl rfl rfl rfl) (fun _ _ _ _ h => h)) (pa_cons (pv 1) (pa_cons (pe_fldK K rfl (pv 0)) pa_nil))))
  (pss_one (ps_ret (pe_dget hu1 (pe_fldK K rfl (pv 0)) (pv 1) (fun _ _ => by rfl))))), run3 h fun B ds M Q3 E3 hs hE => ?_⟩
  obtain ⟨M0, A, m, x, rfl, rfl, o, vx, qe, q⟩ := hs
  change W3s B _ _ [some (.ref A.b), some x] _
  try dsimp only [cxOf, Cx.nox, Cx.wish]
  repeat walk_at "t3q"
  refine w_call (dds := []) (E3 := E3) (fun _ => rfl) hE ?_
  repeat walk_at "t3q"
  refine ⟨_, _, .ref A.c, .inr ⟨_, rfl, bk_b⟩, T.cl_Book, T.na_kind_by_cloth, rfl, ?_⟩
  repeat walk_at "t3q"
  refine ⟨x, .ref A.c, _, rfl, vx, ⟨A.c, rfl, .inl ⟨m.cloths, bk_c o, rfl⟩⟩, fun hx => ?_, qe⟩
  obtain ⟨c, rfl⟩ := txt_key hx
  obtain ⟨y, hy⟩ := Option.isSome_iff_exists.mp (show (m.cloths.lookup c).isSome = true from hx)
  repeat walk_at "t3q"
  refine w_dget ?_
  repeat walk_at "t3q"
  refine ⟨_, _, .ref A.c, .inr ⟨_, rfl, bk_b⟩, T.cl_Book, T.na_kind_by_cloth, rfl, ?_⟩
  repeat walk_at "t3q"
  refine ⟨.str y, ⟨A.c, rfl, .inl ⟨_, .inr c, bk_c o, rfl, by rw [valD_kv, hy]; rfl⟩⟩, q c y rfl hy⟩
def S_hold_of (A0 : Adr) : Sp3 := fun ds M Q E => ∃ (M0 : Mem) (A : BA) (m : BM) (x : D), ds = [.ref A.b, x] ∧ M = bookM A0.f_Book M0 A m ∧ BOk A ∧ AVal x ∧ (hasK m.kinds x = false → E A0.f_Unknown x M) ∧ (∀ c y, x = .str c → m.kinds.lookup c = some y → Q (.str y) M)
theorem ok_Book_hold_of (T : Tx P K mg A0) : FnOk P w K mg base (L2.CX P w) 3 A0.f_Book_hold_of A0.d_Book_hold_of ["self", "kind"] (lift3 (S_hold_of A0)) := by
  refine T.F_Book_hold_of.okX sc_Book_hold_of (lift3_len fun ds M Q E ⟨a, b, c, d, h, _⟩ => by rw [h]; rfl) (fun cdv A outer s H vs Q E hr h => ?_)
  have hu := hr.units
  have hu5 := units65 hr
  have hu1 := units1 hr
  refine ⟨_, (pss_cons (ps_expr (pe_call (ok_check_known T) (hr.mono (by decide)) (by rfl) T.g_check_known T.k_check_known T.b_check_known .nil (passes_call (takes_of rfl rfl rfl rfl) (fun _ _ _ _ h => h)) (pa_cons (pv 1) (pa_cons (pe_fldK K rfl (pv 0)) pa_nil))))
  (pss_one (ps_ret (pe_dget hu1 (pe_fldK K rfl (pv 0)) (pv 1) (fun _ _ => by rfl))))), run3 h fun B ds M Q3 E3 hs hE => ?_⟩
  obtain ⟨M0, A, m, x, rfl, rfl, o, vx, qe, q⟩ := hs
  change W3s B _ _ [some (.ref A.b), some x] _
  try dsimp only [cxOf, Cx.nox, Cx.wish]
  repeat walk_at "t3q"
  refine w_call (dds := []) (E3 := E3) (fun _ => rfl) hE ?_
  repeat walk_at "t3q"
  refine ⟨_, _, .ref A.h, .inr ⟨_, rfl, bk_b⟩, T.cl_Book, T.na_hold_by_kind, rfl, ?_⟩
  repeat walk_at "t3q"
  refine ⟨x, .ref A.h, _, rfl, vx, ⟨A.h, rfl, .inl ⟨m.kinds, bk_h o, rfl⟩⟩, fun hx => ?_, qe⟩
  obtain ⟨c, rfl⟩ := txt_key hx
  obtain ⟨y, hy⟩ := Option.isSome_iff_exists.mp (show (m.kinds.lookup c).isSome = true from hx)
  repeat walk_at "t3q"
  refine w_dget ?_
  repeat walk_at "t3q"
  refine ⟨_, _, .ref A.h, .inr ⟨_, rfl, bk_b⟩, T.cl_Book, T.na_hold_by_kind, rfl, ?_⟩
  repeat walk_at "t3q"
  refine ⟨.str y, ⟨A.h, rfl, .inl ⟨_, .inr c, bk_h o, rfl, by rw [valD_kv, hy]; rfl⟩⟩, q c y rfl hy⟩
theorem gk_kindof {A0 : Adr} {M0 : Mem} {A : BA} {m : BM} {Q : DQ} {E : EQ3} {x y : Str} (o : BOk A) (vx : AVal (.str x)) (hx : m.cloths.lookup x = some y) (q : Q (.str y) (bookM A0.f_Book M0 A m)) : S_kind_of A0 [.ref A.b, .str x] (bookM A0.f_Book M0 A m) Q E :=
  ⟨M0, A, m, .str x, rfl, rfl, o, vx, fun h => (by have h : (m.cloths.lookup x).isSome = false := h; rw [hx] at h; cases h), fun c z e1 e2 => (by cases e1; rw [hx] at e2; cases e2; exact q)⟩
theorem gk_holdof {A0 : Adr} {M0 : Mem} {A : BA} {m : BM} {Q : DQ} {E : EQ3} {x y : Str} (o : BOk A) (vx : AVal (.str x)) (hx : m.kinds.lookup x = some y) (q : Q (.str y) (bookM A0.f_Book M0 A m)) : S_hold_of A0 [.ref A.b, .str x] (bookM A0.f_Book M0 A m) Q E :=
  ⟨M0, A, m, .str x, rfl, rfl, o, vx, fun h => (by have h : (m.kinds.lookup x).isSome = false := h; rw [hx] at h; cases h), fun c z e1 e2 => (by cases e1; rw [hx] at e2; cases e2; exact q)⟩
end
end LW
set_option Elab.async false
set_option linter.all false
set_option maxRecDepth 100000
set_option maxHeartbeats 4000000
namespace LW
open PySem L2 T3
open Evl (Ex)
local macro_rules | `(tactic| walk_at "t3") => `(tactic| first
  | (with_reducible refine s_seq ?_) | (with_reducible refine s_asg ?_) | (with_reducible refine s_if ?_) | (with_reducible refine s_ret ?_) | (with_reducible refine s_drop ?_) | (with_reducible refine s_asgG ?_) | (with_reducible refine s_retN ?_)
  | (with_reducible refine s_next ?_) | (with_reducible refine s_brk ?_) | (with_reducible refine s_cont ?_) | (with_reducible refine s_par ?_) | (with_reducible refine s_fld ?_)
  | ((with_reducible refine' w_var ?hx ?_); (case hx => exact rfl)) | (with_reducible refine w_cI ?_) | (with_reducible refine w_cB ?_) | (with_reducible refine w_cS ?_) | (with_reducible refine w_cN ?_) | (with_reducible refine w_cT ?_) | (with_reducible refine w_cR ?_)
  | (with_reducible refine w_op ?_) | (with_reducible refine w_un ?_) | (with_reducible refine w_nil ?_) | (with_reducible refine w_tup ?_) | (with_reducible refine w_cons ?_) | (with_reducible refine w_cb ?_) | (with_reducible refine w_bm0 ?_) | (with_reducible refine w_bm ?_)
  | (with_reducible refine w_test ?_) | (with_reducible refine w_B ?_) | (with_reducible refine w_notT ?_) | (with_reducible refine w_yes ?_) | (with_reducible refine w_notV ?_)
  | (with_reducible refine w_ifE ?_) | (with_reducible refine w_isN ?_) | (with_reducible refine w_notN ?_) | (with_reducible refine w_tr ?_) | (with_reducible refine w_chain ?_) | (with_reducible refine w_fld ?_) | (with_reducible refine w_sl ?_) | (with_reducible refine o_no ?_) | (with_reducible refine o_some ?_)
  | (with_reducible refine w_call0 ?_) | (with_reducible refine g_name ?_) | ((with_reducible refine' g_tup ?hx ?hy ?_); (case hx => exact rfl); (case hy => exact rfl)) | (with_reducible refine g_cons ?_) | (with_reducible refine g_nil ?_) | (with_reducible refine g_set ?_)
  | (with_reducible refine r3_add_ii ?_) | (with_reducible refine r3_sub ?_) | (with_reducible refine r3_lt ?_) | (with_reducible refine r3_le ?_) | (with_reducible refine r3_gt ?_) | (with_reducible refine r3_ge ?_) | (with_reducible refine u3_neg ?_)
  | (with_reducible refine c3_int_i ?_) | (with_reducible refine c3_int_b ?_) | (with_reducible refine c3_abs ?_) | (with_reducible refine c3_len_t ?_) | (with_reducible refine c3_len .fz ?_) | (with_reducible refine c3_max2 ?_) | (with_reducible refine c3_min2 ?_)
  | (with_reducible refine r3_eq (n := 9) (m := 9) okD_int okD_int ?_) | (with_reducible refine r3_ne (n := 9) (m := 9) okD_int okD_int ?_)
  | ((with_reducible refine' Exists.intro _ (And.intro ?hx ?_)); (case hx => exact rfl))
  | ((with_reducible refine' And.intro ?hx ?_); (case hx => (show List.length _ ≤ 100000); exact Nat.le_of_ble_eq_true rfl))
  | (with_reducible refine c3_lenL (c3_len_t ?_)) | (with_reducible refine c3_lenL (c3_len .fz ?_)))

def SrcD (cells : List Int) (i j k : Int) : DO := .lst [.lst (cells.map D.int), .int i, .int j, .int k]
def IsSrc (o : DO) : Prop := ∃ (cells : List Int) (i j k : Int), o = SrcD cells i j k ∧ cells.length ≤ 63 ∧ 0 ≤ i ∧ i ≤ 63 ∧ 0 ≤ j ∧ j ≤ 60
def S_draw : Sp3 := fun ds M Q _ => ∃ (a : Addr) (n : Int) (o : DO), ds = [.ref a, .int n] ∧ M a = some o ∧ IsSrc o ∧ 0 < n ∧ n < 10 ^ 100 ∧ ∀ r o', 0 ≤ r → r < n → IsSrc o' → Q (.int r) (mput M a o')
section
variable {P : Program} {w : World} {K : PySem.W.Frag} {mg : Str → Option Value} {base : Heap}
variable {A0 : Adr}
theorem ok_draw (T : Tx P K mg A0) : FnOk P w K mg base CX0 1 A0.f_draw A0.d_draw ["_law_source_here", "_law_many"] (lift3 S_draw) := by
  refine T.F_draw.ok sc_draw (lift3_len fun ds M Q E ⟨a, n, o, h, _⟩ => by rw [h]; rfl) (fun cdv A outer s H vs Q E hr h => ?_)
  have hu := hr.units
  have hu5 := units65 hr
  refine ⟨_, (pss_cons (ps_if (pt_cmpR op_ge (pe_ix (ix_seqK K rfl) (pv 0) pe_int (fun _ _ => by rfl)) (pe_callB (call_lenDK K rfl) (by rfl) T.n_len PySem.boot_len (pa_cons (pe_ix (ix_seqK K rfl) (pv 0) pe_int (fun _ _ => by rfl)) pa_nil)) (nomark _)) (pss_one (ps_ret pe_int)) pss_nil)
  (pss_cons (ps_set (i := 2) sc_draw.nd (by rfl) (Or.inl (by rfl)) (pe_ix (ix_seqK K rfl) (pe_ix (ix_seqK K rfl) (pv 0) pe_int (fun _ _ => by rfl)) (pe_ix (ix_seqK K rfl) (pv 0) pe_int (fun _ _ => by rfl)) (fun _ _ => by rfl)))
  (pss_cons (ps_set (i := 3) sc_draw.nd (by rfl) (Or.inl (by rfl)) (pe_or (pe_cmpR op_ge (pv 2) (pe_op op_pow pe_int pe_int) (nomark _)) (pe_one (pe_cmpR op_le (pv 2) (pe_op op_sub pe_int (pe_op op_pow pe_int pe_int)) (nomark _)))))
  (pss_cons (ps_if (PW.pt (pw_and (pt_truthK K rfl (pv 3) (by intro _; rfl)) (pw_and1 (pt_cmpR (op_eqDK K rfl hu) (pe_ix (ix_seqK K rfl) (pv 0) pe_int (fun _ _ => by rfl)) pe_int (nomark _))))) (pss_one (ps_asg (pe_callB call_abs (by rfl) T.n_abs (by decide +kernel) (pa_cons (pv 2) pa_nil)) (pg_sub (pv 0) pe_int set_list))) pss_nil)
  (pss_cons (ps_if (pt_truthK K rfl (pv 3) (by intro _; rfl)) (pss_cons (ps_set (i := 4) sc_draw.nd (by rfl) (Or.inl (by rfl)) (pe_op op_modN (pe_callTy call_int1 (by rfl) T.n_int (by decide +kernel) (pa_cons (pe_ix (ix_seqK K rfl) (pv 0) pe_int (fun _ _ => by rfl)) pa_nil)) (pv 1)))
  (pss_one (ps_asg (pe_op op_fdivW (pe_ix (ix_seqK K rfl) (pv 0) pe_int (fun _ _ => by rfl)) (pv 1)) (pg_sub (pv 0) pe_int set_list)))) (pss_cons (ps_set (i := 5) sc_draw.nd (by rfl) (Or.inl (by rfl)) (pe_op op_ADD (pe_op op_ADD (pe_op op_mulW (pe_ix (ix_seqK K rfl) (pv 0) pe_int (fun _ _ => by rfl)) pe_int) (pe_op op_mulW (pe_ix (ix_seqK K rfl) (pv 0) pe_int (fun _ _ => by rfl)) pe_int)) pe_int))
  (pss_cons (ps_set (i := 6) sc_draw.nd (by rfl) (Or.inl (by rfl)) (pe_op op_modN (pe_callTy call_int1 (by rfl) T.n_int (by decide +kernel) (pa_cons (pe_op op_ADD (pe_op op_mulW (pv 2) pe_int) (pv 5)) pa_nil)) pe_int))
  (pss_cons (ps_set (i := 6) sc_draw.nd (by rfl) (Or.inl (by rfl)) (pe_op op_modN (pe_callTy call_int1 (by rfl) T.n_int (by decide +kernel) (pa_cons (pe_op op_ADD (pe_op op_ADD (pe_op op_mulW (pv 6) (pv 6)) (pe_op op_mulW (pv 2) pe_int)) (pe_ix (ix_seqK K rfl) (pv 0) pe_int (fun _ _ => by rfl))) pa_nil)) pe_int))
  (pss_one (ps_set (i := 4) sc_draw.nd (by rfl) (Or.inl (by rfl)) (pe_op op_modN (pe_callTy call_int1 (by rfl) T.n_int (by decide +kernel) (pa_cons (pv 6) pa_nil)) (pv 1))))))))
  (pss_cons (ps_asg (pe_op op_ADD (pe_ix (ix_seqK K rfl) (pv 0) pe_int (fun _ _ => by rfl)) pe_int) (pg_sub (pv 0) pe_int set_list))
  (pss_cons (ps_if (PW.pt (pw_or (pt_cmpR op_ge (pe_ix (ix_seqK K rfl) (pv 0) pe_int (fun _ _ => by rfl)) pe_int (nomark _)) (pw_or (PW.pt (pw_and (pt_not (pt_truthK K rfl (pv 3) (by intro _; rfl))) (pw_and1 (pt_cmpR op_ge (pe_ix (ix_seqK K rfl) (pv 0) pe_int (fun _ _ => by rfl)) pe_int (nomark _))))) (pw_or1 (PW.pt (pw_and (pt_truthK K rfl (pv 3) (by intro _; rfl)) (pw_and1 (pt_cmpR (op_eqDK K rfl hu) (pe_ix (ix_seqK K rfl) (pv 0) pe_int (fun _ _ => by rfl)) pe_int (nomark _))))))))) (pss_cons (ps_asg (pe_op op_ADD (pe_ix (ix_seqK K rfl) (pv 0) pe_int (fun _ _ => by rfl)) pe_int) (pg_sub (pv 0) pe_int set_list))
  (pss_one (ps_asg pe_int (pg_sub (pv 0) pe_int set_list)))) pss_nil)
  (pss_one (ps_ret (pv 4)))))))))), run3 h fun B ds M Q3 E3 hs hE => ?_⟩
  obtain ⟨a, n, o, rfl, hm, ⟨cells, i, j, k, rfl, hl, i0, i1, j0, j1⟩, n0, n1, q⟩ := hs
  change W3s B _ _ [some (.ref a), some (.int n), none, none, none, none, none] M
  try dsimp only [cxOf, Cx.nox, Cx.wish]
  repeat walk_at "t3"
  refine r3_ix_l (.ow hm) rfl ?_
  repeat walk_at "t3"
  refine r3_ix_l (.ow hm) rfl ?_
  repeat walk_at "t3"
  rw [List.length_map]
  refine iteB (fun hc => ?_) (fun hc => ?_)
  · repeat walk_at "t3"
    have := q 0 _ (Int.le_refl _) n0 ⟨cells, i, j, k, rfl, hl, i0, i1, j0, j1⟩
    rwa [mput_self hm] at this
  have hc : i < cells.length := by simpa using hc
  obtain ⟨c, hcc⟩ : ∃ c, (cells.map D.int)[i.toNat]? = some (.int c) := ⟨cells[i.toNat], by rw [List.getElem?_map, List.getElem?_eq_getElem (by omega)]; rfl⟩
  repeat walk_at "t3"
  refine r3_ix_l (.ow hm) rfl ?_
  repeat walk_at "t3"
  refine r3_ix_l (.ow hm) rfl ?_
  repeat walk_at "t3"
  refine r3_ix_l .fz (at3 (by omega) hcc) ?_
  repeat walk_at "t3"
  refine w_orP (a := decide ((10:Int) ^ 18 ≤ c)) (b := decide (c ≤ 0 - 10 ^ 18)) ?_ (fun _ => ?_) ?_
  · repeat walk_at "t3"
    refine r3_pow ⟨by decide, by decide, by decide⟩ ?_
    repeat walk_at "t3"
    exact ⟨rfl, rfl⟩
  · repeat walk_at "t3"
    refine r3_pow ⟨by decide, by decide, by decide⟩ ?_
    repeat walk_at "t3"
    exact ⟨rfl, rfl⟩
  have hg : (decide ((10:Int) ^ 18 ≤ c) || decide (c ≤ 0 - 10 ^ 18)) = false → -10 ^ 18 < c ∧ c < 10 ^ 18 := fun h => by
    have := (Bool.or_eq_false_iff.mp h)
    have h1 := of_decide_eq_false this.1
    have h2 := of_decide_eq_false this.2
    omega
  generalize (decide ((10:Int) ^ 18 ≤ c) || decide (c ≤ 0 - 10 ^ 18)) = g at hg ⊢
  -- if great and src[2] == 0: src[3] = abs(cell)
  refine s_seqM (fun σ' M' => σ' = [some (.ref a), some (.int n), some (.int c), some (.bl g), none, none, none] ∧ ∃ k', M' = mput M a (SrcD cells i j k')) ?_ ?_
  · refine s_if (w_andTP (a := g) (b := peq (.int j) (.int 0)) ?_ (fun _ => ?_) ?_)
    · repeat walk_at "t3"
      exact ⟨rfl, rfl⟩
    · repeat walk_at "t3"
      refine r3_ix_l (.ow hm) rfl ?_
      repeat walk_at "t3"
      exact ⟨rfl, rfl⟩
    · refine iteB (fun _ => ?_) (fun _ => ?_)
      · repeat walk_at "t3"
        exact ⟨a, _, _, 3, rfl, rfl, hm, rfl, rfl, _, rfl⟩
      · repeat walk_at "t3"
        exact ⟨rfl, k, (mput_self hm).symm⟩
  rintro _ _ ⟨rfl, k', rfl⟩
  have hm' : mput M a (SrcD cells i j k') a = some (SrcD cells i j k') := mput_same
  generalize hM : mput M a (SrcD cells i j k') = M' at hm'
  have hback : ∀ o, mput M' a o = mput M a o := fun o => by rw [← hM, mput_mput]
  -- the number
  refine s_seqM (fun σ' M'' => ∃ r v5 v6 k'', 0 ≤ r ∧ r < n ∧ σ' = [some (.ref a), some (.int n), some (.int c), some (.bl g), some (.int r), v5, v6] ∧ M'' = mput M a (SrcD cells i j k'')) ?_ ?_
  · repeat walk_at "t3"
    refine iteB (fun _ => ?_) (fun eg => ?_)
    · repeat walk_at "t3"
      refine r3_ix_l (.ow hm') rfl ?_
      repeat walk_at "t3"
      refine r3_mod n0 ?_
      repeat walk_at "t3"
      refine r3_ix_l (.ow hm') rfl ?_
      repeat walk_at "t3"
      refine r3_fdiv n0 (by omega) ?_
      repeat walk_at "t3"
      exact ⟨a, _, _, 3, rfl, rfl, hm', rfl, k' % n, none, none, k' / n, Int.emod_nonneg _ (by omega), Int.emod_lt_of_pos _ n0, rfl, hback _⟩
    · obtain ⟨c1, c2⟩ := hg eg
      repeat walk_at "t3"
      refine r3_ix_l (.ow hm') rfl ?_
      repeat walk_at "t3"
      refine r3_mul (mulW (by omega) (by decide)) ?_
      repeat walk_at "t3"
      refine r3_ix_l (.ow hm') rfl ?_
      repeat walk_at "t3"
      refine r3_mul (mulW (by omega) (by decide)) ?_
      repeat walk_at "t3"
      refine r3_mul (mulW (by omega) (by decide)) ?_
      repeat walk_at "t3"
      refine r3_mod (by decide) ?_
      repeat walk_at "t3"
      have m0 : ∀ z : Int, 0 ≤ z % 2147483647 ∧ z % 2147483647 < 2147483647 := fun z => ⟨Int.emod_nonneg _ (by decide), Int.emod_lt_of_pos _ (by decide)⟩
      obtain ⟨z0, z1⟩ := m0 (c * 48271 + (i * 69621 + j * 40692 + 11))
      generalize (c * 48271 + (i * 69621 + j * 40692 + 11)) % 2147483647 = z at z0 z1 ⊢
      refine r3_mul (mulW (by omega) (by omega)) ?_
      repeat walk_at "t3"
      refine r3_mul (mulW (by omega) (by decide)) ?_
      repeat walk_at "t3"
      refine r3_ix_l (.ow hm') rfl ?_
      repeat walk_at "t3"
      refine r3_mod (by decide) ?_
      repeat walk_at "t3"
      refine r3_mod n0 ?_
      repeat walk_at "t3"
      exact ⟨_, _, _, k', Int.emod_nonneg _ (by omega), Int.emod_lt_of_pos _ n0, rfl, hM.symm⟩
  rintro _ _ ⟨r, v5, v6, k'', r0, r1, rfl, rfl⟩
  have hm'' : mput M a (SrcD cells i j k'') a = some (SrcD cells i j k'') := mput_same
  generalize hM2 : mput M a (SrcD cells i j k'') = M2 at hm''
  have hback2 : ∀ o, mput M2 a o = mput M a o := fun o => by rw [← hM2, mput_mput]
  repeat walk_at "t3"
  refine r3_ix_l (.ow hm'') rfl ?_
  repeat walk_at "t3"
  refine ⟨a, _, _, 2, rfl, rfl, hm'', rfl, ?_⟩
  rw [hback2]
  have hm3 : mput M a (SrcD cells i (j + 1) k'') a = some (SrcD cells i (j + 1) k'') := mput_same
  have hback3 : ∀ o, mput (mput M a (SrcD cells i (j + 1) k'')) a o = mput M a o := fun o => mput_mput
  show W3s B _ _ _ (mput M a (SrcD cells i (j + 1) k''))
  generalize hM3 : mput M a (SrcD cells i (j + 1) k'') = M3 at hm3 hback3
  refine s_seqM (fun σ' M'' => ∃ o', IsSrc o' ∧ σ' = [some (.ref a), some (.int n), some (.int c), some (.bl g), some (.int r), v5, v6] ∧ M'' = mput M a o') ?_ ?_
  · refine s_if (w_orTP (a := decide ((60:Int) ≤ j + 1)) (b := (!g && decide ((6:Int) ≤ j + 1)) || (g && peq (.int k'') (.int 0))) ?_ (fun _ => w_orTP (a := !g && decide ((6:Int) ≤ j + 1)) (b := g && peq (.int k'') (.int 0)) ?_ (fun _ => ?_) ⟨rfl, rfl⟩) ?_)
    · repeat walk_at "t3"
      refine r3_ix_l (.ow hm3) rfl ?_
      repeat walk_at "t3"
      exact ⟨rfl, rfl⟩
    · refine w_andTP (a := !g) (b := decide ((6:Int) ≤ j + 1)) ?_ (fun _ => ?_) ⟨rfl, rfl⟩
      · repeat walk_at "t3"
        exact ⟨rfl, rfl⟩
      · repeat walk_at "t3"
        refine r3_ix_l (.ow hm3) rfl ?_
        repeat walk_at "t3"
        exact ⟨rfl, rfl⟩
    · refine w_andTP (a := g) (b := peq (.int k'') (.int 0)) ?_ (fun _ => ?_) ⟨rfl, rfl⟩
      · repeat walk_at "t3"
        exact ⟨rfl, rfl⟩
      · repeat walk_at "t3"
        refine r3_ix_l (.ow hm3) rfl ?_
        repeat walk_at "t3"
        exact ⟨rfl, rfl⟩
    · refine iteB (fun _ => ?_) (fun hn => ?_)
      · repeat walk_at "t3"
        refine r3_ix_l (.ow hm3) rfl ?_
        repeat walk_at "t3"
        refine ⟨a, _, _, 1, rfl, rfl, hm3, rfl, ?_⟩
        rw [hback3]
        have hm4 : mput M a (SrcD cells (i + 1) (j + 1) k'') a = some (SrcD cells (i + 1) (j + 1) k'') := mput_same
        show W3s B _ _ _ (mput M a (SrcD cells (i + 1) (j + 1) k''))
        repeat walk_at "t3"
        exact ⟨a, _, _, 2, rfl, rfl, hm4, rfl, SrcD cells (i + 1) 0 k'', ⟨cells, i + 1, 0, k'', rfl, hl, by omega, by omega, by omega, by omega⟩, rfl, mput_mput⟩
      · repeat walk_at "t3"
        have := of_decide_eq_false (Bool.or_eq_false_iff.mp hn).1
        exact ⟨SrcD cells i (j + 1) k'', ⟨cells, i, j + 1, k'', rfl, hl, i0, i1, by omega, by omega⟩, rfl, hM3.symm⟩
  rintro _ _ ⟨o', ho', rfl, rfl⟩
  repeat walk_at "t3"
  exact q r o' r0 r1 ho'
end
end LW
set_option Elab.async false
set_option linter.all false
set_option maxRecDepth 100000
set_option maxHeartbeats 4000000
namespace LW
open PySem L2 T3
open Evl (Ex)
local macro_rules | `(tactic| walk_at "t3") => `(tactic| first
  | (with_reducible refine s_seq ?_) | (with_reducible refine s_asg ?_) | (with_reducible refine s_if ?_) | (with_reducible refine s_ret ?_) | (with_reducible refine s_drop ?_) | (with_reducible refine s_asgG ?_) | (with_reducible refine s_retN ?_)
  | (with_reducible refine s_next ?_) | (with_reducible refine s_brk ?_) | (with_reducible refine s_cont ?_) | (with_reducible refine s_par ?_) | (with_reducible refine s_fld ?_)
  | ((with_reducible refine' w_var ?hx ?_); (case hx => exact rfl)) | (with_reducible refine w_cI ?_) | (with_reducible refine w_cB ?_) | (with_reducible refine w_cS ?_) | (with_reducible refine w_cN ?_) | (with_reducible refine w_cT ?_) | (with_reducible refine w_cR ?_)
  | (with_reducible refine w_op ?_) | (with_reducible refine w_un ?_) | (with_reducible refine w_nil ?_) | (with_reducible refine w_tup ?_) | (with_reducible refine w_cons ?_) | (with_reducible refine w_cb ?_) | (with_reducible refine w_bm0 ?_) | (with_reducible refine w_bm ?_)
  | (with_reducible refine w_test ?_) | (with_reducible refine w_B ?_) | (with_reducible refine w_notT ?_) | (with_reducible refine w_yes ?_) | (with_reducible refine w_notV ?_)
  | (with_reducible refine w_ifE ?_) | (with_reducible refine w_isN ?_) | (with_reducible refine w_notN ?_) | (with_reducible refine w_tr ?_) | (with_reducible refine w_chain ?_) | (with_reducible refine w_fld ?_) | (with_reducible refine w_sl ?_) | (with_reducible refine o_no ?_) | (with_reducible refine o_some ?_)
  | (with_reducible refine w_call0 ?_) | (with_reducible refine g_name ?_) | ((with_reducible refine' g_tup ?hx ?hy ?_); (case hx => exact rfl); (case hy => exact rfl)) | (with_reducible refine g_cons ?_) | (with_reducible refine g_nil ?_) | (with_reducible refine g_set ?_)
  | (with_reducible refine r3_add_ii ?_) | (with_reducible refine r3_sub ?_) | (with_reducible refine r3_lt ?_) | (with_reducible refine r3_le ?_) | (with_reducible refine r3_gt ?_) | (with_reducible refine r3_ge ?_) | (with_reducible refine u3_neg ?_)
  | (with_reducible refine c3_int_i ?_) | (with_reducible refine c3_int_b ?_) | (with_reducible refine c3_abs ?_) | (with_reducible refine c3_len_t ?_) | (with_reducible refine c3_len .fz ?_) | (with_reducible refine c3_max2 ?_) | (with_reducible refine c3_min2 ?_)
  | (with_reducible refine r3_eq (n := 9) (m := 9) okD_int okD_int ?_) | (with_reducible refine r3_ne (n := 9) (m := 9) okD_int okD_int ?_)
  | ((with_reducible refine' Exists.intro _ (And.intro ?hx ?_)); (case hx => exact rfl))
  | ((with_reducible refine' And.intro ?hx ?_); (case hx => (show List.length _ ≤ 100000); exact Nat.le_of_ble_eq_true rfl))
  | (with_reducible refine c3_lenL (c3_len_t ?_)) | (with_reducible refine c3_lenL (c3_len .fz ?_)))

section
variable {P : Program} {w : World} {K : PySem.W.Frag} {mg : Str → Option Value} {base : Heap} {A0 : Adr}

def wl (m : Nat) : List Nat := if h : m < 26 then [97 + m] else wl (m / 26 - 1) ++ [97 + m % 26]
termination_by m
theorem wl_lt {m : Nat} (h : m < 26) : wl m = [97 + m] := by rw [wl, dif_pos h]
theorem wl_ge {m : Nat} (h : ¬ m < 26) : wl m = wl (m / 26 - 1) ++ [97 + m % 26] := by rw [wl, dif_neg h]
theorem wl_ne (m : Nat) : wl m ≠ [] := by
  by_cases h : m < 26
  · rw [wl_lt h]; exact List.cons_ne_nil _ _
  · rw [wl_ge h]; intro e; exact absurd (congrArg List.length e) (by simp)
theorem snoc_inj {α : Type} {a b : List α} {x y : α} (h : a ++ [x] = b ++ [y]) : a = b ∧ x = y := by
  have := List.append_inj' h rfl
  exact ⟨this.1, by simpa using this.2⟩
theorem wl_inj : ∀ (n m : Nat), wl n = wl m → n = m := by
  intro n
  induction n using Nat.strongRecOn with
  | ind n ih =>
    intro m h
    by_cases hn : n < 26 <;> by_cases hm : m < 26
    · rw [wl_lt hn, wl_lt hm] at h
      have : 97 + n = 97 + m := by simpa using h
      omega
    · rw [wl_lt hn, wl_ge hm] at h
      exact absurd (snoc_inj (a := []) h).1.symm (wl_ne _)
    · rw [wl_ge hn, wl_lt hm] at h
      exact absurd (snoc_inj (b := []) h).1 (wl_ne _)
    · rw [wl_ge hn, wl_ge hm] at h
      obtain ⟨h1, h2⟩ := snoc_inj h
      have := ih (n / 26 - 1) (by omega) _ h1
      omega
theorem wl_ok : ∀ (n : Nat), ∀ c ∈ wl n, c < 123 := by
  intro n
  induction n using Nat.strongRecOn with
  | ind n ih =>
    intro c hc
    by_cases hn : n < 26
    · rw [wl_lt hn] at hc; simp at hc; omega
    · rw [wl_ge hn, List.mem_append] at hc
      rcases hc with hc | hc
      · exact ih _ (by omega) c hc
      · simp at hc; omega
theorem wl_len : ∀ (k n : Nat), n + 1 < 26 ^ k → (wl n).length ≤ k := by
  intro k
  induction k with
  | zero => intro n h; simp at h
  | succ k ih =>
    intro n h
    by_cases hn : n < 26
    · rw [wl_lt hn]; simp
    · rw [wl_ge hn, List.length_append]
      rw [Nat.pow_succ] at h
      have := ih (n / 26 - 1) (by omega)
      simp; omega
def strL (l : List Nat) : Str := ⟨l.toArray⟩
def wordS (m : Nat) : Str := strL (wl m)
theorem strL_app (a b : List Nat) : strL a ++ strL b = strL (a ++ b) := by
  show (⟨a.toArray ++ b.toArray⟩ : Str) = _
  simp [strL]
theorem strL_len (a : List Nat) : (strL a).length = a.length := by simp [strL, Str.length]
theorem strL_inj {a b : List Nat} (h : strL a = strL b) : a = b := by
  have := congrArg Str.cps h
  simpa [strL] using this
theorem strL_self (s : Str) : s = strL s.cps.toList := by cases s; simp [strL]
theorem wordS_inj {a b : Nat} (h : wordS a = wordS b) : a = b := wl_inj _ _ (strL_inj h)
def okS (s : Str) : Prop := s.cps.all (· < 0x110000) = true ∧ s.length ≤ 100
theorem okS_L {l : List Nat} (h : ∀ c ∈ l, c < 123) (hl : l.length ≤ 100) : okS (strL l) := ⟨by
  rw [Array.all_eq_true']
  intro c hc
  have := h c (by simpa [strL] using hc)
  simp; omega, by rw [strL_len]; exact hl⟩
theorem okS_word {m : Nat} (h : m + 1 < 26 ^ 12) : okS (wordS m) := okS_L (wl_ok m) (Nat.le_trans (wl_len 12 m h) (by decide))
def S_word : Sp3 := fun ds M Q _ => ∃ m : Nat, ds = [.int m] ∧ m + 1 < 26 ^ 12 ∧ Q (.str (wordS m)) M
theorem abc_at (r : Nat) : (("abcdefghijklmnopqrstuvwxyz" : Str)).cps.toList[r % 26]? = some (97 + r % 26) := by
  have h : ∀ j : Fin 26, (("abcdefghijklmnopqrstuvwxyz" : Str)).cps.toList[j.1]? = some (97 + j.1) := by decide +kernel
  exact h ⟨r % 26, Nat.mod_lt _ (by decide)⟩
theorem ok_word (T : Tx P K mg A0) : FnOk P w K mg base CX0 1 A0.f_word A0.d_word ["_law_number"] (lift3 S_word) := by
  refine T.F_word.ok sc_word (lift3_len fun ds M Q E ⟨m, h, _⟩ => by rw [h]; rfl) (fun cdv A outer s H vs Q E hr h => ?_)
  have hu := hr.units
  have hu5 := units65 hr
  refine ⟨_, (pss_cons (ps_set (i := 1) sc_word.nd (by rfl) (Or.inl (by rfl)) pe_str)
  (pss_cons (ps_set (i := 2) sc_word.nd (by rfl) (Or.inl (by rfl)) pe_str)
  (pss_cons (ps_for PassesOwn.never (by rfl) (pi_range1 (by rfl) T.n_range (pa_cons pe_int pa_nil)) (pg_name (i := 3) sc_word.nd (by rfl) (Or.inl (by rfl))) (pss_cons (ps_set (i := 2) sc_word.nd (by rfl) (Or.inl (by rfl)) (pe_op op_ADD (pe_ix (ix_seqK K rfl) (pv 1) (pe_op op_modN (pe_callTy call_int1 (by rfl) T.n_int (by decide +kernel) (pa_cons (pv 0) pa_nil)) pe_int) (fun _ _ => by rfl)) (pv 2)))
  (pss_cons (ps_set (i := 0) sc_word.nd (by rfl) (Or.inl (by rfl)) (pe_op op_sub (pe_op op_fdivW (pv 0) pe_int) pe_int))
  (pss_one (ps_if (pt_cmpR op_lt (pv 0) pe_int (nomark _)) (pss_one ps_break) pss_nil)))))
  (pss_one (ps_ret (pv 2)))))), run3 h fun B ds M Q3 E3 hs hE => ?_⟩
  obtain ⟨m, rfl, hm, q⟩ := hs
  change W3s B _ _ [some (.int (m : Int)), none, none, none] M
  try dsimp only [cxOf, Cx.nox, Cx.wish]
  repeat walk_at "t3"
  refine W3s.nx (nx := fun σ' M' => M' = M ∧ ∃ a L b, σ' = [a, some (.str L), some (.str (wordS m)), b]) ?_ ?_
  · refine s_for (i_rng1 ?_)
    repeat walk_at "t3"
    refine ⟨by decide, by decide, fun i σ' M' => M' = M ∧ ∃ (r : Nat) (acc : List Nat) (b : Option D), r + 1 < 26 ^ (12 - i) ∧ wl m = wl r ++ acc ∧ acc.length ≤ i ∧ σ' = [some (.int (r : Int)), some (.str "abcdefghijklmnopqrstuvwxyz"), some (.str (strL acc)), b], fun _ _ _ _ => trivial, ⟨rfl, m, [], none, hm, (List.append_nil _).symm, Nat.le_refl _, rfl⟩, ?_, ?_⟩
    · rintro i d σ' M' hi ⟨rfl, r, acc, b, hr, hw, ha, rfl⟩
      have hi' : i < 12 := by
        have := (List.getElem?_eq_some_iff.mp hi).1
        simpa using this
      repeat walk_at "t3"
      refine r3_mod (by decide) ?_
      refine r3_ix_s (c := 97 + r % 26) (by decide) (at3 (j := r % 26) (by omega) (abc_at r)) ?_
      repeat walk_at "t3"
      refine r3_add_ss (by rw [strL_len]; show 1 + acc.length ≤ 1000000; omega) ?_
      repeat walk_at "t3"
      refine r3_fdiv (by decide) (by decide) ?_
      repeat walk_at "t3"
      have e1 : (⟨#[97 + r % 26]⟩ : Str) ++ strL acc = strL ((97 + r % 26) :: acc) := strL_app [97 + r % 26] acc
      rw [e1]
      have e12 : 12 - i = (12 - (i + 1)) + 1 := by omega
      rw [e12, Nat.pow_succ] at hr
      refine iteB (fun hc => ?_) (fun hc => ?_)
      · repeat walk_at "t3"
        have hc := of_decide_eq_true hc
        have hr : r < 26 := by omega
        rw [wl_lt hr] at hw
        have e2 : strL ((97 + r % 26) :: acc) = wordS m := by rw [wordS, hw, Nat.mod_eq_of_lt hr]; rfl
        rw [e2]
        exact ⟨rfl, _, _, _, rfl⟩
      · repeat walk_at "t3"
        have hc := of_decide_eq_false hc
        have hr6 : ¬ r < 26 := by omega
        refine ⟨rfl, r / 26 - 1, (97 + r % 26) :: acc, some d, by omega, ?_, by show acc.length + 1 ≤ i + 1; omega, ?_⟩
        · rw [hw, wl_ge hr6, List.append_assoc]; rfl
        · have : ((r : Int) / 26 - 1) = ((r / 26 - 1 : Nat) : Int) := by omega
          rw [this]; rfl
    · rintro σ' M' ⟨rfl, r, acc, b, hr, _⟩
      exact absurd hr (by simp)
  · rintro σ' _ ⟨rfl, a, L, b, rfl⟩
    repeat walk_at "t3"
    exact q
def S_name : Sp3 := fun ds M Q _ => ∃ (a : Addr) (k : Nat) (o : DO), ds = [.ref a, .int k] ∧ M a = some o ∧ IsSrc o ∧ k < 100 ∧ ∀ (r : Nat) o', r * 8 + k + 1 < 26 ^ 12 → IsSrc o' → Q (.str (wordS (r * 8 + k))) (mput M a o')
theorem ok_name (T : Tx P K mg A0) : FnOk P w K mg base CX0 2 A0.f_name A0.d_name ["_law_source_here", "_law_k"] (lift3 S_name) := by
  refine T.F_name.ok sc_name (lift3_len fun ds M Q E ⟨a, k, o, h, _⟩ => by rw [h]; rfl) (fun cdv A outer s H vs Q E hr h => ?_)
  have hu := hr.units
  have hu5 := units65 hr
  refine ⟨_, (pss_cons (ps_set (i := 2) sc_name.nd (by rfl) (Or.inl (by rfl)) (pe_ix (ix_seqK K rfl) (pe_lst (pa_cons pe_int (pa_cons pe_int (pa_cons (pe_op op_pow pe_int pe_int) pa_nil)))) (pe_call (ok_draw T) (hr.mono (by decide)) (by rfl) T.g_draw T.k_draw T.b_draw .nil pass0 (pa_cons (pv 0) (pa_cons pe_int pa_nil))) (fun _ _ => by rfl)))
  (pss_one (ps_ret (pe_call (ok_word T) (hr.mono (by decide)) (by rfl) T.g_word T.k_word T.b_word .nil pass0 (pa_cons (pe_op op_ADD (pe_op op_mulW (pe_call (ok_draw T) (hr.mono (by decide)) (by rfl) T.g_draw T.k_draw T.b_draw .nil pass0 (pa_cons (pv 0) (pa_cons (pv 2) pa_nil))) pe_int) (pv 1)) pa_nil))))), run3 h fun B ds M Q3 E3 hs hE => ?_⟩
  obtain ⟨a, k, o, rfl, hm, ho, hk, q⟩ := hs
  change W3s B _ _ [some (.ref a), some (.int (k : Int)), none] M
  try dsimp only [cxOf, Cx.nox, Cx.wish]
  repeat walk_at "t3"
  refine w_lst ?_
  repeat walk_at "t3"
  refine r3_pow ⟨by decide, by decide, by decide⟩ ?_
  repeat walk_at "t3"
  refine ⟨a, 3, o, rfl, hm, ho, by decide, by decide, fun r o' r0 r3 ho' => ?_⟩
  obtain ⟨z, hz, z1, z2⟩ : ∃ z : Int, [D.int 3, .int 1000, .int (10 ^ (15 : Int).toNat)][r.toNat]? = some (.int z) ∧ 0 < z ∧ z ≤ 10 ^ 15 := by
    rcases (show r = 0 ∨ r = 1 ∨ r = 2 by omega) with rfl | rfl | rfl
    · exact ⟨3, rfl, by decide, by decide⟩
    · exact ⟨1000, rfl, by decide, by decide⟩
    · exact ⟨_, rfl, by decide, by decide⟩
  refine r3_ix_l .fz (at3 (by omega) hz) ?_
  repeat walk_at "t3"
  have hm' : mput M a o' a = some o' := mput_same
  refine ⟨a, z, o', rfl, hm', ho', z1, by omega, fun s o2 s0 s1 ho2 => ?_⟩
  rw [mput_mput]
  repeat walk_at "t3"
  refine r3_mul (mulW (by omega) (by decide)) ?_
  repeat walk_at "t3"
  have : s * 8 + (k : Int) = ((s.toNat * 8 + k : Nat) : Int) := by omega
  rw [this]
  exact ⟨_, rfl, by omega, q _ _ (by omega) ho2⟩
end
end LW
set_option Elab.async false
set_option linter.all false
set_option maxRecDepth 100000
set_option maxHeartbeats 4000000
namespace LW
open PySem L2 T3
open Evl (Ex)
local macro_rules | `(tactic| walk_at "t3") => `(tactic| first
  | (with_reducible refine s_seq ?_) | (with_reducible refine s_asg ?_) | (with_reducible refine s_if ?_) | (with_reducible refine s_ret ?_) | (with_reducible refine s_drop ?_) | (with_reducible refine s_asgG ?_) | (with_reducible refine s_retN ?_)
  | (with_reducible refine s_next ?_) | (with_reducible refine s_brk ?_) | (with_reducible refine s_cont ?_) | (with_reducible refine s_par ?_) | (with_reducible refine s_fld ?_)
  | ((with_reducible refine' w_var ?hx ?_); (case hx => exact rfl)) | (with_reducible refine w_cI ?_) | (with_reducible refine w_cB ?_) | (with_reducible refine w_cS ?_) | (with_reducible refine w_cN ?_) | (with_reducible refine w_cT ?_) | (with_reducible refine w_cR ?_)
  | (with_reducible refine w_op ?_) | (with_reducible refine w_un ?_) | (with_reducible refine w_nil ?_) | (with_reducible refine w_tup ?_) | (with_reducible refine w_cons ?_) | (with_reducible refine w_cb ?_) | (with_reducible refine w_bm0 ?_) | (with_reducible refine w_bm ?_)
  | (with_reducible refine w_test ?_) | (with_reducible refine w_B ?_) | (with_reducible refine w_notT ?_) | (with_reducible refine w_yes ?_) | (with_reducible refine w_notV ?_)
  | (with_reducible refine w_ifE ?_) | (with_reducible refine w_isN ?_) | (with_reducible refine w_notN ?_) | (with_reducible refine w_tr ?_) | (with_reducible refine w_chain ?_) | (with_reducible refine w_fld ?_) | (with_reducible refine w_sl ?_) | (with_reducible refine o_no ?_) | (with_reducible refine o_some ?_)
  | (with_reducible refine w_call0 ?_) | (with_reducible refine g_name ?_) | ((with_reducible refine' g_tup ?hx ?hy ?_); (case hx => exact rfl); (case hy => exact rfl)) | (with_reducible refine g_cons ?_) | (with_reducible refine g_nil ?_) | (with_reducible refine g_set ?_)
  | (with_reducible refine r3_add_ii ?_) | (with_reducible refine r3_sub ?_) | (with_reducible refine r3_lt ?_) | (with_reducible refine r3_le ?_) | (with_reducible refine r3_gt ?_) | (with_reducible refine r3_ge ?_) | (with_reducible refine u3_neg ?_)
  | (with_reducible refine c3_int_i ?_) | (with_reducible refine c3_int_b ?_) | (with_reducible refine c3_abs ?_) | (with_reducible refine c3_len_t ?_) | (with_reducible refine c3_len .fz ?_) | (with_reducible refine c3_max2 ?_) | (with_reducible refine c3_min2 ?_)
  | (with_reducible refine r3_eq (n := 9) (m := 9) okD_int okD_int ?_) | (with_reducible refine r3_ne (n := 9) (m := 9) okD_int okD_int ?_)
  | ((with_reducible refine' Exists.intro _ (And.intro ?hx ?_)); (case hx => exact rfl))
  | ((with_reducible refine' And.intro ?hx ?_); (case hx => (show List.length _ ≤ 100000); exact Nat.le_of_ble_eq_true rfl))
  | (with_reducible refine c3_lenL (c3_len_t ?_)) | (with_reducible refine c3_lenL (c3_len .fz ?_)))

section
variable {P : Program} {w : World} {K : PySem.W.Frag} {mg : Str → Option Value} {base : Heap} {A0 : Adr}

theorem nodup_map {α β : Type} {f : α → β} : ∀ {l : List α}, (∀ (i j : Nat) a b, l[i]? = some a → l[j]? = some b → f a = f b → i = j) → (l.map f).Nodup
  | [], _ => List.nodup_nil
  | x :: l, h => by
    rw [List.map_cons, List.nodup_cons]
    refine ⟨fun hm => ?_, nodup_map fun i j a b ha hb e => ?_⟩
    · obtain ⟨y, hy, e⟩ := List.mem_map.mp hm
      obtain ⟨j, hj⟩ := List.getElem?_of_mem hy
      have := h 0 (j + 1) x y rfl hj e.symm
      omega
    · have := h (i + 1) (j + 1) a b ha hb e
      omega
theorem cutS_mem {z : Str} {lo hi : Option Int} {c : Nat} (h : c ∈ (cutS z lo hi).cps.toList) : c ∈ z.cps.toList := by
  have h : c ∈ (z.cps.toList.drop (HT.sIx z.length 0 lo)).take (HT.sIx z.length z.length hi - HT.sIx z.length 0 lo) := by simpa [cutS] using h
  exact List.mem_of_mem_drop (List.mem_of_mem_take h)
theorem cutS_len {z : Str} {lo hi : Option Int} : (cutS z lo hi).length ≤ z.length := by
  show (cutS z lo hi).cps.size ≤ z.cps.size
  simp only [cutS, List.size_toArray, List.length_take, List.length_drop]
  exact Nat.le_trans (Nat.min_le_right _ _) (Nat.le_trans (Nat.sub_le _ _) (by simp))
theorem LET_iff (c : Nat) : c ∈ LET ↔ 97 ≤ c ∧ c < 123 := by
  constructor
  · intro h
    have : ∀ x ∈ LET, 97 ≤ x ∧ x < 123 := by decide +kernel
    exact this c h
  · intro ⟨h1, h2⟩
    have : ∀ j : Fin 26, 97 + j.1 ∈ LET := by decide +kernel
    have := this ⟨c - 97, by omega⟩
    rwa [show 97 + (c - 97) = c by omega] at this
theorem goodS_iff (x : Str) : goodS x = true ↔ 1 ≤ x.length ∧ x.length ≤ 12 ∧ ∀ c ∈ x.cps.toList, 97 ≤ c ∧ c < 123 := by
  unfold goodS
  rw [Bool.and_eq_true, Bool.and_eq_true, decide_eq_true_iff, decide_eq_true_iff, List.all_eq_true]
  constructor
  · rintro ⟨⟨h1, h2⟩, h3⟩
    exact ⟨by omega, by omega, fun c hc => (LET_iff c).mp (of_decide_eq_true (h3 c hc))⟩
  · rintro ⟨h1, h2, h3⟩
    exact ⟨⟨by omega, by omega⟩, fun c hc => decide_eq_true ((LET_iff c).mpr (h3 c hc))⟩
theorem good_okT {x : Str} (h : goodS x = true) : okT x := by
  unfold okT
  rw [Array.all_eq_true']
  intro c hc
  have := ((goodS_iff x).mp h).2.2 c (by simpa using hc)
  simp; omega
theorem good_okS {x : Str} (h : goodS x = true) : okS x := ⟨good_okT h, by have := ((goodS_iff x).mp h).2.1; omega⟩
theorem good_len {x : Str} (h : goodS x = true) : x.length ≤ 1000000 := by have := ((goodS_iff x).mp h).2.1; omega
theorem wl_lo : ∀ (n : Nat), ∀ c ∈ wl n, 97 ≤ c ∧ c < 123 := by
  intro n
  induction n using Nat.strongRecOn with
  | ind n ih =>
    intro c hc
    by_cases hn : n < 26
    · rw [wl_lt hn] at hc; simp at hc; omega
    · rw [wl_ge hn, List.mem_append] at hc
      rcases hc with hc | hc
      · exact ih _ (by omega) c hc
      · simp at hc; omega
theorem strL_list (l : List Nat) : (strL l).cps.toList = l := by simp [strL]
theorem good_word {m : Nat} (h : m + 1 < 26 ^ 12) : goodS (wordS m) = true := by
  refine (goodS_iff _).mpr ⟨?_, ?_, ?_⟩
  · rw [wordS, strL_len]
    cases e : wl m with
    | nil => exact absurd e (wl_ne m)
    | cons => simp
  · rw [wordS, strL_len]; exact wl_len 12 m h
  · rw [wordS, strL_list]; exact wl_lo m
end
end LW
set_option Elab.async false
set_option linter.all false
set_option maxRecDepth 100000
set_option maxHeartbeats 4000000
namespace LW
open PySem L2 T3
open Evl (Ex)
local macro_rules | `(tactic| walk_at "t3") => `(tactic| first
  | (with_reducible refine s_seq ?_) | (with_reducible refine s_asg ?_) | (with_reducible refine s_if ?_) | (with_reducible refine s_ret ?_) | (with_reducible refine s_drop ?_) | (with_reducible refine s_asgG ?_) | (with_reducible refine s_retN ?_)
  | (with_reducible refine s_next ?_) | (with_reducible refine s_brk ?_) | (with_reducible refine s_cont ?_) | (with_reducible refine s_par ?_) | (with_reducible refine s_fld ?_)
  | ((with_reducible refine' w_var ?hx ?_); (case hx => exact rfl)) | (with_reducible refine w_cI ?_) | (with_reducible refine w_cB ?_) | (with_reducible refine w_cS ?_) | (with_reducible refine w_cN ?_) | (with_reducible refine w_cT ?_) | (with_reducible refine w_cR ?_)
  | (with_reducible refine w_op ?_) | (with_reducible refine w_un ?_) | (with_reducible refine w_nil ?_) | (with_reducible refine w_tup ?_) | (with_reducible refine w_cons ?_) | (with_reducible refine w_cb ?_) | (with_reducible refine w_bm0 ?_) | (with_reducible refine w_bm ?_)
  | (with_reducible refine w_test ?_) | (with_reducible refine w_B ?_) | (with_reducible refine w_notT ?_) | (with_reducible refine w_yes ?_) | (with_reducible refine w_notV ?_)
  | (with_reducible refine w_ifE ?_) | (with_reducible refine w_isN ?_) | (with_reducible refine w_notN ?_) | (with_reducible refine w_tr ?_) | (with_reducible refine w_chain ?_) | (with_reducible refine w_fld ?_) | (with_reducible refine w_sl ?_) | (with_reducible refine o_no ?_) | (with_reducible refine o_some ?_)
  | (with_reducible refine w_call0 ?_) | (with_reducible refine g_name ?_) | ((with_reducible refine' g_tup ?hx ?hy ?_); (case hx => exact rfl); (case hy => exact rfl)) | (with_reducible refine g_cons ?_) | (with_reducible refine g_nil ?_) | (with_reducible refine g_set ?_)
  | (with_reducible refine r3_add_ii ?_) | (with_reducible refine r3_sub ?_) | (with_reducible refine r3_lt ?_) | (with_reducible refine r3_le ?_) | (with_reducible refine r3_gt ?_) | (with_reducible refine r3_ge ?_) | (with_reducible refine u3_neg ?_)
  | (with_reducible refine c3_int_i ?_) | (with_reducible refine c3_int_b ?_) | (with_reducible refine c3_abs ?_) | (with_reducible refine c3_len_t ?_) | (with_reducible refine c3_len .fz ?_) | (with_reducible refine c3_max2 ?_) | (with_reducible refine c3_min2 ?_)
  | (with_reducible refine r3_eq (n := 9) (m := 9) okD_int okD_int ?_) | (with_reducible refine r3_ne (n := 9) (m := 9) okD_int okD_int ?_)
  | ((with_reducible refine' Exists.intro _ (And.intro ?hx ?_)); (case hx => exact rfl))
  | ((with_reducible refine' And.intro ?hx ?_); (case hx => (show List.length _ ≤ 100000); exact Nat.le_of_ble_eq_true rfl))
  | (with_reducible refine c3_lenL (c3_len_t ?_)) | (with_reducible refine c3_lenL (c3_len .fz ?_)))

section
variable {P : Program} {w : World} {K : PySem.W.Frag} {mg : Str → Option Value} {base : Heap} {A0 : Adr}

def S_source (K : PySem.W.Frag) : Hp → Sp3 := fun F ds M Q _ => ∃ (a : Addr) (ns : List Int), ds = [.ref a] ∧ SqL K F a (ns.map V.int) ∧ ns.length ≤ 63 ∧ ∀ p o, M p = none → IsSrc o → Q (.ref p) (mput M p o)
theorem source_mono : ∀ F F' ds M Q E, Ex F F' → S_source K F ds M Q E → S_source K F' ds M Q E := fun F F' ds M Q E e ⟨a, ns, h1, h2, h3⟩ => ⟨a, ns, h1, Evl.ex_l e h2, h3⟩
theorem ok_source (T : Tx P K mg A0) : FnOk P w K mg base CX0 1 A0.f_source A0.d_source ["_law_script"] (lift3B (S_source K)) := by
  refine T.F_source.ok sc_source (lift3B_len fun F ds M Q E ⟨a, b, h, _⟩ => by rw [h]; rfl) (fun cdv A outer s H vs Q E hr h => ?_)
  have hu := hr.units
  have hu5 := units65 hr
  refine ⟨_, (pss_one (ps_ret (pe_lst (pa_cons (pe_lc (own := [("_law_cell", 1)]) (g := (gName 1)) (by rfl) sc_source.nd (pi_list (pe_slice (sl_SLTK K rfl) (pv 0) po_none (po_some pe_int))) (blkOk_by (N := ["_law_script", "_law_cell"]) (sc := defScope s_source) (own := [("_law_cell", 1)]) (by decide +kernel)) (fun _ _ _ _ _ => (pg_name (i := 1) sc_source.nd (by rfl) (Or.inl (by rfl)))) (fun _ _ _ _ _ => pts_nil) (fun _ _ _ _ _ => (pe_callTy call_int1 (by rfl) T.n_int (by decide +kernel) (pa_cons (pv 1) pa_nil)))) (pa_cons pe_int (pa_cons pe_int (pa_cons pe_int pa_nil))))))), run3B h fun B ds M Q3 E3 hs hE => ?_⟩
  obtain ⟨a, ns, rfl, hS, hl, q⟩ := hs
  change W3s B _ _ [some (.ref a), none] M
  try dsimp only [cxOf, Cx.nox, Cx.wish]
  repeat walk_at "t3"
  refine w_lstO ?_
  repeat walk_at "t3"
  refine w_lcP (fun _ => true) (fun d => d) own_name (i_list ?_)
  repeat walk_at "t3"
  refine s3_L <| s3_q hS ?_
  repeat walk_at "t3"
  have ec : cutD (ns.map D.int) none (some 63) = ((ns.drop (HT.sIx (ns.map D.int).length 0 none)).take (HT.sIx (ns.map D.int).length (ns.map D.int).length (some 63) - HT.sIx (ns.map D.int).length 0 none)).map D.int := by
    unfold cutD; rw [List.map_take, List.map_drop]
  have lc : ∀ x y : Nat, ((ns.drop x).take y).length ≤ 63 := fun x y => by rw [List.length_take, List.length_drop]; omega
  rw [ec]
  generalize hc : (ns.drop (HT.sIx (ns.map D.int).length 0 none)).take (HT.sIx (ns.map D.int).length (ns.map D.int).length (some 63) - HT.sIx (ns.map D.int).length 0 none) = cells
  have lc : cells.length ≤ 63 := by rw [← hc]; exact lc _ _
  refine ⟨by rw [List.length_map]; omega, trivial, ?_, ?_⟩
  · intro i d M' hi _
    obtain ⟨z, hz, rfl⟩ := map_at hi
    repeat walk_at "t3"
    refine ⟨rfl, ?_⟩
    repeat walk_at "t3"
    refine ⟨rfl, rfl, fun _ => ?_⟩
    repeat walk_at "t3"
    exact ⟨rfl, rfl⟩
  have e : ((cells.map D.int).filter (fun _ => true)).map (fun d => d) = cells.map D.int := by rw [List.filter_eq_self.mpr (fun _ _ => rfl), List.map_id']
  rw [e]
  repeat walk_at "t3"
  exact fun p hp => q p _ hp ⟨cells, 0, 0, 0, rfl, lc, by decide, by decide, by decide, by decide⟩
end
end LW
set_option Elab.async false
set_option linter.all false
set_option maxRecDepth 100000
set_option maxHeartbeats 4000000
namespace LW
open PySem L2 T3
open Evl (Ex)
local macro_rules | `(tactic| walk_at "t3") => `(tactic| first
  | (with_reducible refine s_seq ?_) | (with_reducible refine s_asg ?_) | (with_reducible refine s_if ?_) | (with_reducible refine s_ret ?_) | (with_reducible refine s_drop ?_) | (with_reducible refine s_asgG ?_) | (with_reducible refine s_retN ?_)
  | (with_reducible refine s_next ?_) | (with_reducible refine s_brk ?_) | (with_reducible refine s_cont ?_) | (with_reducible refine s_par ?_) | (with_reducible refine s_fld ?_)
  | ((with_reducible refine' w_var ?hx ?_); (case hx => exact rfl)) | (with_reducible refine w_cI ?_) | (with_reducible refine w_cB ?_) | (with_reducible refine w_cS ?_) | (with_reducible refine w_cN ?_) | (with_reducible refine w_cT ?_) | (with_reducible refine w_cR ?_)
  | (with_reducible refine w_op ?_) | (with_reducible refine w_un ?_) | (with_reducible refine w_nil ?_) | (with_reducible refine w_tup ?_) | (with_reducible refine w_cons ?_) | (with_reducible refine w_cb ?_) | (with_reducible refine w_bm0 ?_) | (with_reducible refine w_bm ?_)
  | (with_reducible refine w_test ?_) | (with_reducible refine w_B ?_) | (with_reducible refine w_notT ?_) | (with_reducible refine w_yes ?_) | (with_reducible refine w_notV ?_)
  | (with_reducible refine w_ifE ?_) | (with_reducible refine w_isN ?_) | (with_reducible refine w_notN ?_) | (with_reducible refine w_tr ?_) | (with_reducible refine w_chain ?_) | (with_reducible refine w_fld ?_) | (with_reducible refine w_sl ?_) | (with_reducible refine o_no ?_) | (with_reducible refine o_some ?_)
  | (with_reducible refine w_call0 ?_) | (with_reducible refine g_name ?_) | ((with_reducible refine' g_tup ?hx ?hy ?_); (case hx => exact rfl); (case hy => exact rfl)) | (with_reducible refine g_cons ?_) | (with_reducible refine g_nil ?_) | (with_reducible refine g_set ?_)
  | (with_reducible refine r3_add_ii ?_) | (with_reducible refine r3_sub ?_) | (with_reducible refine r3_lt ?_) | (with_reducible refine r3_le ?_) | (with_reducible refine r3_gt ?_) | (with_reducible refine r3_ge ?_) | (with_reducible refine u3_neg ?_)
  | (with_reducible refine c3_int_i ?_) | (with_reducible refine c3_int_b ?_) | (with_reducible refine c3_abs ?_) | (with_reducible refine c3_len_t ?_) | (with_reducible refine c3_len .fz ?_) | (with_reducible refine c3_max2 ?_) | (with_reducible refine c3_min2 ?_)
  | (with_reducible refine r3_eq (n := 9) (m := 9) okD_int okD_int ?_) | (with_reducible refine r3_ne (n := 9) (m := 9) okD_int okD_int ?_)
  | ((with_reducible refine' Exists.intro _ (And.intro ?hx ?_)); (case hx => exact rfl))
  | ((with_reducible refine' And.intro ?hx ?_); (case hx => (show List.length _ ≤ 100000); exact Nat.le_of_ble_eq_true rfl))
  | (with_reducible refine c3_lenL (c3_len_t ?_)) | (with_reducible refine c3_lenL (c3_len .fz ?_)))

section
variable {P : Program} {w : World} {K : PySem.W.Frag} {mg : Str → Option Value} {base : Heap} {A0 : Adr}

theorem okT_app {a b : Str} (ha : okT a) (hb : okT b) : okT (a ++ b) := by
  show (a.cps ++ b.cps).all _ = true
  rw [Array.all_append, show a.cps.all _ = true from ha, show b.cps.all _ = true from hb]; rfl
theorem okT_cut {z : Str} {lo hi : Option Int} (h : okT z) : okT (cutS z lo hi) := by
  unfold okT
  rw [Array.all_eq_true']
  intro c hc
  have := Array.all_eq_true'.mp h c (by simpa using cutS_mem (by simpa using hc))
  exact this
theorem len_app (a b : Str) : (a ++ b).length = a.length + b.length := by
  show (a.cps ++ b.cps).size = _
  rw [Array.size_append]; rfl
theorem okT_joinS {s : Str} (hs : okT s) : ∀ {l : List Str}, (∀ x ∈ l, okT x) → okT (PySem.Str.join s l)
  | [], _ => by show (#[] : Array Nat).all _ = true; simp
  | [x], h => h x (List.mem_cons_self ..)
  | x :: y :: r, h => by
    have : okT (x ++ s ++ PySem.Str.join s (y :: r)) := okT_app (okT_app (h x (List.mem_cons_self ..)) hs) (okT_joinS hs fun z hz => h z (List.mem_cons_of_mem _ hz))
    exact this
theorem okT_join {s : Str} (hs : okT s) {l : List Str} (h : ∀ x ∈ l, okT x) : okT (Txt.join s l) := by
  rw [show Txt.join s l = PySem.Str.join s l from PySem.StrLaws.glued_eq_join s l]
  exact okT_joinS hs h
theorem len_join (s : Str) (l : List Str) : (Txt.join s l).length ≤ (l.map (·.length)).sum + l.length * s.length := by
  rw [show Txt.join s l = PySem.Str.join s l from PySem.StrLaws.glued_eq_join s l]
  exact StrLaws.join_length_le s l
theorem ix_any {B : Hp} {M : Mem} {Q : DQ} {s : Str} {i : Int} (hl : s.length ≤ 1000000) (h0 : 0 ≤ i) (h1 : i < s.length) (ok : okT s) (q : ∀ c, c < 0x110000 → Q (.str ⟨#[c]⟩) M) : R3 B (rIx K) (.str s) (.int i) M Q := by
  have e : s.length = s.cps.toList.length := by simp [Str.length]
  have h2 : i.toNat < s.cps.toList.length := by omega
  refine r3_ix_s hl (at3 (j := i.toNat) (by omega) (List.getElem?_eq_getElem h2)) (q _ ?_)
  have := Array.all_eq_true'.mp ok s.cps.toList[i.toNat] (by simpa using List.getElem_mem h2)
  simpa using this
theorem AVal.str {s : Str} (h : okT s) (l : s.length ≤ 1000000) : AVal (.str s) := ⟨okD_S h, .inl ⟨s, rfl, l⟩⟩
theorem AVal.tup1 {s : Str} (h : okT s) : AVal (.tup [.str s]) := ⟨by show (okD 8 (.str s) && true) = true; rw [okD_S h]; rfl, .inr (.inr (.inr (.inr ⟨[.inr s], rfl⟩)))⟩
theorem AVal.int (i : Int) : AVal (.int i) := ⟨okD_int, .inr (.inr (.inl ⟨i, rfl⟩))⟩
theorem AVal.non : AVal .non := ⟨rfl, .inr (.inl rfl)⟩
theorem AVal.bl (b : Bool) : AVal (.bl b) := ⟨rfl, .inr (.inr (.inr (.inl ⟨b, rfl⟩)))⟩
theorem cut_two {z : Str} {p : Nat} : (cutS z none (some (p : Int))).cps.toList = z.cps.toList.take (min p z.length) ∧ (cutS z (some (p : Int)) none).cps.toList = z.cps.toList.drop (min p z.length) := by
  have e : HT.sIx z.length z.length (some (p : Int)) = min p z.length := HT.sIx_nat _ _ p
  have e' : HT.sIx z.length 0 (some (p : Int)) = min p z.length := HT.sIx_nat _ _ p
  have e0 : HT.sIx z.length 0 none = 0 := rfl
  have e1 : HT.sIx z.length z.length none = z.length := rfl
  unfold cutS
  rw [e, e', e0, e1]
  refine ⟨by simp, ?_⟩
  simp only [List.toList_toArray]
  exact List.take_of_length_le (by rw [List.length_drop]; simp [Str.length])
theorem good_ins {z : Str} {p k : Nat} (h : goodS z = true) (hl : z.length ≤ 11) (hk : k < 26) : goodS (cutS z none (some (p : Int)) ++ wordS k ++ cutS z (some (p : Int)) none) = true := by
  obtain ⟨h1, h2, h3⟩ := (goodS_iff z).mp h
  obtain ⟨c1, c2⟩ := cut_two (z := z) (p := p)
  have e : (cutS z none (some (p : Int)) ++ wordS k ++ cutS z (some (p : Int)) none).cps.toList = z.cps.toList.take (min p z.length) ++ [97 + k] ++ z.cps.toList.drop (min p z.length) := by
    rw [← c1, ← c2, ← wl_lt hk, ← strL_list (wl k)]
    show ((cutS z none (some (p : Int))).cps ++ (wordS k).cps ++ (cutS z (some (p : Int)) none).cps).toList = _
    rw [Array.toList_append, Array.toList_append]; rfl
  have hz : z.cps.toList.length = z.length := by simp [Str.length]
  have el : (cutS z none (some (p : Int)) ++ wordS k ++ cutS z (some (p : Int)) none).length = z.length + 1 := by
    show (cutS z none (some (p : Int)) ++ wordS k ++ cutS z (some (p : Int)) none).cps.size = _
    rw [← Array.length_toList, e]
    simp only [List.length_append, List.length_take, List.length_drop, List.length_cons, List.length_nil, hz]
    omega
  refine (goodS_iff _).mpr ⟨by rw [el]; omega, by rw [el]; omega, fun c hc => ?_⟩
  rw [e] at hc
  rcases List.mem_append.mp hc with hc | hc
  · rcases List.mem_append.mp hc with hc | hc
    · exact h3 c (List.mem_of_mem_take hc)
    · have : c = 97 + k := by simpa using hc
      omega
  · exact h3 c (List.mem_of_mem_drop hc)
def Names (many : Nat) (ns : List Str) : Prop := ns.length = many ∧ ns.Nodup ∧ ∀ s ∈ ns, goodS s = true
def S_names : Sp3 := fun ds M Q _ => ∃ (a : Addr) (many : Nat) (o : DO), ds = [.ref a, .int many] ∧ M a = some o ∧ IsSrc o ∧ many ≤ 8 ∧ ∀ (ns : List Str) o' p, Names many ns → IsSrc o' → M p = none → Q (.ref p) (mput (mput M a o') p (.lst (ns.map .str)))
theorem ok_names (T : Tx P K mg A0) : FnOk P w K mg base CX0 3 A0.f_names A0.d_names ["_law_source_here", "_law_many"] (lift3 S_names) := by
  refine T.F_names.ok sc_names (lift3_len fun ds M Q E ⟨a, k, o, h, _⟩ => by rw [h]; rfl) (fun cdv A outer s H vs Q E hr h => ?_)
  have hu := hr.units
  have hu5 := units65 hr
  refine ⟨_, (pss_cons (ps_if (pt_cmpR (op_eqDK K rfl hu) (pe_call (ok_draw T) (hr.mono (by decide)) (by rfl) T.g_draw T.k_draw T.b_draw .nil pass0 (pa_cons (pv 0) (pa_cons pe_int pa_nil))) pe_int (nomark _)) (pss_one (ps_ret (pe_lc (own := [("_law_k", 5)]) (g := (gName 5)) (by rfl) sc_names.nd (pi_range1 (by rfl) T.n_range (pa_cons (pv 1) pa_nil)) (blkOk_by (N := ["_law_source_here", "_law_many", "_law_word_here", "_law_place", "_law_turn", "_law_k"]) (sc := defScope s_names) (own := [("_law_k", 5)]) (by decide +kernel)) (fun _ _ _ _ _ => (pg_name (i := 5) sc_names.nd (by rfl) (Or.inl (by rfl)))) (fun _ _ _ _ _ => pts_nil) (fun _ _ _ _ _ => (pe_call (ok_name T) (hr.mono (by decide)) (by rfl) T.g_name T.k_name T.b_name .nil pass0 (pa_cons (pv 0) (pa_cons (pv 5) pa_nil))))))) pss_nil)
  (pss_cons (ps_set (i := 2) sc_names.nd (by rfl) (Or.inr (by rfl)) (pe_call (ok_word T) (hr.mono (by decide)) (by rfl) T.g_word T.k_word T.b_word .nil pass0 (pa_cons (pe_call (ok_draw T) (hr.mono (by decide)) (by rfl) T.g_draw T.k_draw T.b_draw .nil pass0 (pa_cons (pv 0) (pa_cons (pe_ix (ix_seqK K rfl) (pe_lst (pa_cons pe_int (pa_cons (pe_op op_pow pe_int pe_int) pa_nil))) (pe_call (ok_draw T) (hr.mono (by decide)) (by rfl) T.g_draw T.k_draw T.b_draw .nil pass0 (pa_cons (pv 0) (pa_cons pe_int pa_nil))) (fun _ _ => by rfl)) pa_nil))) pa_nil)))
  (pss_cons (ps_set (i := 3) sc_names.nd (by rfl) (Or.inr (by rfl)) (pe_call (ok_draw T) (hr.mono (by decide)) (by rfl) T.g_draw T.k_draw T.b_draw .nil pass0 (pa_cons (pv 0) (pa_cons (pe_op op_ADD (pe_callB (call_lenDK K rfl) (by rfl) T.n_len PySem.boot_len (pa_cons (pv 2) pa_nil)) pe_int) pa_nil))))
  (pss_cons (ps_set (i := 4) sc_names.nd (by rfl) (Or.inr (by rfl)) (pe_call (ok_draw T) (hr.mono (by decide)) (by rfl) T.g_draw T.k_draw T.b_draw .nil pass0 (pa_cons (pv 0) (pa_cons pe_int pa_nil))))
  (pss_one (ps_ret (pe_lc (own := [("_law_k", 5)]) (g := (gName 5)) (by rfl) sc_names.nd (pi_range1 (by rfl) T.n_range (pa_cons (pv 1) pa_nil)) (blkOk_by (N := ["_law_source_here", "_law_many", "_law_word_here", "_law_place", "_law_turn", "_law_k"]) (sc := defScope s_names) (own := [("_law_k", 5)]) (by decide +kernel)) (fun _ _ _ _ _ => (pg_name (i := 5) sc_names.nd (by rfl) (Or.inl (by rfl)))) (fun _ _ _ _ _ => pts_nil) (fun _ _ _ _ _ => (pe_op op_ADD (pe_op op_ADD (pe_slice (sl_SLTK K rfl) (pv 2) po_none (po_some (pv 3))) (pe_call (ok_word T) (hr.mono (by decide)) (by rfl) T.g_word T.k_word T.b_word .nil pass0 (pa_cons (pe_op op_modN (pe_callTy call_int1 (by rfl) T.n_int (by decide +kernel) (pa_cons (pe_op op_ADD (pv 5) (pv 4)) pa_nil)) pe_int) pa_nil))) (pe_slice (sl_SLTK K rfl) (pv 2) (po_some (pv 3)) po_none)))))))))), run3 h fun B ds M Q3 E3 hs hE => ?_⟩
  obtain ⟨a, many, o, rfl, hm, ho, hk, q⟩ := hs
  change W3s B _ _ [some (.ref a), some (.int (many : Int)), none, none, none, none] M
  try dsimp only [cxOf, Cx.nox, Cx.wish]
  repeat walk_at "t3"
  refine ⟨a, 2, o, rfl, hm, ho, by decide, by decide, fun r o1 r0 r1 ho1 => ?_⟩
  have hm1 : mput M a o1 a = some o1 := mput_same
  repeat walk_at "t3"
  refine iteB (fun _ => ?_) (fun _ => ?_)
  · repeat walk_at "t3"
    refine w_lcO own_name (i_rng1 ?_)
    repeat walk_at "t3"
    refine ⟨by omega, by omega, fun i acc M' => ∃ (o' : DO) (ns : List Nat), M' = mput M a o' ∧ IsSrc o' ∧ ns.length = i ∧ acc = ns.map (fun n => D.str (wordS n)) ∧ ∀ (j n : Nat), ns[j]? = some n → n % 8 = j ∧ n + 1 < 26 ^ 12, ?_, ?_, ?_, ?_, ?_⟩
    · rintro i acc M' ⟨o', ns, rfl, ho', hl, rfl, hn⟩
      exact ⟨trivial, by rw [List.length_map, hl]; exact Nat.le_refl _⟩
    · rw [List.length_map, List.length_range]; omega
    · exact ⟨o1, [], rfl, ho1, rfl, rfl, fun j n h => by simp at h⟩
    · rintro i d acc M' L hi ⟨o', ns, rfl, ho', hl, rfl, hn⟩ hL
      have hi' : i < many := by
        have := (List.getElem?_eq_some_iff.mp hi).1
        simpa using this
      have hd : d = .int (i : Int) := by
        rw [List.getElem?_map, List.getElem?_range (by simpa using hi')] at hi
        exact (Option.some.inj hi).symm
      subst hd
      have hLa : a ≠ L := fun e => by subst e; rw [mput_same] at hL; cases hL
      repeat walk_at "t3"
      show if true = true then _ else _
      rw [if_pos rfl]
      repeat walk_at "t3"
      refine ⟨a, i, o', rfl, by rw [mput_ne hLa]; exact mput_same, ho', by omega, fun r o2 hr2 ho2 => ?_⟩
      refine ⟨mput M a o2, ?_, ?_, o2, ns ++ [r * 8 + i], rfl, ho2, by simp [hl], by simp, ?_⟩
      · rw [← mput_comm hLa, mput_mput]
      · rw [mput_ne (Ne.symm hLa)] at hL ⊢; exact hL
      · intro j n h
        rcases Nat.lt_or_ge j ns.length with hj | hj
        · rw [List.getElem?_append_left hj] at h; exact hn j n h
        · rw [List.getElem?_append_right hj] at h
          have : j - ns.length = 0 := by
            have := (List.getElem?_eq_some_iff.mp h).1
            simp at this; omega
          rw [this] at h
          have h : r * 8 + i = n := Option.some.inj h
          subst h
          exact ⟨by omega, hr2⟩
    · rintro acc M' L hL ⟨o', ns, rfl, ho', hl, rfl, hn⟩
      have hl : ns.length = many := by simpa using hl
      have hL0 : M L = none := by
        by_cases e : L = a
        · subst e; rw [mput_same] at hL; cases hL
        · rwa [mput_ne e] at hL
      have := q (ns.map wordS) o' L ⟨by rw [List.length_map, hl], nodup_map fun i j a b ha hb e => ?_, fun s hs => ?_⟩ ho' hL0
      · rw [List.map_map] at this; exact this
      · have e := wordS_inj e
        rw [← (hn i a ha).1, ← (hn j b hb).1, e]
      · obtain ⟨n, hn', rfl⟩ := List.mem_map.mp hs
        obtain ⟨j, hj⟩ := List.getElem?_of_mem hn'
        exact good_word (hn j n hj).2
  · repeat walk_at "t3"
    refine w_lst ?_
    repeat walk_at "t3"
    refine r3_pow ⟨by decide, by decide, by decide⟩ ?_
    repeat walk_at "t3"
    refine ⟨a, 2, o1, rfl, hm1, ho1, by decide, by decide, fun r o2 r0 r1 ho2 => ?_⟩
    rw [mput_mput]
    have hm2 : mput M a o2 a = some o2 := mput_same
    obtain ⟨z, hz, z1, z2⟩ : ∃ z : Int, [D.int 3, .int (10 ^ (13 : Int).toNat)][r.toNat]? = some (.int z) ∧ 0 < z ∧ z ≤ 10 ^ 13 := by
      rcases (show r = 0 ∨ r = 1 by omega) with rfl | rfl
      · exact ⟨3, rfl, by decide, by decide⟩
      · exact ⟨_, rfl, by decide, by decide⟩
    refine r3_ix_l .fz (at3 (by omega) hz) ?_
    repeat walk_at "t3"
    refine ⟨a, z, o2, rfl, hm2, ho2, z1, by omega, fun s o3 s0 s1 ho3 => ?_⟩
    rw [mput_mput]
    have hm3 : mput M a o3 a = some o3 := mput_same
    repeat walk_at "t3"
    refine ⟨s.toNat, by rw [Int.toNat_of_nonneg s0], by omega, ?_⟩
    have okw : okS (wordS s.toNat) := okS_word (by omega)
    have lw' : (wordS s.toNat).length ≤ 10 := by rw [wordS, strL_len]; exact wl_len 10 _ (by omega)
    have lw : (wordS s.toNat).length ≤ 12 := by omega
    have gw : goodS (wordS s.toNat) = true := good_word (by omega)
    generalize wordS s.toNat = W at okw lw lw' gw ⊢
    repeat walk_at "t3"
    refine c3_lenL <| c3_len_s (by omega) ?_
    repeat walk_at "t3"
    refine ⟨a, _, o3, rfl, hm3, ho3, by omega, by omega, fun pl o4 p0 p1 ho4 => ?_⟩
    rw [mput_mput]
    have hm4 : mput M a o4 a = some o4 := mput_same
    repeat walk_at "t3"
    refine ⟨a, 8, o4, rfl, hm4, ho4, by decide, by decide, fun tu o5 t0 t1 ho5 => ?_⟩
    rw [mput_mput]
    repeat walk_at "t3"
    have okc : ∀ lo hi, okS (cutS W lo hi) := fun lo hi => ⟨by
      rw [Array.all_eq_true']
      intro c hc
      have := Array.all_eq_true'.mp okw.1 c (by simpa using cutS_mem (by simpa using hc))
      exact this, Nat.le_trans cutS_len okw.2⟩
    have lc : ∀ lo hi, (cutS W lo hi).length ≤ 12 := fun lo hi => Nat.le_trans cutS_len lw
    refine w_lcPO (fun _ => true) (fun d => match d with | .int k => .str (cutS W none (some pl) ++ wordS (((k + tu) % 8).toNat) ++ cutS W (some pl) none) | d => d) own_name (i_rng1 ?_)
    repeat walk_at "t3"
    refine ⟨by omega, by omega, by rw [List.length_map, List.length_range]; omega, trivial, ?_, ?_⟩
    · intro i d M' hi _
      have hd : d = .int (i : Int) := by
        rw [List.getElem?_map] at hi
        cases h : (List.range (many : Int).toNat)[i]? with
        | none => rw [h] at hi; cases hi
        | some z =>
          rw [h] at hi
          have hz : z = i := by
            have := (List.getElem?_eq_some_iff.mp h); obtain ⟨_, h2⟩ := this; simpa using h2.symm
          subst hz
          exact (Option.some.inj hi).symm
      subst hd
      repeat walk_at "t3"
      refine ⟨rfl, ?_⟩
      repeat walk_at "t3"
      refine ⟨rfl, rfl, fun _ => ?_⟩
      repeat walk_at "t3"
      refine s3_L <| s3_s (by omega) ?_
      repeat walk_at "t3"
      refine r3_mod (by decide) ?_
      repeat walk_at "t3"
      refine ⟨((i + tu) % 8).toNat, by rw [Int.toNat_of_nonneg (by omega)], by omega, ?_⟩
      have l1 := lc none (some pl)
      have l2 : (wordS ((i + tu) % 8).toNat).length ≤ 12 := by rw [wordS, strL_len]; exact wl_len 12 _ (by omega)
      refine r3_add_ss (by omega) ?_
      repeat walk_at "t3"
      refine s3_L <| s3_s (by omega) ?_
      have l3 := lc (some pl) none
      refine r3_add_ss ?_ ⟨rfl, rfl⟩
      show ((cutS W none (some pl)).cps ++ (wordS ((i + tu) % 8).toNat).cps).size + _ ≤ _
      rw [Array.size_append]
      show (cutS W none (some pl)).length + (wordS ((i + tu) % 8).toNat).length + (cutS W (some pl) none).length ≤ _
      omega
    · have e : ((List.range (many : Int).toNat).map (fun (i : Nat) => D.int (i : Int))).filter (fun _ => true) = (List.range (many : Int).toNat).map (fun (i : Nat) => D.int (i : Int)) := List.filter_eq_self.mpr fun _ _ => rfl
      rw [e, List.map_map]
      intro L hL
      have hL0 : M L = none := by
        by_cases e : L = a
        · subst e; rw [mput_same] at hL; cases hL
        · rwa [mput_ne e] at hL
      have := q ((List.range many).map fun (i : Nat) => cutS W none (some pl) ++ wordS ((((i : Int) + tu) % 8).toNat) ++ cutS W (some pl) none) o5 L ⟨by simp, nodup_map fun i j a b ha hb e => ?_, fun s hs => ?_⟩ ho5 hL0
      · rw [List.map_map] at this
        exact this
      · have fact : ∀ {i a : Nat}, (List.range many)[i]? = some a → a = i ∧ i < many := fun {i a} h => by
          obtain ⟨h1, h2⟩ := List.getElem?_eq_some_iff.mp h
          exact ⟨by simpa using h2.symm, by simpa using h1⟩
        obtain ⟨rfl, i1⟩ := fact ha
        obtain ⟨rfl, j1⟩ := fact hb
        have e1 : ∀ z : Int, wordS (z % 8).toNat = strL [97 + (z % 8).toNat] := fun z => by rw [wordS, wl_lt (by omega)]
        simp only [e1] at e
        rw [strL_self (cutS W none (some pl)), strL_self (cutS W (some pl) none), strL_app, strL_app, strL_app, strL_app] at e
        have e := strL_inj e
        have e := List.append_cancel_left (List.append_cancel_right e)
        have e : 97 + ((((a : Nat) : Int) + tu) % 8).toNat = 97 + ((((b : Nat) : Int) + tu) % 8).toNat := by simpa using e
        omega
      · obtain ⟨k, hk', rfl⟩ := List.mem_map.mp hs
        rw [show pl = ((pl.toNat : Nat) : Int) by omega]
        exact good_ins gw (by omega) (by omega)
end
end LW
set_option Elab.async false
set_option linter.all false
set_option maxRecDepth 100000
set_option maxHeartbeats 4000000
namespace LW
open PySem L2 T3
open Evl (Ex)
local macro_rules | `(tactic| walk_at "t3") => `(tactic| first
  | (with_reducible refine s_seq ?_) | (with_reducible refine s_asg ?_) | (with_reducible refine s_if ?_) | (with_reducible refine s_ret ?_) | (with_reducible refine s_drop ?_) | (with_reducible refine s_asgG ?_) | (with_reducible refine s_retN ?_)
  | (with_reducible refine s_next ?_) | (with_reducible refine s_brk ?_) | (with_reducible refine s_cont ?_) | (with_reducible refine s_par ?_) | (with_reducible refine s_fld ?_)
  | ((with_reducible refine' w_var ?hx ?_); (case hx => exact rfl)) | (with_reducible refine w_cI ?_) | (with_reducible refine w_cB ?_) | (with_reducible refine w_cS ?_) | (with_reducible refine w_cN ?_) | (with_reducible refine w_cT ?_) | (with_reducible refine w_cR ?_)
  | (with_reducible refine w_op ?_) | (with_reducible refine w_un ?_) | (with_reducible refine w_nil ?_) | (with_reducible refine w_tup ?_) | (with_reducible refine w_cons ?_) | (with_reducible refine w_cb ?_) | (with_reducible refine w_bm0 ?_) | (with_reducible refine w_bm ?_)
  | (with_reducible refine w_test ?_) | (with_reducible refine w_B ?_) | (with_reducible refine w_notT ?_) | (with_reducible refine w_yes ?_) | (with_reducible refine w_notV ?_)
  | (with_reducible refine w_ifE ?_) | (with_reducible refine w_isN ?_) | (with_reducible refine w_notN ?_) | (with_reducible refine w_tr ?_) | (with_reducible refine w_chain ?_) | (with_reducible refine w_fld ?_) | (with_reducible refine w_sl ?_) | (with_reducible refine o_no ?_) | (with_reducible refine o_some ?_)
  | (with_reducible refine w_call0 ?_) | (with_reducible refine g_name ?_) | ((with_reducible refine' g_tup ?hx ?hy ?_); (case hx => exact rfl); (case hy => exact rfl)) | (with_reducible refine g_cons ?_) | (with_reducible refine g_nil ?_) | (with_reducible refine g_set ?_)
  | (with_reducible refine r3_add_ii ?_) | (with_reducible refine r3_sub ?_) | (with_reducible refine r3_lt ?_) | (with_reducible refine r3_le ?_) | (with_reducible refine r3_gt ?_) | (with_reducible refine r3_ge ?_) | (with_reducible refine u3_neg ?_)
  | (with_reducible refine c3_int_i ?_) | (with_reducible refine c3_int_b ?_) | (with_reducible refine c3_abs ?_) | (with_reducible refine c3_len_t ?_) | (with_reducible refine c3_len .fz ?_) | (with_reducible refine c3_max2 ?_) | (with_reducible refine c3_min2 ?_)
  | (with_reducible refine r3_eq (n := 9) (m := 9) okD_int okD_int ?_) | (with_reducible refine r3_ne (n := 9) (m := 9) okD_int okD_int ?_)
  | ((with_reducible refine' Exists.intro _ (And.intro ?hx ?_)); (case hx => exact rfl))
  | ((with_reducible refine' And.intro ?hx ?_); (case hx => (show List.length _ ≤ 100000); exact Nat.le_of_ble_eq_true rfl))
  | (with_reducible refine c3_lenL (c3_len_t ?_)) | (with_reducible refine c3_lenL (c3_len .fz ?_)))

section
variable {P : Program} {w : World} {K : PySem.W.Frag} {mg : Str → Option Value} {base : Heap} {A0 : Adr}

def prevF (dips : List (Str × Str)) (c : Str) : Nat → Option Nat
  | 0 => none
  | k + 1 => if dips[k]?.map (·.1) = some c then some k else prevF dips c k
theorem prevF_lt {dips : List (Str × Str)} {c : Str} : ∀ {n e : Nat}, prevF dips c n = some e → e < n
  | 0, e, h => by cases h
  | n + 1, e, h => by
    unfold prevF at h
    split at h
    · cases h; omega
    · have := prevF_lt h; omega
def optD : Option Nat → D
  | some e => .int e
  | none => .non
structure WF (m : BM) : Prop where
  dips : ∀ w ∈ m.dips, okT w.1 ∧ okT w.2 ∧ (m.cloths.lookup w.1).isSome = true
  cloths : ∀ c k, m.cloths.lookup c = some k → (m.kinds.lookup k).isSome = true
  kinds : ∀ k h, m.kinds.lookup k = some h → okT h
  few : m.dips.length ≤ 100
  dv : ∀ w ∈ m.dips, AVal (.str w.1)
  kv : ∀ c k, m.cloths.lookup c = some k → AVal (.str k)
def holdN (m : BM) (c : Str) : Str := ((m.cloths.lookup c).bind fun k => m.kinds.lookup k).getD "unsure"
def leavesX (m : BM) (n : Nat) (x : Str × Str) : Bool := match prevF m.dips x.1 n with
  | none => false
  | some e => match m.dips[e]? with
    | none => false
    | some y => if y.2 = x.2 then false else !(decide (holdN m x.1 = "fast"))
theorem WF.hold {m : BM} (wf : WF m) {c : Str} (h : (m.cloths.lookup c).isSome = true) : ∃ k, m.cloths.lookup c = some k ∧ m.kinds.lookup k = some (holdN m c) ∧ okT (holdN m c) := by
  obtain ⟨k, hk⟩ := Option.isSome_iff_exists.mp h
  obtain ⟨y, hy⟩ := Option.isSome_iff_exists.mp (wf.cloths c k hk)
  have e : holdN m c = y := by unfold holdN; rw [hk]; show (m.kinds.lookup k).getD _ = _; rw [hy]; rfl
  rw [e]
  exact ⟨k, hk, hy, wf.kinds k y hy⟩
/-! ### a fresh object beside the book -/
structure Off (A : BA) (z : Addr) : Prop where
  b : z ≠ A.b
  h : z ≠ A.h
  t : z ≠ A.t
  p : z ≠ A.p
  c : z ≠ A.c
  d : z ≠ A.d
  f : z ≠ A.f
theorem off_of {C : Addr} {M : Mem} {A : BA} {m : BM} {p : Addr} (o : BOk A) (h : bookM C M A m p = none) : Off A p ∧ M p = none := by
  have f : Off A p := ⟨fun e => (by subst e; rw [bk_b] at h; cases h), fun e => (by subst e; rw [bk_h o] at h; cases h), fun e => (by subst e; rw [bk_t o] at h; cases h), fun e => (by subst e; rw [bk_p o] at h; cases h),
    fun e => (by subst e; rw [bk_c o] at h; cases h), fun e => (by subst e; rw [bk_d o] at h; cases h), fun e => (by subst e; rw [bk_f o] at h; cases h)⟩
  refine ⟨f, ?_⟩
  simpa [bookM, f.b, f.h, f.t, f.p, f.c, f.d, f.f] using h
theorem bk_off {C : Addr} {M : Mem} {A : BA} {m : BM} {p : Addr} (f : Off A p) : bookM C M A m p = M p := by simp [bookM, f.b, f.h, f.t, f.p, f.c, f.d, f.f]
theorem bk_mput {C : Addr} {M : Mem} {A : BA} {m : BM} {p : Addr} {x : DO} (f : Off A p) : mput (bookM C M A m) p x = bookM C (mput M p x) A m := by
  funext a
  unfold mput bookM
  by_cases e : a = p
  · subst e; simp [f.b, f.h, f.t, f.p, f.c, f.d, f.f]
  · simp only [e, if_false]
theorem bk_mdel {C : Addr} {M : Mem} {A : BA} {m : BM} {p : Addr} {x : DO} (f : Off A p) (h : M p = none) : mdel (bookM C (mput M p x) A m) p = bookM C M A m := by
  rw [← bk_mput f]
  exact mdel_mput (by rw [bk_off f]; exact h)
/-! ### amounts -/
def aD (x : Bool × Nat) : D := .tup [.str (if x.1 then "leave" else "take"), .int x.2]
def leavesN (m : BM) (n : Nat) : Bool := match m.dips[n]? with
  | some x => leavesX m n x
  | none => false
def amts (m : BM) : Nat → List (Bool × Nat)
  | 0 => []
  | n + 1 => amts m n ++ ((false, n) :: if leavesN m n then [(true, n)] else [])
theorem amts_len (m : BM) : ∀ n, (amts m n).length ≤ 2 * n
  | 0 => Nat.le_refl _
  | n + 1 => by
    have := amts_len m n
    rw [amts, List.length_append]
    split <;> simp <;> omega
def amounts (m : BM) : List (Bool × Nat) := amts m m.dips.length
def WORDS2 : List Str := ["take", "leave"]
theorem wordS_ok (b : Bool) : okT (if b then "leave" else "take") ∧ (if b then ("leave" : Str) else "take") ∈ WORDS2 := by
  cases b
  · exact ⟨by unfold okT; decide +kernel, by decide +kernel⟩
  · exact ⟨by unfold okT; decide +kernel, by decide +kernel⟩
theorem pq_aD (a b : Bool × Nat) : peq (aD a) (aD b) = decide (a = b) := by
  obtain ⟨a1, a2⟩ := a; obtain ⟨b1, b2⟩ := b
  show (peq (.str _) (.str _) && (peq (.int a2) (.int b2) && true)) = _
  rw [pq_str, peq_int, Bool.and_true]
  have e : ((a2 : Int) == (b2 : Int)) = decide (a2 = b2) := by
    rw [show ((a2 : Int) == (b2 : Int)) = decide ((a2 : Int) = b2) from rfl]
    by_cases h : a2 = b2
    · simp [h]
    · rw [decide_eq_false h, decide_eq_false (by omega)]
  rw [e]
  have e2 : decide ((if a1 = true then ("leave" : Str) else ("take" : Str)) = (if b1 = true then ("leave" : Str) else ("take" : Str))) = decide (a1 = b1) := by
    cases a1 <;> cases b1 <;> decide +kernel
  show (decide ((if a1 = true then ("leave" : Str) else ("take" : Str)) = (if b1 = true then ("leave" : Str) else ("take" : Str))) && decide (a2 = b2)) = _
  rw [e2]
  by_cases h1 : a1 = b1 <;> by_cases h2 : a2 = b2 <;> simp [h1, h2]
theorem okD_a (x : Bool × Nat) : okD 1 (aD x) = true := by
  show (okD 0 (.str _) && (okD 0 (.int _) && true)) = true
  rw [okD_S (wordS_ok x.1).1]; rfl
theorem okDs_a (l : List (Bool × Nat)) : okDs 1 (l.map aD) = true := okDs_iff.mpr fun d hd => by
  obtain ⟨s, hs, rfl⟩ := List.mem_map.mp hd
  exact okD_a s
theorem any_a (l : List (Bool × Nat)) (x : Bool × Nat) : ((l.map aD).any fun z => peq z (aD x)) = decide (x ∈ l) := by
  rw [List.any_map]
  induction l with
  | nil => rfl
  | cons y l ih =>
    rw [List.any_cons, ih]
    show (peq (aD y) (aD x) || _) = _
    rw [pq_aD, ← Bool.decide_or]
    by_cases h : x = y <;> simp [h, eq_comm]
def factD (f : Str × List (Bool × Nat)) : D := .tup (.str f.1 :: f.2.map aD)
/-! ### thirstier: a chain of thirsts -/
inductive Reach (th : List (Str × Str)) (a : Str) : Str → Prop
  | refl : Reach th a a
  | step {b c : Str} : Reach th a b → (b, c) ∈ th → Reach th a c
theorem nodup_le : ∀ {l m : List Str}, l.Nodup → (∀ x ∈ l, x ∈ m) → l.length ≤ m.length
  | [], _, _, _ => Nat.zero_le _
  | x :: l, m, h, s => by
    obtain ⟨h1, h2⟩ := List.nodup_cons.mp h
    have hx : x ∈ m := s x (List.mem_cons_self ..)
    have := nodup_le (l := l) (m := m.erase x) h2 fun y hy => (List.mem_erase_of_ne (fun (e : y = x) => h1 (by rw [← e]; exact hy))).mpr (s y (List.mem_cons_of_mem _ hy))
    rw [List.length_erase_of_mem hx] at this
    have : 0 < m.length := List.length_pos_of_mem hx
    show l.length + 1 ≤ m.length
    omega
/-- what stands in a list of the reached, the first i of which are looked through -/
structure Rch (th : List (Str × Str)) (a : Str) (l : List Str) (i : Nat) : Prop where
  nd : l.Nodup
  top : a ∈ l
  sub : ∀ x ∈ l, Reach th a x
  own : ∀ x ∈ l, x = a ∨ ∃ y, (y, x) ∈ th
  done : ∀ (j : Nat) x c, j < i → l[j]? = some x → (x, c) ∈ th → c ∈ l
theorem Rch.start (th : List (Str × Str)) (a : Str) : Rch th a [a] 0 where
  nd := by simp
  top := List.mem_cons_self ..
  sub := fun z hz => by
    have : z = a := by simpa using hz
    subst this
    exact .refl
  own := fun z hz => .inl (by simpa using hz)
  done := fun j _ _ hj => absurd hj (Nat.not_lt_zero _)
theorem Rch.len {th : List (Str × Str)} {a : Str} {l : List Str} {i : Nat} (r : Rch th a l i) : l.length ≤ th.length + 1 := by
  have := nodup_le (m := a :: th.map (·.2)) r.nd fun x hx => by
    rcases r.own x hx with rfl | ⟨y, hy⟩
    · exact List.mem_cons_self ..
    · exact List.mem_cons_of_mem _ (List.mem_map.mpr ⟨_, hy, rfl⟩)
  simpa using this
theorem Rch.all {th : List (Str × Str)} {a : Str} {l : List Str} {i : Nat} (r : Rch th a l i) (h : l.length ≤ i) (z : Str) : z ∈ l ↔ Reach th a z := by
  refine ⟨r.sub z, fun h2 => ?_⟩
  induction h2 with
  | refl => exact r.top
  | step _ hc ih =>
    obtain ⟨j, hj⟩ := List.getElem?_of_mem ih
    exact r.done j _ _ (Nat.lt_of_lt_of_le (List.getElem?_eq_some_iff.mp hj).1 h) hj hc
/-! ### facts -/
abbrev Am := Bool × Nat
inductive Fct | tell (x y : Am) | one (x : Am)
def fctD : Fct → D
  | .tell x y => .tup [.str "tell", aD x, aD y]
  | .one x => .tup [.str "some", aD x]
def tells (fs : List Fct) : List (Am × Am) := fs.filterMap fun f => match f with | .tell x y => some (x, y) | _ => none
def ones (fs : List Fct) : List Am := fs.filterMap fun f => match f with | .one x => some x | _ => none
def pD (x : Am × Am) : D := .tup [aD x.1, aD x.2]
def isTag (t : Str) (d : D) : Bool := match d with | .tup (.str s :: _) => decide (s = t) | _ => false
def tailD (d : D) : D := match d with | .tup (_ :: r) => .tup r | d => d
def sndD (d : D) : D := match d with | .tup (_ :: x :: _) => x | d => d
theorem tells_eq (fs : List Fct) : ((fs.map fctD).filter (isTag "tell")).map tailD = (tells fs).map pD := by
  induction fs with
  | nil => rfl
  | cons f fs ih =>
    cases f with
    | tell x y =>
      rw [List.map_cons, List.filter_cons_of_pos (show isTag "tell" (fctD (.tell x y)) = true from rfl), List.map_cons, ih]; rfl
    | one x =>
      rw [List.map_cons, List.filter_cons_of_neg (show ¬ isTag "tell" (fctD (.one x)) = true from (show ¬ decide (("some" : Str) = "tell") = true by decide +kernel)), ih]; rfl
theorem ones_eq (fs : List Fct) : ((fs.map fctD).filter (isTag "some")).map sndD = (ones fs).map aD := by
  induction fs with
  | nil => rfl
  | cons f fs ih =>
    cases f with
    | tell x y =>
      rw [List.map_cons, List.filter_cons_of_neg (show ¬ isTag "some" (fctD (.tell x y)) = true from (show ¬ decide (("tell" : Str) = "some") = true by decide +kernel)), ih]; rfl
    | one x =>
      rw [List.map_cons, List.filter_cons_of_pos (show isTag "some" (fctD (.one x)) = true from rfl), List.map_cons, ih]; rfl
theorem tells_len (fs : List Fct) : (tells fs).length ≤ fs.length := List.length_filterMap_le _ _
theorem ones_len (fs : List Fct) : (ones fs).length ≤ fs.length := List.length_filterMap_le _ _
/-! ### comparisons -/
noncomputable def thB (th : List (Str × Str)) (a b : Str) : Bool := @decide (Reach th a b) (Classical.propDecidable _)
theorem thB_iff {th : List (Str × Str)} {a b : Str} {k : Bool} (h : k = true ↔ Reach th a b) : k = thB th a b := by
  unfold thB
  cases k with
  | true => exact (@decide_eq_true _ (Classical.propDecidable _) (h.mp rfl)).symm
  | false => exact (@decide_eq_false _ (Classical.propDecidable _) (fun r => by cases h.mpr r)).symm
def kindN (m : BM) (c : Str) : Str := (m.cloths.lookup c).getD ""
def dipN (m : BM) (n : Nat) : Str × Str := (m.dips[n]?).getD ("", "")
theorem dipN_at {m : BM} {n : Nat} {x : Str × Str} (h : m.dips[n]? = some x) : dipN m n = x := by unfold dipN; rw [h]; rfl
noncomputable def fallB (m : BM) (i j : Nat) : Bool := decide ((dipN m i).2 = (dipN m j).2) && thB m.thirst (kindN m (dipN m i).1) (kindN m (dipN m j).1)
noncomputable def falls (m : BM) (j : Nat) : Nat → List (Am × Am)
  | 0 => []
  | i + 1 => falls m j i ++ if fallB m i j then [((false, i), (false, j))] else []
def prv (m : BM) (j : Nat) : Nat := (prevF m.dips (dipN m j).1 j).getD 0
noncomputable def rows (m : BM) : Nat → List (Am × Am)
  | 0 => []
  | j + 1 => rows m j ++ falls m j j ++ if leavesN m j then [((false, prv m j), (true, j))] else []
theorem falls_len (m : BM) (j : Nat) : ∀ i, (falls m j i).length ≤ i
  | 0 => Nat.le_refl _
  | i + 1 => by
    have := falls_len m j i
    unfold falls
    split <;> simp <;> omega
theorem rows_len (m : BM) : ∀ j, j ≤ 100 → (rows m j).length ≤ j * 101
  | 0, _ => Nat.le_refl _
  | j + 1, h => by
    have h1 := rows_len m j (by omega)
    have h2 := falls_len m j j
    unfold rows
    split <;> simp <;> omega
noncomputable def stepsOf (m : BM) (fs : List Fct) : List (Am × Am) := rows m m.dips.length ++ tells fs
structure WF2 (m : BM) : Prop where
  th : ∀ p ∈ m.thirst, okT p.1 ∧ okT p.2
  few : m.thirst.length ≤ 100
  ck : ∀ c k, m.cloths.lookup c = some k → okT k
theorem WF.kind {m : BM} (wf : WF m) (w2 : WF2 m) {c : Str} (h : (m.cloths.lookup c).isSome = true) : m.cloths.lookup c = some (kindN m c) ∧ (m.kinds.lookup (kindN m c)).isSome = true ∧ okT (kindN m c) := by
  obtain ⟨k, hk⟩ := Option.isSome_iff_exists.mp h
  have e : kindN m c = k := by unfold kindN; rw [hk]; rfl
  rw [e]
  exact ⟨hk, wf.cloths c k hk, w2.ck c k hk⟩
theorem leavesN_at {m : BM} {n : Nat} {x : Str × Str} (h : m.dips[n]? = some x) : leavesN m n = leavesX m n x := by unfold leavesN; rw [h]
theorem leavesX_prev {m : BM} {n : Nat} {x : Str × Str} (h : m.dips[n]? = some x) (hl : leavesX m n x = true) : prevF m.dips x.1 n = some (prv m n) := by
  unfold prv
  rw [dipN_at h]
  unfold leavesX at hl
  cases hp : prevF m.dips x.1 n with
  | none => rw [hp] at hl; cases hl
  | some e => rfl
theorem cutD_tail (x : D) (r : List D) : cutD (x :: r) (some 1) none = r := by
  unfold cutD
  rw [show HT.sIx (x :: r).length 0 (some 1) = min 1 (x :: r).length from HT.sIx_nat _ _ 1]
  rw [show min 1 (x :: r).length = 1 by simp]
  exact List.take_of_length_le (by simp [HT.sIx])
def looseB (m : BM) (n : Nat) : Bool := decide (holdN m (dipN m n).1 = "loose")
def thereOf (m : BM) (fs : List Fct) : List Am := (amounts m).filter fun a => decide (a ∈ ones fs) || (a.1 && looseB m a.2)
theorem amts_lt (m : BM) : ∀ n, ∀ a ∈ amts m n, a.2 < n
  | 0, a, h => by cases h
  | n + 1, a, h => by
    rcases List.mem_append.mp h with h | h
    · have := amts_lt m n a h; omega
    · rcases List.mem_cons.mp h with h | h
      · subst h; exact Nat.lt_succ_self n
      · split at h
        · have : a = (true, n) := by simpa using h
          subst this; exact Nat.lt_succ_self n
        · cases h
def PotsOk (m : BM) : Prop := ∀ s ∈ m.pots, okT s
end
end LW
set_option Elab.async false
set_option linter.all false
set_option maxRecDepth 100000
set_option maxHeartbeats 4000000
namespace LW
open PySem L2 T3
open Evl (Ex)
local macro_rules | `(tactic| walk_at "t3") => `(tactic| first
  | (with_reducible refine s_seq ?_) | (with_reducible refine s_asg ?_) | (with_reducible refine s_if ?_) | (with_reducible refine s_ret ?_) | (with_reducible refine s_drop ?_) | (with_reducible refine s_asgG ?_) | (with_reducible refine s_retN ?_)
  | (with_reducible refine s_next ?_) | (with_reducible refine s_brk ?_) | (with_reducible refine s_cont ?_) | (with_reducible refine s_par ?_) | (with_reducible refine s_fld ?_)
  | ((with_reducible refine' w_var ?hx ?_); (case hx => exact rfl)) | (with_reducible refine w_cI ?_) | (with_reducible refine w_cB ?_) | (with_reducible refine w_cS ?_) | (with_reducible refine w_cN ?_) | (with_reducible refine w_cT ?_) | (with_reducible refine w_cR ?_)
  | (with_reducible refine w_op ?_) | (with_reducible refine w_un ?_) | (with_reducible refine w_nil ?_) | (with_reducible refine w_tup ?_) | (with_reducible refine w_cons ?_) | (with_reducible refine w_cb ?_) | (with_reducible refine w_bm0 ?_) | (with_reducible refine w_bm ?_)
  | (with_reducible refine w_test ?_) | (with_reducible refine w_B ?_) | (with_reducible refine w_notT ?_) | (with_reducible refine w_yes ?_) | (with_reducible refine w_notV ?_)
  | (with_reducible refine w_ifE ?_) | (with_reducible refine w_isN ?_) | (with_reducible refine w_notN ?_) | (with_reducible refine w_tr ?_) | (with_reducible refine w_chain ?_) | (with_reducible refine w_fld ?_) | (with_reducible refine w_sl ?_) | (with_reducible refine o_no ?_) | (with_reducible refine o_some ?_)
  | (with_reducible refine w_call0 ?_) | (with_reducible refine g_name ?_) | ((with_reducible refine' g_tup ?hx ?hy ?_); (case hx => exact rfl); (case hy => exact rfl)) | (with_reducible refine g_cons ?_) | (with_reducible refine g_nil ?_) | (with_reducible refine g_set ?_)
  | (with_reducible refine r3_add_ii ?_) | (with_reducible refine r3_sub ?_) | (with_reducible refine r3_lt ?_) | (with_reducible refine r3_le ?_) | (with_reducible refine r3_gt ?_) | (with_reducible refine r3_ge ?_) | (with_reducible refine u3_neg ?_)
  | (with_reducible refine c3_int_i ?_) | (with_reducible refine c3_int_b ?_) | (with_reducible refine c3_abs ?_) | (with_reducible refine c3_len_t ?_) | (with_reducible refine c3_len .fz ?_) | (with_reducible refine c3_max2 ?_) | (with_reducible refine c3_min2 ?_)
  | (with_reducible refine r3_eq (n := 9) (m := 9) okD_int okD_int ?_) | (with_reducible refine r3_ne (n := 9) (m := 9) okD_int okD_int ?_)
  | ((with_reducible refine' Exists.intro _ (And.intro ?hx ?_)); (case hx => exact rfl))
  | ((with_reducible refine' And.intro ?hx ?_); (case hx => (show List.length _ ≤ 100000); exact Nat.le_of_ble_eq_true rfl))
  | (with_reducible refine c3_lenL (c3_len_t ?_)) | (with_reducible refine c3_lenL (c3_len .fz ?_)))

section
variable {P : Program} {w : World} {K : PySem.W.Frag} {mg : Str → Option Value} {base : Heap} {A0 : Adr}

/-! ### the law's model in memory -/
structure LA where (o k t p c d f : Addr)
def LA.all (L : LA) : List Addr := [L.o, L.k, L.t, L.p, L.c, L.d, L.f]
structure LM (M : Mem) (L : LA) (m : BM) : Prop where
  o : M L.o = some (.lst [.ref L.k, .ref L.t, .ref L.p, .ref L.c, .ref L.d, .ref L.f])
  k : M L.k = some (.lst (m.kinds.map wD))
  t : M L.t = some (.lst (m.thirst.map wD))
  p : M L.p = some (.lst (m.pots.map .str))
  c : M L.c = some (.lst (m.cloths.map wD))
  d : M L.d = some (.lst (m.dips.map wD))
  f : M L.f = some (.lst m.facts)
  nd : L.all.Nodup
section
variable {M M' : Mem} {L : LA} {m : BM} {z : Addr} {x : DO} {A : BA} {C : Addr}
theorem LM.keep (h : LM M L m) (k : ∀ z ∈ L.all, M' z = M z) : LM M' L m := by
  have k : ∀ z, (z = L.o ∨ z = L.k ∨ z = L.t ∨ z = L.p ∨ z = L.c ∨ z = L.d ∨ z = L.f) → M' z = M z := fun z hz => k z (by simpa [LA.all] using hz)
  exact ⟨by rw [k _ (by simp)]; exact h.o, by rw [k _ (by simp)]; exact h.k, by rw [k _ (by simp)]; exact h.t, by rw [k _ (by simp)]; exact h.p, by rw [k _ (by simp)]; exact h.c, by rw [k _ (by simp)]; exact h.d, by rw [k _ (by simp)]; exact h.f, h.nd⟩
theorem LM.off (h : LM M L m) (hz : z ∉ L.all) : LM (mput M z x) L m := h.keep fun y hy => mput_ne (fun e => hz (by rw [← e]; exact hy))
theorem LM.bk (h : LM M L m) (b : ∀ z ∈ L.all, Off A z) {mb : BM} : LM (bookM C M A mb) L m := h.keep fun y hy => bk_off (b y hy)
theorem LM.some (h : LM M L m) (hz : z ∈ L.all) : ∃ x, M z = some x := by
  have hz : z = L.o ∨ z = L.k ∨ z = L.t ∨ z = L.p ∨ z = L.c ∨ z = L.d ∨ z = L.f := by simpa [LA.all] using hz
  rcases hz with e | e | e | e | e | e | e <;> subst e
  · exact ⟨_, h.o⟩
  · exact ⟨_, h.k⟩
  · exact ⟨_, h.t⟩
  · exact ⟨_, h.p⟩
  · exact ⟨_, h.c⟩
  · exact ⟨_, h.d⟩
  · exact ⟨_, h.f⟩
theorem LM.fresh (h : LM M L m) (hz : M z = none) : z ∉ L.all := fun e => by
  obtain ⟨x, hx⟩ := h.some e
  rw [hz] at hx; cases hx
theorem LM.new (h : LM M L m) (hz : M z = none) : LM (mput M z x) L m := h.off (h.fresh hz)
theorem LM.ne (h : LM M L m) : (L.o ≠ L.k ∧ L.o ≠ L.t ∧ L.o ≠ L.p ∧ L.o ≠ L.c ∧ L.o ≠ L.d ∧ L.o ≠ L.f) ∧ (L.k ≠ L.t ∧ L.k ≠ L.p ∧ L.k ≠ L.c ∧ L.k ≠ L.d ∧ L.k ≠ L.f) ∧ (L.t ≠ L.p ∧ L.t ≠ L.c ∧ L.t ≠ L.d ∧ L.t ≠ L.f) ∧ (L.p ≠ L.c ∧ L.p ≠ L.d ∧ L.p ≠ L.f) ∧ (L.c ≠ L.d ∧ L.c ≠ L.f) ∧ L.d ≠ L.f := by
  have := h.nd
  simpa [LA.all, List.nodup_cons] using this
theorem LM.putK (h : LM M L m) (l : List (Str × Str)) : LM (mput M L.k (.lst (l.map wD))) L { m with kinds := l } := by
  obtain ⟨⟨a1, a2, a3, a4, a5, a6⟩, ⟨b1, b2, b3, b4, b5⟩, ⟨c1, c2, c3, c4⟩, ⟨d1, d2, d3⟩, ⟨e1, e2⟩, f1⟩ := h.ne
  exact ⟨by rw [mput_ne a1]; exact h.o, mput_same, by rw [mput_ne b1.symm]; exact h.t, by rw [mput_ne b2.symm]; exact h.p, by rw [mput_ne b3.symm]; exact h.c, by rw [mput_ne b4.symm]; exact h.d, by rw [mput_ne b5.symm]; exact h.f, h.nd⟩
theorem LM.putT (h : LM M L m) (l : List (Str × Str)) : LM (mput M L.t (.lst (l.map wD))) L { m with thirst := l } := by
  obtain ⟨⟨a1, a2, a3, a4, a5, a6⟩, ⟨b1, b2, b3, b4, b5⟩, ⟨c1, c2, c3, c4⟩, ⟨d1, d2, d3⟩, ⟨e1, e2⟩, f1⟩ := h.ne
  exact ⟨by rw [mput_ne a2]; exact h.o, by rw [mput_ne b1]; exact h.k, mput_same, by rw [mput_ne c1.symm]; exact h.p, by rw [mput_ne c2.symm]; exact h.c, by rw [mput_ne c3.symm]; exact h.d, by rw [mput_ne c4.symm]; exact h.f, h.nd⟩
theorem LM.putP (h : LM M L m) (l : List Str) : LM (mput M L.p (.lst (l.map .str))) L { m with pots := l } := by
  obtain ⟨⟨a1, a2, a3, a4, a5, a6⟩, ⟨b1, b2, b3, b4, b5⟩, ⟨c1, c2, c3, c4⟩, ⟨d1, d2, d3⟩, ⟨e1, e2⟩, f1⟩ := h.ne
  exact ⟨by rw [mput_ne a3]; exact h.o, by rw [mput_ne b2]; exact h.k, by rw [mput_ne c1]; exact h.t, mput_same, by rw [mput_ne d1.symm]; exact h.c, by rw [mput_ne d2.symm]; exact h.d, by rw [mput_ne d3.symm]; exact h.f, h.nd⟩
theorem LM.putC (h : LM M L m) (l : List (Str × Str)) : LM (mput M L.c (.lst (l.map wD))) L { m with cloths := l } := by
  obtain ⟨⟨a1, a2, a3, a4, a5, a6⟩, ⟨b1, b2, b3, b4, b5⟩, ⟨c1, c2, c3, c4⟩, ⟨d1, d2, d3⟩, ⟨e1, e2⟩, f1⟩ := h.ne
  exact ⟨by rw [mput_ne a4]; exact h.o, by rw [mput_ne b3]; exact h.k, by rw [mput_ne c2]; exact h.t, by rw [mput_ne d1]; exact h.p, mput_same, by rw [mput_ne e1.symm]; exact h.d, by rw [mput_ne e2.symm]; exact h.f, h.nd⟩
theorem LM.putD (h : LM M L m) (l : List (Str × Str)) : LM (mput M L.d (.lst (l.map wD))) L { m with dips := l } := by
  obtain ⟨⟨a1, a2, a3, a4, a5, a6⟩, ⟨b1, b2, b3, b4, b5⟩, ⟨c1, c2, c3, c4⟩, ⟨d1, d2, d3⟩, ⟨e1, e2⟩, f1⟩ := h.ne
  exact ⟨by rw [mput_ne a5]; exact h.o, by rw [mput_ne b4]; exact h.k, by rw [mput_ne c3]; exact h.t, by rw [mput_ne d2]; exact h.p, by rw [mput_ne e1]; exact h.c, mput_same, by rw [mput_ne f1.symm]; exact h.f, h.nd⟩
theorem LM.putF (h : LM M L m) (l : List D) : LM (mput M L.f (.lst l)) L { m with facts := l } := by
  obtain ⟨⟨a1, a2, a3, a4, a5, a6⟩, ⟨b1, b2, b3, b4, b5⟩, ⟨c1, c2, c3, c4⟩, ⟨d1, d2, d3⟩, ⟨e1, e2⟩, f1⟩ := h.ne
  exact ⟨by rw [mput_ne a6]; exact h.o, by rw [mput_ne b5]; exact h.k, by rw [mput_ne c4]; exact h.t, by rw [mput_ne d3]; exact h.p, by rw [mput_ne e2]; exact h.c, by rw [mput_ne f1]; exact h.d, mput_same, h.nd⟩
theorem LM.in (L : LA) : L.o ∈ L.all ∧ L.k ∈ L.all ∧ L.t ∈ L.all ∧ L.p ∈ L.all ∧ L.c ∈ L.all ∧ L.d ∈ L.all ∧ L.f ∈ L.all := by simp [LA.all]
end
/-! ### good models -/
def Fct.has : Fct → List Am
  | .tell x y => [x, y]
  | .one x => [x]
def names (l : List (Str × Str)) : List Str := l.map (·.1)
structure GM (m : BM) (fs : List Fct) : Prop where
  kn : (names m.kinds).Nodup
  kg : ∀ w ∈ m.kinds, goodS w.1 = true ∧ w.2 ∈ HOLDS3
  k8 : m.kinds.length ≤ 8
  th : ∀ w ∈ m.thirst, w.1 ∈ names m.kinds ∧ w.2 ∈ names m.kinds
  t32 : m.thirst.length ≤ 32
  pn : m.pots.Nodup
  pg : ∀ s ∈ m.pots, goodS s = true
  p8 : m.pots.length ≤ 8
  cn : (names m.cloths).Nodup
  cg : ∀ w ∈ m.cloths, goodS w.1 = true ∧ w.2 ∈ names m.kinds
  c8 : m.cloths.length ≤ 8
  dg : ∀ w ∈ m.dips, w.1 ∈ names m.cloths ∧ w.2 ∈ m.pots
  d24 : m.dips.length ≤ 24
  fe : m.facts = fs.map fctD
  f32 : fs.length ≤ 32
  fa : ∀ f ∈ fs, ∀ a ∈ f.has, a ∈ amounts m
  most : m.most = 24
theorem lookup_in {l : List (Str × Str)} {x : Str} : (l.lookup x).isSome = true ↔ x ∈ names l := by
  unfold names
  induction l with
  | nil => simp
  | cons p l ih =>
    obtain ⟨a, b⟩ := p
    rw [List.lookup_cons, List.map_cons, List.mem_cons]
    by_cases e : x = a
    · subst e; simp
    · rw [beq_eq_false_iff_ne.mpr e]
      simp only [e, false_or]
      exact ih
theorem lookup_mem {l : List (Str × Str)} {x y : Str} (h : l.lookup x = some y) : (x, y) ∈ l := by
  induction l with
  | nil => cases h
  | cons p l ih =>
    obtain ⟨a, b⟩ := p
    rw [List.lookup_cons] at h
    by_cases e : x = a
    · subst e
      have : b = y := by simpa using h
      subst this
      exact List.mem_cons_self ..
    · rw [beq_eq_false_iff_ne.mpr e] at h
      exact List.mem_cons_of_mem _ (ih h)
theorem lookup_not {l : List (Str × Str)} {x : Str} (h : x ∉ names l) : l.lookup x = none := by
  cases e : l.lookup x with
  | none => rfl
  | some y => exact absurd (lookup_in.mp (by rw [e]; rfl)) h
theorem GM.name {m : BM} {fs : List Fct} (g : GM m fs) {k : Str} (h : k ∈ names m.kinds) : goodS k = true := by
  obtain ⟨w, hw, rfl⟩ := List.mem_map.mp h
  exact (g.kg w hw).1
theorem GM.cname {m : BM} {fs : List Fct} (g : GM m fs) {c : Str} (h : c ∈ names m.cloths) : goodS c = true := by
  obtain ⟨w, hw, rfl⟩ := List.mem_map.mp h
  exact (g.cg w hw).1
theorem hold_ok {h : Str} (hh : h ∈ HOLDS3) : okT h := by
  have : ∀ x ∈ HOLDS3, okT x := by unfold okT; decide +kernel
  exact this h hh
theorem GM.wf {m : BM} {fs : List Fct} (g : GM m fs) : WF m where
  dips := fun w hw => ⟨good_okT (g.cname (g.dg w hw).1), good_okT (g.pg _ (g.dg w hw).2), lookup_in.mpr (g.dg w hw).1⟩
  cloths := fun c k h => lookup_in.mpr (g.cg _ (lookup_mem h)).2
  kinds := fun k h e => hold_ok (g.kg _ (lookup_mem e)).2
  few := by have := g.d24; omega
  dv := fun w hw => .str (good_okT (g.cname (g.dg w hw).1)) (good_len (g.cname (g.dg w hw).1))
  kv := fun c k h => .str (good_okT (g.name (g.cg _ (lookup_mem h)).2)) (good_len (g.name (g.cg _ (lookup_mem h)).2))
theorem GM.wf2 {m : BM} {fs : List Fct} (g : GM m fs) : WF2 m where
  th := fun w hw => ⟨good_okT (g.name (g.th w hw).1), good_okT (g.name (g.th w hw).2)⟩
  few := by have := g.t32; omega
  ck := fun c k h => good_okT (g.name (g.cg _ (lookup_mem h)).2)
theorem GM.pots {m : BM} {fs : List Fct} (g : GM m fs) : PotsOk m := fun s hs => good_okT (g.pg s hs)
/-! ### promises -/
section
def Src (M : Mem) (a : Addr) (L : LA) : Prop := (∃ o, M a = some o ∧ IsSrc o) ∧ a ∉ L.all
def Offs (A : BA) (L : LA) : Prop := ∀ z ∈ L.all, Off A z
end
end
end LW
set_option Elab.async false
set_option linter.all false
set_option maxRecDepth 100000
set_option maxHeartbeats 4000000
namespace LW
open PySem L2 T3
open Evl (Ex)
local macro_rules | `(tactic| walk_at "t3") => `(tactic| first
  | (with_reducible refine s_seq ?_) | (with_reducible refine s_asg ?_) | (with_reducible refine s_if ?_) | (with_reducible refine s_ret ?_) | (with_reducible refine s_drop ?_) | (with_reducible refine s_asgG ?_) | (with_reducible refine s_retN ?_)
  | (with_reducible refine s_next ?_) | (with_reducible refine s_brk ?_) | (with_reducible refine s_cont ?_) | (with_reducible refine s_par ?_) | (with_reducible refine s_fld ?_)
  | ((with_reducible refine' w_var ?hx ?_); (case hx => exact rfl)) | (with_reducible refine w_cI ?_) | (with_reducible refine w_cB ?_) | (with_reducible refine w_cS ?_) | (with_reducible refine w_cN ?_) | (with_reducible refine w_cT ?_) | (with_reducible refine w_cR ?_)
  | (with_reducible refine w_op ?_) | (with_reducible refine w_un ?_) | (with_reducible refine w_nil ?_) | (with_reducible refine w_tup ?_) | (with_reducible refine w_cons ?_) | (with_reducible refine w_cb ?_) | (with_reducible refine w_bm0 ?_) | (with_reducible refine w_bm ?_)
  | (with_reducible refine w_test ?_) | (with_reducible refine w_B ?_) | (with_reducible refine w_notT ?_) | (with_reducible refine w_yes ?_) | (with_reducible refine w_notV ?_)
  | (with_reducible refine w_ifE ?_) | (with_reducible refine w_isN ?_) | (with_reducible refine w_notN ?_) | (with_reducible refine w_tr ?_) | (with_reducible refine w_chain ?_) | (with_reducible refine w_fld ?_) | (with_reducible refine w_sl ?_) | (with_reducible refine o_no ?_) | (with_reducible refine o_some ?_)
  | (with_reducible refine w_call0 ?_) | (with_reducible refine g_name ?_) | ((with_reducible refine' g_tup ?hx ?hy ?_); (case hx => exact rfl); (case hy => exact rfl)) | (with_reducible refine g_cons ?_) | (with_reducible refine g_nil ?_) | (with_reducible refine g_set ?_)
  | (with_reducible refine r3_add_ii ?_) | (with_reducible refine r3_sub ?_) | (with_reducible refine r3_lt ?_) | (with_reducible refine r3_le ?_) | (with_reducible refine r3_gt ?_) | (with_reducible refine r3_ge ?_) | (with_reducible refine u3_neg ?_)
  | (with_reducible refine c3_int_i ?_) | (with_reducible refine c3_int_b ?_) | (with_reducible refine c3_abs ?_) | (with_reducible refine c3_len_t ?_) | (with_reducible refine c3_len .fz ?_) | (with_reducible refine c3_max2 ?_) | (with_reducible refine c3_min2 ?_)
  | (with_reducible refine r3_eq (n := 9) (m := 9) okD_int okD_int ?_) | (with_reducible refine r3_ne (n := 9) (m := 9) okD_int okD_int ?_)
  | ((with_reducible refine' Exists.intro _ (And.intro ?hx ?_)); (case hx => exact rfl))
  | ((with_reducible refine' And.intro ?hx ?_); (case hx => (show List.length _ ≤ 100000); exact Nat.le_of_ble_eq_true rfl))
  | (with_reducible refine c3_lenL (c3_len_t ?_)) | (with_reducible refine c3_lenL (c3_len .fz ?_)))

section
variable {P : Program} {w : World} {K : PySem.W.Frag} {mg : Str → Option Value} {base : Heap} {A0 : Adr}

theorem c3_ISIl {B : Hp} {M : Mem} {Q : DQ} {x : D} {ds : List D} {n : String} {c : Bool} (l : LstD M x ds) (hk : PySem.W.kitOne K (.type "list") (.type n) = some c) (q : Q (.bl c) M) : C3 B (rISI K) [x, .ty n] M Q := fun F H xv Qv b st rx k => by
  obtain ⟨v, u, e, r1, r2⟩ := rx.two
  subst e
  obtain ⟨a, vs, e1, h1, rs⟩ := l.at st r1
  subst e1
  rw [show u = V.ty n from r2]
  exact .inl ⟨.ref a, .ty n, .type "list", .type n, c, rfl, .ty n, .base (.lst h1), hk, k F M (.bl c) _ H (Evl.Ex.refl _) st rfl q⟩
theorem pq_nil {l : List D} : peq (.lst l) (.lst []) = decide (l = []) := by
  cases l with
  | nil => rfl
  | cons a l => rw [decide_eq_false (by simp)]; rfl
theorem any_fcts (fs : List Fct) (a : Am) : ((fs.map fctD).any fun z => peq z (.tup [.str "some", aD a])) = decide (a ∈ ones fs) := by
  have key : ∀ f : Fct, peq (fctD f) (.tup [.str "some", aD a]) = match f with | .one x => decide (x = a) | _ => false := by
    intro f
    cases f with
    | tell x y =>
      show (peq (.str "tell") (.str "some") && (peq (aD x) (aD a) && false)) = false
      rw [Bool.and_false, Bool.and_false]
    | one x =>
      show (peq (.str "some") (.str "some") && (peq (aD x) (aD a) && true)) = _
      rw [pq_str, pq_aD, Bool.and_true]
      simp
  rw [List.any_map]
  induction fs with
  | nil => rfl
  | cons f fs ih =>
    rw [List.any_cons, ih]
    show (peq (fctD f) _ || _) = _
    rw [key]
    cases f with
    | tell x y => rfl
    | one x =>
      show (decide (x = a) || decide (a ∈ ones fs)) = decide (a ∈ x :: ones fs)
      rw [← Bool.decide_or]
      by_cases h : a = x <;> simp [h, eq_comm]
theorem okD_f (f : Fct) : okD 2 (fctD f) = true := by
  have h1 : okT "tell" := by unfold okT; decide +kernel
  have h2 : okT "some" := by unfold okT; decide +kernel
  cases f with
  | tell x y =>
    show (okD 1 (.str "tell") && (okD 1 (aD x) && (okD 1 (aD y) && true))) = true
    rw [okD_S h1, okD_a, okD_a]; rfl
  | one x =>
    show (okD 1 (.str "some") && (okD 1 (aD x) && true)) = true
    rw [okD_S h2, okD_a]; rfl
theorem okDs_f (fs : List Fct) : okDs 2 (fs.map fctD) = true := okDs_iff.mpr fun d hd => by
  obtain ⟨f, _, rfl⟩ := List.mem_map.mp hd
  exact okD_f f
theorem GM.dip {m : BM} {fs : List Fct} (g : GM m fs) {x : Str × Str} (h : x ∈ m.dips) : m.cloths.lookup x.1 = some (kindN m x.1) ∧ kindN m x.1 ∈ names m.kinds := by
  obtain ⟨h1, h2, h3⟩ := g.wf.kind g.wf2 (lookup_in.mpr (g.dg x h).1)
  exact ⟨h1, lookup_in.mp h2⟩
theorem Src.draw {M : Mem} {a : Addr} {L : LA} {o : DO} (s : Src M a L) (ho : IsSrc o) : Src (mput M a o) a L := ⟨⟨o, mput_same, ho⟩, s.2⟩
theorem Src.put {M : Mem} {a z : Addr} {L : LA} {x : DO} (s : Src M a L) (hz : z ≠ a) : Src (mput M z x) a L := ⟨by rw [mput_ne (Ne.symm hz)]; exact s.1, s.2⟩
theorem Src.ne {M : Mem} {a z : Addr} {L : LA} (s : Src M a L) (hz : z ∈ L.all) : z ≠ a := fun e => s.2 (by rw [← e]; exact hz)
theorem LM.newP {M : Mem} {L : LA} {m : BM} {p : Addr} {ns : List Str} (h : LM M L m) (hp : p ∉ L.all) (hm : M p = Option.some (.lst (ns.map .str))) :
    LM (mput M L.o (.lst [.ref L.k, .ref L.t, .ref p, .ref L.c, .ref L.d, .ref L.f])) { L with p := p } { m with pots := ns } := by
  have hp' : p ≠ L.o ∧ p ≠ L.k ∧ p ≠ L.t ∧ p ≠ L.p ∧ p ≠ L.c ∧ p ≠ L.d ∧ p ≠ L.f := by simpa [LA.all] using hp
  obtain ⟨q1, q2, q3, q4, q5, q6, q7⟩ := hp'
  obtain ⟨⟨a1, a2, a3, a4, a5, a6⟩, ⟨b1, b2, b3, b4, b5⟩, ⟨c1, c2, c3, c4⟩, ⟨d1, d2, d3⟩, ⟨e1, e2⟩, f1⟩ := h.ne
  exact ⟨mput_same, by show mput M L.o _ L.k = _; rw [mput_ne a1.symm]; exact h.k, by show mput M L.o _ L.t = _; rw [mput_ne a2.symm]; exact h.t, by show mput M L.o _ p = _; rw [mput_ne q1]; exact hm, by show mput M L.o _ L.c = _; rw [mput_ne a4.symm]; exact h.c, by show mput M L.o _ L.d = _; rw [mput_ne a5.symm]; exact h.d, by show mput M L.o _ L.f = _; rw [mput_ne a6.symm]; exact h.f,
    by simp [LA.all, List.nodup_cons, a1, a2, a4, a5, a6, b1, b3, b4, b5, c2, c3, c4, e1, e2, f1, q1.symm, q2.symm, q3.symm, q5, q6, q7]⟩
theorem fr_put {M : Mem} {a b : Addr} {x : DO} (h : mput M a x b = none) : b ≠ a ∧ M b = none := by
  by_cases e : b = a
  · subst e; rw [mput_same] at h; cases h
  · exact ⟨e, by rwa [mput_ne e] at h⟩
def em : BM := ⟨[], [], [], [], [], [], 24⟩
theorem lm_made {M : Mem} {l0 l1 l2 l3 l4 l5 l6 : Addr} (n1 : M l1 = none) (n2 : mput M l1 (.lst []) l2 = none) (n3 : mput (mput M l1 (.lst [])) l2 (.lst []) l3 = none) (n4 : mput (mput (mput M l1 (.lst [])) l2 (.lst [])) l3 (.lst []) l4 = none)
    (n5 : mput (mput (mput (mput M l1 (.lst [])) l2 (.lst [])) l3 (.lst [])) l4 (.lst []) l5 = none) (n6 : mput (mput (mput (mput (mput M l1 (.lst [])) l2 (.lst [])) l3 (.lst [])) l4 (.lst [])) l5 (.lst []) l6 = none)
    (n0 : mput (mput (mput (mput (mput (mput M l1 (.lst [])) l2 (.lst [])) l3 (.lst [])) l4 (.lst [])) l5 (.lst [])) l6 (.lst []) l0 = none) :
    LM (mput (mput (mput (mput (mput (mput (mput M l1 (.lst [])) l2 (.lst [])) l3 (.lst [])) l4 (.lst [])) l5 (.lst [])) l6 (.lst [])) l0 (.lst [.ref l1, .ref l2, .ref l3, .ref l4, .ref l5, .ref l6])) ⟨l0, l1, l2, l3, l4, l5, l6⟩ em ∧
    (∀ z ∈ (⟨l0, l1, l2, l3, l4, l5, l6⟩ : LA).all, M z = none) ∧ ∀ z, z ∉ (⟨l0, l1, l2, l3, l4, l5, l6⟩ : LA).all → mput (mput (mput (mput (mput (mput (mput M l1 (.lst [])) l2 (.lst [])) l3 (.lst [])) l4 (.lst [])) l5 (.lst [])) l6 (.lst [])) l0 (.lst [.ref l1, .ref l2, .ref l3, .ref l4, .ref l5, .ref l6]) z = M z := by
  obtain ⟨a01, n2⟩ := fr_put n2
  obtain ⟨b2, n3⟩ := fr_put n3
  obtain ⟨b1, n3⟩ := fr_put n3
  obtain ⟨c3, n4⟩ := fr_put n4
  obtain ⟨c2, n4⟩ := fr_put n4
  obtain ⟨c1, n4⟩ := fr_put n4
  obtain ⟨d4, n5⟩ := fr_put n5
  obtain ⟨d3, n5⟩ := fr_put n5
  obtain ⟨d2, n5⟩ := fr_put n5
  obtain ⟨d1, n5⟩ := fr_put n5
  obtain ⟨e5, n6⟩ := fr_put n6
  obtain ⟨e4, n6⟩ := fr_put n6
  obtain ⟨e3, n6⟩ := fr_put n6
  obtain ⟨e2, n6⟩ := fr_put n6
  obtain ⟨e1, n6⟩ := fr_put n6
  obtain ⟨f6, n0⟩ := fr_put n0
  obtain ⟨f5, n0⟩ := fr_put n0
  obtain ⟨f4, n0⟩ := fr_put n0
  obtain ⟨f3, n0⟩ := fr_put n0
  obtain ⟨f2, n0⟩ := fr_put n0
  obtain ⟨f1, n0⟩ := fr_put n0
  refine ⟨⟨mput_same, ?_, ?_, ?_, ?_, ?_, ?_, ?_⟩, ?_, ?_⟩
  · rw [mput_ne f1.symm, mput_ne e1.symm, mput_ne d1.symm, mput_ne c1.symm, mput_ne b1.symm, mput_ne a01.symm]; exact mput_same
  · rw [mput_ne f2.symm, mput_ne e2.symm, mput_ne d2.symm, mput_ne c2.symm, mput_ne b2.symm]; exact mput_same
  · rw [mput_ne f3.symm, mput_ne e3.symm, mput_ne d3.symm, mput_ne c3.symm]; exact mput_same
  · rw [mput_ne f4.symm, mput_ne e4.symm, mput_ne d4.symm]; exact mput_same
  · rw [mput_ne f5.symm, mput_ne e5.symm]; exact mput_same
  · rw [mput_ne f6.symm]; exact mput_same
  · simp [LA.all, List.nodup_cons, f1, f2, f3, f4, f5, f6, e1.symm, e2.symm, e3.symm, e4.symm, e5.symm, d1.symm, d2.symm, d3.symm, d4.symm, c1.symm, c2.symm, c3.symm, b1.symm, b2.symm, a01.symm]
  · intro z hz
    have hz : z = l0 ∨ z = l1 ∨ z = l2 ∨ z = l3 ∨ z = l4 ∨ z = l5 ∨ z = l6 := by simpa [LA.all] using hz
    rcases hz with rfl | rfl | rfl | rfl | rfl | rfl | rfl <;> assumption
  · intro z hz
    have hz : z ≠ l0 ∧ z ≠ l1 ∧ z ≠ l2 ∧ z ≠ l3 ∧ z ≠ l4 ∧ z ≠ l5 ∧ z ≠ l6 := by simpa [LA.all] using hz
    obtain ⟨h0, h1, h2, h3, h4, h5, h6⟩ := hz
    rw [mput_ne h0, mput_ne h6, mput_ne h5, mput_ne h4, mput_ne h3, mput_ne h2, mput_ne h1]
theorem pick {l : List (Str × Str)} {r : Int} (h0 : 0 ≤ r) (h1 : r < (l.map wD).length) : ∃ x, x ∈ l ∧ (l.map wD)[r.toNat]? = some (wD x) := by
  rw [List.length_map] at h1
  have h : r.toNat < l.length := by omega
  exact ⟨l[r.toNat], List.getElem_mem h, by rw [List.getElem?_map, List.getElem?_eq_getElem h]; rfl⟩
theorem pickS {l : List Str} {r : Int} (h0 : 0 ≤ r) (h1 : r < (l.map D.str).length) : ∃ x, x ∈ l ∧ (l.map D.str)[r.toNat]? = some (.str x) := by
  rw [List.length_map] at h1
  have h : r.toNat < l.length := by omega
  exact ⟨l[r.toNat], List.getElem_mem h, by rw [List.getElem?_map, List.getElem?_eq_getElem h]; rfl⟩
theorem in_names {l : List (Str × Str)} {x : Str × Str} (h : x ∈ l) : x.1 ∈ names l := List.mem_map.mpr ⟨x, h, rfl⟩
theorem amts_facts (m : BM) (f : List D) : ∀ n, amts { m with facts := f } n = amts m n
  | 0 => rfl
  | n + 1 => by
    show amts { m with facts := f } n ++ _ = amts m n ++ _
    rw [amts_facts m f n]; rfl
theorem amounts_facts (m : BM) (f : List D) : amounts { m with facts := f } = amounts m := amts_facts m f _
theorem GM.facts {m : BM} {fs fs' : List Fct} (g : GM m fs) (h : ∀ f ∈ fs', ∀ a ∈ f.has, a ∈ amounts m) (l : fs'.length ≤ 32) : GM { m with facts := fs'.map fctD } fs' :=
  ⟨g.kn, g.kg, g.k8, g.th, g.t32, g.pn, g.pg, g.p8, g.cn, g.cg, g.c8, g.dg, g.d24, rfl, l, fun f hf a ha => by rw [amounts_facts]; exact h f hf a ha, g.most⟩
theorem at_last {xs : List D} {d : D} (h : xs[xs.length - 1]? = some d) : atI xs (-1) = some d := by
  have := (List.getElem?_eq_some_iff.mp h).1
  unfold atI ixN
  rw [if_neg (by decide), if_pos (by omega)]
  show xs[_]? = _
  rw [← h]
  congr 1
  omega
theorem at_snoc (l : List D) (d : D) : atI (l ++ [d]) (-1) = some d := at_last (by simp)
theorem at_wD (l : List (Str × Str)) (x : Str × Str) : atI ((l ++ [x]).map wD) (-1) = some (wD x) := by rw [List.map_append]; exact at_snoc _ _
theorem at_S (l : List Str) (x : Str) : atI ((l ++ [x]).map D.str) (-1) = some (.str x) := by rw [List.map_append]; exact at_snoc _ _
theorem pickA {l : List Am} {r : Int} (h0 : 0 ≤ r) (h1 : r < l.length) : ∃ x, x ∈ l ∧ (l.map aD)[r.toNat]? = some (aD x) := by
  have h : r.toNat < l.length := by omega
  exact ⟨l[r.toNat], List.getElem_mem h, by rw [List.getElem?_map, List.getElem?_eq_getElem h]; rfl⟩
theorem prevF_app {d : List (Str × Str)} {ds : List (Str × Str)} {c : Str} : ∀ n, n ≤ d.length → prevF (d ++ ds) c n = prevF d c n
  | 0, _ => rfl
  | n + 1, h => by
    unfold prevF
    rw [List.getElem?_append_left (by omega), prevF_app n (by omega)]
theorem amts_ext {m m' : BM} {ds : List (Str × Str)} (hd : m'.dips = m.dips ++ ds) (hh : ∀ x ∈ m.dips, holdN m' x.1 = holdN m x.1) : ∀ n, n ≤ m.dips.length → amts m' n = amts m n
  | 0, _ => rfl
  | n + 1, h => by
    have e : leavesN m' n = leavesN m n := by
      unfold leavesN
      rw [hd, List.getElem?_append_left (by omega)]
      obtain ⟨x, hx⟩ : ∃ x, m.dips[n]? = some x := ⟨m.dips[n], List.getElem?_eq_getElem (by omega)⟩
      rw [hx]
      show leavesX m' n x = leavesX m n x
      unfold leavesX
      rw [hd, prevF_app n (by omega), hh x (List.mem_of_getElem? hx)]
      cases hp : prevF m.dips x.1 n with
      | none => rfl
      | some e =>
        have := prevF_lt hp
        dsimp only
        rw [List.getElem?_append_left (by omega)]
    unfold amts
    rw [e, amts_ext hd hh n (by omega)]
theorem amts_mono {m : BM} {a : Am} {n : Nat} : ∀ k, n ≤ k → a ∈ amts m n → a ∈ amts m k
  | 0, h, ha => by
    have : n = 0 := by omega
    subst this; exact ha
  | k + 1, h, ha => by
    by_cases e : n = k + 1
    · subst e; exact ha
    · exact List.mem_append_left _ (amts_mono k (by omega) ha)
theorem amounts_ext {m m' : BM} {ds : List (Str × Str)} (hd : m'.dips = m.dips ++ ds) (hh : ∀ x ∈ m.dips, holdN m' x.1 = holdN m x.1) {a : Am} (h : a ∈ amounts m) : a ∈ amounts m' := by
  unfold amounts at h ⊢
  rw [← amts_ext hd hh _ (Nat.le_refl _)] at h
  exact amts_mono _ (by rw [hd, List.length_append]; omega) h
theorem names_app (l r : List (Str × Str)) : names (l ++ r) = names l ++ names r := List.map_append
theorem lookup_app {l r : List (Str × Str)} {x : Str} (h : x ∈ names l) : (l ++ r).lookup x = l.lookup x := by
  obtain ⟨y, hy⟩ := Option.isSome_iff_exists.mp (lookup_in.mpr h)
  rw [List.lookup_append, hy]; rfl
theorem nodup_snoc {l : List Str} {x : Str} (h : l.Nodup) (hx : x ∉ l) : (l ++ [x]).Nodup := by
  rw [List.nodup_append]
  exact ⟨h, by simp, fun a ha b hb e => hx (by
    have : b = x := by simpa using hb
    rw [← this, ← e]; exact ha)⟩
section
variable {m : BM} {fs : List Fct}
theorem GM.hold_kinds (g : GM m fs) {c : Str} (hc : c ∈ names m.cloths) (r : List (Str × Str)) : holdN { m with kinds := m.kinds ++ r } c = holdN m c := by
  obtain ⟨k, hk⟩ := Option.isSome_iff_exists.mp (lookup_in.mpr hc)
  unfold holdN
  show ((m.cloths.lookup c).bind fun k => (m.kinds ++ r).lookup k).getD _ = _
  rw [hk]
  show ((m.kinds ++ r).lookup k).getD _ = (m.kinds.lookup k).getD _
  rw [lookup_app (g.cg _ (lookup_mem hk)).2]
theorem GM.addK (g : GM m fs) {x : Str} {h : Str} (hx : x ∉ names m.kinds) (gx : goodS x = true) (hh : h ∈ HOLDS3) (l : m.kinds.length < 8) : GM { m with kinds := m.kinds ++ [(x, h)] } fs where
  kn := by show (names (m.kinds ++ [(x, h)])).Nodup; rw [names_app]; exact nodup_snoc g.kn hx
  kg := fun w hw => by
    rcases List.mem_append.mp hw with hw | hw
    · exact g.kg w hw
    · have : w = (x, h) := by simpa using hw
      rw [this]; exact ⟨gx, hh⟩
  k8 := by show (m.kinds ++ [(x, h)]).length ≤ 8; rw [List.length_append, List.length_singleton]; omega
  th := fun w hw => by
    show w.1 ∈ names (m.kinds ++ [(x, h)]) ∧ w.2 ∈ names (m.kinds ++ [(x, h)])
    rw [names_app]
    exact ⟨List.mem_append_left _ (g.th w hw).1, List.mem_append_left _ (g.th w hw).2⟩
  t32 := g.t32
  pn := g.pn
  pg := g.pg
  p8 := g.p8
  cn := g.cn
  cg := fun w hw => by
    show _ ∧ w.2 ∈ names (m.kinds ++ [(x, h)])
    rw [names_app]
    exact ⟨(g.cg w hw).1, List.mem_append_left _ (g.cg w hw).2⟩
  c8 := g.c8
  dg := g.dg
  d24 := g.d24
  fe := g.fe
  f32 := g.f32
  fa := fun f hf a ha => amounts_ext (m := m) (m' := { m with kinds := m.kinds ++ [(x, h)] }) (ds := []) (List.append_nil _).symm (fun w hw => g.hold_kinds (g.dg w hw).1 _) (g.fa f hf a ha)
  most := g.most
theorem GM.addP (g : GM m fs) {x : Str} (hx : x ∉ m.pots) (gx : goodS x = true) (l : m.pots.length < 8) : GM { m with pots := m.pots ++ [x] } fs where
  kn := g.kn
  kg := g.kg
  k8 := g.k8
  th := g.th
  t32 := g.t32
  pn := nodup_snoc g.pn hx
  pg := fun w hw => by
    rcases List.mem_append.mp hw with hw | hw
    · exact g.pg w hw
    · have : w = x := by simpa using hw
      rw [this]; exact gx
  p8 := by show (m.pots ++ [x]).length ≤ 8; rw [List.length_append, List.length_singleton]; omega
  cn := g.cn
  cg := g.cg
  c8 := g.c8
  dg := fun w hw => ⟨(g.dg w hw).1, List.mem_append_left _ (g.dg w hw).2⟩
  d24 := g.d24
  fe := g.fe
  f32 := g.f32
  fa := fun f hf a ha => amounts_ext (m := m) (m' := { m with pots := m.pots ++ [x] }) (ds := []) (List.append_nil _).symm (fun w hw => rfl) (g.fa f hf a ha)
  most := g.most
theorem GM.addC (g : GM m fs) {x k : Str} (hx : x ∉ names m.cloths) (gx : goodS x = true) (hk : k ∈ names m.kinds) (l : m.cloths.length < 8) : GM { m with cloths := m.cloths ++ [(x, k)] } fs where
  kn := g.kn
  kg := g.kg
  k8 := g.k8
  th := g.th
  t32 := g.t32
  pn := g.pn
  pg := g.pg
  p8 := g.p8
  cn := by show (names (m.cloths ++ [(x, k)])).Nodup; rw [names_app]; exact nodup_snoc g.cn hx
  cg := fun w hw => by
    rcases List.mem_append.mp hw with hw | hw
    · exact g.cg w hw
    · have : w = (x, k) := by simpa using hw
      rw [this]; exact ⟨gx, hk⟩
  c8 := by show (m.cloths ++ [(x, k)]).length ≤ 8; rw [List.length_append, List.length_singleton]; omega
  dg := fun w hw => by
    show w.1 ∈ names (m.cloths ++ [(x, k)]) ∧ _
    rw [names_app]
    exact ⟨List.mem_append_left _ (g.dg w hw).1, (g.dg w hw).2⟩
  d24 := g.d24
  fe := g.fe
  f32 := g.f32
  fa := fun f hf a ha => amounts_ext (m := m) (m' := { m with cloths := m.cloths ++ [(x, k)] }) (ds := []) (List.append_nil _).symm (fun w hw => by
    unfold holdN
    show (((m.cloths ++ [(x, k)]).lookup w.1).bind fun k => m.kinds.lookup k).getD _ = _
    rw [lookup_app (g.dg w hw).1]) (g.fa f hf a ha)
  most := g.most
theorem GM.addD (g : GM m fs) {x y : Str} (hx : x ∈ names m.cloths) (hy : y ∈ m.pots) (l : m.dips.length < 24) : GM { m with dips := m.dips ++ [(x, y)] } fs where
  kn := g.kn
  kg := g.kg
  k8 := g.k8
  th := g.th
  t32 := g.t32
  pn := g.pn
  pg := g.pg
  p8 := g.p8
  cn := g.cn
  cg := g.cg
  c8 := g.c8
  dg := fun w hw => by
    rcases List.mem_append.mp hw with hw | hw
    · exact g.dg w hw
    · have : w = (x, y) := by simpa using hw
      rw [this]; exact ⟨hx, hy⟩
  d24 := by show (m.dips ++ [(x, y)]).length ≤ 24; rw [List.length_append, List.length_singleton]; omega
  fe := g.fe
  f32 := g.f32
  fa := fun f hf a ha => amounts_ext (m := m) (m' := { m with dips := m.dips ++ [(x, y)] }) (ds := [(x, y)]) rfl (fun w hw => rfl) (g.fa f hf a ha)
  most := g.most
theorem GM.addT (g : GM m fs) {x y : Str} (hx : x ∈ names m.kinds) (hy : y ∈ names m.kinds) (l : m.thirst.length < 32) : GM { m with thirst := m.thirst ++ [(x, y)] } fs where
  kn := g.kn
  kg := g.kg
  k8 := g.k8
  th := fun w hw => by
    rcases List.mem_append.mp hw with hw | hw
    · exact g.th w hw
    · have : w = (x, y) := by simpa using hw
      rw [this]; exact ⟨hx, hy⟩
  t32 := by show (m.thirst ++ [(x, y)]).length ≤ 32; rw [List.length_append, List.length_singleton]; omega
  pn := g.pn
  pg := g.pg
  p8 := g.p8
  cn := g.cn
  cg := g.cg
  c8 := g.c8
  dg := g.dg
  d24 := g.d24
  fe := g.fe
  f32 := g.f32
  fa := fun f hf a ha => amounts_ext (m := m) (m' := { m with thirst := m.thirst ++ [(x, y)] }) (ds := []) (List.append_nil _).symm (fun w hw => rfl) (g.fa f hf a ha)
  most := g.most
end
end
end LW
set_option Elab.async false
set_option linter.all false
set_option maxRecDepth 100000
set_option maxHeartbeats 4000000
namespace LW
open PySem L2 T3
open Evl (Ex)
local macro_rules | `(tactic| walk_at "t3") => `(tactic| first
  | (with_reducible refine s_seq ?_) | (with_reducible refine s_asg ?_) | (with_reducible refine s_if ?_) | (with_reducible refine s_ret ?_) | (with_reducible refine s_drop ?_) | (with_reducible refine s_asgG ?_) | (with_reducible refine s_retN ?_)
  | (with_reducible refine s_next ?_) | (with_reducible refine s_brk ?_) | (with_reducible refine s_cont ?_) | (with_reducible refine s_par ?_) | (with_reducible refine s_fld ?_)
  | ((with_reducible refine' w_var ?hx ?_); (case hx => exact rfl)) | (with_reducible refine w_cI ?_) | (with_reducible refine w_cB ?_) | (with_reducible refine w_cS ?_) | (with_reducible refine w_cN ?_) | (with_reducible refine w_cT ?_) | (with_reducible refine w_cR ?_)
  | (with_reducible refine w_op ?_) | (with_reducible refine w_un ?_) | (with_reducible refine w_nil ?_) | (with_reducible refine w_tup ?_) | (with_reducible refine w_cons ?_) | (with_reducible refine w_cb ?_) | (with_reducible refine w_bm0 ?_) | (with_reducible refine w_bm ?_)
  | (with_reducible refine w_test ?_) | (with_reducible refine w_B ?_) | (with_reducible refine w_notT ?_) | (with_reducible refine w_yes ?_) | (with_reducible refine w_notV ?_)
  | (with_reducible refine w_ifE ?_) | (with_reducible refine w_isN ?_) | (with_reducible refine w_notN ?_) | (with_reducible refine w_tr ?_) | (with_reducible refine w_chain ?_) | (with_reducible refine w_fld ?_) | (with_reducible refine w_sl ?_) | (with_reducible refine o_no ?_) | (with_reducible refine o_some ?_)
  | (with_reducible refine w_call0 ?_) | (with_reducible refine g_name ?_) | ((with_reducible refine' g_tup ?hx ?hy ?_); (case hx => exact rfl); (case hy => exact rfl)) | (with_reducible refine g_cons ?_) | (with_reducible refine g_nil ?_) | (with_reducible refine g_set ?_)
  | (with_reducible refine r3_add_ii ?_) | (with_reducible refine r3_sub ?_) | (with_reducible refine r3_lt ?_) | (with_reducible refine r3_le ?_) | (with_reducible refine r3_gt ?_) | (with_reducible refine r3_ge ?_) | (with_reducible refine u3_neg ?_)
  | (with_reducible refine c3_int_i ?_) | (with_reducible refine c3_int_b ?_) | (with_reducible refine c3_abs ?_) | (with_reducible refine c3_len_t ?_) | (with_reducible refine c3_len .fz ?_) | (with_reducible refine c3_max2 ?_) | (with_reducible refine c3_min2 ?_)
  | (with_reducible refine r3_eq (n := 9) (m := 9) okD_int okD_int ?_) | (with_reducible refine r3_ne (n := 9) (m := 9) okD_int okD_int ?_)
  | ((with_reducible refine' Exists.intro _ (And.intro ?hx ?_)); (case hx => exact rfl))
  | ((with_reducible refine' And.intro ?hx ?_); (case hx => (show List.length _ ≤ 100000); exact Nat.le_of_ble_eq_true rfl))
  | (with_reducible refine c3_lenL (c3_len_t ?_)) | (with_reducible refine c3_lenL (c3_len .fz ?_)))

section
variable {P : Program} {w : World} {K : PySem.W.Frag} {mg : Str → Option Value} {base : Heap} {A0 : Adr}

def S_model : Sp3 := fun ds M Q _ => ∃ (a : Addr) (o : DO) (mo : Nat), ds = [.ref a, .int mo] ∧ M a = some o ∧ IsSrc o ∧ mo ≤ 23 ∧
  ∀ M' L m, GM m [] → m.kinds ≠ [] → m.pots ≠ [] → m.cloths ≠ [] → m.dips.length ≤ mo → m.thirst.length ≤ 3 → LM M' L m → Src M' a L → Q (.ref L.o) M'
theorem ok_model (T : Tx P K mg A0) : FnOk P w K mg base CX0 4 A0.f_model A0.d_model ["_law_source_here", "_law_most"] (lift3 S_model) := by
  refine T.F_model.ok sc_model (lift3_len fun ds M Q E ⟨a, b, c, h, _⟩ => by rw [h]; rfl) (fun cdv A outer s H vs Q E hr h => ?_)
  have hu := hr.units
  have hu5 := units65 hr
  refine ⟨_, (pss_cons (ps_set (i := 2) sc_model.nd (by rfl) (Or.inl (by rfl)) (pe_lst (pa_cons pe_str (pa_cons pe_str (pa_cons pe_str pa_nil)))))
  (pss_cons (ps_set (i := 3) sc_model.nd (by rfl) (Or.inl (by rfl)) (pe_ix (ix_seqK K rfl) (pe_lst (pa_cons pe_int (pa_cons pe_int (pa_cons pe_int pa_nil)))) (pe_call (ok_draw T) (hr.mono (by decide)) (by rfl) T.g_draw T.k_draw T.b_draw .nil pass0 (pa_cons (pv 0) (pa_cons pe_int pa_nil))) (fun _ _ => by rfl)))
  (pss_cons (ps_set (i := 4) sc_model.nd (by rfl) (Or.inl (by rfl)) (pe_lst (pa_cons (pe_lst pa_nil) (pa_cons (pe_lst pa_nil) (pa_cons (pe_lst pa_nil) (pa_cons (pe_lst pa_nil) (pa_cons (pe_lst pa_nil) (pa_cons (pe_lst pa_nil) pa_nil))))))))
  (pss_cons (ps_for PassesOwn.never (by rfl) (pi_list (pe_call (ok_names T) (hr.mono (by decide)) (by rfl) T.g_names T.k_names T.b_names .nil pass0 (pa_cons (pv 0) (pa_cons (pe_op op_ADD pe_int (pe_call (ok_draw T) (hr.mono (by decide)) (by rfl) T.g_draw T.k_draw T.b_draw .nil pass0 (pa_cons (pv 0) (pa_cons (pv 3) pa_nil)))) pa_nil)))) (pg_name (i := 5) sc_model.nd (by rfl) (Or.inl (by rfl))) (pss_one (ps_expr (pe_bm PySem.F.plainAttrs_list PySem.F.slot_list_append PySem.F.type_list_append mt_append (pe_ix (ix_seqK K rfl) (pv 4) pe_int (fun _ _ => by rfl)) (pa_cons (pe_tup (pa_cons (pv 5) (pa_cons (pe_ix (ix_seqK K rfl) (pv 2) (pe_call (ok_draw T) (hr.mono (by decide)) (by rfl) T.g_draw T.k_draw T.b_draw .nil pass0 (pa_cons (pv 0) (pa_cons pe_int pa_nil))) (fun _ _ => by rfl)) pa_nil))) pa_nil)))))
  (pss_cons (ps_for PassesOwn.never (by rfl) (pi_range1 (by rfl) T.n_range (pa_cons (pe_call (ok_draw T) (hr.mono (by decide)) (by rfl) T.g_draw T.k_draw T.b_draw .nil pass0 (pa_cons (pv 0) (pa_cons pe_int pa_nil))) pa_nil)) (pg_name (i := 6) sc_model.nd (by rfl) (Or.inl (by rfl))) (pss_cons (ps_set (i := 7) sc_model.nd (by rfl) (Or.inl (by rfl)) (pe_ix (ix_seqK K rfl) (pe_ix (ix_seqK K rfl) (pe_ix (ix_seqK K rfl) (pv 4) pe_int (fun _ _ => by rfl)) (pe_call (ok_draw T) (hr.mono (by decide)) (by rfl) T.g_draw T.k_draw T.b_draw .nil pass0 (pa_cons (pv 0) (pa_cons (pe_callB (call_lenDK K rfl) (by rfl) T.n_len PySem.boot_len (pa_cons (pe_ix (ix_seqK K rfl) (pv 4) pe_int (fun _ _ => by rfl)) pa_nil)) pa_nil))) (fun _ _ => by rfl)) pe_int (fun _ _ => by rfl)))
  (pss_one (ps_expr (pe_bm PySem.F.plainAttrs_list PySem.F.slot_list_append PySem.F.type_list_append mt_append (pe_ix (ix_seqK K rfl) (pv 4) pe_int (fun _ _ => by rfl)) (pa_cons (pe_tup (pa_cons (pv 7) (pa_cons (pe_ix (ix_seqK K rfl) (pe_ix (ix_seqK K rfl) (pe_ix (ix_seqK K rfl) (pv 4) pe_int (fun _ _ => by rfl)) (pe_call (ok_draw T) (hr.mono (by decide)) (by rfl) T.g_draw T.k_draw T.b_draw .nil pass0 (pa_cons (pv 0) (pa_cons (pe_callB (call_lenDK K rfl) (by rfl) T.n_len PySem.boot_len (pa_cons (pe_ix (ix_seqK K rfl) (pv 4) pe_int (fun _ _ => by rfl)) pa_nil)) pa_nil))) (fun _ _ => by rfl)) pe_int (fun _ _ => by rfl)) pa_nil))) pa_nil))))))
  (pss_cons (ps_asg (pe_call (ok_names T) (hr.mono (by decide)) (by rfl) T.g_names T.k_names T.b_names .nil pass0 (pa_cons (pv 0) (pa_cons (pe_op op_ADD pe_int (pe_op op_modN (pe_op op_ADD pe_int (pe_call (ok_draw T) (hr.mono (by decide)) (by rfl) T.g_draw T.k_draw T.b_draw .nil pass0 (pa_cons (pv 0) (pa_cons (pv 3) pa_nil)))) (pv 3))) pa_nil))) (pg_sub (pv 4) pe_int set_list))
  (pss_cons (ps_for PassesOwn.never (by rfl) (pi_list (pe_call (ok_names T) (hr.mono (by decide)) (by rfl) T.g_names T.k_names T.b_names .nil pass0 (pa_cons (pv 0) (pa_cons (pe_op op_ADD pe_int (pe_call (ok_draw T) (hr.mono (by decide)) (by rfl) T.g_draw T.k_draw T.b_draw .nil pass0 (pa_cons (pv 0) (pa_cons (pe_callB (call_min2 (by rfl)) (by rfl) T.n_min (by decide +kernel) (pa_cons (pv 3) (pa_cons pe_int pa_nil))) pa_nil)))) pa_nil)))) (pg_name (i := 5) sc_model.nd (by rfl) (Or.inl (by rfl))) (pss_one (ps_expr (pe_bm PySem.F.plainAttrs_list PySem.F.slot_list_append PySem.F.type_list_append mt_append (pe_ix (ix_seqK K rfl) (pv 4) pe_int (fun _ _ => by rfl)) (pa_cons (pe_tup (pa_cons (pv 5) (pa_cons (pe_ix (ix_seqK K rfl) (pe_ix (ix_seqK K rfl) (pe_ix (ix_seqK K rfl) (pv 4) pe_int (fun _ _ => by rfl)) (pe_call (ok_draw T) (hr.mono (by decide)) (by rfl) T.g_draw T.k_draw T.b_draw .nil pass0 (pa_cons (pv 0) (pa_cons (pe_callB (call_lenDK K rfl) (by rfl) T.n_len PySem.boot_len (pa_cons (pe_ix (ix_seqK K rfl) (pv 4) pe_int (fun _ _ => by rfl)) pa_nil)) pa_nil))) (fun _ _ => by rfl)) pe_int (fun _ _ => by rfl)) pa_nil))) pa_nil)))))
  (pss_cons (ps_for PassesOwn.never (by rfl) (pi_range1 (by rfl) T.n_range (pa_cons (pe_op op_modN (pe_op op_ADD pe_int (pe_call (ok_draw T) (hr.mono (by decide)) (by rfl) T.g_draw T.k_draw T.b_draw .nil pass0 (pa_cons (pv 0) (pa_cons (pe_op op_ADD (pv 1) pe_int) pa_nil)))) (pe_op op_ADD (pv 1) pe_int)) pa_nil)) (pg_name (i := 6) sc_model.nd (by rfl) (Or.inl (by rfl))) (pss_cons (ps_set (i := 8) sc_model.nd (by rfl) (Or.inl (by rfl)) (pe_ix (ix_seqK K rfl) (pe_ix (ix_seqK K rfl) (pe_ix (ix_seqK K rfl) (pv 4) pe_int (fun _ _ => by rfl)) (pe_op op_modN (pe_op op_ADD (pe_call (ok_draw T) (hr.mono (by decide)) (by rfl) T.g_draw T.k_draw T.b_draw .nil pass0 (pa_cons (pv 0) (pa_cons (pe_callB (call_lenDK K rfl) (by rfl) T.n_len PySem.boot_len (pa_cons (pe_ix (ix_seqK K rfl) (pv 4) pe_int (fun _ _ => by rfl)) pa_nil)) pa_nil))) (pv 6)) (pe_callB (call_lenDK K rfl) (by rfl) T.n_len PySem.boot_len (pa_cons (pe_ix (ix_seqK K rfl) (pv 4) pe_int (fun _ _ => by rfl)) pa_nil))) (fun _ _ => by rfl)) pe_int (fun _ _ => by rfl)))
  (pss_one (ps_expr (pe_bm PySem.F.plainAttrs_list PySem.F.slot_list_append PySem.F.type_list_append mt_append (pe_ix (ix_seqK K rfl) (pv 4) pe_int (fun _ _ => by rfl)) (pa_cons (pe_tup (pa_cons (pv 8) (pa_cons (pe_ix (ix_seqK K rfl) (pe_ix (ix_seqK K rfl) (pv 4) pe_int (fun _ _ => by rfl)) (pe_op op_modN (pe_op op_ADD (pe_call (ok_draw T) (hr.mono (by decide)) (by rfl) T.g_draw T.k_draw T.b_draw .nil pass0 (pa_cons (pv 0) (pa_cons (pe_callB (call_lenDK K rfl) (by rfl) T.n_len PySem.boot_len (pa_cons (pe_ix (ix_seqK K rfl) (pv 4) pe_int (fun _ _ => by rfl)) pa_nil)) pa_nil))) (pe_op op_fdivW (pv 6) pe_int)) (pe_callB (call_lenDK K rfl) (by rfl) T.n_len PySem.boot_len (pa_cons (pe_ix (ix_seqK K rfl) (pv 4) pe_int (fun _ _ => by rfl)) pa_nil))) (fun _ _ => by rfl)) pa_nil))) pa_nil))))))
  (pss_one (ps_ret (pv 4))))))))))), run3 h fun B ds M Q3 E3 hs hE => ?_⟩
  obtain ⟨a, o, mo, rfl, hm, ho, hmo, q⟩ := hs
  change W3s B _ _ [some (.ref a), some (.int (mo : Nat)), none, none, none, none, none, none, none] M
  try dsimp only [cxOf, Cx.nox, Cx.wish]
  repeat walk_at "t3"
  refine w_lst ?_
  repeat walk_at "t3"
  refine w_lst ?_
  repeat walk_at "t3"
  refine ⟨a, 3, o, rfl, hm, ho, by decide, by decide, fun r o1 r0 r1 ho1 => ?_⟩
  obtain ⟨many, hz, z1, z2⟩ : ∃ z : Nat, [D.int 2, .int 3, .int 8][r.toNat]? = some (.int (z : Nat)) ∧ 2 ≤ z ∧ z ≤ 8 := by
    rcases (show r = 0 ∨ r = 1 ∨ r = 2 by omega) with rfl | rfl | rfl
    · exact ⟨2, rfl, by decide, by decide⟩
    · exact ⟨3, rfl, by decide, by decide⟩
    · exact ⟨8, rfl, by decide, by decide⟩
  refine r3_ix_l .fz (at3 (by omega) hz) ?_
  repeat walk_at "t3"
  have hm1 : mput M a o1 a = some o1 := mput_same
  generalize mput M a o1 = M1 at hm1
  clear hm ho M
  refine w_lstO ?_
  repeat walk_at "t3"
  refine w_lstO ?_
  repeat walk_at "t3"
  intro l1 n1
  repeat walk_at "t3"
  refine w_lstO ?_
  repeat walk_at "t3"
  intro l2 n2
  repeat walk_at "t3"
  refine w_lstO ?_
  repeat walk_at "t3"
  intro l3 n3
  repeat walk_at "t3"
  refine w_lstO ?_
  repeat walk_at "t3"
  intro l4 n4
  repeat walk_at "t3"
  refine w_lstO ?_
  repeat walk_at "t3"
  intro l5 n5
  repeat walk_at "t3"
  refine w_lstO ?_
  repeat walk_at "t3"
  intro l6 n6
  repeat walk_at "t3"
  intro l0 n0
  obtain ⟨lm, fr, ke⟩ := lm_made n1 n2 n3 n4 n5 n6 n0
  have hL : a ∉ (⟨l0, l1, l2, l3, l4, l5, l6⟩ : LA).all := fun h => by rw [fr a h] at hm1; cases hm1
  have sr : Src _ a (⟨l0, l1, l2, l3, l4, l5, l6⟩ : LA) := ⟨⟨o1, (ke a hL).trans hm1, ho1⟩, hL⟩
  generalize mput (mput (mput (mput (mput (mput (mput M1 l1 (.lst [])) l2 (.lst [])) l3 (.lst [])) l4 (.lst [])) l5 (.lst [])) l6 (.lst [])) l0 (.lst [.ref l1, .ref l2, .ref l3, .ref l4, .ref l5, .ref l6]) = M2 at lm sr
  clear n1 n2 n3 n4 n5 n6 n0 fr ke hL hm1 M1
  show W3s B _ _ [some (.ref a), some (.int (mo : Nat)), some (.lst [.str "loose", .str "fast", .str "unsure"]), some (.int (many : Nat)), some (.ref l0), none, none, none, none] M2
  have eL : l0 = (⟨l0, l1, l2, l3, l4, l5, l6⟩ : LA).o := rfl
  rw [eL]
  generalize (⟨l0, l1, l2, l3, l4, l5, l6⟩ : LA) = L at lm sr
  clear eL
  -- the kinds
  repeat walk_at "t3"
  refine s_for (i_listO ?_)
  repeat walk_at "t3"
  obtain ⟨⟨o2, hm2, ho2⟩, hL2⟩ := id sr
  refine ⟨a, many, o2, rfl, hm2, ho2, by omega, by omega, fun r2 o3 r20 r21 ho3 => ?_⟩
  repeat walk_at "t3"
  have sr3 := sr.draw ho3
  have lm3 := lm.off hL2 (x := o3)
  refine ⟨a, (1 + r2).toNat, o3, by rw [Int.toNat_of_nonneg (by omega)], mput_same, ho3, by omega, fun ns o4 pn hns ho4 hpn => ?_⟩
  have hpa : pn ≠ a := fun e => by subst e; rw [mput_same] at hpn; cases hpn
  have lm4 := (lm3.off hL2 (x := o4)).off (x := .lst (ns.map .str)) (fun e => (by have h := lm3.fresh hpn; exact h e))
  have sr4 := (sr3.draw ho4).put (x := .lst (ns.map .str)) hpa
  have hpL := lm3.fresh hpn
  have hpm : mput (mput (mput M2 a o3) a o4) pn (.lst (ns.map .str)) pn = some (.lst (ns.map .str)) := mput_same
  generalize mput (mput (mput M2 a o3) a o4) pn (.lst (ns.map .str)) = M3 at lm4 sr4 hpm
  obtain ⟨ln, ndn, gn⟩ := hns
  refine ⟨pn, _, rfl, hpm, fun i σ' M' => ∃ (ks : List (Str × Str)) (b5 : Option D), LM M' L { em with kinds := ks } ∧ Src M' a L ∧ M' pn = some (.lst (ns.map .str)) ∧ names ks = ns.take i ∧ (∀ w ∈ ks, w.2 ∈ HOLDS3) ∧
    σ' = [some (.ref a), some (.int (mo : Nat)), some (.lst [.str "loose", .str "fast", .str "unsure"]), some (.int (many : Nat)), some (.ref L.o), b5, none, none, none], ?_, ⟨[], none, lm4, sr4, hpm, by simp [names], by simp, rfl⟩, ?_, ?_⟩
  · rintro i σ' M' ⟨ks, b5, _, _, h, _⟩
    exact h
  · rintro i d σ' M' hi ⟨ks, b5, lmk, srk, hpk, ek, gk, rfl⟩
    obtain ⟨z, hz, rfl⟩ := map_at hi
    have lk : ks.length ≤ 8 := by
      have := congrArg List.length ek
      simp only [names, List.length_map, List.length_take] at this
      omega
    obtain ⟨⟨o5, hm5, ho5⟩, hL5⟩ := id srk
    repeat walk_at "t3"
    refine r3_ix_l (.ow lmk.o) (at3 (j := 0) (by omega) (v := .ref L.k) rfl) ?_
    refine ⟨.lo lmk.k, ?_⟩
    repeat walk_at "t3"
    refine ⟨a, 3, o5, rfl, hm5, ho5, by decide, by decide, fun r5 o6 r50 r51 ho6 => ?_⟩
    obtain ⟨gr, hgr, hgr2⟩ : ∃ z : Str, [D.str "loose", .str "fast", .str "unsure"][r5.toNat]? = some (.str z) ∧ z ∈ HOLDS3 := by
      rcases (show r5 = 0 ∨ r5 = 1 ∨ r5 = 2 by omega) with rfl | rfl | rfl
      · exact ⟨"loose", rfl, by decide +kernel⟩
      · exact ⟨"fast", rfl, by decide +kernel⟩
      · exact ⟨"unsure", rfl, by decide +kernel⟩
    refine r3_ix_l .fz (at3 (by omega) hgr) ?_
    repeat walk_at "t3"
    have lm6 := lmk.off hL5 (x := o6)
    have sr6 := srk.draw ho6
    refine m3_append lm6.k (by rw [List.length_map]; show ks.length ≤ _; omega) ?_
    have lm7 := lm6.putK (ks ++ [(z, gr)])
    have hkp : L.k ≠ pn := fun e => hpL (by rw [← e]; exact (LM.in L).2.1)
    refine ⟨ks ++ [(z, gr)], _, by rw [List.map_append] at lm7; exact lm7, sr6.put (sr6.ne (LM.in L).2.1), ?_, ?_, ?_, rfl⟩
    · rw [mput_ne hkp.symm, mput_ne hpa]; exact hpk
    · rw [List.take_add_one, hz, ← ek]; simp [names]
    · intro w hw
      rcases List.mem_append.mp hw with h | h
      · exact gk w h
      · have : w = (z, gr) := by simpa using h
        rw [this]; exact hgr2
  rintro σ' M' ⟨ks, b5, lmk, srk, _, ek, gk, rfl⟩
  rw [List.length_map, List.take_length] at ek
  have lk : ks.length = (1 + r2).toNat := by rw [← ln, ← ek]; simp [names]
  clear hpm hpL lm4 sr4 hpn hpa lm3 sr3 lm sr
  show W3s B _ _ _ _
  -- the thirsts
  have lmap : ∀ l : List (Str × Str), (l.map wD).length = l.length := fun l => List.length_map _
  have ksp : 0 < ks.length := by omega
  have ks8 : ks.length ≤ 8 := by omega
  repeat walk_at "t3"
  refine s_for (i_rng1 ?_)
  repeat walk_at "t3"
  obtain ⟨⟨o7, hm7, ho7⟩, hL7⟩ := id srk
  refine ⟨a, 4, o7, rfl, hm7, ho7, by decide, by decide, fun r7 o8 r70 r71 ho8 => ?_⟩
  have lm8 := lmk.off hL7 (x := o8)
  have sr8 := srk.draw ho8
  repeat walk_at "t3"
  refine ⟨by omega, by omega, fun i σ' M' => ∃ (th : List (Str × Str)) (b6 b7 : Option D), LM M' L { em with kinds := ks, thirst := th } ∧ Src M' a L ∧ th.length = i ∧ i ≤ r7.toNat ∧ (∀ w ∈ th, w.1 ∈ names ks ∧ w.2 ∈ names ks) ∧
    σ' = [some (.ref a), some (.int (mo : Nat)), some (.lst [.str "loose", .str "fast", .str "unsure"]), some (.int (many : Nat)), some (.ref L.o), b5, b6, b7, none], fun _ _ _ _ => trivial, ⟨[], none, none, lm8, sr8, rfl, Nat.zero_le _, by simp, rfl⟩, ?_, ?_⟩
  · rintro i d σ' M' hi ⟨th, b6, b7, lmt, srt, lt, it, gt, rfl⟩
    have hlt : i < r7.toNat := by
      have := (List.getElem?_eq_some_iff.mp hi).1
      simpa using this
    obtain ⟨⟨o9, hm9, ho9⟩, hL9⟩ := id srt
    repeat walk_at "t3"
    refine r3_ix_l (.ow lmt.o) (at3 (j := 0) (by omega) (v := .ref L.k) rfl) ?_
    repeat walk_at "t3"
    refine r3_ix_l (.ow lmt.o) (at3 (j := 0) (by omega) (v := .ref L.k) rfl) ?_
    repeat walk_at "t3"
    refine c3_lenL (c3_len (.ow lmt.k) ?_)
    repeat walk_at "t3"
    refine ⟨a, _, o9, rfl, hm9, ho9, by rw [lmap]; show (0 : Int) < (ks.length : Int); omega, by rw [lmap]; show ((ks.length : Nat) : Int) < _; omega, fun r9 o10 r90 r91 ho10 => ?_⟩
    obtain ⟨x, hx, hxd⟩ := pick r90 r91
    have lm10 := lmt.off hL9 (x := o10)
    have sr10 := srt.draw ho10
    refine r3_ix_l (.ow lm10.k) (at3 (j := r9.toNat) (by omega) hxd) ?_
    repeat walk_at "t3"
    refine r3_ix_t (at3 (j := 0) (by omega) (v := .str x.1) rfl) ?_
    repeat walk_at "t3"
    refine r3_ix_l (.ow lm10.o) (at3 (j := 1) (by omega) (v := .ref L.t) rfl) ?_
    refine ⟨.lo lm10.t, ?_⟩
    repeat walk_at "t3"
    refine r3_ix_l (.ow lm10.o) (at3 (j := 0) (by omega) (v := .ref L.k) rfl) ?_
    repeat walk_at "t3"
    refine r3_ix_l (.ow lm10.o) (at3 (j := 0) (by omega) (v := .ref L.k) rfl) ?_
    repeat walk_at "t3"
    refine c3_lenL (c3_len (.ow lm10.k) ?_)
    repeat walk_at "t3"
    refine ⟨a, _, o10, rfl, mput_same, ho10, by rw [lmap]; show (0 : Int) < (ks.length : Int); omega, by rw [lmap]; show ((ks.length : Nat) : Int) < _; omega, fun r11 o12 r110 r111 ho12 => ?_⟩
    obtain ⟨y, hy, hyd⟩ := pick r110 r111
    have lm12 := lm10.off hL9 (x := o12)
    have sr12 := sr10.draw ho12
    refine r3_ix_l (.ow lm12.k) (at3 (j := r11.toNat) (by omega) hyd) ?_
    repeat walk_at "t3"
    refine r3_ix_t (at3 (j := 0) (by omega) (v := .str y.1) rfl) ?_
    repeat walk_at "t3"
    refine m3_append lm12.t (by rw [lmap]; show th.length ≤ _; omega) ?_
    have lm13 := lm12.putT (th ++ [(x.1, y.1)])
    refine ⟨th ++ [(x.1, y.1)], _, _, by rw [List.map_append] at lm13; exact lm13, sr12.put (sr12.ne (LM.in L).2.2.1), by rw [List.length_append, lt]; rfl, hlt, ?_, rfl⟩
    intro w hw
    rcases List.mem_append.mp hw with h | h
    · exact gt w h
    · have : w = (x.1, y.1) := by simpa using h
      have hx' : x.1 ∈ names ks := in_names hx
      have hy' : y.1 ∈ names ks := in_names hy
      rw [this]; exact ⟨hx', hy'⟩
  rintro σ' M' ⟨th, b6, b7, lmt, srt, lt, _, gt, rfl⟩
  rw [List.length_map, List.length_range] at lt
  have lt3 : th.length ≤ 3 := by omega
  show W3s B _ _ _ _
  clear lm8 sr8 lmk srk
  -- the pots
  repeat walk_at "t3"
  obtain ⟨⟨o13, hm13, ho13⟩, hL13⟩ := id srt
  refine ⟨a, many, o13, rfl, hm13, ho13, by omega, by omega, fun r13 o14 r130 r131 ho14 => ?_⟩
  have lm14 := lmt.off hL13 (x := o14)
  have sr14 := srt.draw ho14
  repeat walk_at "t3"
  refine r3_mod (by omega) ?_
  repeat walk_at "t3"
  have hpm0 : 0 ≤ (1 + r13) % (many : Int) ∧ (1 + r13) % (many : Int) < many := ⟨Int.emod_nonneg _ (by omega), Int.emod_lt_of_pos _ (by omega)⟩
  refine ⟨a, (1 + (1 + r13) % (many : Int)).toNat, o14, by rw [Int.toNat_of_nonneg (by omega)], mput_same, ho14, by omega, fun ps o15 pp hps ho15 hpp => ?_⟩
  have hppL := lm14.fresh hpp
  have hppa : pp ≠ a := fun e => by subst e; rw [mput_same] at hpp; cases hpp
  have lm15 := (lm14.off hL13 (x := o15)).off (x := .lst (ps.map .str)) hppL
  have sr15 := (sr14.draw ho15).put (x := .lst (ps.map .str)) hppa
  have lm16 := lm15.newP hppL mput_same
  have hna : L.o ≠ a := sr15.ne (LM.in L).1
  have sr16 : Src (mput (mput (mput (mput M' a o14) a o15) pp (.lst (ps.map .str))) L.o (.lst [.ref L.k, .ref L.t, .ref pp, .ref L.c, .ref L.d, .ref L.f])) a { L with p := pp } :=
    ⟨(sr15.put hna).1, fun h => (by
      have h : a = L.o ∨ a = L.k ∨ a = L.t ∨ a = pp ∨ a = L.c ∨ a = L.d ∨ a = L.f := by simpa [LA.all] using h
      rcases h with h | h | h | h | h | h | h
      · exact hna h.symm
      · exact sr15.ne (LM.in L).2.1 h.symm
      · exact sr15.ne (LM.in L).2.2.1 h.symm
      · exact hppa h.symm
      · exact sr15.ne (LM.in L).2.2.2.2.1 h.symm
      · exact sr15.ne (LM.in L).2.2.2.2.2.1 h.symm
      · exact sr15.ne (LM.in L).2.2.2.2.2.2 h.symm)⟩
  have lm17 : LM (mput (mput (mput (mput M' a o14) a o15) pp (.lst (ps.map .str))) L.o (.lst [.ref L.k, .ref L.t, .ref pp, .ref L.c, .ref L.d, .ref L.f])) { L with p := pp } { em with kinds := ks, thirst := th, pots := ps } := lm16
  have lo15 := lm15.o
  clear lm14 sr14 lmt srt lm15 sr15 lm16
  generalize mput (mput (mput M' a o14) a o15) pp (.lst (ps.map .str)) = M4 at lm17 sr16 lo15
  repeat walk_at "t3"
  refine ⟨L.o, _, _, 2, rfl, rfl, lo15, rfl, ?_⟩
  show W3s B _ _ [some (.ref a), some (.int (mo : Nat)), some (.lst [.str "loose", .str "fast", .str "unsure"]), some (.int (many : Nat)), some (.ref ({ L with p := pp } : LA).o), b5, b6, b7, none] (mput M4 L.o (.lst [.ref L.k, .ref L.t, .ref pp, .ref L.c, .ref L.d, .ref L.f]))
  generalize mput M4 L.o (.lst [.ref L.k, .ref L.t, .ref pp, .ref L.c, .ref L.d, .ref L.f]) = M5 at lm17 sr16
  clear lo15 hppL hppa hpp hna hL13 hm13
  generalize ({ L with p := pp } : LA) = L' at lm17 sr16
  obtain ⟨lps, ndps, gps⟩ := hps
  have psp : 0 < ps.length := by omega
  -- the cloths
  repeat walk_at "t3"
  refine s_for (i_listO ?_)
  repeat walk_at "t3"
  obtain ⟨⟨o18, hm18, ho18⟩, hL18⟩ := id sr16
  have hmin : (0 : Int) < (if (7 : Int) < (many : Int) then 7 else (many : Int)) ∧ (if (7 : Int) < (many : Int) then 7 else (many : Int)) ≤ 7 := by split <;> omega
  refine ⟨a, _, o18, rfl, hm18, ho18, by omega, by omega, fun r18 o19 r180 r181 ho19 => ?_⟩
  have lm19 := lm17.off hL18 (x := o19)
  have sr19 := sr16.draw ho19
  repeat walk_at "t3"
  refine ⟨a, (2 + r18).toNat, o19, by rw [Int.toNat_of_nonneg (by omega)], mput_same, ho19, by omega, fun cn o20 pc hcn ho20 hpc => ?_⟩
  have hpcL := lm19.fresh hpc
  have hpca : pc ≠ a := fun e => by subst e; rw [mput_same] at hpc; cases hpc
  have lm20 := (lm19.off hL18 (x := o20)).off (x := .lst (cn.map .str)) hpcL
  have sr20 := (sr19.draw ho20).put (x := .lst (cn.map .str)) hpca
  have hpm : mput (mput (mput M5 a o19) a o20) pc (.lst (cn.map .str)) pc = some (.lst (cn.map .str)) := mput_same
  clear lm19 sr19 lm17 sr16 hm18
  generalize mput (mput (mput M5 a o19) a o20) pc (.lst (cn.map .str)) = M6 at lm20 sr20 hpm
  obtain ⟨lcn, ndcn, gcn⟩ := hcn
  refine ⟨pc, _, rfl, hpm, fun i σ' M' => ∃ (cs : List (Str × Str)) (b5 : Option D), LM M' L' { em with kinds := ks, thirst := th, pots := ps, cloths := cs } ∧ Src M' a L' ∧ M' pc = some (.lst (cn.map .str)) ∧ names cs = cn.take i ∧ (∀ w ∈ cs, w.2 ∈ names ks) ∧
    σ' = [some (.ref a), some (.int (mo : Nat)), some (.lst [.str "loose", .str "fast", .str "unsure"]), some (.int (many : Nat)), some (.ref L'.o), b5, b6, b7, none], ?_, ⟨[], b5, lm20, sr20, hpm, by simp [names], by simp, rfl⟩, ?_, ?_⟩
  · rintro i σ' M' ⟨cs, b5, _, _, h, _⟩
    exact h
  · rintro i d σ' M' hi ⟨cs, b5, lmk, srk, hpk, ek, gk, rfl⟩
    obtain ⟨z, hz, rfl⟩ := map_at hi
    have lk : cs.length ≤ 8 := by
      have := congrArg List.length ek
      simp only [names, List.length_map, List.length_take] at this
      omega
    obtain ⟨⟨o21, hm21, ho21⟩, hL21⟩ := id srk
    repeat walk_at "t3"
    refine r3_ix_l (.ow lmk.o) (at3 (j := 3) (by omega) (v := .ref L'.c) rfl) ?_
    refine ⟨.lo lmk.c, ?_⟩
    repeat walk_at "t3"
    refine r3_ix_l (.ow lmk.o) (at3 (j := 0) (by omega) (v := .ref L'.k) rfl) ?_
    repeat walk_at "t3"
    refine r3_ix_l (.ow lmk.o) (at3 (j := 0) (by omega) (v := .ref L'.k) rfl) ?_
    repeat walk_at "t3"
    refine c3_lenL (c3_len (.ow lmk.k) ?_)
    repeat walk_at "t3"
    refine ⟨a, _, o21, rfl, hm21, ho21, by rw [lmap]; show (0 : Int) < (ks.length : Int); omega, by rw [lmap]; show ((ks.length : Nat) : Int) < _; omega, fun r21 o22 r210 r211 ho22 => ?_⟩
    obtain ⟨x, hx, hxd⟩ := pick r210 r211
    have lm22 := lmk.off hL21 (x := o22)
    have sr22 := srk.draw ho22
    refine r3_ix_l (.ow lm22.k) (at3 (j := r21.toNat) (by omega) hxd) ?_
    repeat walk_at "t3"
    refine r3_ix_t (at3 (j := 0) (by omega) (v := .str x.1) rfl) ?_
    repeat walk_at "t3"
    refine m3_append lm22.c (by rw [lmap]; show cs.length ≤ _; omega) ?_
    have lm23 := lm22.putC (cs ++ [(z, x.1)])
    have hkp : L'.c ≠ pc := fun e => hpcL (by rw [← e]; exact (LM.in L').2.2.2.2.1)
    refine ⟨cs ++ [(z, x.1)], _, by rw [List.map_append] at lm23; exact lm23, sr22.put (sr22.ne (LM.in L').2.2.2.2.1), ?_, ?_, ?_, rfl⟩
    · rw [mput_ne hkp.symm, mput_ne hpca]; exact hpk
    · rw [List.take_add_one, hz, ← ek]; simp [names]
    · intro w hw
      rcases List.mem_append.mp hw with h | h
      · exact gk w h
      · have : w = (z, x.1) := by simpa using h
        have hx' : x.1 ∈ names ks := in_names hx
        rw [this]; exact hx'
  rintro σ' M' ⟨cs, b5', lmc, src, _, ec, gc, rfl⟩
  rw [List.length_map, List.take_length] at ec
  have lc : cs.length = (2 + r18).toNat := by rw [← lcn, ← ec]; simp [names]
  have csp : 0 < cs.length := by omega
  have cs8 : cs.length ≤ 8 := by omega
  have ps8 : ps.length ≤ 8 := by omega
  show W3s B _ _ _ _
  clear hpm hpcL lm20 sr20 hpc hpca
  -- the dips
  repeat walk_at "t3"
  refine s_for (i_rng1 ?_)
  repeat walk_at "t3"
  obtain ⟨⟨o24, hm24, ho24⟩, hL24⟩ := id src
  refine ⟨a, _, o24, rfl, hm24, ho24, by omega, by omega, fun r24 o25 r240 r241 ho25 => ?_⟩
  have lm25 := lmc.off hL24 (x := o25)
  have sr25 := src.draw ho25
  clear lmc src hm24
  generalize mput M' a o25 = M7 at lm25 sr25
  repeat walk_at "t3"
  refine r3_mod (by omega) ?_
  repeat walk_at "t3"
  have hm11 : 0 ≤ (3 + r24) % ((mo : Int) + 1) ∧ (3 + r24) % ((mo : Int) + 1) < (mo : Int) + 1 := ⟨Int.emod_nonneg _ (by omega), Int.emod_lt_of_pos _ (by omega)⟩
  generalize hN : (3 + r24) % ((mo : Int) + 1) = N at hm11 ⊢
  refine ⟨by omega, by omega, fun i σ' M' => ∃ (dl : List (Str × Str)) (b6 b8 : Option D), LM M' L' { em with kinds := ks, thirst := th, pots := ps, cloths := cs, dips := dl } ∧ Src M' a L' ∧ dl.length = i ∧ i ≤ N.toNat ∧ (∀ w ∈ dl, w.1 ∈ names cs ∧ w.2 ∈ ps) ∧
    σ' = [some (.ref a), some (.int (mo : Nat)), some (.lst [.str "loose", .str "fast", .str "unsure"]), some (.int (many : Nat)), some (.ref L'.o), b5', b6, b7, b8], fun _ _ _ _ => trivial, ⟨[], b6, none, lm25, sr25, rfl, Nat.zero_le _, by simp, rfl⟩, ?_, ?_⟩
  · rintro i d σ' M' hi ⟨dl, b6, b8, lmt, srt, lt, it, gt, rfl⟩
    obtain ⟨i', h1, rfl⟩ := map_at hi
    obtain ⟨h2, h3⟩ := List.getElem?_eq_some_iff.mp h1
    have h4 : i' = i := by simpa using h3.symm
    subst h4
    have hlt : i' < N.toNat := by simpa using h2
    obtain ⟨⟨o26, hm26, ho26⟩, hL26⟩ := id srt
    repeat walk_at "t3"
    refine r3_ix_l (.ow lmt.o) (at3 (j := 3) (by omega) (v := .ref L'.c) rfl) ?_
    repeat walk_at "t3"
    refine r3_ix_l (.ow lmt.o) (at3 (j := 3) (by omega) (v := .ref L'.c) rfl) ?_
    repeat walk_at "t3"
    refine c3_lenL (c3_len (.ow lmt.c) ?_)
    repeat walk_at "t3"
    refine ⟨a, _, o26, rfl, hm26, ho26, by rw [lmap]; show (0 : Int) < (cs.length : Int); omega, by rw [lmap]; show ((cs.length : Nat) : Int) < _; omega, fun r26 o27 r260 r261 ho27 => ?_⟩
    have lm27 := lmt.off hL26 (x := o27)
    have sr27 := srt.draw ho27
    repeat walk_at "t3"
    refine r3_ix_l (.ow lm27.o) (at3 (j := 3) (by omega) (v := .ref L'.c) rfl) ?_
    repeat walk_at "t3"
    refine c3_lenL (c3_len (.ow lm27.c) ?_)
    have e27 : (({ em with kinds := ks, thirst := th, pots := ps, cloths := cs, dips := dl } : BM).cloths.map wD).length = cs.length := lmap _
    rw [e27] at r261 ⊢
    refine r3_mod (by omega) ?_
    have hm27 : 0 ≤ (r26 + (i' : Nat)) % (cs.length : Int) ∧ (r26 + (i' : Nat)) % (cs.length : Int) < cs.length := ⟨Int.emod_nonneg _ (by omega), Int.emod_lt_of_pos _ (by omega)⟩
    obtain ⟨x, hx, hxd⟩ := pick (l := cs) hm27.1 (by rw [lmap]; exact hm27.2)
    refine r3_ix_l (.ow lm27.c) (at3 (j := ((r26 + (i' : Nat)) % (cs.length : Int)).toNat) (by omega) hxd) ?_
    repeat walk_at "t3"
    refine r3_ix_t (at3 (j := 0) (by omega) (v := .str x.1) rfl) ?_
    repeat walk_at "t3"
    refine r3_ix_l (.ow lm27.o) (at3 (j := 4) (by omega) (v := .ref L'.d) rfl) ?_
    refine ⟨.lo lm27.d, ?_⟩
    repeat walk_at "t3"
    refine r3_ix_l (.ow lm27.o) (at3 (j := 2) (by omega) (v := .ref L'.p) rfl) ?_
    repeat walk_at "t3"
    refine r3_ix_l (.ow lm27.o) (at3 (j := 2) (by omega) (v := .ref L'.p) rfl) ?_
    repeat walk_at "t3"
    refine c3_lenL (c3_len (.ow lm27.p) ?_)
    have e28 : (({ em with kinds := ks, thirst := th, pots := ps, cloths := cs, dips := dl } : BM).pots.map D.str).length = ps.length := List.length_map _
    rw [e28]
    repeat walk_at "t3"
    refine ⟨a, _, o27, rfl, mput_same, ho27, by omega, by omega, fun r28 o29 r280 r281 ho29 => ?_⟩
    have lm29 := lm27.off hL26 (x := o29)
    have sr29 := sr27.draw ho29
    repeat walk_at "t3"
    refine r3_fdiv (by decide) (by decide) ?_
    repeat walk_at "t3"
    refine r3_ix_l (.ow lm29.o) (at3 (j := 2) (by omega) (v := .ref L'.p) rfl) ?_
    repeat walk_at "t3"
    refine c3_lenL (c3_len (.ow lm29.p) ?_)
    rw [e28]
    refine r3_mod (by omega) ?_
    have hm29 : 0 ≤ (r28 + (i' : Int) / 2) % (ps.length : Int) ∧ (r28 + (i' : Int) / 2) % (ps.length : Int) < ps.length := ⟨Int.emod_nonneg _ (by omega), Int.emod_lt_of_pos _ (by omega)⟩
    obtain ⟨y, hy, hyd⟩ := pickS (l := ps) hm29.1 (by rw [List.length_map]; exact hm29.2)
    refine r3_ix_l (.ow lm29.p) (at3 (j := ((r28 + (i' : Int) / 2) % (ps.length : Int)).toNat) (by omega) hyd) ?_
    repeat walk_at "t3"
    refine m3_append lm29.d (by rw [lmap]; show dl.length ≤ _; omega) ?_
    have lm30 := lm29.putD (dl ++ [(x.1, y)])
    refine ⟨dl ++ [(x.1, y)], _, _, by rw [List.map_append] at lm30; exact lm30, sr29.put (sr29.ne (LM.in L').2.2.2.2.2.1), by rw [List.length_append, lt]; rfl, hlt, ?_, rfl⟩
    intro w hw
    rcases List.mem_append.mp hw with h | h
    · exact gt w h
    · have : w = (x.1, y) := by simpa using h
      have hx' : x.1 ∈ names cs := in_names hx
      rw [this]; exact ⟨hx', hy⟩
  rintro σ' M' ⟨dl, b6, b8, lmd, srd, ld, _, gd, rfl⟩
  rw [List.length_map, List.length_range] at ld
  show W3s B _ _ _ _
  repeat walk_at "t3"
  have gk1 : ∀ w ∈ ks, goodS w.1 = true := fun w hw => gn _ (by rw [← ek]; exact in_names hw)
  have gc1 : ∀ w ∈ cs, goodS w.1 = true := fun w hw => gcn _ (by rw [← ec]; exact in_names hw)
  refine q M' L' { em with kinds := ks, thirst := th, pots := ps, cloths := cs, dips := dl } ⟨by show (names ks).Nodup; rw [ek]; exact ndn, fun w hw => ⟨gk1 w hw, gk w hw⟩, ks8, gt, by show th.length ≤ 32; omega, ndps, gps, ps8, by show (names cs).Nodup; rw [ec]; exact ndcn, fun w hw => ⟨gc1 w hw, gc w hw⟩, cs8, gd, by show dl.length ≤ 24; omega, rfl, by simp, by simp, rfl⟩ ?_ ?_ ?_ (by show dl.length ≤ mo; omega) lt3 lmd srd
  · intro e
    have e : ks = [] := e
    rw [e] at ksp; exact absurd ksp (Nat.lt_irrefl _)
  · intro e
    have e : ps = [] := e
    rw [e] at psp; exact absurd psp (Nat.lt_irrefl _)
  · intro e
    have e : cs = [] := e
    rw [e] at csp; exact absurd csp (Nat.lt_irrefl _)
end
end LW
set_option Elab.async false
set_option linter.all false
set_option maxRecDepth 100000
set_option maxHeartbeats 4000000
namespace LW
open PySem L2 T3
open Evl (Ex)
local macro_rules | `(tactic| walk_at "t3") => `(tactic| first
  | (with_reducible refine s_seq ?_) | (with_reducible refine s_asg ?_) | (with_reducible refine s_if ?_) | (with_reducible refine s_ret ?_) | (with_reducible refine s_drop ?_) | (with_reducible refine s_asgG ?_) | (with_reducible refine s_retN ?_)
  | (with_reducible refine s_next ?_) | (with_reducible refine s_brk ?_) | (with_reducible refine s_cont ?_) | (with_reducible refine s_par ?_) | (with_reducible refine s_fld ?_)
  | ((with_reducible refine' w_var ?hx ?_); (case hx => exact rfl)) | (with_reducible refine w_cI ?_) | (with_reducible refine w_cB ?_) | (with_reducible refine w_cS ?_) | (with_reducible refine w_cN ?_) | (with_reducible refine w_cT ?_) | (with_reducible refine w_cR ?_)
  | (with_reducible refine w_op ?_) | (with_reducible refine w_un ?_) | (with_reducible refine w_nil ?_) | (with_reducible refine w_tup ?_) | (with_reducible refine w_cons ?_) | (with_reducible refine w_cb ?_) | (with_reducible refine w_bm0 ?_) | (with_reducible refine w_bm ?_)
  | (with_reducible refine w_test ?_) | (with_reducible refine w_B ?_) | (with_reducible refine w_notT ?_) | (with_reducible refine w_yes ?_) | (with_reducible refine w_notV ?_)
  | (with_reducible refine w_ifE ?_) | (with_reducible refine w_isN ?_) | (with_reducible refine w_notN ?_) | (with_reducible refine w_tr ?_) | (with_reducible refine w_chain ?_) | (with_reducible refine w_fld ?_) | (with_reducible refine w_sl ?_) | (with_reducible refine o_no ?_) | (with_reducible refine o_some ?_)
  | (with_reducible refine w_call0 ?_) | (with_reducible refine g_name ?_) | ((with_reducible refine' g_tup ?hx ?hy ?_); (case hx => exact rfl); (case hy => exact rfl)) | (with_reducible refine g_cons ?_) | (with_reducible refine g_nil ?_) | (with_reducible refine g_set ?_)
  | (with_reducible refine r3_add_ii ?_) | (with_reducible refine r3_sub ?_) | (with_reducible refine r3_lt ?_) | (with_reducible refine r3_le ?_) | (with_reducible refine r3_gt ?_) | (with_reducible refine r3_ge ?_) | (with_reducible refine u3_neg ?_)
  | (with_reducible refine c3_int_i ?_) | (with_reducible refine c3_int_b ?_) | (with_reducible refine c3_abs ?_) | (with_reducible refine c3_len_t ?_) | (with_reducible refine c3_len .fz ?_) | (with_reducible refine c3_max2 ?_) | (with_reducible refine c3_min2 ?_)
  | (with_reducible refine r3_eq (n := 9) (m := 9) okD_int okD_int ?_) | (with_reducible refine r3_ne (n := 9) (m := 9) okD_int okD_int ?_)
  | ((with_reducible refine' Exists.intro _ (And.intro ?hx ?_)); (case hx => exact rfl))
  | ((with_reducible refine' And.intro ?hx ?_); (case hx => (show List.length _ ≤ 100000); exact Nat.le_of_ble_eq_true rfl))
  | (with_reducible refine c3_lenL (c3_len_t ?_)) | (with_reducible refine c3_lenL (c3_len .fz ?_)))

section
variable {P : Program} {w : World} {K : PySem.W.Frag} {mg : Str → Option Value} {base : Heap} {A0 : Adr}

theorem GM.vk {m : BM} {fs : List Fct} (g : GM m fs) {x : Str} (h : x ∈ names m.kinds) : AVal (.str x) := .str (good_okT (g.name h)) (good_len (g.name h))
theorem GM.vc {m : BM} {fs : List Fct} (g : GM m fs) {x : Str} (h : x ∈ names m.cloths) : AVal (.str x) := .str (good_okT (g.cname h)) (good_len (g.cname h))
theorem GM.vp {m : BM} {fs : List Fct} (g : GM m fs) {x : Str} (h : x ∈ m.pots) : AVal (.str x) := .str (good_okT (g.pg x h)) (good_len (g.pg x h))
mutual
theorem peq_rfl : ∀ d : D, peq d d = true
  | .non => rfl
  | .bl b => by simp
  | .int i => by simp
  | .str s => by simp
  | .ty _ => rfl
  | .ref _ => rfl
  | .ins _ _ _ => rfl
  | .tup ds => by rw [peq_tup]; exact peqs_rfl ds
  | .lst ds => by rw [peq_lst]; exact peqs_rfl ds
theorem peqs_rfl : ∀ ds : List D, PyData.eqvAll (pys ds) (pys ds) = true
  | [] => rfl
  | d :: ds => by rw [peqs_cc, peq_rfl d, peqs_rfl ds]; rfl
end
theorem r3_ne_rfl {B : Hp} {M : Mem} {x y : D} {Q : DQ} {n : Nat} (e : x = y) (h : okD n y = true) (hn : n ≤ 64) (q : Q (.bl false) M) : R3 B (rNeD K) x y M Q := by
  subst e
  refine r3_ne (n := n) (m := n) h h ?_ hn hn
  rw [peq_rfl]; exact q
theorem r3_eq_rfl {B : Hp} {M : Mem} {x y : D} {Q : DQ} {n : Nat} (e : x = y) (h : okD n y = true) (hn : n ≤ 64) (q : Q (.bl true) M) : R3 B (rEqD K) x y M Q := by
  subst e
  refine r3_eq (n := n) (m := n) h h ?_ hn hn
  rw [peq_rfl]; exact q
theorem r3_neO_rfl {B : Hp} {M : Mem} {x y : D} {xs : List D} {Q : DQ} {n : Nat} (lx : LstD M x xs) (ly : LstD M y xs) (h : okDs n xs = true) (hn : n < 64) (q : Q (.bl false) M) : R3 B (rNeD K) x y M Q := by
  refine r3_neO (n := n) (m := n) lx ly h h ?_ hn hn
  rw [peqs_rfl]; exact q
theorem r3_eqO_rfl {B : Hp} {M : Mem} {x y : D} {xs : List D} {Q : DQ} {n : Nat} (lx : LstD M x xs) (ly : LstD M y xs) (h : okDs n xs = true) (hn : n < 64) (q : Q (.bl true) M) : R3 B (rEqD K) x y M Q := by
  refine r3_eqO (n := n) (m := n) lx ly h h ?_ hn hn
  rw [peqs_rfl]; exact q
theorem okDs_w {l : List (Str × Str)} (h : ∀ w ∈ l, okT w.1 ∧ okT w.2) : okDs 1 (l.map wD) = true := okDs_iff.mpr fun d hd => by
  obtain ⟨w, hw, rfl⟩ := List.mem_map.mp hd
  show (okD 0 (.str w.1) && (okD 0 (.str w.2) && true)) = true
  rw [okD_S (h w hw).1, okD_S (h w hw).2]; rfl
theorem bk_sub {C : Addr} {M : Mem} {A : BA} {m : BM} (fr : Fresh M A) : ∀ z x, M z = some x → bookM C M A m z = some x := fun z x h => by
  have ne : ∀ y, M y = none → z ≠ y := fun y hy e => by rw [e, hy] at h; cases h
  obtain ⟨f1, f2, f3, f4, f5, f6, f7⟩ := fr
  simp [bookM, ne _ f1, ne _ f2, ne _ f3, ne _ f4, ne _ f5, ne _ f6, ne _ f7, h]
theorem off_of_some {A : BA} {M : Mem} {z : Addr} {x : DO} (fr : Fresh M A) (hz : M z = some x) : Off A z :=
  ⟨fun e => (by rw [e, fr.1] at hz; cases hz), fun e => (by rw [e, fr.2.1] at hz; cases hz), fun e => (by rw [e, fr.2.2.1] at hz; cases hz), fun e => (by rw [e, fr.2.2.2.1] at hz; cases hz), fun e => (by rw [e, fr.2.2.2.2.1] at hz; cases hz), fun e => (by rw [e, fr.2.2.2.2.2.1] at hz; cases hz), fun e => (by rw [e, fr.2.2.2.2.2.2] at hz; cases hz)⟩
theorem LM.offs {M : Mem} {L : LA} {m : BM} {A : BA} (lm : LM M L m) (fr : Fresh M A) : Offs A L := fun z hz => by
  obtain ⟨x, hx⟩ := lm.some hz
  exact off_of_some fr hx
theorem bk_self {C : Addr} {M : Mem} {A : BA} {m : BM} (hb : M A.b = some (.ins C (bookF A m))) (hh : M A.h = some (.dK (kvD m.kinds))) (ht : M A.t = some (.lst (m.thirst.map wD))) (hp : M A.p = some (.lst (m.pots.map .str)))
    (hc : M A.c = some (.dK (kvD m.cloths))) (hd : M A.d = some (.lst (m.dips.map wD))) (hf : M A.f = some (.lst m.facts)) : bookM C M A m = M := by
  funext a
  unfold bookM
  split
  · subst_vars; exact hb.symm
  split
  · subst_vars; exact hh.symm
  split
  · subst_vars; exact ht.symm
  split
  · subst_vars; exact hp.symm
  split
  · subst_vars; exact hc.symm
  split
  · subst_vars; exact hd.symm
  split
  · subst_vars; exact hf.symm
  · rfl
theorem bk_keep {C : Addr} {M M' : Mem} {A : BA} {m : BM} (o : BOk A) (h : ∀ z x, bookM C M A m z = some x → M' z = some x) : bookM C M' A m = M' :=
  bk_self (h _ _ bk_b) (h _ _ (bk_h o)) (h _ _ (bk_t o)) (h _ _ (bk_p o)) (h _ _ (bk_c o)) (h _ _ (bk_d o)) (h _ _ (bk_f o))
theorem LM.more {M M' : Mem} {L : LA} {m : BM} (lm : LM M L m) (h : ∀ z x, M z = Option.some x → M' z = Option.some x) : LM M' L m := lm.keep fun z hz => by
  obtain ⟨x, hx⟩ := lm.some hz
  rw [hx]; exact h _ _ hx
theorem not_takeS {l : List Str} {i : Nat} {w : Str} (nd : l.Nodup) (h : l[i]? = some w) : w ∉ l.take i := by
  intro hm
  rw [← List.take_append_drop i l, List.nodup_append] at nd
  exact nd.2.2 w hm w (List.mem_of_getElem? (i := 0) (by rw [List.getElem?_drop]; simpa using h)) rfl
theorem not_take {l : List (Str × Str)} {i : Nat} {w : Str × Str} (nd : (names l).Nodup) (h : l[i]? = some w) : w.1 ∉ names (l.take i) := by
  have := not_takeS nd (i := i) (w := w.1) (by unfold names; rw [List.getElem?_map, h]; rfl)
  unfold names at this ⊢
  rwa [List.map_take]
theorem put2_app : Put2 (fun vs zs => vs ++ zs) (fun ds es => ds ++ es) := fun F vs ds zs es h1 h2 => h1.append h2
theorem nat_at {n i : Nat} {d : D} (h : ((List.range n).map fun (i : Nat) => D.int (i : Int))[i]? = some d) : i < n ∧ d = .int (i : Int) := by
  obtain ⟨j, h1, rfl⟩ := map_at h
  obtain ⟨h2, h3⟩ := List.getElem?_eq_some_iff.mp h1
  have h4 : j = i := by simpa using h3.symm
  subst h4
  exact ⟨by simpa using h2, rfl⟩
theorem nat_at' {n i : Nat} {d : D} (h : ((List.range ((n : Nat) : Int).toNat).map fun (i : Nat) => D.int (i : Int))[i]? = some d) : i < n ∧ d = .int (i : Int) := by
  rw [Int.toNat_natCast] at h; exact nat_at h
section
variable {B : Hp} {M : Mem} {L : LA} {m : BM} {Q : DQ}
theorem r3_m0 (lm : LM M L m) (q : Q (.ref L.k) M) : R3 B (rIx K) (.ref L.o) (.int 0) M Q := r3_ix_l (.ow lm.o) (at3 (j := 0) (by omega) (v := .ref L.k) rfl) q
theorem r3_m1 (lm : LM M L m) (q : Q (.ref L.t) M) : R3 B (rIx K) (.ref L.o) (.int 1) M Q := r3_ix_l (.ow lm.o) (at3 (j := 1) (by omega) (v := .ref L.t) rfl) q
theorem r3_m2 (lm : LM M L m) (q : Q (.ref L.p) M) : R3 B (rIx K) (.ref L.o) (.int 2) M Q := r3_ix_l (.ow lm.o) (at3 (j := 2) (by omega) (v := .ref L.p) rfl) q
theorem r3_m3 (lm : LM M L m) (q : Q (.ref L.c) M) : R3 B (rIx K) (.ref L.o) (.int 3) M Q := r3_ix_l (.ow lm.o) (at3 (j := 3) (by omega) (v := .ref L.c) rfl) q
theorem r3_m4 (lm : LM M L m) (q : Q (.ref L.d) M) : R3 B (rIx K) (.ref L.o) (.int 4) M Q := r3_ix_l (.ow lm.o) (at3 (j := 4) (by omega) (v := .ref L.d) rfl) q
theorem r3_m5 (lm : LM M L m) (q : Q (.ref L.f) M) : R3 B (rIx K) (.ref L.o) (.int 5) M Q := r3_ix_l (.ow lm.o) (at3 (j := 5) (by omega) (v := .ref L.f) rfl) q
end
end
end LW
set_option Elab.async false
set_option linter.all false
set_option maxRecDepth 100000
set_option maxHeartbeats 4000000
namespace LW
open PySem L2 T3
open Evl (Ex)
local macro_rules | `(tactic| walk_at "t3") => `(tactic| first
  | (with_reducible refine s_seq ?_) | (with_reducible refine s_asg ?_) | (with_reducible refine s_if ?_) | (with_reducible refine s_ret ?_) | (with_reducible refine s_drop ?_) | (with_reducible refine s_asgG ?_) | (with_reducible refine s_retN ?_)
  | (with_reducible refine s_next ?_) | (with_reducible refine s_brk ?_) | (with_reducible refine s_cont ?_) | (with_reducible refine s_par ?_) | (with_reducible refine s_fld ?_)
  | ((with_reducible refine' w_var ?hx ?_); (case hx => exact rfl)) | (with_reducible refine w_cI ?_) | (with_reducible refine w_cB ?_) | (with_reducible refine w_cS ?_) | (with_reducible refine w_cN ?_) | (with_reducible refine w_cT ?_) | (with_reducible refine w_cR ?_)
  | (with_reducible refine w_op ?_) | (with_reducible refine w_un ?_) | (with_reducible refine w_nil ?_) | (with_reducible refine w_tup ?_) | (with_reducible refine w_cons ?_) | (with_reducible refine w_cb ?_) | (with_reducible refine w_bm0 ?_) | (with_reducible refine w_bm ?_)
  | (with_reducible refine w_test ?_) | (with_reducible refine w_B ?_) | (with_reducible refine w_notT ?_) | (with_reducible refine w_yes ?_) | (with_reducible refine w_notV ?_)
  | (with_reducible refine w_ifE ?_) | (with_reducible refine w_isN ?_) | (with_reducible refine w_notN ?_) | (with_reducible refine w_tr ?_) | (with_reducible refine w_chain ?_) | (with_reducible refine w_fld ?_) | (with_reducible refine w_sl ?_) | (with_reducible refine o_no ?_) | (with_reducible refine o_some ?_)
  | (with_reducible refine w_call0 ?_) | (with_reducible refine g_name ?_) | ((with_reducible refine' g_tup ?hx ?hy ?_); (case hx => exact rfl); (case hy => exact rfl)) | (with_reducible refine g_cons ?_) | (with_reducible refine g_nil ?_) | (with_reducible refine g_set ?_)
  | (with_reducible refine r3_add_ii ?_) | (with_reducible refine r3_sub ?_) | (with_reducible refine r3_lt ?_) | (with_reducible refine r3_le ?_) | (with_reducible refine r3_gt ?_) | (with_reducible refine r3_ge ?_) | (with_reducible refine u3_neg ?_)
  | (with_reducible refine c3_int_i ?_) | (with_reducible refine c3_int_b ?_) | (with_reducible refine c3_abs ?_) | (with_reducible refine c3_len_t ?_) | (with_reducible refine c3_len .fz ?_) | (with_reducible refine c3_max2 ?_) | (with_reducible refine c3_min2 ?_)
  | (with_reducible refine r3_eq (n := 9) (m := 9) okD_int okD_int ?_) | (with_reducible refine r3_ne (n := 9) (m := 9) okD_int okD_int ?_)
  | ((with_reducible refine' Exists.intro _ (And.intro ?hx ?_)); (case hx => exact rfl))
  | ((with_reducible refine' And.intro ?hx ?_); (case hx => (show List.length _ ≤ 100000); exact Nat.le_of_ble_eq_true rfl))
  | (with_reducible refine c3_lenL (c3_len_t ?_)) | (with_reducible refine c3_lenL (c3_len .fz ?_)))

section
variable {P : Program} {w : World} {K : PySem.W.Frag} {mg : Str → Option Value} {base : Heap} {A0 : Adr}

theorem join_ge : ∀ (l : List Str) (x : Str), x ∈ l → x.length ≤ (PySem.Str.join "" l).length
  | [x], y, h => by rw [List.mem_singleton.mp h]; exact Nat.le_refl _
  | x :: z :: r, y, h => by
    have e : (PySem.Str.join "" (x :: z :: r)).length = x.length + (PySem.Str.join "" (z :: r)).length := by
      show (x ++ "" ++ PySem.Str.join "" (z :: r)).length = _
      rw [len_app, len_app]; rfl
    rw [e]
    rcases List.mem_cons.mp h with rfl | h
    · exact Nat.le_add_right _ _
    · have := join_ge (z :: r) y h; omega
theorem strange_not {l : List Str} {x : Str} (h : x ∈ l) : x.length < (("z" : Str) ++ Txt.join "" l).length := by
  rw [show Txt.join "" l = PySem.Str.join "" l from PySem.StrLaws.glued_eq_join "" l, len_app]
  have := join_ge l x h
  show _ < 1 + _; omega
theorem hasK_names {l : List (Str × Str)} {x : D} (v : AVal x) : hasK l x = inS (names l) x := by
  rcases v.kind with ⟨s, rfl, _⟩ | n
  · rw [inS_str]
    show (l.lookup s).isSome = _
    by_cases h : s ∈ names l
    · rw [decide_eq_true h]; exact lookup_in.mpr h
    · rw [decide_eq_false h, lookup_not h]; rfl
  · rw [inS_nt n]
    rcases n with rfl | ⟨i, rfl⟩ | ⟨b, rfl⟩ | ⟨ks, rfl⟩ <;> rfl
theorem names_map (l : List (Str × Str)) : (names l).map D.str = l.map fun w => D.str w.1 := by unfold names; rw [List.map_map]; rfl
theorem okD_l2 {n : Nat} {s : Str} {x : D} (hs : okT s) (hx : okD n x = true) : okD (n + 1) (.lst [.str s, x]) = true := by
  show (okD n (.str s) && (okD n x && true)) = true
  rw [okD_S hs, hx]; rfl
theorem okD_l3 {n : Nat} {s : Str} {x : D} {b : Bool} (hs : okT s) (hx : okD n x = true) : okD (n + 1) (.lst [.str s, x, .bl b]) = true := by
  show (okD n (.str s) && (okD n x && (okD n (.bl b) && true))) = true
  rw [okD_S hs, hx, okD_bl]; rfl
theorem AVal.tupi (i : Int) : AVal (.tup [.int i]) := ⟨by show (okD 8 (.int i) && true) = true; rw [okD_int]; rfl, .inr (.inr (.inr (.inr ⟨[.inl i], rfl⟩)))⟩
theorem okT0 : okT "" := by unfold okT; decide +kernel
theorem sum_len : ∀ l : List Str, (∀ s ∈ l, s.length ≤ 12) → (l.map (·.length)).sum ≤ 12 * l.length
  | [], _ => by decide
  | z :: l, h => by
    have h1 := h z (List.mem_cons_self ..)
    have h2 := sum_len l fun s hs => h s (List.mem_cons_of_mem _ hs)
    rw [List.map_cons, List.sum_cons, List.length_cons]; omega
/-- the strange text: longer than all names -/
structure Strange (l : List Str) (st : Str) : Prop where
  val : AVal (.str st)
  not : ∀ x ∈ l, x ≠ st
theorem strange_of {l : List Str} (g : ∀ s ∈ l, goodS s = true) (n : l.length ≤ 1000) : Strange l ("z" ++ Txt.join "" l) where
  val := by
    have h0 := sum_len l fun s hs => ((goodS_iff s).mp (g s hs)).2.1
    have lJ := len_join "" l
    have e0 : ("" : Str).length = 0 := rfl
    rw [e0, Nat.mul_zero] at lJ
    exact .str (okT_app (by unfold okT; decide +kernel) (okT_join okT0 fun s hs => good_okT (g s hs))) (by rw [len_app]; show 1 + _ ≤ _; omega)
  not := fun x hx e => by
    have := strange_not hx
    rw [e] at this
    exact absurd this (Nat.lt_irrefl _)
theorem join_few {l : List Str} (g : ∀ s ∈ l, goodS s = true) (n : l.length ≤ 1000) : (l.map (·.length)).sum + l.length * ("" : Str).length ≤ 16777216 ∧ 1 + (Txt.join "" l).length ≤ 1000000 := by
  have h0 := sum_len l fun s hs => ((goodS_iff s).mp (g s hs)).2.1
  have lJ := len_join "" l
  have e0 : ("" : Str).length = 0 := rfl
  rw [e0, Nat.mul_zero] at lJ ⊢
  exact ⟨by omega, by omega⟩
theorem inS_not {l : List Str} {s : Str} (h : s ∉ l) : inS l (.str s) = false := by rw [inS_str]; exact decide_eq_false h
theorem inS_mem {l : List Str} {s : Str} (h : s ∈ l) : inS l (.str s) = true := by rw [inS_str]; exact decide_eq_true h
theorem LM.newD {M : Mem} {L : LA} {m : BM} {p : Addr} {ns : List (Str × Str)} (h : LM M L m) (hp : p ∉ L.all) (hm : M p = Option.some (.lst (ns.map wD))) :
    LM (mput M L.o (.lst [.ref L.k, .ref L.t, .ref L.p, .ref L.c, .ref p, .ref L.f])) { L with d := p } { m with dips := ns } := by
  have hp' : p ≠ L.o ∧ p ≠ L.k ∧ p ≠ L.t ∧ p ≠ L.p ∧ p ≠ L.c ∧ p ≠ L.d ∧ p ≠ L.f := by simpa [LA.all] using hp
  obtain ⟨q1, q2, q3, q4, q5, q6, q7⟩ := hp'
  obtain ⟨⟨a1, a2, a3, a4, a5, a6⟩, ⟨b1, b2, b3, b4, b5⟩, ⟨c1, c2, c3, c4⟩, ⟨d1, d2, d3⟩, ⟨e1, e2⟩, f1⟩ := h.ne
  exact ⟨mput_same, by show mput M L.o _ L.k = _; rw [mput_ne a1.symm]; exact h.k, by show mput M L.o _ L.t = _; rw [mput_ne a2.symm]; exact h.t, by show mput M L.o _ L.p = _; rw [mput_ne a3.symm]; exact h.p, by show mput M L.o _ L.c = _; rw [mput_ne a4.symm]; exact h.c, by show mput M L.o _ p = _; rw [mput_ne q1]; exact hm, by show mput M L.o _ L.f = _; rw [mput_ne a6.symm]; exact h.f,
    by simp [LA.all, List.nodup_cons, a1, a2, a3, a4, a6, b1, b2, b3, b5, c1, c2, c4, d1, d3, e2, q1.symm, q2.symm, q3.symm, q4.symm, q5.symm, q7]⟩
theorem GM.setD {m : BM} (g : GM m []) {ds : List (Str × Str)} (h : ∀ w ∈ ds, w.1 ∈ names m.cloths ∧ w.2 ∈ m.pots) (l : ds.length ≤ 24) : GM { m with dips := ds } [] :=
  ⟨g.kn, g.kg, g.k8, g.th, g.t32, g.pn, g.pg, g.p8, g.cn, g.cg, g.c8, h, l, g.fe, g.f32, fun f hf => (by cases hf), g.most⟩
/-- a state in which book and model have more places: what the model is after its list of dips was changed for a new one -/
theorem Src.newD {M : Mem} {a p : Addr} {L : LA} {x : DO} (s : Src M a L) (hp : p ≠ a) : Src (mput M L.o x) a { L with d := p } :=
  ⟨(s.put (s.ne (LM.in L).1)).1, fun h => (by
    have h : a = L.o ∨ a = L.k ∨ a = L.t ∨ a = L.p ∨ a = L.c ∨ a = p ∨ a = L.f := by simpa [LA.all] using h
    rcases h with h | h | h | h | h | h | h
    · exact s.ne (LM.in L).1 h.symm
    · exact s.ne (LM.in L).2.1 h.symm
    · exact s.ne (LM.in L).2.2.1 h.symm
    · exact s.ne (LM.in L).2.2.2.1 h.symm
    · exact s.ne (LM.in L).2.2.2.2.1 h.symm
    · exact hp h.symm
    · exact s.ne (LM.in L).2.2.2.2.2.2 h.symm)⟩
theorem WF.most {m : BM} (h : WF m) (n : Int) : WF { m with most := n } := ⟨h.dips, h.cloths, h.kinds, h.few, h.dv, h.kv⟩
theorem amts_most (m : BM) (k : Int) : ∀ n, amts { m with most := k } n = amts m n
  | 0 => rfl
  | n + 1 => by
    show amts { m with most := k } n ++ _ = amts m n ++ _
    rw [amts_most m k n]; rfl
theorem amounts_most (m : BM) (k : Int) : amounts { m with most := k } = amounts m := amts_most m k _
theorem take_snoc {α : Type} {l : List α} {i : Nat} {x : α} (h : l[i]? = some x) : l.take (i + 1) = l.take i ++ [x] := by rw [List.take_add_one, h]; rfl
end
end LW
set_option Elab.async false
set_option linter.all false
set_option maxRecDepth 100000
set_option maxHeartbeats 4000000
namespace LW
open PySem L2 T3
open Evl (Ex)
local macro_rules | `(tactic| walk_at "t3") => `(tactic| first
  | (with_reducible refine s_seq ?_) | (with_reducible refine s_asg ?_) | (with_reducible refine s_if ?_) | (with_reducible refine s_ret ?_) | (with_reducible refine s_drop ?_) | (with_reducible refine s_asgG ?_) | (with_reducible refine s_retN ?_)
  | (with_reducible refine s_next ?_) | (with_reducible refine s_brk ?_) | (with_reducible refine s_cont ?_) | (with_reducible refine s_par ?_) | (with_reducible refine s_fld ?_)
  | ((with_reducible refine' w_var ?hx ?_); (case hx => exact rfl)) | (with_reducible refine w_cI ?_) | (with_reducible refine w_cB ?_) | (with_reducible refine w_cS ?_) | (with_reducible refine w_cN ?_) | (with_reducible refine w_cT ?_) | (with_reducible refine w_cR ?_)
  | (with_reducible refine w_op ?_) | (with_reducible refine w_un ?_) | (with_reducible refine w_nil ?_) | (with_reducible refine w_tup ?_) | (with_reducible refine w_cons ?_) | (with_reducible refine w_cb ?_) | (with_reducible refine w_bm0 ?_) | (with_reducible refine w_bm ?_)
  | (with_reducible refine w_test ?_) | (with_reducible refine w_B ?_) | (with_reducible refine w_notT ?_) | (with_reducible refine w_yes ?_) | (with_reducible refine w_notV ?_)
  | (with_reducible refine w_ifE ?_) | (with_reducible refine w_isN ?_) | (with_reducible refine w_notN ?_) | (with_reducible refine w_tr ?_) | (with_reducible refine w_chain ?_) | (with_reducible refine w_fld ?_) | (with_reducible refine w_sl ?_) | (with_reducible refine o_no ?_) | (with_reducible refine o_some ?_)
  | (with_reducible refine w_call0 ?_) | (with_reducible refine g_name ?_) | ((with_reducible refine' g_tup ?hx ?hy ?_); (case hx => exact rfl); (case hy => exact rfl)) | (with_reducible refine g_cons ?_) | (with_reducible refine g_nil ?_) | (with_reducible refine g_set ?_)
  | (with_reducible refine r3_add_ii ?_) | (with_reducible refine r3_sub ?_) | (with_reducible refine r3_lt ?_) | (with_reducible refine r3_le ?_) | (with_reducible refine r3_gt ?_) | (with_reducible refine r3_ge ?_) | (with_reducible refine u3_neg ?_)
  | (with_reducible refine c3_int_i ?_) | (with_reducible refine c3_int_b ?_) | (with_reducible refine c3_abs ?_) | (with_reducible refine c3_len_t ?_) | (with_reducible refine c3_len .fz ?_) | (with_reducible refine c3_max2 ?_) | (with_reducible refine c3_min2 ?_)
  | (with_reducible refine r3_eq (n := 9) (m := 9) okD_int okD_int ?_) | (with_reducible refine r3_ne (n := 9) (m := 9) okD_int okD_int ?_)
  | ((with_reducible refine' Exists.intro _ (And.intro ?hx ?_)); (case hx => exact rfl))
  | ((with_reducible refine' And.intro ?hx ?_); (case hx => (show List.length _ ≤ 100000); exact Nat.le_of_ble_eq_true rfl))
  | (with_reducible refine c3_lenL (c3_len_t ?_)) | (with_reducible refine c3_lenL (c3_len .fz ?_)))

section
variable {P : Program} {w : World} {K : PySem.W.Frag} {mg : Str → Option Value} {base : Heap} {A0 : Adr}

def S_previous (A0 : Adr) : Sp3 := fun ds M Q E => ∃ (M0 : Mem) (A : BA) (m : BM) (x : D), ds = [.ref A.b, x] ∧ M = bookM A0.f_Book M0 A m ∧ BOk A ∧ WF m ∧ Scal x ∧ (∀ C t, numO 0 ((m.dips.length : Int) - 1) x = some (C, t) → E (C.cls A0) t M) ∧
  (∀ (n : Nat) y, x = .int n → m.dips[n]? = some y → Q (optD (prevF m.dips y.1 n)) M)
theorem ok_Book_previous (T : Tx P K mg A0) : FnOk P w K mg base (L2.CX P w) 3 A0.f_Book_previous A0.d_Book_previous ["self", "number"] (lift3 (S_previous A0)) := by
  refine T.F_Book_previous.okX sc_Book_previous (lift3_len fun ds M Q E ⟨a, b, c, d, h, _⟩ => by rw [h]; rfl) (fun cdv A outer s H vs Q E hr h => ?_)
  have hu := hr.units
  have hu5 := units65 hr
  have hu1 := units1 hr
  refine ⟨_, (pss_cons (ps_if (PW.pt (pw_or (pt_not (pt_truthK K rfl (pe_call (ok_is_whole T) (hr.mono (by decide)) (by rfl) T.g_is_whole T.k_is_whole T.b_is_whole .nil pass0 (pa_cons (pv 1) pa_nil)) (by intro _; rfl))) (pw_or1 (pt_not (pt_chain op_le op_lt pe_int (pv 1) (pe_callB (call_lenDK K rfl) (by rfl) T.n_len PySem.boot_len (pa_cons (pe_fldK K rfl (pv 0)) pa_nil))))))) (pss_one (ps_raiseDye (by rfl) T.dye_BadNumber T.g_BadNumber hr (takes_of rfl rfl rfl rfl) (pa_cons (pv 1) (pa_cons pe_str pa_nil)))) pss_nil)
  (pss_cons (ps_for (passes_of rfl) (by rfl) (pi_range3 (by rfl) T.n_range (pa_cons (pe_op op_sub (pv 1) pe_int) (pa_cons (pe_un un_neg pe_int) (pa_cons (pe_un un_neg pe_int) pa_nil)))) (pg_name (i := 2) sc_Book_previous.nd (by rfl) (Or.inl (by rfl))) (pss_one (ps_if (pt_cmpR (op_eqDK K rfl hu) (pe_ix (ix_seqK K rfl) (pe_ix (ix_seqK K rfl) (pe_fldK K rfl (pv 0)) (pv 2) (fun _ _ => by rfl)) pe_int (fun _ _ => by rfl)) (pe_ix (ix_seqK K rfl) (pe_ix (ix_seqK K rfl) (pe_fldK K rfl (pv 0)) (pv 1) (fun _ _ => by rfl)) pe_int (fun _ _ => by rfl)) (nomark _)) (pss_one (ps_ret (pv 2))) pss_nil)))
  (pss_one (ps_ret pe_non)))), run3 h fun B ds M Q3 E3 hs hE => ?_⟩
  obtain ⟨M0, A, m, nx, rfl, rfl, o, wf, snx, qe, q⟩ := hs
  change W3s B _ _ [some (.ref A.b), some nx, none] _
  try dsimp only [cxOf, Cx.nox, Cx.wish]
  have lmap : (m.dips.map wD).length = m.dips.length := List.length_map _
  refine s_seq (s_if (W3t.to (Q := fun c M1 => c = (numO 0 ((m.dips.length : Int) - 1) nx).isSome ∧ M1 = bookM A0.f_Book M0 A m) ?_ (fun c M' hc => ?_)))
  · cases hw : isI nx with
    | false =>
      refine w_orTP (a := true) (b := true) ?_ (fun h => by cases h) ?_
      · repeat walk_at "t3"
        exact ⟨_, rfl, snx, false, by rw [hw]; rfl, rfl, rfl⟩
      · rw [numO_not hw]; exact ⟨rfl, rfl⟩
    | true =>
      obtain ⟨i, rfl⟩ := isI_int hw
      refine w_orTP (a := false) (b := !(decide (0 ≤ i) && decide (i < (m.dips.length : Int)))) ?_ (fun _ => ?_) ?_
      · repeat walk_at "t3"
        exact ⟨_, rfl, snx, true, rfl, rfl, rfl⟩
      · repeat walk_at "t3"
        refine iteB (fun h => ?_) (fun h => ?_)
        · repeat walk_at "t3"
          refine ⟨_, _, .ref A.d, .inr ⟨_, rfl, bk_b⟩, T.cl_Book, T.na_dip_rows, rfl, ?_⟩
          repeat walk_at "t3"
          refine c3_lenL (c3_len (.ow (bk_d o)) ?_)
          repeat walk_at "t3"
          rw [lmap, h]
          exact ⟨rfl, rfl⟩
        · rw [h]
          exact ⟨_, rfl, rfl, rfl⟩
      · refine ⟨?_, rfl⟩
        show _ = (if (0 : Int) ≤ i ∧ i ≤ (m.dips.length : Int) - 1 then none else some (Rf.number, D.int i)).isSome
        by_cases h1 : (0 : Int) ≤ i
        · by_cases h2 : i < (m.dips.length : Int)
          · rw [if_pos ⟨h1, by omega⟩, decide_eq_true h1, decide_eq_true h2]; rfl
          · rw [if_neg (fun hh => h2 (by omega)), decide_eq_true h1, decide_eq_false h2]; rfl
        · rw [if_neg (fun hh => h1 hh.1), decide_eq_false h1]; rfl
  obtain ⟨rfl, rfl⟩ := hc
  cases e : numO 0 ((m.dips.length : Int) - 1) nx with
  | some rt =>
    obtain ⟨rr, t⟩ := rt
    refine iteB (fun _ => ?_) (fun h => by cases h)
    have er : rr = .number ∧ t = nx := by
      cases hw : isI nx with
      | false => rw [numO_not hw] at e; cases e; exact ⟨rfl, rfl⟩
      | true =>
        obtain ⟨i, rfl⟩ := isI_int hw
        have e : (if (0 : Int) ≤ i ∧ i ≤ (m.dips.length : Int) - 1 then none else some (Rf.number, D.int i)) = some (rr, t) := e
        split at e
        · cases e
        · cases e; exact ⟨rfl, rfl⟩
    obtain ⟨rfl, rfl⟩ := er
    refine s_raise (impW_of hE) ?_
    repeat walk_at "t3"
    exact ⟨_, _, rfl, qe _ _ e⟩
  | none =>
  refine iteB (fun h => by cases h) (fun _ => ?_)
  obtain ⟨i, rfl, i0, i1⟩ := numO_int e
  obtain ⟨n, rfl⟩ : ∃ n : Nat, i = n := ⟨i.toNat, by omega⟩
  have hnl : n < m.dips.length := by omega
  obtain ⟨x, hx⟩ : ∃ x, m.dips[n]? = some x := ⟨m.dips[n], List.getElem?_eq_getElem hnl⟩
  have q := q n x rfl hx
  refine s_next ?_
  have hn : n < m.dips.length := (List.getElem?_eq_some_iff.mp hx).1
  have h100 := wf.few
  have hxd : (m.dips.map wD)[n]? = some (wD x) := by rw [List.getElem?_map, hx]; rfl
  have okx := wf.dips x (List.mem_of_getElem? hx)
  repeat walk_at "t3"
  refine s_for (i_rng3 ?_)
  repeat walk_at "t3"
  refine ⟨(n : Int) - 1, -1, -1, n, rfl, ?_, ?_⟩
  · have := RgC.neg (i := (n : Int) - 1) (j := -1) (by omega) (by omega) (by omega) (by omega)
    rw [show ((n : Int) - 1 - -1).toNat = n by omega] at this
    exact this
  refine ⟨fun k σ' M' => ∃ b2 : Option D, k ≤ n ∧ prevF m.dips x.1 (n - k) = prevF m.dips x.1 n ∧ σ' = [some (.ref A.b), some (.int n), b2] ∧ M' = bookM A0.f_Book M0 A m, fun _ _ _ _ => trivial, ⟨none, Nat.zero_le _, rfl, rfl, rfl⟩, ?_, ?_⟩
  · rintro k d σ' M' hk ⟨b2, hkn, hp, rfl, rfl⟩
    obtain ⟨k', h1, rfl⟩ := map_at hk
    obtain ⟨h2, h3⟩ := List.getElem?_eq_some_iff.mp h1
    have h4 : k' = k := by simpa using h3.symm
    subst h4
    have hkl : k' < n := by simpa using h2
    have e : ((n : Int) - 1 + (k' : Nat) * -1) = ((n - k' - 1 : Nat) : Int) := by omega
    rw [e]
    obtain ⟨y, hy⟩ : ∃ y, m.dips[n - k' - 1]? = some y := ⟨m.dips[n - k' - 1], List.getElem?_eq_getElem (by omega)⟩
    have hyd : (m.dips.map wD)[n - k' - 1]? = some (wD y) := by rw [List.getElem?_map, hy]; rfl
    have oky := wf.dips y (List.mem_of_getElem? hy)
    repeat walk_at "t3"
    refine ⟨_, _, .ref A.d, .inr ⟨_, rfl, bk_b⟩, T.cl_Book, T.na_dip_rows, rfl, ?_⟩
    repeat walk_at "t3"
    refine r3_ix_l (.ow (bk_d o)) (at3 rfl hyd) ?_
    repeat walk_at "t3"
    refine r3_ix_t (at3 (j := 0) (by omega) (v := .str y.1) rfl) ?_
    repeat walk_at "t3"
    refine ⟨_, _, .ref A.d, .inr ⟨_, rfl, bk_b⟩, T.cl_Book, T.na_dip_rows, rfl, ?_⟩
    repeat walk_at "t3"
    refine r3_ix_l (.ow (bk_d o)) (at3 rfl hxd) ?_
    repeat walk_at "t3"
    refine r3_ix_t (at3 (j := 0) (by omega) (v := .str x.1) rfl) ?_
    refine r3_eq (n := 9) (m := 9) (okD_S oky.1) (okD_S okx.1) ?_
    rw [pq_str]
    repeat walk_at "t3"
    have es : n - k' = (n - k' - 1) + 1 := by omega
    rw [es, prevF, hy, Option.map_some] at hp
    refine iteB (fun h => ?_) (fun h => ?_)
    · have h := of_decide_eq_true h
      rw [if_pos (show some y.1 = some x.1 by rw [h])] at hp
      repeat walk_at "t3"
      rw [← hp] at q
      exact q
    · have h := of_decide_eq_false h
      rw [if_neg (show ¬ some y.1 = some x.1 from fun e => h (Option.some.inj e))] at hp
      refine s_next ?_
      exact ⟨_, hkl, by rw [show n - (k' + 1) = n - k' - 1 by omega]; exact hp, rfl, rfl⟩
  · rintro σ' M' ⟨b2, _, hp, rfl, rfl⟩
    rw [List.length_map, List.length_range, Nat.sub_self] at hp
    show W3s B _ _ _ _
    repeat walk_at "t3"
    rw [← hp] at q
    exact q
theorem gk_previous {A0 : Adr} {M0 : Mem} {A : BA} {m : BM} {Q : DQ} {E : EQ3} {n : Nat} {y : Str × Str} (o : BOk A) (wf : WF m) (hx : m.dips[n]? = some y) (q : Q (optD (prevF m.dips y.1 n)) (bookM A0.f_Book M0 A m)) : S_previous A0 [.ref A.b, .int n] (bookM A0.f_Book M0 A m) Q E :=
  ⟨M0, A, m, .int n, rfl, rfl, o, wf, .inl ⟨_, rfl⟩, fun C t h => (by
    have h1 := (List.getElem?_eq_some_iff.mp hx).1
    have h : (if (0 : Int) ≤ n ∧ (n : Int) ≤ (m.dips.length : Int) - 1 then none else some (Rf.number, D.int n)) = some (C, t) := h
    rw [if_pos ⟨by omega, by omega⟩] at h; cases h), fun n' y' e1 e2 => (by
    have e1 : n = n' := by injection e1 with e1; omega
    subst e1
    rw [hx] at e2; cases e2; exact q)⟩
end
end LW
set_option Elab.async false
set_option linter.all false
set_option maxRecDepth 100000
set_option maxHeartbeats 4000000
namespace LW
open PySem L2 T3
open Evl (Ex)
local macro_rules | `(tactic| walk_at "t3") => `(tactic| first
  | (with_reducible refine s_seq ?_) | (with_reducible refine s_asg ?_) | (with_reducible refine s_if ?_) | (with_reducible refine s_ret ?_) | (with_reducible refine s_drop ?_) | (with_reducible refine s_asgG ?_) | (with_reducible refine s_retN ?_)
  | (with_reducible refine s_next ?_) | (with_reducible refine s_brk ?_) | (with_reducible refine s_cont ?_) | (with_reducible refine s_par ?_) | (with_reducible refine s_fld ?_)
  | ((with_reducible refine' w_var ?hx ?_); (case hx => exact rfl)) | (with_reducible refine w_cI ?_) | (with_reducible refine w_cB ?_) | (with_reducible refine w_cS ?_) | (with_reducible refine w_cN ?_) | (with_reducible refine w_cT ?_) | (with_reducible refine w_cR ?_)
  | (with_reducible refine w_op ?_) | (with_reducible refine w_un ?_) | (with_reducible refine w_nil ?_) | (with_reducible refine w_tup ?_) | (with_reducible refine w_cons ?_) | (with_reducible refine w_cb ?_) | (with_reducible refine w_bm0 ?_) | (with_reducible refine w_bm ?_)
  | (with_reducible refine w_test ?_) | (with_reducible refine w_B ?_) | (with_reducible refine w_notT ?_) | (with_reducible refine w_yes ?_) | (with_reducible refine w_notV ?_)
  | (with_reducible refine w_ifE ?_) | (with_reducible refine w_isN ?_) | (with_reducible refine w_notN ?_) | (with_reducible refine w_tr ?_) | (with_reducible refine w_chain ?_) | (with_reducible refine w_fld ?_) | (with_reducible refine w_sl ?_) | (with_reducible refine o_no ?_) | (with_reducible refine o_some ?_)
  | (with_reducible refine w_call0 ?_) | (with_reducible refine g_name ?_) | ((with_reducible refine' g_tup ?hx ?hy ?_); (case hx => exact rfl); (case hy => exact rfl)) | (with_reducible refine g_cons ?_) | (with_reducible refine g_nil ?_) | (with_reducible refine g_set ?_)
  | (with_reducible refine r3_add_ii ?_) | (with_reducible refine r3_sub ?_) | (with_reducible refine r3_lt ?_) | (with_reducible refine r3_le ?_) | (with_reducible refine r3_gt ?_) | (with_reducible refine r3_ge ?_) | (with_reducible refine u3_neg ?_)
  | (with_reducible refine c3_int_i ?_) | (with_reducible refine c3_int_b ?_) | (with_reducible refine c3_abs ?_) | (with_reducible refine c3_len_t ?_) | (with_reducible refine c3_len .fz ?_) | (with_reducible refine c3_max2 ?_) | (with_reducible refine c3_min2 ?_)
  | (with_reducible refine r3_eq (n := 9) (m := 9) okD_int okD_int ?_) | (with_reducible refine r3_ne (n := 9) (m := 9) okD_int okD_int ?_)
  | ((with_reducible refine' Exists.intro _ (And.intro ?hx ?_)); (case hx => exact rfl))
  | ((with_reducible refine' And.intro ?hx ?_); (case hx => (show List.length _ ≤ 100000); exact Nat.le_of_ble_eq_true rfl))
  | (with_reducible refine c3_lenL (c3_len_t ?_)) | (with_reducible refine c3_lenL (c3_len .fz ?_)))

section
variable {P : Program} {w : World} {K : PySem.W.Frag} {mg : Str → Option Value} {base : Heap} {A0 : Adr}

def S_leaves (A0 : Adr) : Sp3 := fun ds M Q _ => ∃ (M0 : Mem) (A : BA) (m : BM) (n : Nat) (x : Str × Str), ds = [.ref A.b, .int n] ∧ M = bookM A0.f_Book M0 A m ∧ BOk A ∧ WF m ∧ m.dips[n]? = some x ∧ Q (.bl (leavesX m n x)) M
theorem ok_Book_leaves (T : Tx P K mg A0) : FnOk P w K mg base (L2.CX P w) 4 A0.f_Book_leaves A0.d_Book_leaves ["self", "number"] (lift3 (S_leaves A0)) := by
  refine T.F_Book_leaves.okX sc_Book_leaves (lift3_len fun ds M Q E ⟨a, b, c, d, e, h, _⟩ => by rw [h]; rfl) (fun cdv A outer s H vs Q E hr h => ?_)
  have hu := hr.units
  have hu5 := units65 hr
  have hu1 := units1 hr
  refine ⟨_, (pss_cons (ps_set (i := 2) sc_Book_leaves.nd (by rfl) (Or.inl (by rfl)) (pe_meth (pv 0) T.cl_Book T.m_Book_previous (ok_Book_previous T) (hr.mono (by decide)) T.b_Book_previous .nil (passes_call (takes_of rfl rfl rfl rfl) (fun _ _ _ _ h => h)) (pa_cons (pv 1) pa_nil)))
  (pss_cons (ps_asg (pe_ix (ix_seqK K rfl) (pe_fldK K rfl (pv 0)) (pv 1) (fun _ _ => by rfl)) (pg_tup (by rfl) (pgs_cons (pg_name (i := 3) sc_Book_leaves.nd (by rfl) (Or.inl (by rfl))) (pgs_cons (pg_name (i := 4) sc_Book_leaves.nd (by rfl) (Or.inl (by rfl))) pgs_nil))))
  (pss_cons (ps_if (PW.pt (pw_or (pt_cmp (pc_isN (pv 2)) (by rfl)) (pw_or1 (pt_cmpR (op_eqDK K rfl hu) (pe_ix (ix_seqK K rfl) (pe_ix (ix_seqK K rfl) (pe_fldK K rfl (pv 0)) (pv 2) (fun _ _ => by rfl)) pe_int (fun _ _ => by rfl)) (pv 4) (nomark _))))) (pss_one (ps_ret pe_bl)) pss_nil)
  (pss_one (ps_ret (pe_cmpR (op_neDK K rfl hu) (pe_meth (pv 0) T.cl_Book T.m_Book_hold_of (ok_Book_hold_of T) (hr.mono (by decide)) T.b_Book_hold_of .nil (passes_call (takes_of rfl rfl rfl rfl) (fun _ _ _ _ h => h)) (pa_cons (pe_meth (pv 0) T.cl_Book T.m_Book_kind_of (ok_Book_kind_of T) (hr.mono (by decide)) T.b_Book_kind_of .nil (passes_call (takes_of rfl rfl rfl rfl) (fun _ _ _ _ h => h)) (pa_cons (pv 3) pa_nil)) pa_nil)) pe_str (nomark _))))))), run3 h fun B ds M Q3 E3 hs hE => ?_⟩
  obtain ⟨M0, A, m, n, x, rfl, rfl, o, wf, hx, q⟩ := hs
  change W3s B _ _ [some (.ref A.b), some (.int n), none, none, none] _
  try dsimp only [cxOf, Cx.nox, Cx.wish]
  have okx := wf.dips x (List.mem_of_getElem? hx)
  have hxd : (m.dips.map wD)[n]? = some (wD x) := by rw [List.getElem?_map, hx]; rfl
  repeat walk_at "t3"
  refine w_meth0 ?_
  repeat walk_at "t3"
  refine ⟨_, .inr ⟨_, rfl, bk_b⟩, rfl, ?_⟩
  repeat walk_at "t3"
  refine gk_previous o wf hx ?_
  repeat walk_at "t3"
  refine ⟨_, _, .ref A.d, .inr ⟨_, rfl, bk_b⟩, T.cl_Book, T.na_dip_rows, rfl, ?_⟩
  repeat walk_at "t3"
  refine r3_ix_l (.ow (bk_d o)) (at3 rfl hxd) ?_
  repeat walk_at "t3"
  obtain ⟨k, hk, hh, okh⟩ := wf.hold okx.2.2
  cases hp : prevF m.dips x.1 n with
  | none =>
    have hl : leavesX m n x = false := by unfold leavesX; rw [hp]
    rw [hl] at q
    refine w_orTP (a := true) (b := false) ?_ (fun h => by cases h) ?_
    · repeat walk_at "t3"
      exact ⟨rfl, rfl⟩
    · refine iteB (fun _ => ?_) (fun h => by cases h)
      repeat walk_at "t3"
      exact q
  | some e =>
    obtain ⟨y, hy⟩ : ∃ y, m.dips[e]? = some y := ⟨m.dips[e]'(by have := prevF_lt hp; have := (List.getElem?_eq_some_iff.mp hx).1; omega), List.getElem?_eq_getElem _⟩
    have hyd : (m.dips.map wD)[e]? = some (wD y) := by rw [List.getElem?_map, hy]; rfl
    have oky := wf.dips y (List.mem_of_getElem? hy)
    have hl : leavesX m n x = if y.2 = x.2 then false else !(decide (holdN m x.1 = "fast")) := by unfold leavesX; rw [hp]; dsimp only; rw [hy]
    rw [hl] at q
    refine w_orTP (a := false) (b := decide (y.2 = x.2)) ?_ (fun _ => ?_) ?_
    · repeat walk_at "t3"
      exact ⟨rfl, rfl⟩
    · repeat walk_at "t3"
      refine ⟨_, _, .ref A.d, .inr ⟨_, rfl, bk_b⟩, T.cl_Book, T.na_dip_rows, rfl, ?_⟩
      repeat walk_at "t3"
      refine r3_ix_l (.ow (bk_d o)) (at3 rfl hyd) ?_
      repeat walk_at "t3"
      refine r3_ix_t (at3 (j := 1) (by omega) (v := .str y.2) rfl) ?_
      repeat walk_at "t3"
      refine r3_eq (n := 9) (m := 9) (okD_S oky.2.1) (okD_S okx.2.1) ?_
      rw [pq_str]
      exact ⟨_, rfl, rfl, rfl⟩
    · rw [Bool.false_or]
      refine iteB (fun h => ?_) (fun h => ?_)
      · rw [if_pos (of_decide_eq_true h)] at q
        repeat walk_at "t3"
        exact q
      · rw [if_neg (of_decide_eq_false h)] at q
        repeat walk_at "t3"
        refine w_meth0 ?_
        repeat walk_at "t3"
        refine ⟨_, .inr ⟨_, rfl, bk_b⟩, rfl, ?_⟩
        repeat walk_at "t3"
        refine w_meth0 ?_
        repeat walk_at "t3"
        refine ⟨_, .inr ⟨_, rfl, bk_b⟩, rfl, ?_⟩
        repeat walk_at "t3"
        refine gk_kindof o (wf.dv x (List.mem_of_getElem? hx)) hk ?_
        repeat walk_at "t3"
        refine gk_holdof o (wf.kv _ _ hk) hh ?_
        repeat walk_at "t3"
        refine r3_ne (n := 9) (m := 9) (okD_S okh) (okD_S (by unfold okT; decide +kernel)) ?_
        rw [pq_str]
        exact q
def S_amounts (A0 : Adr) : Sp3 := fun ds M Q _ => ∃ (M0 : Mem) (A : BA) (m : BM), ds = [.ref A.b] ∧ M = bookM A0.f_Book M0 A m ∧ BOk A ∧ WF m ∧ (Q (.lst ((amounts m).map aD)) M ∨ ∀ p, M0 p = none → Off A p → Q (.ref p) (bookM A0.f_Book (mput M0 p (.lst ((amounts m).map aD))) A m))
theorem ok_Book_amounts (T : Tx P K mg A0) : FnOk P w K mg base (L2.CX P w) 5 A0.f_Book_amounts A0.d_Book_amounts ["self"] (lift3 (S_amounts A0)) := by
  refine T.F_Book_amounts.okX sc_Book_amounts (lift3_len fun ds M Q E ⟨a, b, c, h, _⟩ => by rw [h]; rfl) (fun cdv A outer s H vs Q E hr h => ?_)
  have hu := hr.units
  have hu5 := units65 hr
  have hu1 := units1 hr
  refine ⟨_, (pss_cons (ps_set (i := 1) sc_Book_amounts.nd (by rfl) (Or.inl (by rfl)) (pe_lst pa_nil))
  (pss_cons (ps_for (passes_of rfl) (by rfl) (pi_range1 (by rfl) T.n_range (pa_cons (pe_callB (call_lenDK K rfl) (by rfl) T.n_len PySem.boot_len (pa_cons (pe_fldK K rfl (pv 0)) pa_nil)) pa_nil)) (pg_name (i := 2) sc_Book_amounts.nd (by rfl) (Or.inl (by rfl))) (pss_cons (ps_expr (pe_bm PySem.F.plainAttrs_list PySem.F.slot_list_append PySem.F.type_list_append mt_append (pv 1) (pa_cons (pe_tup (pa_cons pe_str (pa_cons (pv 2) pa_nil))) pa_nil)))
  (pss_one (ps_if (pt_truthK K rfl (pe_meth (pv 0) T.cl_Book T.m_Book_leaves (ok_Book_leaves T) (hr.mono (by decide)) T.b_Book_leaves .nil (passes_call (takes_of rfl rfl rfl rfl) (fun _ _ _ _ h => h)) (pa_cons (pv 2) pa_nil)) (by intro _; rfl)) (pss_one (ps_expr (pe_bm PySem.F.plainAttrs_list PySem.F.slot_list_append PySem.F.type_list_append mt_append (pv 1) (pa_cons (pe_tup (pa_cons pe_str (pa_cons (pv 2) pa_nil))) pa_nil)))) pss_nil))))
  (pss_one (ps_ret (pv 1))))), run3 h fun B ds M Q3 E3 hs hE => ?_⟩
  obtain ⟨M0, A, m, rfl, rfl, o, wf, q⟩ := hs
  change W3s B _ _ [some (.ref A.b), none, none] _
  try dsimp only [cxOf, Cx.nox, Cx.wish]
  have h100 := wf.few
  repeat walk_at "t3"
  refine w_lstO ?_
  repeat walk_at "t3"
  intro p hp
  obtain ⟨off, hp0⟩ := off_of o hp
  rw [bk_mput off]
  repeat walk_at "t3"
  refine s_for (i_rng1 ?_)
  repeat walk_at "t3"
  refine ⟨_, _, .ref A.d, .inr ⟨_, rfl, bk_b⟩, T.cl_Book, T.na_dip_rows, rfl, ?_⟩
  repeat walk_at "t3"
  refine c3_lenL (c3_len (.ow (bk_d o)) ?_)
  repeat walk_at "t3"
  refine ⟨by omega, by rw [List.length_map]; omega, fun n σ' M' => ∃ b2 : Option D, n ≤ m.dips.length ∧ σ' = [some (.ref A.b), some (.ref p), b2] ∧ M' = bookM A0.f_Book (mput M0 p (.lst ((amts m n).map aD))) A m, fun _ _ _ _ => trivial, ⟨none, Nat.zero_le _, rfl, rfl⟩, ?_, ?_⟩
  · rintro n d σ' M' hn ⟨b2, hnl, rfl, rfl⟩
    obtain ⟨k', h1, rfl⟩ := map_at hn
    obtain ⟨h2, h3⟩ := List.getElem?_eq_some_iff.mp h1
    have h4 : k' = n := by simpa using h3.symm
    subst h4
    have hkl : k' < m.dips.length := by simpa using h2
    have hmp : ∀ l : List D, bookM A0.f_Book (mput M0 p (.lst l)) A m p = some (.lst l) := fun l => by rw [bk_off off]; exact mput_same
    have la := amts_len m k'
    obtain ⟨x, hx⟩ : ∃ x, m.dips[k']? = some x := ⟨m.dips[k'], List.getElem?_eq_getElem hkl⟩
    have hlv : leavesN m k' = leavesX m k' x := by unfold leavesN; rw [hx]
    repeat walk_at "t3"
    refine ⟨.lo (hmp _), ?_⟩
    repeat walk_at "t3"
    refine m3_append (hmp _) (by rw [List.length_map]; omega) ?_
    rw [bk_mput off, mput_mput]
    repeat walk_at "t3"
    refine w_meth0 ?_
    repeat walk_at "t3"
    refine ⟨_, .inr ⟨_, rfl, bk_b⟩, rfl, ?_⟩
    repeat walk_at "t3"
    refine ⟨_, A, m, k', x, rfl, rfl, o, wf, hx, ?_⟩
    refine ⟨_, rfl, ?_⟩
    refine iteB (fun h => ?_) (fun h => ?_)
    · repeat walk_at "t3"
      refine ⟨.lo (hmp _), ?_⟩
      repeat walk_at "t3"
      refine m3_append (hmp _) (by rw [List.length_append, List.length_map]; show _ + 1 ≤ _; omega) ?_
      rw [bk_mput off, mput_mput]
      repeat walk_at "t3"
      refine ⟨_, hkl, rfl, ?_⟩
      rw [amts, hlv, h, if_pos rfl, List.map_append, List.append_assoc]; rfl
    · repeat walk_at "t3"
      refine ⟨_, hkl, rfl, ?_⟩
      rw [amts, hlv, h, if_neg (by simp), List.map_append]; rfl
  · rintro σ' M' ⟨b2, _, rfl, rfl⟩
    rw [List.length_map, List.length_range, List.length_map, Int.toNat_natCast]
    show W3s B _ _ _ _
    rcases q with q | q
    · refine s_vs (vss_lst 1 rfl (by rw [bk_off off]; exact mput_same)) ?_
      rw [bk_mdel off hp0]
      repeat walk_at "t3"
      exact q
    · repeat walk_at "t3"
      exact q p hp0 off
end
end LW
set_option Elab.async false
set_option linter.all false
set_option maxRecDepth 100000
set_option maxHeartbeats 4000000
namespace LW
open PySem L2 T3
open Evl (Ex)
local macro_rules | `(tactic| walk_at "t3") => `(tactic| first
  | (with_reducible refine s_seq ?_) | (with_reducible refine s_asg ?_) | (with_reducible refine s_if ?_) | (with_reducible refine s_ret ?_) | (with_reducible refine s_drop ?_) | (with_reducible refine s_asgG ?_) | (with_reducible refine s_retN ?_)
  | (with_reducible refine s_next ?_) | (with_reducible refine s_brk ?_) | (with_reducible refine s_cont ?_) | (with_reducible refine s_par ?_) | (with_reducible refine s_fld ?_)
  | ((with_reducible refine' w_var ?hx ?_); (case hx => exact rfl)) | (with_reducible refine w_cI ?_) | (with_reducible refine w_cB ?_) | (with_reducible refine w_cS ?_) | (with_reducible refine w_cN ?_) | (with_reducible refine w_cT ?_) | (with_reducible refine w_cR ?_)
  | (with_reducible refine w_op ?_) | (with_reducible refine w_un ?_) | (with_reducible refine w_nil ?_) | (with_reducible refine w_tup ?_) | (with_reducible refine w_cons ?_) | (with_reducible refine w_cb ?_) | (with_reducible refine w_bm0 ?_) | (with_reducible refine w_bm ?_)
  | (with_reducible refine w_test ?_) | (with_reducible refine w_B ?_) | (with_reducible refine w_notT ?_) | (with_reducible refine w_yes ?_) | (with_reducible refine w_notV ?_)
  | (with_reducible refine w_ifE ?_) | (with_reducible refine w_isN ?_) | (with_reducible refine w_notN ?_) | (with_reducible refine w_tr ?_) | (with_reducible refine w_chain ?_) | (with_reducible refine w_fld ?_) | (with_reducible refine w_sl ?_) | (with_reducible refine o_no ?_) | (with_reducible refine o_some ?_)
  | (with_reducible refine w_call0 ?_) | (with_reducible refine g_name ?_) | ((with_reducible refine' g_tup ?hx ?hy ?_); (case hx => exact rfl); (case hy => exact rfl)) | (with_reducible refine g_cons ?_) | (with_reducible refine g_nil ?_) | (with_reducible refine g_set ?_)
  | (with_reducible refine r3_add_ii ?_) | (with_reducible refine r3_sub ?_) | (with_reducible refine r3_lt ?_) | (with_reducible refine r3_le ?_) | (with_reducible refine r3_gt ?_) | (with_reducible refine r3_ge ?_) | (with_reducible refine u3_neg ?_)
  | (with_reducible refine c3_int_i ?_) | (with_reducible refine c3_int_b ?_) | (with_reducible refine c3_abs ?_) | (with_reducible refine c3_len_t ?_) | (with_reducible refine c3_len .fz ?_) | (with_reducible refine c3_max2 ?_) | (with_reducible refine c3_min2 ?_)
  | (with_reducible refine r3_eq (n := 9) (m := 9) okD_int okD_int ?_) | (with_reducible refine r3_ne (n := 9) (m := 9) okD_int okD_int ?_)
  | ((with_reducible refine' Exists.intro _ (And.intro ?hx ?_)); (case hx => exact rfl))
  | ((with_reducible refine' And.intro ?hx ?_); (case hx => (show List.length _ ≤ 100000); exact Nat.le_of_ble_eq_true rfl))
  | (with_reducible refine c3_lenL (c3_len_t ?_)) | (with_reducible refine c3_lenL (c3_len .fz ?_)))

section
variable {P : Program} {w : World} {K : PySem.W.Frag} {mg : Str → Option Value} {base : Heap} {A0 : Adr}

local macro_rules | `(tactic| walk_at "t3q") => `(tactic| first
  | (with_reducible refine s_seq ?_) | (with_reducible refine s_asg ?_) | (with_reducible refine s_if ?_) | (with_reducible refine s_ret ?_) | (with_reducible refine s_drop ?_) | (with_reducible refine s_asgG ?_) | (with_reducible refine s_retN ?_)
  | (with_reducible refine s_next ?_) | (with_reducible refine s_brk ?_) | (with_reducible refine s_cont ?_) | (with_reducible refine s_par ?_) | (with_reducible refine s_fld ?_)
  | ((with_reducible refine' w_var ?hx ?_); (case hx => exact rfl)) | (with_reducible refine w_cI ?_) | (with_reducible refine w_cB ?_) | (with_reducible refine w_cS ?_) | (with_reducible refine w_cN ?_) | (with_reducible refine w_cT ?_) | (with_reducible refine w_cR ?_)
  | (with_reducible refine w_op ?_) | (with_reducible refine w_un ?_) | (with_reducible refine w_nil ?_) | (with_reducible refine w_tup ?_) | (with_reducible refine w_cons ?_) | (with_reducible refine w_cb ?_) | (with_reducible refine w_bm0 ?_) | (with_reducible refine w_bm ?_)
  | (with_reducible refine w_test ?_) | (with_reducible refine w_B ?_) | (with_reducible refine w_notT ?_) | (with_reducible refine w_yes ?_) | (with_reducible refine w_notV ?_)
  | (with_reducible refine w_ifE ?_) | (with_reducible refine w_isN ?_) | (with_reducible refine w_notN ?_) | (with_reducible refine w_tr ?_) | (with_reducible refine w_chain ?_) | (with_reducible refine w_fld ?_) | (with_reducible refine w_sl ?_) | (with_reducible refine o_no ?_) | (with_reducible refine o_some ?_)
  | (with_reducible refine g_name ?_) | ((with_reducible refine' g_tup ?hx ?hy ?_); (case hx => exact rfl); (case hy => exact rfl)) | (with_reducible refine g_cons ?_) | (with_reducible refine g_nil ?_) | (with_reducible refine g_set ?_)
  | (with_reducible refine r3_add_ii ?_) | (with_reducible refine r3_sub ?_) | (with_reducible refine r3_lt ?_) | (with_reducible refine r3_le ?_) | (with_reducible refine r3_gt ?_) | (with_reducible refine r3_ge ?_) | (with_reducible refine u3_neg ?_)
  | (with_reducible refine c3_int_i ?_) | (with_reducible refine c3_int_b ?_) | (with_reducible refine c3_abs ?_) | (with_reducible refine c3_len_t ?_) | (with_reducible refine c3_len .fz ?_) | (with_reducible refine c3_max2 ?_) | (with_reducible refine c3_min2 ?_)
  | (with_reducible refine r3_eq (n := 9) (m := 9) okD_int okD_int ?_) | (with_reducible refine r3_ne (n := 9) (m := 9) okD_int okD_int ?_)
  | ((with_reducible refine' Exists.intro _ (And.intro ?hx ?_)); (case hx => exact rfl))
  | ((with_reducible refine' And.intro ?hx ?_); (case hx => (show List.length _ ≤ 100000); exact Nat.le_of_ble_eq_true rfl))
  | (with_reducible refine c3_lenL (c3_len_t ?_)) | (with_reducible refine c3_lenL (c3_len .fz ?_)))

/-! ### values that may be amounts -/
def isAm : D → Bool
  | .tup [.str w, .int n] => decide (w ∈ WORDS2) && decide (0 ≤ n)
  | _ => false
theorem isAm_aD (x : Am) : isAm (aD x) = true := by
  show (decide (_ ∈ WORDS2) && decide ((0 : Int) ≤ x.2)) = true
  rw [decide_eq_true (wordS_ok x.1).2, decide_eq_true (by omega)]; rfl
theorem isAm_of {x : D} (h : isAm x = true) : ∃ a : Am, x = aD a := by
  unfold isAm at h
  split at h
  · rename_i w n
    obtain ⟨h1, h2⟩ := Bool.and_eq_true_iff.mp h
    have h1 := of_decide_eq_true h1
    have h2 := of_decide_eq_true h2
    have h1 : w = "take" ∨ w = "leave" := by simpa [WORDS2] using h1
    rcases h1 with rfl | rfl
    · exact ⟨(false, n.toNat), by unfold aD; dsimp only; rw [Int.toNat_of_nonneg h2]; rfl⟩
    · exact ⟨(true, n.toNat), by unfold aD; dsimp only; rw [Int.toNat_of_nonneg h2]; rfl⟩
  · cases h
structure AmV (x : D) : Prop where
  ok : okD 9 x = true
  sc : Scal x
  parts : ∀ ds, x = .tup ds → ∀ d ∈ ds, Scal d
theorem AmV.aD (x : Am) : AmV (aD x) where
  ok := by
    show (okD 8 (.str _) && (okD 8 (.int _) && true)) = true
    rw [okD_S (wordS_ok x.1).1, okD_int]; rfl
  sc := .inr (.inr (.inr (.inr ⟨_, rfl⟩)))
  parts := fun ds e d hd => by
    cases e
    rcases List.mem_cons.mp hd with rfl | hd
    · exact .inr (.inr (.inr (.inl ⟨_, rfl⟩)))
    · rcases List.mem_cons.mp hd with rfl | hd
      · exact .inl ⟨_, rfl⟩
      · cases hd
def wIn : D → Bool
  | .str w => decide (w ∈ WORDS2)
  | _ => false
theorem any_words {n : Nat} {x : D} (h : okD n x = true) : ((WORDS2.map D.str).any fun z => peq z x) = wIn x := by
  cases x with
  | str w => exact any_strs WORDS2 w
  | ty _ => cases n <;> cases h
  | ref _ => cases n <;> cases h
  | ins _ _ _ => cases n <;> cases h
  | _ => simp [WORDS2, peq, py, PyData.eqv, wIn]
theorem okDs_W : okDs 0 (WORDS2.map D.str) = true := okDs_S (n := 0) fun s hs => by
  have : ∀ x ∈ WORDS2, okT x := by unfold okT; decide +kernel
  exact this s hs
def S_is_amount : Sp3 := fun ds M Q _ => ∃ x : D, ds = [x] ∧ AmV x ∧ Q (.bl (isAm x)) M
theorem ok_is_amount (T : Tx P K mg A0) : FnOk P w K mg base CX0 2 A0.f_is_amount A0.d_is_amount ["value"] (lift3 S_is_amount) := by
  refine T.F_is_amount.ok sc_is_amount (lift3_len fun ds M Q E ⟨a, h, _⟩ => by rw [h]; rfl) (fun cdv A outer s H vs Q E hr h => ?_)
  have hu := hr.units
  have hu5 := units65 hr
  refine ⟨_, (pss_cons (ps_set (i := 1) sc_is_amount.nd (by rfl) (Or.inl (by rfl)) (pe_and (pe_callB (call_ISIK K rfl) (by rfl) T.n_isinstance (by decide +kernel) (pa_cons (pv 0) (pa_cons (pe_bltn (v := .ty "tuple") (by rfl) T.n_tuple (by decide +kernel) rfl) pa_nil))) (pe_one (pe_cmpR (op_eqDK K rfl hu) (pe_callB (call_lenDK K rfl) (by rfl) T.n_len PySem.boot_len (pa_cons (pv 0) pa_nil)) pe_int (nomark _)))))
  (pss_one (ps_ret (pe_and (pv 1) (pe_and (pe_cmpR (op_INAK K P w rfl rfl rfl hu5) (pe_ix (ix_seqK K rfl) (pv 0) pe_int (fun _ _ => by rfl)) (pe_glob (v := .ref A0.c_WORDS) (by rfl) T.c_WORDS rfl) (by rfl)) (pe_and (pe_call (ok_is_whole T) (hr.mono (by decide)) (by rfl) T.g_is_whole T.k_is_whole T.b_is_whole .nil pass0 (pa_cons (pe_ix (ix_seqK K rfl) (pv 0) pe_int (fun _ _ => by rfl)) pa_nil)) (pe_one (pe_cmpR op_ge (pe_ix (ix_seqK K rfl) (pv 0) pe_int (fun _ _ => by rfl)) pe_int (nomark _))))))))), run3 h fun B ds M Q3 E3 hs hE => ?_⟩
  obtain ⟨x, rfl, vx, q⟩ := hs
  change W3s B _ _ [some x, none] _
  try dsimp only [cxOf, Cx.nox, Cx.wish]
  by_cases ht : ∃ l, x = .tup l
  · obtain ⟨l, rfl⟩ := ht
    by_cases hl : l.length = 2
    · obtain ⟨a, b, rfl⟩ : ∃ a b, l = [a, b] := by
        match l, hl with
        | [a, b], _ => exact ⟨a, b, rfl⟩
      have oka : okD 8 a = true := by
        have h : (okD 8 a && (okD 8 b && true)) = true := vx.ok
        exact (Bool.and_eq_true_iff.mp h).1
      have sa := vx.parts _ rfl a (List.mem_cons_self ..)
      have sb := vx.parts _ rfl b (List.mem_cons_of_mem _ (List.mem_cons_self ..))
      repeat walk_at "t3"
      refine w_andP (a := true) (b := true) ?_ (fun _ => ?_) ?_
      · repeat walk_at "t3"
        refine c3_ISI rfl T.kit_tt ?_
        exact ⟨rfl, rfl⟩
      · repeat walk_at "t3"
        exact ⟨rfl, rfl⟩
      repeat walk_at "t3"
      let w : Bool := wIn a
      let c : Bool := match b with | .int n => decide (0 ≤ n) | _ => true
      have e : isAm (.tup [a, b]) = (w && (isI b && c)) := by
        cases a <;> cases b <;> simp [isAm, isI, w, c, wIn]
      rw [e] at q
      refine w_andP (a := true) (b := w && (isI b && c)) ?_ (fun _ => w_andP (a := w) (b := isI b && c) ?_ (fun _ => w_andP (a := isI b) (b := c) ?_ (fun hb => ?_) ⟨rfl, rfl⟩) ⟨rfl, rfl⟩) (by rw [Bool.true_and]; exact q)
      · repeat walk_at "t3"
        exact ⟨rfl, rfl⟩
      · repeat walk_at "t3"
        refine r3_ix_t (at3 (j := 0) (by omega) (v := a) rfl) ?_
        repeat walk_at "t3"
        refine r3_inTup (ss := WORDS2) T.t_WORDS okDs_W oka ?_
        rw [any_words oka]
        exact ⟨rfl, rfl⟩
      · repeat walk_at "t3"
        refine r3_ix_t (at3 (j := 1) (by omega) (v := b) rfl) ?_
        repeat walk_at "t3"
        exact ⟨_, rfl, sb, rfl, rfl⟩
      · obtain ⟨n, rfl⟩ := isI_int hb
        repeat walk_at "t3"
        refine r3_ix_t (at3 (j := 1) (by omega) (v := .int n) rfl) ?_
        repeat walk_at "t3"
        exact ⟨rfl, rfl⟩
    · have e : isAm (.tup l) = false := by
        unfold isAm
        split
        · rename_i h; cases h; exact absurd rfl hl
        · rfl
      rw [e] at q
      repeat walk_at "t3"
      refine w_andP (a := true) (b := false) ?_ (fun _ => ?_) ?_
      · repeat walk_at "t3"
        refine c3_ISI rfl T.kit_tt ?_
        exact ⟨rfl, rfl⟩
      · repeat walk_at "t3"
        refine ⟨?_, rfl⟩
        rw [peq_int]
        exact congrArg D.bl (by simpa using fun h => hl (by omega))
      repeat walk_at "t3"
      refine w_andP (a := false) (b := false) ?_ (fun h => by cases h) q
      repeat walk_at "t3"
      exact ⟨rfl, rfl⟩
  · have e : isAm x = false := by
      unfold isAm
      split
      · exact absurd ⟨_, rfl⟩ ht
      · rfl
    rw [e] at q
    have hk : (tyD x == "") = false ∧ PySem.W.kitOne K (.type (tyD x)) (.type "tuple") = some false := by
      rcases vx.sc with ⟨i, rfl⟩ | ⟨b, rfl⟩ | rfl | ⟨s, rfl⟩ | ⟨l, rfl⟩
      · exact ⟨rfl, T.kit_it⟩
      · exact ⟨rfl, T.kit_bt⟩
      · exact ⟨rfl, T.kit_nt⟩
      · exact ⟨rfl, T.kit_st⟩
      · exact absurd ⟨_, rfl⟩ ht
    repeat walk_at "t3"
    refine w_andP (a := false) (b := false) ?_ (fun h => by cases h) ?_
    · repeat walk_at "t3"
      refine c3_ISI hk.1 hk.2 ?_
      exact ⟨rfl, rfl⟩
    repeat walk_at "t3"
    refine w_andP (a := false) (b := false) ?_ (fun h => by cases h) q
    repeat walk_at "t3"
    exact ⟨rfl, rfl⟩
def amtIn (m : BM) (x : D) : Bool := isAm x && ((amounts m).map aD).any fun z => peq z x
theorem amtIn_a (m : BM) (x : Am) : amtIn m (aD x) = decide (x ∈ amounts m) := by
  unfold amtIn
  rw [isAm_aD, any_a, Bool.true_and]
def badO (m : BM) : List D → RO
  | [] => none
  | x :: xs => if amtIn m x = true then badO m xs else some (.amount, x)
def factO (m : BM) (xs : List D) : RO := (badO m xs).or (if m.facts.length < 32 then none else some (.full, .int 32))
theorem badO_r {m : BM} : ∀ {xs : List D} {r : Rf} {t : D}, badO m xs = some (r, t) → r = .amount ∧ t ∈ xs
  | [], _, _, h => by cases h
  | x :: xs, r, t, h => by
    unfold badO at h
    split at h
    · obtain ⟨h1, h2⟩ := badO_r h
      exact ⟨h1, List.mem_cons_of_mem _ h2⟩
    · cases h; exact ⟨rfl, List.mem_cons_self ..⟩
theorem badO_none {m : BM} : ∀ {xs : List D}, badO m xs = none → ∀ x ∈ xs, amtIn m x = true
  | [], _, x, hx => by cases hx
  | y :: ys, h, x, hx => by
    unfold badO at h
    split at h
    · rcases List.mem_cons.mp hx with rfl | hx
      · assumption
      · exact badO_none h x hx
    · cases h
theorem badO_ok {m : BM} : ∀ {xs : List D}, (∀ x ∈ xs, amtIn m x = true) → badO m xs = none
  | [], _ => rfl
  | y :: ys, h => by
    unfold badO
    rw [if_pos (h y (List.mem_cons_self ..))]
    exact badO_ok fun x hx => h x (List.mem_cons_of_mem _ hx)
theorem badO_at {m : BM} : ∀ {xs : List D} {i : Nat} {x : D}, xs[i]? = some x → (∀ y ∈ xs.take i, amtIn m y = true) → amtIn m x = false → badO m xs = some (.amount, x)
  | [], i, x, h, _, _ => by simp at h
  | y :: ys, 0, x, h, _, hx => by
    simp at h; subst h
    unfold badO; rw [hx]; rfl
  | y :: ys, i + 1, x, h, hp, hx => by
    unfold badO
    rw [if_pos (hp y (by simp))]
    exact badO_at (i := i) (by simpa using h) (fun z hz => hp z (by simp [hz])) hx
def S_add_fact (A0 : Adr) : Sp3 := fun ds M Q E => ∃ (M0 : Mem) (A : BA) (m : BM) (w : Str) (xs : List D), ds = [.ref A.b, .tup (.str w :: xs)] ∧ M = bookM A0.f_Book M0 A m ∧ BOk A ∧ WF m ∧ (∀ x ∈ xs, AmV x) ∧ m.facts.length ≤ 32 ∧ (∀ C t, factO m xs = some (C, t) → E (C.cls A0) t M) ∧
  (factO m xs = none → Q .non (bookM A0.f_Book M0 A { m with facts := m.facts ++ [.tup (.str w :: xs)] }))
theorem ok_Book_add_fact (T : Tx P K mg A0) : FnOk P w K mg base (L2.CX P w) 6 A0.f_Book_add_fact A0.d_Book_add_fact ["self", "fact"] (lift3 (S_add_fact A0)) := by
  refine T.F_Book_add_fact.okX sc_Book_add_fact (lift3_len fun ds M Q E ⟨a, b, c, d, e, h, _⟩ => by rw [h]; rfl) (fun cdv A outer s H vs Q E hr h => ?_)
  have hu := hr.units
  have hu5 := units65 hr
  have hu1 := units1 hr
  refine ⟨_, (pss_cons (ps_set (i := 2) sc_Book_add_fact.nd (by rfl) (Or.inl (by rfl)) (pe_meth0 (pv 0) T.cl_Book T.m_Book_amounts (ok_Book_amounts T) (hr.mono (by decide)) T.b_Book_amounts .nil (passes_call (takes_of rfl rfl rfl rfl) (fun _ _ _ _ h => h))))
  (pss_cons (ps_for (passes_of rfl) (by rfl) (pi_tup (pe_slice (sl_SLTK K rfl) (pv 1) (po_some pe_int) po_none)) (pg_name (i := 3) sc_Book_add_fact.nd (by rfl) (Or.inl (by rfl))) (pss_one (ps_if (PW.pt (pw_or (pt_not (pt_truthK K rfl (pe_call (ok_is_amount T) (hr.mono (by decide)) (by rfl) T.g_is_amount T.k_is_amount T.b_is_amount .nil pass0 (pa_cons (pv 3) pa_nil)) (by intro _; rfl))) (pw_or1 (pt_cmpR (op_NINAK K P w rfl rfl rfl hu5) (pv 3) (pv 2) (by rfl))))) (pss_one (ps_raiseDye (by rfl) T.dye_BadAmount T.g_BadAmount hr (takes_of rfl rfl rfl rfl) (pa_cons (pv 3) (pa_cons pe_str pa_nil)))) pss_nil)))
  (pss_cons (ps_expr (pe_call (ok_check_room T) (hr.mono (by decide)) (by rfl) T.g_check_room T.k_check_room T.b_check_room .nil (passes_call (takes_of rfl rfl rfl rfl) (fun _ _ _ _ h => h)) (pa_cons (pe_fldK K rfl (pv 0)) (pa_cons (pe_cvalK K rfl (pe_glob (v := .ref A0.f_Book) (by rfl) T.g_Book rfl)) pa_nil))))
  (pss_one (ps_expr (pe_bm PySem.F.plainAttrs_list PySem.F.slot_list_append PySem.F.type_list_append mt_append (pe_fldK K rfl (pv 0)) (pa_cons (pv 1) pa_nil))))))), run3 h fun B ds M Q3 E3 hs hE => ?_⟩
  obtain ⟨M0, A, m, w, xs, rfl, rfl, o, wf, hxs, hl, qe, q⟩ := hs
  change W3s B _ _ [some (.ref A.b), some (.tup (.str w :: xs)), none, none] _
  try dsimp only [cxOf, Cx.nox, Cx.wish]
  repeat walk_at "t3"
  refine w_meth0 ?_
  repeat walk_at "t3"
  refine ⟨_, .inr ⟨_, rfl, bk_b⟩, rfl, ?_⟩
  repeat walk_at "t3"
  refine ⟨M0, A, m, rfl, rfl, o, wf, .inl ?_⟩
  repeat walk_at "t3"
  refine s_for (i_tup ?_)
  repeat walk_at "t3"
  refine s3_t ?_ ?_
  · intro h
    have := h.1
    rw [show HT.sIx (D.str w :: xs).length 0 (some 1) = min 1 (D.str w :: xs).length from HT.sIx_nat _ _ 1] at this
    simp at this
  rw [cutD_tail]
  repeat walk_at "t3"
  refine ⟨fun i σ' M' => ∃ b3 : Option D, (∀ y ∈ xs.take i, amtIn m y = true) ∧ σ' = [some (.ref A.b), some (.tup (.str w :: xs)), some (.lst ((amounts m).map aD)), b3] ∧ M' = bookM A0.f_Book M0 A m, fun _ _ _ _ => trivial, ⟨none, fun y hy => (by simp at hy), rfl, rfl⟩, ?_, ?_⟩
  · rintro i x σ' M' hi ⟨b3, hp, rfl, rfl⟩
    have hxm := List.mem_of_getElem? hi
    have vx := hxs x hxm
    repeat walk_at "t3"
    refine w_orTP (a := !isAm x) (b := !(((amounts m).map aD).any fun z => peq z x)) ?_ (fun _ => ?_) ?_
    · repeat walk_at "t3"
      exact ⟨x, rfl, vx, isAm x, rfl, rfl, rfl⟩
    · repeat walk_at "t3"
      refine r3_inA <| r3_inL (r3_in (n := 9) (m := 1) .fz vx.ok (okDs_a _) ?_)
      exact ⟨_, rfl, rfl, rfl⟩
    · refine iteB (fun h => ?_) (fun h => ?_)
      · refine s_raise (impW_of hE) ?_
        repeat walk_at "t3"
        refine ⟨_, _, rfl, qe .amount _ ?_⟩
        have hb : amtIn m x = false := by
          unfold amtIn
          rw [← Bool.not_and] at h
          exact Bool.eq_false_iff.mpr fun e => by rw [e] at h; cases h
        exact or_some (badO_at hi hp hb)
      · refine s_next ?_
        refine ⟨_, fun y hy => ?_, rfl, rfl⟩
        rw [List.take_add_one, hi] at hy
        rcases List.mem_append.mp hy with hy | hy
        · exact hp y hy
        · have : y = x := by simpa using hy
          rw [this]
          unfold amtIn
          rw [← Bool.not_and] at h
          cases e : (isAm x && ((amounts m).map aD).any fun z => peq z x) with
          | true => rfl
          | false => rw [e] at h; cases h
  rintro σ' M' ⟨b3, hp, rfl, rfl⟩
  rw [List.take_length] at hp
  have e0 : factO m xs = if m.facts.length < 32 then none else some (.full, .int 32) := or_none (badO_ok hp)
  rw [e0] at qe q
  show W3s B _ _ _ _
  repeat walk_at "t3q"
  refine w_call (dds := []) (E3 := E3) (fun _ => rfl) hE ?_
  repeat walk_at "t3q"
  refine ⟨_, _, .ref A.f, .inr ⟨_, rfl, bk_b⟩, T.cl_Book, T.na_fact_rows, rfl, ?_⟩
  repeat walk_at "t3q"
  obtain ⟨mc, hrd, _, ⟨u8, h8⟩, _⟩ := T.rd_Book
  refine w_cval hrd h8 ?_
  repeat walk_at "t3q"
  refine ⟨rfl, ?_⟩
  repeat walk_at "t3q"
  refine ⟨.ref A.f, m.facts.length, 32, rfl, ⟨A.f, rfl, .inr ⟨_, bk_f o, rfl⟩⟩, fun hl => ?_, fun hl => qe .full _ (by rw [if_neg (by omega)])⟩
  have q := q (by rw [if_pos (by omega)])
  repeat walk_at "t3q"
  refine ⟨_, _, .ref A.f, .inr ⟨_, rfl, bk_b⟩, T.cl_Book, T.na_fact_rows, rfl, ?_⟩
  refine ⟨.lo (bk_f o), ?_⟩
  repeat walk_at "t3q"
  refine m3_append (bk_f o) (by omega) ?_
  rw [pt_f o]
  exact q
def S_tell (A0 : Adr) : Sp3 := fun ds M Q E => ∃ (M0 : Mem) (A : BA) (m : BM) (x y : D), ds = [.ref A.b, x, y] ∧ M = bookM A0.f_Book M0 A m ∧ BOk A ∧ WF m ∧ AmV x ∧ AmV y ∧ m.facts.length ≤ 32 ∧ (∀ C t, factO m [x, y] = some (C, t) → E (C.cls A0) t M) ∧
  (factO m [x, y] = none → Q .non (bookM A0.f_Book M0 A { m with facts := m.facts ++ [.tup [.str "tell", x, y]] }))
theorem ok_Book_tell (T : Tx P K mg A0) : FnOk P w K mg base (L2.CX P w) 7 A0.f_Book_tell A0.d_Book_tell ["self", "more", "less"] (lift3 (S_tell A0)) := by
  refine T.F_Book_tell.okX sc_Book_tell (lift3_len fun ds M Q E ⟨a, b, c, d, e, h, _⟩ => by rw [h]; rfl) (fun cdv A outer s H vs Q E hr h => ?_)
  have hu := hr.units
  have hu5 := units65 hr
  have hu1 := units1 hr
  refine ⟨_, (pss_one (ps_expr (pe_meth (pv 0) T.cl_Book T.m_Book_add_fact (ok_Book_add_fact T) (hr.mono (by decide)) T.b_Book_add_fact .nil (passes_call (takes_of rfl rfl rfl rfl) (fun _ _ _ _ h => h)) (pa_cons (pe_tup (pa_cons pe_str (pa_cons (pv 1) (pa_cons (pv 2) pa_nil)))) pa_nil)))), run3 h fun B ds M Q3 E3 hs hE => ?_⟩
  obtain ⟨M0, A, m, x, y, rfl, rfl, o, wf, hx, hy, hl, qe, q⟩ := hs
  change W3s B _ _ [some (.ref A.b), some x, some y] _
  try dsimp only [cxOf, Cx.nox, Cx.wish]
  repeat walk_at "t3"
  refine w_meth (dds := []) (E3 := E3) (fun _ => rfl) hE ?_
  repeat walk_at "t3"
  refine ⟨_, .inr ⟨_, rfl, bk_b⟩, rfl, ?_⟩
  repeat walk_at "t3"
  refine ⟨M0, A, m, "tell", [x, y], rfl, rfl, o, wf, fun z hz => ?_, hl, qe, q⟩
  rcases List.mem_cons.mp hz with rfl | hz
  · exact hx
  · have : z = y := by simpa using hz
    rw [this]; exact hy
def S_tell_some (A0 : Adr) : Sp3 := fun ds M Q E => ∃ (M0 : Mem) (A : BA) (m : BM) (x : D), ds = [.ref A.b, x] ∧ M = bookM A0.f_Book M0 A m ∧ BOk A ∧ WF m ∧ AmV x ∧ m.facts.length ≤ 32 ∧ (∀ C t, factO m [x] = some (C, t) → E (C.cls A0) t M) ∧
  (factO m [x] = none → Q .non (bookM A0.f_Book M0 A { m with facts := m.facts ++ [.tup [.str "some", x]] }))
theorem ok_Book_tell_some (T : Tx P K mg A0) : FnOk P w K mg base (L2.CX P w) 7 A0.f_Book_tell_some A0.d_Book_tell_some ["self", "amount"] (lift3 (S_tell_some A0)) := by
  refine T.F_Book_tell_some.okX sc_Book_tell_some (lift3_len fun ds M Q E ⟨a, b, c, d, h, _⟩ => by rw [h]; rfl) (fun cdv A outer s H vs Q E hr h => ?_)
  have hu := hr.units
  have hu5 := units65 hr
  have hu1 := units1 hr
  refine ⟨_, (pss_one (ps_expr (pe_meth (pv 0) T.cl_Book T.m_Book_add_fact (ok_Book_add_fact T) (hr.mono (by decide)) T.b_Book_add_fact .nil (passes_call (takes_of rfl rfl rfl rfl) (fun _ _ _ _ h => h)) (pa_cons (pe_tup (pa_cons pe_str (pa_cons (pv 1) pa_nil))) pa_nil)))), run3 h fun B ds M Q3 E3 hs hE => ?_⟩
  obtain ⟨M0, A, m, x, rfl, rfl, o, wf, hx, hl, qe, q⟩ := hs
  change W3s B _ _ [some (.ref A.b), some x] _
  try dsimp only [cxOf, Cx.nox, Cx.wish]
  repeat walk_at "t3"
  refine w_meth (dds := []) (E3 := E3) (fun _ => rfl) hE ?_
  repeat walk_at "t3"
  refine ⟨_, .inr ⟨_, rfl, bk_b⟩, rfl, ?_⟩
  repeat walk_at "t3"
  refine ⟨M0, A, m, "some", [x], rfl, rfl, o, wf, fun z hz => ?_, hl, qe, q⟩
  have : z = x := by simpa using hz
  rw [this]; exact hx
theorem factO_ok {m : BM} {xs : List Am} (h : ∀ x ∈ xs, x ∈ amounts m) (l : m.facts.length < 32) : factO m (xs.map aD) = none := by
  unfold factO
  rw [badO_ok fun x hx => ?_, if_pos l]
  · rfl
  · obtain ⟨a, ha, rfl⟩ := List.mem_map.mp hx
    rw [amtIn_a]; exact decide_eq_true (h a ha)
theorem gk_tell {A0 : Adr} {M0 : Mem} {A : BA} {m : BM} {Q : DQ} {E : EQ3} {x y : Am} (o : BOk A) (wf : WF m) (hx : x ∈ amounts m) (hy : y ∈ amounts m) (l : m.facts.length < 32) (q : Q .non (bookM A0.f_Book M0 A { m with facts := m.facts ++ [fctD (.tell x y)] })) : S_tell A0 [.ref A.b, aD x, aD y] (bookM A0.f_Book M0 A m) Q E := by
  have e : factO m [aD x, aD y] = none := factO_ok (xs := [x, y]) (fun z hz => by
    rcases List.mem_cons.mp hz with rfl | hz
    · exact hx
    · rw [List.mem_singleton.mp hz]; exact hy) l
  exact ⟨M0, A, m, aD x, aD y, rfl, rfl, o, wf, .aD x, .aD y, by omega, fun C t h => (by rw [e] at h; cases h), fun _ => q⟩
theorem gk_some {A0 : Adr} {M0 : Mem} {A : BA} {m : BM} {Q : DQ} {E : EQ3} {x : Am} (o : BOk A) (wf : WF m) (hx : x ∈ amounts m) (l : m.facts.length < 32) (q : Q .non (bookM A0.f_Book M0 A { m with facts := m.facts ++ [fctD (.one x)] })) : S_tell_some A0 [.ref A.b, aD x] (bookM A0.f_Book M0 A m) Q E := by
  have e : factO m [aD x] = none := factO_ok (xs := [x]) (fun z hz => by rw [List.mem_singleton.mp hz]; exact hx) l
  exact ⟨M0, A, m, aD x, rfl, rfl, o, wf, .aD x, by omega, fun C t h => (by rw [e] at h; cases h), fun _ => q⟩
end
end LW
set_option Elab.async false
set_option linter.all false
set_option maxRecDepth 100000
set_option maxHeartbeats 4000000
namespace LW
open PySem L2 T3
open Evl (Ex)
local macro_rules | `(tactic| walk_at "t3") => `(tactic| first
  | (with_reducible refine s_seq ?_) | (with_reducible refine s_asg ?_) | (with_reducible refine s_if ?_) | (with_reducible refine s_ret ?_) | (with_reducible refine s_drop ?_) | (with_reducible refine s_asgG ?_) | (with_reducible refine s_retN ?_)
  | (with_reducible refine s_next ?_) | (with_reducible refine s_brk ?_) | (with_reducible refine s_cont ?_) | (with_reducible refine s_par ?_) | (with_reducible refine s_fld ?_)
  | ((with_reducible refine' w_var ?hx ?_); (case hx => exact rfl)) | (with_reducible refine w_cI ?_) | (with_reducible refine w_cB ?_) | (with_reducible refine w_cS ?_) | (with_reducible refine w_cN ?_) | (with_reducible refine w_cT ?_) | (with_reducible refine w_cR ?_)
  | (with_reducible refine w_op ?_) | (with_reducible refine w_un ?_) | (with_reducible refine w_nil ?_) | (with_reducible refine w_tup ?_) | (with_reducible refine w_cons ?_) | (with_reducible refine w_cb ?_) | (with_reducible refine w_bm0 ?_) | (with_reducible refine w_bm ?_)
  | (with_reducible refine w_test ?_) | (with_reducible refine w_B ?_) | (with_reducible refine w_notT ?_) | (with_reducible refine w_yes ?_) | (with_reducible refine w_notV ?_)
  | (with_reducible refine w_ifE ?_) | (with_reducible refine w_isN ?_) | (with_reducible refine w_notN ?_) | (with_reducible refine w_tr ?_) | (with_reducible refine w_chain ?_) | (with_reducible refine w_fld ?_) | (with_reducible refine w_sl ?_) | (with_reducible refine o_no ?_) | (with_reducible refine o_some ?_)
  | (with_reducible refine w_call0 ?_) | (with_reducible refine g_name ?_) | ((with_reducible refine' g_tup ?hx ?hy ?_); (case hx => exact rfl); (case hy => exact rfl)) | (with_reducible refine g_cons ?_) | (with_reducible refine g_nil ?_) | (with_reducible refine g_set ?_)
  | (with_reducible refine r3_add_ii ?_) | (with_reducible refine r3_sub ?_) | (with_reducible refine r3_lt ?_) | (with_reducible refine r3_le ?_) | (with_reducible refine r3_gt ?_) | (with_reducible refine r3_ge ?_) | (with_reducible refine u3_neg ?_)
  | (with_reducible refine c3_int_i ?_) | (with_reducible refine c3_int_b ?_) | (with_reducible refine c3_abs ?_) | (with_reducible refine c3_len_t ?_) | (with_reducible refine c3_len .fz ?_) | (with_reducible refine c3_max2 ?_) | (with_reducible refine c3_min2 ?_)
  | (with_reducible refine r3_eq (n := 9) (m := 9) okD_int okD_int ?_) | (with_reducible refine r3_ne (n := 9) (m := 9) okD_int okD_int ?_)
  | ((with_reducible refine' Exists.intro _ (And.intro ?hx ?_)); (case hx => exact rfl))
  | ((with_reducible refine' And.intro ?hx ?_); (case hx => (show List.length _ ≤ 100000); exact Nat.le_of_ble_eq_true rfl))
  | (with_reducible refine c3_lenL (c3_len_t ?_)) | (with_reducible refine c3_lenL (c3_len .fz ?_)))

section
variable {P : Program} {w : World} {K : PySem.W.Frag} {mg : Str → Option Value} {base : Heap} {A0 : Adr}

def S_sort : Sp3 := fun ds M Q _ => ∃ (L : LA) (m : BM) (fs : List Fct) (c k : Str), ds = [.ref L.o, .str c] ∧ LM M L m ∧ GM m fs ∧ m.cloths.lookup c = some k ∧ Q (.str k) M
def S_grip : Sp3 := fun ds M Q _ => ∃ (L : LA) (m : BM) (fs : List Fct) (c : Str), ds = [.ref L.o, .str c] ∧ LM M L m ∧ GM m fs ∧ c ∈ names m.cloths ∧ Q (.str (holdN m c)) M
def S_before : Sp3 := fun ds M Q _ => ∃ (L : LA) (m : BM) (fs : List Fct) (n : Nat) (x : Str × Str), ds = [.ref L.o, .int n] ∧ LM M L m ∧ GM m fs ∧ m.dips[n]? = some x ∧ Q (optD (prevF m.dips x.1 n)) M
def S_lleaves : Sp3 := fun ds M Q _ => ∃ (L : LA) (m : BM) (fs : List Fct) (n : Nat) (x : Str × Str), ds = [.ref L.o, .int n] ∧ LM M L m ∧ GM m fs ∧ m.dips[n]? = some x ∧ Q (.bl (leavesX m n x)) M
def S_lamounts : Sp3 := fun ds M Q _ => ∃ (L : LA) (m : BM) (fs : List Fct), ds = [.ref L.o] ∧ LM M L m ∧ GM m fs ∧ Q (.lst ((amounts m).map aD)) M
def S_lthirsty : Sp3 := fun ds M Q _ => ∃ (L : LA) (m : BM) (fs : List Fct) (x y : Str), ds = [.ref L.o, .str x, .str y] ∧ LM M L m ∧ GM m fs ∧ x ∈ names m.kinds ∧ y ∈ names m.kinds ∧ Q (.bl (thB m.thirst x y)) M
def S_steps : Sp3 := fun ds M Q _ => ∃ (L : LA) (m : BM) (fs : List Fct), ds = [.ref L.o] ∧ LM M L m ∧ GM m fs ∧ Q (.lst ((stepsOf m fs).map pD)) M
def S_there : Sp3 := fun ds M Q _ => ∃ (L : LA) (m : BM) (fs : List Fct), ds = [.ref L.o] ∧ LM M L m ∧ GM m fs ∧ Q (.lst ((thereOf m fs).map aD)) M
def S_lists : Sp3 := fun ds M Q _ => ∃ (x y : D) (as : List Am), ds = [x, y] ∧ LstD M x (as.map aD) ∧ LstD M y (as.map aD) ∧ as.length ≤ 100000 ∧ Q (.bl true) M
def S_free : Sp3 := fun ds M Q _ => ∃ (x : D) (ns : List Str), ds = [x] ∧ LstD M x (ns.map .str) ∧ (∀ s ∈ ns, okT s) ∧ ns.length ≤ 19 ∧ ∀ w, goodS w = true → w ∉ ns → Q (.str w) M
def S_lfacts : Sp3 := fun ds M Q _ => ∃ (a : Addr) (L : LA) (m : BM), ds = [.ref a, .ref L.o] ∧ LM M L m ∧ Src M a L ∧ GM m [] ∧
  ∀ M' fs, GM { m with facts := fs.map fctD } fs → fs.length ≤ 3 → LM M' L { m with facts := fs.map fctD } → Src M' a L → Q .non M'
def S_more : Sp3 := fun ds M Q _ => ∃ (a : Addr) (L : LA) (m : BM) (fs : List Fct), ds = [.ref a, .ref L.o] ∧ LM M L m ∧ Src M a L ∧ GM m fs ∧ fs.length ≤ 3 ∧
  ∀ M' fs', GM { m with facts := fs'.map fctD } fs' → fs'.length ≤ 23 → LM M' L { m with facts := fs'.map fctD } → Src M' a L → Q .non M'
section
variable (A0 : Adr)
def S_build : Sp3 := fun ds M Q _ => ∃ (L : LA) (m : BM) (fs : List Fct), ds = [.ref L.o] ∧ LM M L m ∧ GM m fs ∧ ∀ A, BOk A → Fresh M A → Q (.ref A.b) (bookM A0.f_Book M A m)
end
end
end LW
set_option Elab.async false
set_option linter.all false
set_option maxRecDepth 100000
set_option maxHeartbeats 4000000
namespace LW
open PySem L2 T3
open Evl (Ex)
local macro_rules | `(tactic| walk_at "t3") => `(tactic| first
  | (with_reducible refine s_seq ?_) | (with_reducible refine s_asg ?_) | (with_reducible refine s_if ?_) | (with_reducible refine s_ret ?_) | (with_reducible refine s_drop ?_) | (with_reducible refine s_asgG ?_) | (with_reducible refine s_retN ?_)
  | (with_reducible refine s_next ?_) | (with_reducible refine s_brk ?_) | (with_reducible refine s_cont ?_) | (with_reducible refine s_par ?_) | (with_reducible refine s_fld ?_)
  | ((with_reducible refine' w_var ?hx ?_); (case hx => exact rfl)) | (with_reducible refine w_cI ?_) | (with_reducible refine w_cB ?_) | (with_reducible refine w_cS ?_) | (with_reducible refine w_cN ?_) | (with_reducible refine w_cT ?_) | (with_reducible refine w_cR ?_)
  | (with_reducible refine w_op ?_) | (with_reducible refine w_un ?_) | (with_reducible refine w_nil ?_) | (with_reducible refine w_tup ?_) | (with_reducible refine w_cons ?_) | (with_reducible refine w_cb ?_) | (with_reducible refine w_bm0 ?_) | (with_reducible refine w_bm ?_)
  | (with_reducible refine w_test ?_) | (with_reducible refine w_B ?_) | (with_reducible refine w_notT ?_) | (with_reducible refine w_yes ?_) | (with_reducible refine w_notV ?_)
  | (with_reducible refine w_ifE ?_) | (with_reducible refine w_isN ?_) | (with_reducible refine w_notN ?_) | (with_reducible refine w_tr ?_) | (with_reducible refine w_chain ?_) | (with_reducible refine w_fld ?_) | (with_reducible refine w_sl ?_) | (with_reducible refine o_no ?_) | (with_reducible refine o_some ?_)
  | (with_reducible refine w_call0 ?_) | (with_reducible refine g_name ?_) | ((with_reducible refine' g_tup ?hx ?hy ?_); (case hx => exact rfl); (case hy => exact rfl)) | (with_reducible refine g_cons ?_) | (with_reducible refine g_nil ?_) | (with_reducible refine g_set ?_)
  | (with_reducible refine r3_add_ii ?_) | (with_reducible refine r3_sub ?_) | (with_reducible refine r3_lt ?_) | (with_reducible refine r3_le ?_) | (with_reducible refine r3_gt ?_) | (with_reducible refine r3_ge ?_) | (with_reducible refine u3_neg ?_)
  | (with_reducible refine c3_int_i ?_) | (with_reducible refine c3_int_b ?_) | (with_reducible refine c3_abs ?_) | (with_reducible refine c3_len_t ?_) | (with_reducible refine c3_len .fz ?_) | (with_reducible refine c3_max2 ?_) | (with_reducible refine c3_min2 ?_)
  | (with_reducible refine r3_eq (n := 9) (m := 9) okD_int okD_int ?_) | (with_reducible refine r3_ne (n := 9) (m := 9) okD_int okD_int ?_)
  | ((with_reducible refine' Exists.intro _ (And.intro ?hx ?_)); (case hx => exact rfl))
  | ((with_reducible refine' And.intro ?hx ?_); (case hx => (show List.length _ ≤ 100000); exact Nat.le_of_ble_eq_true rfl))
  | (with_reducible refine c3_lenL (c3_len_t ?_)) | (with_reducible refine c3_lenL (c3_len .fz ?_)))

section
variable {P : Program} {w : World} {K : PySem.W.Frag} {mg : Str → Option Value} {base : Heap} {A0 : Adr}

theorem ok_lw_is_whole (T : Tx P K mg A0) : FnOk P w K mg base CX0 1 A0.f_lw_is_whole A0.d_lw_is_whole ["_law_value"] (lift3 S_whole) := by
  refine T.F_lw_is_whole.ok sc_lw_is_whole (lift3_len fun ds M Q E ⟨a, h, _⟩ => by rw [h]; rfl) (fun cdv A outer s H vs Q E hr h => ?_)
  have hu := hr.units
  have hu5 := units65 hr
  refine ⟨_, (pss_one (ps_ret (pe_and (pe_callB (call_ISIK K rfl) (by rfl) T.n_isinstance (by decide +kernel) (pa_cons (pv 0) (pa_cons (pe_bltn (v := .ty "int") (by rfl) T.n_int (by decide +kernel) rfl) pa_nil))) (pe_one (pe_not (pe_callB (call_ISIK K rfl) (by rfl) T.n_isinstance (by decide +kernel) (pa_cons (pv 0) (pa_cons (pe_bltn (v := .ty "bool") (by rfl) T.n_bool (by decide +kernel) rfl) pa_nil)))))))), run3 h fun B ds M Q3 E3 hs hE => ?_⟩
  obtain ⟨x, rfl, sx, q⟩ := hs
  change W3s B _ _ [some x] M
  try dsimp only [cxOf, Cx.nox, Cx.wish]
  have key : ∀ a b, (tyD x == "") = false → PySem.W.kitOne K (.type (tyD x)) (.type "int") = some a → (a = true → PySem.W.kitOne K (.type (tyD x)) (.type "bool") = some b) → isI x = (a && !b) → W3s B (tRet (tAndV (tCB (rISI K) (tCons (tVar 0) (tCons (tC (.ty "int")) tNil))) (tNotV (tCB (rISI K) (tCons (tVar 0) (tCons (tC (.ty "bool")) tNil)))))) { nx := fun _ M => Q3 D.non M, rt := Q3 } [some x] M := by
    intro a b h0 h1 h2 e
    rw [e] at q
    refine s_ret (w_andP (a := a) (b := !b) ?_ (fun h => ?_) q)
    · repeat walk_at "t3"
      refine c3_ISI h0 h1 ?_
      exact ⟨rfl, rfl⟩
    · repeat walk_at "t3"
      refine c3_ISI h0 (h2 h) ?_
      exact ⟨_, rfl, rfl, rfl⟩
  rcases sx with ⟨i, rfl⟩ | ⟨b, rfl⟩ | rfl | ⟨s, rfl⟩ | ⟨l, rfl⟩
  · exact key true false rfl T.kit_ii (fun _ => T.kit_ib) rfl
  · exact key true true rfl T.kit_bi (fun _ => T.kit_bb) rfl
  · exact key false true rfl T.kit_ni (fun h => by cases h) rfl
  · exact key false true rfl T.kit_si (fun h => by cases h) rfl
  · exact key false true rfl T.kit_ti (fun h => by cases h) rfl
end
end LW
set_option Elab.async false
set_option linter.all false
set_option maxRecDepth 100000
set_option maxHeartbeats 4000000
namespace LW
open PySem L2 T3
open Evl (Ex)
local macro_rules | `(tactic| walk_at "t3") => `(tactic| first
  | (with_reducible refine s_seq ?_) | (with_reducible refine s_asg ?_) | (with_reducible refine s_if ?_) | (with_reducible refine s_ret ?_) | (with_reducible refine s_drop ?_) | (with_reducible refine s_asgG ?_) | (with_reducible refine s_retN ?_)
  | (with_reducible refine s_next ?_) | (with_reducible refine s_brk ?_) | (with_reducible refine s_cont ?_) | (with_reducible refine s_par ?_) | (with_reducible refine s_fld ?_)
  | ((with_reducible refine' w_var ?hx ?_); (case hx => exact rfl)) | (with_reducible refine w_cI ?_) | (with_reducible refine w_cB ?_) | (with_reducible refine w_cS ?_) | (with_reducible refine w_cN ?_) | (with_reducible refine w_cT ?_) | (with_reducible refine w_cR ?_)
  | (with_reducible refine w_op ?_) | (with_reducible refine w_un ?_) | (with_reducible refine w_nil ?_) | (with_reducible refine w_tup ?_) | (with_reducible refine w_cons ?_) | (with_reducible refine w_cb ?_) | (with_reducible refine w_bm0 ?_) | (with_reducible refine w_bm ?_)
  | (with_reducible refine w_test ?_) | (with_reducible refine w_B ?_) | (with_reducible refine w_notT ?_) | (with_reducible refine w_yes ?_) | (with_reducible refine w_notV ?_)
  | (with_reducible refine w_ifE ?_) | (with_reducible refine w_isN ?_) | (with_reducible refine w_notN ?_) | (with_reducible refine w_tr ?_) | (with_reducible refine w_chain ?_) | (with_reducible refine w_fld ?_) | (with_reducible refine w_sl ?_) | (with_reducible refine o_no ?_) | (with_reducible refine o_some ?_)
  | (with_reducible refine w_call0 ?_) | (with_reducible refine g_name ?_) | ((with_reducible refine' g_tup ?hx ?hy ?_); (case hx => exact rfl); (case hy => exact rfl)) | (with_reducible refine g_cons ?_) | (with_reducible refine g_nil ?_) | (with_reducible refine g_set ?_)
  | (with_reducible refine r3_add_ii ?_) | (with_reducible refine r3_sub ?_) | (with_reducible refine r3_lt ?_) | (with_reducible refine r3_le ?_) | (with_reducible refine r3_gt ?_) | (with_reducible refine r3_ge ?_) | (with_reducible refine u3_neg ?_)
  | (with_reducible refine c3_int_i ?_) | (with_reducible refine c3_int_b ?_) | (with_reducible refine c3_abs ?_) | (with_reducible refine c3_len_t ?_) | (with_reducible refine c3_len .fz ?_) | (with_reducible refine c3_max2 ?_) | (with_reducible refine c3_min2 ?_)
  | (with_reducible refine r3_eq (n := 9) (m := 9) okD_int okD_int ?_) | (with_reducible refine r3_ne (n := 9) (m := 9) okD_int okD_int ?_)
  | ((with_reducible refine' Exists.intro _ (And.intro ?hx ?_)); (case hx => exact rfl))
  | ((with_reducible refine' And.intro ?hx ?_); (case hx => (show List.length _ ≤ 100000); exact Nat.le_of_ble_eq_true rfl))
  | (with_reducible refine c3_lenL (c3_len_t ?_)) | (with_reducible refine c3_lenL (c3_len .fz ?_)))

section
variable {P : Program} {w : World} {K : PySem.W.Frag} {mg : Str → Option Value} {base : Heap} {A0 : Adr}

def fstIs (c : Str) (d : D) : Bool := match d with | .tup (.str s :: _) => decide (s = c) | _ => false
theorem rows_lookup {l : List (Str × Str)} {c k : Str} (h : l.lookup c = some k) : ∃ r, ((l.map wD).filter (fstIs c)).map sndD = .str k :: r := by
  induction l with
  | nil => cases h
  | cons p l ih =>
    obtain ⟨a, b⟩ := p
    rw [List.lookup_cons] at h
    by_cases e : c = a
    · subst e
      have : b = k := by simpa using h
      subst this
      rw [List.map_cons, List.filter_cons_of_pos (show fstIs c (wD (c, b)) = true from decide_eq_true rfl)]
      exact ⟨_, rfl⟩
    · rw [beq_eq_false_iff_ne.mpr e] at h
      rw [List.map_cons, List.filter_cons_of_neg (show ¬ fstIs c (wD (a, b)) = true from fun h => e (of_decide_eq_true h).symm)]
      exact ih h
theorem ok_sort (T : Tx P K mg A0) : FnOk P w K mg base CX0 1 A0.f_sort A0.d_sort ["_law_model_here", "_law_garment"] (lift3 S_sort) := by
  refine T.F_sort.ok sc_sort (lift3_len fun ds M Q E ⟨a, b, c, d, e, h, _⟩ => by rw [h]; rfl) (fun cdv A outer s H vs Q E hr h => ?_)
  have hu := hr.units
  have hu5 := units65 hr
  refine ⟨_, (pss_one (ps_ret (pe_ix (ix_seqK K rfl) (pe_lc (own := [("_law_row", 2)]) (g := (gName 2)) (by rfl) sc_sort.nd (pi_list (pe_ix (ix_seqK K rfl) (pv 0) pe_int (fun _ _ => by rfl))) (blkOk_by (N := ["_law_model_here", "_law_garment", "_law_row"]) (sc := defScope s_sort) (own := [("_law_row", 2)]) (by decide +kernel)) (fun _ _ _ _ _ => (pg_name (i := 2) sc_sort.nd (by rfl) (Or.inl (by rfl)))) (fun _ _ _ _ _ => pts_one (pt_cmpR (op_eqDK K rfl hu) (pe_ix (ix_seqK K rfl) (pv 2) pe_int (fun _ _ => by rfl)) (pv 1) (nomark _))) (fun _ _ _ _ _ => (pe_ix (ix_seqK K rfl) (pv 2) pe_int (fun _ _ => by rfl)))) pe_int (fun _ _ => by rfl)))), run3 h fun B ds M Q3 E3 hs hE => ?_⟩
  obtain ⟨L, m, fs, c, k, rfl, lm, g, hk, q⟩ := hs
  change W3s B _ _ [some (.ref L.o), some (.str c), none] M
  try dsimp only [cxOf, Cx.nox, Cx.wish]
  have okc : okT c := good_okT (g.cname (lookup_in.mp (by rw [hk]; rfl)))
  have c8 := g.c8
  repeat walk_at "t3"
  refine w_lcP (fstIs c) sndD own_name (i_listO ?_)
  repeat walk_at "t3"
  refine r3_ix_l (.ow lm.o) (at3 (j := 3) (by omega) (v := .ref L.c) rfl) ?_
  refine ⟨_, _, rfl, lm.c, by rw [List.length_map]; omega, lm.c, ?_, ?_⟩
  · intro i d M' hi hM'
    obtain ⟨x, hx, rfl⟩ := map_at hi
    have okx := good_okT (g.cg x (List.mem_of_getElem? hx)).1
    repeat walk_at "t3"
    refine ⟨rfl, ?_⟩
    repeat walk_at "t3"
    refine r3_ix_t (at3 (j := 0) (by omega) (v := .str x.1) rfl) ?_
    repeat walk_at "t3"
    refine r3_eq (n := 9) (m := 9) (okD_S okx) (okD_S okc) ?_
    rw [pq_str]
    refine ⟨_, rfl, rfl, rfl, fun _ => ?_⟩
    repeat walk_at "t3"
    exact r3_ix_t (at3 (j := 1) (by omega) (v := .str x.2) rfl) ⟨rfl, rfl⟩
  · obtain ⟨r, hr⟩ := rows_lookup hk
    rw [hr]
    repeat walk_at "t3"
    exact r3_ix_l .fz (at3 (j := 0) (by omega) (v := .str k) rfl) q
end
end LW
set_option Elab.async false
set_option linter.all false
set_option maxRecDepth 100000
set_option maxHeartbeats 4000000
namespace LW
open PySem L2 T3
open Evl (Ex)
local macro_rules | `(tactic| walk_at "t3") => `(tactic| first
  | (with_reducible refine s_seq ?_) | (with_reducible refine s_asg ?_) | (with_reducible refine s_if ?_) | (with_reducible refine s_ret ?_) | (with_reducible refine s_drop ?_) | (with_reducible refine s_asgG ?_) | (with_reducible refine s_retN ?_)
  | (with_reducible refine s_next ?_) | (with_reducible refine s_brk ?_) | (with_reducible refine s_cont ?_) | (with_reducible refine s_par ?_) | (with_reducible refine s_fld ?_)
  | ((with_reducible refine' w_var ?hx ?_); (case hx => exact rfl)) | (with_reducible refine w_cI ?_) | (with_reducible refine w_cB ?_) | (with_reducible refine w_cS ?_) | (with_reducible refine w_cN ?_) | (with_reducible refine w_cT ?_) | (with_reducible refine w_cR ?_)
  | (with_reducible refine w_op ?_) | (with_reducible refine w_un ?_) | (with_reducible refine w_nil ?_) | (with_reducible refine w_tup ?_) | (with_reducible refine w_cons ?_) | (with_reducible refine w_cb ?_) | (with_reducible refine w_bm0 ?_) | (with_reducible refine w_bm ?_)
  | (with_reducible refine w_test ?_) | (with_reducible refine w_B ?_) | (with_reducible refine w_notT ?_) | (with_reducible refine w_yes ?_) | (with_reducible refine w_notV ?_)
  | (with_reducible refine w_ifE ?_) | (with_reducible refine w_isN ?_) | (with_reducible refine w_notN ?_) | (with_reducible refine w_tr ?_) | (with_reducible refine w_chain ?_) | (with_reducible refine w_fld ?_) | (with_reducible refine w_sl ?_) | (with_reducible refine o_no ?_) | (with_reducible refine o_some ?_)
  | (with_reducible refine w_call0 ?_) | (with_reducible refine g_name ?_) | ((with_reducible refine' g_tup ?hx ?hy ?_); (case hx => exact rfl); (case hy => exact rfl)) | (with_reducible refine g_cons ?_) | (with_reducible refine g_nil ?_) | (with_reducible refine g_set ?_)
  | (with_reducible refine r3_add_ii ?_) | (with_reducible refine r3_sub ?_) | (with_reducible refine r3_lt ?_) | (with_reducible refine r3_le ?_) | (with_reducible refine r3_gt ?_) | (with_reducible refine r3_ge ?_) | (with_reducible refine u3_neg ?_)
  | (with_reducible refine c3_int_i ?_) | (with_reducible refine c3_int_b ?_) | (with_reducible refine c3_abs ?_) | (with_reducible refine c3_len_t ?_) | (with_reducible refine c3_len .fz ?_) | (with_reducible refine c3_max2 ?_) | (with_reducible refine c3_min2 ?_)
  | (with_reducible refine r3_eq (n := 9) (m := 9) okD_int okD_int ?_) | (with_reducible refine r3_ne (n := 9) (m := 9) okD_int okD_int ?_)
  | ((with_reducible refine' Exists.intro _ (And.intro ?hx ?_)); (case hx => exact rfl))
  | ((with_reducible refine' And.intro ?hx ?_); (case hx => (show List.length _ ≤ 100000); exact Nat.le_of_ble_eq_true rfl))
  | (with_reducible refine c3_lenL (c3_len_t ?_)) | (with_reducible refine c3_lenL (c3_len .fz ?_)))

section
variable {P : Program} {w : World} {K : PySem.W.Frag} {mg : Str → Option Value} {base : Heap} {A0 : Adr}

theorem ok_build (T : Tx P K mg A0) : FnOk P w K mg base CX0 9 A0.f_build A0.d_build ["_law_model_here"] (lift3 (S_build A0)) := by
  refine T.F_build.ok sc_build (lift3_len fun ds M Q E ⟨a, b, c, h, _⟩ => by rw [h]; rfl) (fun cdv A outer s H vs Q E hr h => ?_)
  have hu := hr.units
  have hu5 := units65 hr
  obtain ⟨dsi, hv_Book___init___1, hb_Book___init___1⟩ := T.hbi
  obtain ⟨dsk, hv_Book_add_kind_1, hb_Book_add_kind_1⟩ := T.hbk
  refine ⟨_, (pss_cons (ps_set (i := 1) sc_build.nd (by rfl) (Or.inl (by rfl)) (pe_make0 T.mk_Book (ok_Book___init__ T) (hr.mono (by decide)) (by rfl) T.g_Book hb_Book___init___1 hv_Book___init___1 passL))
  (pss_cons (ps_for PassesOwn.never (by rfl) (pi_list (pe_ix (ix_seqK K rfl) (pv 0) pe_int (fun _ _ => by rfl))) (pg_tup (by rfl) (pgs_cons (pg_name (i := 2) sc_build.nd (by rfl) (Or.inl (by rfl))) (pgs_cons (pg_name (i := 3) sc_build.nd (by rfl) (Or.inl (by rfl))) pgs_nil))) (pss_one (ps_if (pt_cmpR (op_eqDK K rfl hu) (pv 3) pe_str (nomark _)) (pss_one (ps_expr (pe_meth (pv 1) T.cl_Book T.m_Book_add_kind (ok_Book_add_kind T) (hr.mono (by decide)) hb_Book_add_kind_1 hv_Book_add_kind_1 passL (pa_cons (pv 2) pa_nil)))) (pss_one (ps_expr (pe_methN (pv 1) T.cl_Book T.m_Book_add_kind (ok_Book_add_kind T) (hr.mono (by decide)) T.kb_add_kind (passes_at passL) (pa_cons (pv 2) pa_nil) (pk_cons (pv 3) pk_nil)))))))
  (pss_cons (ps_for PassesOwn.never (by rfl) (pi_list (pe_ix (ix_seqK K rfl) (pv 0) pe_int (fun _ _ => by rfl))) (pg_tup (by rfl) (pgs_cons (pg_name (i := 4) sc_build.nd (by rfl) (Or.inl (by rfl))) (pgs_cons (pg_name (i := 5) sc_build.nd (by rfl) (Or.inl (by rfl))) pgs_nil))) (pss_one (ps_expr (pe_meth (pv 1) T.cl_Book T.m_Book_add_thirst (ok_Book_add_thirst T) (hr.mono (by decide)) T.b_Book_add_thirst .nil passL (pa_cons (pv 4) (pa_cons (pv 5) pa_nil))))))
  (pss_cons (ps_for PassesOwn.never (by rfl) (pi_list (pe_ix (ix_seqK K rfl) (pv 0) pe_int (fun _ _ => by rfl))) (pg_name (i := 2) sc_build.nd (by rfl) (Or.inl (by rfl))) (pss_one (ps_expr (pe_meth (pv 1) T.cl_Book T.m_Book_add_pot (ok_Book_add_pot T) (hr.mono (by decide)) T.b_Book_add_pot .nil passL (pa_cons (pv 2) pa_nil)))))
  (pss_cons (ps_for PassesOwn.never (by rfl) (pi_list (pe_ix (ix_seqK K rfl) (pv 0) pe_int (fun _ _ => by rfl))) (pg_tup (by rfl) (pgs_cons (pg_name (i := 2) sc_build.nd (by rfl) (Or.inl (by rfl))) (pgs_cons (pg_name (i := 6) sc_build.nd (by rfl) (Or.inl (by rfl))) pgs_nil))) (pss_one (ps_expr (pe_meth (pv 1) T.cl_Book T.m_Book_add_cloth (ok_Book_add_cloth T) (hr.mono (by decide)) T.b_Book_add_cloth .nil passL (pa_cons (pv 2) (pa_cons (pv 6) pa_nil))))))
  (pss_cons (ps_for PassesOwn.never (by rfl) (pi_list (pe_ix (ix_seqK K rfl) (pv 0) pe_int (fun _ _ => by rfl))) (pg_tup (by rfl) (pgs_cons (pg_name (i := 7) sc_build.nd (by rfl) (Or.inl (by rfl))) (pgs_cons (pg_name (i := 8) sc_build.nd (by rfl) (Or.inl (by rfl))) pgs_nil))) (pss_one (ps_expr (pe_meth (pv 1) T.cl_Book T.m_Book_dip (ok_Book_dip T) (hr.mono (by decide)) T.b_Book_dip .nil passL (pa_cons (pv 7) (pa_cons (pv 8) pa_nil))))))
  (pss_cons (ps_for PassesOwn.never (by rfl) (pi_list (pe_ix (ix_seqK K rfl) (pv 0) pe_int (fun _ _ => by rfl))) (pg_name (i := 9) sc_build.nd (by rfl) (Or.inl (by rfl))) (pss_one (ps_if (pt_cmpR (op_eqDK K rfl hu) (pe_ix (ix_seqK K rfl) (pv 9) pe_int (fun _ _ => by rfl)) pe_str (nomark _)) (pss_one (ps_expr (pe_meth (pv 1) T.cl_Book T.m_Book_tell (ok_Book_tell T) (hr.mono (by decide)) T.b_Book_tell .nil passL (pa_cons (pe_ix (ix_seqK K rfl) (pv 9) pe_int (fun _ _ => by rfl)) (pa_cons (pe_ix (ix_seqK K rfl) (pv 9) pe_int (fun _ _ => by rfl)) pa_nil))))) (pss_one (ps_expr (pe_meth (pv 1) T.cl_Book T.m_Book_tell_some (ok_Book_tell_some T) (hr.mono (by decide)) T.b_Book_tell_some .nil passL (pa_cons (pe_ix (ix_seqK K rfl) (pv 9) pe_int (fun _ _ => by rfl)) pa_nil)))))))
  (pss_one (ps_ret (pv 1)))))))))), run3 h fun B ds M Q3 E3 hs hE => ?_⟩
  obtain ⟨L, m, fs, rfl, lm, g, q⟩ := hs
  change W3s B _ _ [some (.ref L.o), none, none, none, none, none, none, none, none, none] M
  try dsimp only [cxOf, Cx.nox, Cx.wish]
  repeat walk_at "t3"
  refine w_make (dds := [.int 24]) (E3 := NoE) (fun F => ⟨_, _, rfl, rfl, rfl⟩) impE0 ?_
  repeat walk_at "t3"
  intro b hb
  refine ⟨b, M, .int 24, rfl, rfl, hb, .inl ⟨_, rfl⟩, fun C t M' h => (by cases h), fun n A en _ o eb fr => ⟨rfl, ?_⟩⟩
  cases en
  subst eb
  show W3s B _ _ _ (bookM A0.f_Book M A m0)
  have off : ∀ z x, M z = some x → Off A z := fun z x hz => ⟨fun e => (by rw [e, fr.1] at hz; cases hz), fun e => (by rw [e, fr.2.1] at hz; cases hz), fun e => (by rw [e, fr.2.2.1] at hz; cases hz), fun e => (by rw [e, fr.2.2.2.1] at hz; cases hz), fun e => (by rw [e, fr.2.2.2.2.1] at hz; cases hz), fun e => (by rw [e, fr.2.2.2.2.2.1] at hz; cases hz), fun e => (by rw [e, fr.2.2.2.2.2.2] at hz; cases hz)⟩
  have offs : Offs A L := fun z hz => by
    obtain ⟨x, hx⟩ := lm.some hz
    exact off z x hx
  have lb : ∀ mb, LM (bookM A0.f_Book M A mb) L m := fun mb => lm.bk offs
  -- kinds
  repeat walk_at "t3"
  refine s_for (i_listO ?_)
  repeat walk_at "t3"
  refine r3_ix_l (.ow (lb _).o) (at3 (j := 0) (by omega) (v := .ref L.k) rfl) ?_
  refine ⟨_, _, rfl, (lb _).k, ?_⟩
  refine ⟨fun i σ' M' => ∃ b2 b3 : Option D, σ' = [some (.ref L.o), some (.ref A.b), b2, b3, none, none, none, none, none, none] ∧ M' = bookM A0.f_Book M A { m0 with kinds := m.kinds.take i }, ?_, ⟨none, none, rfl, rfl⟩, ?_, ?_⟩
  · rintro i σ' M' ⟨b2, b3, _, rfl⟩
    exact (lb _).k
  · rintro i d σ' M' hi ⟨b2, b3, rfl, rfl⟩
    obtain ⟨x, hx, rfl⟩ := map_at hi
    have hxm := List.mem_of_getElem? hx
    have gx := g.kg x hxm
    have et : m.kinds.take (i + 1) = m.kinds.take i ++ [x] := by rw [List.take_add_one, hx]; rfl
    have hlt := (List.getElem?_eq_some_iff.mp hx).1
    have k8 := g.k8
    have hl : (m.kinds.take i).length < 8 := by rw [List.length_take]; omega
    repeat walk_at "t3"
    refine r3_eq (n := 9) (m := 9) (okD_S (hold_ok gx.2)) (okD_S (by unfold okT; decide +kernel)) ?_
    rw [pq_str]
    refine ⟨_, rfl, ?_⟩
    refine iteB (fun hc => ?_) (fun hc => ?_)
    · have hu2 : x.2 = "unsure" := of_decide_eq_true hc
      repeat walk_at "t3"
      refine w_meth (dds := [.str "unsure"]) (E3 := NoE) (fun F => ⟨_, _, rfl, rfl, rfl⟩) impE0 ?_
      repeat walk_at "t3"
      refine ⟨_, .inr ⟨_, rfl, bk_b⟩, rfl, ?_⟩
      repeat walk_at "t3"
      refine gk_kind (m := { m0 with kinds := m.kinds.take i }) o gx.1 (good_okT gx.1) (lookup_not (not_take g.kn hx)) (by decide +kernel) hl ?_
      refine ⟨_, _, rfl, ?_⟩
      rw [et, show x = (x.1, ("unsure" : Str)) from Prod.ext rfl hu2]
    · repeat walk_at "t3"
      refine w_methN (gD := fun ds es => ds ++ es) (EW := fun _ _ _ _ => False) put2_app impW0 ?_
      repeat walk_at "t3"
      refine ⟨_, .inr ⟨_, rfl, bk_b⟩, rfl, ?_⟩
      repeat walk_at "t3"
      refine ⟨rfl, rfl, gk_kind (m := { m0 with kinds := m.kinds.take i }) o gx.1 (good_okT gx.1) (lookup_not (not_take g.kn hx)) gx.2 hl ?_⟩
      refine ⟨_, _, rfl, ?_⟩
      rw [et]
  rintro σ' M' ⟨b2, b3, rfl, rfl⟩
  rw [List.length_map, List.take_length]
  show W3s B _ _ _ _
  -- thirsts
  repeat walk_at "t3"
  refine s_for (i_listO ?_)
  repeat walk_at "t3"
  refine r3_ix_l (.ow (lb _).o) (at3 (j := 1) (by omega) (v := .ref L.t) rfl) ?_
  refine ⟨_, _, rfl, (lb _).t, ?_⟩
  refine ⟨fun i σ' M' => ∃ b4 b5 : Option D, σ' = [some (.ref L.o), some (.ref A.b), b2, b3, b4, b5, none, none, none, none] ∧ M' = bookM A0.f_Book M A { m0 with kinds := m.kinds, thirst := m.thirst.take i }, ?_, ⟨none, none, rfl, rfl⟩, ?_, ?_⟩
  · rintro i σ' M' ⟨b4, b5, _, rfl⟩
    exact (lb _).t
  · rintro i d σ' M' hi ⟨b4, b5, rfl, rfl⟩
    obtain ⟨x, hx, rfl⟩ := map_at hi
    have gx := g.th x (List.mem_of_getElem? hx)
    have et : m.thirst.take (i + 1) = m.thirst.take i ++ [x] := by rw [List.take_add_one, hx]; rfl
    have hlt := (List.getElem?_eq_some_iff.mp hx).1
    have t32 := g.t32
    have hl : (m.thirst.take i).length < 32 := by rw [List.length_take]; omega
    repeat walk_at "t3"
    refine w_meth0 ?_
    repeat walk_at "t3"
    refine ⟨_, .inr ⟨_, rfl, bk_b⟩, rfl, ?_⟩
    repeat walk_at "t3"
    refine gk_thirst (m := { m0 with kinds := m.kinds, thirst := m.thirst.take i }) o (g.vk gx.1) (g.vk gx.2) (lookup_in.mpr gx.1) (lookup_in.mpr gx.2) hl ?_
    refine ⟨_, _, rfl, ?_⟩
    rw [et]
  rintro σ' M' ⟨b4, b5, rfl, rfl⟩
  rw [List.length_map, List.take_length]
  show W3s B _ _ _ _
  -- pots
  repeat walk_at "t3"
  refine s_for (i_listO ?_)
  repeat walk_at "t3"
  refine r3_ix_l (.ow (lb _).o) (at3 (j := 2) (by omega) (v := .ref L.p) rfl) ?_
  refine ⟨_, _, rfl, (lb _).p, ?_⟩
  refine ⟨fun i σ' M' => ∃ b2 : Option D, σ' = [some (.ref L.o), some (.ref A.b), b2, b3, b4, b5, none, none, none, none] ∧ M' = bookM A0.f_Book M A { m0 with kinds := m.kinds, thirst := m.thirst, pots := m.pots.take i }, ?_, ⟨b2, rfl, rfl⟩, ?_, ?_⟩
  · rintro i σ' M' ⟨b2, _, rfl⟩
    exact (lb _).p
  · rintro i d σ' M' hi ⟨b2, rfl, rfl⟩
    obtain ⟨x, hx, rfl⟩ := map_at hi
    have gx := g.pg x (List.mem_of_getElem? hx)
    have et : m.pots.take (i + 1) = m.pots.take i ++ [x] := by rw [List.take_add_one, hx]; rfl
    have hlt := (List.getElem?_eq_some_iff.mp hx).1
    have p8 := g.p8
    have hl : (m.pots.take i).length < 8 := by rw [List.length_take]; omega
    repeat walk_at "t3"
    refine w_meth0 ?_
    repeat walk_at "t3"
    refine ⟨_, .inr ⟨_, rfl, bk_b⟩, rfl, ?_⟩
    repeat walk_at "t3"
    refine gk_pot (m := { m0 with kinds := m.kinds, thirst := m.thirst, pots := m.pots.take i }) o gx (good_okT gx) (fun s hs => good_okT (g.pg s (List.mem_of_mem_take hs))) (not_takeS g.pn hx) hl ?_
    refine ⟨_, rfl, ?_⟩
    rw [et]
  rintro σ' M' ⟨b2', rfl, rfl⟩
  rw [List.length_map, List.take_length]
  show W3s B _ _ _ _
  -- cloths
  repeat walk_at "t3"
  refine s_for (i_listO ?_)
  repeat walk_at "t3"
  refine r3_ix_l (.ow (lb _).o) (at3 (j := 3) (by omega) (v := .ref L.c) rfl) ?_
  refine ⟨_, _, rfl, (lb _).c, ?_⟩
  refine ⟨fun i σ' M' => ∃ b2 b6 : Option D, σ' = [some (.ref L.o), some (.ref A.b), b2, b3, b4, b5, b6, none, none, none] ∧ M' = bookM A0.f_Book M A { m0 with kinds := m.kinds, thirst := m.thirst, pots := m.pots, cloths := m.cloths.take i }, ?_, ⟨b2', none, rfl, rfl⟩, ?_, ?_⟩
  · rintro i σ' M' ⟨b2, b6, _, rfl⟩
    exact (lb _).c
  · rintro i d σ' M' hi ⟨b2, b6, rfl, rfl⟩
    obtain ⟨x, hx, rfl⟩ := map_at hi
    have gx := g.cg x (List.mem_of_getElem? hx)
    have et : m.cloths.take (i + 1) = m.cloths.take i ++ [x] := by rw [List.take_add_one, hx]; rfl
    have hlt := (List.getElem?_eq_some_iff.mp hx).1
    have c8 := g.c8
    have hl : (m.cloths.take i).length < 8 := by rw [List.length_take]; omega
    repeat walk_at "t3"
    refine w_meth0 ?_
    repeat walk_at "t3"
    refine ⟨_, .inr ⟨_, rfl, bk_b⟩, rfl, ?_⟩
    repeat walk_at "t3"
    refine gk_cloth (m := { m0 with kinds := m.kinds, thirst := m.thirst, pots := m.pots, cloths := m.cloths.take i }) o gx.1 (good_okT gx.1) (lookup_not (not_take g.cn hx)) (good_okT (g.name gx.2)) (good_len (g.name gx.2)) (lookup_in.mpr gx.2) hl ?_
    refine ⟨_, _, rfl, ?_⟩
    rw [et]
  rintro σ' M' ⟨b2'', b6, rfl, rfl⟩
  rw [List.length_map, List.take_length]
  show W3s B _ _ _ _
  -- dips
  repeat walk_at "t3"
  refine s_for (i_listO ?_)
  repeat walk_at "t3"
  refine r3_ix_l (.ow (lb _).o) (at3 (j := 4) (by omega) (v := .ref L.d) rfl) ?_
  refine ⟨_, _, rfl, (lb _).d, ?_⟩
  refine ⟨fun i σ' M' => ∃ b7 b8 : Option D, σ' = [some (.ref L.o), some (.ref A.b), b2'', b3, b4, b5, b6, b7, b8, none] ∧ M' = bookM A0.f_Book M A { m0 with kinds := m.kinds, thirst := m.thirst, pots := m.pots, cloths := m.cloths, dips := m.dips.take i }, ?_, ⟨none, none, rfl, rfl⟩, ?_, ?_⟩
  · rintro i σ' M' ⟨b7, b8, _, rfl⟩
    exact (lb _).d
  · rintro i d σ' M' hi ⟨b7, b8, rfl, rfl⟩
    obtain ⟨x, hx, rfl⟩ := map_at hi
    have gx := g.dg x (List.mem_of_getElem? hx)
    have et : m.dips.take (i + 1) = m.dips.take i ++ [x] := by rw [List.take_add_one, hx]; rfl
    have hlt := (List.getElem?_eq_some_iff.mp hx).1
    have d24 := g.d24
    have hl : (m.dips.take i).length < 24 := by rw [List.length_take]; omega
    repeat walk_at "t3"
    refine w_meth0 ?_
    repeat walk_at "t3"
    refine ⟨_, .inr ⟨_, rfl, bk_b⟩, rfl, ?_⟩
    repeat walk_at "t3"
    refine gk_dip (m := { m0 with kinds := m.kinds, thirst := m.thirst, pots := m.pots, cloths := m.cloths, dips := m.dips.take i }) o (g.vc gx.1) (g.vp gx.2) (lookup_in.mpr gx.1) g.pots gx.2 (by show ((m.dips.take i).length : Int) < 24; omega) (by show (m.dips.take i).length < 10000; omega) ?_
    refine ⟨_, _, rfl, ?_⟩
    rw [et]
  rintro σ' M' ⟨b7, b8, rfl, rfl⟩
  rw [List.length_map, List.take_length]
  show W3s B _ _ _ _
  -- facts
  repeat walk_at "t3"
  refine s_for (i_listO ?_)
  repeat walk_at "t3"
  refine r3_ix_l (.ow (lb _).o) (at3 (j := 5) (by omega) (v := .ref L.f) rfl) ?_
  have lf : ∀ mb, bookM A0.f_Book M A mb L.f = some (.lst (fs.map fctD)) := fun x => by rw [← g.fe]; exact (lb x).f
  have em0 : ({ m0 with kinds := m.kinds, thirst := m.thirst, pots := m.pots, cloths := m.cloths, dips := m.dips } : BM) = { m with facts := ([] : List Fct).map fctD } := by
    have := g.most; cases m; simp at this; subst this; rfl
  rw [em0]
  refine ⟨_, _, rfl, lf _, ?_⟩
  refine ⟨fun i σ' M' => ∃ b9 : Option D, σ' = [some (.ref L.o), some (.ref A.b), b2'', b3, b4, b5, b6, b7, b8, b9] ∧ M' = bookM A0.f_Book M A { m with facts := (fs.take i).map fctD }, ?_, ⟨none, rfl, rfl⟩, ?_, ?_⟩
  · rintro i σ' M' ⟨b9, _, rfl⟩
    exact lf _
  · rintro i d σ' M' hi ⟨b9, rfl, rfl⟩
    obtain ⟨f, hf, rfl⟩ := map_at hi
    have hfm := List.mem_of_getElem? hf
    have et : fs.take (i + 1) = fs.take i ++ [f] := by rw [List.take_add_one, hf]; rfl
    have hlt := (List.getElem?_eq_some_iff.mp hf).1
    have f32 := g.f32
    have hl : (fs.take i).length < 32 := by rw [List.length_take]; omega
    have gi := g.facts (fs' := fs.take i) (fun f' h' => g.fa f' (List.mem_of_mem_take h')) (by omega)
    have ha := g.fa f hfm
    repeat walk_at "t3"
    cases f with
    | tell x y =>
      refine r3_ix_t (at3 (j := 0) (by omega) (v := .str "tell") rfl) ?_
      repeat walk_at "t3"
      refine r3_eq (n := 9) (m := 9) (okD_S (by unfold okT; decide +kernel)) (okD_S (by unfold okT; decide +kernel)) ?_
      rw [pq_str, decide_eq_true rfl]
      refine ⟨_, rfl, ?_⟩
      refine iteB (fun _ => ?_) (fun h => by cases h)
      repeat walk_at "t3"
      refine w_meth0 ?_
      repeat walk_at "t3"
      refine ⟨_, .inr ⟨_, rfl, bk_b⟩, rfl, ?_⟩
      repeat walk_at "t3"
      refine r3_ix_t (at3 (j := 1) (by omega) (v := aD x) rfl) ?_
      repeat walk_at "t3"
      refine r3_ix_t (at3 (j := 2) (by omega) (v := aD y) rfl) ?_
      repeat walk_at "t3"
      refine gk_tell (m := { m with facts := (fs.take i).map fctD }) o gi.wf (by rw [amounts_facts]; exact ha x (by simp [Fct.has])) (by rw [amounts_facts]; exact ha y (by simp [Fct.has])) (by show ((fs.take i).map fctD).length < 32; rw [List.length_map]; exact hl) ?_
      refine ⟨_, rfl, ?_⟩
      rw [et, List.map_append]
      rfl
    | one x =>
      refine r3_ix_t (at3 (j := 0) (by omega) (v := .str "some") rfl) ?_
      repeat walk_at "t3"
      refine r3_eq (n := 9) (m := 9) (okD_S (by unfold okT; decide +kernel)) (okD_S (by unfold okT; decide +kernel)) ?_
      rw [pq_str, decide_eq_false (by decide +kernel)]
      refine ⟨_, rfl, ?_⟩
      refine iteB (fun h => by cases h) (fun _ => ?_)
      repeat walk_at "t3"
      refine w_meth0 ?_
      repeat walk_at "t3"
      refine ⟨_, .inr ⟨_, rfl, bk_b⟩, rfl, ?_⟩
      repeat walk_at "t3"
      refine r3_ix_t (at3 (j := 1) (by omega) (v := aD x) rfl) ?_
      repeat walk_at "t3"
      refine gk_some (m := { m with facts := (fs.take i).map fctD }) o gi.wf (by rw [amounts_facts]; exact ha x (by simp [Fct.has])) (by show ((fs.take i).map fctD).length < 32; rw [List.length_map]; exact hl) ?_
      refine ⟨_, rfl, ?_⟩
      rw [et, List.map_append]
      rfl
  rintro σ' M' ⟨b9, rfl, rfl⟩
  rw [List.length_map, List.take_length]
  show W3s B _ _ _ _
  repeat walk_at "t3"
  have := q A o fr
  rw [show ({ m with facts := fs.map fctD } : BM) = m by have := g.fe; cases m; simp at this; subst this; rfl]
  exact this
end
end LW
set_option Elab.async false
set_option linter.all false
set_option maxRecDepth 100000
set_option maxHeartbeats 4000000
namespace LW
open PySem L2 T3
open Evl (Ex)
local macro_rules | `(tactic| walk_at "t3") => `(tactic| first
  | (with_reducible refine s_seq ?_) | (with_reducible refine s_asg ?_) | (with_reducible refine s_if ?_) | (with_reducible refine s_ret ?_) | (with_reducible refine s_drop ?_) | (with_reducible refine s_asgG ?_) | (with_reducible refine s_retN ?_)
  | (with_reducible refine s_next ?_) | (with_reducible refine s_brk ?_) | (with_reducible refine s_cont ?_) | (with_reducible refine s_par ?_) | (with_reducible refine s_fld ?_)
  | ((with_reducible refine' w_var ?hx ?_); (case hx => exact rfl)) | (with_reducible refine w_cI ?_) | (with_reducible refine w_cB ?_) | (with_reducible refine w_cS ?_) | (with_reducible refine w_cN ?_) | (with_reducible refine w_cT ?_) | (with_reducible refine w_cR ?_)
  | (with_reducible refine w_op ?_) | (with_reducible refine w_un ?_) | (with_reducible refine w_nil ?_) | (with_reducible refine w_tup ?_) | (with_reducible refine w_cons ?_) | (with_reducible refine w_cb ?_) | (with_reducible refine w_bm0 ?_) | (with_reducible refine w_bm ?_)
  | (with_reducible refine w_test ?_) | (with_reducible refine w_B ?_) | (with_reducible refine w_notT ?_) | (with_reducible refine w_yes ?_) | (with_reducible refine w_notV ?_)
  | (with_reducible refine w_ifE ?_) | (with_reducible refine w_isN ?_) | (with_reducible refine w_notN ?_) | (with_reducible refine w_tr ?_) | (with_reducible refine w_chain ?_) | (with_reducible refine w_fld ?_) | (with_reducible refine w_sl ?_) | (with_reducible refine o_no ?_) | (with_reducible refine o_some ?_)
  | (with_reducible refine w_call0 ?_) | (with_reducible refine g_name ?_) | ((with_reducible refine' g_tup ?hx ?hy ?_); (case hx => exact rfl); (case hy => exact rfl)) | (with_reducible refine g_cons ?_) | (with_reducible refine g_nil ?_) | (with_reducible refine g_set ?_)
  | (with_reducible refine r3_add_ii ?_) | (with_reducible refine r3_sub ?_) | (with_reducible refine r3_lt ?_) | (with_reducible refine r3_le ?_) | (with_reducible refine r3_gt ?_) | (with_reducible refine r3_ge ?_) | (with_reducible refine u3_neg ?_)
  | (with_reducible refine c3_int_i ?_) | (with_reducible refine c3_int_b ?_) | (with_reducible refine c3_abs ?_) | (with_reducible refine c3_len_t ?_) | (with_reducible refine c3_len .fz ?_) | (with_reducible refine c3_max2 ?_) | (with_reducible refine c3_min2 ?_)
  | (with_reducible refine r3_eq (n := 9) (m := 9) okD_int okD_int ?_) | (with_reducible refine r3_ne (n := 9) (m := 9) okD_int okD_int ?_)
  | ((with_reducible refine' Exists.intro _ (And.intro ?hx ?_)); (case hx => exact rfl))
  | ((with_reducible refine' And.intro ?hx ?_); (case hx => (show List.length _ ≤ 100000); exact Nat.le_of_ble_eq_true rfl))
  | (with_reducible refine c3_lenL (c3_len_t ?_)) | (with_reducible refine c3_lenL (c3_len .fz ?_)))

section
variable {P : Program} {w : World} {K : PySem.W.Frag} {mg : Str → Option Value} {base : Heap} {A0 : Adr}

local macro_rules | `(tactic| walk_at "t3q") => `(tactic| first
  | (with_reducible refine s_seq ?_) | (with_reducible refine s_asg ?_) | (with_reducible refine s_if ?_) | (with_reducible refine s_ret ?_) | (with_reducible refine s_drop ?_) | (with_reducible refine s_asgG ?_) | (with_reducible refine s_retN ?_)
  | (with_reducible refine s_next ?_) | (with_reducible refine s_brk ?_) | (with_reducible refine s_cont ?_) | (with_reducible refine s_par ?_) | (with_reducible refine s_fld ?_)
  | ((with_reducible refine' w_var ?hx ?_); (case hx => exact rfl)) | (with_reducible refine w_cI ?_) | (with_reducible refine w_cB ?_) | (with_reducible refine w_cS ?_) | (with_reducible refine w_cN ?_) | (with_reducible refine w_cT ?_) | (with_reducible refine w_cR ?_)
  | (with_reducible refine w_op ?_) | (with_reducible refine w_un ?_) | (with_reducible refine w_nil ?_) | (with_reducible refine w_tup ?_) | (with_reducible refine w_cons ?_) | (with_reducible refine w_cb ?_) | (with_reducible refine w_bm0 ?_) | (with_reducible refine w_bm ?_)
  | (with_reducible refine w_test ?_) | (with_reducible refine w_B ?_) | (with_reducible refine w_notT ?_) | (with_reducible refine w_yes ?_) | (with_reducible refine w_notV ?_)
  | (with_reducible refine w_ifE ?_) | (with_reducible refine w_isN ?_) | (with_reducible refine w_notN ?_) | (with_reducible refine w_tr ?_) | (with_reducible refine w_chain ?_) | (with_reducible refine w_fld ?_) | (with_reducible refine w_sl ?_) | (with_reducible refine o_no ?_) | (with_reducible refine o_some ?_)
  | (with_reducible refine g_name ?_) | ((with_reducible refine' g_tup ?hx ?hy ?_); (case hx => exact rfl); (case hy => exact rfl)) | (with_reducible refine g_cons ?_) | (with_reducible refine g_nil ?_) | (with_reducible refine g_set ?_)
  | (with_reducible refine r3_add_ii ?_) | (with_reducible refine r3_sub ?_) | (with_reducible refine r3_lt ?_) | (with_reducible refine r3_le ?_) | (with_reducible refine r3_gt ?_) | (with_reducible refine r3_ge ?_) | (with_reducible refine u3_neg ?_)
  | (with_reducible refine c3_int_i ?_) | (with_reducible refine c3_int_b ?_) | (with_reducible refine c3_abs ?_) | (with_reducible refine c3_len_t ?_) | (with_reducible refine c3_len .fz ?_) | (with_reducible refine c3_max2 ?_) | (with_reducible refine c3_min2 ?_)
  | (with_reducible refine r3_eq (n := 9) (m := 9) okD_int okD_int ?_) | (with_reducible refine r3_ne (n := 9) (m := 9) okD_int okD_int ?_)
  | ((with_reducible refine' Exists.intro _ (And.intro ?hx ?_)); (case hx => exact rfl))
  | ((with_reducible refine' And.intro ?hx ?_); (case hx => (show List.length _ ≤ 100000); exact Nat.le_of_ble_eq_true rfl))
  | (with_reducible refine c3_lenL (c3_len_t ?_)) | (with_reducible refine c3_lenL (c3_len .fz ?_)))

theorem r3_inTupD {B : Hp} {M : Mem} {n : Nat} {ss : List Str} {neg : Bool} {x : D} {Q : DQ} (hss : okDs 0 (ss.map D.str) = true) (hx : okD n x = true) (q : Q (.bl (if neg then !(inS ss x) else inS ss x)) M) (hn : n ≤ 64 := by decide) :
    R3 B (rINA K P w neg) x (.tup (ss.map D.str)) M Q := fun F H xv yv Qv b st rx ry k => by
  have e2 : okD 1 (.tup (ss.map D.str)) = true := hss
  have e1 : py (.tup (ss.map D.str)) = .tuple (ss.map PyData.str) := by
    show PyData.tuple (pys (ss.map D.str)) = _
    rw [pys_strs ss]
  have d := okD_dp (K := K) st.fz e2 ry
  rw [e1] at d
  have e3 := okD_shaped e2 (by decide)
  rw [e1] at e3
  refine .inr (.inr ⟨py x, ss.map PyData.str, okD_dp st.fz hx rx, d, okD_shaped hx hn, e3, ?_⟩)
  have e4 : ((ss.map PyData.str).any fun z => PyData.eqv z (py x)) = inS ss x := by
    unfold inS
    rw [List.any_map, List.any_map]
    rfl
  rw [e4]
  exact k F M (.bl _) _ H (Ex.refl _) st rfl q
def S_known_t (A0 : Adr) : Sp3 := fun ds M Q E => ∃ (x : Str) (l : List Str), ds = [.str x, .tup (l.map .str)] ∧ okT x ∧ (∀ s ∈ l, okT s) ∧ (x ∈ l → Q .non M) ∧ (x ∉ l → E A0.f_Unknown (.str x) M)
theorem ok_known_t (T : Tx P K mg A0) : FnOk P w K mg base (L2.CX P w) 1 A0.f_check_known A0.d_check_known ["name", "known"] (lift3 (S_known_t A0)) := by
  refine T.F_check_known.okX sc_check_known (lift3_len fun ds M Q E ⟨a, b, h, _⟩ => by rw [h]; rfl) (fun cdv A outer s H vs Q E hr h => ?_)
  have hu := hr.units
  have hu5 := units65 hr
  refine ⟨_, (pss_one (ps_if (pt_cmpR (op_NINAK K P w rfl rfl rfl hu5) (pv 0) (pv 1) (by rfl)) (pss_one (ps_raiseDye (by rfl) T.dye_Unknown T.g_Unknown hr (takes_of rfl rfl rfl rfl) (pa_cons (pv 0) (pa_cons pe_str pa_nil)))) pss_nil)), run3 h fun B ds M Q3 E3 hs hE => ?_⟩
  obtain ⟨x, l, rfl, ox, ol, q, qe⟩ := hs
  change W3s B _ _ [some (.str x), some (.tup (l.map .str))] M
  try dsimp only [cxOf, Cx.nox, Cx.wish]
  repeat walk_at "t3"
  refine r3_inTupD (n := 9) (okDs_S ol) (okD_S ox) ?_
  rw [inS_str]
  repeat walk_at "t3"
  refine iteB (fun h => ?_) (fun h => ?_)
  · refine s_raise (impW_of hE) ?_
    repeat walk_at "t3"
    exact ⟨_, _, rfl, qe (by simpa using h)⟩
  · repeat walk_at "t3"
    exact q (by simpa using h)
def WNAMES : List Str := ["cloth", "pot", "kind"]
theorem okT_W : ∀ s ∈ WNAMES, okT s := by unfold okT; decide +kernel
def ownV (m : BM) (x : Str × Str) (k : Str) : Str := if k = "cloth" then x.1 else if k = "pot" then x.2 else kindN m x.1
def hitB (m : BM) (l : List (Str × Str)) (x : Str × Str) : Bool := l.all fun p => decide (ownV m x p.1 = p.2)
def whereN (m : BM) (l : List (Str × Str)) (n : Nat) : List D := ((List.range n).filter fun i => match m.dips[i]? with | some x => hitB m l x | none => false).map fun i => D.int (i : Nat)
def badK (l : List (Str × Str)) : Option Str := (l.map (·.1)).find? fun k => !decide (k ∈ WNAMES)
theorem badK_at : ∀ {l : List (Str × Str)} {i : Nat} {p : Str × Str}, l[i]? = some p → (∀ q ∈ l.take i, q.1 ∈ WNAMES) → p.1 ∉ WNAMES → badK l = some p.1
  | a :: l, 0, p, h, _, hn => by
    obtain rfl : a = p := by simpa using h
    unfold badK
    rw [List.map_cons, List.find?_cons_of_pos (by simp [hn])]
  | a :: l, i + 1, p, h, ha, hn => by
    unfold badK
    rw [List.map_cons, List.find?_cons_of_neg (by simp [ha a (by simp)])]
    exact badK_at (l := l) (i := i) (by simpa using h) (fun q hq => ha q (by rw [List.take_succ_cons]; exact List.mem_cons_of_mem _ hq)) hn
theorem badK_none {l : List (Str × Str)} (h : ∀ q ∈ l, q.1 ∈ WNAMES) : badK l = none := by
  unfold badK
  refine List.find?_eq_none.mpr fun k hk => ?_
  obtain ⟨q, hq, rfl⟩ := List.mem_map.mp hk
  simp [h q hq]
theorem whereN_succ {m : BM} {l : List (Str × Str)} {n : Nat} {x : Str × Str} (h : m.dips[n]? = some x) : whereN m l (n + 1) = whereN m l n ++ (if hitB m l x then [D.int (n : Nat)] else []) := by
  unfold whereN
  rw [List.range_succ, List.filter_append, List.map_append]
  congr 1
  by_cases e : hitB m l x = true
  · rw [if_pos e, List.filter_cons_of_pos (by simp [h, e])]; rfl
  · rw [if_neg e, List.filter_cons_of_neg (by simp [h, e])]; rfl
def S_where (A0 : Adr) : Sp3 := fun ds M Q E => ∃ (M0 : Mem) (A : BA) (m : BM) (l : List (Str × Str)) (d : Addr) (o : Obj), ds = [.ref A.b, .ref d] ∧ M = bookM A0.f_Book M0 A m ∧ BOk A ∧ Off A d ∧ M0 d = some (kwO o l) ∧ WF m ∧ WF2 m ∧ l.length ≤ 100 ∧ (∀ p ∈ l, okT p.1 ∧ okT p.2) ∧
  (∀ k, badK l = some k → E A0.f_Unknown (.str k) M) ∧ (badK l = none → ∀ p, M p = none → Q (.ref p) (mput M p (.lst (whereN m l m.dips.length))))
theorem ok_Book_where (T : Tx P K mg A0) {ks : List Str} (hb : KwB A0.d_Book_where ["self"] "asked" ks) : FnKw P w K mg base (L2.CX P w) 4 A0.f_Book_where ks (lift3 (S_where A0)) := by
  refine T.F_Book_where.okKw (ps := ["self"]) (pd := "asked") sc_Book_where StX.cxUp hb (lift3_len fun ds M Q E ⟨a, b, c, d, e, f, h, _⟩ => by rw [h]; rfl) (fun cdv A outer s H vs Q E hr h => ?_)
  have hu := hr.units
  have hu5 := units65 hr
  have hu1 := units1 hr
  refine ⟨_, (pss_cons (ps_for (passes_of rfl) (by rfl) (pi_keys (pv 1)) (pg_name (i := 2) sc_Book_where.nd (by rfl) (Or.inl (by rfl))) (pss_one (ps_expr (pe_call (ok_known_t T) (hr.mono (by decide)) (by rfl) T.g_check_known T.k_check_known T.b_check_known .nil (passes_call (takes_of rfl rfl rfl rfl) (fun _ _ _ _ h => h)) (pa_cons (pv 2) (pa_cons (pe_tup (pa_cons pe_str (pa_cons pe_str (pa_cons pe_str pa_nil)))) pa_nil))))))
  (pss_cons (ps_set (i := 3) sc_Book_where.nd (by rfl) (Or.inl (by rfl)) (pe_lst pa_nil))
  (pss_cons (ps_for (passes_of rfl) (by rfl) (pi_enum (by rfl) T.n_enumerate (pa_cons (pe_fldK K rfl (pv 0)) pa_nil)) (pg_tup (by rfl) (pgs_cons (pg_name (i := 4) sc_Book_where.nd (by rfl) (Or.inl (by rfl))) (pgs_cons (pg_tup (by rfl) (pgs_cons (pg_name (i := 5) sc_Book_where.nd (by rfl) (Or.inl (by rfl))) (pgs_cons (pg_name (i := 6) sc_Book_where.nd (by rfl) (Or.inl (by rfl))) pgs_nil))) pgs_nil))) (pss_cons (ps_set (i := 7) sc_Book_where.nd (by rfl) (Or.inr (by rfl)) (pe_disp (pps_cons pe_str (pv 5) (pps_cons pe_str (pv 6) (pps_cons pe_str (pe_meth (pv 0) T.cl_Book T.m_Book_kind_of (ok_Book_kind_of T) (hr.mono (by decide)) T.b_Book_kind_of .nil (passes_call (takes_of rfl rfl rfl rfl) (fun _ _ _ _ h => h)) (pa_cons (pv 5) pa_nil)) pps_nil))) (by rfl) (by rfl) (by intro h; cases h) (by decide)))
  (pss_one (ps_if (pt_truthK K rfl (pe_callB (cr_all (by rfl)) (by rfl) T.n_all (by decide +kernel) (pa_cons (pe_lc (own := [("word", 2), ("name", 8)]) (g := (gTup K 2 (gCons (gName 2) (gCons (gName 8) gNil)))) (by rfl) sc_Book_where.nd (pi_items (pv 1)) (blkOk_by (N := ["self", "asked", "word", "found", "number", "cloth", "pot", "own", "name"]) (sc := defScope s_Book_where) (own := [("word", 2), ("name", 8)]) (by decide +kernel)) (fun _ _ _ _ _ => (pg_tup (by rfl) (pgs_cons (pg_name (i := 2) sc_Book_where.nd (by rfl) (Or.inl (by rfl))) (pgs_cons (pg_name (i := 8) sc_Book_where.nd (by rfl) (Or.inl (by rfl))) pgs_nil)))) (fun _ _ _ _ _ => pts_nil) (fun _ _ _ _ _ => (pe_cmpR (op_eqDK K rfl hu) (pe_dget hu1 (pv 7) (pv 2) (fun _ _ => by rfl)) (pv 8) (nomark _)))) pa_nil)) (by intro _; rfl)) (pss_one (ps_expr (pe_bm PySem.F.plainAttrs_list PySem.F.slot_list_append PySem.F.type_list_append mt_append (pv 3) (pa_cons (pv 4) pa_nil)))) pss_nil))))
  (pss_one (ps_ret (pv 3)))))), run3 h fun B ds M Q3 E3 hs hE => ?_⟩
  obtain ⟨M0, A, m, l, d, o, rfl, rfl, ob, offd, hd0, wf, w2, l100, okl, qe, q⟩ := hs
  change W3s B _ _ [some (.ref A.b), some (.ref d), none, none, none, none, none, none, none] _
  try dsimp only [cxOf, Cx.nox, Cx.wish]
  repeat walk_at "t3"
  refine s_for (i_keysF ?_)
  repeat walk_at "t3"
  have hd : bookM A0.f_Book M0 A m d = some (kwO o l) := by rw [bk_off offd]; exact hd0
  refine ⟨d, o, l, rfl, hd, fun i σ' M' => ∃ b : Option D, i ≤ l.length ∧ (∀ q ∈ l.take i, q.1 ∈ WNAMES) ∧ σ' = [some (.ref A.b), some (.ref d), b, none, none, none, none, none, none] ∧ M' = bookM A0.f_Book M0 A m, fun i σ' M' ⟨b, _, _, _, e⟩ => by rw [e]; exact hd, ⟨none, Nat.zero_le _, fun q hq => by simp at hq, rfl, rfl⟩, ?_, ?_⟩
  · rintro i d' σ' M' hi ⟨b, hil, hok, rfl, rfl⟩
    obtain ⟨pp, hp, rfl⟩ := map_at hi
    have hlt : i < l.length := (List.getElem?_eq_some_iff.mp hp).1
    refine g_name ?_
    repeat walk_at "t3q"
    refine w_call (dds := []) (E3 := E3) (fun _ => rfl) hE ?_
    repeat walk_at "t3q"
    refine ⟨pp.1, WNAMES, rfl, (okl pp (List.mem_of_getElem? hp)).1, okT_W, fun hin => ?_, fun hn => qe _ (badK_at hp hok hn)⟩
    repeat walk_at "t3q"
    refine ⟨_, hlt, fun r hr => ?_, rfl, rfl⟩
    rw [List.take_succ, hp] at hr
    rcases List.mem_append.mp hr with hr | hr
    · exact hok r hr
    · obtain rfl : r = pp := by simpa using hr
      exact hin
  rintro σ' M' ⟨b, _, hok, rfl, rfl⟩
  have q := q (badK_none fun r hr => hok r (by rw [List.length_map, List.take_length]; exact hr))
  repeat walk_at "t3q"
  refine w_lstO ?_
  repeat walk_at "t3q"
  intro p hp
  obtain ⟨off, hp0⟩ := off_of ob hp
  have hpnd : p ≠ d := fun e => by rw [e, hd0] at hp0; cases hp0
  rw [bk_mput off]
  repeat walk_at "t3q"
  refine s_for (i_enumO ?_)
  repeat walk_at "t3q"
  refine ⟨_, _, .ref A.d, .inr ⟨_, rfl, bk_b⟩, T.cl_Book, T.na_dip_rows, rfl, ?_⟩
  repeat walk_at "t3q"
  refine ⟨A.d, _, rfl, bk_d ob, fun i σ' M' => ∃ b2 b4 b5 b6 b7 b8 : Option D, i ≤ m.dips.length ∧ σ' = [some (.ref A.b), some (.ref d), b2, some (.ref p), b4, b5, b6, b7, b8] ∧ M' = bookM A0.f_Book (mput M0 p (.lst (whereN m l i))) A m, fun i σ' M' ⟨_, _, _, _, _, _, _, _, e⟩ => by rw [e]; exact bk_d ob, ⟨_, _, _, _, _, _, Nat.zero_le _, rfl, rfl⟩, ?_, ?_⟩
  · rintro i d' σ' M' hi ⟨b2, b4, b5, b6, b7, b8, hil, rfl, rfl⟩
    obtain ⟨y, hy, rfl⟩ := enumD_at hi
    obtain ⟨x, hx, rfl⟩ := map_at hy
    repeat walk_at "t3q"
    have hlt : i < m.dips.length := (List.getElem?_eq_some_iff.mp hx).1
    have wx := wf.dips x (List.mem_of_getElem? hx)
    obtain ⟨kx, _, okk⟩ := wf.kind w2 wx.2.2
    refine w_disp fun pd hpd => ?_
    obtain ⟨off2, hpd0⟩ := off_of ob hpd
    rw [bk_mput off2]
    show W3e B _ _ _ _
    repeat walk_at "t3q"
    show W3e B _ _ _ _
    repeat walk_at "t3q"
    show W3e B _ _ _ _
    repeat walk_at "t3q"
    refine w_meth (dds := []) (E3 := E3) (fun _ => rfl) hE ?_
    repeat walk_at "t3q"
    refine ⟨_, .inr ⟨_, rfl, bk_b⟩, rfl, ?_⟩
    repeat walk_at "t3q"
    refine gk_kindof ob (wf.dv x (List.mem_of_getElem? hx)) kx ?_
    refine ⟨by rw [bk_off off2]; exact mput_same, [(.inr "cloth", .str x.1), (.inr "pot", .str x.2), (.inr "kind", .str (kindN m x.1))], rfl, Nat.le_of_ble_eq_true rfl, ?_⟩
    rw [show mergeKD [] [((.inr ("cloth" : Str) : Key), D.str x.1), (.inr "pot", .str x.2), (.inr "kind", .str (kindN m x.1))] = [(.inr "cloth", .str x.1), (.inr "pot", .str x.2), (.inr "kind", .str (kindN m x.1))] from rfl, bk_mput off2, mput_mput]
    generalize hkv : ([(.inr ("cloth" : Str), .str x.1), (.inr "pot", .str x.2), (.inr "kind", .str (kindN m x.1))] : List (Key × D)) = kv
    repeat walk_at "t3q"
    have hp2 : p ≠ pd := fun e => by rw [← e, mput_same] at hpd0; cases hpd0
    have hd2 : d ≠ pd := fun e => by rw [← e, mput_ne (Ne.symm hpnd), hd0] at hpd0; cases hpd0
    have hval : ∀ k, k ∈ WNAMES → valD kv (.inr k) = some (.str (ownV m x k)) ∧ okT (ownV m x k) := by
      intro k hk
      subst hkv
      have hk : k ∈ (["cloth", "pot", "kind"] : List Str) := hk
      simp only [List.mem_cons, List.not_mem_nil, or_false] at hk
      rcases hk with rfl | rfl | rfl
      · exact ⟨rfl, wx.1⟩
      · exact ⟨rfl, wx.2.1⟩
      · exact ⟨rfl, okk⟩
    refine w_lcP (fun _ => true) (fun d' => match d' with | .tup [.str k, .str v] => .bl (decide (ownV m x k = v)) | _ => .non) (own_tup (own_cons own_name (own_cons own_name own_nil))) (i_itemsF ?_)
    repeat walk_at "t3q"
    refine ⟨d, o, l, rfl, by rw [bk_off offd, mput_ne hd2, mput_ne (Ne.symm hpnd)]; exact hd0, by rw [List.length_map]; omega, (by show bookM _ _ _ _ d = _; rw [bk_off offd, mput_ne hd2, mput_ne (Ne.symm hpnd)]; exact hd0), ?_, ?_⟩
    · intro i2 d2 M' hi2 hM'
      obtain ⟨y2, hy2, rfl⟩ := map_at hi2
      have hin : y2.1 ∈ WNAMES := hok y2 (by rw [List.length_map, List.take_length]; exact List.mem_of_getElem? hy2)
      repeat walk_at "t3q"
      refine ⟨rfl, ?_⟩
      repeat walk_at "t3q"
      refine ⟨rfl, rfl, fun _ => ?_⟩
      repeat walk_at "t3q"
      refine w_dget ?_
      repeat walk_at "t3q"
      refine ⟨.str (ownV m x y2.1), ⟨pd, rfl, .inl ⟨kv, .inr y2.1, hM' pd _ (by rw [bk_off off2]; exact mput_same), rfl, (hval _ hin).1.symm⟩⟩, ?_⟩
      repeat walk_at "t3q"
      refine r3_eq (n := 9) (m := 9) (okD_S (hval _ hin).2) (okD_S (okl y2 (List.mem_of_getElem? hy2)).2) ?_
      rw [pq_str]
      exact ⟨rfl, rfl⟩
    have e0 : ((l.map fun p => D.tup [.str p.1, .str p.2]).filter (fun _ => true)).map (fun d' => match d' with | .tup [.str k, .str v] => .bl (decide (ownV m x k = v)) | _ => .non) = (l.map fun p => decide (ownV m x p.1 = p.2)).map D.bl := by
      rw [List.filter_eq_self.mpr (fun _ _ => rfl), List.map_map, List.map_map]
      rfl
    rw [e0]
    repeat walk_at "t3q"
    refine c3_all .fz ?_
    rw [List.all_map]
    have hmb : ∀ L : DO, bookM A0.f_Book (mput M0 p L) A m pd = none := fun L => by
      rw [bk_off off2, mput_ne (Ne.symm hp2)]
      rw [mput_ne (Ne.symm hp2)] at hpd0
      exact hpd0
    have vs : ∀ (σ : Sig) (L : DO), VSs σ (bookM A0.f_Book (mput (mput M0 p L) pd (.dK kv)) A m) σ (bookM A0.f_Book (mput M0 p L) A m) := fun σ L => by
      have z := vss_drop (σ := σ) (M := mput (bookM A0.f_Book (mput M0 p L) A m) pd (.dK kv)) pd
      rw [mdel_mput (hmb L), bk_mput off2] at z
      exact z
    refine ⟨hitB m l x, rfl, iteB (fun h => ?_) (fun h => ?_)⟩
    · refine s_nvs ?_
      repeat walk_at "t3q"
      have hmp : bookM A0.f_Book (mput (mput M0 p (.lst (whereN m l i))) pd (.dK kv)) A m p = some (.lst (whereN m l i)) := by rw [bk_off off, mput_ne hp2, mput_same]
      have hwl : (whereN m l i).length ≤ i := by
        unfold whereN
        rw [List.length_map]
        exact Nat.le_trans (List.length_filter_le _ _) (by rw [List.length_range]; exact Nat.le_refl _)
      have few := wf.few
      refine ⟨.lo hmp, ?_⟩
      repeat walk_at "t3q"
      refine m3_append hmp (by omega) ?_
      rw [bk_mput off, mput_comm hp2, mput_mput, mput_comm (Ne.symm hp2)]
      repeat walk_at "t3q"
      refine ⟨_, _, vs _ _, _, _, _, _, _, _, hlt, rfl, ?_⟩
      rw [whereN_succ hx, if_pos h]
    · refine s_nvs ?_
      repeat walk_at "t3q"
      refine ⟨_, _, vs _ _, _, _, _, _, _, _, hlt, rfl, ?_⟩
      rw [whereN_succ hx, if_neg (by rw [h]; exact Bool.false_ne_true), List.append_nil]
  · rintro σ' M' ⟨b2, b4, b5, b6, b7, b8, hil, rfl, rfl⟩
    have q := q p hp
    rw [bk_mput off] at q
    repeat walk_at "t3q"
    rw [show (enumD (m.dips.map wD)).length = m.dips.length by rw [enumD_len, List.length_map]]
    exact q
end
end LW
set_option Elab.async false
set_option linter.all false
set_option maxRecDepth 100000
set_option maxHeartbeats 4000000
namespace LW
open PySem L2 T3
open Evl (Ex)
local macro_rules | `(tactic| walk_at "t3") => `(tactic| first
  | (with_reducible refine s_seq ?_) | (with_reducible refine s_asg ?_) | (with_reducible refine s_if ?_) | (with_reducible refine s_ret ?_) | (with_reducible refine s_drop ?_) | (with_reducible refine s_asgG ?_) | (with_reducible refine s_retN ?_)
  | (with_reducible refine s_next ?_) | (with_reducible refine s_brk ?_) | (with_reducible refine s_cont ?_) | (with_reducible refine s_par ?_) | (with_reducible refine s_fld ?_)
  | ((with_reducible refine' w_var ?hx ?_); (case hx => exact rfl)) | (with_reducible refine w_cI ?_) | (with_reducible refine w_cB ?_) | (with_reducible refine w_cS ?_) | (with_reducible refine w_cN ?_) | (with_reducible refine w_cT ?_) | (with_reducible refine w_cR ?_)
  | (with_reducible refine w_op ?_) | (with_reducible refine w_un ?_) | (with_reducible refine w_nil ?_) | (with_reducible refine w_tup ?_) | (with_reducible refine w_cons ?_) | (with_reducible refine w_cb ?_) | (with_reducible refine w_bm0 ?_) | (with_reducible refine w_bm ?_)
  | (with_reducible refine w_test ?_) | (with_reducible refine w_B ?_) | (with_reducible refine w_notT ?_) | (with_reducible refine w_yes ?_) | (with_reducible refine w_notV ?_)
  | (with_reducible refine w_ifE ?_) | (with_reducible refine w_isN ?_) | (with_reducible refine w_notN ?_) | (with_reducible refine w_tr ?_) | (with_reducible refine w_chain ?_) | (with_reducible refine w_fld ?_) | (with_reducible refine w_sl ?_) | (with_reducible refine o_no ?_) | (with_reducible refine o_some ?_)
  | (with_reducible refine w_call0 ?_) | (with_reducible refine g_name ?_) | ((with_reducible refine' g_tup ?hx ?hy ?_); (case hx => exact rfl); (case hy => exact rfl)) | (with_reducible refine g_cons ?_) | (with_reducible refine g_nil ?_) | (with_reducible refine g_set ?_)
  | (with_reducible refine r3_add_ii ?_) | (with_reducible refine r3_sub ?_) | (with_reducible refine r3_lt ?_) | (with_reducible refine r3_le ?_) | (with_reducible refine r3_gt ?_) | (with_reducible refine r3_ge ?_) | (with_reducible refine u3_neg ?_)
  | (with_reducible refine c3_int_i ?_) | (with_reducible refine c3_int_b ?_) | (with_reducible refine c3_abs ?_) | (with_reducible refine c3_len_t ?_) | (with_reducible refine c3_len .fz ?_) | (with_reducible refine c3_max2 ?_) | (with_reducible refine c3_min2 ?_)
  | (with_reducible refine r3_eq (n := 9) (m := 9) okD_int okD_int ?_) | (with_reducible refine r3_ne (n := 9) (m := 9) okD_int okD_int ?_)
  | ((with_reducible refine' Exists.intro _ (And.intro ?hx ?_)); (case hx => exact rfl))
  | ((with_reducible refine' And.intro ?hx ?_); (case hx => (show List.length _ ≤ 100000); exact Nat.le_of_ble_eq_true rfl))
  | (with_reducible refine c3_lenL (c3_len_t ?_)) | (with_reducible refine c3_lenL (c3_len .fz ?_)))

section
variable {P : Program} {w : World} {K : PySem.W.Frag} {mg : Str → Option Value} {base : Heap} {A0 : Adr}

def oD : Option Str → D
  | none => .non
  | some s => .str s
def okO (o : Option Str) : Prop := ∀ s, o = some s → okT s
def eqO (o : Option Str) (s : Str) : Bool := match o with | none => true | some c => decide (s = c)
def mtB (m : BM) (g v s : Option Str) (x : Str × Str) : Bool := eqO g x.1 && (eqO v x.2 && eqO s (kindN m x.1))
def selN (f : Str × Str → Bool) (dips : List (Str × Str)) (n : Nat) : List D := ((List.range n).filter fun i => match dips[i]? with | some x => f x | none => false).map fun i => D.int (i : Nat)
theorem selN_succ {f : Str × Str → Bool} {dips : List (Str × Str)} {n : Nat} {x : Str × Str} (h : dips[n]? = some x) : selN f dips (n + 1) = selN f dips n ++ (if f x then [D.int (n : Nat)] else []) := by
  unfold selN
  rw [List.range_succ, List.filter_append, List.map_append]
  congr 1
  by_cases e : f x = true
  · rw [if_pos e, List.filter_cons_of_pos (by simp [h, e])]; rfl
  · rw [if_neg e, List.filter_cons_of_neg (by simp [h, e])]; rfl
theorem selN_len (f : Str × Str → Bool) (dips : List (Str × Str)) (n : Nat) : (selN f dips n).length ≤ n := by
  unfold selN
  rw [List.length_map]
  exact Nat.le_trans (List.length_filter_le _ _) (by rw [List.length_range]; exact Nat.le_refl _)
theorem selN_int {f : Str × Str → Bool} {dips : List (Str × Str)} {n : Nat} {d : D} (h : d ∈ selN f dips n) : ∃ i : Nat, d = .int i := by
  unfold selN at h
  obtain ⟨i, _, e⟩ := List.mem_map.mp h
  exact ⟨i, e.symm⟩
theorem whereN_sel (m : BM) (l : List (Str × Str)) (n : Nat) : whereN m l n = selN (hitB m l) m.dips n := rfl
def S_matches : Sp3 := fun ds M Q _ => ∃ (L : LA) (m : BM) (fs : List Fct) (g v s : Option Str), ds = [.ref L.o, oD g, oD v, oD s] ∧ LM M L m ∧ GM m fs ∧ okO g ∧ okO v ∧ okO s ∧ Q (.lst (selN (mtB m g v s) m.dips m.dips.length)) M
theorem ok_matches (T : Tx P K mg A0) : FnOk P w K mg base CX0 2 A0.f_matches A0.d_matches ["_law_model_here", "_law_garment", "_law_vat", "_law_sort_here"] (lift3 S_matches) := by
  refine T.F_matches.ok sc_matches (lift3_len fun ds M Q E ⟨a, b, c, d, e, f, h, _⟩ => by rw [h]; rfl) (fun cdv A outer s H vs Q E hr h => ?_)
  have hu := hr.units
  have hu5 := units65 hr
  refine ⟨_, (pss_cons (ps_set (i := 4) sc_matches.nd (by rfl) (Or.inl (by rfl)) (pe_lst pa_nil))
  (pss_cons (ps_for PassesOwn.never (by rfl) (pi_range1 (by rfl) T.n_range (pa_cons (pe_callB (call_lenDK K rfl) (by rfl) T.n_len PySem.boot_len (pa_cons (pe_ix (ix_seqK K rfl) (pv 0) pe_int (fun _ _ => by rfl)) pa_nil)) pa_nil)) (pg_name (i := 5) sc_matches.nd (by rfl) (Or.inl (by rfl))) (pss_cons (ps_set (i := 6) sc_matches.nd (by rfl) (Or.inl (by rfl)) (pe_ix (ix_seqK K rfl) (pe_ix (ix_seqK K rfl) (pv 0) pe_int (fun _ _ => by rfl)) (pv 5) (fun _ _ => by rfl)))
  (pss_cons (ps_if (PW.pt (pw_and (pt_cmp (pc_notN (pv 1)) (by rfl)) (pw_and1 (pt_cmpR (op_neDK K rfl hu) (pe_ix (ix_seqK K rfl) (pv 6) pe_int (fun _ _ => by rfl)) (pv 1) (nomark _))))) (pss_one ps_continue) pss_nil)
  (pss_cons (ps_if (PW.pt (pw_and (pt_cmp (pc_notN (pv 2)) (by rfl)) (pw_and1 (pt_cmpR (op_neDK K rfl hu) (pe_ix (ix_seqK K rfl) (pv 6) pe_int (fun _ _ => by rfl)) (pv 2) (nomark _))))) (pss_one ps_continue) pss_nil)
  (pss_one (ps_if (PW.pt (pw_or (pt_cmp (pc_isN (pv 3)) (by rfl)) (pw_or1 (pt_cmpR (op_eqDK K rfl hu) (pe_call (ok_sort T) (hr.mono (by decide)) (by rfl) T.g_sort T.k_sort T.b_sort .nil pass0 (pa_cons (pv 0) (pa_cons (pe_ix (ix_seqK K rfl) (pv 6) pe_int (fun _ _ => by rfl)) pa_nil))) (pv 3) (nomark _))))) (pss_one (ps_expr (pe_bm PySem.F.plainAttrs_list PySem.F.slot_list_append PySem.F.type_list_append mt_append (pv 4) (pa_cons (pv 5) pa_nil)))) pss_nil))))))
  (pss_one (ps_ret (pv 4))))), run3 h fun B ds M Q3 E3 hs hE => ?_⟩
  obtain ⟨L, m, fs, og, ov, os, rfl, lm, g, okg, okv, oks, q⟩ := hs
  change W3s B _ _ [some (.ref L.o), some (oD og), some (oD ov), some (oD os), none, none, none] M
  try dsimp only [cxOf, Cx.nox, Cx.wish]
  have wf := g.wf
  have few := wf.few
  have lmap : ∀ l : List (Str × Str), (l.map wD).length = l.length := fun l => List.length_map _
  repeat walk_at "t3"
  refine w_lstO ?_
  repeat walk_at "t3"
  intro p hp
  have lm1 : ∀ x, LM (mput M p x) L m := fun x => lm.new hp
  repeat walk_at "t3"
  refine s_for (i_rng1 ?_)
  repeat walk_at "t3"
  refine r3_m4 (lm1 _) ?_
  repeat walk_at "t3"
  refine c3_lenL (c3_len (.ow (lm1 _).d) ?_)
  rw [lmap]
  repeat walk_at "t3"
  refine ⟨by omega, by omega, fun i σ' M' => ∃ b5 b6 : Option D, i ≤ m.dips.length ∧ σ' = [some (.ref L.o), some (oD og), some (oD ov), some (oD os), some (.ref p), b5, b6] ∧ M' = mput M p (.lst (selN (mtB m og ov os) m.dips i)), fun _ _ _ _ => trivial, ⟨_, _, Nat.zero_le _, rfl, rfl⟩, ?_, ?_⟩
  · rintro i d σ' M' hi ⟨b5, b6, hil, rfl, rfl⟩
    obtain ⟨hlt, rfl⟩ := nat_at' hi
    obtain ⟨x, hx⟩ : ∃ x, m.dips[i]? = some x := ⟨m.dips[i], List.getElem?_eq_getElem hlt⟩
    have wx := wf.dips x (List.mem_of_getElem? hx)
    obtain ⟨kx, _, okk⟩ := wf.kind g.wf2 wx.2.2
    repeat walk_at "t3"
    refine r3_m4 (lm1 _) ?_
    repeat walk_at "t3"
    refine r3_ix_l (.ow (lm1 _).d) (at3 (j := i) rfl (by rw [List.getElem?_map, hx]; rfl)) ?_
    repeat walk_at "t3"
    show W3t B _ [some (.ref L.o), some (oD og), some (oD ov), some (oD os), some (.ref p), some (.int i), some (wD x)] _ _
    have skip : ∀ h : mtB m og ov os x = false, (fun i σ' M' => ∃ b5 b6 : Option D, i ≤ m.dips.length ∧ σ' = [some (.ref L.o), some (oD og), some (oD ov), some (oD os), some (.ref p), b5, b6] ∧ M' = mput M p (.lst (selN (mtB m og ov os) m.dips i))) (i + 1) [some (.ref L.o), some (oD og), some (oD ov), some (oD os), some (.ref p), some (.int i), some (wD x)] (mput M p (.lst (selN (mtB m og ov os) m.dips i))) := fun h => by
      refine ⟨_, _, hlt, rfl, ?_⟩
      rw [selN_succ hx, if_neg (by rw [h]; exact Bool.false_ne_true), List.append_nil]
    generalize hM5 : mput M p (.lst (selN (mtB m og ov os) m.dips i)) = M5 at skip ⊢
    have lm5 : LM M5 L m := by rw [← hM5]; exact lm1 _
    refine W3t.to (Q := fun c M1 => c = !(eqO og x.1) ∧ M5 = M1) ?_ (fun c M1 hc => ?_)
    · cases og with
      | none =>
        refine w_andTP (a := false) (b := false) ?_ (fun h => by cases h) ⟨rfl, rfl⟩
        repeat walk_at "t3"
        exact ⟨rfl, rfl⟩
      | some z =>
        refine w_andTP (a := true) (b := !decide (x.1 = z)) ?_ (fun _ => ?_) ⟨rfl, rfl⟩
        · repeat walk_at "t3"
          exact ⟨rfl, rfl⟩
        · repeat walk_at "t3"
          refine r3_ix_t (at3 (j := 0) (by omega) (v := .str x.1) rfl) ?_
          repeat walk_at "t3"
          refine r3_ne (n := 9) (m := 9) (okD_S wx.1) (okD_S (okg z rfl)) ?_
          rw [show oD (some z) = D.str z from rfl, pq_str]
          exact ⟨_, rfl, rfl, rfl⟩
    obtain ⟨rfl, rfl⟩ := hc
    refine iteB (fun h => s_cont (skip (by unfold mtB; simp only [Bool.not_eq_true'] at h; rw [h]; rfl))) (fun hg1 => s_next ?_)
    refine s_seq (s_if (W3t.to (Q := fun c M1 => c = !(eqO ov x.2) ∧ M5 = M1) ?_ (fun c M1 hc => ?_)))
    · cases ov with
      | none =>
        refine w_andTP (a := false) (b := false) ?_ (fun h => by cases h) ⟨rfl, rfl⟩
        repeat walk_at "t3"
        exact ⟨rfl, rfl⟩
      | some z =>
        refine w_andTP (a := true) (b := !decide (x.2 = z)) ?_ (fun _ => ?_) ⟨rfl, rfl⟩
        · repeat walk_at "t3"
          exact ⟨rfl, rfl⟩
        · repeat walk_at "t3"
          refine r3_ix_t (at3 (j := 1) (by omega) (v := .str x.2) rfl) ?_
          repeat walk_at "t3"
          refine r3_ne (n := 9) (m := 9) (okD_S wx.2.1) (okD_S (okv z rfl)) ?_
          rw [show oD (some z) = D.str z from rfl, pq_str]
          exact ⟨_, rfl, rfl, rfl⟩
    obtain ⟨rfl, rfl⟩ := hc
    refine iteB (fun h => s_cont (skip (by unfold mtB; simp only [Bool.not_eq_true'] at h; rw [h]; simp))) (fun hv1 => s_next ?_)
    refine s_if (W3t.to (Q := fun c M1 => c = eqO os (kindN m x.1) ∧ M5 = M1) ?_ (fun c M1 hc => ?_))
    · cases os with
      | none =>
        refine w_orTP (a := true) (b := true) ?_ (fun h => by cases h) ⟨rfl, rfl⟩
        repeat walk_at "t3"
        exact ⟨rfl, rfl⟩
      | some z =>
        refine w_orTP (a := false) (b := decide (kindN m x.1 = z)) ?_ (fun _ => ?_) ⟨rfl, rfl⟩
        · repeat walk_at "t3"
          exact ⟨rfl, rfl⟩
        · repeat walk_at "t3"
          refine r3_ix_t (at3 (j := 0) (by omega) (v := .str x.1) rfl) ?_
          repeat walk_at "t3"
          refine ⟨L, m, fs, x.1, kindN m x.1, rfl, lm5, g, kx, ?_⟩
          repeat walk_at "t3"
          refine r3_eq (n := 9) (m := 9) (okD_S okk) (okD_S (oks z rfl)) ?_
          rw [show oD (some z) = D.str z from rfl, pq_str]
          exact ⟨_, rfl, rfl, rfl⟩
    obtain ⟨rfl, rfl⟩ := hc
    have hm : mtB m og ov os x = eqO os (kindN m x.1) := by
      unfold mtB
      rw [show eqO og x.1 = true by simpa using hg1, show eqO ov x.2 = true by simpa using hv1]
      rfl
    refine iteB (fun h => ?_) (fun h => s_next (skip (by rw [hm]; exact h)))
    subst hM5
    repeat walk_at "t3"
    refine ⟨.lo mput_same, ?_⟩
    repeat walk_at "t3"
    refine m3_append mput_same (Nat.le_trans (selN_len _ _ _) (by omega)) ?_
    repeat walk_at "t3"
    refine ⟨_, _, hlt, rfl, ?_⟩
    rw [selN_succ hx, if_pos (by rw [hm]; exact h), mput_mput]
  · rintro σ' M' ⟨b5, b6, hil, rfl, rfl⟩
    refine s_ret (w_vs ?_)
    repeat walk_at "t3"
    refine ⟨_, _, vs_lst mput_same, ?_⟩
    rw [mdel_mput hp]
    have e : (List.map (fun (i : Nat) => D.int (i : Int)) (List.range ((m.dips.length : Nat) : Int).toNat)).length = m.dips.length := by rw [List.length_map, List.length_range]; omega
    rw [e]
    exact q
end
end LW
set_option Elab.async false
set_option linter.all false
set_option maxRecDepth 100000
set_option maxHeartbeats 4000000
namespace LW
open PySem L2 T3
open Evl (Ex)
local macro_rules | `(tactic| walk_at "t3") => `(tactic| first
  | (with_reducible refine s_seq ?_) | (with_reducible refine s_asg ?_) | (with_reducible refine s_if ?_) | (with_reducible refine s_ret ?_) | (with_reducible refine s_drop ?_) | (with_reducible refine s_asgG ?_) | (with_reducible refine s_retN ?_)
  | (with_reducible refine s_next ?_) | (with_reducible refine s_brk ?_) | (with_reducible refine s_cont ?_) | (with_reducible refine s_par ?_) | (with_reducible refine s_fld ?_)
  | ((with_reducible refine' w_var ?hx ?_); (case hx => exact rfl)) | (with_reducible refine w_cI ?_) | (with_reducible refine w_cB ?_) | (with_reducible refine w_cS ?_) | (with_reducible refine w_cN ?_) | (with_reducible refine w_cT ?_) | (with_reducible refine w_cR ?_)
  | (with_reducible refine w_op ?_) | (with_reducible refine w_un ?_) | (with_reducible refine w_nil ?_) | (with_reducible refine w_tup ?_) | (with_reducible refine w_cons ?_) | (with_reducible refine w_cb ?_) | (with_reducible refine w_bm0 ?_) | (with_reducible refine w_bm ?_)
  | (with_reducible refine w_test ?_) | (with_reducible refine w_B ?_) | (with_reducible refine w_notT ?_) | (with_reducible refine w_yes ?_) | (with_reducible refine w_notV ?_)
  | (with_reducible refine w_ifE ?_) | (with_reducible refine w_isN ?_) | (with_reducible refine w_notN ?_) | (with_reducible refine w_tr ?_) | (with_reducible refine w_chain ?_) | (with_reducible refine w_fld ?_) | (with_reducible refine w_sl ?_) | (with_reducible refine o_no ?_) | (with_reducible refine o_some ?_)
  | (with_reducible refine w_call0 ?_) | (with_reducible refine g_name ?_) | ((with_reducible refine' g_tup ?hx ?hy ?_); (case hx => exact rfl); (case hy => exact rfl)) | (with_reducible refine g_cons ?_) | (with_reducible refine g_nil ?_) | (with_reducible refine g_set ?_)
  | (with_reducible refine r3_add_ii ?_) | (with_reducible refine r3_sub ?_) | (with_reducible refine r3_lt ?_) | (with_reducible refine r3_le ?_) | (with_reducible refine r3_gt ?_) | (with_reducible refine r3_ge ?_) | (with_reducible refine u3_neg ?_)
  | (with_reducible refine c3_int_i ?_) | (with_reducible refine c3_int_b ?_) | (with_reducible refine c3_abs ?_) | (with_reducible refine c3_len_t ?_) | (with_reducible refine c3_len .fz ?_) | (with_reducible refine c3_max2 ?_) | (with_reducible refine c3_min2 ?_)
  | (with_reducible refine r3_eq (n := 9) (m := 9) okD_int okD_int ?_) | (with_reducible refine r3_ne (n := 9) (m := 9) okD_int okD_int ?_)
  | ((with_reducible refine' Exists.intro _ (And.intro ?hx ?_)); (case hx => exact rfl))
  | ((with_reducible refine' And.intro ?hx ?_); (case hx => (show List.length _ ≤ 100000); exact Nat.le_of_ble_eq_true rfl))
  | (with_reducible refine c3_lenL (c3_len_t ?_)) | (with_reducible refine c3_lenL (c3_len .fz ?_)))

section
variable {P : Program} {w : World} {K : PySem.W.Frag} {mg : Str → Option Value} {base : Heap} {A0 : Adr}

theorem vs_trans {d1 d2 d3 : D} {M1 M2 M3 : Mem} (a : VS d1 M1 d2 M2) (b : VS d2 M2 d3 M3) : VS d1 M1 d3 M3 := fun F H v s r => by
  obtain ⟨F1, e1, s1, r1⟩ := a F H v s r
  obtain ⟨F2, e2, s2, r2⟩ := b F1 H v s1 r1
  exact ⟨F2, e1.trans e2, s2, r2⟩
theorem w3a_to {B : Hp} {t : TA} {σ : Sig} {M : Mem} {Q Q' : List D → Mem → Prop} (h : W3a B t σ M Q) (k : ∀ d M', Q d M' → Q' d M') : W3a B t σ M Q' := fun F σv H Qv b hs st q => h F σv H Qv b hs st fun F' M' d v H' e s r z => q F' M' d v H' e s r (k d M' z)
/-- a call of where that is let -/
theorem w_where {B : Hp} {A0 : Adr} {M0 M : Mem} {A : BA} {m : BM} {ks : List Str} {ta : TE} {tk : TA} {σ : Sig} {Q : DQ} {W : WX} {EW : EW3} (hM : M = bookM A0.f_Book M0 A m) (ob : BOk A) (wf : WF m) (w2 : WF2 m) (hW : ImpW B EW W) (hk : ks.length ≤ 3) (hks : ∀ k ∈ ks, k ∈ WNAMES)
    (h : W3e B ta σ M (fun x M1 => x = .ref A.b ∧ M = M1 ∧ W3a B tk σ M (fun es M3 => M = M3 ∧ ∃ (txs : List Str) (f : Str × Str → Bool), es = txs.map D.str ∧ txs.length = ks.length ∧ (∀ t ∈ txs, okT t) ∧ hitB m (ks.zip txs) = f ∧ Q (.lst (selN f m.dips m.dips.length)) M))) :
    W3e B (tMethKw A0.f_Book "where" ks (lift3 (S_where A0)) (WE W) ta tk) σ M Q := by
  refine w_vs (w_methKw hW (h.to fun x M1 ⟨e1, e2, h2⟩ => ?_))
  subst e1 e2
  refine ⟨bookF A m, .inr ⟨A.b, rfl, by rw [hM]; exact bk_b⟩, rfl, w3a_to h2 fun es M3 ⟨e3, txs, f, e4, hl, okx, hf, q⟩ => ?_⟩
  subst e3 e4 hf
  refine ⟨txs, rfl, hl, fun d o hd => ?_⟩
  subst hM
  obtain ⟨off, hd0⟩ := off_of ob hd
  have hb : badK (ks.zip txs) = none := badK_none fun r hr => hks _ (List.of_mem_zip hr).1
  refine ⟨mput M0 d (kwO o (ks.zip txs)), A, m, ks.zip txs, d, o, rfl, bk_mput off, ob, off, mput_same, wf, w2, by rw [List.length_zip]; omega, fun r hr => ⟨okT_W _ (hks _ (List.of_mem_zip hr).1), okx _ (List.of_mem_zip hr).2⟩, fun k e => (by rw [hb] at e; cases e), fun _ p hp => ?_⟩
  have hp2 : p ≠ d := fun e => by rw [e, mput_same] at hp; cases hp
  have hp1 : bookM A0.f_Book M0 A m p = none := by rw [mput_ne hp2] at hp; exact hp
  refine ⟨_, _, vs_trans (vs_lst mput_same) (vs_less (M' := bookM A0.f_Book M0 A m) fun a o' ha => ?_), q⟩
  have h1 : a ≠ p := fun e => by rw [e, hp1] at ha; cases ha
  have h2 : a ≠ d := fun e => by rw [e, hd] at ha; cases ha
  rw [mdel_ne h1, mput_ne h1, mput_ne h2]
  exact ha
def S_refused (A0 : Adr) : Sp3 := fun ds M Q _ => ∃ (M0 : Mem) (A : BA) (m : BM) (way : Int) (x : Str), ds = [.ref A.b, .int way, .str x] ∧ M = bookM A0.f_Book M0 A m ∧ BOk A ∧ WF m ∧ WF2 m ∧ okT x ∧ 0 ≤ way ∧ way ≤ 2 ∧ Q (.bl true) M
theorem ok_refused (T : Tx P K mg A0) : FnOk P w K mg base CX0 5 A0.f_refused A0.d_refused ["_law_book", "_law_way", "_law_vat"] (lift3 (S_refused A0)) := by
  refine T.F_refused.ok sc_refused (lift3_len fun ds M Q E ⟨a, b, c, d, e, h, _⟩ => by rw [h]; rfl) (fun cdv A outer s H vs Q E hr h => ?_)
  have hu := hr.units
  have hu5 := units65 hr
  refine ⟨_, (pss_cons (ps_tryM rfl rfl sc_refused.nd rfl takes_none5 (fun W pn xe tk po => (pss_one (ps_if (pt_cmpR (op_eqDK K rfl hu) (pv 1) pe_int (nomark _)) (pss_one (ps_expr (pe_methKw (pv 0) T.cl_Book T.m_Book_where (ok_Book_where T T.kw_where_colour) (hr.mono (by decide)) (fun σ => passAt tk σ) (pk_cons pe_str pk_nil)))) (pss_one (ps_if (pt_cmpR (op_eqDK K rfl hu) (pv 1) pe_int (nomark _)) (pss_one (ps_expr (pe_methKw (pv 0) T.cl_Book T.m_Book_where (ok_Book_where T T.kw_where_pot_shade_breadth) (hr.mono (by decide)) (fun σ => passAt tk σ) (pk_cons (pv 2) (pk_cons pe_str (pk_cons pe_str pk_nil)))))) (pss_one (ps_expr (pe_methKw (pv 0) T.cl_Book T.m_Book_where (ok_Book_where T T.kw_where_kinds) (hr.mono (by decide)) (fun σ => passAt tk σ) (pk_cons (pv 2) pk_nil)))))))))
  (.as_ (i := 3) ⟨by rfl, by decide, .inl T.g_Unknown⟩ (by rfl) (by rfl) (fun _ _ => (pss_one (ps_ret (pe_and (pe_cmpR (op_eqDK K rfl hu) (pe_thingK K rfl (pv 3)) (pe_ix (ix_seqK K rfl) (pe_lst (pa_cons pe_str (pa_cons pe_str (pa_cons pe_str pa_nil)))) (pv 1) (fun _ _ => by rfl)) (nomark _)) (pe_and (pe_callB (call_ISIK K rfl) (by rfl) T.n_isinstance (by decide +kernel) (pa_cons (pv 3) (pa_cons (pe_glob (v := .ref A0.f_DyeError) (by rfl) T.g_DyeError rfl) pa_nil))) (pe_one (pe_not (pe_callB (call_ISIK K rfl) (by rfl) T.n_isinstance (by decide +kernel) (pa_cons (pv 3) (pa_cons (pe_glob (v := .ref A0.f_Full) (by rfl) T.g_Full rfl) pa_nil)))))))))) (.bare ⟨by rfl, by decide, .inl T.g_DyeError⟩ (fun _ _ => (pss_one (ps_ret pe_bl))) .nil)))
  (pss_one (ps_ret pe_bl))), run3 h fun B ds M Q3 E3 hs hE => ?_⟩
  obtain ⟨M0, A, m, way, x, rfl, hM, o, wf, w2, okx, hw0, hw2, q⟩ := hs
  change W3s B _ _ [some (.ref A.b), some (.int way), some (.str x), none] M
  try dsimp only [cxOf, Cx.nox, Cx.wish]
  refine s_seq ?_
  refine s_tryM impW0 (fun B' W EW b hEW hW => ?_)
  have hE0 : ∀ (z : Str) (M5 : Mem), (∀ y o, M y = some o → M5 y = some o) → [D.str "colour", .str "shade", .str "kinds"][way.toNat]? = some (.str z) → okT z → EW A0.f_Unknown (.str z) [some (.ref A.b), some (.int way), some (.str x), none] M5 := by
    intro z M5 hsub hz okz
    subst hEW
    refine ⟨true, T.em_Unknown_Unknown, fun _ a ha => ?_, fun h => by cases h⟩
    have hm : mput M5 a (.exc a A0.f_Unknown (.str z)) a = some (.exc a A0.f_Unknown (.str z)) := mput_same
    refine s_ret (w_vs ?_)
    refine w_andP (a := true) (b := true) ?_ (fun _ => w_andP (a := true) (b := true) ?_ (fun _ => ?_) ⟨rfl, rfl⟩) ⟨_, _, vs_trans (vs_drop a) (vs_less (M' := M) fun y o' hy => by rw [mdel_mput ha]; exact hsub y o' hy), q⟩
    · repeat walk_at "t3"
      refine w_thing ?_
      repeat walk_at "t3"
      refine ⟨_, _, _, rfl, hm, T.x_Unknown, ?_⟩
      repeat walk_at "t3"
      refine w_lst ?_
      repeat walk_at "t3"
      refine r3_ix_l .fz (at3 (j := way.toNat) (by omega) hz) ?_
      refine r3_eq_rfl (n := 9) rfl (okD_S okz) (by decide) ?_
      exact ⟨rfl, rfl⟩
    · repeat walk_at "t3"
      refine c3_isX hm T.x_Unknown T.ik_Unknown_DyeError ?_
      exact ⟨rfl, rfl⟩
    · repeat walk_at "t3"
      refine c3_isX hm T.x_Unknown T.ik_Unknown_Full ?_
      exact ⟨_, rfl, rfl, rfl⟩
  clear hEW
  subst hM
  have okc : okT "colour" ∧ okT "shade" ∧ okT "kinds" ∧ okT "red" ∧ okT "deep" ∧ okT "wide" ∧ okT "pot" ∧ okT "breadth" := by unfold okT; decide +kernel
  obtain ⟨o1, o2, o3, o4, o5, o6, o7, o8⟩ := okc
  have fin : ∀ {ks txs : List Str} {z : Str} {Q : DQ}, badK (ks.zip txs) = some z → (ks.zip txs).length ≤ 100 → (∀ p ∈ ks.zip txs, okT p.1 ∧ okT p.2) → [D.str "colour", .str "shade", .str "kinds"][way.toNat]? = some (.str z) → okT z → ∀ d o', bookM A0.f_Book M0 A m d = none →
      S_where A0 [.ref A.b, .ref d] (mput (bookM A0.f_Book M0 A m) d (kwO o' (ks.zip txs))) Q (fun C th M' => EW C th [some (.ref A.b), some (.int way), some (.str x), none] M') := by
    intro ks txs z Q hb hl hok hz okz d o' hd
    obtain ⟨off, hd0⟩ := off_of o hd
    refine ⟨_, A, m, ks.zip txs, d, o', rfl, bk_mput off, o, off, mput_same, wf, w2, hl, hok, fun k e => ?_, fun h => (by rw [hb] at h; cases h)⟩
    rw [hb] at e
    cases e
    refine hE0 z _ (fun y oo hy => ?_) hz okz
    rw [mput_ne fun e => by rw [e, hd] at hy; cases hy]
    exact hy
  repeat walk_at "t3"
  rcases (show way = 0 ∨ way = 1 ∨ way = 2 by omega) with rfl | rfl | rfl
  · refine iteB (fun _ => ?_) (fun h => by cases h)
    repeat walk_at "t3"
    refine w_methKw hW ?_
    repeat walk_at "t3"
    refine ⟨bookF A m, .inr ⟨A.b, rfl, bk_b⟩, rfl, ?_⟩
    repeat walk_at "t3"
    refine ⟨["red"], rfl, rfl, fin (ks := ["colour"]) (txs := ["red"]) (z := "colour") rfl (by decide) ?_ rfl o1⟩
    intro p hp
    obtain rfl := List.mem_singleton.mp hp
    exact ⟨o1, o4⟩
  · refine iteB (fun h => by cases h) (fun _ => ?_)
    repeat walk_at "t3"
    refine iteB (fun _ => ?_) (fun h => by cases h)
    repeat walk_at "t3"
    refine w_methKw hW ?_
    repeat walk_at "t3"
    refine ⟨bookF A m, .inr ⟨A.b, rfl, bk_b⟩, rfl, ?_⟩
    repeat walk_at "t3"
    refine ⟨[x, "deep", "wide"], rfl, rfl, fin (ks := ["pot", "shade", "breadth"]) (txs := [x, "deep", "wide"]) (z := "shade") rfl (Nat.le_of_ble_eq_true rfl) ?_ rfl o2⟩
    intro p hp
    have hp : p ∈ [(("pot" : Str), x), ("shade", "deep"), ("breadth", "wide")] := hp
    simp only [List.mem_cons, List.not_mem_nil, or_false] at hp
    rcases hp with rfl | rfl | rfl
    · exact ⟨o7, okx⟩
    · exact ⟨o2, o5⟩
    · exact ⟨o8, o6⟩
  · refine iteB (fun h => by cases h) (fun _ => ?_)
    repeat walk_at "t3"
    refine iteB (fun h => by cases h) (fun _ => ?_)
    repeat walk_at "t3"
    refine w_methKw hW ?_
    repeat walk_at "t3"
    refine ⟨bookF A m, .inr ⟨A.b, rfl, bk_b⟩, rfl, ?_⟩
    repeat walk_at "t3"
    refine ⟨[x], rfl, rfl, fin (ks := ["kinds"]) (txs := [x]) (z := "kinds") rfl (Nat.le_of_ble_eq_true rfl) ?_ rfl o3⟩
    intro p hp
    obtain rfl := List.mem_singleton.mp hp
    exact ⟨o3, okx⟩
end
end LW
set_option Elab.async false
set_option linter.all false
set_option maxRecDepth 100000
set_option maxHeartbeats 4000000
namespace LW
open PySem L2 T3
open Evl (Ex)
local macro_rules | `(tactic| walk_at "t3") => `(tactic| first
  | (with_reducible refine s_seq ?_) | (with_reducible refine s_asg ?_) | (with_reducible refine s_if ?_) | (with_reducible refine s_ret ?_) | (with_reducible refine s_drop ?_) | (with_reducible refine s_asgG ?_) | (with_reducible refine s_retN ?_)
  | (with_reducible refine s_next ?_) | (with_reducible refine s_brk ?_) | (with_reducible refine s_cont ?_) | (with_reducible refine s_par ?_) | (with_reducible refine s_fld ?_)
  | ((with_reducible refine' w_var ?hx ?_); (case hx => exact rfl)) | (with_reducible refine w_cI ?_) | (with_reducible refine w_cB ?_) | (with_reducible refine w_cS ?_) | (with_reducible refine w_cN ?_) | (with_reducible refine w_cT ?_) | (with_reducible refine w_cR ?_)
  | (with_reducible refine w_op ?_) | (with_reducible refine w_un ?_) | (with_reducible refine w_nil ?_) | (with_reducible refine w_tup ?_) | (with_reducible refine w_cons ?_) | (with_reducible refine w_cb ?_) | (with_reducible refine w_bm0 ?_) | (with_reducible refine w_bm ?_)
  | (with_reducible refine w_test ?_) | (with_reducible refine w_B ?_) | (with_reducible refine w_notT ?_) | (with_reducible refine w_yes ?_) | (with_reducible refine w_notV ?_)
  | (with_reducible refine w_ifE ?_) | (with_reducible refine w_isN ?_) | (with_reducible refine w_notN ?_) | (with_reducible refine w_tr ?_) | (with_reducible refine w_chain ?_) | (with_reducible refine w_fld ?_) | (with_reducible refine w_sl ?_) | (with_reducible refine o_no ?_) | (with_reducible refine o_some ?_)
  | (with_reducible refine w_call0 ?_) | (with_reducible refine g_name ?_) | ((with_reducible refine' g_tup ?hx ?hy ?_); (case hx => exact rfl); (case hy => exact rfl)) | (with_reducible refine g_cons ?_) | (with_reducible refine g_nil ?_) | (with_reducible refine g_set ?_)
  | (with_reducible refine r3_add_ii ?_) | (with_reducible refine r3_sub ?_) | (with_reducible refine r3_lt ?_) | (with_reducible refine r3_le ?_) | (with_reducible refine r3_gt ?_) | (with_reducible refine r3_ge ?_) | (with_reducible refine u3_neg ?_)
  | (with_reducible refine c3_int_i ?_) | (with_reducible refine c3_int_b ?_) | (with_reducible refine c3_abs ?_) | (with_reducible refine c3_len_t ?_) | (with_reducible refine c3_len .fz ?_) | (with_reducible refine c3_max2 ?_) | (with_reducible refine c3_min2 ?_)
  | (with_reducible refine r3_eq (n := 9) (m := 9) okD_int okD_int ?_) | (with_reducible refine r3_ne (n := 9) (m := 9) okD_int okD_int ?_)
  | ((with_reducible refine' Exists.intro _ (And.intro ?hx ?_)); (case hx => exact rfl))
  | ((with_reducible refine' And.intro ?hx ?_); (case hx => (show List.length _ ≤ 100000); exact Nat.le_of_ble_eq_true rfl))
  | (with_reducible refine c3_lenL (c3_len_t ?_)) | (with_reducible refine c3_lenL (c3_len .fz ?_)))

section
variable {P : Program} {w : World} {K : PySem.W.Frag} {mg : Str → Option Value} {base : Heap} {A0 : Adr}

theorem nth_aval {p : D → Prop} {l : List D} (h : ∀ d ∈ l, p d) {r : Int} (h0 : 0 ≤ r) (h1 : r < l.length) : ∃ d, p d ∧ l[r.toNat]? = some d := by
  have h2 : r.toNat < l.length := by omega
  exact ⟨l[r.toNat], h _ (List.getElem_mem h2), List.getElem?_eq_getElem h2⟩
theorem LstD.keep {M M' : Mem} {x : D} {ds : List D} (h : LstD M x ds) (k : ∀ a o, M a = some o → M' a = some o) : LstD M' x ds := by
  rcases h with h | ⟨a, h1, h2⟩
  · exact .inl h
  · exact .inr ⟨a, h1, k _ _ h2⟩
theorem good_upper {s : Str} (h : goodS s = true) : okT (Txt.upper s) ∧ (Txt.upper s).length ≤ 1000 := by
  have h3 := ((goodS_iff s).mp h).2.2
  have h12 := ((goodS_iff s).mp h).2.1
  have e := PyProof.Rows.upper_ascii (x := s) fun c hc => by have := h3 c hc; omega
  refine ⟨?_, ?_⟩
  · rw [e]
    unfold okT
    rw [Array.all_eq_true']
    intro c hc
    obtain ⟨z, hz, rfl⟩ := Array.mem_map.mp (show c ∈ s.cps.map PyProof.Rows.up1 from hc)
    have := h3 z (by simpa using hz)
    unfold PyProof.Rows.up1
    have : (if 97 ≤ z ∧ z ≤ 122 then z - 32 else z) < 1114112 := by split <;> omega
    exact decide_eq_true this
  · rw [e]
    show (s.cps.map PyProof.Rows.up1).size ≤ _
    rw [Array.size_map]
    exact Nat.le_trans h12 (by decide)
end
end LW
set_option Elab.async false
set_option linter.all false
set_option maxRecDepth 100000
set_option maxHeartbeats 4000000
namespace LW
open PySem L2 T3
open Evl (Ex)
local macro_rules | `(tactic| walk_at "t3") => `(tactic| first
  | (with_reducible refine s_seq ?_) | (with_reducible refine s_asg ?_) | (with_reducible refine s_if ?_) | (with_reducible refine s_ret ?_) | (with_reducible refine s_drop ?_) | (with_reducible refine s_asgG ?_) | (with_reducible refine s_retN ?_)
  | (with_reducible refine s_next ?_) | (with_reducible refine s_brk ?_) | (with_reducible refine s_cont ?_) | (with_reducible refine s_par ?_) | (with_reducible refine s_fld ?_)
  | ((with_reducible refine' w_var ?hx ?_); (case hx => exact rfl)) | (with_reducible refine w_cI ?_) | (with_reducible refine w_cB ?_) | (with_reducible refine w_cS ?_) | (with_reducible refine w_cN ?_) | (with_reducible refine w_cT ?_) | (with_reducible refine w_cR ?_)
  | (with_reducible refine w_op ?_) | (with_reducible refine w_un ?_) | (with_reducible refine w_nil ?_) | (with_reducible refine w_tup ?_) | (with_reducible refine w_cons ?_) | (with_reducible refine w_cb ?_) | (with_reducible refine w_bm0 ?_) | (with_reducible refine w_bm ?_)
  | (with_reducible refine w_test ?_) | (with_reducible refine w_B ?_) | (with_reducible refine w_notT ?_) | (with_reducible refine w_yes ?_) | (with_reducible refine w_notV ?_)
  | (with_reducible refine w_ifE ?_) | (with_reducible refine w_isN ?_) | (with_reducible refine w_notN ?_) | (with_reducible refine w_tr ?_) | (with_reducible refine w_chain ?_) | (with_reducible refine w_fld ?_) | (with_reducible refine w_sl ?_) | (with_reducible refine o_no ?_) | (with_reducible refine o_some ?_)
  | (with_reducible refine w_call0 ?_) | (with_reducible refine g_name ?_) | ((with_reducible refine' g_tup ?hx ?hy ?_); (case hx => exact rfl); (case hy => exact rfl)) | (with_reducible refine g_cons ?_) | (with_reducible refine g_nil ?_) | (with_reducible refine g_set ?_)
  | (with_reducible refine r3_add_ii ?_) | (with_reducible refine r3_sub ?_) | (with_reducible refine r3_lt ?_) | (with_reducible refine r3_le ?_) | (with_reducible refine r3_gt ?_) | (with_reducible refine r3_ge ?_) | (with_reducible refine u3_neg ?_)
  | (with_reducible refine c3_int_i ?_) | (with_reducible refine c3_int_b ?_) | (with_reducible refine c3_abs ?_) | (with_reducible refine c3_len_t ?_) | (with_reducible refine c3_len .fz ?_) | (with_reducible refine c3_max2 ?_) | (with_reducible refine c3_min2 ?_)
  | (with_reducible refine r3_eq (n := 9) (m := 9) okD_int okD_int ?_) | (with_reducible refine r3_ne (n := 9) (m := 9) okD_int okD_int ?_)
  | ((with_reducible refine' Exists.intro _ (And.intro ?hx ?_)); (case hx => exact rfl))
  | ((with_reducible refine' And.intro ?hx ?_); (case hx => (show List.length _ ≤ 100000); exact Nat.le_of_ble_eq_true rfl))
  | (with_reducible refine c3_lenL (c3_len_t ?_)) | (with_reducible refine c3_lenL (c3_len .fz ?_)))

section
variable {P : Program} {w : World} {K : PySem.W.Frag} {mg : Str → Option Value} {base : Heap} {A0 : Adr}

theorem own_c (m : BM) (x : Str × Str) : ownV m x "cloth" = x.1 := rfl
theorem own_p (m : BM) (x : Str × Str) : ownV m x "pot" = x.2 := rfl
theorem own_k (m : BM) (x : Str × Str) : ownV m x "kind" = kindN m x.1 := rfl
theorem hit0 (m : BM) : hitB m [] = mtB m none none none := rfl
theorem hit_c (m : BM) (c : Str) : hitB m [("cloth", c)] = mtB m (some c) none none := by
  funext x
  show ((decide (x.1 = c) && true)) = ((decide (x.1 = c) && (true && true)))
  cases decide (x.1 = c) <;> rfl
theorem hit_p (m : BM) (v : Str) : hitB m [("pot", v)] = mtB m none (some v) none := by
  funext x
  show ((decide (x.2 = v) && true)) = ((true && (decide (x.2 = v) && true)))
  cases decide (x.2 = v) <;> rfl
theorem hit_k (m : BM) (s : Str) : hitB m [("kind", s)] = mtB m none none (some s) := by
  funext x
  show ((decide (kindN m x.1 = s) && true)) = ((true && (true && decide (kindN m x.1 = s))))
  cases decide (kindN m x.1 = s) <;> rfl
theorem hit_pc (m : BM) (c v : Str) : hitB m [("pot", v), ("cloth", c)] = mtB m (some c) (some v) none := by
  funext x
  show ((decide (x.2 = v) && (decide (x.1 = c) && true))) = ((decide (x.1 = c) && (decide (x.2 = v) && true)))
  cases decide (x.1 = c) <;> cases decide (x.2 = v) <;> rfl
theorem hit_ck (m : BM) (c s : Str) : hitB m [("cloth", c), ("kind", s)] = mtB m (some c) none (some s) := by
  funext x
  show ((decide (x.1 = c) && (decide (kindN m x.1 = s) && true))) = ((decide (x.1 = c) && (true && decide (kindN m x.1 = s))))
  cases decide (x.1 = c) <;> cases decide (kindN m x.1 = s) <;> rfl
theorem hit_kp (m : BM) (v s : Str) : hitB m [("kind", s), ("pot", v)] = mtB m none (some v) (some s) := by
  funext x
  show ((decide (kindN m x.1 = s) && (decide (x.2 = v) && true))) = ((true && (decide (x.2 = v) && decide (kindN m x.1 = s))))
  cases decide (x.2 = v) <;> cases decide (kindN m x.1 = s) <;> rfl
theorem hit_cpk (m : BM) (c v s : Str) : hitB m [("cloth", c), ("pot", v), ("kind", s)] = mtB m (some c) (some v) (some s) := by
  funext x
  show ((decide (x.1 = c) && (decide (x.2 = v) && (decide (kindN m x.1 = s) && true)))) = ((decide (x.1 = c) && (decide (x.2 = v) && decide (kindN m x.1 = s))))
  cases decide (x.1 = c) <;> cases decide (x.2 = v) <;> cases decide (kindN m x.1 = s) <;> rfl
abbrev Ask := Option Str × Option Str × Option Str
def askD (m : BM) (a : Ask) : D := .tup [.lst (selN (mtB m a.1 a.2.1 a.2.2) m.dips m.dips.length), .lst [oD a.1, oD a.2.1, oD a.2.2]]
def asks (c v s : Str) : List Ask := [(none, none, none), (some c, none, none), (none, some v, none), (none, none, some s), (some c, some v, none), (some c, none, some s), (none, some v, some s), (some c, some v, some s)]
def S_good (A0 : Adr) : Sp3 := fun ds M Q _ => ∃ (M0 : Mem) (A : BA) (L : LA) (m : BM) (fs : List Fct) (pn : Addr) (c v s : Str), ds = [.ref A.b, .ref L.o, .ref pn] ∧ M = bookM A0.f_Book M0 A m ∧ BOk A ∧ LM M L m ∧ GM m fs ∧ M pn = some (.lst [.str c, .str v, .str s]) ∧ okT c ∧ okT v ∧ okT s ∧ Q (.bl true) M
theorem ok_good (T : Tx P K mg A0) : FnOk P w K mg base CX0 6 A0.f_good A0.d_good ["_law_book", "_law_model_here", "_law_names_here"] (lift3 (S_good A0)) := by
  refine T.F_good.ok sc_good (lift3_len fun ds M Q E ⟨a, b, c, d, e, f, g, h, i, hh, _⟩ => by rw [hh]; rfl) (fun cdv A outer s H vs Q E hr h => ?_)
  have hu := hr.units
  have hu5 := units65 hr
  refine ⟨_, (pss_cons (ps_set (i := 3) sc_good.nd (by rfl) (Or.inl (by rfl)) (pe_ix (ix_seqK K rfl) (pv 2) pe_int (fun _ _ => by rfl)))
  (pss_cons (ps_set (i := 4) sc_good.nd (by rfl) (Or.inl (by rfl)) (pe_ix (ix_seqK K rfl) (pv 2) pe_int (fun _ _ => by rfl)))
  (pss_cons (ps_set (i := 5) sc_good.nd (by rfl) (Or.inl (by rfl)) (pe_ix (ix_seqK K rfl) (pv 2) pe_int (fun _ _ => by rfl)))
  (pss_cons (ps_set (i := 6) sc_good.nd (by rfl) (Or.inl (by rfl)) (pe_lst (pa_cons (pe_tup (pa_cons (pe_methKw (pv 0) T.cl_Book T.m_Book_where (ok_Book_where T T.kw_where) (hr.mono (by decide)) (passes_at passL) pk_nil) (pa_cons (pe_lst (pa_cons pe_non (pa_cons pe_non (pa_cons pe_non pa_nil)))) pa_nil))) (pa_cons (pe_tup (pa_cons (pe_methKw (pv 0) T.cl_Book T.m_Book_where (ok_Book_where T T.kw_where_cloth) (hr.mono (by decide)) (passes_at passL) (pk_cons (pv 3) pk_nil)) (pa_cons (pe_lst (pa_cons (pv 3) (pa_cons pe_non (pa_cons pe_non pa_nil)))) pa_nil))) pa_nil))))
  (pss_cons (ps_set (i := 6) sc_good.nd (by rfl) (Or.inl (by rfl)) (pe_op op_ADD (pv 6) (pe_lst (pa_cons (pe_tup (pa_cons (pe_methKw (pv 0) T.cl_Book T.m_Book_where (ok_Book_where T T.kw_where_pot) (hr.mono (by decide)) (passes_at passL) (pk_cons (pv 4) pk_nil)) (pa_cons (pe_lst (pa_cons pe_non (pa_cons (pv 4) (pa_cons pe_non pa_nil)))) pa_nil))) (pa_cons (pe_tup (pa_cons (pe_methKw (pv 0) T.cl_Book T.m_Book_where (ok_Book_where T T.kw_where_kind) (hr.mono (by decide)) (passes_at passL) (pk_cons (pv 5) pk_nil)) (pa_cons (pe_lst (pa_cons pe_non (pa_cons pe_non (pa_cons (pv 5) pa_nil)))) pa_nil))) pa_nil)))))
  (pss_cons (ps_set (i := 6) sc_good.nd (by rfl) (Or.inl (by rfl)) (pe_op op_ADD (pv 6) (pe_lst (pa_cons (pe_tup (pa_cons (pe_methKw (pv 0) T.cl_Book T.m_Book_where (ok_Book_where T T.kw_where_pot_cloth) (hr.mono (by decide)) (passes_at passL) (pk_cons (pv 4) (pk_cons (pv 3) pk_nil))) (pa_cons (pe_lst (pa_cons (pv 3) (pa_cons (pv 4) (pa_cons pe_non pa_nil)))) pa_nil))) pa_nil))))
  (pss_cons (ps_set (i := 6) sc_good.nd (by rfl) (Or.inl (by rfl)) (pe_op op_ADD (pv 6) (pe_lst (pa_cons (pe_tup (pa_cons (pe_methKw (pv 0) T.cl_Book T.m_Book_where (ok_Book_where T T.kw_where_cloth_kind) (hr.mono (by decide)) (passes_at passL) (pk_cons (pv 3) (pk_cons (pv 5) pk_nil))) (pa_cons (pe_lst (pa_cons (pv 3) (pa_cons pe_non (pa_cons (pv 5) pa_nil)))) pa_nil))) pa_nil))))
  (pss_cons (ps_set (i := 6) sc_good.nd (by rfl) (Or.inl (by rfl)) (pe_op op_ADD (pv 6) (pe_lst (pa_cons (pe_tup (pa_cons (pe_methKw (pv 0) T.cl_Book T.m_Book_where (ok_Book_where T T.kw_where_kind_pot) (hr.mono (by decide)) (passes_at passL) (pk_cons (pv 5) (pk_cons (pv 4) pk_nil))) (pa_cons (pe_lst (pa_cons pe_non (pa_cons (pv 4) (pa_cons (pv 5) pa_nil)))) pa_nil))) pa_nil))))
  (pss_cons (ps_set (i := 6) sc_good.nd (by rfl) (Or.inl (by rfl)) (pe_op op_ADD (pv 6) (pe_lst (pa_cons (pe_tup (pa_cons (pe_methKw (pv 0) T.cl_Book T.m_Book_where (ok_Book_where T T.kw_where_cloth_pot_kind) (hr.mono (by decide)) (passes_at passL) (pk_cons (pv 3) (pk_cons (pv 4) (pk_cons (pv 5) pk_nil)))) (pa_cons (pe_lst (pa_cons (pv 3) (pa_cons (pv 4) (pa_cons (pv 5) pa_nil)))) pa_nil))) pa_nil))))
  (pss_cons (ps_for PassesOwn.never (by rfl) (pi_list (pv 6)) (pg_tup (by rfl) (pgs_cons (pg_name (i := 7) sc_good.nd (by rfl) (Or.inl (by rfl))) (pgs_cons (pg_name (i := 8) sc_good.nd (by rfl) (Or.inl (by rfl))) pgs_nil))) (pss_cons (ps_set (i := 9) sc_good.nd (by rfl) (Or.inl (by rfl)) (pe_call (ok_matches T) (hr.mono (by decide)) (by rfl) T.g_matches T.k_matches T.b_matches .nil pass0 (pa_cons (pv 1) (pa_cons (pe_ix (ix_seqK K rfl) (pv 8) pe_int (fun _ _ => by rfl)) (pa_cons (pe_ix (ix_seqK K rfl) (pv 8) pe_int (fun _ _ => by rfl)) (pa_cons (pe_ix (ix_seqK K rfl) (pv 8) pe_int (fun _ _ => by rfl)) pa_nil))))))
  (pss_one (ps_if (PW.pt (pw_or (pt_not (pt_truthK K rfl (pe_callB (call_ISIK K rfl) (by rfl) T.n_isinstance (by decide +kernel) (pa_cons (pv 7) (pa_cons (pe_bltn (v := .ty "list") (by rfl) T.n_list (by decide +kernel) rfl) pa_nil))) (by intro _; rfl))) (pw_or (pt_cmpR (op_neDK K rfl hu) (pv 7) (pv 9) (nomark _)) (pw_or1 (pt_not (pt_truthK K rfl (pe_callB (cr_all (by rfl)) (by rfl) T.n_all (by decide +kernel) (pa_cons (pe_lc (own := [("_law_number", 10)]) (g := (gName 10)) (by rfl) sc_good.nd (pi_list (pv 7)) (blkOk_by (N := ["_law_book", "_law_model_here", "_law_names_here", "_law_garment", "_law_vat", "_law_sort_here", "_law_asked", "_law_answer", "_law_given", "_law_due", "_law_number"]) (sc := defScope s_good) (own := [("_law_number", 10)]) (by decide +kernel)) (fun _ _ _ _ _ => (pg_name (i := 10) sc_good.nd (by rfl) (Or.inl (by rfl)))) (fun _ _ _ _ _ => pts_nil) (fun _ _ _ _ _ => (pe_call (ok_lw_is_whole T) (hr.mono (by decide)) (by rfl) T.g_lw_is_whole T.k_lw_is_whole T.b_lw_is_whole .nil pass0 (pa_cons (pv 10) pa_nil)))) pa_nil)) (by intro _; rfl))))))) (pss_one (ps_ret pe_bl)) pss_nil))))
  (pss_one (ps_ret pe_bl)))))))))))), run3 h fun B ds M Q3 E3 hs hE => ?_⟩
  obtain ⟨M0, A, L, m, fs, pn, c, v, s, rfl, hM, ob, lm, g, hpn, okc, okv, oks, q⟩ := hs
  change W3s B _ _ [some (.ref A.b), some (.ref L.o), some (.ref pn), none, none, none, none, none, none, none, none] M
  try dsimp only [cxOf, Cx.nox, Cx.wish]
  have wf := g.wf
  have w2 := g.wf2
  have few := wf.few
  have hW : ∀ k ∈ ([] : List Str), k ∈ WNAMES := fun k h => by cases h
  have o1 : ∀ {a : Str}, okT a → ∀ t ∈ [a], okT t := fun ha t ht => by rw [List.mem_singleton.mp ht]; exact ha
  have o2 : ∀ {a b : Str}, okT a → okT b → ∀ t ∈ [a, b], okT t := fun ha hb t ht => by
    rcases List.mem_cons.mp ht with rfl | ht
    · exact ha
    · exact o1 hb t ht
  have o3 : ∀ t ∈ [c, v, s], okT t := fun t ht => by
    rcases List.mem_cons.mp ht with rfl | ht
    · exact okc
    · exact o2 okv oks t ht
  repeat walk_at "t3"
  refine r3_ix_l (.ow hpn) (at3 (j := 0) (by omega) (v := .str c) rfl) ?_
  repeat walk_at "t3"
  refine r3_ix_l (.ow hpn) (at3 (j := 1) (by omega) (v := .str v) rfl) ?_
  repeat walk_at "t3"
  refine r3_ix_l (.ow hpn) (at3 (j := 2) (by omega) (v := .str s) rfl) ?_
  repeat walk_at "t3"
  refine w_lst ?_
  repeat walk_at "t3"
  refine w_where hM ob wf w2 impW0 (by decide) (by decide +kernel) ?_
  repeat walk_at "t3"
  refine ⟨rfl, rfl, ?_⟩
  repeat walk_at "t3"
  refine ⟨rfl, [], _, rfl, rfl, fun t ht => (by cases ht), hit0 m, ?_⟩
  repeat walk_at "t3"
  refine w_lst ?_
  repeat walk_at "t3"
  refine w_where hM ob wf w2 impW0 (by decide) (by decide +kernel) ?_
  repeat walk_at "t3"
  refine ⟨rfl, rfl, ?_⟩
  repeat walk_at "t3"
  refine ⟨rfl, [c], _, rfl, rfl, o1 okc, hit_c m c, ?_⟩
  repeat walk_at "t3"
  refine w_lst ?_
  repeat walk_at "t3"
  refine w_lst ?_
  repeat walk_at "t3"
  refine w_where hM ob wf w2 impW0 (by decide) (by decide +kernel) ?_
  repeat walk_at "t3"
  refine ⟨rfl, rfl, ?_⟩
  repeat walk_at "t3"
  refine ⟨rfl, [v], _, rfl, rfl, o1 okv, hit_p m v, ?_⟩
  repeat walk_at "t3"
  refine w_lst ?_
  repeat walk_at "t3"
  refine w_where hM ob wf w2 impW0 (by decide) (by decide +kernel) ?_
  repeat walk_at "t3"
  refine ⟨rfl, rfl, ?_⟩
  repeat walk_at "t3"
  refine ⟨rfl, [s], _, rfl, rfl, o1 oks, hit_k m s, ?_⟩
  repeat walk_at "t3"
  refine w_lst ?_
  repeat walk_at "t3"
  refine r3_add_ll .fz .fz (Nat.le_of_ble_eq_true rfl) ?_
  repeat walk_at "t3"
  refine w_lst ?_
  repeat walk_at "t3"
  refine w_where hM ob wf w2 impW0 (by decide) (by decide +kernel) ?_
  repeat walk_at "t3"
  refine ⟨rfl, rfl, ?_⟩
  repeat walk_at "t3"
  refine ⟨rfl, [v, c], _, rfl, rfl, o2 okv okc, hit_pc m c v, ?_⟩
  repeat walk_at "t3"
  refine w_lst ?_
  repeat walk_at "t3"
  refine r3_add_ll .fz .fz (Nat.le_of_ble_eq_true rfl) ?_
  repeat walk_at "t3"
  refine w_lst ?_
  repeat walk_at "t3"
  refine w_where hM ob wf w2 impW0 (by decide) (by decide +kernel) ?_
  repeat walk_at "t3"
  refine ⟨rfl, rfl, ?_⟩
  repeat walk_at "t3"
  refine ⟨rfl, [c, s], _, rfl, rfl, o2 okc oks, hit_ck m c s, ?_⟩
  repeat walk_at "t3"
  refine w_lst ?_
  repeat walk_at "t3"
  refine r3_add_ll .fz .fz (Nat.le_of_ble_eq_true rfl) ?_
  repeat walk_at "t3"
  refine w_lst ?_
  repeat walk_at "t3"
  refine w_where hM ob wf w2 impW0 (by decide) (by decide +kernel) ?_
  repeat walk_at "t3"
  refine ⟨rfl, rfl, ?_⟩
  repeat walk_at "t3"
  refine ⟨rfl, [s, v], _, rfl, rfl, o2 oks okv, hit_kp m v s, ?_⟩
  repeat walk_at "t3"
  refine w_lst ?_
  repeat walk_at "t3"
  refine r3_add_ll .fz .fz (Nat.le_of_ble_eq_true rfl) ?_
  repeat walk_at "t3"
  refine w_lst ?_
  repeat walk_at "t3"
  refine w_where hM ob wf w2 impW0 (by decide) (by decide +kernel) ?_
  repeat walk_at "t3"
  refine ⟨rfl, rfl, ?_⟩
  repeat walk_at "t3"
  refine ⟨rfl, [c, v, s], _, rfl, rfl, o3, hit_cpk m c v s, ?_⟩
  repeat walk_at "t3"
  refine w_lst ?_
  repeat walk_at "t3"
  refine r3_add_ll .fz .fz (Nat.le_of_ble_eq_true rfl) ?_
  repeat walk_at "t3"
  show W3s B _ _ [some (.ref A.b), some (.ref L.o), some (.ref pn), some (.str c), some (.str v), some (.str s), some (.lst ((asks c v s).map (askD m))), none, none, none, none] M
  refine s_for (i_list ?_)
  repeat walk_at "t3"
  refine ⟨fun i σ' M' => ∃ b7 b8 b9 b10 : Option D, σ' = [some (.ref A.b), some (.ref L.o), some (.ref pn), some (.str c), some (.str v), some (.str s), some (.lst ((asks c v s).map (askD m))), b7, b8, b9, b10] ∧ M = M', fun _ _ _ _ => trivial, ⟨_, _, _, _, rfl, rfl⟩, ?_, ?_⟩
  · rintro i d σ' M' hi ⟨b7, b8, b9, b10, rfl, rfl⟩
    obtain ⟨a, ha, rfl⟩ := map_at hi
    have oka : okO a.1 ∧ okO a.2.1 ∧ okO a.2.2 := by
      have n0 : okO none := fun _ h => by cases h
      have n1 : okO (some c) := fun _ h => by cases h; exact okc
      have n2 : okO (some v) := fun _ h => by cases h; exact okv
      have n3 : okO (some s) := fun _ h => by cases h; exact oks
      have hm : a ∈ asks c v s := List.mem_of_getElem? ha
      simp only [asks, List.mem_cons, List.not_mem_nil, or_false] at hm
      rcases hm with rfl | rfl | rfl | rfl | rfl | rfl | rfl | rfl
      · exact ⟨n0, n0, n0⟩
      · exact ⟨n1, n0, n0⟩
      · exact ⟨n0, n2, n0⟩
      · exact ⟨n0, n0, n3⟩
      · exact ⟨n1, n2, n0⟩
      · exact ⟨n1, n0, n3⟩
      · exact ⟨n0, n2, n3⟩
      · exact ⟨n1, n2, n3⟩
    unfold askD
    repeat walk_at "t3"
    refine r3_ix_l .fz (at3 (j := 0) (by omega) (v := oD a.1) rfl) ?_
    repeat walk_at "t3"
    refine r3_ix_l .fz (at3 (j := 1) (by omega) (v := oD a.2.1) rfl) ?_
    repeat walk_at "t3"
    refine r3_ix_l .fz (at3 (j := 2) (by omega) (v := oD a.2.2) rfl) ?_
    repeat walk_at "t3"
    refine ⟨L, m, fs, a.1, a.2.1, a.2.2, rfl, lm, g, oka.1, oka.2.1, oka.2.2, ?_⟩
    have hsel : ∀ d ∈ selN (mtB m a.1 a.2.1 a.2.2) m.dips m.dips.length, ∃ i : Nat, d = .int i := fun d hd => selN_int hd
    have hlen := selN_len (mtB m a.1 a.2.1 a.2.2) m.dips m.dips.length
    generalize selN (mtB m a.1 a.2.1 a.2.2) m.dips m.dips.length = X at hsel hlen ⊢
    repeat walk_at "t3"
    refine w_orTP (a := false) (b := false) ?_ (fun _ => w_orTP (a := false) (b := false) ?_ (fun _ => ?_) ⟨rfl, rfl⟩) ?_
    · repeat walk_at "t3"
      refine c3_ISIl .fz T.kit_ll ?_
      exact ⟨_, rfl, rfl, rfl⟩
    · repeat walk_at "t3"
      refine r3_neO_rfl .fz .fz (n := 1) (okDs_iff.mpr fun d hd => ?_) (by decide) ?_
      · obtain ⟨i, rfl⟩ := hsel d hd
        exact okD_int
      exact ⟨_, rfl, rfl, rfl⟩
    · repeat walk_at "t3"
      refine w_lcP (fun _ => true) (fun _ => .bl true) own_name (i_list ?_)
      repeat walk_at "t3"
      refine ⟨by omega, trivial, ?_, ?_⟩
      · intro i d M' hi hM'
        obtain ⟨j, rfl⟩ := hsel d (List.mem_of_getElem? hi)
        repeat walk_at "t3"
        refine ⟨rfl, ?_⟩
        repeat walk_at "t3"
        refine ⟨rfl, rfl, fun _ => ?_⟩
        repeat walk_at "t3"
        exact ⟨_, rfl, .inl ⟨_, rfl⟩, rfl, rfl⟩
      · have e : (X.filter fun _ => true).map (fun _ => D.bl true) = (X.map fun _ => true).map D.bl := by
          rw [List.filter_eq_self.mpr (fun _ _ => rfl), List.map_map]; rfl
        rw [e]
        repeat walk_at "t3"
        refine c3_all .fz ?_
        have e2 : (X.map fun _ => true).all id = true := by simp
        rw [e2]
        exact ⟨_, rfl, rfl, rfl⟩
    refine iteB (fun h => by cases h) (fun _ => s_next ?_)
    exact ⟨_, _, _, _, rfl, rfl⟩
  · rintro σ' M' ⟨b7, b8, b9, b10, rfl, rfl⟩
    repeat walk_at "t3"
    exact q
end
end LW
set_option Elab.async false
set_option linter.all false
set_option maxRecDepth 100000
set_option maxHeartbeats 4000000
namespace LW
open PySem L2 T3
open Evl (Ex)
local macro_rules | `(tactic| walk_at "t3") => `(tactic| first
  | (with_reducible refine s_seq ?_) | (with_reducible refine s_asg ?_) | (with_reducible refine s_if ?_) | (with_reducible refine s_ret ?_) | (with_reducible refine s_drop ?_) | (with_reducible refine s_asgG ?_) | (with_reducible refine s_retN ?_)
  | (with_reducible refine s_next ?_) | (with_reducible refine s_brk ?_) | (with_reducible refine s_cont ?_) | (with_reducible refine s_par ?_) | (with_reducible refine s_fld ?_)
  | ((with_reducible refine' w_var ?hx ?_); (case hx => exact rfl)) | (with_reducible refine w_cI ?_) | (with_reducible refine w_cB ?_) | (with_reducible refine w_cS ?_) | (with_reducible refine w_cN ?_) | (with_reducible refine w_cT ?_) | (with_reducible refine w_cR ?_)
  | (with_reducible refine w_op ?_) | (with_reducible refine w_un ?_) | (with_reducible refine w_nil ?_) | (with_reducible refine w_tup ?_) | (with_reducible refine w_cons ?_) | (with_reducible refine w_cb ?_) | (with_reducible refine w_bm0 ?_) | (with_reducible refine w_bm ?_)
  | (with_reducible refine w_test ?_) | (with_reducible refine w_B ?_) | (with_reducible refine w_notT ?_) | (with_reducible refine w_yes ?_) | (with_reducible refine w_notV ?_)
  | (with_reducible refine w_ifE ?_) | (with_reducible refine w_isN ?_) | (with_reducible refine w_notN ?_) | (with_reducible refine w_tr ?_) | (with_reducible refine w_chain ?_) | (with_reducible refine w_fld ?_) | (with_reducible refine w_sl ?_) | (with_reducible refine o_no ?_) | (with_reducible refine o_some ?_)
  | (with_reducible refine w_call0 ?_) | (with_reducible refine g_name ?_) | ((with_reducible refine' g_tup ?hx ?hy ?_); (case hx => exact rfl); (case hy => exact rfl)) | (with_reducible refine g_cons ?_) | (with_reducible refine g_nil ?_) | (with_reducible refine g_set ?_)
  | (with_reducible refine r3_add_ii ?_) | (with_reducible refine r3_sub ?_) | (with_reducible refine r3_lt ?_) | (with_reducible refine r3_le ?_) | (with_reducible refine r3_gt ?_) | (with_reducible refine r3_ge ?_) | (with_reducible refine u3_neg ?_)
  | (with_reducible refine c3_int_i ?_) | (with_reducible refine c3_int_b ?_) | (with_reducible refine c3_abs ?_) | (with_reducible refine c3_len_t ?_) | (with_reducible refine c3_len .fz ?_) | (with_reducible refine c3_max2 ?_) | (with_reducible refine c3_min2 ?_)
  | (with_reducible refine r3_eq (n := 9) (m := 9) okD_int okD_int ?_) | (with_reducible refine r3_ne (n := 9) (m := 9) okD_int okD_int ?_)
  | ((with_reducible refine' Exists.intro _ (And.intro ?hx ?_)); (case hx => exact rfl))
  | ((with_reducible refine' And.intro ?hx ?_); (case hx => (show List.length _ ≤ 100000); exact Nat.le_of_ble_eq_true rfl))
  | (with_reducible refine c3_lenL (c3_len_t ?_)) | (with_reducible refine c3_lenL (c3_len .fz ?_)))

section
variable {P : Program} {w : World} {K : PySem.W.Frag} {mg : Str → Option Value} {base : Heap} {A0 : Adr}

set_option pp.maxSteps 2000
structure STP (C : Addr) (A : BA) (a : Addr) (L : LA) (m : BM) (db dl : List (Str × Str)) (pn : Addr) (X : DO) (M' : Mem) : Prop where
  ex : ∃ M0, M' = bookM C M0 A { m with dips := db } ∧ LM M0 L { m with dips := dl } ∧ Src M0 a L ∧ M0 pn = some X
structure ST (C : Addr) (A : BA) (a : Addr) (L : LA) (m : BM) (ds : List (Str × Str)) (M' : Mem) : Prop where
  ex : ∃ M0, M' = bookM C M0 A { m with dips := ds } ∧ LM M0 L { m with dips := ds } ∧ Src M0 a L
theorem ST.lm {C : Addr} {A : BA} {a : Addr} {L : LA} {m : BM} {ds : List (Str × Str)} {M' : Mem} (h : ST C A a L m ds M') (s : Offs A L) : LM M' L { m with dips := ds } := by
  obtain ⟨M0, rfl, lm, _⟩ := h.ex
  exact lm.bk s
theorem ST.src {C : Addr} {A : BA} {a : Addr} {L : LA} {m : BM} {ds : List (Str × Str)} {M' : Mem} (h : ST C A a L m ds M') (s : Off A a) : ∃ o, M' a = some o ∧ IsSrc o ∧ ∀ o', IsSrc o' → ST C A a L m ds (mput M' a o') := by
  obtain ⟨M0, rfl, lm, sr⟩ := h.ex
  obtain ⟨o, h1, h2⟩ := sr.1
  exact ⟨o, by rw [bk_off s]; exact h1, h2, fun o' ho' => ⟨_, bk_mput s, lm.off sr.2, sr.draw ho'⟩⟩
structure SN (A : BA) (a pn : Addr) (L : LA) : Prop where
  offa : Off A a
  offs : Offs A L
  offp : Off A pn
  pL : pn ∉ L.all
  pa : pn ≠ a
section
variable {C : Addr} {A : BA} {a pn : Addr} {L : LA} {m : BM} {db dl : List (Str × Str)} {X : DO} {M' : Mem}
theorem STP.lm (h : STP C A a L m db dl pn X M') (s : SN A a pn L) : LM M' L { m with dips := dl } := by
  obtain ⟨M0, rfl, lm, _, _⟩ := h.ex
  exact lm.bk s.offs
theorem STP.src (h : STP C A a L m db dl pn X M') (s : SN A a pn L) : ∃ o, M' a = some o ∧ IsSrc o ∧ ∀ o', IsSrc o' → STP C A a L m db dl pn X (mput M' a o') := by
  obtain ⟨M0, rfl, lm, sr, hp⟩ := h.ex
  obtain ⟨o, h1, h2⟩ := sr.1
  exact ⟨o, by rw [bk_off s.offa]; exact h1, h2, fun o' ho' => ⟨_, bk_mput s.offa, lm.off sr.2, sr.draw ho', by rw [mput_ne s.pa]; exact hp⟩⟩
theorem STP.get (h : STP C A a L m db dl pn X M') (s : SN A a pn L) : M' pn = some X := by
  obtain ⟨M0, rfl, lm, sr, hp⟩ := h.ex
  rw [bk_off s.offp]; exact hp
theorem STP.put (h : STP C A a L m db dl pn X M') (s : SN A a pn L) (Y : DO) : STP C A a L m db dl pn Y (mput M' pn Y) := by
  obtain ⟨M0, rfl, lm, sr, hp⟩ := h.ex
  exact ⟨_, bk_mput s.offp, lm.off s.pL, sr.put s.pa, mput_same⟩
theorem STP.putD (h : STP C A a L m db dl pn X M') (s : SN A a pn L) (dl' : List (Str × Str)) : STP C A a L m db dl' pn X (mput M' L.d (.lst (dl'.map wD))) := by
  obtain ⟨M0, rfl, lm, sr, hp⟩ := h.ex
  have hd : L.d ∈ L.all := (LM.in L).2.2.2.2.2.1
  exact ⟨_, bk_mput (s.offs _ hd), lm.putD dl', sr.put (sr.ne hd), by rw [mput_ne fun e => s.pL (by rw [e]; exact hd)]; exact hp⟩
end
theorem STP.of {C : Addr} {A : BA} {a p : Addr} {L : LA} {m : BM} {ds : List (Str × Str)} {M' : Mem} {X : DO} (h : ST C A a L m ds M') (ob : BOk A) (offa : Off A a) (offs : Offs A L) (hp : M' p = none) : STP C A a L m ds ds p X (mput M' p X) ∧ SN A a p L := by
  obtain ⟨M0, rfl, lm, sr⟩ := h.ex
  obtain ⟨off, hp0⟩ := off_of ob hp
  have hpa : p ≠ a := fun e => by obtain ⟨⟨x, hx, _⟩, _⟩ := sr; rw [e, hx] at hp0; cases hp0
  exact ⟨⟨_, bk_mput off, lm.new hp0, sr.put hpa, mput_same⟩, offa, offs, off, lm.fresh hp0, hpa⟩
/-- where, its answer a list of the caller's own -/
theorem w_whereO {B : Hp} {A0 : Adr} {M0 M : Mem} {A : BA} {m : BM} {ks : List Str} {ta : TE} {tk : TA} {σ : Sig} {Q : DQ} {W : WX} {EW : EW3} (hM : M = bookM A0.f_Book M0 A m) (ob : BOk A) (wf : WF m) (w2 : WF2 m) (hW : ImpW B EW W) (hk : ks.length ≤ 3) (hks : ∀ k ∈ ks, k ∈ WNAMES)
    (h : W3e B ta σ M (fun x M1 => x = .ref A.b ∧ M = M1 ∧ W3a B tk σ M (fun es M3 => M = M3 ∧ ∃ (txs : List Str) (f : Str × Str → Bool), es = txs.map D.str ∧ txs.length = ks.length ∧ (∀ t ∈ txs, okT t) ∧ hitB m (ks.zip txs) = f ∧ ∀ p, M p = none → Q (.ref p) (mput M p (.lst (selN f m.dips m.dips.length)))))) :
    W3e B (tMethKw A0.f_Book "where" ks (lift3 (S_where A0)) (WE W) ta tk) σ M Q := by
  refine w_vs (w_methKw hW (h.to fun x M1 ⟨e1, e2, h2⟩ => ?_))
  subst e1 e2
  refine ⟨bookF A m, .inr ⟨A.b, rfl, by rw [hM]; exact bk_b⟩, rfl, w3a_to h2 fun es M3 ⟨e3, txs, f, e4, hl, okx, hf, q⟩ => ?_⟩
  subst e3 e4 hf
  refine ⟨txs, rfl, hl, fun d o hd => ?_⟩
  subst hM
  obtain ⟨off, hd0⟩ := off_of ob hd
  have hb : badK (ks.zip txs) = none := badK_none fun r hr => hks _ (List.of_mem_zip hr).1
  refine ⟨mput M0 d (kwO o (ks.zip txs)), A, m, ks.zip txs, d, o, rfl, bk_mput off, ob, off, mput_same, wf, w2, by rw [List.length_zip]; omega, fun r hr => ⟨okT_W _ (hks _ (List.of_mem_zip hr).1), okx _ (List.of_mem_zip hr).2⟩, fun k e => (by rw [hb] at e; cases e), fun _ p hp => ?_⟩
  have hp2 : p ≠ d := fun e => by rw [e, mput_same] at hp; cases hp
  have hp1 : bookM A0.f_Book M0 A m p = none := by rw [mput_ne hp2] at hp; exact hp
  refine ⟨_, _, vs_less (M' := mput (bookM A0.f_Book M0 A m) p (.lst (selN (hitB m (ks.zip txs)) m.dips m.dips.length))) fun a o' ha => ?_, q p hp1⟩
  by_cases h1 : a = p
  · rw [h1, mput_same] at ha ⊢
    exact ha
  · rw [mput_ne h1] at ha ⊢
    rw [mput_ne fun e => by rw [e, hd] at ha; cases ha]
    exact ha
def S_law (K : PySem.W.Frag) : Hp → Sp3 := fun F ds M Q _ => ∃ (a : Addr) (ns : List Int), ds = [.ref a] ∧ SqL K F a (ns.map V.int) ∧ ns.length ≤ 63 ∧ M = (fun _ => none) ∧ ∀ M', Q (.bl true) M'
theorem ok_law (T : Tx P K mg A0) : FnOk P w K mg base CX0 12 A0.f_law A0.d_law ["_law_script"] (lift3B (S_law K)) := by
  refine T.F_law.ok sc_law (lift3B_len fun F ds M Q E ⟨a, b, h, _⟩ => by rw [h]; rfl) (fun cdv A outer st0 H vs Q E hr h => ?_)
  have hu := hr.units
  have hu5 := units65 hr
  refine ⟨_, (pss_cons (ps_set (i := 1) sc_law.nd (by rfl) (Or.inl (by rfl)) (pe_call (ok_source T) (hr.mono (by decide)) (by rfl) T.g_source T.k_source T.b_source .nil pass0 (pa_cons (pv 0) pa_nil)))
  (pss_cons (ps_set (i := 2) sc_law.nd (by rfl) (Or.inl (by rfl)) (pe_call (ok_model T) (hr.mono (by decide)) (by rfl) T.g_model T.k_model T.b_model .nil pass0 (pa_cons (pv 1) (pa_cons pe_int pa_nil))))
  (pss_cons (ps_set (i := 3) sc_law.nd (by rfl) (Or.inl (by rfl)) (pe_call (ok_build T) (hr.mono (by decide)) (by rfl) T.g_build T.k_build T.b_build .nil pass0 (pa_cons (pv 2) pa_nil)))
  (pss_cons (ps_set (i := 4) sc_law.nd (by rfl) (Or.inl (by rfl)) (pe_op op_ADD pe_str (pe_bm PySem.F.plainAttrs_str PySem.F.slot_str_join PySem.F.type_str_join mt_JOIN pe_str (pa_cons (pe_op op_ADD (pe_lc (own := [("_law_row", 12)]) (g := (gName 12)) (by rfl) sc_law.nd (pi_list (pe_op op_ADD (pe_ix (ix_seqK K rfl) (pv 2) pe_int (fun _ _ => by rfl)) (pe_ix (ix_seqK K rfl) (pv 2) pe_int (fun _ _ => by rfl)))) (blkOk_by (N := ["_law_script", "_law_source_here", "_law_model_here", "_law_book", "_law_strange", "_law_k", "_law_names_here", "_law_place", "_law_name_here", "_law_near", "_law_dip", "_law_answer", "_law_row"]) (sc := defScope s_law) (own := [("_law_row", 12)]) (by decide +kernel)) (fun _ _ _ _ _ => (pg_name (i := 12) sc_law.nd (by rfl) (Or.inl (by rfl)))) (fun _ _ _ _ _ => pts_nil) (fun _ _ _ _ _ => (pe_ix (ix_seqK K rfl) (pv 12) pe_int (fun _ _ => by rfl)))) (pe_ix (ix_seqK K rfl) (pv 2) pe_int (fun _ _ => by rfl))) pa_nil))))
  (pss_cons (ps_for PassesOwn.never (by rfl) (pi_range1 (by rfl) T.n_range (pa_cons pe_int pa_nil)) (pg_name (i := 5) sc_law.nd (by rfl) (Or.inl (by rfl))) (pss_cons (ps_set (i := 6) sc_law.nd (by rfl) (Or.inl (by rfl)) (pe_lst (pa_cons (pe_ix (ix_seqK K rfl) (pe_ix (ix_seqK K rfl) (pe_ix (ix_seqK K rfl) (pv 2) pe_int (fun _ _ => by rfl)) (pe_op op_modN (pe_op op_ADD (pe_call (ok_draw T) (hr.mono (by decide)) (by rfl) T.g_draw T.k_draw T.b_draw .nil pass0 (pa_cons (pv 1) (pa_cons (pe_callB (call_lenDK K rfl) (by rfl) T.n_len PySem.boot_len (pa_cons (pe_ix (ix_seqK K rfl) (pv 2) pe_int (fun _ _ => by rfl)) pa_nil)) pa_nil))) (pv 5)) (pe_callB (call_lenDK K rfl) (by rfl) T.n_len PySem.boot_len (pa_cons (pe_ix (ix_seqK K rfl) (pv 2) pe_int (fun _ _ => by rfl)) pa_nil))) (fun _ _ => by rfl)) pe_int (fun _ _ => by rfl)) pa_nil)))
  (pss_cons (ps_expr (pe_bm PySem.F.plainAttrs_list PySem.F.slot_list_append PySem.F.type_list_append mt_append (pv 6) (pa_cons (pe_ix (ix_seqK K rfl) (pe_ix (ix_seqK K rfl) (pv 2) pe_int (fun _ _ => by rfl)) (pe_call (ok_draw T) (hr.mono (by decide)) (by rfl) T.g_draw T.k_draw T.b_draw .nil pass0 (pa_cons (pv 1) (pa_cons (pe_callB (call_lenDK K rfl) (by rfl) T.n_len PySem.boot_len (pa_cons (pe_ix (ix_seqK K rfl) (pv 2) pe_int (fun _ _ => by rfl)) pa_nil)) pa_nil))) (fun _ _ => by rfl)) pa_nil)))
  (pss_cons (ps_expr (pe_bm PySem.F.plainAttrs_list PySem.F.slot_list_append PySem.F.type_list_append mt_append (pv 6) (pa_cons (pe_ix (ix_seqK K rfl) (pe_ix (ix_seqK K rfl) (pe_ix (ix_seqK K rfl) (pv 2) pe_int (fun _ _ => by rfl)) (pe_call (ok_draw T) (hr.mono (by decide)) (by rfl) T.g_draw T.k_draw T.b_draw .nil pass0 (pa_cons (pv 1) (pa_cons (pe_callB (call_lenDK K rfl) (by rfl) T.n_len PySem.boot_len (pa_cons (pe_ix (ix_seqK K rfl) (pv 2) pe_int (fun _ _ => by rfl)) pa_nil)) pa_nil))) (fun _ _ => by rfl)) pe_int (fun _ _ => by rfl)) pa_nil)))
  (pss_cons (ps_if (pt_cmpR (op_eqDK K rfl hu) (pe_call (ok_draw T) (hr.mono (by decide)) (by rfl) T.g_draw T.k_draw T.b_draw .nil pass0 (pa_cons (pv 1) (pa_cons pe_int pa_nil))) pe_int (nomark _)) (pss_one (ps_asg (pe_call (ok_sort T) (hr.mono (by decide)) (by rfl) T.g_sort T.k_sort T.b_sort .nil pass0 (pa_cons (pv 2) (pa_cons (pe_ix (ix_seqK K rfl) (pv 6) pe_int (fun _ _ => by rfl)) pa_nil))) (pg_sub (pv 6) pe_int set_list))) pss_nil)
  (pss_cons (ps_if (pt_cmpR (op_eqDK K rfl hu) (pe_call (ok_draw T) (hr.mono (by decide)) (by rfl) T.g_draw T.k_draw T.b_draw .nil pass0 (pa_cons (pv 1) (pa_cons pe_int pa_nil))) pe_int (nomark _)) (pss_cons (ps_set (i := 7) sc_law.nd (by rfl) (Or.inl (by rfl)) (pe_call (ok_draw T) (hr.mono (by decide)) (by rfl) T.g_draw T.k_draw T.b_draw .nil pass0 (pa_cons (pv 1) (pa_cons pe_int pa_nil))))
  (pss_cons (ps_set (i := 8) sc_law.nd (by rfl) (Or.inl (by rfl)) (pe_ix (ix_seqK K rfl) (pv 6) (pv 7) (fun _ _ => by rfl)))
  (pss_cons (ps_set (i := 9) sc_law.nd (by rfl) (Or.inl (by rfl)) (pe_lst (pa_cons (pv 4) (pa_cons (pe_op op_ADD (pv 8) pe_str) (pa_cons (pe_op op_ADD pe_str (pv 8)) (pa_cons (pe_bm0 PySem.F.plainAttrs_str PySem.F.slot_str_upper PySem.F.type_str_upper mt_UP (pv 8)) (pa_cons (pe_slice (sl_SLTK K rfl) (pv 8) po_none (po_some (pe_un un_neg pe_int))) (pa_cons (pe_op op_ADD (pv 8) pe_str) (pa_cons pe_str (pa_cons (pe_ix (ix_seqK K rfl) (pv 6) (pe_op op_sub (pv 7) pe_int) (fun _ _ => by rfl)) pa_nil))))))))))
  (pss_one (ps_asg (pe_ix (ix_seqK K rfl) (pv 9) (pe_call (ok_draw T) (hr.mono (by decide)) (by rfl) T.g_draw T.k_draw T.b_draw .nil pass0 (pa_cons (pv 1) (pa_cons pe_int pa_nil))) (fun _ _ => by rfl)) (pg_sub (pv 6) (pv 7) set_list)))))) pss_nil)
  (pss_cons (ps_if (PW.pt (pw_or (pt_not (pt_truthK K rfl (pe_call (ok_good T) (hr.mono (by decide)) (by rfl) T.g_good T.k_good T.b_good .nil pass0 (pa_cons (pv 3) (pa_cons (pv 2) (pa_cons (pv 6) pa_nil)))) (by intro _; rfl))) (pw_or1 (pt_not (pt_truthK K rfl (pe_call (ok_refused T) (hr.mono (by decide)) (by rfl) T.g_refused T.k_refused T.b_refused .nil pass0 (pa_cons (pv 3) (pa_cons (pv 5) (pa_cons (pe_ix (ix_seqK K rfl) (pv 6) pe_int (fun _ _ => by rfl)) pa_nil)))) (by intro _; rfl)))))) (pss_one (ps_ret pe_bl)) pss_nil)
  (pss_cons (ps_set (i := 10) sc_law.nd (by rfl) (Or.inl (by rfl)) (pe_tup (pa_cons (pe_ix (ix_seqK K rfl) (pe_ix (ix_seqK K rfl) (pe_ix (ix_seqK K rfl) (pv 2) pe_int (fun _ _ => by rfl)) (pe_call (ok_draw T) (hr.mono (by decide)) (by rfl) T.g_draw T.k_draw T.b_draw .nil pass0 (pa_cons (pv 1) (pa_cons (pe_callB (call_lenDK K rfl) (by rfl) T.n_len PySem.boot_len (pa_cons (pe_ix (ix_seqK K rfl) (pv 2) pe_int (fun _ _ => by rfl)) pa_nil)) pa_nil))) (fun _ _ => by rfl)) pe_int (fun _ _ => by rfl)) (pa_cons (pe_ix (ix_seqK K rfl) (pe_ix (ix_seqK K rfl) (pv 2) pe_int (fun _ _ => by rfl)) (pe_call (ok_draw T) (hr.mono (by decide)) (by rfl) T.g_draw T.k_draw T.b_draw .nil pass0 (pa_cons (pv 1) (pa_cons (pe_callB (call_lenDK K rfl) (by rfl) T.n_len PySem.boot_len (pa_cons (pe_ix (ix_seqK K rfl) (pv 2) pe_int (fun _ _ => by rfl)) pa_nil)) pa_nil))) (fun _ _ => by rfl)) pa_nil))))
  (pss_cons (ps_expr (pe_bm PySem.F.plainAttrs_list PySem.F.slot_list_append PySem.F.type_list_append mt_append (pe_ix (ix_seqK K rfl) (pv 2) pe_int (fun _ _ => by rfl)) (pa_cons (pv 10) pa_nil)))
  (pss_cons (ps_expr (pe_meth (pv 3) T.cl_Book T.m_Book_dip (ok_Book_dip T) (hr.mono (by decide)) T.b_Book_dip .nil passL (pa_cons (pe_ix (ix_seqK K rfl) (pv 10) pe_int (fun _ _ => by rfl)) (pa_cons (pe_ix (ix_seqK K rfl) (pv 10) pe_int (fun _ _ => by rfl)) pa_nil))))
  (pss_cons (ps_set (i := 11) sc_law.nd (by rfl) (Or.inl (by rfl)) (pe_methKw (pv 3) T.cl_Book T.m_Book_where (ok_Book_where T T.kw_where) (hr.mono (by decide)) (passes_at passL) pk_nil))
  (pss_cons (ps_expr (pe_bm PySem.F.plainAttrs_list PySem.F.slot_list_append PySem.F.type_list_append mt_append (pv 11) (pa_cons pe_int pa_nil)))
  (pss_one (ps_if (pt_not (pt_truthK K rfl (pe_call (ok_good T) (hr.mono (by decide)) (by rfl) T.g_good T.k_good T.b_good .nil pass0 (pa_cons (pv 3) (pa_cons (pv 2) (pa_cons (pv 6) pa_nil)))) (by intro _; rfl))) (pss_one (ps_ret pe_bl)) pss_nil))))))))))))))
  (pss_one (ps_ret pe_bl))))))), run3B h fun B ds M Q3 E3 hs hE => ?_⟩
  obtain ⟨sa, ns, rfl, hS, hl, rfl, q⟩ := hs
  change W3s B _ _ [some (.ref sa), none, none, none, none, none, none, none, none, none, none, none, none] _
  try dsimp only [cxOf, Cx.nox, Cx.wish]
  repeat walk_at "t3"
  refine w_callB0 source_mono ?_
  repeat walk_at "t3"
  refine ⟨sa, ns, rfl, hS, hl, fun a o _ ho => ?_⟩
  repeat walk_at "t3"
  refine ⟨a, o, 14, rfl, mput_same, ho, by decide, fun M1 L m g hk0 hp0 hc0 d14 _ lm sr => ?_⟩
  clear ho o
  have lmap : ∀ l : List (Str × Str), (l.map wD).length = l.length := fun l => List.length_map _
  have hpos : 0 < m.pots.length := List.length_pos_iff.mpr hp0
  have hcos : 0 < m.cloths.length := List.length_pos_iff.mpr hc0
  have hkos : 0 < m.kinds.length := List.length_pos_iff.mpr hk0
  have hp8 := g.p8
  have hc8 := g.c8
  have hk8 := g.k8
  have h24 := g.d24
  repeat walk_at "t3"
  refine ⟨L, m, [], rfl, lm, g, fun A ob fr => ?_⟩
  have offa : Off A a := by obtain ⟨⟨x, hx, _⟩, _⟩ := sr; exact off_of_some fr hx
  have offs : Offs A L := lm.offs fr
  have st0 : ∃ M0, bookM A0.f_Book M1 A m = bookM A0.f_Book M0 A { m with dips := m.dips } ∧ LM M0 L { m with dips := m.dips } ∧ Src M0 a L := ⟨M1, rfl, lm, sr⟩
  have lmB := lm.bk (C := A0.f_Book) (mb := m) offs
  generalize bookM A0.f_Book M1 A m = M3 at st0 lmB ⊢
  clear fr lm sr
  have gall : ∀ s ∈ names m.kinds ++ names m.cloths ++ m.pots, goodS s = true := fun s hs => by
    rcases List.mem_append.mp hs with hs | hs
    · rcases List.mem_append.mp hs with hs | hs
      · exact g.name hs
      · exact g.cname hs
    · exact g.pg s hs
  have lnc : (names m.cloths).length = m.cloths.length := List.length_map _
  have lnk : (names m.kinds).length = m.kinds.length := List.length_map _
  have lall : (names m.kinds ++ names m.cloths ++ m.pots).length ≤ 1000 := by rw [List.length_append, List.length_append]; omega
  have stg := strange_of gall lall
  have jf := join_few gall lall
  repeat walk_at "t3"
  refine ⟨.txt, ?_⟩
  repeat walk_at "t3"
  refine w_lcP (fun _ => true) (fun d => match d with | .tup [.str s, _] => .str s | d => d) own_name (i_list ?_)
  repeat walk_at "t3"
  refine r3_m0 lmB ?_
  repeat walk_at "t3"
  refine r3_m3 lmB ?_
  refine r3_add_ll (.ow lmB.k) (.ow lmB.c) (by rw [lmap, lmap]; omega) ?_
  refine ⟨_, rfl, by rw [List.length_append, lmap, lmap]; omega, trivial, ?_, ?_⟩
  · intro i d M' hi hM'
    rw [← List.map_append] at hi
    obtain ⟨x, hx, rfl⟩ := map_at hi
    repeat walk_at "t3"
    refine ⟨rfl, ?_⟩
    repeat walk_at "t3"
    refine ⟨rfl, rfl, fun _ => ?_⟩
    repeat walk_at "t3"
    exact r3_ix_t (at3 (j := 0) (by omega) (v := .str x.1) rfl) ⟨rfl, rfl⟩
  have e : ((m.kinds.map wD ++ m.cloths.map wD).filter (fun _ => true)).map (fun d => match d with | .tup [.str s, _] => D.str s | d => d) = (names m.kinds ++ names m.cloths).map D.str := by
    rw [List.filter_eq_self.mpr fun _ _ => rfl, ← List.map_append, List.map_map, List.map_append, List.map_append, names_map, names_map]; rfl
  rw [e]
  repeat walk_at "t3"
  refine r3_m2 lmB ?_
  refine r3_add_ll .fz (.ow lmB.p) (by simp; omega) ?_
  rw [← List.map_append]
  repeat walk_at "t3"
  refine m3_join .fz jf.1 ?_
  repeat walk_at "t3"
  refine r3_add_ss jf.2 ?_
  have okg : okT ("z" ++ Txt.join "" (names m.kinds ++ names m.cloths ++ m.pots)) := okT_app (by unfold okT; decide +kernel) (okT_join okT0 fun s hs => good_okT (gall s hs))
  generalize ("z" : Str) ++ Txt.join "" (names m.kinds ++ names m.cloths ++ m.pots) = sg at stg okg ⊢
  clear lmB e
  have st0 : ST A0.f_Book A a L m m.dips M3 := ⟨st0⟩
  repeat walk_at "t3"
  refine s_for (i_rng1 ?_)
  repeat walk_at "t3"
  refine ⟨by decide, by decide, fun i σ' M' => ∃ (b5 b6 b7 b8 b9 b10 b11 : Option D) (ds : List (Str × Str)), GM { m with dips := ds } [] ∧ ds.length ≤ 14 + i ∧ ST A0.f_Book A a L m ds M' ∧ σ' = [some (.ref sa), some (.ref a), some (.ref L.o), some (.ref A.b), some (.str sg), b5, b6, b7, b8, b9, b10, b11, none], fun _ _ _ _ => trivial, ⟨_, _, _, _, _, _, _, m.dips, g, d14, st0, rfl⟩, ?_, ?_⟩
  · clear st0
    rintro i d σ' M' hi ⟨b5, b6, b7, b8, b9, b10, b11, ds, gd, ld, st, rfl⟩
    obtain ⟨hlt, rfl⟩ := nat_at' (n := 3) hi
    repeat walk_at "t3"
    refine w_lstO ?_
    repeat walk_at "t3"
    refine r3_m3 (st.lm offs) ?_
    repeat walk_at "t3"
    refine r3_m3 (st.lm offs) ?_
    repeat walk_at "t3"
    refine c3_lenL (c3_len (.ow (st.lm offs).c) ?_)
    rw [lmap]
    repeat walk_at "t3"
    obtain ⟨o3, h3, ho3, st3⟩ := st.src offa
    refine ⟨a, _, o3, rfl, h3, ho3, by show (0 : Int) < (m.cloths.length : Int); omega, by show ((m.cloths.length : Nat) : Int) < _; omega, fun r5 o5 r50 r51 ho5 => ?_⟩
    have st := st3 o5 ho5
    clear st3 h3 ho3
    generalize mput M' a o5 = M5 at st ⊢
    repeat walk_at "t3"
    refine r3_m3 (st.lm offs) ?_
    repeat walk_at "t3"
    refine c3_lenL (c3_len (.ow (st.lm offs).c) ?_)
    rw [lmap]
    repeat walk_at "t3"
    have hcl : (0 : Int) < (m.cloths.length : Int) := by omega
    refine r3_mod hcl ?_
    have hm0 := Int.emod_nonneg (r5 + (i : Int)) (show ((m.cloths.length : Nat) : Int) ≠ 0 by omega)
    have hm1 := Int.emod_lt_of_pos (r5 + (i : Int)) hcl
    obtain ⟨c, hcm, hcd⟩ := pick (l := m.cloths) hm0 (by rw [lmap]; exact hm1)
    refine r3_ix_l (.ow (st.lm offs).c) (at3 (j := ((r5 + (i : Int)) % (m.cloths.length : Int)).toNat) (Int.toNat_of_nonneg hm0).symm hcd) ?_
    repeat walk_at "t3"
    refine r3_ix_t (at3 (j := 0) (by omega) (v := .str c.1) rfl) ?_
    repeat walk_at "t3"
    intro pn hpn
    obtain ⟨st, sn⟩ := STP.of (X := .lst [.str c.1]) st ob offa offs hpn
    generalize mput M5 pn (.lst [.str c.1]) = M6 at st ⊢
    have hc : c.1 ∈ names m.cloths := in_names hcm
    repeat walk_at "t3"
    refine ⟨.lo (st.get sn), ?_⟩
    repeat walk_at "t3"
    refine r3_m2 (st.lm sn) ?_
    repeat walk_at "t3"
    refine r3_m2 (st.lm sn) ?_
    repeat walk_at "t3"
    refine c3_lenL (c3_len (.ow (st.lm sn).p) ?_)
    rw [show (List.map D.str ({ m with dips := ds } : BM).pots).length = m.pots.length from List.length_map _]
    repeat walk_at "t3"
    obtain ⟨o3, h3, ho3, st3⟩ := st.src sn
    refine ⟨a, _, o3, rfl, h3, ho3, by show (0 : Int) < (m.pots.length : Int); omega, by show ((m.pots.length : Nat) : Int) < _; omega, fun rp o5 rp0 rp1 ho5 => ?_⟩
    have st := st3 o5 ho5
    clear st3 h3 ho3
    generalize mput M6 a o5 = M7 at st ⊢
    obtain ⟨pp, hpm, hpd⟩ := pickS (l := m.pots) rp0 (by rw [List.length_map]; exact rp1)
    refine r3_ix_l (.ow (st.lm sn).p) (at3 (j := rp.toNat) (Int.toNat_of_nonneg rp0).symm hpd) ?_
    repeat walk_at "t3"
    refine m3_append (st.get sn) (Nat.le_of_ble_eq_true rfl) ?_
    have st := st.put sn (.lst ([.str c.1] ++ [.str pp]))
    generalize mput M7 pn (.lst ([.str c.1] ++ [.str pp])) = M8 at st ⊢
    repeat walk_at "t3"
    refine ⟨.lo (st.get sn), ?_⟩
    repeat walk_at "t3"
    refine r3_m0 (st.lm sn) ?_
    repeat walk_at "t3"
    refine r3_m0 (st.lm sn) ?_
    repeat walk_at "t3"
    refine c3_lenL (c3_len (.ow (st.lm sn).k) ?_)
    rw [lmap]
    repeat walk_at "t3"
    obtain ⟨o3, h3, ho3, st3⟩ := st.src sn
    refine ⟨a, _, o3, rfl, h3, ho3, by show (0 : Int) < (m.kinds.length : Int); omega, by show ((m.kinds.length : Nat) : Int) < _; omega, fun rk o5 rk0 rk1 ho5 => ?_⟩
    have st := st3 o5 ho5
    clear st3 h3 ho3
    generalize mput M8 a o5 = M9 at st ⊢
    obtain ⟨kk, hkm, hkd⟩ := pick (l := m.kinds) rk0 (by rw [lmap]; exact rk1)
    refine r3_ix_l (.ow (st.lm sn).k) (at3 (j := rk.toNat) (Int.toNat_of_nonneg rk0).symm hkd) ?_
    repeat walk_at "t3"
    refine r3_ix_t (at3 (j := 0) (by omega) (v := .str kk.1) rfl) ?_
    repeat walk_at "t3"
    refine m3_append (st.get sn) (Nat.le_of_ble_eq_true rfl) ?_
    have st := st.put sn (.lst [.str c.1, .str pp, .str kk.1])
    show W3s B _ _ _ (mput M9 pn (.lst [.str c.1, .str pp, .str kk.1]))
    generalize mput M9 pn (.lst [.str c.1, .str pp, .str kk.1]) = M10 at st ⊢
    have gc := g.cname hc
    have gp := g.pg pp hpm
    have gk := g.name (in_names hkm)
    show W3s B _ _ [some (.ref sa), some (.ref a), some (.ref L.o), some (.ref A.b), some (.str sg), some (.int i), some (.ref pn), b7, b8, b9, b10, b11, none] _
    refine s_seqM (fun σ' M' => ∃ ks, goodS ks = true ∧ STP A0.f_Book A a L m ds ds pn (.lst [.str c.1, .str pp, .str ks]) M' ∧ σ' = [some (.ref sa), some (.ref a), some (.ref L.o), some (.ref A.b), some (.str sg), some (.int i), some (.ref pn), b7, b8, b9, b10, b11, none]) ?_ ?_
    · repeat walk_at "t3"
      obtain ⟨o3, h3, ho3, st3⟩ := st.src sn
      refine ⟨a, _, o3, rfl, h3, ho3, by decide, by decide, fun r o5 r0 r1 ho5 => ?_⟩
      have st := st3 o5 ho5
      clear st3 h3 ho3
      generalize mput M10 a o5 = M11 at st ⊢
      repeat walk_at "t3"
      refine iteB (fun _ => ?_) (fun _ => s_next ⟨kk.1, gk, st, rfl⟩)
      repeat walk_at "t3"
      refine r3_ix_l (.ow (st.get sn)) (at3 (j := 0) (by omega) (v := .str c.1) rfl) ?_
      repeat walk_at "t3"
      have ck := (lookup_in (l := m.cloths) (x := c.1)).mpr hc
      obtain ⟨k2, hk2⟩ := Option.isSome_iff_exists.mp ck
      have gk2 : goodS k2 = true := gd.name (gd.cg (c.1, k2) (lookup_mem hk2)).2
      refine ⟨L, { m with dips := ds }, [], c.1, k2, rfl, st.lm sn, gd, hk2, ?_⟩
      repeat walk_at "t3"
      refine ⟨pn, _, _, 2, rfl, rfl, st.get sn, rfl, ?_⟩
      exact ⟨k2, gk2, st.put sn _, rfl⟩
    clear st
    rintro _ M11 ⟨ks, gks, st, rfl⟩
    refine s_seqM (fun σ' M' => ∃ (c' p' k' : Str) (b7 b8 b9 : Option D), okT c' ∧ okT p' ∧ okT k' ∧ STP A0.f_Book A a L m ds ds pn (.lst [.str c', .str p', .str k']) M' ∧ σ' = [some (.ref sa), some (.ref a), some (.ref L.o), some (.ref A.b), some (.str sg), some (.int i), some (.ref pn), b7, b8, b9, b10, b11, none]) ?_ ?_
    · repeat walk_at "t3"
      obtain ⟨o3, h3, ho3, st3⟩ := st.src sn
      refine ⟨a, _, o3, rfl, h3, ho3, by decide, by decide, fun r o5 r0 r1 ho5 => ?_⟩
      have st := st3 o5 ho5
      clear st3 h3 ho3
      generalize mput M11 a o5 = M12 at st ⊢
      repeat walk_at "t3"
      refine iteB (fun _ => ?_) (fun _ => s_next ⟨c.1, pp, ks, _, _, _, good_okT gc, good_okT gp, good_okT gks, st, rfl⟩)
      repeat walk_at "t3"
      obtain ⟨o3, h3, ho3, st3⟩ := st.src sn
      refine ⟨a, _, o3, rfl, h3, ho3, by decide, by decide, fun rq o5 rq0 rq1 ho5 => ?_⟩
      have st := st3 o5 ho5
      clear st3 h3 ho3
      generalize mput M12 a o5 = M13 at st ⊢
      have okc := good_okT gc
      have okp := good_okT gp
      have oks := good_okT gks
      obtain ⟨W, gW, hW⟩ : ∃ W, goodS W = true ∧ [D.str c.1, .str pp, .str ks][rq.toNat]? = some (.str W) := by
        rcases (show rq = 0 ∨ rq = 1 ∨ rq = 2 by omega) with rfl | rfl | rfl
        · exact ⟨_, gc, rfl⟩
        · exact ⟨_, gp, rfl⟩
        · exact ⟨_, gks, rfl⟩
      obtain ⟨U, okU, hU⟩ : ∃ U, okT U ∧ atI [D.str c.1, .str pp, .str ks] (rq - 1) = some (.str U) := by
        rcases (show rq = 0 ∨ rq = 1 ∨ rq = 2 by omega) with rfl | rfl | rfl
        · exact ⟨_, oks, rfl⟩
        · exact ⟨_, okc, rfl⟩
        · exact ⟨_, okp, rfl⟩
      have okW := good_okT gW
      have lW := ((goodS_iff _).mp gW).2.1
      obtain ⟨okUp, lUp⟩ := good_upper gW
      repeat walk_at "t3"
      refine r3_ix_l (.ow (st.get sn)) (at3 (j := rq.toNat) (Int.toNat_of_nonneg rq0).symm hW) ?_
      repeat walk_at "t3"
      refine w_lst ?_
      repeat walk_at "t3"
      refine r3_add_ss (by show W.length + 1 ≤ 1000000; omega) ?_
      repeat walk_at "t3"
      refine r3_add_ss (by show 1 + W.length ≤ 1000000; omega) ?_
      repeat walk_at "t3"
      refine ⟨.txt, ?_⟩
      refine m3_upper (by omega) ?_
      repeat walk_at "t3"
      refine s3_L <| s3_s (by omega) ?_
      repeat walk_at "t3"
      refine r3_add_ss (by show W.length + 1 ≤ 1000000; omega) ?_
      repeat walk_at "t3"
      refine r3_ix_l (.ow (st.get sn)) hU ?_
      repeat walk_at "t3"
      have near : ∀ r8 : Int, 0 ≤ r8 → r8 < 8 → ∃ z, okT z ∧ [D.str sg, .str (W ++ " "), .str (" " ++ W), .str (Txt.upper W), .str (cutS W none (some (-1))), .str (W ++ "\n"), .str "", .str U][r8.toNat]? = some (.str z) := by
        intro r8 h0 h1
        rcases (show r8 = 0 ∨ r8 = 1 ∨ r8 = 2 ∨ r8 = 3 ∨ r8 = 4 ∨ r8 = 5 ∨ r8 = 6 ∨ r8 = 7 by omega) with rfl | rfl | rfl | rfl | rfl | rfl | rfl | rfl
        · exact ⟨_, okg, rfl⟩
        · exact ⟨_, okT_app okW (by unfold okT; decide +kernel), rfl⟩
        · exact ⟨_, okT_app (by unfold okT; decide +kernel) okW, rfl⟩
        · exact ⟨_, okUp, rfl⟩
        · exact ⟨_, okT_cut okW, rfl⟩
        · exact ⟨_, okT_app okW (by unfold okT; decide +kernel), rfl⟩
        · exact ⟨_, okT0, rfl⟩
        · exact ⟨_, okU, rfl⟩
      obtain ⟨o3, h3, ho3, st3⟩ := st.src sn
      refine ⟨a, _, o3, rfl, h3, ho3, by decide, by decide, fun r8 o5 r80 r81 ho5 => ?_⟩
      have st := st3 o5 ho5
      clear st3 h3 ho3
      generalize mput M13 a o5 = M14 at st ⊢
      obtain ⟨z, okz, hz⟩ := near r8 r80 r81
      refine r3_ix_l .fz (at3 (j := r8.toNat) (Int.toNat_of_nonneg r80).symm hz) ?_
      repeat walk_at "t3"
      refine ⟨pn, _, _, rq.toNat, rfl, rfl, st.get sn, ?_, ?_⟩
      · rcases (show rq = 0 ∨ rq = 1 ∨ rq = 2 by omega) with rfl | rfl | rfl <;> rfl
      · rcases (show rq = 0 ∨ rq = 1 ∨ rq = 2 by omega) with rfl | rfl | rfl
        · exact ⟨z, pp, ks, _, _, _, okz, okp, oks, st.put sn _, rfl⟩
        · exact ⟨c.1, z, ks, _, _, _, okc, okz, oks, st.put sn _, rfl⟩
        · exact ⟨c.1, pp, z, _, _, _, okc, okp, okz, st.put sn _, rfl⟩
    clear st
    rintro _ M12 ⟨c', p', k', e7, e8, e9, okc', okp', okk', st, rfl⟩
    have good : ∀ {db : List (Str × Str)} {M' : Mem} {Q : DQ} {E : EQ3}, STP A0.f_Book A a L m db db pn (.lst [.str c', .str p', .str k']) M' → GM { m with dips := db } [] → Q (.bl true) M' → S_good A0 [.ref A.b, .ref L.o, .ref pn] M' Q E := by
      intro db M' Q E st g1 q1
      obtain ⟨M0, e1, lm, sr, hp⟩ := st.ex
      exact ⟨M0, A, L, _, [], pn, c', p', k', rfl, e1, ob, st.lm sn, g1, st.get sn, okc', okp', okk', q1⟩
    refine s_seqM (fun σ' M' => M' = M12 ∧ σ' = [some (.ref sa), some (.ref a), some (.ref L.o), some (.ref A.b), some (.str sg), some (.int i), some (.ref pn), e7, e8, e9, b10, b11, none]) ?_ ?_
    · refine s_if (w_orTP (a := false) (b := false) ?_ (fun _ => ?_) ?_)
      · repeat walk_at "t3"
        refine good st gd ?_
        exact ⟨_, rfl, rfl, rfl⟩
      · repeat walk_at "t3"
        refine r3_ix_l (.ow (st.get sn)) (at3 (j := 1) (by omega) (v := .str p') rfl) ?_
        repeat walk_at "t3"
        obtain ⟨M0, e1, _⟩ := id st.ex
        refine ⟨M0, A, _, _, p', rfl, e1, ob, gd.wf, gd.wf2, okp', by omega, by omega, ?_⟩
        exact ⟨_, rfl, rfl, rfl⟩
      refine iteB (fun h => by cases h) (fun _ => ?_)
      refine s_next ?_
      exact ⟨rfl, rfl⟩
    rintro _ _ ⟨rfl, rfl⟩
    repeat walk_at "t3"
    refine r3_m3 (st.lm sn) ?_
    repeat walk_at "t3"
    refine r3_m3 (st.lm sn) ?_
    repeat walk_at "t3"
    refine c3_lenL (c3_len (.ow (st.lm sn).c) ?_)
    rw [lmap]
    repeat walk_at "t3"
    obtain ⟨o3, h3, ho3, st3⟩ := st.src sn
    refine ⟨a, _, o3, rfl, h3, ho3, by show (0 : Int) < (m.cloths.length : Int); omega, by show ((m.cloths.length : Nat) : Int) < _; omega, fun r o5 r0 r1 ho5 => ?_⟩
    have st := st3 o5 ho5
    clear st3 h3 ho3
    generalize mput _ a o5 = M15 at st ⊢
    obtain ⟨dc, hdcm, hdcd⟩ := pick (l := m.cloths) r0 (by rw [lmap]; exact r1)
    show R3 B (rIx K) (D.ref L.c) (.int r) M15 _
    refine r3_ix_l (.ow (st.lm sn).c) (at3 (j := r.toNat) (Int.toNat_of_nonneg r0).symm hdcd) ?_
    repeat walk_at "t3"
    refine r3_ix_t (at3 (j := 0) (by omega) (v := .str dc.1) rfl) ?_
    repeat walk_at "t3"
    refine r3_m2 (st.lm sn) ?_
    repeat walk_at "t3"
    refine r3_m2 (st.lm sn) ?_
    repeat walk_at "t3"
    refine c3_lenL (c3_len (.ow (st.lm sn).p) ?_)
    rw [show (List.map D.str ({ m with dips := ds } : BM).pots).length = m.pots.length from List.length_map _]
    repeat walk_at "t3"
    obtain ⟨o3, h3, ho3, st3⟩ := st.src sn
    refine ⟨a, _, o3, rfl, h3, ho3, by show (0 : Int) < (m.pots.length : Int); omega, by show ((m.pots.length : Nat) : Int) < _; omega, fun r6 o5 r60 r61 ho5 => ?_⟩
    have st := st3 o5 ho5
    clear st3 h3 ho3
    generalize mput M15 a o5 = M16 at st ⊢
    obtain ⟨dq, hdqm, hdqd⟩ := pickS (l := m.pots) r60 (by rw [List.length_map]; exact r61)
    refine r3_ix_l (.ow (st.lm sn).p) (at3 (j := r6.toNat) (Int.toNat_of_nonneg r60).symm hdqd) ?_
    repeat walk_at "t3"
    refine r3_m4 (st.lm sn) ?_
    refine ⟨.lo (st.lm sn).d, ?_⟩
    repeat walk_at "t3"
    refine m3_append (st.lm sn).d (by rw [lmap]; show ds.length ≤ _; omega) ?_
    have st := st.putD sn (ds ++ [(dc.1, dq)])
    rw [show (List.map wD ({ m with dips := ds } : BM).dips ++ [D.tup [.str dc.1, .str dq]]) = (ds ++ [(dc.1, dq)]).map wD by rw [List.map_append]; rfl]
    generalize mput M16 L.d (.lst ((ds ++ [(dc.1, dq)]).map wD)) = M17 at st ⊢
    have hdc := in_names hdcm
    have gd2 : GM { m with dips := ds ++ [(dc.1, dq)] } [] := gd.addD hdc hdqm (by show ds.length < 24; omega)
    repeat walk_at "t3"
    obtain ⟨M0, rfl, lm, sr, hp⟩ := id st.ex
    refine w_meth (dds := []) (E3 := NoE) (fun _ => rfl) impE0 ?_
    repeat walk_at "t3"
    refine ⟨_, .inr ⟨A.b, rfl, bk_b⟩, rfl, ?_⟩
    repeat walk_at "t3"
    refine r3_ix_t (at3 (j := 0) (by omega) (v := .str dc.1) rfl) ?_
    repeat walk_at "t3"
    refine r3_ix_t (at3 (j := 1) (by omega) (v := .str dq) rfl) ?_
    repeat walk_at "t3"
    have hm24 : m.most = 24 := g.most
    refine gk_dip ob (g.vc hdc) (g.vp hdqm) (lookup_in.mpr hdc) (fun s hs => good_okT (g.pg s hs)) hdqm (by show (ds.length : Int) < m.most; omega) (by show ds.length < _; omega) ?_
    have st : STP A0.f_Book A a L m (ds ++ [(dc.1, dq)]) (ds ++ [(dc.1, dq)]) pn (.lst [.str c', .str p', .str k']) (bookM A0.f_Book M0 A { m with dips := ds ++ [(dc.1, dq)] }) := ⟨M0, rfl, lm, sr, hp⟩
    clear lm sr hp
    show W3s B _ _ _ (bookM A0.f_Book M0 A { m with dips := ds ++ [(dc.1, dq)] })
    generalize hM18 : bookM A0.f_Book M0 A { m with dips := ds ++ [(dc.1, dq)] } = M18 at st ⊢
    repeat walk_at "t3"
    refine w_whereO hM18.symm ob gd2.wf gd2.wf2 impW0 (by decide) (by decide +kernel) ?_
    repeat walk_at "t3"
    refine ⟨rfl, rfl, ?_⟩
    repeat walk_at "t3"
    refine ⟨rfl, [], _, rfl, rfl, fun t ht => (by cases ht), rfl, fun pw hpw => ?_⟩
    repeat walk_at "t3"
    refine ⟨.lo mput_same, ?_⟩
    repeat walk_at "t3"
    refine m3_append mput_same (Nat.le_trans (selN_len _ _ _) (by show (ds ++ [(dc.1, dq)]).length ≤ _; rw [List.length_append, List.length_singleton]; omega)) ?_
    rw [mput_mput]
    refine s_vs (σ' := _) (M' := M18) (by
      have z := vss_drop (σ := [some (.ref sa), some (.ref a), some (.ref L.o), some (.ref A.b), some (.str sg), some (.int i), some (.ref pn), e7, e8, e9, some (.tup [.str dc.1, .str dq]), some (.ref pw), none]) (M := mput M18 pw (.lst (selN (hitB { m with dips := ds ++ [(dc.1, dq)] } (([] : List Str).zip [])) (ds ++ [(dc.1, dq)]) (ds ++ [(dc.1, dq)]).length ++ [.int 0]))) pw
      rw [mdel_mput hpw] at z
      exact z) ?_
    refine s_if (w_notT ?_)
    repeat walk_at "t3"
    refine good st gd2 ?_
    refine ⟨_, rfl, ?_⟩
    refine iteB (fun h => by cases h) (fun _ => s_next ?_)
    obtain ⟨M0', e0', lm', sr', _⟩ := st.ex
    exact ⟨_, _, _, _, _, _, _, ds ++ [(dc.1, dq)], gd2, by rw [List.length_append, List.length_singleton]; omega, ⟨⟨M0', e0', lm', sr'⟩⟩, rfl⟩
  · rintro σ' M' ⟨b5, b6, b7, b8, b9, b10, b11, ds, gd, ld, st, rfl⟩
    repeat walk_at "t3"
    exact q _
end
end LW
set_option Elab.async false
set_option linter.all false
set_option maxRecDepth 100000
set_option maxHeartbeats 4000000
namespace LW
open PySem L2 T3
open Evl (Ex)
section
theorem kit_own2 {K : PySem.W.Frag} {C D : Addr} {cd : ClassData} {b : Bool} (h1 : PySem.W.clsIn K D = some cd) (h2 : PySem.W.typeIn K (.ref D) = some (.type "type")) (h3 : PySem.W.subIn K (.ref C) (.ref D) = some b) (h4 : PySem.W.subIn K (.ref C) (.ref C) = some true) : PySem.W.kitOne K (.ref C) (.ref D) = some b := by
  unfold PySem.W.kitOne
  split
  · rename_i e
    have e : (Value.ref C) = .ref D := by simpa using e
    cases e
    rw [h4] at h3
    exact h3
  · show PySem.W.kitCls K (.ref C) (.ref D) = _
    unfold PySem.W.kitCls
    dsimp only
    rw [h1, h2]
    simpa using h3
theorem kit_ve {K : PySem.W.Frag} {C : Addr} (hm : PySem.W.kitMeta "ValueError" = true) (h : PySem.W.subIn K (.ref C) (.type "ValueError") = some true) : PySem.W.kitOne K (.ref C) (.type "ValueError") = some true := by
  unfold PySem.W.kitOne
  split
  · rfl
  · show PySem.W.kitCls K (.ref C) (.type "ValueError") = _
    unfold PySem.W.kitCls
    simp only [hm, if_true]
    exact h
theorem exm_own2 {K : PySem.W.Frag} {C D : Addr} {cd : ClassData} {b : Bool} (hB : PySem.W.subIn K (.ref D) (.type "BaseException") = some true) (h1 : PySem.W.clsIn K D = some cd) (h2 : PySem.W.typeIn K (.ref D) = some (.type "type")) (h3 : PySem.W.subIn K (.ref C) (.ref D) = some b) : PySem.W.exmOne K (.ref C) (.ref D) = some b := by
  unfold PySem.W.exmOne
  rw [hB]
  show (if (some true == some true) = true then PySem.W.kitCls K (.ref C) (.ref D) else none) = _
  rw [if_pos (by rfl)]
  unfold PySem.W.kitCls
  dsimp only
  rw [h1, h2]
  simpa using h3
theorem all_mk {l : PySem.W.OpenLaw} {w : World} {K : PySem.W.Frag} {h : Heap} {mg : Str → Option Value} {fa : Addr} (X : K.In h) (G : h.Ns mainGlobals mg) (hfa : mg "law" = some (.ref fa))
    {f_Book : Addr}
    {f_is_whole : Addr} {oc_is_whole kV_is_whole dc_is_whole pm_is_whole cd_is_whole ct_is_whole : Value} {od_is_whole an_is_whole : Option Addr} {sl_is_whole : Array (Option Value)}
    {f_is_amount : Addr} {oc_is_amount kV_is_amount dc_is_amount pm_is_amount cd_is_amount ct_is_amount : Value} {od_is_amount an_is_amount : Option Addr} {sl_is_amount : Array (Option Value)}
    {f_check_name : Addr} {oc_check_name kV_check_name dc_check_name pm_check_name cd_check_name ct_check_name : Value} {od_check_name an_check_name : Option Addr} {sl_check_name : Array (Option Value)}
    {f_check_known : Addr} {oc_check_known kV_check_known dc_check_known pm_check_known cd_check_known ct_check_known : Value} {od_check_known an_check_known : Option Addr} {sl_check_known : Array (Option Value)}
    {f_check_room : Addr} {oc_check_room kV_check_room dc_check_room pm_check_room cd_check_room ct_check_room : Value} {od_check_room an_check_room : Option Addr} {sl_check_room : Array (Option Value)}
    {f_Book___init__ : Addr} {oc_Book___init__ dc_Book___init__ pm_Book___init__ cd_Book___init__ ct_Book___init__ : Value} {od_Book___init__ an_Book___init__ : Option Addr} {sl_Book___init__ : Array (Option Value)}
    {kD_Book___init__ : Addr}
    {kt_Book___init___0 : Tok}
    {f_Book_bound : Addr} {oc_Book_bound kV_Book_bound dc_Book_bound pm_Book_bound cd_Book_bound ct_Book_bound : Value} {od_Book_bound an_Book_bound : Option Addr} {sl_Book_bound : Array (Option Value)}
    {p_bound : Addr} {pa_bound : Value} {pr_bound : List Value}
    {f_Book_add_kind : Addr} {oc_Book_add_kind dc_Book_add_kind pm_Book_add_kind cd_Book_add_kind ct_Book_add_kind : Value} {od_Book_add_kind an_Book_add_kind : Option Addr} {sl_Book_add_kind : Array (Option Value)}
    {kD_Book_add_kind : Addr}
    {kt_Book_add_kind_0 : Tok}
    {f_Book_add_thirst : Addr} {oc_Book_add_thirst kV_Book_add_thirst dc_Book_add_thirst pm_Book_add_thirst cd_Book_add_thirst ct_Book_add_thirst : Value} {od_Book_add_thirst an_Book_add_thirst : Option Addr} {sl_Book_add_thirst : Array (Option Value)}
    {f_Book_add_pot : Addr} {oc_Book_add_pot kV_Book_add_pot dc_Book_add_pot pm_Book_add_pot cd_Book_add_pot ct_Book_add_pot : Value} {od_Book_add_pot an_Book_add_pot : Option Addr} {sl_Book_add_pot : Array (Option Value)}
    {f_Book_add_cloth : Addr} {oc_Book_add_cloth kV_Book_add_cloth dc_Book_add_cloth pm_Book_add_cloth cd_Book_add_cloth ct_Book_add_cloth : Value} {od_Book_add_cloth an_Book_add_cloth : Option Addr} {sl_Book_add_cloth : Array (Option Value)}
    {f_Book_dip : Addr} {oc_Book_dip kV_Book_dip dc_Book_dip pm_Book_dip cd_Book_dip ct_Book_dip : Value} {od_Book_dip an_Book_dip : Option Addr} {sl_Book_dip : Array (Option Value)}
    {f_Book_tell : Addr} {oc_Book_tell kV_Book_tell dc_Book_tell pm_Book_tell cd_Book_tell ct_Book_tell : Value} {od_Book_tell an_Book_tell : Option Addr} {sl_Book_tell : Array (Option Value)}
    {f_Book_tell_some : Addr} {oc_Book_tell_some kV_Book_tell_some dc_Book_tell_some pm_Book_tell_some cd_Book_tell_some ct_Book_tell_some : Value} {od_Book_tell_some an_Book_tell_some : Option Addr} {sl_Book_tell_some : Array (Option Value)}
    {f_Book_add_fact : Addr} {oc_Book_add_fact kV_Book_add_fact dc_Book_add_fact pm_Book_add_fact cd_Book_add_fact ct_Book_add_fact : Value} {od_Book_add_fact an_Book_add_fact : Option Addr} {sl_Book_add_fact : Array (Option Value)}
    {f_Book_kind_of : Addr} {oc_Book_kind_of kV_Book_kind_of dc_Book_kind_of pm_Book_kind_of cd_Book_kind_of ct_Book_kind_of : Value} {od_Book_kind_of an_Book_kind_of : Option Addr} {sl_Book_kind_of : Array (Option Value)}
    {f_Book_hold_of : Addr} {oc_Book_hold_of kV_Book_hold_of dc_Book_hold_of pm_Book_hold_of cd_Book_hold_of ct_Book_hold_of : Value} {od_Book_hold_of an_Book_hold_of : Option Addr} {sl_Book_hold_of : Array (Option Value)}
    {f_Book_previous : Addr} {oc_Book_previous kV_Book_previous dc_Book_previous pm_Book_previous cd_Book_previous ct_Book_previous : Value} {od_Book_previous an_Book_previous : Option Addr} {sl_Book_previous : Array (Option Value)}
    {f_Book_leaves : Addr} {oc_Book_leaves kV_Book_leaves dc_Book_leaves pm_Book_leaves cd_Book_leaves ct_Book_leaves : Value} {od_Book_leaves an_Book_leaves : Option Addr} {sl_Book_leaves : Array (Option Value)}
    {f_Book_amounts : Addr} {oc_Book_amounts kV_Book_amounts dc_Book_amounts pm_Book_amounts cd_Book_amounts ct_Book_amounts : Value} {od_Book_amounts an_Book_amounts : Option Addr} {sl_Book_amounts : Array (Option Value)}
    {f_Book_where : Addr} {oc_Book_where kV_Book_where dc_Book_where pm_Book_where cd_Book_where ct_Book_where : Value} {od_Book_where an_Book_where : Option Addr} {sl_Book_where : Array (Option Value)}
    {f_lw_is_whole : Addr} {oc_lw_is_whole kV_lw_is_whole dc_lw_is_whole pm_lw_is_whole cd_lw_is_whole ct_lw_is_whole : Value} {od_lw_is_whole an_lw_is_whole : Option Addr} {sl_lw_is_whole : Array (Option Value)}
    {f_source : Addr} {oc_source kV_source dc_source pm_source cd_source ct_source : Value} {od_source an_source : Option Addr} {sl_source : Array (Option Value)}
    {f_draw : Addr} {oc_draw kV_draw dc_draw pm_draw cd_draw ct_draw : Value} {od_draw an_draw : Option Addr} {sl_draw : Array (Option Value)}
    {f_word : Addr} {oc_word kV_word dc_word pm_word cd_word ct_word : Value} {od_word an_word : Option Addr} {sl_word : Array (Option Value)}
    {f_name : Addr} {oc_name kV_name dc_name pm_name cd_name ct_name : Value} {od_name an_name : Option Addr} {sl_name : Array (Option Value)}
    {f_names : Addr} {oc_names kV_names dc_names pm_names cd_names ct_names : Value} {od_names an_names : Option Addr} {sl_names : Array (Option Value)}
    {f_model : Addr} {oc_model kV_model dc_model pm_model cd_model ct_model : Value} {od_model an_model : Option Addr} {sl_model : Array (Option Value)}
    {f_sort : Addr} {oc_sort kV_sort dc_sort pm_sort cd_sort ct_sort : Value} {od_sort an_sort : Option Addr} {sl_sort : Array (Option Value)}
    {f_build : Addr} {oc_build kV_build dc_build pm_build cd_build ct_build : Value} {od_build an_build : Option Addr} {sl_build : Array (Option Value)}
    {f_matches : Addr} {oc_matches kV_matches dc_matches pm_matches cd_matches ct_matches : Value} {od_matches an_matches : Option Addr} {sl_matches : Array (Option Value)}
    {f_refused : Addr} {oc_refused kV_refused dc_refused pm_refused cd_refused ct_refused : Value} {od_refused an_refused : Option Addr} {sl_refused : Array (Option Value)}
    {f_good : Addr} {oc_good kV_good dc_good pm_good cd_good ct_good : Value} {od_good an_good : Option Addr} {sl_good : Array (Option Value)}
    {f_law : Addr} {oc_law kV_law dc_law pm_law cd_law ct_law : Value} {od_law an_law : Option Addr} {sl_law : Array (Option Value)}
    {c_WORDS : Addr} {odc_WORDS : Option Addr} {nc_WORDS : Nat} {slc_WORDS : Array (Option Value)} {tc_WORDS_0 tc_WORDS_1 : Tok}
    {c_HOLDS : Addr} {odc_HOLDS : Option Addr} {nc_HOLDS : Nat} {slc_HOLDS : Array (Option Value)} {tc_HOLDS_0 tc_HOLDS_1 tc_HOLDS_2 : Tok}
    {tg_LETTERS : Tok}
    {tg_MOST_DIPS : Tok}
    {tv_NAMES : Tok}
    {tv_FACTS : Tok}
    {tv_DIPS : Tok}
    {f_DyeError : Addr}
    {f_BadName : Addr}
    {f_BadHold : Addr}
    {f_BadNumber : Addr}
    {f_BadAmount : Addr}
    {f_Known : Addr}
    {f_Unknown : Addr}
    {f_Full : Addr}
    {cdd_DyeError : ClassData}
    {cdd_BadName : ClassData}
    {cdd_BadHold : ClassData}
    {cdd_BadNumber : ClassData}
    {cdd_BadAmount : ClassData}
    {cdd_Known : ClassData}
    {cdd_Unknown : ClassData}
    {cdd_Full : ClassData}
    {cdd_Book : ClassData}
    {f_dyeInit : Addr} {dT cda cc : Addr} {dI oc doc pm ct ccl cl : Value} {od an cdd cld : Option Addr} {dN j : Nat} {osl ccs csl dsl : Array (Option Value)} {dcl : Value} {ddd : Option Addr} {p1 p2 p3 p4 a1 a2 a3 a4 a5 a6 q1 q2 q3 q4 : Pos} {vs : Array Value} {file : Str} {tf : Tok} {cdD : ClassData}
    {nm_BadName : _} {q_BadName : _} {N_BadName : _} {bs_BadName : _} {bm_BadName : _} {sn_BadName : _} {sub_BadName : _} {ab_BadName : _} {col_BadName : _} {dd_BadName : _} {k0_BadName : _} {k1_BadName : _} {k2_BadName : _} {k3_BadName : _} {k5_BadName : _}
    {nm_Known : _} {q_Known : _} {N_Known : _} {bs_Known : _} {bm_Known : _} {sn_Known : _} {sub_Known : _} {ab_Known : _} {col_Known : _} {dd_Known : _} {k0_Known : _} {k1_Known : _} {k2_Known : _} {k3_Known : _} {k5_Known : _}
    {nm_Unknown : _} {q_Unknown : _} {N_Unknown : _} {bs_Unknown : _} {bm_Unknown : _} {sn_Unknown : _} {sub_Unknown : _} {ab_Unknown : _} {col_Unknown : _} {dd_Unknown : _} {k0_Unknown : _} {k1_Unknown : _} {k2_Unknown : _} {k3_Unknown : _} {k5_Unknown : _}
    {nm_Full : _} {q_Full : _} {N_Full : _} {bs_Full : _} {bm_Full : _} {sn_Full : _} {sub_Full : _} {ab_Full : _} {col_Full : _} {dd_Full : _} {k0_Full : _} {k1_Full : _} {k2_Full : _} {k3_Full : _} {k5_Full : _}
    {nm_BadNumber : _} {q_BadNumber : _} {N_BadNumber : _} {bs_BadNumber : _} {bm_BadNumber : _} {sn_BadNumber : _} {sub_BadNumber : _} {ab_BadNumber : _} {col_BadNumber : _} {dd_BadNumber : _} {k0_BadNumber : _} {k1_BadNumber : _} {k2_BadNumber : _} {k3_BadNumber : _} {k5_BadNumber : _}
    {nm_BadHold : _} {q_BadHold : _} {N_BadHold : _} {bs_BadHold : _} {bm_BadHold : _} {sn_BadHold : _} {sub_BadHold : _} {ab_BadHold : _} {col_BadHold : _} {dd_BadHold : _} {k0_BadHold : _} {k1_BadHold : _} {k2_BadHold : _} {k3_BadHold : _} {k5_BadHold : _}
    {nm_BadAmount : _} {q_BadAmount : _} {N_BadAmount : _} {bs_BadAmount : _} {bm_BadAmount : _} {sn_BadAmount : _} {sub_BadAmount : _} {ab_BadAmount : _} {col_BadAmount : _} {dd_BadAmount : _} {k0_BadAmount : _} {k1_BadAmount : _} {k2_BadAmount : _} {k3_BadAmount : _} {k5_BadAmount : _}
    (a_Book : PySem.W.nsIn K mainGlobals "Book" = some (some (.ref f_Book)))
    (a_is_whole : PySem.W.nsIn K mainGlobals "is_whole" = some (some (.ref f_is_whole)))
    (l_is_whole : K.lookup f_is_whole = some ⟨oc_is_whole, od_is_whole, .func (PySem.W.fnOf "is_whole" "is_whole" (defArgs s_is_whole) (defBody s_is_whole) (defScope s_is_whole) .none kV_is_whole dc_is_whole pm_is_whole an_is_whole cd_is_whole ct_is_whole), sl_is_whole⟩)
    (c_is_whole : PySem.W.codeIn K cd_is_whole "is_whole" = true)
    (k_is_whole : PySem.W.keepIn K (.ref f_is_whole) = true)
    (a_is_amount : PySem.W.nsIn K mainGlobals "is_amount" = some (some (.ref f_is_amount)))
    (l_is_amount : K.lookup f_is_amount = some ⟨oc_is_amount, od_is_amount, .func (PySem.W.fnOf "is_amount" "is_amount" (defArgs s_is_amount) (defBody s_is_amount) (defScope s_is_amount) .none kV_is_amount dc_is_amount pm_is_amount an_is_amount cd_is_amount ct_is_amount), sl_is_amount⟩)
    (c_is_amount : PySem.W.codeIn K cd_is_amount "is_amount" = true)
    (k_is_amount : PySem.W.keepIn K (.ref f_is_amount) = true)
    (a_check_name : PySem.W.nsIn K mainGlobals "check_name" = some (some (.ref f_check_name)))
    (l_check_name : K.lookup f_check_name = some ⟨oc_check_name, od_check_name, .func (PySem.W.fnOf "check_name" "check_name" (defArgs s_check_name) (defBody s_check_name) (defScope s_check_name) .none kV_check_name dc_check_name pm_check_name an_check_name cd_check_name ct_check_name), sl_check_name⟩)
    (c_check_name : PySem.W.codeIn K cd_check_name "check_name" = true)
    (k_check_name : PySem.W.keepIn K (.ref f_check_name) = true)
    (a_check_known : PySem.W.nsIn K mainGlobals "check_known" = some (some (.ref f_check_known)))
    (l_check_known : K.lookup f_check_known = some ⟨oc_check_known, od_check_known, .func (PySem.W.fnOf "check_known" "check_known" (defArgs s_check_known) (defBody s_check_known) (defScope s_check_known) .none kV_check_known dc_check_known pm_check_known an_check_known cd_check_known ct_check_known), sl_check_known⟩)
    (c_check_known : PySem.W.codeIn K cd_check_known "check_known" = true)
    (k_check_known : PySem.W.keepIn K (.ref f_check_known) = true)
    (a_check_room : PySem.W.nsIn K mainGlobals "check_room" = some (some (.ref f_check_room)))
    (l_check_room : K.lookup f_check_room = some ⟨oc_check_room, od_check_room, .func (PySem.W.fnOf "check_room" "check_room" (defArgs s_check_room) (defBody s_check_room) (defScope s_check_room) .none kV_check_room dc_check_room pm_check_room an_check_room cd_check_room ct_check_room), sl_check_room⟩)
    (c_check_room : PySem.W.codeIn K cd_check_room "check_room" = true)
    (k_check_room : PySem.W.keepIn K (.ref f_check_room) = true)
    (at_Book___init__ : PySem.W.findIn K (.ref f_Book) "__init__" = some (some (.ref f_Book___init__)))
    (fn_Book___init__ : PySem.W.isFn K (.ref f_Book___init__) = true)
    (l_Book___init__ : K.lookup f_Book___init__ = some ⟨oc_Book___init__, od_Book___init__, .func (PySem.W.fnOf "__init__" "Book.__init__" (defArgs s_Book___init__) (defBody s_Book___init__) (defScope s_Book___init__) .none (.ref kD_Book___init__) dc_Book___init__ pm_Book___init__ an_Book___init__ cd_Book___init__ ct_Book___init__), sl_Book___init__⟩)
    (kd_Book___init___0 : PySem.W.nsIn K kD_Book___init__ "bound" = some (some (.int 24 kt_Book___init___0)))
    (c_Book___init__ : PySem.W.codeIn K cd_Book___init__ "Book.__init__" = true)
    (k_Book___init__ : PySem.W.keepIn K (.ref f_Book___init__) = true)
    (tk_bound : PySem.W.takerIn K f_Book "bound" = some (some (.ref p_bound)))
    (pt_bound : PySem.W.typeIn K (.ref p_bound) = some (.type "property"))
    (prc_bound : PySem.W.recIn K p_bound "property" = some (pa_bound :: .ref f_Book_bound :: pr_bound))
    (l_Book_bound : K.lookup f_Book_bound = some ⟨oc_Book_bound, od_Book_bound, .func (PySem.W.fnOf "bound" "Book.bound" (defArgs s_Book_bound) (defBody s_Book_bound) (defScope s_Book_bound) .none kV_Book_bound dc_Book_bound pm_Book_bound an_Book_bound cd_Book_bound ct_Book_bound), sl_Book_bound⟩)
    (c_Book_bound : PySem.W.codeIn K cd_Book_bound "Book.bound" = true)
    (k_Book_bound : PySem.W.keepIn K (.ref f_Book_bound) = true)
    (at_Book_add_kind : PySem.W.findIn K (.ref f_Book) "add_kind" = some (some (.ref f_Book_add_kind)))
    (fn_Book_add_kind : PySem.W.isFn K (.ref f_Book_add_kind) = true)
    (l_Book_add_kind : K.lookup f_Book_add_kind = some ⟨oc_Book_add_kind, od_Book_add_kind, .func (PySem.W.fnOf "add_kind" "Book.add_kind" (defArgs s_Book_add_kind) (defBody s_Book_add_kind) (defScope s_Book_add_kind) .none (.ref kD_Book_add_kind) dc_Book_add_kind pm_Book_add_kind an_Book_add_kind cd_Book_add_kind ct_Book_add_kind), sl_Book_add_kind⟩)
    (kd_Book_add_kind_0 : PySem.W.nsIn K kD_Book_add_kind "hold" = some (some (.str "unsure" kt_Book_add_kind_0)))
    (c_Book_add_kind : PySem.W.codeIn K cd_Book_add_kind "Book.add_kind" = true)
    (k_Book_add_kind : PySem.W.keepIn K (.ref f_Book_add_kind) = true)
    (at_Book_add_thirst : PySem.W.findIn K (.ref f_Book) "add_thirst" = some (some (.ref f_Book_add_thirst)))
    (fn_Book_add_thirst : PySem.W.isFn K (.ref f_Book_add_thirst) = true)
    (l_Book_add_thirst : K.lookup f_Book_add_thirst = some ⟨oc_Book_add_thirst, od_Book_add_thirst, .func (PySem.W.fnOf "add_thirst" "Book.add_thirst" (defArgs s_Book_add_thirst) (defBody s_Book_add_thirst) (defScope s_Book_add_thirst) .none kV_Book_add_thirst dc_Book_add_thirst pm_Book_add_thirst an_Book_add_thirst cd_Book_add_thirst ct_Book_add_thirst), sl_Book_add_thirst⟩)
    (c_Book_add_thirst : PySem.W.codeIn K cd_Book_add_thirst "Book.add_thirst" = true)
    (k_Book_add_thirst : PySem.W.keepIn K (.ref f_Book_add_thirst) = true)
    (at_Book_add_pot : PySem.W.findIn K (.ref f_Book) "add_pot" = some (some (.ref f_Book_add_pot)))
    (fn_Book_add_pot : PySem.W.isFn K (.ref f_Book_add_pot) = true)
    (l_Book_add_pot : K.lookup f_Book_add_pot = some ⟨oc_Book_add_pot, od_Book_add_pot, .func (PySem.W.fnOf "add_pot" "Book.add_pot" (defArgs s_Book_add_pot) (defBody s_Book_add_pot) (defScope s_Book_add_pot) .none kV_Book_add_pot dc_Book_add_pot pm_Book_add_pot an_Book_add_pot cd_Book_add_pot ct_Book_add_pot), sl_Book_add_pot⟩)
    (c_Book_add_pot : PySem.W.codeIn K cd_Book_add_pot "Book.add_pot" = true)
    (k_Book_add_pot : PySem.W.keepIn K (.ref f_Book_add_pot) = true)
    (at_Book_add_cloth : PySem.W.findIn K (.ref f_Book) "add_cloth" = some (some (.ref f_Book_add_cloth)))
    (fn_Book_add_cloth : PySem.W.isFn K (.ref f_Book_add_cloth) = true)
    (l_Book_add_cloth : K.lookup f_Book_add_cloth = some ⟨oc_Book_add_cloth, od_Book_add_cloth, .func (PySem.W.fnOf "add_cloth" "Book.add_cloth" (defArgs s_Book_add_cloth) (defBody s_Book_add_cloth) (defScope s_Book_add_cloth) .none kV_Book_add_cloth dc_Book_add_cloth pm_Book_add_cloth an_Book_add_cloth cd_Book_add_cloth ct_Book_add_cloth), sl_Book_add_cloth⟩)
    (c_Book_add_cloth : PySem.W.codeIn K cd_Book_add_cloth "Book.add_cloth" = true)
    (k_Book_add_cloth : PySem.W.keepIn K (.ref f_Book_add_cloth) = true)
    (at_Book_dip : PySem.W.findIn K (.ref f_Book) "dip" = some (some (.ref f_Book_dip)))
    (fn_Book_dip : PySem.W.isFn K (.ref f_Book_dip) = true)
    (l_Book_dip : K.lookup f_Book_dip = some ⟨oc_Book_dip, od_Book_dip, .func (PySem.W.fnOf "dip" "Book.dip" (defArgs s_Book_dip) (defBody s_Book_dip) (defScope s_Book_dip) .none kV_Book_dip dc_Book_dip pm_Book_dip an_Book_dip cd_Book_dip ct_Book_dip), sl_Book_dip⟩)
    (c_Book_dip : PySem.W.codeIn K cd_Book_dip "Book.dip" = true)
    (k_Book_dip : PySem.W.keepIn K (.ref f_Book_dip) = true)
    (at_Book_tell : PySem.W.findIn K (.ref f_Book) "tell" = some (some (.ref f_Book_tell)))
    (fn_Book_tell : PySem.W.isFn K (.ref f_Book_tell) = true)
    (l_Book_tell : K.lookup f_Book_tell = some ⟨oc_Book_tell, od_Book_tell, .func (PySem.W.fnOf "tell" "Book.tell" (defArgs s_Book_tell) (defBody s_Book_tell) (defScope s_Book_tell) .none kV_Book_tell dc_Book_tell pm_Book_tell an_Book_tell cd_Book_tell ct_Book_tell), sl_Book_tell⟩)
    (c_Book_tell : PySem.W.codeIn K cd_Book_tell "Book.tell" = true)
    (k_Book_tell : PySem.W.keepIn K (.ref f_Book_tell) = true)
    (at_Book_tell_some : PySem.W.findIn K (.ref f_Book) "tell_some" = some (some (.ref f_Book_tell_some)))
    (fn_Book_tell_some : PySem.W.isFn K (.ref f_Book_tell_some) = true)
    (l_Book_tell_some : K.lookup f_Book_tell_some = some ⟨oc_Book_tell_some, od_Book_tell_some, .func (PySem.W.fnOf "tell_some" "Book.tell_some" (defArgs s_Book_tell_some) (defBody s_Book_tell_some) (defScope s_Book_tell_some) .none kV_Book_tell_some dc_Book_tell_some pm_Book_tell_some an_Book_tell_some cd_Book_tell_some ct_Book_tell_some), sl_Book_tell_some⟩)
    (c_Book_tell_some : PySem.W.codeIn K cd_Book_tell_some "Book.tell_some" = true)
    (k_Book_tell_some : PySem.W.keepIn K (.ref f_Book_tell_some) = true)
    (at_Book_add_fact : PySem.W.findIn K (.ref f_Book) "add_fact" = some (some (.ref f_Book_add_fact)))
    (fn_Book_add_fact : PySem.W.isFn K (.ref f_Book_add_fact) = true)
    (l_Book_add_fact : K.lookup f_Book_add_fact = some ⟨oc_Book_add_fact, od_Book_add_fact, .func (PySem.W.fnOf "add_fact" "Book.add_fact" (defArgs s_Book_add_fact) (defBody s_Book_add_fact) (defScope s_Book_add_fact) .none kV_Book_add_fact dc_Book_add_fact pm_Book_add_fact an_Book_add_fact cd_Book_add_fact ct_Book_add_fact), sl_Book_add_fact⟩)
    (c_Book_add_fact : PySem.W.codeIn K cd_Book_add_fact "Book.add_fact" = true)
    (k_Book_add_fact : PySem.W.keepIn K (.ref f_Book_add_fact) = true)
    (at_Book_kind_of : PySem.W.findIn K (.ref f_Book) "kind_of" = some (some (.ref f_Book_kind_of)))
    (fn_Book_kind_of : PySem.W.isFn K (.ref f_Book_kind_of) = true)
    (l_Book_kind_of : K.lookup f_Book_kind_of = some ⟨oc_Book_kind_of, od_Book_kind_of, .func (PySem.W.fnOf "kind_of" "Book.kind_of" (defArgs s_Book_kind_of) (defBody s_Book_kind_of) (defScope s_Book_kind_of) .none kV_Book_kind_of dc_Book_kind_of pm_Book_kind_of an_Book_kind_of cd_Book_kind_of ct_Book_kind_of), sl_Book_kind_of⟩)
    (c_Book_kind_of : PySem.W.codeIn K cd_Book_kind_of "Book.kind_of" = true)
    (k_Book_kind_of : PySem.W.keepIn K (.ref f_Book_kind_of) = true)
    (at_Book_hold_of : PySem.W.findIn K (.ref f_Book) "hold_of" = some (some (.ref f_Book_hold_of)))
    (fn_Book_hold_of : PySem.W.isFn K (.ref f_Book_hold_of) = true)
    (l_Book_hold_of : K.lookup f_Book_hold_of = some ⟨oc_Book_hold_of, od_Book_hold_of, .func (PySem.W.fnOf "hold_of" "Book.hold_of" (defArgs s_Book_hold_of) (defBody s_Book_hold_of) (defScope s_Book_hold_of) .none kV_Book_hold_of dc_Book_hold_of pm_Book_hold_of an_Book_hold_of cd_Book_hold_of ct_Book_hold_of), sl_Book_hold_of⟩)
    (c_Book_hold_of : PySem.W.codeIn K cd_Book_hold_of "Book.hold_of" = true)
    (k_Book_hold_of : PySem.W.keepIn K (.ref f_Book_hold_of) = true)
    (at_Book_previous : PySem.W.findIn K (.ref f_Book) "previous" = some (some (.ref f_Book_previous)))
    (fn_Book_previous : PySem.W.isFn K (.ref f_Book_previous) = true)
    (l_Book_previous : K.lookup f_Book_previous = some ⟨oc_Book_previous, od_Book_previous, .func (PySem.W.fnOf "previous" "Book.previous" (defArgs s_Book_previous) (defBody s_Book_previous) (defScope s_Book_previous) .none kV_Book_previous dc_Book_previous pm_Book_previous an_Book_previous cd_Book_previous ct_Book_previous), sl_Book_previous⟩)
    (c_Book_previous : PySem.W.codeIn K cd_Book_previous "Book.previous" = true)
    (k_Book_previous : PySem.W.keepIn K (.ref f_Book_previous) = true)
    (at_Book_leaves : PySem.W.findIn K (.ref f_Book) "leaves" = some (some (.ref f_Book_leaves)))
    (fn_Book_leaves : PySem.W.isFn K (.ref f_Book_leaves) = true)
    (l_Book_leaves : K.lookup f_Book_leaves = some ⟨oc_Book_leaves, od_Book_leaves, .func (PySem.W.fnOf "leaves" "Book.leaves" (defArgs s_Book_leaves) (defBody s_Book_leaves) (defScope s_Book_leaves) .none kV_Book_leaves dc_Book_leaves pm_Book_leaves an_Book_leaves cd_Book_leaves ct_Book_leaves), sl_Book_leaves⟩)
    (c_Book_leaves : PySem.W.codeIn K cd_Book_leaves "Book.leaves" = true)
    (k_Book_leaves : PySem.W.keepIn K (.ref f_Book_leaves) = true)
    (at_Book_amounts : PySem.W.findIn K (.ref f_Book) "amounts" = some (some (.ref f_Book_amounts)))
    (fn_Book_amounts : PySem.W.isFn K (.ref f_Book_amounts) = true)
    (l_Book_amounts : K.lookup f_Book_amounts = some ⟨oc_Book_amounts, od_Book_amounts, .func (PySem.W.fnOf "amounts" "Book.amounts" (defArgs s_Book_amounts) (defBody s_Book_amounts) (defScope s_Book_amounts) .none kV_Book_amounts dc_Book_amounts pm_Book_amounts an_Book_amounts cd_Book_amounts ct_Book_amounts), sl_Book_amounts⟩)
    (c_Book_amounts : PySem.W.codeIn K cd_Book_amounts "Book.amounts" = true)
    (k_Book_amounts : PySem.W.keepIn K (.ref f_Book_amounts) = true)
    (at_Book_where : PySem.W.findIn K (.ref f_Book) "where" = some (some (.ref f_Book_where)))
    (fn_Book_where : PySem.W.isFn K (.ref f_Book_where) = true)
    (l_Book_where : K.lookup f_Book_where = some ⟨oc_Book_where, od_Book_where, .func (PySem.W.fnOf "where" "Book.where" (defArgs s_Book_where) (defBody s_Book_where) (defScope s_Book_where) .none kV_Book_where dc_Book_where pm_Book_where an_Book_where cd_Book_where ct_Book_where), sl_Book_where⟩)
    (c_Book_where : PySem.W.codeIn K cd_Book_where "Book.where" = true)
    (k_Book_where : PySem.W.keepIn K (.ref f_Book_where) = true)
    (a_lw_is_whole : PySem.W.nsIn K mainGlobals "_law_is_whole" = some (some (.ref f_lw_is_whole)))
    (l_lw_is_whole : K.lookup f_lw_is_whole = some ⟨oc_lw_is_whole, od_lw_is_whole, .func (PySem.W.fnOf "_law_is_whole" "_law_is_whole" (defArgs s_lw_is_whole) (defBody s_lw_is_whole) (defScope s_lw_is_whole) .none kV_lw_is_whole dc_lw_is_whole pm_lw_is_whole an_lw_is_whole cd_lw_is_whole ct_lw_is_whole), sl_lw_is_whole⟩)
    (c_lw_is_whole : PySem.W.codeIn K cd_lw_is_whole "_law_is_whole" = true)
    (k_lw_is_whole : PySem.W.keepIn K (.ref f_lw_is_whole) = true)
    (a_source : PySem.W.nsIn K mainGlobals "_law_source" = some (some (.ref f_source)))
    (l_source : K.lookup f_source = some ⟨oc_source, od_source, .func (PySem.W.fnOf "_law_source" "_law_source" (defArgs s_source) (defBody s_source) (defScope s_source) .none kV_source dc_source pm_source an_source cd_source ct_source), sl_source⟩)
    (c_source : PySem.W.codeIn K cd_source "_law_source" = true)
    (k_source : PySem.W.keepIn K (.ref f_source) = true)
    (a_draw : PySem.W.nsIn K mainGlobals "_law_draw" = some (some (.ref f_draw)))
    (l_draw : K.lookup f_draw = some ⟨oc_draw, od_draw, .func (PySem.W.fnOf "_law_draw" "_law_draw" (defArgs s_draw) (defBody s_draw) (defScope s_draw) .none kV_draw dc_draw pm_draw an_draw cd_draw ct_draw), sl_draw⟩)
    (c_draw : PySem.W.codeIn K cd_draw "_law_draw" = true)
    (k_draw : PySem.W.keepIn K (.ref f_draw) = true)
    (a_word : PySem.W.nsIn K mainGlobals "_law_word" = some (some (.ref f_word)))
    (l_word : K.lookup f_word = some ⟨oc_word, od_word, .func (PySem.W.fnOf "_law_word" "_law_word" (defArgs s_word) (defBody s_word) (defScope s_word) .none kV_word dc_word pm_word an_word cd_word ct_word), sl_word⟩)
    (c_word : PySem.W.codeIn K cd_word "_law_word" = true)
    (k_word : PySem.W.keepIn K (.ref f_word) = true)
    (a_name : PySem.W.nsIn K mainGlobals "_law_name" = some (some (.ref f_name)))
    (l_name : K.lookup f_name = some ⟨oc_name, od_name, .func (PySem.W.fnOf "_law_name" "_law_name" (defArgs s_name) (defBody s_name) (defScope s_name) .none kV_name dc_name pm_name an_name cd_name ct_name), sl_name⟩)
    (c_name : PySem.W.codeIn K cd_name "_law_name" = true)
    (k_name : PySem.W.keepIn K (.ref f_name) = true)
    (a_names : PySem.W.nsIn K mainGlobals "_law_names" = some (some (.ref f_names)))
    (l_names : K.lookup f_names = some ⟨oc_names, od_names, .func (PySem.W.fnOf "_law_names" "_law_names" (defArgs s_names) (defBody s_names) (defScope s_names) .none kV_names dc_names pm_names an_names cd_names ct_names), sl_names⟩)
    (c_names : PySem.W.codeIn K cd_names "_law_names" = true)
    (k_names : PySem.W.keepIn K (.ref f_names) = true)
    (a_model : PySem.W.nsIn K mainGlobals "_law_model" = some (some (.ref f_model)))
    (l_model : K.lookup f_model = some ⟨oc_model, od_model, .func (PySem.W.fnOf "_law_model" "_law_model" (defArgs s_model) (defBody s_model) (defScope s_model) .none kV_model dc_model pm_model an_model cd_model ct_model), sl_model⟩)
    (c_model : PySem.W.codeIn K cd_model "_law_model" = true)
    (k_model : PySem.W.keepIn K (.ref f_model) = true)
    (a_sort : PySem.W.nsIn K mainGlobals "_law_sort" = some (some (.ref f_sort)))
    (l_sort : K.lookup f_sort = some ⟨oc_sort, od_sort, .func (PySem.W.fnOf "_law_sort" "_law_sort" (defArgs s_sort) (defBody s_sort) (defScope s_sort) .none kV_sort dc_sort pm_sort an_sort cd_sort ct_sort), sl_sort⟩)
    (c_sort : PySem.W.codeIn K cd_sort "_law_sort" = true)
    (k_sort : PySem.W.keepIn K (.ref f_sort) = true)
    (a_build : PySem.W.nsIn K mainGlobals "_law_build" = some (some (.ref f_build)))
    (l_build : K.lookup f_build = some ⟨oc_build, od_build, .func (PySem.W.fnOf "_law_build" "_law_build" (defArgs s_build) (defBody s_build) (defScope s_build) .none kV_build dc_build pm_build an_build cd_build ct_build), sl_build⟩)
    (c_build : PySem.W.codeIn K cd_build "_law_build" = true)
    (k_build : PySem.W.keepIn K (.ref f_build) = true)
    (a_matches : PySem.W.nsIn K mainGlobals "_law_matches" = some (some (.ref f_matches)))
    (l_matches : K.lookup f_matches = some ⟨oc_matches, od_matches, .func (PySem.W.fnOf "_law_matches" "_law_matches" (defArgs s_matches) (defBody s_matches) (defScope s_matches) .none kV_matches dc_matches pm_matches an_matches cd_matches ct_matches), sl_matches⟩)
    (c_matches : PySem.W.codeIn K cd_matches "_law_matches" = true)
    (k_matches : PySem.W.keepIn K (.ref f_matches) = true)
    (a_refused : PySem.W.nsIn K mainGlobals "_law_refused" = some (some (.ref f_refused)))
    (l_refused : K.lookup f_refused = some ⟨oc_refused, od_refused, .func (PySem.W.fnOf "_law_refused" "_law_refused" (defArgs s_refused) (defBody s_refused) (defScope s_refused) .none kV_refused dc_refused pm_refused an_refused cd_refused ct_refused), sl_refused⟩)
    (c_refused : PySem.W.codeIn K cd_refused "_law_refused" = true)
    (k_refused : PySem.W.keepIn K (.ref f_refused) = true)
    (a_good : PySem.W.nsIn K mainGlobals "_law_good" = some (some (.ref f_good)))
    (l_good : K.lookup f_good = some ⟨oc_good, od_good, .func (PySem.W.fnOf "_law_good" "_law_good" (defArgs s_good) (defBody s_good) (defScope s_good) .none kV_good dc_good pm_good an_good cd_good ct_good), sl_good⟩)
    (c_good : PySem.W.codeIn K cd_good "_law_good" = true)
    (k_good : PySem.W.keepIn K (.ref f_good) = true)
    (a_law : PySem.W.nsIn K mainGlobals "law" = some (some (.ref f_law)))
    (l_law : K.lookup f_law = some ⟨oc_law, od_law, .func (PySem.W.fnOf "law" "law" (defArgs s_law) (defBody s_law) (defScope s_law) .none kV_law dc_law pm_law an_law cd_law ct_law), sl_law⟩)
    (c_law : PySem.W.codeIn K cd_law "law" = true)
    (k_law : PySem.W.keepIn K (.ref f_law) = true)
    (pg_Book : PySem.W.plainGet K f_Book Str.empty = true)
    (hdc_Book : PySem.W.hasDictIn K f_Book = true)
    (po_Book : PySem.W.plainOver K f_Book = true)
    (sac_Book : PySem.W.findIn K (.ref f_Book) "__setattr__" = some (some (.builtin "object.__setattr__")))
    (mks_Book : PySem.W.makesIn K f_Book = true)
    (kc_Book : PySem.W.keepIn K (.ref f_Book) = true)
    (ac_WORDS : PySem.W.nsIn K mainGlobals "WORDS" = some (some (.ref c_WORDS)))
    (lc_WORDS : K.lookup c_WORDS = some ⟨.type "tuple", odc_WORDS, .seq ([.str "take" tc_WORDS_0, .str "leave" tc_WORDS_1] : List Value).toArray nc_WORDS, slc_WORDS⟩)
    (ac_HOLDS : PySem.W.nsIn K mainGlobals "HOLDS" = some (some (.ref c_HOLDS)))
    (lc_HOLDS : K.lookup c_HOLDS = some ⟨.type "tuple", odc_HOLDS, .seq ([.str "fast" tc_HOLDS_0, .str "loose" tc_HOLDS_1, .str "unsure" tc_HOLDS_2] : List Value).toArray nc_HOLDS, slc_HOLDS⟩)
    (ag_LETTERS : PySem.W.nsIn K mainGlobals "LETTERS" = some (some (.str "abcdefghijklmnopqrstuvwxyz" tg_LETTERS)))
    (ag_MOST_DIPS : PySem.W.nsIn K mainGlobals "MOST_DIPS" = some (some (.int 24 tg_MOST_DIPS)))
    (na_hold_by_kind : PySem.W.findIn K (.ref f_Book) "hold_by_kind" = some none)
    (na_thirst_rows : PySem.W.findIn K (.ref f_Book) "thirst_rows" = some none)
    (na_pot_names : PySem.W.findIn K (.ref f_Book) "pot_names" = some none)
    (na_kind_by_cloth : PySem.W.findIn K (.ref f_Book) "kind_by_cloth" = some none)
    (na_dip_rows : PySem.W.findIn K (.ref f_Book) "dip_rows" = some none)
    (na_fact_rows : PySem.W.findIn K (.ref f_Book) "fact_rows" = some none)
    (na_most_dips : PySem.W.findIn K (.ref f_Book) "most_dips" = some none)
    (rdh_Book : PySem.W.readsIn K f_Book (.type "type") = true)
    (gah_Book : PySem.W.specialIn K (.ref f_Book) "__getattribute__" = some (some (.builtin "type.__getattribute__")))
    (cv_NAMES : PySem.W.findCls K (.ref f_Book) (.type "type") "NAMES" = some (.val (.int 8 tv_NAMES)))
    (cv_FACTS : PySem.W.findCls K (.ref f_Book) (.type "type") "FACTS" = some (.val (.int 32 tv_FACTS)))
    (cv_DIPS : PySem.W.findCls K (.ref f_Book) (.type "type") "DIPS" = some (.val (.int 24 tv_DIPS)))
    (a_DyeError : PySem.W.nsIn K mainGlobals "DyeError" = some (some (.ref f_DyeError)))
    (a_BadName : PySem.W.nsIn K mainGlobals "BadName" = some (some (.ref f_BadName)))
    (a_BadHold : PySem.W.nsIn K mainGlobals "BadHold" = some (some (.ref f_BadHold)))
    (a_BadNumber : PySem.W.nsIn K mainGlobals "BadNumber" = some (some (.ref f_BadNumber)))
    (a_BadAmount : PySem.W.nsIn K mainGlobals "BadAmount" = some (some (.ref f_BadAmount)))
    (a_Known : PySem.W.nsIn K mainGlobals "Known" = some (some (.ref f_Known)))
    (a_Unknown : PySem.W.nsIn K mainGlobals "Unknown" = some (some (.ref f_Unknown)))
    (a_Full : PySem.W.nsIn K mainGlobals "Full" = some (some (.ref f_Full)))
    (n_isinstance : PySem.W.nsIn K mainGlobals "isinstance" = some none)
    (n_int : PySem.W.nsIn K mainGlobals "int" = some none)
    (n_bool : PySem.W.nsIn K mainGlobals "bool" = some none)
    (n_tuple : PySem.W.nsIn K mainGlobals "tuple" = some none)
    (n_len : PySem.W.nsIn K mainGlobals "len" = some none)
    (n_str : PySem.W.nsIn K mainGlobals "str" = some none)
    (n_all : PySem.W.nsIn K mainGlobals "all" = some none)
    (n_range : PySem.W.nsIn K mainGlobals "range" = some none)
    (n_enumerate : PySem.W.nsIn K mainGlobals "enumerate" = some none)
    (n_abs : PySem.W.nsIn K mainGlobals "abs" = some none)
    (n_min : PySem.W.nsIn K mainGlobals "min" = some none)
    (n_list : PySem.W.nsIn K mainGlobals "list" = some none)
    (i_DyeError : PySem.W.clsIn K f_DyeError = some cdd_DyeError)
    (t_DyeError : PySem.W.typeIn K (.ref f_DyeError) = some (.type "type"))
    (i_BadName : PySem.W.clsIn K f_BadName = some cdd_BadName)
    (t_BadName : PySem.W.typeIn K (.ref f_BadName) = some (.type "type"))
    (i_BadHold : PySem.W.clsIn K f_BadHold = some cdd_BadHold)
    (t_BadHold : PySem.W.typeIn K (.ref f_BadHold) = some (.type "type"))
    (i_BadNumber : PySem.W.clsIn K f_BadNumber = some cdd_BadNumber)
    (t_BadNumber : PySem.W.typeIn K (.ref f_BadNumber) = some (.type "type"))
    (i_BadAmount : PySem.W.clsIn K f_BadAmount = some cdd_BadAmount)
    (t_BadAmount : PySem.W.typeIn K (.ref f_BadAmount) = some (.type "type"))
    (i_Known : PySem.W.clsIn K f_Known = some cdd_Known)
    (t_Known : PySem.W.typeIn K (.ref f_Known) = some (.type "type"))
    (i_Unknown : PySem.W.clsIn K f_Unknown = some cdd_Unknown)
    (t_Unknown : PySem.W.typeIn K (.ref f_Unknown) = some (.type "type"))
    (i_Full : PySem.W.clsIn K f_Full = some cdd_Full)
    (t_Full : PySem.W.typeIn K (.ref f_Full) = some (.type "type"))
    (i_Book : PySem.W.clsIn K f_Book = some cdd_Book)
    (t_Book : PySem.W.typeIn K (.ref f_Book) = some (.type "type"))
    (hn_ : PySem.W.specialIn K (.builtin "object.__class__") "__get__" = some (some (.builtin "getset_descriptor.__get__")))
    (ht_ : PySem.W.takesIn K (.builtin "object.__class__") = some true)
    (s_Unknown_DyeError : PySem.W.subIn K (.ref f_Unknown) (.ref f_DyeError) = some true)
    (s_Unknown_BadName : PySem.W.subIn K (.ref f_Unknown) (.ref f_BadName) = some false)
    (s_Unknown_BadHold : PySem.W.subIn K (.ref f_Unknown) (.ref f_BadHold) = some false)
    (s_Unknown_BadNumber : PySem.W.subIn K (.ref f_Unknown) (.ref f_BadNumber) = some false)
    (s_Unknown_BadAmount : PySem.W.subIn K (.ref f_Unknown) (.ref f_BadAmount) = some false)
    (s_Unknown_Known : PySem.W.subIn K (.ref f_Unknown) (.ref f_Known) = some false)
    (s_Unknown_Unknown : PySem.W.subIn K (.ref f_Unknown) (.ref f_Unknown) = some true)
    (s_Unknown_Full : PySem.W.subIn K (.ref f_Unknown) (.ref f_Full) = some false)
    (s_Unknown_Book : PySem.W.subIn K (.ref f_Unknown) (.ref f_Book) = some false)
    (ga_Unknown : PySem.W.findIn K (.ref f_Unknown) "__getattribute__" = some (some (.builtin "BaseException.__getattribute__")))
    (gg_Unknown : PySem.W.findIn K (.ref f_Unknown) "__getattr__" = some none)
    (hac_Unknown : PySem.W.findIn K (.ref f_Unknown) "__class__" = some (some (.builtin "object.__class__")))
    (hmo_Unknown : PySem.W.mroIn K f_Unknown (.type "object") = some true)
    (hd_Unknown : PySem.W.hasDictIn K f_Unknown = true)
    (bE_DyeError : PySem.W.subIn K (.ref f_DyeError) (.type "BaseException") = some true)
    (ho_ : PySem.W.nsIn K cStatics "thirdparty.any" = some none)
    (hsup_ : PySem.W.nsIn K mainGlobals "super" = some none)
    (htop_ : (l.prog.main.scope.names.lookup ("super" : Str)).isSome = false)
    (lo_BadName : List.lookup f_BadName K = some (PySem.excClassObj nm_BadName q_BadName f_BadName N_BadName bs_BadName bm_BadName true sn_BadName sub_BadName ab_BadName col_BadName dd_BadName k0_BadName k1_BadName k2_BadName k3_BadName k5_BadName "ValueError.__new__"))
    (re_BadName : PySem.HandSPX.refsVE bm_BadName = true)
    (sa_BadName : PySem.W.findIn K (.ref f_BadName) "__setattr__" = some (some (.builtin "object.__setattr__")))
    (no_BadName : PySem.W.findIn K (.ref f_BadName) "thing" = some none)
    (ii_BadName : PySem.W.findIn K (.ref f_BadName) "__init__" = some (some (.ref f_dyeInit)))
    (kk_BadName : PySem.W.keepIn K (.ref f_BadName) = true)
    (bE_BadName : PySem.W.subIn K (.ref f_BadName) (.type "BaseException") = some true)
    (ty_BadName : PySem.W.typeIn K (.ref f_BadName) = some (.type "type"))
    (xi_BadName : PySem.W.excInitIn K f_BadName PySem.HandSPX.veTail "ValueError.__new__" = true)
    (su_BadName : PySem.W.ks_superIn K f_BadName f_DyeError "__init__" = some (some (.builtin "ValueError.__init__")))
    (vE_BadName : PySem.W.subIn K (.ref f_BadName) (.type "ValueError") = some true)
    (mr_BadName : PySem.W.mroIn K f_BadName (.ref f_DyeError) = some true)
    (lo_Known : List.lookup f_Known K = some (PySem.excClassObj nm_Known q_Known f_Known N_Known bs_Known bm_Known true sn_Known sub_Known ab_Known col_Known dd_Known k0_Known k1_Known k2_Known k3_Known k5_Known "ValueError.__new__"))
    (re_Known : PySem.HandSPX.refsVE bm_Known = true)
    (sa_Known : PySem.W.findIn K (.ref f_Known) "__setattr__" = some (some (.builtin "object.__setattr__")))
    (no_Known : PySem.W.findIn K (.ref f_Known) "thing" = some none)
    (ii_Known : PySem.W.findIn K (.ref f_Known) "__init__" = some (some (.ref f_dyeInit)))
    (kk_Known : PySem.W.keepIn K (.ref f_Known) = true)
    (bE_Known : PySem.W.subIn K (.ref f_Known) (.type "BaseException") = some true)
    (ty_Known : PySem.W.typeIn K (.ref f_Known) = some (.type "type"))
    (xi_Known : PySem.W.excInitIn K f_Known PySem.HandSPX.veTail "ValueError.__new__" = true)
    (su_Known : PySem.W.ks_superIn K f_Known f_DyeError "__init__" = some (some (.builtin "ValueError.__init__")))
    (vE_Known : PySem.W.subIn K (.ref f_Known) (.type "ValueError") = some true)
    (mr_Known : PySem.W.mroIn K f_Known (.ref f_DyeError) = some true)
    (lo_Unknown : List.lookup f_Unknown K = some (PySem.excClassObj nm_Unknown q_Unknown f_Unknown N_Unknown bs_Unknown bm_Unknown true sn_Unknown sub_Unknown ab_Unknown col_Unknown dd_Unknown k0_Unknown k1_Unknown k2_Unknown k3_Unknown k5_Unknown "ValueError.__new__"))
    (re_Unknown : PySem.HandSPX.refsVE bm_Unknown = true)
    (sa_Unknown : PySem.W.findIn K (.ref f_Unknown) "__setattr__" = some (some (.builtin "object.__setattr__")))
    (no_Unknown : PySem.W.findIn K (.ref f_Unknown) "thing" = some none)
    (ii_Unknown : PySem.W.findIn K (.ref f_Unknown) "__init__" = some (some (.ref f_dyeInit)))
    (kk_Unknown : PySem.W.keepIn K (.ref f_Unknown) = true)
    (bE_Unknown : PySem.W.subIn K (.ref f_Unknown) (.type "BaseException") = some true)
    (ty_Unknown : PySem.W.typeIn K (.ref f_Unknown) = some (.type "type"))
    (xi_Unknown : PySem.W.excInitIn K f_Unknown PySem.HandSPX.veTail "ValueError.__new__" = true)
    (su_Unknown : PySem.W.ks_superIn K f_Unknown f_DyeError "__init__" = some (some (.builtin "ValueError.__init__")))
    (vE_Unknown : PySem.W.subIn K (.ref f_Unknown) (.type "ValueError") = some true)
    (mr_Unknown : PySem.W.mroIn K f_Unknown (.ref f_DyeError) = some true)
    (lo_Full : List.lookup f_Full K = some (PySem.excClassObj nm_Full q_Full f_Full N_Full bs_Full bm_Full true sn_Full sub_Full ab_Full col_Full dd_Full k0_Full k1_Full k2_Full k3_Full k5_Full "ValueError.__new__"))
    (re_Full : PySem.HandSPX.refsVE bm_Full = true)
    (sa_Full : PySem.W.findIn K (.ref f_Full) "__setattr__" = some (some (.builtin "object.__setattr__")))
    (no_Full : PySem.W.findIn K (.ref f_Full) "thing" = some none)
    (ii_Full : PySem.W.findIn K (.ref f_Full) "__init__" = some (some (.ref f_dyeInit)))
    (kk_Full : PySem.W.keepIn K (.ref f_Full) = true)
    (bE_Full : PySem.W.subIn K (.ref f_Full) (.type "BaseException") = some true)
    (ty_Full : PySem.W.typeIn K (.ref f_Full) = some (.type "type"))
    (xi_Full : PySem.W.excInitIn K f_Full PySem.HandSPX.veTail "ValueError.__new__" = true)
    (su_Full : PySem.W.ks_superIn K f_Full f_DyeError "__init__" = some (some (.builtin "ValueError.__init__")))
    (vE_Full : PySem.W.subIn K (.ref f_Full) (.type "ValueError") = some true)
    (mr_Full : PySem.W.mroIn K f_Full (.ref f_DyeError) = some true)
    (lo_BadNumber : List.lookup f_BadNumber K = some (PySem.excClassObj nm_BadNumber q_BadNumber f_BadNumber N_BadNumber bs_BadNumber bm_BadNumber true sn_BadNumber sub_BadNumber ab_BadNumber col_BadNumber dd_BadNumber k0_BadNumber k1_BadNumber k2_BadNumber k3_BadNumber k5_BadNumber "ValueError.__new__"))
    (re_BadNumber : PySem.HandSPX.refsVE bm_BadNumber = true)
    (sa_BadNumber : PySem.W.findIn K (.ref f_BadNumber) "__setattr__" = some (some (.builtin "object.__setattr__")))
    (no_BadNumber : PySem.W.findIn K (.ref f_BadNumber) "thing" = some none)
    (ii_BadNumber : PySem.W.findIn K (.ref f_BadNumber) "__init__" = some (some (.ref f_dyeInit)))
    (kk_BadNumber : PySem.W.keepIn K (.ref f_BadNumber) = true)
    (bE_BadNumber : PySem.W.subIn K (.ref f_BadNumber) (.type "BaseException") = some true)
    (ty_BadNumber : PySem.W.typeIn K (.ref f_BadNumber) = some (.type "type"))
    (xi_BadNumber : PySem.W.excInitIn K f_BadNumber PySem.HandSPX.veTail "ValueError.__new__" = true)
    (su_BadNumber : PySem.W.ks_superIn K f_BadNumber f_DyeError "__init__" = some (some (.builtin "ValueError.__init__")))
    (vE_BadNumber : PySem.W.subIn K (.ref f_BadNumber) (.type "ValueError") = some true)
    (mr_BadNumber : PySem.W.mroIn K f_BadNumber (.ref f_DyeError) = some true)
    (lo_BadHold : List.lookup f_BadHold K = some (PySem.excClassObj nm_BadHold q_BadHold f_BadHold N_BadHold bs_BadHold bm_BadHold true sn_BadHold sub_BadHold ab_BadHold col_BadHold dd_BadHold k0_BadHold k1_BadHold k2_BadHold k3_BadHold k5_BadHold "ValueError.__new__"))
    (re_BadHold : PySem.HandSPX.refsVE bm_BadHold = true)
    (sa_BadHold : PySem.W.findIn K (.ref f_BadHold) "__setattr__" = some (some (.builtin "object.__setattr__")))
    (no_BadHold : PySem.W.findIn K (.ref f_BadHold) "thing" = some none)
    (ii_BadHold : PySem.W.findIn K (.ref f_BadHold) "__init__" = some (some (.ref f_dyeInit)))
    (kk_BadHold : PySem.W.keepIn K (.ref f_BadHold) = true)
    (bE_BadHold : PySem.W.subIn K (.ref f_BadHold) (.type "BaseException") = some true)
    (ty_BadHold : PySem.W.typeIn K (.ref f_BadHold) = some (.type "type"))
    (xi_BadHold : PySem.W.excInitIn K f_BadHold PySem.HandSPX.veTail "ValueError.__new__" = true)
    (su_BadHold : PySem.W.ks_superIn K f_BadHold f_DyeError "__init__" = some (some (.builtin "ValueError.__init__")))
    (vE_BadHold : PySem.W.subIn K (.ref f_BadHold) (.type "ValueError") = some true)
    (mr_BadHold : PySem.W.mroIn K f_BadHold (.ref f_DyeError) = some true)
    (lo_BadAmount : List.lookup f_BadAmount K = some (PySem.excClassObj nm_BadAmount q_BadAmount f_BadAmount N_BadAmount bs_BadAmount bm_BadAmount true sn_BadAmount sub_BadAmount ab_BadAmount col_BadAmount dd_BadAmount k0_BadAmount k1_BadAmount k2_BadAmount k3_BadAmount k5_BadAmount "ValueError.__new__"))
    (re_BadAmount : PySem.HandSPX.refsVE bm_BadAmount = true)
    (sa_BadAmount : PySem.W.findIn K (.ref f_BadAmount) "__setattr__" = some (some (.builtin "object.__setattr__")))
    (no_BadAmount : PySem.W.findIn K (.ref f_BadAmount) "thing" = some none)
    (ii_BadAmount : PySem.W.findIn K (.ref f_BadAmount) "__init__" = some (some (.ref f_dyeInit)))
    (kk_BadAmount : PySem.W.keepIn K (.ref f_BadAmount) = true)
    (bE_BadAmount : PySem.W.subIn K (.ref f_BadAmount) (.type "BaseException") = some true)
    (ty_BadAmount : PySem.W.typeIn K (.ref f_BadAmount) = some (.type "type"))
    (xi_BadAmount : PySem.W.excInitIn K f_BadAmount PySem.HandSPX.veTail "ValueError.__new__" = true)
    (su_BadAmount : PySem.W.ks_superIn K f_BadAmount f_DyeError "__init__" = some (some (.builtin "ValueError.__init__")))
    (vE_BadAmount : PySem.W.subIn K (.ref f_BadAmount) (.type "ValueError") = some true)
    (mr_BadAmount : PySem.W.mroIn K f_BadAmount (.ref f_DyeError) = some true)
    (tI_ : PySem.W.typeIn K (.ref f_dyeInit) = some (.type "function"))
    (lI_ : K.lookup f_dyeInit = some ⟨oc, od, .func (PySem.W.ksFn "__init__" "DyeError.__init__" (PySem.DyeX.iA p1 p2 p3 p4 j) (PySem.DyeX.iB a1 a2 a3 a4 a5 a6 q1 q2 q3 q4) PySem.DyeX.iS (.ref dT) .none doc pm an (.ref cda) ct cc), osl⟩)
    (line_ : (a3.endLine == a5.line) = true)
    (lD_ : K.lookup dT = some ⟨dcl, ddd, .seq #[dI] dN, dsl⟩)
    (cI_ : PySem.W.codeIn K (.ref cda) "DyeError.__init__" = true)
    (lC_ : K.lookup cda = some ⟨ccl, cdd, .fields vs, ccs⟩)
    (vf_ : vs[2]? = some (.str file tf))
    (fi_ : ((l.prog.main.file : Str) == file) = true)
    (lc_ : K.lookup cc = some ⟨cl, cld, .cell (some (.ref f_DyeError)), csl⟩)
    (cD_ : PySem.W.clsIn K f_DyeError = some cdD) :
    ∃ fd : FuncData, (∀ (s : Shared) (v : Value), BindsTo s fd ⟨[v], []⟩ [("_law_script", v)]) ∧ ∀ base : Heap, K.In base → base.Ns mainGlobals mg → FnOk l.prog w K mg base CX0 12 fa fd ["_law_script"] (lift3B (S_law K)) := by
  have e := hfa.symm.trans (PySem.W.mg_of X G a_law)
  obtain rfl : f_law = fa := by cases e; rfl
  have F_is_whole := fun_mk (st := s_is_whole) l_is_whole c_is_whole k_is_whole
  have F_is_amount := fun_mk (st := s_is_amount) l_is_amount c_is_amount k_is_amount
  have F_check_name := fun_mk (st := s_check_name) l_check_name c_check_name k_check_name
  have F_check_known := fun_mk (st := s_check_known) l_check_known c_check_known k_check_known
  have F_check_room := fun_mk (st := s_check_room) l_check_room c_check_room k_check_room
  have F_Book___init__ : FunD K "__init__" "Book.__init__" (defArgs s_Book___init__) (defBody s_Book___init__) (defScope s_Book___init__) [] [("bound", .int 24)] f_Book___init__ (PySem.W.fnOf "__init__" "Book.__init__" (defArgs s_Book___init__) (defBody s_Book___init__) (defScope s_Book___init__) .none (.ref kD_Book___init__) dc_Book___init__ pm_Book___init__ an_Book___init__ cd_Book___init__ ct_Book___init__) := ⟨⟨_, _, _, _, _, _, _, _, _, _, rfl, l_Book___init__, c_Book___init__, .inl ⟨rfl, rfl⟩, .inr ⟨_, rfl, fun q hq => by (rcases List.mem_cons.mp hq with rfl | hq; exact ⟨_, kd_Book___init___0, ⟨_, rfl⟩⟩; cases hq)⟩⟩, k_Book___init__⟩
  have hb0_Book___init__ := F_Book___init__.binds0 (ps := ["self", "bound"]) 1 (List.cons_ne_nil _ _) rfl fun _ _ _ _ _ _ us ks hl hl2 => match us, ks, hl, hl2 with | [_], [_], _, _ => ⟨_, _, _, _, _, _, rfl, rfl, rfl⟩
  have F_Book_bound := fun_mk (st := s_Book_bound) l_Book_bound c_Book_bound k_Book_bound
  have F_Book_add_kind : FunD K "add_kind" "Book.add_kind" (defArgs s_Book_add_kind) (defBody s_Book_add_kind) (defScope s_Book_add_kind) [] [("hold", .str "unsure")] f_Book_add_kind (PySem.W.fnOf "add_kind" "Book.add_kind" (defArgs s_Book_add_kind) (defBody s_Book_add_kind) (defScope s_Book_add_kind) .none (.ref kD_Book_add_kind) dc_Book_add_kind pm_Book_add_kind an_Book_add_kind cd_Book_add_kind ct_Book_add_kind) := ⟨⟨_, _, _, _, _, _, _, _, _, _, rfl, l_Book_add_kind, c_Book_add_kind, .inl ⟨rfl, rfl⟩, .inr ⟨_, rfl, fun q hq => by (rcases List.mem_cons.mp hq with rfl | hq; exact ⟨_, kd_Book_add_kind_0, ⟨_, rfl⟩⟩; cases hq)⟩⟩, k_Book_add_kind⟩
  have hb0_Book_add_kind := F_Book_add_kind.binds0 (ps := ["self", "name", "hold"]) 2 (List.cons_ne_nil _ _) rfl fun _ _ _ _ _ _ us ks hl hl2 => match us, ks, hl, hl2 with | [_, _], [_], _, _ => ⟨_, _, _, _, _, _, rfl, rfl, rfl⟩
  have F_Book_add_thirst := fun_mk (st := s_Book_add_thirst) l_Book_add_thirst c_Book_add_thirst k_Book_add_thirst
  have F_Book_add_pot := fun_mk (st := s_Book_add_pot) l_Book_add_pot c_Book_add_pot k_Book_add_pot
  have F_Book_add_cloth := fun_mk (st := s_Book_add_cloth) l_Book_add_cloth c_Book_add_cloth k_Book_add_cloth
  have F_Book_dip := fun_mk (st := s_Book_dip) l_Book_dip c_Book_dip k_Book_dip
  have F_Book_tell := fun_mk (st := s_Book_tell) l_Book_tell c_Book_tell k_Book_tell
  have F_Book_tell_some := fun_mk (st := s_Book_tell_some) l_Book_tell_some c_Book_tell_some k_Book_tell_some
  have F_Book_add_fact := fun_mk (st := s_Book_add_fact) l_Book_add_fact c_Book_add_fact k_Book_add_fact
  have F_Book_kind_of := fun_mk (st := s_Book_kind_of) l_Book_kind_of c_Book_kind_of k_Book_kind_of
  have F_Book_hold_of := fun_mk (st := s_Book_hold_of) l_Book_hold_of c_Book_hold_of k_Book_hold_of
  have F_Book_previous := fun_mk (st := s_Book_previous) l_Book_previous c_Book_previous k_Book_previous
  have F_Book_leaves := fun_mk (st := s_Book_leaves) l_Book_leaves c_Book_leaves k_Book_leaves
  have F_Book_amounts := fun_mk (st := s_Book_amounts) l_Book_amounts c_Book_amounts k_Book_amounts
  have F_Book_where := fun_mk (st := s_Book_where) l_Book_where c_Book_where k_Book_where
  have F_lw_is_whole := fun_mk (st := s_lw_is_whole) l_lw_is_whole c_lw_is_whole k_lw_is_whole
  have F_source := fun_mk (st := s_source) l_source c_source k_source
  have F_draw := fun_mk (st := s_draw) l_draw c_draw k_draw
  have F_word := fun_mk (st := s_word) l_word c_word k_word
  have F_name := fun_mk (st := s_name) l_name c_name k_name
  have F_names := fun_mk (st := s_names) l_names c_names k_names
  have F_model := fun_mk (st := s_model) l_model c_model k_model
  have F_sort := fun_mk (st := s_sort) l_sort c_sort k_sort
  have F_build := fun_mk (st := s_build) l_build c_build k_build
  have F_matches := fun_mk (st := s_matches) l_matches c_matches k_matches
  have F_refused := fun_mk (st := s_refused) l_refused c_refused k_refused
  have F_good := fun_mk (st := s_good) l_good c_good k_good
  have F_law := fun_mk (st := s_law) l_law c_law k_law
  have b_is_whole := F_is_whole.binds (ps := ["value"]) fun _ _ _ _ _ _ us hl => match us, hl with | [_], _ => rfl
  have b_Book_bound := F_Book_bound.binds (ps := ["self", "number"]) fun _ _ _ _ _ _ us hl => match us, hl with | [_, _], _ => rfl
  have b_check_name := F_check_name.binds (ps := ["name", "known"]) fun _ _ _ _ _ _ us hl => match us, hl with | [_, _], _ => rfl
  have b_check_room := F_check_room.binds (ps := ["things", "most"]) fun _ _ _ _ _ _ us hl => match us, hl with | [_, _], _ => rfl
  have b_check_known := F_check_known.binds (ps := ["name", "known"]) fun _ _ _ _ _ _ us hl => match us, hl with | [_, _], _ => rfl
  have b_Book_add_fact := F_Book_add_fact.binds (ps := ["self", "fact"]) fun _ _ _ _ _ _ us hl => match us, hl with | [_, _], _ => rfl
  have b_Book_amounts := F_Book_amounts.binds (ps := ["self"]) fun _ _ _ _ _ _ us hl => match us, hl with | [_], _ => rfl
  have b_is_amount := F_is_amount.binds (ps := ["value"]) fun _ _ _ _ _ _ us hl => match us, hl with | [_], _ => rfl
  have b_Book_previous := F_Book_previous.binds (ps := ["self", "number"]) fun _ _ _ _ _ _ us hl => match us, hl with | [_, _], _ => rfl
  have b_Book_hold_of := F_Book_hold_of.binds (ps := ["self", "kind"]) fun _ _ _ _ _ _ us hl => match us, hl with | [_, _], _ => rfl
  have b_Book_kind_of := F_Book_kind_of.binds (ps := ["self", "cloth"]) fun _ _ _ _ _ _ us hl => match us, hl with | [_, _], _ => rfl
  have b_Book_leaves := F_Book_leaves.binds (ps := ["self", "number"]) fun _ _ _ _ _ _ us hl => match us, hl with | [_, _], _ => rfl
  have b_draw := F_draw.binds (ps := ["_law_source_here", "_law_many"]) fun _ _ _ _ _ _ us hl => match us, hl with | [_, _], _ => rfl
  have b_word := F_word.binds (ps := ["_law_number"]) fun _ _ _ _ _ _ us hl => match us, hl with | [_], _ => rfl
  have b_name := F_name.binds (ps := ["_law_source_here", "_law_k"]) fun _ _ _ _ _ _ us hl => match us, hl with | [_, _], _ => rfl
  have b_names := F_names.binds (ps := ["_law_source_here", "_law_many"]) fun _ _ _ _ _ _ us hl => match us, hl with | [_, _], _ => rfl
  have b_Book_add_thirst := F_Book_add_thirst.binds (ps := ["self", "more", "less"]) fun _ _ _ _ _ _ us hl => match us, hl with | [_, _, _], _ => rfl
  have b_Book_add_pot := F_Book_add_pot.binds (ps := ["self", "name"]) fun _ _ _ _ _ _ us hl => match us, hl with | [_, _], _ => rfl
  have b_Book_add_cloth := F_Book_add_cloth.binds (ps := ["self", "name", "kind"]) fun _ _ _ _ _ _ us hl => match us, hl with | [_, _, _], _ => rfl
  have b_Book_dip := F_Book_dip.binds (ps := ["self", "cloth", "pot"]) fun _ _ _ _ _ _ us hl => match us, hl with | [_, _, _], _ => rfl
  have b_Book_tell := F_Book_tell.binds (ps := ["self", "more", "less"]) fun _ _ _ _ _ _ us hl => match us, hl with | [_, _, _], _ => rfl
  have b_Book_tell_some := F_Book_tell_some.binds (ps := ["self", "amount"]) fun _ _ _ _ _ _ us hl => match us, hl with | [_, _], _ => rfl
  have b_sort := F_sort.binds (ps := ["_law_model_here", "_law_garment"]) fun _ _ _ _ _ _ us hl => match us, hl with | [_, _], _ => rfl
  have b_matches := F_matches.binds (ps := ["_law_model_here", "_law_garment", "_law_vat", "_law_sort_here"]) fun _ _ _ _ _ _ us hl => match us, hl with | [_, _, _, _], _ => rfl
  have b_lw_is_whole := F_lw_is_whole.binds (ps := ["_law_value"]) fun _ _ _ _ _ _ us hl => match us, hl with | [_], _ => rfl
  have b_source := F_source.binds (ps := ["_law_script"]) fun _ _ _ _ _ _ us hl => match us, hl with | [_], _ => rfl
  have b_model := F_model.binds (ps := ["_law_source_here", "_law_most"]) fun _ _ _ _ _ _ us hl => match us, hl with | [_, _], _ => rfl
  have b_build := F_build.binds (ps := ["_law_model_here"]) fun _ _ _ _ _ _ us hl => match us, hl with | [_], _ => rfl
  have b_good := F_good.binds (ps := ["_law_book", "_law_model_here", "_law_names_here"]) fun _ _ _ _ _ _ us hl => match us, hl with | [_, _, _], _ => rfl
  have b_refused := F_refused.binds (ps := ["_law_book", "_law_way", "_law_vat"]) fun _ _ _ _ _ _ us hl => match us, hl with | [_, _, _], _ => rfl
  have DY_BadName : PySem.DyeX.DyeTxt l.prog K f_DyeError f_BadName f_dyeInit := ⟨⟨_, _, _, _, _, _, _, _, _, _, _, _, _, _, _, lo_BadName, re_BadName⟩, sa_BadName, no_BadName, ii_BadName, tI_, kk_BadName, bE_BadName, ty_BadName, xi_BadName, su_BadName, vE_BadName, mr_BadName, hsup_, ho_, htop_, ⟨_, _, _, _, _, _, _, _, _, _, _, _, _, _, _, _, _, _, _, _, _, _, _, _, _, _, _, _, _, _, _, _, _, _, _, _, _, _, line_, lI_, lD_, rfl, cI_, lC_, vf_, fi_, lc_, cD_⟩⟩
  have DY_Known : PySem.DyeX.DyeTxt l.prog K f_DyeError f_Known f_dyeInit := ⟨⟨_, _, _, _, _, _, _, _, _, _, _, _, _, _, _, lo_Known, re_Known⟩, sa_Known, no_Known, ii_Known, tI_, kk_Known, bE_Known, ty_Known, xi_Known, su_Known, vE_Known, mr_Known, hsup_, ho_, htop_, ⟨_, _, _, _, _, _, _, _, _, _, _, _, _, _, _, _, _, _, _, _, _, _, _, _, _, _, _, _, _, _, _, _, _, _, _, _, _, _, line_, lI_, lD_, rfl, cI_, lC_, vf_, fi_, lc_, cD_⟩⟩
  have DY_Unknown : PySem.DyeX.DyeTxt l.prog K f_DyeError f_Unknown f_dyeInit := ⟨⟨_, _, _, _, _, _, _, _, _, _, _, _, _, _, _, lo_Unknown, re_Unknown⟩, sa_Unknown, no_Unknown, ii_Unknown, tI_, kk_Unknown, bE_Unknown, ty_Unknown, xi_Unknown, su_Unknown, vE_Unknown, mr_Unknown, hsup_, ho_, htop_, ⟨_, _, _, _, _, _, _, _, _, _, _, _, _, _, _, _, _, _, _, _, _, _, _, _, _, _, _, _, _, _, _, _, _, _, _, _, _, _, line_, lI_, lD_, rfl, cI_, lC_, vf_, fi_, lc_, cD_⟩⟩
  have DY_Full : PySem.DyeX.DyeTxt l.prog K f_DyeError f_Full f_dyeInit := ⟨⟨_, _, _, _, _, _, _, _, _, _, _, _, _, _, _, lo_Full, re_Full⟩, sa_Full, no_Full, ii_Full, tI_, kk_Full, bE_Full, ty_Full, xi_Full, su_Full, vE_Full, mr_Full, hsup_, ho_, htop_, ⟨_, _, _, _, _, _, _, _, _, _, _, _, _, _, _, _, _, _, _, _, _, _, _, _, _, _, _, _, _, _, _, _, _, _, _, _, _, _, line_, lI_, lD_, rfl, cI_, lC_, vf_, fi_, lc_, cD_⟩⟩
  have DY_BadNumber : PySem.DyeX.DyeTxt l.prog K f_DyeError f_BadNumber f_dyeInit := ⟨⟨_, _, _, _, _, _, _, _, _, _, _, _, _, _, _, lo_BadNumber, re_BadNumber⟩, sa_BadNumber, no_BadNumber, ii_BadNumber, tI_, kk_BadNumber, bE_BadNumber, ty_BadNumber, xi_BadNumber, su_BadNumber, vE_BadNumber, mr_BadNumber, hsup_, ho_, htop_, ⟨_, _, _, _, _, _, _, _, _, _, _, _, _, _, _, _, _, _, _, _, _, _, _, _, _, _, _, _, _, _, _, _, _, _, _, _, _, _, line_, lI_, lD_, rfl, cI_, lC_, vf_, fi_, lc_, cD_⟩⟩
  have DY_BadHold : PySem.DyeX.DyeTxt l.prog K f_DyeError f_BadHold f_dyeInit := ⟨⟨_, _, _, _, _, _, _, _, _, _, _, _, _, _, _, lo_BadHold, re_BadHold⟩, sa_BadHold, no_BadHold, ii_BadHold, tI_, kk_BadHold, bE_BadHold, ty_BadHold, xi_BadHold, su_BadHold, vE_BadHold, mr_BadHold, hsup_, ho_, htop_, ⟨_, _, _, _, _, _, _, _, _, _, _, _, _, _, _, _, _, _, _, _, _, _, _, _, _, _, _, _, _, _, _, _, _, _, _, _, _, _, line_, lI_, lD_, rfl, cI_, lC_, vf_, fi_, lc_, cD_⟩⟩
  have DY_BadAmount : PySem.DyeX.DyeTxt l.prog K f_DyeError f_BadAmount f_dyeInit := ⟨⟨_, _, _, _, _, _, _, _, _, _, _, _, _, _, _, lo_BadAmount, re_BadAmount⟩, sa_BadAmount, no_BadAmount, ii_BadAmount, tI_, kk_BadAmount, bE_BadAmount, ty_BadAmount, xi_BadAmount, su_BadAmount, vE_BadAmount, mr_BadAmount, hsup_, ho_, htop_, ⟨_, _, _, _, _, _, _, _, _, _, _, _, _, _, _, _, _, _, _, _, _, _, _, _, _, _, _, _, _, _, _, _, _, _, _, _, _, _, line_, lI_, lD_, rfl, cI_, lC_, vf_, fi_, lc_, cD_⟩⟩
  let A0 : Adr := { f_is_whole := f_is_whole, d_is_whole := PySem.W.fnOf "is_whole" "is_whole" (defArgs s_is_whole) (defBody s_is_whole) (defScope s_is_whole) .none kV_is_whole dc_is_whole pm_is_whole an_is_whole cd_is_whole ct_is_whole, f_is_amount := f_is_amount, d_is_amount := PySem.W.fnOf "is_amount" "is_amount" (defArgs s_is_amount) (defBody s_is_amount) (defScope s_is_amount) .none kV_is_amount dc_is_amount pm_is_amount an_is_amount cd_is_amount ct_is_amount, f_check_name := f_check_name, d_check_name := PySem.W.fnOf "check_name" "check_name" (defArgs s_check_name) (defBody s_check_name) (defScope s_check_name) .none kV_check_name dc_check_name pm_check_name an_check_name cd_check_name ct_check_name, f_check_known := f_check_known, d_check_known := PySem.W.fnOf "check_known" "check_known" (defArgs s_check_known) (defBody s_check_known) (defScope s_check_known) .none kV_check_known dc_check_known pm_check_known an_check_known cd_check_known ct_check_known, f_check_room := f_check_room, d_check_room := PySem.W.fnOf "check_room" "check_room" (defArgs s_check_room) (defBody s_check_room) (defScope s_check_room) .none kV_check_room dc_check_room pm_check_room an_check_room cd_check_room ct_check_room, f_Book___init__ := f_Book___init__, d_Book___init__ := PySem.W.fnOf "__init__" "Book.__init__" (defArgs s_Book___init__) (defBody s_Book___init__) (defScope s_Book___init__) .none (.ref kD_Book___init__) dc_Book___init__ pm_Book___init__ an_Book___init__ cd_Book___init__ ct_Book___init__, f_Book_bound := f_Book_bound, d_Book_bound := PySem.W.fnOf "bound" "Book.bound" (defArgs s_Book_bound) (defBody s_Book_bound) (defScope s_Book_bound) .none kV_Book_bound dc_Book_bound pm_Book_bound an_Book_bound cd_Book_bound ct_Book_bound, f_Book_add_kind := f_Book_add_kind, d_Book_add_kind := PySem.W.fnOf "add_kind" "Book.add_kind" (defArgs s_Book_add_kind) (defBody s_Book_add_kind) (defScope s_Book_add_kind) .none (.ref kD_Book_add_kind) dc_Book_add_kind pm_Book_add_kind an_Book_add_kind cd_Book_add_kind ct_Book_add_kind, f_Book_add_thirst := f_Book_add_thirst, d_Book_add_thirst := PySem.W.fnOf "add_thirst" "Book.add_thirst" (defArgs s_Book_add_thirst) (defBody s_Book_add_thirst) (defScope s_Book_add_thirst) .none kV_Book_add_thirst dc_Book_add_thirst pm_Book_add_thirst an_Book_add_thirst cd_Book_add_thirst ct_Book_add_thirst, f_Book_add_pot := f_Book_add_pot, d_Book_add_pot := PySem.W.fnOf "add_pot" "Book.add_pot" (defArgs s_Book_add_pot) (defBody s_Book_add_pot) (defScope s_Book_add_pot) .none kV_Book_add_pot dc_Book_add_pot pm_Book_add_pot an_Book_add_pot cd_Book_add_pot ct_Book_add_pot, f_Book_add_cloth := f_Book_add_cloth, d_Book_add_cloth := PySem.W.fnOf "add_cloth" "Book.add_cloth" (defArgs s_Book_add_cloth) (defBody s_Book_add_cloth) (defScope s_Book_add_cloth) .none kV_Book_add_cloth dc_Book_add_cloth pm_Book_add_cloth an_Book_add_cloth cd_Book_add_cloth ct_Book_add_cloth, f_Book_dip := f_Book_dip, d_Book_dip := PySem.W.fnOf "dip" "Book.dip" (defArgs s_Book_dip) (defBody s_Book_dip) (defScope s_Book_dip) .none kV_Book_dip dc_Book_dip pm_Book_dip an_Book_dip cd_Book_dip ct_Book_dip, f_Book_tell := f_Book_tell, d_Book_tell := PySem.W.fnOf "tell" "Book.tell" (defArgs s_Book_tell) (defBody s_Book_tell) (defScope s_Book_tell) .none kV_Book_tell dc_Book_tell pm_Book_tell an_Book_tell cd_Book_tell ct_Book_tell, f_Book_tell_some := f_Book_tell_some, d_Book_tell_some := PySem.W.fnOf "tell_some" "Book.tell_some" (defArgs s_Book_tell_some) (defBody s_Book_tell_some) (defScope s_Book_tell_some) .none kV_Book_tell_some dc_Book_tell_some pm_Book_tell_some an_Book_tell_some cd_Book_tell_some ct_Book_tell_some, f_Book_add_fact := f_Book_add_fact, d_Book_add_fact := PySem.W.fnOf "add_fact" "Book.add_fact" (defArgs s_Book_add_fact) (defBody s_Book_add_fact) (defScope s_Book_add_fact) .none kV_Book_add_fact dc_Book_add_fact pm_Book_add_fact an_Book_add_fact cd_Book_add_fact ct_Book_add_fact, f_Book_kind_of := f_Book_kind_of, d_Book_kind_of := PySem.W.fnOf "kind_of" "Book.kind_of" (defArgs s_Book_kind_of) (defBody s_Book_kind_of) (defScope s_Book_kind_of) .none kV_Book_kind_of dc_Book_kind_of pm_Book_kind_of an_Book_kind_of cd_Book_kind_of ct_Book_kind_of, f_Book_hold_of := f_Book_hold_of, d_Book_hold_of := PySem.W.fnOf "hold_of" "Book.hold_of" (defArgs s_Book_hold_of) (defBody s_Book_hold_of) (defScope s_Book_hold_of) .none kV_Book_hold_of dc_Book_hold_of pm_Book_hold_of an_Book_hold_of cd_Book_hold_of ct_Book_hold_of, f_Book_previous := f_Book_previous, d_Book_previous := PySem.W.fnOf "previous" "Book.previous" (defArgs s_Book_previous) (defBody s_Book_previous) (defScope s_Book_previous) .none kV_Book_previous dc_Book_previous pm_Book_previous an_Book_previous cd_Book_previous ct_Book_previous, f_Book_leaves := f_Book_leaves, d_Book_leaves := PySem.W.fnOf "leaves" "Book.leaves" (defArgs s_Book_leaves) (defBody s_Book_leaves) (defScope s_Book_leaves) .none kV_Book_leaves dc_Book_leaves pm_Book_leaves an_Book_leaves cd_Book_leaves ct_Book_leaves, f_Book_amounts := f_Book_amounts, d_Book_amounts := PySem.W.fnOf "amounts" "Book.amounts" (defArgs s_Book_amounts) (defBody s_Book_amounts) (defScope s_Book_amounts) .none kV_Book_amounts dc_Book_amounts pm_Book_amounts an_Book_amounts cd_Book_amounts ct_Book_amounts, f_Book_where := f_Book_where, d_Book_where := PySem.W.fnOf "where" "Book.where" (defArgs s_Book_where) (defBody s_Book_where) (defScope s_Book_where) .none kV_Book_where dc_Book_where pm_Book_where an_Book_where cd_Book_where ct_Book_where, f_lw_is_whole := f_lw_is_whole, d_lw_is_whole := PySem.W.fnOf "_law_is_whole" "_law_is_whole" (defArgs s_lw_is_whole) (defBody s_lw_is_whole) (defScope s_lw_is_whole) .none kV_lw_is_whole dc_lw_is_whole pm_lw_is_whole an_lw_is_whole cd_lw_is_whole ct_lw_is_whole, f_source := f_source, d_source := PySem.W.fnOf "_law_source" "_law_source" (defArgs s_source) (defBody s_source) (defScope s_source) .none kV_source dc_source pm_source an_source cd_source ct_source, f_draw := f_draw, d_draw := PySem.W.fnOf "_law_draw" "_law_draw" (defArgs s_draw) (defBody s_draw) (defScope s_draw) .none kV_draw dc_draw pm_draw an_draw cd_draw ct_draw, f_word := f_word, d_word := PySem.W.fnOf "_law_word" "_law_word" (defArgs s_word) (defBody s_word) (defScope s_word) .none kV_word dc_word pm_word an_word cd_word ct_word, f_name := f_name, d_name := PySem.W.fnOf "_law_name" "_law_name" (defArgs s_name) (defBody s_name) (defScope s_name) .none kV_name dc_name pm_name an_name cd_name ct_name, f_names := f_names, d_names := PySem.W.fnOf "_law_names" "_law_names" (defArgs s_names) (defBody s_names) (defScope s_names) .none kV_names dc_names pm_names an_names cd_names ct_names, f_model := f_model, d_model := PySem.W.fnOf "_law_model" "_law_model" (defArgs s_model) (defBody s_model) (defScope s_model) .none kV_model dc_model pm_model an_model cd_model ct_model, f_sort := f_sort, d_sort := PySem.W.fnOf "_law_sort" "_law_sort" (defArgs s_sort) (defBody s_sort) (defScope s_sort) .none kV_sort dc_sort pm_sort an_sort cd_sort ct_sort, f_build := f_build, d_build := PySem.W.fnOf "_law_build" "_law_build" (defArgs s_build) (defBody s_build) (defScope s_build) .none kV_build dc_build pm_build an_build cd_build ct_build, f_matches := f_matches, d_matches := PySem.W.fnOf "_law_matches" "_law_matches" (defArgs s_matches) (defBody s_matches) (defScope s_matches) .none kV_matches dc_matches pm_matches an_matches cd_matches ct_matches, f_refused := f_refused, d_refused := PySem.W.fnOf "_law_refused" "_law_refused" (defArgs s_refused) (defBody s_refused) (defScope s_refused) .none kV_refused dc_refused pm_refused an_refused cd_refused ct_refused, f_good := f_good, d_good := PySem.W.fnOf "_law_good" "_law_good" (defArgs s_good) (defBody s_good) (defScope s_good) .none kV_good dc_good pm_good an_good cd_good ct_good, f_law := f_law, d_law := PySem.W.fnOf "law" "law" (defArgs s_law) (defBody s_law) (defScope s_law) .none kV_law dc_law pm_law an_law cd_law ct_law, f_DyeError := f_DyeError, f_BadName := f_BadName, f_BadHold := f_BadHold, f_BadNumber := f_BadNumber, f_BadAmount := f_BadAmount, f_Known := f_Known, f_Unknown := f_Unknown, f_Full := f_Full, f_Book := f_Book, c_HOLDS := c_HOLDS, p_bound := p_bound, c_WORDS := c_WORDS, f_dyeInit := f_dyeInit }
  have T : Tx l.prog K mg A0 := {
    F_is_whole := F_is_whole
    F_is_amount := F_is_amount
    F_check_name := F_check_name
    F_check_known := F_check_known
    F_check_room := F_check_room
    F_Book___init__ := F_Book___init__
    F_Book_bound := F_Book_bound
    F_Book_add_kind := F_Book_add_kind
    F_Book_add_thirst := F_Book_add_thirst
    F_Book_add_pot := F_Book_add_pot
    F_Book_add_cloth := F_Book_add_cloth
    F_Book_dip := F_Book_dip
    F_Book_tell := F_Book_tell
    F_Book_tell_some := F_Book_tell_some
    F_Book_add_fact := F_Book_add_fact
    F_Book_kind_of := F_Book_kind_of
    F_Book_hold_of := F_Book_hold_of
    F_Book_previous := F_Book_previous
    F_Book_leaves := F_Book_leaves
    F_Book_amounts := F_Book_amounts
    F_Book_where := F_Book_where
    F_lw_is_whole := F_lw_is_whole
    F_source := F_source
    F_draw := F_draw
    F_word := F_word
    F_name := F_name
    F_names := F_names
    F_model := F_model
    F_sort := F_sort
    F_build := F_build
    F_matches := F_matches
    F_refused := F_refused
    F_good := F_good
    F_law := F_law
    n_isinstance := PySem.W.mg_none_of X G n_isinstance
    n_int := PySem.W.mg_none_of X G n_int
    n_bool := PySem.W.mg_none_of X G n_bool
    n_tuple := PySem.W.mg_none_of X G n_tuple
    n_len := PySem.W.mg_none_of X G n_len
    c_WORDS := PySem.W.mg_of X G ac_WORDS
    g_is_whole := PySem.W.mg_of X G a_is_whole
    k_is_whole := k_is_whole
    b_is_whole := b_is_whole
    n_str := PySem.W.mg_none_of X G n_str
    n_all := PySem.W.mg_none_of X G n_all
    dye_BadName := DY_BadName
    g_BadName := PySem.W.mg_of X G a_BadName
    dye_Known := DY_Known
    g_Known := PySem.W.mg_of X G a_Known
    dye_Unknown := DY_Unknown
    g_Unknown := PySem.W.mg_of X G a_Unknown
    dye_Full := DY_Full
    g_Full := PySem.W.mg_of X G a_Full
    cl_Book := ⟨pg_Book, hdc_Book, po_Book, sac_Book⟩
    ps_bound := ⟨tk_bound, pt_bound, ⟨_, _, prc_bound⟩⟩
    b_Book_bound := b_Book_bound
    dye_BadNumber := DY_BadNumber
    g_BadNumber := PySem.W.mg_of X G a_BadNumber
    g_check_name := PySem.W.mg_of X G a_check_name
    k_check_name := k_check_name
    b_check_name := b_check_name
    c_HOLDS := PySem.W.mg_of X G ac_HOLDS
    dye_BadHold := DY_BadHold
    g_BadHold := PySem.W.mg_of X G a_BadHold
    g_check_room := PySem.W.mg_of X G a_check_room
    k_check_room := k_check_room
    b_check_room := b_check_room
    g_Book := PySem.W.mg_of X G a_Book
    g_check_known := PySem.W.mg_of X G a_check_known
    k_check_known := k_check_known
    b_check_known := b_check_known
    m_Book_add_fact := ⟨at_Book_add_fact, fn_Book_add_fact, k_Book_add_fact⟩
    b_Book_add_fact := b_Book_add_fact
    m_Book_amounts := ⟨at_Book_amounts, fn_Book_amounts, k_Book_amounts⟩
    b_Book_amounts := b_Book_amounts
    g_is_amount := PySem.W.mg_of X G a_is_amount
    k_is_amount := k_is_amount
    b_is_amount := b_is_amount
    dye_BadAmount := DY_BadAmount
    g_BadAmount := PySem.W.mg_of X G a_BadAmount
    n_range := PySem.W.mg_none_of X G n_range
    m_Book_previous := ⟨at_Book_previous, fn_Book_previous, k_Book_previous⟩
    b_Book_previous := b_Book_previous
    m_Book_hold_of := ⟨at_Book_hold_of, fn_Book_hold_of, k_Book_hold_of⟩
    b_Book_hold_of := b_Book_hold_of
    m_Book_kind_of := ⟨at_Book_kind_of, fn_Book_kind_of, k_Book_kind_of⟩
    b_Book_kind_of := b_Book_kind_of
    m_Book_leaves := ⟨at_Book_leaves, fn_Book_leaves, k_Book_leaves⟩
    b_Book_leaves := b_Book_leaves
    n_enumerate := PySem.W.mg_none_of X G n_enumerate
    n_abs := PySem.W.mg_none_of X G n_abs
    g_draw := PySem.W.mg_of X G a_draw
    k_draw := k_draw
    b_draw := b_draw
    g_word := PySem.W.mg_of X G a_word
    k_word := k_word
    b_word := b_word
    g_name := PySem.W.mg_of X G a_name
    k_name := k_name
    b_name := b_name
    g_names := PySem.W.mg_of X G a_names
    k_names := k_names
    b_names := b_names
    n_min := PySem.W.mg_none_of X G n_min
    mk_Book := ⟨mks_Book, at_Book___init__, fn_Book___init__, kc_Book⟩
    m_Book_add_kind := ⟨at_Book_add_kind, fn_Book_add_kind, k_Book_add_kind⟩
    kb_add_kind := ⟨fun s us ws _ h1 h2 => match us, ws, h1, h2 with | [_, _], [_], _, _ => .of_eq rfl, fun r1 r2 => r1.append r2⟩
    m_Book_add_thirst := ⟨at_Book_add_thirst, fn_Book_add_thirst, k_Book_add_thirst⟩
    b_Book_add_thirst := b_Book_add_thirst
    m_Book_add_pot := ⟨at_Book_add_pot, fn_Book_add_pot, k_Book_add_pot⟩
    b_Book_add_pot := b_Book_add_pot
    m_Book_add_cloth := ⟨at_Book_add_cloth, fn_Book_add_cloth, k_Book_add_cloth⟩
    b_Book_add_cloth := b_Book_add_cloth
    m_Book_dip := ⟨at_Book_dip, fn_Book_dip, k_Book_dip⟩
    b_Book_dip := b_Book_dip
    m_Book_tell := ⟨at_Book_tell, fn_Book_tell, k_Book_tell⟩
    b_Book_tell := b_Book_tell
    m_Book_tell_some := ⟨at_Book_tell_some, fn_Book_tell_some, k_Book_tell_some⟩
    b_Book_tell_some := b_Book_tell_some
    g_sort := PySem.W.mg_of X G a_sort
    k_sort := k_sort
    b_sort := b_sort
    m_Book_where := ⟨at_Book_where, fn_Book_where, k_Book_where⟩
    kw_where_colour := ⟨fun us ws h1 h2 => match us, ws, h1, h2 with | [_], [_], _, _ => rfl, by decide +kernel, by decide⟩
    kw_where_pot_shade_breadth := ⟨fun us ws h1 h2 => match us, ws, h1, h2 with | [_], [_, _, _], _, _ => rfl, by decide +kernel, by decide⟩
    kw_where_kinds := ⟨fun us ws h1 h2 => match us, ws, h1, h2 with | [_], [_], _, _ => rfl, by decide +kernel, by decide⟩
    g_DyeError := PySem.W.mg_of X G a_DyeError
    kw_where := ⟨fun us ws h1 h2 => match us, ws, h1, h2 with | [_], [], _, _ => rfl, by decide +kernel, by decide⟩
    kw_where_cloth := ⟨fun us ws h1 h2 => match us, ws, h1, h2 with | [_], [_], _, _ => rfl, by decide +kernel, by decide⟩
    kw_where_pot := ⟨fun us ws h1 h2 => match us, ws, h1, h2 with | [_], [_], _, _ => rfl, by decide +kernel, by decide⟩
    kw_where_kind := ⟨fun us ws h1 h2 => match us, ws, h1, h2 with | [_], [_], _, _ => rfl, by decide +kernel, by decide⟩
    kw_where_pot_cloth := ⟨fun us ws h1 h2 => match us, ws, h1, h2 with | [_], [_, _], _, _ => rfl, by decide +kernel, by decide⟩
    kw_where_cloth_kind := ⟨fun us ws h1 h2 => match us, ws, h1, h2 with | [_], [_, _], _, _ => rfl, by decide +kernel, by decide⟩
    kw_where_kind_pot := ⟨fun us ws h1 h2 => match us, ws, h1, h2 with | [_], [_, _], _, _ => rfl, by decide +kernel, by decide⟩
    kw_where_cloth_pot_kind := ⟨fun us ws h1 h2 => match us, ws, h1, h2 with | [_], [_, _, _], _, _ => rfl, by decide +kernel, by decide⟩
    g_matches := PySem.W.mg_of X G a_matches
    k_matches := k_matches
    b_matches := b_matches
    n_list := PySem.W.mg_none_of X G n_list
    g_lw_is_whole := PySem.W.mg_of X G a_lw_is_whole
    k_lw_is_whole := k_lw_is_whole
    b_lw_is_whole := b_lw_is_whole
    g_source := PySem.W.mg_of X G a_source
    k_source := k_source
    b_source := b_source
    g_model := PySem.W.mg_of X G a_model
    k_model := k_model
    b_model := b_model
    g_build := PySem.W.mg_of X G a_build
    k_build := k_build
    b_build := b_build
    g_good := PySem.W.mg_of X G a_good
    k_good := k_good
    b_good := b_good
    g_refused := PySem.W.mg_of X G a_refused
    k_refused := k_refused
    b_refused := b_refused
    hLETTERS := ⟨_, PySem.W.mg_of X G ag_LETTERS⟩
    hMOST_DIPS := ⟨_, PySem.W.mg_of X G ag_MOST_DIPS⟩
    t_HOLDS := fun H => .inr ⟨_, _, _, lc_HOLDS, rfl, rfl, (by show 3 ≤ sizeLine; decide), .cons ⟨_, rfl⟩ (.cons ⟨_, rfl⟩ (.cons ⟨_, rfl⟩ (.nil)))⟩
    t_WORDS := fun H => .inr ⟨_, _, _, lc_WORDS, rfl, rfl, (by show 2 ≤ sizeLine; decide), .cons ⟨_, rfl⟩ (.cons ⟨_, rfl⟩ (.nil))⟩
    hbi := hb0_Book___init__
    hbk := hb0_Book_add_kind
    rd_Book := ⟨.type "type", ⟨rdh_Book, gah_Book⟩, ⟨_, ⟨cv_NAMES, ⟨_, rfl⟩⟩⟩, ⟨_, ⟨cv_FACTS, ⟨_, rfl⟩⟩⟩, ⟨_, ⟨cv_DIPS, ⟨_, rfl⟩⟩⟩⟩
    na_hold_by_kind := na_hold_by_kind
    na_thirst_rows := na_thirst_rows
    na_pot_names := na_pot_names
    na_kind_by_cloth := na_kind_by_cloth
    na_dip_rows := na_dip_rows
    na_fact_rows := na_fact_rows
    na_most_dips := na_most_dips
    kit_ss := kit_ty rfl
    kit_ns := kit_ty rfl
    kit_is := kit_ty rfl
    kit_bs := kit_ty rfl
    kit_ts := kit_ty rfl
    kit_ii := kit_ty rfl
    kit_bi := kit_ty rfl
    kit_ni := kit_ty rfl
    kit_si := kit_ty rfl
    kit_ti := kit_ty rfl
    kit_ib := kit_ty rfl
    kit_bb := kit_ty rfl
    kit_ll := kit_ty rfl
    kit_tt := kit_ty rfl
    kit_it := kit_ty rfl
    kit_bt := kit_ty rfl
    kit_nt := kit_ty rfl
    kit_st := kit_ty rfl
    x_Unknown := ⟨by rw [i_Unknown]; rfl, ga_Unknown, gg_Unknown, bE_Unknown, hac_Unknown, hn_, ht_, hmo_Unknown, hd_Unknown, no_Unknown⟩
    em_Unknown_Unknown := exm_own2 bE_Unknown i_Unknown t_Unknown s_Unknown_Unknown
    ik_Unknown_DyeError := kit_own2 i_DyeError t_DyeError s_Unknown_DyeError s_Unknown_Unknown
    ik_Unknown_Full := kit_own2 i_Full t_Full s_Unknown_Full s_Unknown_Unknown }
  exact ⟨PySem.W.fnOf "law" "law" (defArgs s_law) (defBody s_law) (defScope s_law) .none kV_law dc_law pm_law an_law cd_law ct_law, fun s v => .of_eq rfl, fun base _ _ => ok_law T⟩

theorem walk {l : PySem.W.OpenLaw} {q : Program} {loose : List Str} {XP : (Str → Option Value) → Heap → Prop} {YP : World → Heap → Prop} {d : DefRec} {K : Params → PySem.W.Frag} (hn : l.most = some 63) (hdf : d.params.defaults = [])
    (hY : ∀ (w : World) (h : Heap), YP w h → (K w.params).In h)
    (F : ∀ (w : World) (mg : Str → Option Value) (fa : Addr) (h : Heap), (K w.params).In h → h.Ns mainGlobals mg → mg d.name = some (.ref fa) →
      ∃ fd : FuncData, (∀ (s : Shared) (u : Value), BindsTo s fd ⟨[u], []⟩ [("_law_script", u)]) ∧ ∀ base : Heap, (K w.params).In base → base.Ns mainGlobals mg → FnOk l.prog w (K w.params) mg base CX0 12 fa fd ["_law_script"] (lift3B (S_law (K w.params)))) :
    PySem.W.WalkO q loose XP YP l.row.toRowW d [] (fun f vs => PySem.call f vs) :=
  L2.walk_of (n := 63) (k := 12) (x := "_law_script") (CX := fun _ => CX0) (sp := fun w => lift3B (S_law (K w.params))) hn (by decide) hdf ⟨rfl, by decide, by decide⟩ hY F
    (fun w H a ns hl _ hS => ⟨[.ref a], H, fun _ => none, fun d _ => d = .bl true, fun _ _ _ => False, ⟨_, _, rfl, rfl, rfl⟩, ⟨Ex.refl _, fun a o h => (by cases h)⟩, fun F' M' d v H' _ _ r e => (by subst e; exact r), fun _ _ _ _ _ _ _ _ _ _ _ h => h.elim, a, ns, rfl, hS, hl, rfl, fun _ => rfl⟩) fun _ _ _ _ _ z => z
end
end LW
set_option pp.maxSteps 200
set_option pp.proofs false
open PySem PySem.W PyProof.Rows
set_option maxRecDepth 100000 in
set_option maxHeartbeats 0 in
theorem PySem.Challenge.cw_tiredpots_k11_dips_that_match_holds : PySem.Challenge.rw_tiredpots_k11_dips_that_match.Holds := by
  w_on; o_law; k_head; (case hw => w_witness2)
  k_fill
  refine LW.walk (l := PySem.Challenge.rw_tiredpots_k11_dips_that_match) rfl rfl (fun w h Y => PySem.W.kIn_of Y) ?F
  case F =>
    intro w mg fa h KX G hmg
    refine' LW.all_mk KX G hmg ?a_Book ?a_is_whole ?l_is_whole ?c_is_whole ?k_is_whole ?a_is_amount ?l_is_amount ?c_is_amount ?k_is_amount ?a_check_name ?l_check_name ?c_check_name ?k_check_name ?a_check_known ?l_check_known ?c_check_known ?k_check_known ?a_check_room ?l_check_room ?c_check_room ?k_check_room ?at_Book___init__ ?fn_Book___init__ ?l_Book___init__ ?kd_Book___init___0 ?c_Book___init__ ?k_Book___init__ ?tk_bound ?pt_bound ?prc_bound ?l_Book_bound ?c_Book_bound ?k_Book_bound ?at_Book_add_kind ?fn_Book_add_kind ?l_Book_add_kind ?kd_Book_add_kind_0 ?c_Book_add_kind ?k_Book_add_kind ?at_Book_add_thirst ?fn_Book_add_thirst ?l_Book_add_thirst ?c_Book_add_thirst ?k_Book_add_thirst ?at_Book_add_pot ?fn_Book_add_pot ?l_Book_add_pot ?c_Book_add_pot ?k_Book_add_pot ?at_Book_add_cloth ?fn_Book_add_cloth ?l_Book_add_cloth ?c_Book_add_cloth ?k_Book_add_cloth ?at_Book_dip ?fn_Book_dip ?l_Book_dip ?c_Book_dip ?k_Book_dip ?at_Book_tell ?fn_Book_tell ?l_Book_tell ?c_Book_tell ?k_Book_tell ?at_Book_tell_some ?fn_Book_tell_some ?l_Book_tell_some ?c_Book_tell_some ?k_Book_tell_some ?at_Book_add_fact ?fn_Book_add_fact ?l_Book_add_fact ?c_Book_add_fact ?k_Book_add_fact ?at_Book_kind_of ?fn_Book_kind_of ?l_Book_kind_of ?c_Book_kind_of ?k_Book_kind_of ?at_Book_hold_of ?fn_Book_hold_of ?l_Book_hold_of ?c_Book_hold_of ?k_Book_hold_of ?at_Book_previous ?fn_Book_previous ?l_Book_previous ?c_Book_previous ?k_Book_previous ?at_Book_leaves ?fn_Book_leaves ?l_Book_leaves ?c_Book_leaves ?k_Book_leaves ?at_Book_amounts ?fn_Book_amounts ?l_Book_amounts ?c_Book_amounts ?k_Book_amounts ?at_Book_where ?fn_Book_where ?l_Book_where ?c_Book_where ?k_Book_where ?a_lw_is_whole ?l_lw_is_whole ?c_lw_is_whole ?k_lw_is_whole ?a_source ?l_source ?c_source ?k_source ?a_draw ?l_draw ?c_draw ?k_draw ?a_word ?l_word ?c_word ?k_word ?a_name ?l_name ?c_name ?k_name ?a_names ?l_names ?c_names ?k_names ?a_model ?l_model ?c_model ?k_model ?a_sort ?l_sort ?c_sort ?k_sort ?a_build ?l_build ?c_build ?k_build ?a_matches ?l_matches ?c_matches ?k_matches ?a_refused ?l_refused ?c_refused ?k_refused ?a_good ?l_good ?c_good ?k_good ?a_law ?l_law ?c_law ?k_law ?pg_Book ?hdc_Book ?po_Book ?sac_Book ?mks_Book ?kc_Book ?ac_WORDS ?lc_WORDS ?ac_HOLDS ?lc_HOLDS ?ag_LETTERS ?ag_MOST_DIPS ?na_hold_by_kind ?na_thirst_rows ?na_pot_names ?na_kind_by_cloth ?na_dip_rows ?na_fact_rows ?na_most_dips ?rdh_Book ?gah_Book ?cv_NAMES ?cv_FACTS ?cv_DIPS ?a_DyeError ?a_BadName ?a_BadHold ?a_BadNumber ?a_BadAmount ?a_Known ?a_Unknown ?a_Full ?n_isinstance ?n_int ?n_bool ?n_tuple ?n_len ?n_str ?n_all ?n_range ?n_enumerate ?n_abs ?n_min ?n_list ?i_DyeError ?t_DyeError ?i_BadName ?t_BadName ?i_BadHold ?t_BadHold ?i_BadNumber ?t_BadNumber ?i_BadAmount ?t_BadAmount ?i_Known ?t_Known ?i_Unknown ?t_Unknown ?i_Full ?t_Full ?i_Book ?t_Book ?hn_ ?ht_ ?s_Unknown_DyeError ?s_Unknown_BadName ?s_Unknown_BadHold ?s_Unknown_BadNumber ?s_Unknown_BadAmount ?s_Unknown_Known ?s_Unknown_Unknown ?s_Unknown_Full ?s_Unknown_Book ?ga_Unknown ?gg_Unknown ?hac_Unknown ?hmo_Unknown ?hd_Unknown ?bE_DyeError ?ho_ ?hsup_ ?htop_ ?lo_BadName ?re_BadName ?sa_BadName ?no_BadName ?ii_BadName ?kk_BadName ?bE_BadName ?ty_BadName ?xi_BadName ?su_BadName ?vE_BadName ?mr_BadName ?lo_Known ?re_Known ?sa_Known ?no_Known ?ii_Known ?kk_Known ?bE_Known ?ty_Known ?xi_Known ?su_Known ?vE_Known ?mr_Known ?lo_Unknown ?re_Unknown ?sa_Unknown ?no_Unknown ?ii_Unknown ?kk_Unknown ?bE_Unknown ?ty_Unknown ?xi_Unknown ?su_Unknown ?vE_Unknown ?mr_Unknown ?lo_Full ?re_Full ?sa_Full ?no_Full ?ii_Full ?kk_Full ?bE_Full ?ty_Full ?xi_Full ?su_Full ?vE_Full ?mr_Full ?lo_BadNumber ?re_BadNumber ?sa_BadNumber ?no_BadNumber ?ii_BadNumber ?kk_BadNumber ?bE_BadNumber ?ty_BadNumber ?xi_BadNumber ?su_BadNumber ?vE_BadNumber ?mr_BadNumber ?lo_BadHold ?re_BadHold ?sa_BadHold ?no_BadHold ?ii_BadHold ?kk_BadHold ?bE_BadHold ?ty_BadHold ?xi_BadHold ?su_BadHold ?vE_BadHold ?mr_BadHold ?lo_BadAmount ?re_BadAmount ?sa_BadAmount ?no_BadAmount ?ii_BadAmount ?kk_BadAmount ?bE_BadAmount ?ty_BadAmount ?xi_BadAmount ?su_BadAmount ?vE_BadAmount ?mr_BadAmount ?tI_ ?lI_ ?line_ ?lD_ ?cI_ ?lC_ ?vf_ ?fi_ ?lc_ ?cD_
    (case a_Book => k_is)
    (case a_is_whole => k_is)
    (case l_is_whole => k_is)
    (case c_is_whole => k_is)
    (case k_is_whole => k_is)
    (case a_is_amount => k_is)
    (case l_is_amount => k_is)
    (case c_is_amount => k_is)
    (case k_is_amount => k_is)
    (case a_check_name => k_is)
    (case l_check_name => k_is)
    (case c_check_name => k_is)
    (case k_check_name => k_is)
    (case a_check_known => k_is)
    (case l_check_known => k_is)
    (case c_check_known => k_is)
    (case k_check_known => k_is)
    (case a_check_room => k_is)
    (case l_check_room => k_is)
    (case c_check_room => k_is)
    (case k_check_room => k_is)
    (case at_Book___init__ => k_is)
    (case fn_Book___init__ => k_is)
    (case l_Book___init__ => k_is)
    (case kd_Book___init___0 => k_is)
    (case c_Book___init__ => k_is)
    (case k_Book___init__ => k_is)
    (case tk_bound => k_is)
    (case pt_bound => k_is)
    (case prc_bound => k_is)
    (case l_Book_bound => k_is)
    (case c_Book_bound => k_is)
    (case k_Book_bound => k_is)
    (case at_Book_add_kind => k_is)
    (case fn_Book_add_kind => k_is)
    (case l_Book_add_kind => k_is)
    (case kd_Book_add_kind_0 => k_is)
    (case c_Book_add_kind => k_is)
    (case k_Book_add_kind => k_is)
    (case at_Book_add_thirst => k_is)
    (case fn_Book_add_thirst => k_is)
    (case l_Book_add_thirst => k_is)
    (case c_Book_add_thirst => k_is)
    (case k_Book_add_thirst => k_is)
    (case at_Book_add_pot => k_is)
    (case fn_Book_add_pot => k_is)
    (case l_Book_add_pot => k_is)
    (case c_Book_add_pot => k_is)
    (case k_Book_add_pot => k_is)
    (case at_Book_add_cloth => k_is)
    (case fn_Book_add_cloth => k_is)
    (case l_Book_add_cloth => k_is)
    (case c_Book_add_cloth => k_is)
    (case k_Book_add_cloth => k_is)
    (case at_Book_dip => k_is)
    (case fn_Book_dip => k_is)
    (case l_Book_dip => k_is)
    (case c_Book_dip => k_is)
    (case k_Book_dip => k_is)
    (case at_Book_tell => k_is)
    (case fn_Book_tell => k_is)
    (case l_Book_tell => k_is)
    (case c_Book_tell => k_is)
    (case k_Book_tell => k_is)
    (case at_Book_tell_some => k_is)
    (case fn_Book_tell_some => k_is)
    (case l_Book_tell_some => k_is)
    (case c_Book_tell_some => k_is)
    (case k_Book_tell_some => k_is)
    (case at_Book_add_fact => k_is)
    (case fn_Book_add_fact => k_is)
    (case l_Book_add_fact => k_is)
    (case c_Book_add_fact => k_is)
    (case k_Book_add_fact => k_is)
    (case at_Book_kind_of => k_is)
    (case fn_Book_kind_of => k_is)
    (case l_Book_kind_of => k_is)
    (case c_Book_kind_of => k_is)
    (case k_Book_kind_of => k_is)
    (case at_Book_hold_of => k_is)
    (case fn_Book_hold_of => k_is)
    (case l_Book_hold_of => k_is)
    (case c_Book_hold_of => k_is)
    (case k_Book_hold_of => k_is)
    (case at_Book_previous => k_is)
    (case fn_Book_previous => k_is)
    (case l_Book_previous => k_is)
    (case c_Book_previous => k_is)
    (case k_Book_previous => k_is)
    (case at_Book_leaves => k_is)
    (case fn_Book_leaves => k_is)
    (case l_Book_leaves => k_is)
    (case c_Book_leaves => k_is)
    (case k_Book_leaves => k_is)
    (case at_Book_amounts => k_is)
    (case fn_Book_amounts => k_is)
    (case l_Book_amounts => k_is)
    (case c_Book_amounts => k_is)
    (case k_Book_amounts => k_is)
    (case at_Book_where => k_is)
    (case fn_Book_where => k_is)
    (case l_Book_where => k_is)
    (case c_Book_where => k_is)
    (case k_Book_where => k_is)
    (case a_lw_is_whole => k_is)
    (case l_lw_is_whole => k_is)
    (case c_lw_is_whole => k_is)
    (case k_lw_is_whole => k_is)
    (case a_source => k_is)
    (case l_source => k_is)
    (case c_source => k_is)
    (case k_source => k_is)
    (case a_draw => k_is)
    (case l_draw => k_is)
    (case c_draw => k_is)
    (case k_draw => k_is)
    (case a_word => k_is)
    (case l_word => k_is)
    (case c_word => k_is)
    (case k_word => k_is)
    (case a_name => k_is)
    (case l_name => k_is)
    (case c_name => k_is)
    (case k_name => k_is)
    (case a_names => k_is)
    (case l_names => k_is)
    (case c_names => k_is)
    (case k_names => k_is)
    (case a_model => k_is)
    (case l_model => k_is)
    (case c_model => k_is)
    (case k_model => k_is)
    (case a_sort => k_is)
    (case l_sort => k_is)
    (case c_sort => k_is)
    (case k_sort => k_is)
    (case a_build => k_is)
    (case l_build => k_is)
    (case c_build => k_is)
    (case k_build => k_is)
    (case a_matches => k_is)
    (case l_matches => k_is)
    (case c_matches => k_is)
    (case k_matches => k_is)
    (case a_refused => k_is)
    (case l_refused => k_is)
    (case c_refused => k_is)
    (case k_refused => k_is)
    (case a_good => k_is)
    (case l_good => k_is)
    (case c_good => k_is)
    (case k_good => k_is)
    (case a_law => k_is)
    (case l_law => k_is)
    (case c_law => k_is)
    (case k_law => k_is)
    (case pg_Book => k_is)
    (case hdc_Book => k_is)
    (case po_Book => k_is)
    (case sac_Book => k_is)
    (case mks_Book => k_is)
    (case kc_Book => k_is)
    (case ac_WORDS => k_is)
    (case lc_WORDS => k_is)
    (case ac_HOLDS => k_is)
    (case lc_HOLDS => k_is)
    (case ag_LETTERS => k_is)
    (case ag_MOST_DIPS => k_is)
    (case na_hold_by_kind => k_is)
    (case na_thirst_rows => k_is)
    (case na_pot_names => k_is)
    (case na_kind_by_cloth => k_is)
    (case na_dip_rows => k_is)
    (case na_fact_rows => k_is)
    (case na_most_dips => k_is)
    (case rdh_Book => k_is)
    (case gah_Book => k_is)
    (case cv_NAMES => k_is)
    (case cv_FACTS => k_is)
    (case cv_DIPS => k_is)
    (case a_DyeError => k_is)
    (case a_BadName => k_is)
    (case a_BadHold => k_is)
    (case a_BadNumber => k_is)
    (case a_BadAmount => k_is)
    (case a_Known => k_is)
    (case a_Unknown => k_is)
    (case a_Full => k_is)
    (case n_isinstance => k_is)
    (case n_int => k_is)
    (case n_bool => k_is)
    (case n_tuple => k_is)
    (case n_len => k_is)
    (case n_str => k_is)
    (case n_all => k_is)
    (case n_range => k_is)
    (case n_enumerate => k_is)
    (case n_abs => k_is)
    (case n_min => k_is)
    (case n_list => k_is)
    (case i_DyeError => k_is)
    (case t_DyeError => k_is)
    (case i_BadName => k_is)
    (case t_BadName => k_is)
    (case i_BadHold => k_is)
    (case t_BadHold => k_is)
    (case i_BadNumber => k_is)
    (case t_BadNumber => k_is)
    (case i_BadAmount => k_is)
    (case t_BadAmount => k_is)
    (case i_Known => k_is)
    (case t_Known => k_is)
    (case i_Unknown => k_is)
    (case t_Unknown => k_is)
    (case i_Full => k_is)
    (case t_Full => k_is)
    (case i_Book => k_is)
    (case t_Book => k_is)
    (case hn_ => k_is)
    (case ht_ => k_is)
    (case s_Unknown_DyeError => k_is)
    (case s_Unknown_BadName => k_is)
    (case s_Unknown_BadHold => k_is)
    (case s_Unknown_BadNumber => k_is)
    (case s_Unknown_BadAmount => k_is)
    (case s_Unknown_Known => k_is)
    (case s_Unknown_Unknown => k_is)
    (case s_Unknown_Full => k_is)
    (case s_Unknown_Book => k_is)
    (case ga_Unknown => k_is)
    (case gg_Unknown => k_is)
    (case hac_Unknown => k_is)
    (case hmo_Unknown => k_is)
    (case hd_Unknown => k_is)
    (case bE_DyeError => k_is)
    (case ho_ => k_is)
    (case hsup_ => k_is)
    (case htop_ => rfl)
    (case lo_BadName => k_is)
    (case re_BadName => exact (by decide +kernel))
    (case sa_BadName => k_is)
    (case no_BadName => k_is)
    (case ii_BadName => k_is)
    (case kk_BadName => k_is)
    (case bE_BadName => k_is)
    (case ty_BadName => k_is)
    (case xi_BadName => kx_is)
    (case su_BadName => ks_is)
    (case vE_BadName => k_is)
    (case mr_BadName => k_is)
    (case lo_Known => k_is)
    (case re_Known => exact (by decide +kernel))
    (case sa_Known => k_is)
    (case no_Known => k_is)
    (case ii_Known => k_is)
    (case kk_Known => k_is)
    (case bE_Known => k_is)
    (case ty_Known => k_is)
    (case xi_Known => kx_is)
    (case su_Known => ks_is)
    (case vE_Known => k_is)
    (case mr_Known => k_is)
    (case lo_Unknown => k_is)
    (case re_Unknown => exact (by decide +kernel))
    (case sa_Unknown => k_is)
    (case no_Unknown => k_is)
    (case ii_Unknown => k_is)
    (case kk_Unknown => k_is)
    (case bE_Unknown => k_is)
    (case ty_Unknown => k_is)
    (case xi_Unknown => kx_is)
    (case su_Unknown => ks_is)
    (case vE_Unknown => k_is)
    (case mr_Unknown => k_is)
    (case lo_Full => k_is)
    (case re_Full => exact (by decide +kernel))
    (case sa_Full => k_is)
    (case no_Full => k_is)
    (case ii_Full => k_is)
    (case kk_Full => k_is)
    (case bE_Full => k_is)
    (case ty_Full => k_is)
    (case xi_Full => kx_is)
    (case su_Full => ks_is)
    (case vE_Full => k_is)
    (case mr_Full => k_is)
    (case lo_BadNumber => k_is)
    (case re_BadNumber => exact (by decide +kernel))
    (case sa_BadNumber => k_is)
    (case no_BadNumber => k_is)
    (case ii_BadNumber => k_is)
    (case kk_BadNumber => k_is)
    (case bE_BadNumber => k_is)
    (case ty_BadNumber => k_is)
    (case xi_BadNumber => kx_is)
    (case su_BadNumber => ks_is)
    (case vE_BadNumber => k_is)
    (case mr_BadNumber => k_is)
    (case lo_BadHold => k_is)
    (case re_BadHold => exact (by decide +kernel))
    (case sa_BadHold => k_is)
    (case no_BadHold => k_is)
    (case ii_BadHold => k_is)
    (case kk_BadHold => k_is)
    (case bE_BadHold => k_is)
    (case ty_BadHold => k_is)
    (case xi_BadHold => kx_is)
    (case su_BadHold => ks_is)
    (case vE_BadHold => k_is)
    (case mr_BadHold => k_is)
    (case lo_BadAmount => k_is)
    (case re_BadAmount => exact (by decide +kernel))
    (case sa_BadAmount => k_is)
    (case no_BadAmount => k_is)
    (case ii_BadAmount => k_is)
    (case kk_BadAmount => k_is)
    (case bE_BadAmount => k_is)
    (case ty_BadAmount => k_is)
    (case xi_BadAmount => kx_is)
    (case su_BadAmount => ks_is)
    (case vE_BadAmount => k_is)
    (case mr_BadAmount => k_is)
    (case tI_ => k_is)
    (case lI_ => k_is)
    (case line_ => rfl)
    (case lD_ => k_is)
    (case cI_ => k_is)
    (case lC_ => k_is)
    (case vf_ => rfl)
    (case fi_ => exact (by decide +kernel))
    (case lc_ => k_is)
    (case cD_ => k_is)
