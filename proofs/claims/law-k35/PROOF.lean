import PyProof.Rows.All
import Wide.All
import OpenK.AllK
import Wide.FinOn
import HandS.ForExc
import HandS.ExcIs
import HandS.TryMany
import KE.KExcSuper
import HandS.Defaults
import HandS.HeadWalk
import KE.KExcIs
import HandS.ForMost
import HandS.Evl
import HandS.Walk
import HandS.Deep
import HandS.IsInst
import HandS.Wide
import HandS.SetKeys
import HandS.ExcOwn
import KE.DataFind
import HandS.ExcField
import HandS.Style
import HandS.Lambda
import HandS.Property
import HandS.ListItems
import HandS.WordsDict
import HandS.NoneIn
import HandS.Small
import HandS.ClsMeth
import HandS.IterVal
import HandS.OwnIter
import KE.KeyNested
import KE.KDictKeyed
import HandS.TupLe
import HandS.MakeKwOnly
import HandS.GenOver
import HandS.GenList
import PySem.Challenge.RW_tiredpots_k35_every_row_once
import HandS.EndBits
import KE.RegKSuper
set_option Elab.async false
set_option linter.all false
set_option maxRecDepth 100000
set_option maxHeartbeats 2000000
namespace L2
open PySem PySem.Spec PyProof.Rows
/-! ### defs called where an exception is handled -/
structure RoomW (k : Nat) (A : Around) : Prop where
  dp : A.depth + 3 * k + 5 < recursionLimit
  un : A.units + 16 * k + 200 < cLine
theorem RoomW.mono {j k : Nat} {A : Around} (r : RoomW k A) (h : j ≤ k) : RoomW j A := ⟨by have := r.dp; omega, by have := r.un; omega⟩
theorem RoomW.deeper {k : Nat} {A : Around} (r : RoomW (k + 1) A) (env : Env) : RoomW k (A.deeper env) :=
  ⟨by have := r.dp; show A.depth + 1 + 3 * k + 5 < _; omega, by have := r.un; show A.units + 3 + 16 * k + 200 < _; omega⟩
theorem RoomW.depth {k : Nat} {A : Around} (r : RoomW k A) : A.depth < recursionLimit := by have := r.dp; omega
theorem RoomW.units {k : Nat} {A : Around} (r : RoomW k A) : A.units + 65 < cLine := by have := r.un; omega
theorem roomW_of {k : Nat} {A : Around} (r : Room k A) (o : Option Value) : RoomW k (A.mark o) := ⟨r.dp, r.un⟩
structure FnW (P : Program) (w : World) (K : PySem.W.Frag) (mg : Str → Option Value) (base : Heap) (CX : CXT) (k : Nat) (f : Addr) (fd : FuncData) (ps : List Str) (sp : Sp) : Prop where
  len : ∀ vs H Q E, sp vs H Q E → vs.length = ps.length
  run : ∀ (A : Around) (outer : List Env) (s : Shared) (H : Hp) (args : Args) (us : List Value) (vs : List V) (Q : VK) (E : XK), RoomW k A → Env0 P w K mg base A outer s H → BindsTo s fd args (ps.zip us) → Vals vs us → sp vs H Q E →
    codeAny (model P w) A (.call (.ref f) args) (CR CX outer P w H s Q E) s
def cxW (CX : CXT) (P : Program) (w : World) (K : PySem.W.Frag) (mg : Str → Option Value) (base : Heap) (N : List Str) (qual : Str) (scope : Scope) (f : Addr) (cd : Value) (A : Around) (outer : List Env) (s : Shared) (H : Hp) (E : XK) : Cx :=
  { cxOf CX P w K mg base N qual scope f cd A outer s H E with calm := false }
theorem inv_startW {CX : CXT} {P : Program} {w : World} {K : PySem.W.Frag} {mg : Str → Option Value} {base : Heap} {N ps : List Str} {qual : Str} {scope : Scope} {f : Addr} {cd : Value} {A : Around} {outer : List Env} {s s1 : Shared} {H : Hp} {E : XK} {us : List Value} {vs : List V}
    (S : FnScope N ps scope) (e0 : Env0 P w K mg base A outer s H) (hl : vs.length = ps.length) (r : Vals vs us)
    (x : InCallC s s.heap.objs.size (bindL (envOfC qual scope s.heap.objs.size f cd).kindOf (ps.zip us) fun _ => none) (cellsFrom (s.heap.objs.size + 1) scope.names []) (bindC (envOfC qual scope s.heap.objs.size f cd).kindOf (ps.zip us) fun _ => none) s1) :
    Inv (cxW CX P w K mg base N qual scope f cd A outer s H E) [] (start N vs) H s1 := by
  have hpl : ps.length ≤ N.length := by have := congrArg List.length S.pre; rw [List.length_take] at this; omega
  obtain ⟨h1, tk, rfl, hk⟩ := x.done
  have noA : ∀ b : Addr, b ∉ (cxW CX P w K mg base N qual scope f cd A outer s H E).ex := fun b z => absurd (show b ∈ ([] : List Addr) from z) (by simp)
  refine ⟨⟨e0.mod, S.kind, rfl, rfl, Nat.le_refl _, fun y z c h1 h2 => ?_, fun y hy => ?_, fun y c _ h => ?_, (fun z => Bool.noConfusion (show false = true from z)), Around.frames_deeper e0.frames, .inr ⟨rfl, rfl⟩, fun b z => absurd z (noA b), e0.bs, e0.bsz, fun b _ _ => noA b, fun b z => absurd z (noA b), e0.funs, e0.frf⟩,
    rfl, e0.bare, Un.kept hk, ⟨_, x.toInCall.ns, fun i y v h1 h2 h3 => ?_⟩, fun y c h => ⟨_, x.cell y c h⟩, e0.hok.fresh (Nat.le_refl _), fun y c h => ?_, fun p hp => absurd (show p ∈ ([] : List (Addr × Obj)) from hp) (by simp), e0.hok.kept hk, ?_⟩
  · exact name_of_addr x.apart (PySem.mem_of_lookup h1) (PySem.mem_of_lookup h2)
  · have hy : scope.names.lookup y = some .cell ∨ scope.names.lookup y = some .free := hy
    rcases hy with hy | hy
    · exact cell_has hy
    · exact absurd rfl (S.nofree _ (PySem.mem_of_lookup hy))
  · exact Nat.le_of_lt (x.above y c (PySem.mem_of_lookup h))
  · have hi : i < vs.length := by
      unfold start at h2
      by_cases hi : i < vs.length
      · exact hi
      · rw [List.getElem?_append_right (by simpa using hi)] at h2
        rw [List.getElem?_replicate] at h2
        split at h2 <;> cases h2
    have ha : vs[i]? = some v := by
      unfold start at h2
      rw [List.getElem?_append_left (by simpa using hi), List.getElem?_map] at h2
      cases e : vs[i]? with
      | none => rw [e] at h2; cases h2
      | some a => rw [e] at h2; cases h2; rfl
    obtain ⟨u, hu, rv⟩ := r.get ha
    have hp : ps[i]? = some y := by
      rw [← S.pre, List.getElem?_take_of_lt (by omega)]; exact h1
    have ndP : ps.Nodup := by rw [← S.pre]; exact S.nd.sublist (List.take_sublist _ _)
    refine ⟨u, rv, ?_⟩
    rcases S.par y (List.mem_of_getElem? hp) with k | k
    · exact .inl ⟨k, bindL_get ndP hp hu k⟩
    · obtain ⟨c, e⟩ := cell_has (n := s.heap.objs.size + 1) k
      refine .inr ⟨.inl k, c, e, ?_⟩
      have q := x.cell y c e
      rw [bindC_get ndP hp hu (by show scope.names.lookup y ≠ _; rw [k]; decide)] at q
      exact q
  · exact e0.hok.fresh (Nat.le_of_lt (x.above y c (PySem.mem_of_lookup h)))
  · unfold start
    show _ = N.length
    rw [List.length_append, List.length_map, List.length_replicate]
    omega

theorem fn_ofW {CX : CXT} {P : Program} {w : World} {K : PySem.W.Frag} {mg : Str → Option Value} {base : Heap} {k : Nat} {f : Addr} {name qual : Str} {params : Arguments} {body : List Stmt} {scope : Scope} {dV kV doc pm cdv ct oc : Value} {an od : Option Addr}
    {osl : Array (Option Value)} {N ps : List Str} {sp : Sp} (lk : K.lookup f = some ⟨oc, od, .func (PySem.W.fnOf name qual params body scope dV kV doc pm an cdv ct), osl⟩) (hcd : PySem.W.codeIn K cdv qual = true) (S : FnScope N ps scope)
    (len : ∀ vs H Q E, sp vs H Q E → vs.length = ps.length)
    (hbody : ∀ (A : Around) (outer : List Env) (s : Shared) (H : Hp) (vs : List V) (Q : VK) (E : XK), RoomW k (A.deeper (envOfC qual scope s.heap.objs.size f cdv)) → sp vs H Q E →
      ∃ t, PSs (cxW CX P w K mg base N qual scope f cdv A outer s H E) body t ∧ t { nx := fun _ H' => Q .non H', rt := Q } (start N vs) H) :
    FnW P w K mg base CX (k + 1) f (PySem.W.fnOf name qual params body scope dV kV doc pm an cdv ct) ps sp := by
  refine ⟨len, fun A outer s H args us vs Q E hr e0 hb r hsp => ?_⟩
  have hl := len _ _ _ _ hsp
  have KX : K.In s.heap := e0.mod.kin.keeps fun b o e => (e0.bs b o e).1
  have lim : s.heap.NoLimit := e0.mod.nolimit.keeps fun b o e => (e0.bs b o e).1
  have hkind : ∀ y ∈ ps.zip us, scope.names.lookup y.1 = some .local ∨ (scope.names.lookup y.1 = some .cell ∧ ((cellsFrom (s.heap.objs.size + 1) scope.names []).lookup y.1).isSome = true) := fun ⟨n, v⟩ hy => by
    rcases S.par n (List.of_mem_zip hy).1 with q | q
    · exact .inl q
    · exact .inr ⟨q, PySem.W.cellsFrom_some _ _ _ (.inl q)⟩
  refine codeAny_call_function hr.depth (KX _ _ lk) rfl S.co S.gen rfl (PySem.W.codeRec_of KX hcd) (hb _ _ _ _ ?_)
  refine wpAny_newFunctionEnv_cells S.kind hkind fun env he s1 x => ?_
  subst he
  refine ⟨lim.keeps x.toInCall.keep, codeAny_func ?_⟩
  obtain ⟨t, ht, hq⟩ := hbody A outer s H vs Q E (hr.deeper _) hsp
  have I : Inv (cxW CX P w K mg base N qual scope f cdv A outer s H E) [] (start N vs) H s1 := inv_startW S e0 hl r x
  refine wpAny_mono (ht.run [] s1 (start N vs) H _ I hq) (fun fl s' hs => ?_) fun e s' hs => hs
  have fin : ∀ {σ' : St} {H' : Hp} {v : V} {u : Value}, Inv (cxW CX P w K mg base N qual scope f cdv A outer s H E) [] σ' H' s' → RelV v u → Q v H' → CE outer P w H s Q u s' :=
    fun {σ' H' v u} J rv q => ⟨v, H', J.os, J.bare, J.base, J.hok, rv, q⟩
  cases fl with
  | ret u =>
    obtain ⟨v, σ', H', J, rv, q⟩ := hs
    exact fin J rv q
  | next =>
    obtain ⟨σ', H', J, q⟩ := hs
    exact fin (v := V.non) (u := Value.none) J rfl q
  | brk =>
    obtain ⟨_, _, _, q⟩ := hs
    exact False.elim q
  | cont =>
    obtain ⟨_, _, _, q⟩ := hs
    exact False.elim q
theorem Fun.okW {P : Program} {w : World} {K : PySem.W.Frag} {mg : Str → Option Value} {base : Heap} {x qual : Str} {st : Stmt} {f : Addr} {fd : FuncData} {N ps : List Str} {k : Nat} {sp : Sp} (F : Fun K x qual st f fd) (S : FnScope N ps (defScope st)) (len : ∀ vs H Q E, sp vs H Q E → vs.length = ps.length)
    (hbody : ∀ (cdv : Value) (A : Around) (outer : List Env) (s : Shared) (H : Hp) (vs : List V) (Q : VK) (E : XK), RoomW k (A.deeper (envOfC qual (defScope st) s.heap.objs.size f cdv)) → sp vs H Q E →
      ∃ t, PSs (cxW CX0 P w K mg base N qual (defScope st) f cdv A outer s H E).nox (defBody st) t ∧ t { nx := fun _ H' => Q .non H', rt := Q } (start N vs) H) : FnW P w K mg base CX0 (k + 1) f fd ps sp := by
  obtain ⟨oc, od, kV, doc, pm, an, cdv, ct, osl, rfl, lk, hcd⟩ := F.ex
  refine fn_ofW lk hcd S len fun A outer s H vs Q E hr hsp => ?_
  obtain ⟨t, h, q⟩ := hbody cdv A outer s H vs Q E hr hsp
  exact ⟨t, h.nox, q⟩
section
variable {X : Cx} {CX : CXT} {k : Nat} {f C : Addr} {fd : FuncData} {ps : List Str} {sp : Sp} {dvs : List V} {ds : List Value} {E : XK} {x m : Str} {p pos apos : Pos} {e o : Expr} {es : List Expr} {ta : TE} {t : TA}
theorem run_fnW {pins : List (Addr × Obj)} {σ : St} {H : Hp} {s : Shared} {Q : VK} {us : List Value} {vs : List V} (F : FnW X.prog X.w X.K X.mg X.base CX k f fd ps sp) (hr : RoomW k X.A) (hb : Binds X.K fd ps ds) (hd : Vals dvs ds) (hx : Passes CX X E)
    (I : Inv X pins σ H s) (r : Vals vs us) (h : sp (vs ++ dvs) H Q E) : wpAny (model X.prog X.w) X.A (call (.ref f) us) (EP X pins σ Q) X.xe s := by
  have r2 : Vals (vs ++ dvs) (us ++ ds) := r.append hd
  have hl : (us ++ ds).length = ps.length := by rw [← r2.length]; exact F.len _ _ _ _ h
  refine wpAny_call (codeAny_mono (F.run X.A X.stack s H ⟨us, []⟩ (us ++ ds) (vs ++ dvs) Q E hr I.env0 (hb s us I.kIn hl) r2 h) fun r s' hq => ?_)
  cases r with
  | error e => exact hx pins σ H s e s' I hq
  | ok fl =>
    cases fl with
    | ret u => exact I.after hq
    | next => exact False.elim hq
    | brk => exact False.elim hq
    | cont => exact False.elim hq
theorem pe_callW (F : FnW X.prog X.w X.K X.mg X.base CX k f fd ps sp) (hr : RoomW k X.A) (hg : Gl X x) (hm : X.mg x = some (.ref f)) (hk : PySem.W.keepIn X.K (.ref f) = true) (hb : Binds X.K fd ps ds) (hd : Vals dvs ds) (hx : Passes CX X E)
    (ha : PA X (e :: es) t) (hdb : (x == ("__debug__" : Str)) = false := by decide) (he : starEach (e :: es) X.env = (false, eval e X.env) :: starEach es X.env := by rfl) (hpl : (backTo pos (starEach es X.env)).any (·.1) = false := by rfl) :
    PE X (.Call (.Name x p) (e :: es) [] pos) (tCall sp dvs E t) := by
  refine ⟨fun pins s σ H Q I h => ?_⟩
  refine wpAny_Call_Name_kw (ld_glob I hg hm ?_ hdb)
  refine PySem.W.callWith_K (h₀ := X.base) I.ok.mod.kin hk (thn (ha.run pos pins s σ H _ I h) fun us s1 ⟨vs, H1, I1, r, q⟩ => ⟨I1.kIn, ?_⟩) he hpl
  exact run_fnW F hr hb hd hx I1 r q
end
end L2
set_option Elab.async false
set_option linter.all false
set_option maxRecDepth 100000
set_option maxHeartbeats 2000000
namespace PySem
namespace DyeX
open PySem.W PySem.Calls PyProof.Rows PySem.HandSPX
/-! ### the text of DyeError.__init__ -/
def iA (p1 p2 p3 p4 : Pos) (j : Nat) : Arguments := { posonlyargs := [], args := [{ arg := "self", annotation := none, pos := p1 }, { arg := "thing", annotation := none, pos := p2 }, { arg := "words", annotation := none, pos := p3 }], vararg := none, kwonlyargs := [], kw_defaults := [], kwarg := none, defaults := [(.Constant (.str "refused") j p4)] }
def iB (a1 a2 a3 a4 a5 a6 q1 q2 q3 q4 : Pos) : List Stmt := [.Expr (.Call (.Attribute (.Call (.Name "super" a1) [] [] a2) "__init__" a3) [.Name "words" a4] [] a5) a6, .Assign [.Attribute (.Name "self" q1) "thing" q2] (.Name "thing" q3) q4]
def iS : Scope := { kind := .function, names := [(PySem.Str.ofString "self", .local), (PySem.Str.ofString "thing", .local), (PySem.Str.ofString "words", .local), (PySem.Str.ofString "__class__", .free), (PySem.Str.ofString "super", .globalImplicit)], isGenerator := false, isCoroutine := false, more := [] }
/-- what the written part says of an own error at C (DyeError, or a class of it without more), of DyeError at D and its __init__ at fI -/
structure DyeTxt (prog : Program) (K : Frag) (D C fI : Addr) : Prop where
  cls : ∃ nm q N bs bm sn sub ab col dd k0 k1 k2 k3 k5, K.lookup C = some (excClassObj nm q C N bs bm true sn sub ab col dd k0 k1 k2 k3 k5 "ValueError.__new__") ∧ refsVE bm = true
  sa : findIn K (.ref C) "__setattr__" = some (some (.builtin "object.__setattr__"))
  noN : findIn K (.ref C) "thing" = some none
  iC : findIn K (.ref C) "__init__" = some (some (.ref fI))
  tC : typeIn K (.ref fI) = some (.type "function")
  kC : keepIn K (.ref C) = true
  exC : subIn K (.ref C) (.type "BaseException") = some true
  tyC : typeIn K (.ref C) = some (.type "type")
  q : excInitIn K C veTail "ValueError.__new__" = true
  hm : ks_superIn K C D "__init__" = some (some (.builtin "ValueError.__init__"))
  hB : subIn K (.ref C) (.type "ValueError") = some true
  hsub : mroIn K C (.ref D) = some true
  hsuper : nsIn K mainGlobals "super" = some none
  ho : nsIn K cStatics "thirdparty.any" = some none
  htop : (prog.main.scope.names.lookup ("super" : Str)).isSome = false
  fn : ∃ (dT : Addr) (dO : Obj) (dI : Value) (dN : Nat) (oc : Value) (od : Option Addr) (doc pm : Value) (an : Option Addr) (ct : Value) (cda cc : Addr) (osl : Array (Option Value)) (p1 p2 p3 p4 : Pos) (j : Nat) (a1 a2 a3 a4 a5 a6 q1 q2 q3 q4 : Pos)
      (ccl cl : Value) (cdd cld : Option Addr) (ccs csl : Array (Option Value)) (vs : Array Value) (file : Str) (tf : Tok) (cdD : ClassData),
    (a3.endLine == a5.line) = true ∧ K.lookup fI = some ⟨oc, od, .func (ksFn "__init__" "DyeError.__init__" (iA p1 p2 p3 p4 j) (iB a1 a2 a3 a4 a5 a6 q1 q2 q3 q4) iS (.ref dT) .none doc pm an (.ref cda) ct cc), osl⟩ ∧ K.lookup dT = some dO ∧ dO.data = .seq #[dI] dN ∧ codeIn K (.ref cda) "DyeError.__init__" = true ∧
    K.lookup cda = some ⟨ccl, cdd, .fields vs, ccs⟩ ∧ vs[2]? = some (.str file tf) ∧ ((prog.main.file : Str) == file) = true ∧ K.lookup cc = some ⟨cl, cld, .cell (some (.ref D)), csl⟩ ∧ clsIn K D = some cdD
/-- what __init__ leaves of a fresh exception at x -/
structure InitEnd (h h' : Heap) (x C dx t1 : Addr) (v : Value) : Prop where
  keep : ∀ b o, b ≠ x → h.get? b = some o → h'.get? b = some o
  obj : h'.get? x = some { cls := .ref C, dict := some dx, data := .fields #[.ref t1, .none, .none, .none, .bool false, .none] }
  dbig : h.objs.size ≤ dx
  dne : dx ≠ x
  ns : h'.Ns1 dx (fun y => if y = "thing" then some v else none)
structure OwnMade (h h' : Heap) (e C d : Addr) (v : Value) : Prop where
  keep : ∀ b o, h.get? b = some o → h'.get? b = some o
  new : h.objs.size ≤ e
  obj : ∃ oe vs, h'.get? e = some oe ∧ oe.cls = .ref C ∧ oe.dict = some d ∧ oe.data = .fields vs ∧ vs[1]? = some .none
  dbig : h.objs.size ≤ d
  dne : d ≠ e
  ns : h'.Ns1 d (fun y => if y = "thing" then some v else none)
theorem two_size (v u : Value) : [v, u].length ≤ sizeLine := by rw [sizeLine_eq]; exact (by decide : 2 ≤ 16777216)
theorem one_size (v : Value) : [v].length ≤ sizeLine := by rw [sizeLine_eq]; exact (by decide : 1 ≤ 16777216)
section
variable {prog : Program} {w : World} {A : Around} {E : Value → Shared → Prop} {R : Result → Shared → Prop} {s : Shared} {K : Frag} {mg mb : Str → Option Value} {D C fI : Addr}
theorem dye_init (T : DyeTxt prog K D C fI) {x t0 : Addr} {v u : Value} (X : K.In s.heap) (hlim : s.heap.NoLimit) (Gm : s.heap.Ns mainGlobals mg) (Gb : s.heap.Ns builtinsNs mb) (hb : ∀ y : Str, y ≠ "__name__" → mb y = bootBuiltins y)
    (hx : s.heap.get? x = some (excO C t0)) (hnx : K.lookup x = none) (hnm : x ≠ mainGlobals) (hnb : x ≠ builtinsNs) (hroom : A.depth < recursionLimit)
    (hq : ∀ h' tk dx t1, InitEnd s.heap h' x C dx t1 v → R (.ok (.ret .none)) { s with heap := h', toks := tk }) :
    codeAny (model prog w) A (.call (.ref fI) ⟨[.ref x, v, u], []⟩) R s := by
  obtain ⟨dT, dO, dI, dN, oc, od, doc, pm, an, ct, cda, cc, osl, p1, p2, p3, p4, j, a1, a2, a3, a4, a5, a6, q1, q2, q3, q4, ccl, cl, cdd, cld, ccs, csl, vs, file, tf, cdD, hline, hfI, hdT, hdO, hcd, hcda, hvs, hfile, hcc, hD⟩ := T.fn
  obtain ⟨nm, q, N, bs, bm, sn, sub, ab, col, dd, k0, k1, k2, k3, k5, hC, hbm⟩ := T.cls
  have hcl : clsIn K C = some { name := nm, bases := bs, mro := .ref C :: bm, ns := N, qualname := q, hasDict := true, slotNames := sn, subclasses := sub, abstract := ab, collection := col, hasDel := false } := by unfold clsIn; rw [hC] <;> rfl
  -- the ground: the heap without x
  have Xg : K.In (hideAll s.heap [x]) := fun a o e => hideAll_get _ (X a o e) fun hm => by
    have : a = x := by simpa using hm
    rw [this, hnx] at e; cases e
  refine ks_codeAny_call_defAt (fd := ksFn "__init__" "DyeError.__init__" (iA p1 p2 p3 p4 j) (iB a1 a2 a3 a4 a5 a6 q1 q2 q3 q4) iS (.ref dT) .none doc pm an (.ref cda) ct cc) (body := iB a1 a2 a3 a4 a5 a6 q1 q2 q3 q4) (binds := [("self", .ref x), ("thing", v), ("words", u)])
    hroom (X _ _ hfI) rfl hlim (codeRec_of X hcd) rfl (L2.BindsTo.of_looks fun M => L2.looks_items X hdT hdO (PySem.W.Looks.of_pure (by first | rfl | with_unfolding_all rfl))) (by intro y hy; simp only [ksFn, fnX, iS, List.mem_cons, List.not_mem_nil, or_false] at hy; rcases hy with rfl | rfl | rfl | rfl | rfl <;> (intro z; cases z)) (by intro y hy; simp only [List.mem_cons, List.not_mem_nil, or_false] at hy; rcases hy with rfl | rfl | rfl <;> rfl) (fun h₁ hns hk₁ => ?_) rfl rfl rfl
  have F : Fr (hideAll s.heap [x]) s.heap.objs.size h₁ (fun y => [(("self" : Str), Value.ref x), ("thing", v), ("words", u)].reverse.lookup y) := ⟨hns, fun b o e => hk₁ b o (of_hideAll _ e), Nat.le_of_eq (hideAll_size _ _)⟩
  have hxL : x ≠ s.heap.objs.size := Nat.ne_of_lt (Heap.lt_size hx)
  have hx0 : (hideAll s.heap [x]).get? x = none := hideAll_none _ (by simp)
  have N0 : News (hideAll s.heap [x]) s.heap.objs.size h₁ [(x, excObj C t0 none .none)] := fun p hp => by
    have : p = (x, excObj C t0 none .none) := by simpa using hp
    rw [this]
    exact ⟨hk₁ _ _ hx, hxL, hx0⟩
  have I0 : PySem.W.InstAt h₁ x (excObj C t0 none .none) C none := ⟨hk₁ _ _ hx, rfl, rfl, trivial⟩
  have X1 : K.In h₁ := X.keeps hk₁
  have hbase : ∀ {whole : Sem Value} {Q : Value → Shared → Prop} {s1 : Shared}, s1.heap = h₁ → (∀ so h', Fr (hideAll s.heap [x]) s.heap.objs.size h' (fun y => [(("self" : Str), Value.ref x), ("thing", v), ("words", u)].reverse.lookup y) → News (hideAll s.heap [x]) s.heap.objs.size h' ((so, ks_superObj D x C) :: [(x, excObj C t0 none .none)]) → (∀ b o, h₁.get? b = some o → h'.get? b = some o) → x < so → Q (.ref so) { s1 with heap := h' }) →
      _root_.PySem.wpAt (model prog w) (A.deeper (ksEnv "DyeError.__init__" iS s.heap.objs.size fI (.ref cda) cc)) (.func (iB a1 a2 a3 a4 a5 a6 q1 q2 q3 q4) (ksEnv "DyeError.__init__" iS s.heap.objs.size fI (.ref cda) cc))
        (attributeBase (.Call (.Name "super" a1) [] [] a2) "__init__" (ksEnv "DyeError.__init__" iS s.heap.objs.size fI (.ref cda) cc) whole) Q
        (fun e s' => wpAny (model prog w) (A.deeper (ksEnv "DyeError.__init__" iS s.heap.objs.size fI (.ref cda) cc)) (leaving (ksEnv "DyeError.__init__" iS s.heap.objs.size fI (.ref cda) cc) e) (fun _ s'' => R (.error e) s'') (fun e' s'' => R (.error e') s'') s') s1 := by
    intro whole Q s1 e1 hQ
    obtain ⟨hh, g, d, t, os⟩ := s1
    have e1 : hh = h₁ := e1
    subst e1
    obtain ⟨oD, hD1, hD2⟩ : ∃ oD, hh.get? D = some oD ∧ oD.data = .cls cdD := by
      unfold clsIn at hD
      split at hD
      · rename_i c d cd' sl ho
        cases hD
        exact ⟨_, X1 _ _ ho, rfl⟩
      · cases hD
    refine ks_wpAt_super_base (env := ksEnv "DyeError.__init__" iS s.heap.objs.size fI (.ref cda) cc) rfl rfl rfl rfl (X1 _ _ hfI) rfl rfl rfl (X1 _ _ hcda) rfl hvs hfile T.htop ?_
    refine ks_loadName_global rfl rfl (loadGlobal_builtin (env := ksEnv "DyeError.__init__" iS s.heap.objs.size fI (.ref cda) cc) (Gm.keeps hk₁) (mg_none_of X Gm T.hsuper) (Gb.keeps hk₁) ((hb _ (by decide +kernel)).trans (by decide +kernel)) ⟨rfl, ?_⟩)
    refine wpAny_loadName_free rfl rfl rfl ⟨_, X1 _ _ hcc, rfl⟩ ?_
    refine wpAny_loadName_local rfl rfl hns (by rfl) ?_
    refine ks_wpAny_isType_cls hD1 hD2 ⟨rfl, ?_⟩
    refine ks_wpAny_call_super hD1 hD2 I0.at_ I0.cls (fun c e => ?_) (looks_mroIn X1 T.hsub) (fun h' e k => ?_)
    · have := I0.no
      unfold notCls at this
      rw [e] at this
      exact Bool.noConfusion this
    · obtain ⟨F', N', l'⟩ := ks_newsPush (s := ⟨hh, g, d, t, os⟩) F N0 rfl e k
      exact hQ _ _ F' N' k (l' (x, excObj C t0 none .none) List.mem_cons_self)
  refine ks_wpAt_execs_cons (ks_wpAt_Expr_any ?_ rfl)
  refine ks_wpAt_MethodCall (pl := L2.plainOf (.Call (.Name "super" a1) [] [] a2) (ksEnv "DyeError.__init__" iS s.heap.objs.size fI (.ref cda) cc)) (hbase rfl fun so h2 F2 N2 k2 lso => ?_) ?_
  · have X2 : K.In (hideAll s.heap [x]) := Xg
    have Ix2 : PySem.W.InstAt h2 x (excObj C t0 none .none) C none := ⟨k2 _ _ (hk₁ _ _ hx), rfl, rfl, trivial⟩
    refine kxs_method kxs_ValueError F2 X2 N2 List.mem_cons_self Ix2 T.ho T.hm T.hB rfl fun q h3 F3 N3 l3 => ?_
    refine kxs_callWith1 N3 List.mem_cons_self ?_ rfl rfl
    refine Calls.spliced_cons (wpAny_Name (wpAny_loadName_local rfl rfl F3.ns (by rfl) ?_) (by decide))
    refine Calls.spliced_nil ⟨kxs_at N3 List.mem_cons_self, ?_⟩
    have q1 : x < q := l3 (x, excObj C t0 none .none) (by simp)
    refine kxs_call F3 X2 N3 _root_.PySem.F.excBase_ValueError T.q List.mem_cons_self (.tail (Nat.ne_of_gt q1) (.tail (Nat.ne_of_gt lso) (.head (fun p hp => nomatch hp)))) (one_size u) fun t' h4 F4 N4 l4 => ?_
    have X4 : K.In h4 := Xg.keeps F4.keep
    have hx4 : h4.get? x = some (excO C t') := (N4 (x, excObj C t' none .none) (by simp)).1
    refine ks_wpAt_execs_cons (ks_wpAt_Assign_Attr (wpAt_of_wpAny (wpAny_Name (wpAny_loadName_local (v := v) rfl rfl F4.ns (by rfl) (wpAny_Name (wpAny_loadName_local (v := .ref x) rfl rfl F4.ns (by rfl) ?_) (by decide))) (by decide))) rfl)
    refine set_plain X4 (ox := excO C t') (od := none) ⟨hx4, rfl, rfl, trivial⟩ T.sa ?_
    refine exc_osa X4 hx4 hcl (show refsVE (.ref C :: bm) = true from hbm) rfl T.noN (fun h5 tk5 dx k5' dn dne hx5 hn5 => ?_)
    refine wpAt_of_wpAny (wpAny_execs_nil (hq h5 tk5 dx t' ⟨fun b o hb' e => ?_, hx5, ?_, dne, hn5⟩))
    · exact k5' b o hb' (F4.keep b o (hideAll_get _ e fun hm => hb' (by simpa using hm)))
    · have z : s.heap.objs.size < h4.objs.size := F4.ns.lt
      exact Nat.le_of_lt (Nat.lt_of_lt_of_le z dn)
  · have e : ∀ ov, methodCall (.Call (.Name "super" a1) [] [] a2) "__init__" a3 a5 (ksEnv "DyeError.__init__" iS s.heap.objs.size fI (.ref cda) cc) ov 1 (backTo a5 (starEach [.Name "words" a4] (ksEnv "DyeError.__init__" iS s.heap.objs.size fI (.ref cda) cc))) [] = (do
        let (f, first) ← holding [ov] (getMethod ov "__init__" (L2.plainOf (.Call (.Name "super" a1) [] [] a2) (ksEnv "DyeError.__init__" iS s.heap.objs.size fI (.ref cda) cc)))
        callWith a5 f first (backTo a5 (starEach [.Name "words" a4] (ksEnv "DyeError.__init__" iS s.heap.objs.size fI (.ref cda) cc))) []) := fun ov => L2.mcall_line rfl hline
    exact congrArg (fun k => attributeBase (.Call (.Name "super" a1) [] [] a2) "__init__" (ksEnv "DyeError.__init__" iS s.heap.objs.size fI (.ref cda) cc) (eval (.Call (.Name "super" a1) [] [] a2) (ksEnv "DyeError.__init__" iS s.heap.objs.size fI (.ref cda) cc)) >>= fun ov => standAt a3.atName >>= fun _ => k ov) (funext e)
theorem dye_made (T : DyeTxt prog K D C fI) {v u : Value} (X : K.In s.heap) (hlim : s.heap.NoLimit) (Gm : s.heap.Ns mainGlobals mg) (Gb : s.heap.Ns builtinsNs mb) (hb : ∀ y : Str, y ≠ "__name__" → mb y = bootBuiltins y) (hroom : A.depth + 1 < recursionLimit)
    (hq : ∀ h' tk e d, OwnMade s.heap h' e C d v → R (.ok (.ret (.ref e))) { s with heap := h', toks := tk }) :
    codeAny (model prog w) A (.call (.ref C) ⟨[v, u], []⟩) R s := by
  obtain ⟨nm, q, N, bs, bm, sn, sub, ab, col, dd, k0, k1, k2, k3, k5, hC, hbm⟩ := T.cls
  obtain ⟨hp, g, dr, tk, os⟩ := s
  have k : ∀ b o, hp.get? b = some o → ((hp.push (kdv_tup [v, u])).push (excO C hp.objs.size)).get? b = some o := fun b o e => Heap.get?_push_of_some _ (Heap.get?_push_of_some _ e)
  have hget : ((hp.push (kdv_tup [v, u])).push (excO C hp.objs.size)).get? (hp.objs.size + 1) = some (excO C hp.objs.size) := by heap_get
  have hnx : K.lookup (hp.objs.size + 1) = none := by
    cases e : K.lookup (hp.objs.size + 1) with
    | none => rfl
    | some o =>
      have z : hp.get? (hp.objs.size + 1) = some o := X _ _ e
      exact absurd (Nat.lt_of_succ_lt (Heap.lt_size z)) (Nat.lt_irrefl _)
  have n1 : hp.objs.size + 1 ≠ mainGlobals := fun z => by have := Gm.lt; rw [← z] at this; exact absurd (Nat.lt_of_succ_lt this) (Nat.lt_irrefl _)
  have n2 : hp.objs.size + 1 ≠ builtinsNs := fun z => by have := Gb.lt; rw [← z] at this; exact absurd (Nat.lt_of_succ_lt this) (Nat.lt_irrefl _)
  refine call_own F.excBase_ValueError (fun X => refsVE_contains X bm hbm) (X _ _ hC) (looks_findIn X T.iC) (fun self => bind_fn X self T.tC) (two_size v u) ?_
  refine dye_init (s := ⟨(hp.push (kdv_tup [v, u])).push (excO C hp.objs.size), g, dr, tk, os⟩) T (X.keeps k) (hlim.keeps k) (Gm.keeps k) (Gb.keeps k) hb hget hnx n1 n2 ?_ fun h' tk' dx t1 ⟨k', hx, dn, dne, hns⟩ => ?_
  · show A.depth + 1 < recursionLimit
    exact hroom
  · have old : ∀ b o, hp.get? b = some o → h'.get? b = some o := fun b o e => k' b o (Nat.ne_of_lt (Nat.lt_succ_of_lt (Heap.lt_size e))) (k b o e)
    have z : hp.objs.size + 1 + 1 ≤ dx := by
      first
        | (simpa only [Heap.size_push] using dn)
        | exact dn
        | (have q := dn; rw [Heap.size_push, Heap.size_push] at q; exact q)
    exact ⟨rfl, hq h' tk' (hp.objs.size + 1) dx ⟨old, Nat.le_succ _, ⟨_, _, hx, rfl, rfl, rfl, rfl⟩, Nat.le_trans (Nat.le_trans (Nat.le_succ _) (Nat.le_succ _)) z, dne, hns⟩⟩
end
end DyeX
end PySem
namespace L2
open PySem PySem.Spec PyProof.Rows
theorem relO_thing {v : V} {v' : Value} (r : RelV v v') (f : Str) : RelO (List.lookup f [(("thing" : Str), v)]) (if f = "thing" then some v' else none) := by
  by_cases hw : f = "thing"
  · subst hw
    rw [if_pos rfl]
    have q : List.lookup ("thing" : Str) [(("thing" : Str), v)] = some v := by simp [List.lookup]
    rw [q]
    exact r
  · rw [if_neg hw]
    have qw : (f == ("thing" : Str)) = false := by simpa using hw
    have q2 : List.lookup f [(("thing" : Str), v)] = none := by simp [List.lookup, qw]
    rw [q2]
    trivial
section
variable {X : Cx} {D C fI : Addr}
/-- C(thing, words) -/
def tMkDye (C : Addr) (ta : TA) : St → Hp → XK → Prop := fun σ H Q => ta σ H fun vs H1 => ∃ v u, vs = [v, u] ∧ ∀ d, H1 d = none → Q (.ref C) (some d) (upd H1 d (.xd [(("thing" : Str), v)]))
theorem pmk_dye {x : Str} {a b : Expr} {ta : TA} {p pos : Pos} {k : Nat} (T : PySem.DyeX.DyeTxt X.prog X.K D C fI) (gC : X.mg x = some (.ref C)) (hr : Room k X.A) (ha : PA X [a, b] ta) (hg : Gl X x) (hdb : (x == ("__debug__" : Str)) = false)
    (he : starEach (a :: [b]) X.env = (false, eval a X.env) :: starEach [b] X.env) (hpl : (backTo pos (starEach [b] X.env)).any (·.1) = false) :
    PMk X (.Call (.Name x p) [a, b] [] pos) (tMkDye C ta) := by
  intro pins s σ H Q I h
  refine wpAny_Call_Name_kw (ld_glob I hg gC ?_ hdb)
  refine PySem.W.callWith_K (h₀ := X.base) I.ok.mod.kin T.kC (thn (ha.run pos pins s σ H _ I h) fun us s1 hh => ?_) he hpl
  obtain ⟨vs, H1, I1, r1, v, u, ev, q1⟩ := hh
  subst ev
  refine ⟨I1.kIn, ?_⟩
  obtain ⟨v', u', rfl, rv, ru⟩ := vals2 r1
  show wpAny _ _ (call (.ref C) [v', u']) _ _ _
  have hlim := I1.nolimit
  have hglob := I1.mod.glob.keeps I1.bk
  obtain ⟨mb, hblt, hboot⟩ := I1.mod.blt
  have hblt := hblt.keeps I1.bk
  obtain ⟨hp, g, dr, tk, os⟩ := s1
  refine wpAny_call (PySem.DyeX.dye_made T I1.kIn hlim hglob hblt hboot (by have := hr.dp; omega) fun h' tk' e d M => ?_)
  show MkP X pins σ Q (.ref e) ⟨h', g, dr, tk', os⟩
  obtain ⟨oe, fv, hoe, hc, hd, hdat, h1⟩ := M.obj
  have hns := M.ns
  obtain ⟨G', g1, g2⟩ := restrict h' fun b => decide (b ≠ e)
  have gk : ∀ b, b ≠ e → G'.get? b = h'.get? b := fun b hb => g1 b (decide_eq_true hb)
  have ge : G'.get? e = none := g2 e (by simp)
  have old : ∀ b o, hp.get? b = some o → G'.get? b = some o := fun b o q => (gk b (Nat.ne_of_lt (Nat.lt_of_lt_of_le (Heap.lt_size q) M.new))).trans (M.keep b o q)
  have ob : ObjOk X.prog X.w (upd H1 d (.xd [(("thing" : Str), v)])) G' d (.xd [(("thing" : Str), v)]) :=
    ⟨_, hns.at (fun o q => (gk d M.dne).trans q), fun f => relO_thing rv f⟩
  have J : Inv X pins σ (upd H1 d (.xd [(("thing" : Str), v)])) ⟨G', g, dr, tk', os⟩ := I1.laid (t' := tk') old M.dbig ob
  refine ⟨e, oe, fv, ⟨G', g, dr, tk', os⟩, _, .ref C, some d, rfl, J, fun b o q => ?_, ge, hoe, ⟨hc, hd⟩, hdat, h1, ?_, rfl, I1.bare, raises_own T.exC T.tyC, q1 d (I1.hok.fresh M.dbig)⟩
  · by_cases hb : b = e
    · have q' : G'.get? b = some o := q
      rw [hb, ge] at q'; cases q'
    · exact (gk b hb).symm.trans q
  · rw [upd_ne (Ne.symm M.dne)]
    exact I1.hok.fresh M.new
/-- raise C(thing, words) -/
def tRaiseDye (C : Addr) (W : WX) (ta : TA) : TS := fun _ σ H => tMkDye C ta σ H fun cls d H' => W cls d σ H'
theorem ps_raiseDye {x : Str} {a b : Expr} {ta : TA} {W : WX} {p pos pos2 : Pos} {k : Nat} (hc : X.calm = true) (T : PySem.DyeX.DyeTxt X.prog X.K D C fI) (gC : X.mg x = some (.ref C)) (hr : Room k X.A) (tk : Takes X W) (ha : PA X [a, b] ta) (hg : Gl X x := by rfl) (hdb : (x == ("__debug__" : Str)) = false := by decide)
    (he : starEach (a :: [b]) X.env = (false, eval a X.env) :: starEach [b] X.env := by rfl) (hpl : (backTo pos (starEach [b] X.env)).any (·.1) = false := by rfl) :
    PS X (.Raise (some (.Call (.Name x p) [a, b] [] pos)) none pos2) (tRaiseDye C W ta) := ps_raise hc tk (pmk_dye T gC hr ha hg hdb he hpl)
end
end L2
set_option Elab.async false
set_option linter.all false
set_option maxRecDepth 100000
set_option maxHeartbeats 2000000
namespace L2
open PySem PySem.Spec PyProof.Rows
/-! ### a caught exception, tracked -/
/-- the exception at a: its class, its own dict -/
def EXO (a : Addr) (cls : Value) (d : Option Addr) : HO := .ext fun h => ∃ oe vs, h.get? a = some oe ∧ oe.cls = cls ∧ oe.dict = d ∧ oe.data = .fields vs
theorem exo_ok' {P : Program} {w : World} {H : Hp} {h : Heap} {a : Addr} {cls : Value} {d : Option Addr} {oe : Obj} {vs : Array Value} (e : h.get? a = some oe) (h1 : oe.cls = cls) (h2 : oe.dict = d) (h3 : oe.data = .fields vs) : ObjOk P w H h a (EXO a cls d) :=
  ⟨⟨oe, vs, e, h1, h2, h3⟩, ⟨oe, e⟩, fun _ h2 ⟨o, vs, q, x⟩ k => ⟨o, vs, k o q, x⟩⟩
theorem exo_of {P : Program} {w : World} {H : Hp} {h : Heap} {a : Addr} {cls : Value} {d : Option Addr} (hok : HOk P w H h) (e : H a = some (EXO a cls d)) : ∃ oe vs, h.get? a = some oe ∧ oe.cls = cls ∧ oe.dict = d ∧ oe.data = .fields vs := (hok a _ e).1
section
variable {X : Cx} {pins : List (Addr × Obj)} {σ : St} {H : Hp} {s : Shared}
/-- into an except suite, the exception tracked -/
theorem Inv.suiteT (I : Inv X pins σ H s) {a : Addr} {oe : Obj} {vs : Array Value} {cls : Value} {d : Option Addr} (ha : s.heap.get? a = some oe) (h1 : oe.cls = cls) (h2 : oe.dict = d) (hd : oe.data = .fields vs) (na : H a = none)
    (n0 : X.s_0.heap.get? a = none) (npin : ∀ p ∈ X.pn ++ pins, p.1 ≠ a) (nL : a ≠ X.env.locals) :
    Inv (X.suite a (X.pn ++ pins)) [] σ (upd H a (EXO a cls d)) s := by
  have ne : ∀ b o, H b = some o → b ≠ a := fun b o e => ne_of_none e na
  refine ⟨I.ok.suite _ _, I.os, I.bare, ⟨I.base.keep, I.base.slot, fun b o e n hx => ?_, I.base.there, fun b xs e => ?_, fun b o xs e => ?_, fun b ps e => ?_⟩, I.loc, I.cell, ?_, fun x c e => ?_, fun p hp => ?_, fun b u e => ?_, I.len⟩
  · have q : b ≠ a := fun z => by rw [z, n0] at e; cases e
    rw [upd_ne q]; exact I.base.free b o e n hx
  · have q := I.base.tups b xs e
    rw [upd_ne (ne _ _ q)]; exact q
  · have q := I.base.frzs b o xs e
    rw [upd_ne (ne _ _ q)]; exact q
  · obtain ⟨m, q⟩ := I.base.tbls b ps e
    exact ⟨m, by rw [upd_ne (ne _ _ q)]; exact q⟩
  · rw [upd_ne (Ne.symm nL)]; exact I.free
  · have q : c ≠ a := fun z => by
      obtain ⟨v, o, ho, hv⟩ := I.cell x c e
      rw [z, ha] at ho; cases ho; rw [hd] at hv; cases hv
    rw [upd_ne q]; exact I.freeC x c e
  · have hp' : p ∈ X.pn ++ pins := by rw [List.append_nil] at hp; exact hp
    obtain ⟨q1, q2, q3, q4, q5⟩ := I.pin p hp'
    exact ⟨q1, by rw [upd_ne (npin p hp')]; exact q2, q3, q4, q5⟩
  · by_cases q : b = a
    · subst q; rw [upd_same] at e; cases e
      exact exo_ok' ha h1 h2 hd
    · rw [upd_ne q] at e
      refine (I.hok b u e).stay (fun _ _ _ z => z) (fun c z => ?_) fun c xs z => ?_
      · rw [upd_ne (ne _ _ z)]; exact z
      · rw [upd_ne (ne _ _ z)]; exact z
theorem Inv.unsuiteT {a : Addr} {pn' : List (Addr × Obj)} (I : Inv (X.suite a (X.pn ++ pins)) pn' σ H s) (ok : X.Ok) : Inv X pins σ H s :=
  ⟨ok, I.os, I.bare, I.base, I.loc, I.cell, I.free, I.freeC, fun p hp => I.pin p (List.mem_append_left _ hp), I.hok, I.len⟩
end
/-- what the clauses wish of an exception of the body, one after the other; i: the slot of «as n» -/
def endI (i : Option Nat) (σ : St) : St := match i with | some i => σ.set i none | none => σ
def setI (i : Option Nat) (a : Addr) (σ : St) : St := match i with | some i => σ.set i (some (.ref a)) | none => σ
def wManyA (K : PySem.W.Frag) (Wout : WX) (D : Ends) : List (Value × Option Nat × TS) → WX
  | [] => Wout
  | (c, i, ts) :: r => fun cls d σ H => ∃ b, PySem.W.exmOne K cls c = some b ∧ (b = true → ∀ a, H a = none → ts { nx := fun σ' H' => D.nx (endI i σ') H', rt := D.rt, bk := fun σ' H' => D.bk (endI i σ') H', ct := fun σ' H' => D.ct (endI i σ') H' } (setI i a σ) (upd H a (EXO a cls d))) ∧ (b = false → wManyA K Wout D r cls d σ H)
inductive HdsOkA (X : Cx) : List ExceptHandler → List (Value × Option Nat × TS) → Prop
  | nil : HdsOkA X [] []
  | bare {x : Str} {c : Value} {ts : TS} {b₀ : Stmt} {suite : List Stmt} {np pos' : Pos} {hds : List ExceptHandler} {l : List (Value × Option Nat × TS)} (hc : Names X x c)
      (hsu : ∀ (a : Addr) (pn : List (Addr × Obj)), PSs (X.suite a pn) (b₀ :: suite) ts) (r : HdsOkA X hds l) :
      HdsOkA X (.ExceptHandler (some (.Name x np)) none (b₀ :: suite) pos' :: hds) ((c, none, ts) :: l)
  | as_ {x n : Str} {c : Value} {i : Nat} {ts : TS} {b₀ : Stmt} {suite : List Stmt} {np pos' : Pos} {hds : List ExceptHandler} {l : List (Value × Option Nat × TS)} (hc : Names X x c) (hi : X.N[i]? = some n) (hln : X.env.kindOf n = some .local)
      (hsu : ∀ (a : Addr) (pn : List (Addr × Obj)), PSs (X.suite a pn) (b₀ :: suite) ts) (r : HdsOkA X hds l) :
      HdsOkA X (.ExceptHandler (some (.Name x np)) (some n) (b₀ :: suite) pos' :: hds) ((c, some i, ts) :: l)
section
variable {X : Cx} {body : List Stmt} {h₀ : ExceptHandler} {hds : List ExceptHandler} {l : List (Value × Option Nat × TS)} {pos : Pos} {tb : WX → TS} {Wout : WX}
theorem ps_try_manyA (hs : X.stack = X.env :: X.outer) (hf : X.env.frame = some X.env.locals) (hN : X.N.Nodup) (hex : X.ex = []) (tk : Takes X Wout)
    (hb : ∀ (W : WX) (pn : List (Addr × Obj)) (xe : Value → Shared → Prop), Takes (X.tr pn xe) W → PassesOwn (model X.prog X.w) X.A X.env xe → PSs (X.tr pn xe) body (tb W))
    (hh : HdsOkA X (h₀ :: hds) l) : PS X (.Try body (h₀ :: hds) [] [] pos) (fun D σ H => tb (wManyA X.K Wout D l) D σ H) := by
  refine ⟨fun pins s σ H D I h => ?_⟩
  have ok := I.ok
  have hfr : X.A.frames = some (X.env :: X.outer) := by rw [ok.frames, hs]
  refine wpAny_Try_except ?_
  refine wpAny_mono ((hb (wManyA X.K Wout D l) (X.pn ++ pins) (fun e s₁ => wpAny (model X.prog X.w) X.A (noteFrame e X.env) (fun _ s₂ => wpAny (model X.prog X.w) X.A (setFlight e none) (fun _ s₃ =>
    wpAny (model X.prog X.w) X.A (handleBy e X.env (h₀ :: hds)) (SP X pins D) X.xe s₃) X.xe s₂) X.xe s₁) (fun u s' xx => ?_) PassesOwn.looking).run [] s σ H D (I.toTry _) h) (fun f s1 hsp => ?_) (fun e s1 he => he)
  · -- the catch
    obtain ⟨a, B, sI, pins', σ', H', cls, d, rfl, J', nb, up, sky, na, os, ag, w⟩ := xx
    have J : Inv X pins σ' H' sI := J'.ofTry ok
    have sky' : Sky B (X.env :: X.outer) a (Zc cls d) X.env.locals s'.heap := by rw [← hs]; exact sky
    show wpAny (model X.prog X.w) X.A (noteFrame (.ref a) X.env) _ _ _
    refine Sky.land Zc.steady hfr hf sky' fun h3 fl3 up3 => ?_
    have J3 : Inv X pins σ' H' { s' with heap := h3 } := J.landed nb fl3.1 (up.trans up3) os ag
    obtain ⟨oe3, vs3, he3, hz3, hd3⟩ := fl3.there
    have notFr : ∀ {h : Heap} {o : Obj} {vs : Array Value}, h.FunFrames B (X.env :: X.outer) → h.get? a = some o → o.data = .fields vs → a ∉ frs (X.env :: X.outer) := fun {h o vs} ff e dd hm => by
      obtain ⟨_, o', e', hnf⟩ := ff.mem hm
      rw [e] at e'; cases e'
      exact hnf _ dd
    have nfr := notFr fl3.2.2.1 he3 hd3
    have nL : a ≠ X.env.locals := fun z => nfr (List.mem_filterMap.mpr ⟨X.env, List.mem_cons_self, by rw [hf, z]⟩)
    have nF : a ∉ X.fs := fun hm => by
      obtain ⟨e, he, q⟩ := List.mem_filterMap.mp hm
      exact nfr (List.mem_filterMap.mpr ⟨e, List.mem_cons_of_mem _ he, q⟩)
    have S3 := J3.suite he3 hd3 na nL nF
    have gI : sI.heap.get? a = none := by
      cases q : sI.heap.get? a with
      | none => rfl
      | some o =>
        have z := nb a o q (by rw [hs]; exact nfr)
        rw [fl3.2.1] at z; cases z
    have n0 : X.s_0.heap.get? a = none := by
      cases q : X.s_0.heap.get? a with
      | none => rfl
      | some o =>
        obtain ⟨o', z⟩ := J.base.there a o q (by rw [hex]; simp)
        rw [gI] at z; cases z
    have npin : ∀ p ∈ X.pn ++ pins, p.1 ≠ a := fun p hp z => by
      have := (J.pin p hp).1
      rw [z, gI] at this; cases this
    have go : ∀ {hds' : List ExceptHandler} {l' : List (Value × Option Nat × TS)}, HdsOkA X hds' l' → wManyA X.K Wout D l' cls d σ' H' →
        wpAny (model X.prog X.w) X.A (handleBy (.ref a) X.env hds') (SP X pins D) X.xe { s' with heap := h3 } := by
      intro hds' l' hk
      induction hk with
      | nil =>
        intro w
        refine wpAny_handleBy_nil ?_
        obtain ⟨k1, k2, k3, oe, vs, T, oT, ts', he, hz, hd, h1, hr⟩ := id fl3
        unfold PySem.passOn
        refine wpAny_bind (wpAny_field he hd h1 ?_)
        rw [if_neg (show ¬ ((Value.ref T == Value.none) = true) from by simp)]
        have fin : wpAny (model X.prog X.w) X.A (setFlight (.ref a) X.env.frame) (fun _ s4 => wpAny (model X.prog X.w) X.A (throw (.ref a) : Sem Flow) (SP X pins D) X.xe s4) X.xe { s' with heap := h3 } := by
          rw [hf]
          refine HandSPX.setFlight_upZ fl3 fun h4 hh4 up4 => wpAny_throw (tk _ _ ?_)
          exact ⟨a, B, sI, pins, σ', H', cls, d, rfl, J, nb, (up.trans up3).trans up4, .inr (.inr (by rw [hs]; exact hh4)), na, os, ag, w⟩
        first
          | exact wpAny_bind (wpAny_pure (wpAny_bind fin))
          | exact wpAny_bind fin
      | @bare x c ts b₀ suite np pos' hds2 l2 hc hsu r ih =>
        intro w
        obtain ⟨b, hb1, hyes, hno⟩ := w
        refine wpAny_handleBy_cons (codeAny_handlers_test ?_) (by intro q; cases q)
        have LT : PySem.W.Looks (model X.prog X.w) h3 (typeOf (.ref a)) cls := fun A Q E s k q => wpAny_typeOf_ref (k _ _ he3) (by rw [hz3.1]; exact q)
        have LM := PySem.W.exm_one (M := model X.prog X.w) (J3.kIn) LT hb1
        have test : ∀ {Q : Value → Shared → Prop} {E : Value → Shared → Prop}, Q c { s' with heap := h3 } → wpAny (model X.prog X.w) (X.A.mark (some (.ref a))) (eval (.Name x np) X.env) Q E { s' with heap := h3 } := fun {Q E} q => by
          obtain ⟨hg, hdbg, hm | ⟨hm, hv, hnn⟩⟩ := hc
          · exact ld_glob (X := X.suite a ((a, oe3) :: (X.pn ++ pins))) S3 hg hm q hdbg
          · exact ld_blt (X := X.suite a ((a, oe3) :: (X.pn ++ pins))) S3 hg hm hv q hnn hdbg
        refine test (LM.here ?_)
        cases b with
        | true =>
          refine codeAny_handlers_suite ?_
          refine HandSPX.lands_againZ fl3 fun h4 fl4 up4 => ?_
          have J4 : Inv X pins σ' H' { s' with heap := h4 } := J.landed nb fl4.1 ((up.trans up3).trans up4) os ag
          obtain ⟨oe4, vs4, he4, hz4, hd4⟩ := fl4.there
          have S4 := J4.suiteT he4 hz4.1 hz4.2 hd4 na n0 npin nL
          refine wpAny_mono ((hsu a (X.pn ++ pins)).run [] _ _ _ _ S4 (hyes rfl a na)) (fun f s6 hsp => ?_) (fun _ _ z => False.elim z)
          cases f with
          | next =>
            obtain ⟨σ6, H6, S6, q6⟩ := hsp
            exact ⟨_, _, S6.unsuiteT ok, q6⟩
          | brk =>
            obtain ⟨σ6, H6, S6, q6⟩ := hsp
            exact ⟨_, _, S6.unsuiteT ok, q6⟩
          | cont =>
            obtain ⟨σ6, H6, S6, q6⟩ := hsp
            exact ⟨_, _, S6.unsuiteT ok, q6⟩
          | ret u =>
            obtain ⟨v6, σ6, H6, S6, r6, q6⟩ := hsp
            exact ⟨_, _, _, S6.unsuiteT ok, r6, q6⟩
        | false =>
          show wpAny _ X.A (handleBy (.ref a) X.env hds2) _ _ _
          exact ih (hno rfl)
      | @as_ x n c i ts b₀ suite np pos' hds2 l2 hc hi hln hsu r ih =>
        intro w
        obtain ⟨b, hb1, hyes, hno⟩ := w
        refine wpAny_handleBy_cons (codeAny_handlers_test ?_) (by intro q; cases q)
        have LT : PySem.W.Looks (model X.prog X.w) h3 (typeOf (.ref a)) cls := fun A Q E s k q => wpAny_typeOf_ref (k _ _ he3) (by rw [hz3.1]; exact q)
        have LM := PySem.W.exm_one (M := model X.prog X.w) (J3.kIn) LT hb1
        have test : ∀ {Q : Value → Shared → Prop} {E : Value → Shared → Prop}, Q c { s' with heap := h3 } → wpAny (model X.prog X.w) (X.A.mark (some (.ref a))) (eval (.Name x np) X.env) Q E { s' with heap := h3 } := fun {Q E} q => by
          obtain ⟨hg, hdbg, hm | ⟨hm, hv, hnn⟩⟩ := hc
          · exact ld_glob (X := X.suite a ((a, oe3) :: (X.pn ++ pins))) S3 hg hm q hdbg
          · exact ld_blt (X := X.suite a ((a, oe3) :: (X.pn ++ pins))) S3 hg hm hv q hnn hdbg
        refine test (LM.here ?_)
        cases b with
        | true =>
          refine codeAny_handlers_suite_as ?_
          refine HandSPX.lands_againZ fl3 fun h4 fl4 up4 => ?_
          have J4 : Inv X pins σ' H' { s' with heap := h4 } := J.landed nb fl4.1 ((up.trans up3).trans up4) os ag
          obtain ⟨oe4, vs4, he4, hz4, hd4⟩ := fl4.there
          have S4 := J4.suiteT he4 hz4.1 hz4.2 hd4 na n0 npin nL
          refine store_ok (X := X.suite a (X.pn ++ pins)) (v := .ref a) S4 hN hi (.inl hln) rfl (fun s5 S5 => ?_) (.inr hln)
          refine wpAny_mono ((hsu a (X.pn ++ pins)).run [] s5 _ _ _ S5 (hyes rfl a na)) (fun f s6 hsp => ?_) (fun _ _ z => False.elim z)
          have end_ : ∀ {σ6 : St} {H6 : Hp} {Q : Shared → Prop}, Inv (X.suite a (X.pn ++ pins)) [] σ6 H6 s6 → (∀ s7, Inv X pins (σ6.set i none) H6 s7 → Q s7) →
              wpAny (model X.prog X.w) X.A (do bindName X.env n .none; unbindBehindTheSuite X.env n pos') (fun _ s7 => Q s7) X.xe s6 := fun {σ6 H6 Q} S6 hq => gone_ok (S6.unsuiteT ok) hN hi hln hq
          cases f with
          | next =>
            obtain ⟨σ6, H6, S6, q6⟩ := hsp
            exact end_ S6 fun s7 J7 => ⟨_, _, J7, q6⟩
          | brk =>
            obtain ⟨σ6, H6, S6, q6⟩ := hsp
            exact end_ S6 fun s7 J7 => ⟨_, _, J7, q6⟩
          | cont =>
            obtain ⟨σ6, H6, S6, q6⟩ := hsp
            exact end_ S6 fun s7 J7 => ⟨_, _, J7, q6⟩
          | ret u =>
            obtain ⟨v6, σ6, H6, S6, r6, q6⟩ := hsp
            exact end_ S6 fun s7 J7 => ⟨_, _, _, J7, r6, q6⟩
        | false =>
          show wpAny _ X.A (handleBy (.ref a) X.env hds2) _ _ _
          exact ih (hno rfl)
    exact go hh w
  · cases f with
    | next =>
      obtain ⟨σ', H', J', q⟩ := hsp
      exact wpAny_execs_nil ⟨σ', H', J'.ofTry ok, q⟩
    | brk =>
      obtain ⟨σ', H', J', q⟩ := hsp
      exact ⟨σ', H', J'.ofTry ok, q⟩
    | cont =>
      obtain ⟨σ', H', J', q⟩ := hsp
      exact ⟨σ', H', J'.ofTry ok, q⟩
    | ret u =>
      obtain ⟨v, σ', H', J', r, q⟩ := hsp
      exact ⟨v, σ', H', J'.ofTry ok, r, q⟩
end
end L2
set_option Elab.async false
set_option linter.all false
set_option maxRecDepth 100000
set_option maxHeartbeats 2000000
namespace T3
open PySem L2
open Evl (Ex)

/-- values of the pure layer: tuples, frozen lists and frozen instances are values -/
inductive D where
  | non | bl (b : Bool) | int (i : Int) | str (x : Str) | ty (n : String) | ref (a : Addr)
  | tup (xs : List D) | lst (xs : List D)
  | ins (C : Addr) (ns : List Str) (vs : List D)

mutual
/-- the value d is v, its frozen parts in F -/
def RD (F : Hp) : D → V → Prop
  | .non, v => v = .non
  | .bl b, v => v = .bl b
  | .int i, v => v = .int i
  | .str x, v => v = .str x
  | .ty n, v => v = .ty n
  | .ref a, v => v = .ref a
  | .tup ds, v => ∃ a vs, v = .ref a ∧ F a = some (.tup vs) ∧ RDs F ds vs
  | .lst ds, v => ∃ a vs, v = .ref a ∧ F a = some (.lst vs) ∧ RDs F ds vs
  | .ins C ns ds, v => ∃ a dx vs, v = .ref a ∧ F a = some (.ins C dx (ns.zip vs)) ∧ ns.length = vs.length ∧ RDs F ds vs
def RDs (F : Hp) : List D → List V → Prop
  | [], vs => vs = []
  | d :: ds, vs => ∃ v r, vs = v :: r ∧ RD F d v ∧ RDs F ds r
end
mutual
theorem RD.mono {F F' : Hp} (e : Ex F F') : ∀ {d : D} {v : V}, RD F d v → RD F' d v
  | .non, _, h => h
  | .bl _, _, h => h
  | .int _, _, h => h
  | .str _, _, h => h
  | .ty _, _, h => h
  | .ref _, _, h => h
  | .tup _, _, ⟨a, vs, e1, h, r⟩ => ⟨a, vs, e1, e a _ h, RDs.mono e r⟩
  | .lst _, _, ⟨a, vs, e1, h, r⟩ => ⟨a, vs, e1, e a _ h, RDs.mono e r⟩
  | .ins _ _ _, _, ⟨a, dx, vs, e1, h, hl, r⟩ => ⟨a, dx, vs, e1, e a _ h, hl, RDs.mono e r⟩
theorem RDs.mono {F F' : Hp} (e : Ex F F') : ∀ {ds : List D} {vs : List V}, RDs F ds vs → RDs F' ds vs
  | [], _, h => h
  | _ :: _, _, ⟨v, r, e1, h, hr⟩ => ⟨v, r, e1, RD.mono e h, RDs.mono e hr⟩
end
theorem RDs.length {F : Hp} : ∀ {ds : List D} {vs : List V}, RDs F ds vs → ds.length = vs.length
  | [], vs, h => by rw [show vs = [] from h]; rfl
  | _ :: _, _, ⟨v, r, e1, h, hr⟩ => by rw [e1, List.length_cons, List.length_cons, RDs.length hr]
theorem RDs.append {F : Hp} : ∀ {ds es : List D} {vs us : List V}, RDs F ds vs → RDs F es us → RDs F (ds ++ es) (vs ++ us)
  | [], _, _, _, h, h2 => by rw [show _ = [] from h]; exact h2
  | _ :: _, _, _, us, ⟨v, r, e1, h, hr⟩, h2 => ⟨v, r ++ us, by rw [e1]; rfl, h, RDs.append hr h2⟩
theorem RDs.get {F : Hp} : ∀ {ds : List D} {vs : List V} {i : Nat} {v : V}, RDs F ds vs → vs[i]? = some v → ∃ d, ds[i]? = some d ∧ RD F d v
  | [], _, _, _, h, e => by rw [show _ = [] from h] at e; simp at e
  | d :: _, _, 0, v, ⟨v', r, e1, h, hr⟩, e => by subst e1; simp at e; subst e; exact ⟨d, rfl, h⟩
  | _ :: _, _, i + 1, v, ⟨v', r, e1, h, hr⟩, e => by
    subst e1
    obtain ⟨d, h1, h2⟩ := RDs.get (i := i) (v := v) hr (by simpa using e)
    exact ⟨d, by simpa using h1, h2⟩
theorem RDs.at {F : Hp} {ds : List D} {vs : List V} {i : Nat} {d : D} (h : RDs F ds vs) (e : ds[i]? = some d) : ∃ v, vs[i]? = some v ∧ RD F d v := by
  have hi : i < ds.length := (List.getElem?_eq_some_iff.mp e).1
  have hv : i < vs.length := by rw [← h.length]; exact hi
  obtain ⟨d', h1, h2⟩ := h.get (i := i) (v := vs[i]) (by simp [hv])
  rw [e] at h1; cases h1
  exact ⟨vs[i], by simp [hv], h2⟩
theorem RDs.of {F : Hp} : ∀ {ds : List D} {vs : List V}, ds.length = vs.length → (∀ (i : Nat) d v, ds[i]? = some d → vs[i]? = some v → RD F d v) → RDs F ds vs
  | [], [], _, _ => rfl
  | [], _ :: _, h, _ => by simp at h
  | _ :: _, [], h, _ => by simp at h
  | d :: ds, v :: vs, h, k => ⟨v, vs, rfl, k 0 d v rfl rfl, RDs.of (by simpa using h) fun i d v a b => k (i + 1) d v (by simpa using a) (by simpa using b)⟩
theorem RDs.take {F : Hp} {ds : List D} {vs : List V} (n : Nat) (h : RDs F ds vs) : RDs F (ds.take n) (vs.take n) := RDs.of (by simp [h.length]) fun i d v a b => by
  rw [List.getElem?_take] at a b
  split at a
  · rw [if_pos (by assumption)] at b
    obtain ⟨v', h1, h2⟩ := h.at a
    rw [b] at h1; cases h1; exact h2
  · cases a
theorem RDs.drop {F : Hp} {ds : List D} {vs : List V} (n : Nat) (h : RDs F ds vs) : RDs F (ds.drop n) (vs.drop n) := RDs.of (by simp [h.length]) fun i d v a b => by
  rw [List.getElem?_drop] at a b
  obtain ⟨v', h1, h2⟩ := h.at a
  rw [b] at h1; cases h1; exact h2
theorem RDs.set {F : Hp} {ds : List D} {vs : List V} {d : D} {v : V} (n : Nat) (h : RDs F ds vs) (r : RD F d v) : RDs F (ds.set n d) (vs.set n v) := RDs.of (by simp [h.length]) fun i d' v' a b => by
  by_cases e : n = i
  · subst e
    have hi : n < ds.length := by have := (List.getElem?_eq_some_iff.mp a).1; simpa using this
    have hv : n < vs.length := by rw [← h.length]; exact hi
    rw [List.getElem?_set_self hi] at a
    rw [List.getElem?_set_self hv] at b
    cases a; cases b; exact r
  · rw [List.getElem?_set_ne e] at a b
    obtain ⟨v'', h1, h2⟩ := h.at a
    rw [b] at h1; cases h1; exact h2
theorem RDs.reverse {F : Hp} {ds : List D} {vs : List V} (h : RDs F ds vs) : RDs F ds.reverse vs.reverse := RDs.of (by simp [h.length]) fun i d v a b => by
  have hi : i < ds.length := by have := (List.getElem?_eq_some_iff.mp a).1; simpa using this
  have hv : i < vs.length := by rw [← h.length]; exact hi
  rw [List.getElem?_reverse hi] at a
  rw [List.getElem?_reverse hv, ← h.length] at b
  obtain ⟨v'', h1, h2⟩ := h.at a
  rw [b] at h1; cases h1; exact h2
theorem RDs.eraseIdx {F : Hp} {ds : List D} {vs : List V} (n : Nat) (h : RDs F ds vs) : RDs F (ds.eraseIdx n) (vs.eraseIdx n) := by
  rw [List.eraseIdx_eq_take_drop_succ, List.eraseIdx_eq_take_drop_succ]
  exact (h.take n).append (h.drop (n + 1))
theorem RDs.one {F : Hp} {d : D} {v : V} (r : RD F d v) : RDs F [d] [v] := ⟨v, [], rfl, r, rfl⟩
theorem RDs.snoc {F : Hp} {ds : List D} {vs : List V} {d : D} {v : V} (h : RDs F ds vs) (r : RD F d v) : RDs F (ds ++ [d]) (vs ++ [v]) := h.append (.one r)

def isNon : D → Bool
  | .non => true
  | _ => false
theorem RD.isNon {F : Hp} {x : D} {v : V} (h : RD F x v) : decide (v = .non) = T3.isNon x := by
  cases x with
  | non => rw [show v = .non from h]; rfl
  | bl b => rw [show v = .bl b from h]; rfl
  | int b => rw [show v = .int b from h]; rfl
  | str b => rw [show v = .str b from h]; rfl
  | ty b => rw [show v = .ty b from h]; rfl
  | ref b => rw [show v = .ref b from h]; rfl
  | tup _ => obtain ⟨_, _, e, _⟩ := h; subst e; rfl
  | lst _ => obtain ⟨_, _, e, _⟩ := h; subst e; rfl
  | ins _ _ _ => obtain ⟨_, _, _, e, _⟩ := h; subst e; rfl
/-- a scalar as a value -/
def dV : V → D
  | .non => .non
  | .bl b => .bl b
  | .int i => .int i
  | .str x => .str x
  | .ty n => .ty n
  | .ref a => .ref a
  | .byt _ => .non
  | .flt _ => .non

/-! ### owned objects -/
structure GenR where
  R : Hp → HO → Prop
  mono : ∀ F F' ho, Ex F F' → R F ho → R F' ho
  nt : ∀ F xs, ¬ R F (.tup xs)
inductive DO where
  | lst (ds : List D)
  | ins (C : Addr) (fs : List (Str × D))
  | dK (kvs : List (Key × D))
  | dT (kvs : List (List Key × D))
  | raw (o : HO)
  | exc (a C : Addr) (thing : D)
  | tab (q : Str)
  | gen (g : GenR)
abbrev Mem := Addr → Option DO
abbrev Sig := List (Option D)
def PKV {κ : Type} (F : Hp) : List (κ × D) → List (κ × V) → Prop := Paired fun p q => p.1 = q.1 ∧ RD F p.2 q.2
theorem PKV.mono {κ : Type} {F F' : Hp} (e : Ex F F') {l : List (κ × D)} {m : List (κ × V)} (h : PKV F l m) : PKV F' l m := Paired.mapP h fun _ _ q => ⟨q.1, q.2.mono e⟩
def RO (F : Hp) : DO → HO → Prop
  | .lst ds, ho => ∃ vs, ho = .lst vs ∧ RDs F ds vs
  | .ins C fs, ho => ∃ dx fv, ho = .ins C dx fv ∧ PKV F fs fv
  | .dK kvs, ho => ∃ kv, ho = .dK kv ∧ PKV F kvs kv
  | .dT kvs, ho => ∃ kv, ho = .dT kv ∧ PKV F kvs kv
  | .raw o, ho => ho = o ∧ ∀ xs, o ≠ HO.tup xs
  | .exc a C th, ho => ∃ dd v, ho = EXO a (.ref C) (some dd) ∧ F dd = some (.xd [(("thing" : Str), v)]) ∧ RD F th v
  | .tab q, ho => ∃ ps : Array Value, ho = .tbl ps ∧ TriplesOk ps.toList ∧ ∀ (pos : Pos) (cv : Value), codeAmong pos ps.toList = some cv → ∃ c, cv = .ref c ∧ F c = some (LamX.CodeO c q)
  | .gen g, ho => g.R F ho
theorem RO.mono {F F' : Hp} (e : Ex F F') : ∀ {o : DO} {ho : HO}, RO F o ho → RO F' o ho
  | .lst _, _, ⟨vs, e1, r⟩ => ⟨vs, e1, r.mono e⟩
  | .ins _ _, _, ⟨dx, fv, e1, r⟩ => ⟨dx, fv, e1, r.mono e⟩
  | .dK _, _, ⟨kv, e1, r⟩ => ⟨kv, e1, r.mono e⟩
  | .dT _, _, ⟨kv, e1, r⟩ => ⟨kv, e1, r.mono e⟩
  | .raw _, _, h => h
  | .exc _ _ _, _, ⟨dd, v, e1, h, r⟩ => ⟨dd, v, e1, e dd _ h, r.mono e⟩
  | .tab _, _, ⟨ps, e1, t, h⟩ => ⟨ps, e1, t, fun pos cv hc => let ⟨c, a, b⟩ := h pos cv hc; ⟨c, a, e c _ b⟩⟩
  | .gen g, _, h => g.mono _ _ _ e h
def mput (M : Mem) (a : Addr) (o : DO) : Mem := fun b => if b = a then some o else M b
def mdel (M : Mem) (a : Addr) : Mem := fun b => if b = a then none else M b
theorem mput_same {M : Mem} {a : Addr} {o : DO} : mput M a o a = some o := if_pos rfl
theorem mput_ne {M : Mem} {a b : Addr} {o : DO} (h : b ≠ a) : mput M a o b = M b := if_neg h
theorem mdel_same {M : Mem} {a : Addr} : mdel M a a = none := if_pos rfl
theorem mdel_ne {M : Mem} {a b : Addr} (h : b ≠ a) : mdel M a b = M b := if_neg h
theorem mput_mput {M : Mem} {a : Addr} {o u : DO} : mput (mput M a o) a u = mput M a u := by funext b; unfold mput; split <;> rfl
theorem mdel_mput {M : Mem} {a : Addr} {o : DO} (h : M a = none) : mdel (mput M a o) a = M := by
  funext b; unfold mdel; split
  · rename_i e; rw [e, h]
  · rename_i e; exact mput_ne e
theorem mput_self {M : Mem} {a : Addr} {o : DO} (h : M a = some o) : mput M a o = M := by
  funext b; unfold mput; split
  · rename_i e; rw [e, h]
  · rfl
theorem mput_comm {M : Mem} {a b : Addr} {o u : DO} (h : a ≠ b) : mput (mput M a o) b u = mput (mput M b u) a o := by
  funext c; unfold mput
  by_cases h1 : c = a
  · subst h1; rw [if_neg h, if_pos rfl, if_pos rfl]
  · by_cases h2 : c = b
    · subst h2; rw [if_pos rfl, if_neg h1, if_pos rfl]
    · rw [if_neg h2, if_neg h1, if_neg h1, if_neg h2]
theorem mne {M : Mem} {a b : Addr} {o : DO} (h : M a = some o) (h' : M b = none) : a ≠ b := by
  intro e; subst e; rw [h] at h'; cases h'

/-- the state: frozen F, owned M, the layer's heap H -/
structure St3 (F : Hp) (M : Mem) (H : Hp) : Prop where
  fz : Ex F H
  own : ∀ a o, M a = some o → F a = none ∧ ∃ ho, H a = some ho ∧ RO F o ho
theorem St3.nn {F : Hp} {M : Mem} {H : Hp} (s : St3 F M H) {p : Addr} (h : H p = none) : F p = none ∧ M p = none := by
  refine ⟨Evl.fresh_back s.fz h, ?_⟩
  cases q : M p with
  | none => rfl
  | some o => obtain ⟨_, ho, e, _⟩ := s.own p o q; rw [h] at e; cases e
/-- a new frozen object -/
theorem St3.new {F : Hp} {M : Mem} {H : Hp} (s : St3 F M H) {p : Addr} {o : HO} (h : H p = none) : St3 (upd F p o) M (upd H p o) ∧ Ex F (upd F p o) := by
  obtain ⟨f0, m0⟩ := s.nn h
  have e0 : Ex F (upd F p o) := Ex.new f0
  refine ⟨⟨fun a u e => ?_, fun a u e => ?_⟩, e0⟩
  · by_cases q : a = p
    · subst q; rw [upd_same] at e ⊢; exact e
    · rw [upd_ne q] at e ⊢; exact s.fz a u e
  · have q : a ≠ p := mne e m0
    obtain ⟨x, ho, y, z⟩ := s.own a u e
    exact ⟨by rw [upd_ne q]; exact x, ho, by rw [upd_ne q]; exact y, z.mono e0⟩
/-- a new owned object -/
theorem St3.newO {F : Hp} {M : Mem} {H : Hp} (s : St3 F M H) {p : Addr} {o : HO} {d : DO} (h : H p = none) (r : RO F d o) : St3 F (mput M p d) (upd H p o) := by
  obtain ⟨f0, m0⟩ := s.nn h
  refine ⟨fun a u e => ?_, fun a u e => ?_⟩
  · rw [upd_ne (ne_of_none e f0)]; exact s.fz a u e
  · by_cases q : a = p
    · subst q; rw [mput_same] at e; cases e
      exact ⟨f0, o, upd_same, r⟩
    · rw [mput_ne q] at e
      obtain ⟨x, ho, y, z⟩ := s.own a u e
      exact ⟨x, ho, by rw [upd_ne q]; exact y, z⟩
/-- an owned object changed -/
theorem St3.put {F : Hp} {M : Mem} {H : Hp} (s : St3 F M H) {p : Addr} {o : HO} {d d' : DO} (h : M p = some d) (r : RO F d' o) : St3 F (mput M p d') (upd H p o) := by
  obtain ⟨f0, ho, hp, _⟩ := s.own p d h
  refine ⟨fun a u e => ?_, fun a u e => ?_⟩
  · rw [upd_ne (ne_of_none e f0)]; exact s.fz a u e
  · by_cases q : a = p
    · subst q; rw [mput_same] at e; cases e
      exact ⟨f0, o, upd_same, r⟩
    · rw [mput_ne q] at e
      obtain ⟨x, ho, y, z⟩ := s.own a u e
      exact ⟨x, ho, by rw [upd_ne q]; exact y, z⟩
/-- forget an owned object -/
theorem St3.drop {F : Hp} {M : Mem} {H : Hp} (s : St3 F M H) (p : Addr) : St3 F (mdel M p) H := by
  refine ⟨s.fz, fun a u e => ?_⟩
  by_cases q : a = p
  · subst q; rw [mdel_same] at e; cases e
  · rw [mdel_ne q] at e; exact s.own a u e
/-- freeze an owned object -/
theorem St3.freeze {F : Hp} {M : Mem} {H : Hp} (s : St3 F M H) {p : Addr} {o : HO} {d : DO} (h : M p = some d) (hp : H p = some o) : St3 (upd F p o) (mdel M p) H ∧ Ex F (upd F p o) := by
  obtain ⟨f0, _⟩ := s.own p d h
  have e0 : Ex F (upd F p o) := Ex.new f0
  refine ⟨⟨fun a u e => ?_, fun a u e => ?_⟩, e0⟩
  · by_cases q : a = p
    · subst q; rw [upd_same] at e; cases e; exact hp
    · rw [upd_ne q] at e; exact s.fz a u e
  · by_cases q : a = p
    · subst q; rw [mdel_same] at e; cases e
    · rw [mdel_ne q] at e
      obtain ⟨x, ho, y, z⟩ := s.own a u e
      exact ⟨by rw [upd_ne q]; exact x, ho, y, z.mono e0⟩

/-- the slots -/
def SRel (F : Hp) (σ : Sig) (σv : St) : Prop := σ.length = σv.length ∧ ∀ (i : Nat) (d : D), σ[i]? = some (some d) → ∃ v, σv[i]? = some (some v) ∧ RD F d v
theorem SRel.mono {F F' : Hp} {σ : Sig} {σv : St} (h : SRel F σ σv) (e : Ex F F') : SRel F' σ σv := ⟨h.1, fun i d q => let ⟨v, a, b⟩ := h.2 i d q; ⟨v, a, b.mono e⟩⟩
theorem SRel.set {F : Hp} {σ : Sig} {σv : St} {i : Nat} {d : D} {v : V} (h : SRel F σ σv) (r : RD F d v) : SRel F (σ.set i (some d)) (σv.set i (some v)) := by
  refine ⟨by simp [h.1], fun j d' q => ?_⟩
  by_cases e : i = j
  · subst e
    have hi : i < σ.length := by have := (List.getElem?_eq_some_iff.mp q).1; simpa using this
    rw [List.getElem?_set_self hi] at q
    cases q
    exact ⟨v, List.getElem?_set_self (by rw [← h.1]; exact hi), r⟩
  · rw [List.getElem?_set_ne e] at q ⊢
    exact h.2 j d' q
def wipe3 (σ : Sig) : List Nat → Sig
  | [] => σ
  | v :: vs => (wipe3 σ vs).set v none
theorem SRel.setN {F : Hp} {σ : Sig} {σv : St} {i : Nat} (h : SRel F σ σv) : SRel F (σ.set i none) (σv.set i none) := by
  refine ⟨by simp [h.1], fun j d' q => ?_⟩
  by_cases e : i = j
  · subst e
    have hi : i < σ.length := by have := (List.getElem?_eq_some_iff.mp q).1; simpa using this
    rw [List.getElem?_set_self hi] at q
    cases q
  · rw [List.getElem?_set_ne e] at q ⊢
    exact h.2 j d' q
theorem SRel.wipe {F : Hp} {σ : Sig} {σv : St} (h : SRel F σ σv) : ∀ vs, SRel F (wipe3 σ vs) (L2.wipe σv vs)
  | [] => h
  | _ :: vs => (SRel.wipe h vs).setN
def start3 (N : List Str) (ds : List D) : Sig := ds.map some ++ List.replicate (N.length - ds.length) none
theorem SRel.start {F : Hp} {N : List Str} {ds : List D} {vs : List V} (h : RDs F ds vs) : SRel F (start3 N ds) (L2.start N vs) := by
  unfold start3 L2.start
  refine ⟨by simp [h.length], fun i d q => ?_⟩
  by_cases hi : i < ds.length
  · rw [List.getElem?_append_left (by simpa using hi), List.getElem?_map] at q
    obtain ⟨d', e1, e2⟩ := Option.map_eq_some_iff.mp q
    cases e2
    obtain ⟨v, e3, r⟩ := h.at e1
    refine ⟨v, ?_, r⟩
    rw [List.getElem?_append_left (by rw [List.length_map, ← h.length]; exact hi), List.getElem?_map, e3]
    rfl
  · rw [List.getElem?_append_right (by simpa using hi)] at q
    have := List.getElem?_replicate (n := N.length - ds.length) (a := (none : Option D)) (i := i - (ds.map some).length)
    rw [this] at q
    split at q <;> cases q

/-! ### the judgements -/
abbrev DQ := D → Mem → Prop
section
variable (B : Hp)
def W3e (te : TE) (σ : Sig) (M : Mem) (Q : DQ) : Prop :=
  ∀ (F : Hp) (σv : St) (H : Hp) (Qv : VK), Ex B F → SRel F σ σv → St3 F M H → (∀ F' M' d v H', Ex F F' → St3 F' M' H' → RD F' d v → Q d M' → Qv v H') → te σv H Qv
def W3t (tt : TT) (σ : Sig) (M : Mem) (Q : Bool → Mem → Prop) : Prop :=
  ∀ (F : Hp) (σv : St) (H : Hp) (Qv : Bool → Hp → Prop), Ex B F → SRel F σ σv → St3 F M H → (∀ F' M' b H', Ex F F' → St3 F' M' H' → Q b M' → Qv b H') → tt σv H Qv
def W3a (ta : TA) (σ : Sig) (M : Mem) (Q : List D → Mem → Prop) : Prop :=
  ∀ (F : Hp) (σv : St) (H : Hp) (Qv : List V → Hp → Prop), Ex B F → SRel F σ σv → St3 F M H → (∀ F' M' ds vs H', Ex F F' → St3 F' M' H' → RDs F' ds vs → Q ds M' → Qv vs H') → ta σv H Qv
def R3 (r : R2) (x y : D) (M : Mem) (Q : DQ) : Prop :=
  ∀ (F : Hp) (H : Hp) (xv yv : V) (Qv : VK), Ex B F → St3 F M H → RD F x xv → RD F y yv → (∀ F' M' d v H', Ex F F' → St3 F' M' H' → RD F' d v → Q d M' → Qv v H') → r xv yv H Qv
def U3 (r : V → Hp → VK → Prop) (x : D) (M : Mem) (Q : DQ) : Prop :=
  ∀ (F : Hp) (H : Hp) (xv : V) (Qv : VK), Ex B F → St3 F M H → RD F x xv → (∀ F' M' d v H', Ex F F' → St3 F' M' H' → RD F' d v → Q d M' → Qv v H') → r xv H Qv
def C3 (r : List V → Hp → VK → Prop) (xs : List D) (M : Mem) (Q : DQ) : Prop :=
  ∀ (F : Hp) (H : Hp) (xv : List V) (Qv : VK), Ex B F → St3 F M H → RDs F xs xv → (∀ F' M' d v H', Ex F F' → St3 F' M' H' → RD F' d v → Q d M' → Qv v H') → r xv H Qv
def M3 (r : V → List V → Hp → VK → Prop) (x : D) (xs : List D) (M : Mem) (Q : DQ) : Prop :=
  ∀ (F : Hp) (H : Hp) (xv : V) (xvs : List V) (Qv : VK), Ex B F → St3 F M H → RD F x xv → RDs F xs xvs → (∀ F' M' d v H', Ex F F' → St3 F' M' H' → RD F' d v → Q d M' → Qv v H') → r xv xvs H Qv
def G3 (g : TG) (x : D) (σ : Sig) (M : Mem) (Q : Sig → Mem → Prop) : Prop :=
  ∀ (F : Hp) (σv : St) (H : Hp) (xv : V) (Qv : St → Hp → Prop), Ex B F → SRel F σ σv → St3 F M H → RD F x xv → (∀ F' M' σ' σv' H', Ex F F' → SRel F' σ' σv' → St3 F' M' H' → Q σ' M' → Qv σv' H') → g xv σv H Qv
def G3s (g : TGs) (xs : List D) (σ : Sig) (M : Mem) (Q : Sig → Mem → Prop) : Prop :=
  ∀ (F : Hp) (σv : St) (H : Hp) (xv : List V) (Qv : St → Hp → Prop), Ex B F → SRel F σ σv → St3 F M H → RDs F xs xv → (∀ F' M' σ' σv' H', Ex F F' → SRel F' σ' σv' → St3 F' M' H' → Q σ' M' → Qv σv' H') → g xv σv H Qv
end
structure Ends3 where
  nx : Sig → Mem → Prop
  rt : DQ
  bk : Sig → Mem → Prop := fun _ _ => False
  ct : Sig → Mem → Prop := fun _ _ => False
def ImpS (F : Hp) (q : Sig → Mem → Prop) (qv : St → Hp → Prop) : Prop := ∀ F' M' σ' σv' H', Ex F F' → SRel F' σ' σv' → St3 F' M' H' → q σ' M' → qv σv' H'
structure Imp (F : Hp) (D3 : Ends3) (Dv : Ends) : Prop where
  nx : ImpS F D3.nx Dv.nx
  rt : ∀ F' M' d v H', Ex F F' → St3 F' M' H' → RD F' d v → D3.rt d M' → Dv.rt v H'
  bk : ImpS F D3.bk Dv.bk
  ct : ImpS F D3.ct Dv.ct
theorem ImpS.mono {F F1 : Hp} {q : Sig → Mem → Prop} {qv : St → Hp → Prop} (h : ImpS F q qv) (e : Ex F F1) : ImpS F1 q qv := fun F' M' σ' σv' H' a => h F' M' σ' σv' H' (e.trans a)
theorem Imp.mono {F F1 : Hp} {D3 : Ends3} {Dv : Ends} (h : Imp F D3 Dv) (e : Ex F F1) : Imp F1 D3 Dv :=
  ⟨h.nx.mono e, fun F' M' d v H' a => h.rt F' M' d v H' (e.trans a), h.bk.mono e, h.ct.mono e⟩
def W3s (B : Hp) (ts : TS) (D3 : Ends3) (σ : Sig) (M : Mem) : Prop :=
  ∀ (F : Hp) (σv : St) (H : Hp) (Dv : Ends), Ex B F → SRel F σ σv → St3 F M H → Imp F D3 Dv → ts Dv σv H

/-! ### consequence -/
section
variable {B : Hp} {te : TE} {tt : TT} {ts : TS} {σ : Sig} {M : Mem} {Q Q' : DQ} {D3 D3' : Ends3}
theorem W3e.to (h : W3e B te σ M Q) (k : ∀ d M', Q d M' → Q' d M') : W3e B te σ M Q' := fun F σv H Qv b hs st q => h F σv H Qv b hs st fun F' M' d v H' e s r z => q F' M' d v H' e s r (k d M' z)
theorem W3t.to {Q Q' : Bool → Mem → Prop} (h : W3t B tt σ M Q) (k : ∀ d M', Q d M' → Q' d M') : W3t B tt σ M Q' := fun F σv H Qv b hs st q => h F σv H Qv b hs st fun F' M' d H' e s z => q F' M' d H' e s (k d M' z)
theorem W3s.to (h : W3s B ts D3 σ M) (k1 : ∀ σ M, D3.nx σ M → D3'.nx σ M) (k2 : ∀ d M, D3.rt d M → D3'.rt d M) (k3 : ∀ σ M, D3.bk σ M → D3'.bk σ M) (k4 : ∀ σ M, D3.ct σ M → D3'.ct σ M) : W3s B ts D3' σ M :=
  fun F σv H Dv b hs st im => h F σv H Dv b hs st ⟨fun F' M' σ' σv' H' e s t q => im.nx F' M' σ' σv' H' e s t (k1 _ _ q), fun F' M' d v H' e s r q => im.rt F' M' d v H' e s r (k2 _ _ q),
    fun F' M' σ' σv' H' e s t q => im.bk F' M' σ' σv' H' e s t (k3 _ _ q), fun F' M' σ' σv' H' e s t q => im.ct F' M' σ' σv' H' e s t (k4 _ _ q)⟩
theorem W3s.nx {nx : Sig → Mem → Prop} (h : W3s B ts { D3 with nx := nx } σ M) (k : ∀ σ M, nx σ M → D3.nx σ M) : W3s B ts D3 σ M := h.to k (fun _ _ z => z) (fun _ _ z => z) (fun _ _ z => z)
end

/-! ### expressions -/
section
variable {B : Hp} {ta tb tc te : TE} {tA tB' : TT} {t tr : TA} {σ : Sig} {M : Mem} {Q : DQ} {d x y : D} {i : Nat} {r r' : R2} {K : PySem.W.Frag}
theorem w_var (h : σ[i]? = some (some d)) (q : Q d M) : W3e B (tVar i) σ M Q := fun F σv H Qv _ hs st k =>
  let ⟨v, e, rd⟩ := hs.2 i d h
  ⟨v, e, k F M d v H (Ex.refl _) st rd q⟩
theorem w_c {v : V} (q : Q d M) (h : ∀ F, RD F d v := by intro F; rfl) : W3e B (tC v) σ M Q := fun F σv H Qv _ hs st k => k F M d v H (Ex.refl _) st (h F) q
theorem w_op (h : W3e B ta σ M (fun x M1 => W3e B tb σ M1 (fun y M2 => R3 B r x y M2 Q))) : W3e B (tOp r ta tb) σ M Q := fun F σv H Qv b hs st k =>
  h F σv H _ b hs st fun F1 M1 x xv H1 e1 st1 rx q1 => q1 F1 σv H1 _ (b.trans e1) (hs.mono e1) st1 fun F2 M2 y yv H2 e2 st2 ry q2 =>
    q2 F2 H2 xv yv Qv ((b.trans e1).trans e2) st2 (rx.mono e2) ry fun F3 M3 d v H3 e3 st3 rd qd => k F3 M3 d v H3 ((e1.trans e2).trans e3) st3 rd qd
theorem w_un {r : V → Hp → VK → Prop} (h : W3e B ta σ M (fun x M1 => U3 B r x M1 Q)) : W3e B (tUn r ta) σ M Q := fun F σv H Qv b hs st k =>
  h F σv H _ b hs st fun F1 M1 x xv H1 e1 st1 rx q1 => q1 F1 H1 xv Qv (b.trans e1) st1 rx fun F3 M3 d v H3 e3 st3 rd qd => k F3 M3 d v H3 (e1.trans e3) st3 rd qd
theorem w_nil {Q : List D → Mem → Prop} (q : Q [] M) : W3a B tNil σ M Q := fun F σv H Qv _ hs st k => k F M [] [] H (Ex.refl _) st rfl q
theorem w_cons {Q : List D → Mem → Prop} (h : W3e B ta σ M (fun x M1 => W3a B tr σ M1 (fun xs M2 => Q (x :: xs) M2))) : W3a B (tCons ta tr) σ M Q := fun F σv H Qv b hs st k =>
  h F σv H _ b hs st fun F1 M1 x xv H1 e1 st1 rx q1 => q1 F1 σv H1 _ (b.trans e1) (hs.mono e1) st1 fun F2 M2 ys yv H2 e2 st2 ry q2 => k F2 M2 (x :: ys) (xv :: yv) H2 (e1.trans e2) st2 ⟨xv, yv, rfl, rx.mono e2, ry⟩ q2
theorem w_tup (h : W3a B t σ M (fun ds M1 => ds.length ≤ 100000 ∧ Q (.tup ds) M1)) : W3e B (tTup t) σ M Q := fun F σv H Qv b hs st k =>
  h F σv H _ b hs st fun F1 M1 ds vs H1 e1 st1 rx ⟨z, q⟩ => ⟨Evl.sz_of (by rw [← rx.length]; exact z), fun p hp => by
    obtain ⟨s2, e2⟩ := st1.new (o := .tup vs) hp
    exact k _ _ (.tup ds) _ _ (e1.trans e2) s2 ⟨p, vs, rfl, upd_same, rx.mono e2⟩ q⟩
theorem w_lst (h : W3a B t σ M (fun ds M1 => ds.length ≤ 100000 ∧ Q (.lst ds) M1)) : W3e B (tLst t) σ M Q := fun F σv H Qv b hs st k =>
  h F σv H _ b hs st fun F1 M1 ds vs H1 e1 st1 rx ⟨z, q⟩ => ⟨Evl.sz_of (by rw [← rx.length]; exact z), fun p hp => by
    obtain ⟨s2, e2⟩ := st1.new (o := .lst vs) hp
    exact k _ _ (.lst ds) _ _ (e1.trans e2) s2 ⟨p, vs, rfl, upd_same, rx.mono e2⟩ q⟩
/-- a written list that will change -/
theorem w_lstO (h : W3a B t σ M (fun ds M1 => ds.length ≤ 100000 ∧ ∀ p, M1 p = none → Q (.ref p) (mput M1 p (.lst ds)))) : W3e B (tLst t) σ M Q := fun F σv H Qv b hs st k =>
  h F σv H _ b hs st fun F1 M1 ds vs H1 e1 st1 rx ⟨z, q⟩ => ⟨Evl.sz_of (by rw [← rx.length]; exact z), fun p hp =>
    k _ _ (.ref p) _ _ e1 (st1.newO (d := .lst ds) hp ⟨vs, rfl, rx⟩) rfl (q p (st1.nn hp).2)⟩
/-! tests -/
theorem w_B {Q : Bool → Mem → Prop} (h : W3e B te σ M (fun x M1 => ∃ k, x = .bl k ∧ Q k M1)) : W3t B (tB te) σ M Q := fun F σv H Qv b hs st k =>
  h F σv H _ b hs st fun F1 M1 x xv H1 e1 st1 rx ⟨c, ec, q⟩ => by
    subst ec
    exact ⟨c, rx, k F1 M1 c H1 e1 st1 q⟩
theorem w_test {Q : Bool → Mem → Prop} (h : W3e B te σ M (fun x M1 => ∃ k, x = .bl k ∧ Q k M1)) : W3t B (tTest te) σ M Q := w_B h
theorem w_andT {Q : Bool → Mem → Prop} (h : W3t B tA σ M (fun c M1 => if c = true then W3t B tB' σ M1 Q else Q false M1)) : W3t B (tAnd tA tB') σ M Q := fun F σv H Qv b hs st k =>
  h F σv H _ b hs st fun F1 M1 c H1 e1 st1 q => by
    cases c with
    | true => exact q F1 σv H1 _ (b.trans e1) (hs.mono e1) st1 fun F2 M2 d H2 e2 st2 q2 => k F2 M2 d H2 (e1.trans e2) st2 q2
    | false => exact k F1 M1 false H1 e1 st1 q
theorem w_orT {Q : Bool → Mem → Prop} (h : W3t B tA σ M (fun c M1 => if c = true then Q true M1 else W3t B tB' σ M1 Q)) : W3t B (tOr tA tB') σ M Q := fun F σv H Qv b hs st k =>
  h F σv H _ b hs st fun F1 M1 c H1 e1 st1 q => by
    cases c with
    | false => exact q F1 σv H1 _ (b.trans e1) (hs.mono e1) st1 fun F2 M2 d H2 e2 st2 q2 => k F2 M2 d H2 (e1.trans e2) st2 q2
    | true => exact k F1 M1 true H1 e1 st1 q
theorem w_notT {Q : Bool → Mem → Prop} (h : W3t B tA σ M (fun c M1 => Q (!c) M1)) : W3t B (tNot tA) σ M Q := fun F σv H Qv b hs st k =>
  h F σv H _ b hs st fun F1 M1 c H1 e1 st1 q => k F1 M1 (!c) H1 e1 st1 q
theorem w_yes {Q : Bool → Mem → Prop} (q : Q true M) : W3t B tYes σ M Q := fun F σv H Qv b hs st k => k F M true H (Ex.refl _) st q
theorem w_andV (h : W3e B ta σ M (fun x M1 => ∃ c, x = .bl c ∧ if c = true then W3e B tb σ M1 Q else Q (.bl false) M1)) : W3e B (tAndV ta tb) σ M Q := fun F σv H Qv b hs st k =>
  h F σv H _ b hs st fun F1 M1 x xv H1 e1 st1 rx ⟨c, ec, q⟩ => by
    subst ec
    refine ⟨c, rx, ?_⟩
    cases c with
    | true => exact q F1 σv H1 _ (b.trans e1) (hs.mono e1) st1 fun F2 M2 d v H2 e2 st2 r2 q2 => k F2 M2 d v H2 (e1.trans e2) st2 r2 q2
    | false => exact k F1 M1 (.bl false) _ H1 e1 st1 rfl q
theorem w_orV (h : W3e B ta σ M (fun x M1 => ∃ c, x = .bl c ∧ if c = true then Q (.bl true) M1 else W3e B tb σ M1 Q)) : W3e B (tOrV ta tb) σ M Q := fun F σv H Qv b hs st k =>
  h F σv H _ b hs st fun F1 M1 x xv H1 e1 st1 rx ⟨c, ec, q⟩ => by
    subst ec
    refine ⟨c, rx, ?_⟩
    cases c with
    | false => exact q F1 σv H1 _ (b.trans e1) (hs.mono e1) st1 fun F2 M2 d v H2 e2 st2 r2 q2 => k F2 M2 d v H2 (e1.trans e2) st2 r2 q2
    | true => exact k F1 M1 (.bl true) _ H1 e1 st1 rfl q
theorem w_notV (h : W3e B ta σ M (fun x M1 => ∃ c, x = .bl c ∧ Q (.bl (!c)) M1)) : W3e B (tNotV ta) σ M Q := fun F σv H Qv b hs st k =>
  h F σv H _ b hs st fun F1 M1 x xv H1 e1 st1 rx ⟨c, ec, q⟩ => by
    subst ec
    exact ⟨c, rx, k F1 M1 (.bl (!c)) _ H1 e1 st1 rfl q⟩
theorem w_ifE (h : W3t B tA σ M (fun c M1 => if c = true then W3e B ta σ M1 Q else W3e B tb σ M1 Q)) : W3e B (tIf tA ta tb) σ M Q := fun F σv H Qv b hs st k =>
  h F σv H _ b hs st fun F1 M1 c H1 e1 st1 q => by
    cases c with
    | true => exact q F1 σv H1 _ (b.trans e1) (hs.mono e1) st1 fun F2 M2 d v H2 e2 st2 r2 q2 => k F2 M2 d v H2 (e1.trans e2) st2 r2 q2
    | false => exact q F1 σv H1 _ (b.trans e1) (hs.mono e1) st1 fun F2 M2 d v H2 e2 st2 r2 q2 => k F2 M2 d v H2 (e1.trans e2) st2 r2 q2
theorem w_isN (h : W3e B ta σ M (fun x M1 => Q (.bl (isNon x)) M1)) : W3e B (tIsN ta) σ M Q := fun F σv H Qv b hs st k =>
  h F σv H _ b hs st fun F1 M1 x xv H1 e1 st1 rx q => k F1 M1 (.bl (isNon x)) _ H1 e1 st1 (by rw [rx.isNon]; rfl) q
theorem w_notN (h : W3e B ta σ M (fun x M1 => Q (.bl (!isNon x)) M1)) : W3e B (tNotN ta) σ M Q := fun F σv H Qv b hs st k =>
  h F σv H _ b hs st fun F1 M1 x xv H1 e1 st1 rx q => k F1 M1 (.bl (!isNon x)) _ H1 e1 st1 (by rw [rx.isNon]; rfl) q
end

/-! ### statements -/
section
variable {B : Hp} {ta tb te : TE} {tc : TT} {ts tu : TS} {σ : Sig} {M : Mem} {D3 : Ends3} {g : TG} {i : Nat}
theorem s_seq (h : W3s B ts { D3 with nx := fun σ M => W3s B tu D3 σ M } σ M) : W3s B (tSeq ts tu) D3 σ M := fun F σv H Dv b hs st im =>
  h F σv H { Dv with nx := tu Dv } b hs st ⟨fun F' M' σ' σv' H' e s t q => q F' σv' H' Dv (b.trans e) s t (im.mono e), im.rt, im.bk, im.ct⟩
theorem s_next (q : D3.nx σ M) : W3s B tNext D3 σ M := fun F σv H Dv b hs st im => im.nx F M σ σv H (Ex.refl _) hs st q
theorem s_brk (q : D3.bk σ M) : W3s B tBreak D3 σ M := fun F σv H Dv b hs st im => im.bk F M σ σv H (Ex.refl _) hs st q
theorem s_cont (q : D3.ct σ M) : W3s B tCont D3 σ M := fun F σv H Dv b hs st im => im.ct F M σ σv H (Ex.refl _) hs st q
theorem s_drop (h : W3e B te σ M (fun _ M1 => D3.nx σ M1)) : W3s B (tDrop te) D3 σ M := fun F σv H Dv b hs st im =>
  h F σv H _ b hs st fun F1 M1 x xv H1 e1 st1 rx q => im.nx F1 M1 σ σv H1 e1 (hs.mono e1) st1 q
theorem s_ret (h : W3e B te σ M D3.rt) : W3s B (tRet te) D3 σ M := fun F σv H Dv b hs st im =>
  h F σv H _ b hs st fun F1 M1 x xv H1 e1 st1 rx q => im.rt F1 M1 x xv H1 e1 st1 rx q
theorem s_retN (q : D3.rt .non M) : W3s B tRetN D3 σ M := fun F σv H Dv b hs st im => im.rt F M .non .non H (Ex.refl _) st rfl q
theorem s_if (h : W3t B tc σ M (fun c M1 => if c = true then W3s B ts D3 σ M1 else W3s B tu D3 σ M1)) : W3s B (tIfS tc ts tu) D3 σ M := fun F σv H Dv b hs st im =>
  h F σv H _ b hs st fun F1 M1 c H1 e1 st1 q => by
    cases c with
    | true => exact q F1 σv H1 Dv (b.trans e1) (hs.mono e1) st1 (im.mono e1)
    | false => exact q F1 σv H1 Dv (b.trans e1) (hs.mono e1) st1 (im.mono e1)
theorem s_asgG (h : W3e B te σ M (fun x M1 => G3 B g x σ M1 D3.nx)) : W3s B (tAsg te g) D3 σ M := fun F σv H Dv b hs st im =>
  h F σv H _ b hs st fun F1 M1 x xv H1 e1 st1 rx q => q F1 σv H1 xv Dv.nx (b.trans e1) (hs.mono e1) st1 rx (im.nx.mono e1)
theorem s_asg (h : W3e B te σ M (fun x M1 => D3.nx (σ.set i (some x)) M1)) : W3s B (tAsg te (gName i)) D3 σ M := fun F σv H Dv b hs st im =>
  h F σv H _ b hs st fun F1 M1 x xv H1 e1 st1 rx q => im.nx F1 M1 _ _ H1 e1 ((hs.mono e1).set rx) st1 q
theorem s_par {i j : Nat} {t : TA} (h : W3a B t σ M (fun ds M1 => ∃ x y, ds = [x, y] ∧ D3.nx ((σ.set i (some x)).set j (some y)) M1)) : W3s B (tPar i j t) D3 σ M := fun F σv H Dv b hs st im =>
  h F σv H _ b hs st fun F1 M1 ds vs H1 e1 st1 rx ⟨x, y, ed, q⟩ => by
    subst ed
    obtain ⟨v, r, e2, r1, w, r', e3, r2, e4⟩ := rx
    subst e2; subst e3; rw [show r' = [] from e4]
    exact ⟨v, w, rfl, im.nx F1 M1 _ _ H1 e1 (((hs.mono e1).set r1).set r2) st1 q⟩
theorem s_cut {Mid : Sig → Mem → Prop} (h : W3s B ts { D3 with nx := Mid } σ M) (k : ∀ σ M, Mid σ M → D3.nx σ M) : W3s B ts D3 σ M := h.nx k
/-! freezing and forgetting -/
/-- forget slots -/
theorem SRel.weak {F : Hp} {σ σ' : Sig} {σv : St} (h : SRel F σ σv) (hl : σ'.length = σ.length) (w : ∀ (i : Nat) (d : D), σ'[i]? = some (some d) → σ[i]? = some (some d)) : SRel F σ' σv := ⟨hl.trans h.1, fun i d q => h.2 i d (w i d q)⟩
/-! targets -/
variable {x : D} {xs : List D} {Q : Sig → Mem → Prop}
theorem g_name (q : Q (σ.set i (some x)) M) : G3 B (gName i) x σ M Q := fun F σv H xv Qv b hs st rx k => k F M _ _ H (Ex.refl _) (hs.set rx) st q
theorem g_tup {K : PySem.W.Frag} {n : Nat} {t : TGs} (e : x = .tup xs) (hl : xs.length = n) (h : G3s B t xs σ M Q) : G3 B (gTup K n t) x σ M Q := fun F σv H xv Qv b hs st rx k => by
  subst e
  obtain ⟨a, vs, e1, hf, r⟩ := rx
  exact ⟨a, vs, e1, .inl (.inl (st.fz a _ hf)), by rw [← r.length]; exact hl, h F σv H vs Qv b hs st r k⟩
theorem g_nil (q : Q σ M) : G3s B gNil [] σ M Q := fun F σv H xv Qv b hs st rx k => ⟨rx, k F M σ σv H (Ex.refl _) hs st q⟩
theorem g_cons {t : TG} {u : TGs} (h : G3 B t x σ M (fun σ1 M1 => G3s B u xs σ1 M1 Q)) : G3s B (gCons t u) (x :: xs) σ M Q := fun F σv H xv Qv b hs st rx k => by
  obtain ⟨v, r, e1, r1, r2⟩ := rx
  refine ⟨v, r, e1, h F σv H v _ b hs st r1 fun F1 M1 σ1 σv1 H1 e s t' q => ?_⟩
  exact q F1 σv1 H1 r Qv (b.trans e) s t' (r2.mono e) fun F2 M2 σ2 σv2 H2 e2 s2 t2 q2 => k F2 M2 σ2 σv2 H2 (e.trans e2) s2 t2 q2
end
end T3
set_option Elab.async false
set_option linter.all false
set_option maxRecDepth 100000
set_option maxHeartbeats 2000000
namespace T3
open PySem L2
open Evl (Ex)

/-! ### seeing a state otherwise -/
def VS (d : D) (M : Mem) (d' : D) (M' : Mem) : Prop := ∀ F H v, St3 F M H → RD F d v → ∃ F', Ex F F' ∧ St3 F' M' H ∧ RD F' d' v
def VSs (σ : Sig) (M : Mem) (σ' : Sig) (M' : Mem) : Prop := ∀ F H σv, St3 F M H → SRel F σ σv → ∃ F', Ex F F' ∧ St3 F' M' H ∧ SRel F' σ' σv
theorem vs_lst {M : Mem} {p : Addr} {ds : List D} (h : M p = some (.lst ds)) : VS (.ref p) M (.lst ds) (mdel M p) := fun F H v st rd => by
  obtain ⟨f0, ho, e1, vs, e2, r⟩ := st.own p _ h
  subst e2
  obtain ⟨s2, e⟩ := st.freeze h e1
  exact ⟨_, e, s2, p, vs, rd, upd_same, r.mono e⟩
theorem zip_unzip {κ : Type} : ∀ (l : List (κ × V)), (l.map (·.1)).zip (l.map (·.2)) = l
  | [] => rfl
  | a :: r => by show (a.1, a.2) :: (r.map (·.1)).zip (r.map (·.2)) = a :: r; rw [zip_unzip r]
theorem PKV.fst {κ : Type} {F : Hp} : ∀ {l : List (κ × D)} {m : List (κ × V)}, PKV F l m → l.map (·.1) = m.map (·.1)
  | _, _, .nil => rfl
  | _, _, .cons a t => by rw [List.map_cons, List.map_cons, a.1, PKV.fst t]
theorem PKV.snd {κ : Type} {F : Hp} : ∀ {l : List (κ × D)} {m : List (κ × V)}, PKV F l m → RDs F (l.map (·.2)) (m.map (·.2))
  | _, _, .nil => rfl
  | _, _, .cons a t => ⟨_, _, rfl, a.2, PKV.snd t⟩
theorem vs_ins {M : Mem} {p C : Addr} {fs : List (Str × D)} (h : M p = some (.ins C fs)) : VS (.ref p) M (.ins C (fs.map (·.1)) (fs.map (·.2))) (mdel M p) := fun F H v st rd => by
  obtain ⟨f0, ho, e1, dx, fv, e2, r⟩ := st.own p _ h
  subst e2
  obtain ⟨s2, e⟩ := st.freeze h e1
  refine ⟨_, e, s2, p, dx, fv.map (·.2), rd, ?_, ?_, r.snd.mono e⟩
  · rw [r.fst, zip_unzip]; exact upd_same
  · rw [r.fst, List.length_map, List.length_map]
theorem vss_lst {σ : Sig} {M : Mem} {p : Addr} {ds : List D} (i : Nat) (hi : σ[i]? = some (some (.ref p))) (h : M p = some (.lst ds)) : VSs σ M (σ.set i (some (.lst ds))) (mdel M p) := fun F H σv st hs => by
  obtain ⟨f0, ho, e1, vs, e2, r⟩ := st.own p _ h
  subst e2
  obtain ⟨s2, e⟩ := st.freeze h e1
  refine ⟨_, e, s2, ?_⟩
  obtain ⟨v, hv, rv⟩ := hs.2 i _ hi
  have hset : σv.set i (some v) = σv := by
    apply List.ext_getElem?
    intro j
    by_cases q : i = j
    · subst q; rw [List.getElem?_set_self (List.getElem?_eq_some_iff.mp hv).1, hv]
    · rw [List.getElem?_set_ne q]
  have := (hs.mono e).set (i := i) (d := .lst ds) (v := v) ⟨p, vs, rv, upd_same, r.mono e⟩
  rwa [hset] at this
theorem vss_drop {σ : Sig} {M : Mem} (p : Addr) : VSs σ M σ (mdel M p) := fun F H σv st hs => ⟨F, Ex.refl _, st.drop p, hs⟩
theorem vss_wk {σ σ' : Sig} {M : Mem} (hl : σ'.length = σ.length) (w : ∀ (i : Nat) (d : D), σ'[i]? = some (some d) → σ[i]? = some (some d)) : VSs σ M σ' M := fun F H σv st hs => ⟨F, Ex.refl _, st, hs.weak hl w⟩
section
variable {B : Hp} {te : TE} {ts : TS} {σ σ' : Sig} {M M' : Mem} {Q : DQ} {D3 : Ends3}
theorem w_vs (h : W3e B te σ M (fun d M1 => ∃ d' M', VS d M1 d' M' ∧ Q d' M')) : W3e B te σ M Q := fun F σv H Qv b hs st k =>
  h F σv H _ b hs st fun F1 M1 x xv H1 e1 st1 rx ⟨d', M', vs, q⟩ => by
    obtain ⟨F2, e2, s2, r2⟩ := vs F1 H1 xv st1 rx
    exact k F2 M' d' xv H1 (e1.trans e2) s2 r2 q
theorem s_vs (vs : VSs σ M σ' M') (h : W3s B ts D3 σ' M') : W3s B ts D3 σ M := fun F σv H Dv b hs st im => by
  obtain ⟨F2, e2, s2, r2⟩ := vs F H σv st hs
  exact h F2 σv H Dv (b.trans e2) r2 s2 (im.mono e2)
theorem e_vs (vs : VSs σ M σ' M') (h : W3e B te σ' M' Q) : W3e B te σ M Q := fun F σv H Qv b hs st k => by
  obtain ⟨F2, e2, s2, r2⟩ := vs F H σv st hs
  exact h F2 σv H Qv (b.trans e2) r2 s2 fun F' M' d v H' e => k F' M' d v H' (e2.trans e)
theorem VSs.rfl' : VSs σ M σ M := fun F H σv st hs => ⟨F, Ex.refl _, st, hs⟩
theorem VSs.trans {σ1 σ2 : Sig} {M1 M2 : Mem} (a : VSs σ M σ1 M1) (b : VSs σ1 M1 σ2 M2) : VSs σ M σ2 M2 := fun F H σv st hs => by
  obtain ⟨F1, e1, s1, r1⟩ := a F H σv st hs
  obtain ⟨F2, e2, s2, r2⟩ := b F1 H σv s1 r1
  exact ⟨F2, e1.trans e2, s2, r2⟩
end

/-! ### data -/
mutual
def py : D → PyData
  | .non => .none
  | .bl b => .bool b
  | .int i => .int i
  | .str x => .str x
  | .tup ds => .tuple (pys ds)
  | .lst ds => .list (pys ds)
  | .ty _ => .none
  | .ref _ => .none
  | .ins _ _ _ => .none
def pys : List D → List PyData
  | [] => []
  | d :: ds => py d :: pys ds
end
mutual
/-- data: no reference in it, no deeper than n -/
def okD : Nat → D → Bool
  | _, .non => true
  | _, .bl _ => true
  | _, .int _ => true
  | _, .str x => x.cps.all (· < 0x110000)
  | 0, .tup _ => false
  | 0, .lst _ => false
  | n + 1, .tup ds => okDs n ds
  | n + 1, .lst ds => okDs n ds
  | _, .ty _ => false
  | _, .ref _ => false
  | _, .ins _ _ _ => false
def okDs : Nat → List D → Bool
  | _, [] => true
  | n, d :: ds => okD n d && okDs n ds
end
mutual
theorem okD_dp {K : PySem.W.Frag} {F H : Hp} (e : Ex F H) : ∀ {n : Nat} {d : D} {v : V}, okD n d = true → RD F d v → Dp K H v (py d)
  | _, .non, _, _, r => by rw [show _ = V.non from r]; exact .non
  | _, .bl b, _, _, r => by rw [show _ = V.bl b from r]; exact .bl b
  | _, .int b, _, _, r => by rw [show _ = V.int b from r]; exact .int b
  | _, .str b, _, _, r => by rw [show _ = V.str b from r]; exact .str b
  | n + 1, .tup ds, _, o, ⟨a, vs, e1, h, rs⟩ => by rw [e1]; exact .tup (.inl (.inl (e a _ h))) (okDs_dp e (n := n) o rs)
  | n + 1, .lst ds, _, o, ⟨a, vs, e1, h, rs⟩ => by rw [e1]; exact .lst (.inl (.inl (e a _ h))) (okDs_dp e (n := n) o rs)
  | 0, .tup _, _, o, _ => nomatch o
  | 0, .lst _, _, o, _ => nomatch o
  | 0, .ty _, _, o, _ => nomatch o
  | 0, .ref _, _, o, _ => nomatch o
  | 0, .ins _ _ _, _, o, _ => nomatch o
  | _ + 1, .ty _, _, o, _ => nomatch o
  | _ + 1, .ref _, _, o, _ => nomatch o
  | _ + 1, .ins _ _ _, _, o, _ => nomatch o
theorem okDs_dp {K : PySem.W.Frag} {F H : Hp} (e : Ex F H) : ∀ {n : Nat} {ds : List D} {vs : List V}, okDs n ds = true → RDs F ds vs → DpAll K H vs (pys ds)
  | _, [], _, _, r => by rw [show _ = [] from r]; exact .nil
  | n, d :: ds, _, o, ⟨v, r, e1, h, hr⟩ => by
    rw [e1]
    have o' : okD n d = true ∧ okDs n ds = true := Bool.and_eq_true_iff.mp o
    exact .cons (okD_dp e o'.1 h) (okDs_dp e o'.2 hr)
end
mutual
theorem okD_lay : ∀ {n : Nat} {d : D}, okD n d = true → (py d).canLay0 = true
  | _, .non, _ => rfl
  | _, .bl _, _ => rfl
  | _, .int _, _ => rfl
  | _, .str _, o => o
  | n + 1, .tup ds, o => by show PyData.canLayAll0 (pys ds) = true; exact okDs_lay (n := n) o
  | n + 1, .lst ds, o => by show PyData.canLayAll0 (pys ds) = true; exact okDs_lay (n := n) o
  | 0, .tup _, o => nomatch o
  | 0, .lst _, o => nomatch o
  | _, .ty _, _ => rfl
  | _, .ref _, _ => rfl
  | _, .ins _ _ _, _ => rfl
theorem okDs_lay : ∀ {n : Nat} {ds : List D}, okDs n ds = true → PyData.canLayAll0 (pys ds) = true
  | _, [], _ => rfl
  | n, d :: ds, o => by
    have o' : okD n d = true ∧ okDs n ds = true := Bool.and_eq_true_iff.mp o
    show (PyData.canLay0 (py d) && PyData.canLayAll0 (pys ds)) = true
    rw [okD_lay o'.1, okDs_lay o'.2] <;> rfl
end
mutual
theorem okD_depth : ∀ {n : Nat} {d : D}, okD n d = true → (py d).depth ≤ n
  | _, .non, _ => Nat.zero_le _
  | _, .bl _, _ => Nat.zero_le _
  | _, .int _, _ => Nat.zero_le _
  | _, .str _, _ => Nat.zero_le _
  | n + 1, .tup ds, o => by show PyData.depthAll (pys ds) + 1 ≤ n + 1; exact Nat.succ_le_succ (okDs_depth (n := n) o)
  | n + 1, .lst ds, o => by show PyData.depthAll (pys ds) + 1 ≤ n + 1; exact Nat.succ_le_succ (okDs_depth (n := n) o)
  | 0, .tup _, o => nomatch o
  | 0, .lst _, o => nomatch o
  | _, .ty _, _ => Nat.zero_le _
  | _, .ref _, _ => Nat.zero_le _
  | _, .ins _ _ _, _ => Nat.zero_le _
theorem okDs_depth : ∀ {n : Nat} {ds : List D}, okDs n ds = true → PyData.depthAll (pys ds) ≤ n
  | _, [], _ => Nat.zero_le _
  | n, d :: ds, o => by
    have o' : okD n d = true ∧ okDs n ds = true := Bool.and_eq_true_iff.mp o
    show max (py d).depth (PyData.depthAll (pys ds)) ≤ n
    exact Nat.max_le.mpr ⟨okD_depth o'.1, okDs_depth o'.2⟩
end
theorem okD_shaped {n : Nat} {d : D} (h : okD n d = true) (hn : n ≤ 64 := by decide) : SeqAt.shaped (py d) = true := by
  unfold SeqAt.shaped
  rw [okD_lay h, decide_eq_true (Nat.le_trans (okD_depth h) hn)]
  rfl
theorem okDs_iff {n : Nat} : ∀ {ds : List D}, okDs n ds = true ↔ ∀ d ∈ ds, okD n d = true
  | [] => by simp [okDs]
  | d :: ds => by simp [okDs, okDs_iff (ds := ds)]
theorem pys_map : ∀ ds : List D, pys ds = ds.map py
  | [] => rfl
  | d :: ds => by show py d :: pys ds = _; rw [pys_map ds]; rfl
/-- Python's == -/
def peq (x y : D) : Bool := PyData.eqv (py x) (py y)
@[simp] theorem peq_int (i j : Int) : peq (.int i) (.int j) = (i == j) := rfl
@[simp] theorem peq_str (i j : Str) : peq (.str i) (.str j) = (i == j) := rfl
@[simp] theorem peq_bl (i j : Bool) : peq (.bl i) (.bl j) = (i == j) := rfl
@[simp] theorem peq_tup (x y : List D) : peq (.tup x) (.tup y) = PyData.eqvAll (pys x) (pys y) := rfl
@[simp] theorem peq_lst (x y : List D) : peq (.lst x) (.lst y) = PyData.eqvAll (pys x) (pys y) := rfl
@[simp] theorem peqs_nil : PyData.eqvAll (pys []) (pys []) = true := rfl
@[simp] theorem peqs_nc (y : D) (ys : List D) : PyData.eqvAll (pys []) (pys (y :: ys)) = false := rfl
@[simp] theorem peqs_cn (y : D) (ys : List D) : PyData.eqvAll (pys (y :: ys)) (pys []) = false := rfl
@[simp] theorem peqs_cc (x y : D) (xs ys : List D) : PyData.eqvAll (pys (x :: xs)) (pys (y :: ys)) = (peq x y && PyData.eqvAll (pys xs) (pys ys)) := rfl
/-- for encodings whose == is equality -/
theorem peqs_map {α : Type} [DecidableEq α] (f : α → D) (h : ∀ a b, peq (f a) (f b) = decide (a = b)) : ∀ xs ys : List α, PyData.eqvAll (pys (xs.map f)) (pys (ys.map f)) = decide (xs = ys)
  | [], [] => rfl
  | [], _ :: _ => rfl
  | _ :: _, [] => rfl
  | x :: xs, y :: ys => by
    show (peq (f x) (f y) && PyData.eqvAll (pys (xs.map f)) (pys (ys.map f))) = _
    rw [h, peqs_map f h xs ys]
    simp [List.cons.injEq]

/-! ### operators by their kinds of values -/
def rADD : R2 := fun x y H Q => (∃ i j, x = .int i ∧ y = .int j ∧ Q (.int (i + j)) H) ∨ (∃ i j, x = .str i ∧ y = .str j ∧ i.length + j.length ≤ sizeLine ∧ Q (.str (i ++ j)) H) ∨ rCat x y H Q
section
variable {X : Cx}
theorem op_ADD : OpR X (binaryOp .Add) rADD := by
  intro pins s σ H x y v u Q I rx ry h
  rcases h with h | h | h
  · exact op_add pins s σ H x y v u Q I rx ry h
  · exact op_add_str pins s σ H x y v u Q I rx ry h
  · exact op_cat pins s σ H x y v u Q I rx ry h
end
def rIN (K : PySem.W.Frag) (P : Program) (w : World) (neg : Bool) : R2 := fun x y H Q =>
  (∃ d ds, Dp K H x d ∧ Dp K H y (.list ds) ∧ SeqAt.shaped d = true ∧ SeqAt.shaped (.list ds) = true ∧ Q (.bl (if neg then !(ds.any fun z => PyData.eqv z d) else ds.any fun z => PyData.eqv z d)) H) ∨
  rIn K neg x y H Q ∨ rSInK P w neg x y H Q ∨ (∃ (c : Nat) (z : Str), x = .str ⟨#[c]⟩ ∧ y = .str z ∧ Q (.bl (if neg then !(decide (c ∈ z.cps.toList)) else decide (c ∈ z.cps.toList))) H)
section
variable {X : Cx}
theorem op_IN (hu : X.A.units + 65 < cLine) : OpR X (compareOp .In) (rIN X.K X.prog X.w false) := by
  intro pins s σ H x y v u Q I rx ry h
  rcases h with h | h | h | h
  · exact op_inD hu pins s σ H x y v u Q I rx ry h
  · exact op_in_seq pins s σ H x y v u Q I rx ry h
  · exact or_sinK pins s σ H x y v u Q I rx ry h
  · exact op_in_sign pins s σ H x y v u Q I rx ry h
theorem op_NIN (hu : X.A.units + 65 < cLine) : OpR X (compareOp .NotIn) (rIN X.K X.prog X.w true) := by
  intro pins s σ H x y v u Q I rx ry h
  rcases h with h | h | h | h
  · exact op_notInD hu pins s σ H x y v u Q I rx ry h
  · exact op_notIn_seq pins s σ H x y v u Q I rx ry h
  · exact or_snotinK pins s σ H x y v u Q I rx ry h
  · exact op_notIn_sign pins s σ H x y v u Q I rx ry h
end
end T3
set_option Elab.async false
set_option linter.all false
set_option maxRecDepth 100000
set_option maxHeartbeats 2000000
namespace T3
open PySem L2
open Evl (Ex)
/-! ### operators -/
section
variable {B : Hp} {M : Mem} {Q : DQ} {K : PySem.W.Frag} {P : Program} {w : World} {d x y : D} {ds xs ys : List D} {i j : Int} {s t : Str} {a b : Addr}
theorem r3_I0 {g : Int → Int → V} (q : Q d M) (h : ∀ F, RD F d (g i j) := by intro F; rfl) : R3 B (rI0 g) (.int i) (.int j) M Q := fun F H xv yv Qv _ st rx ry k => ⟨i, j, rx, ry, k F M d _ H (Ex.refl _) st (h F) q⟩
theorem r3_I {C : Int → Int → Prop} {g : Int → Int → V} (hc : C i j) (q : Q d M) (h : ∀ F, RD F d (g i j) := by intro F; rfl) : R3 B (rI C g) (.int i) (.int j) M Q := fun F H xv yv Qv _ st rx ry k => ⟨i, j, rx, ry, hc, k F M d _ H (Ex.refl _) st (h F) q⟩
theorem u3_I {g : Int → V} (q : Q d M) (h : ∀ F, RD F d (g i) := by intro F; rfl) : U3 B (rU g) (.int i) M Q := fun F H xv Qv _ st rx k => ⟨i, rx, k F M d _ H (Ex.refl _) st (h F) q⟩
theorem r3_add_ii (q : Q (.int (i + j)) M) : R3 B rADD (.int i) (.int j) M Q := fun F H xv yv Qv b st rx ry k => .inl ⟨i, j, rx, ry, k F M (.int (i + j)) _ H (Ex.refl _) st rfl q⟩
theorem r3_add_ss (h : s.length + t.length ≤ 1000000) (q : Q (.str (s ++ t)) M) : R3 B rADD (.str s) (.str t) M Q := fun F H xv yv Qv b st rx ry k => .inr (.inl ⟨s, t, rx, ry, Nat.le_trans h (by decide), k F M (.str (s ++ t)) _ H (Ex.refl _) st rfl q⟩)
/-- a list to be read: frozen, or owned -/
def LstD (M : Mem) (x : D) (ds : List D) : Prop := x = .lst ds ∨ ∃ a, x = .ref a ∧ M a = some (.lst ds)
theorem LstD.fz {M : Mem} {ds : List D} : LstD M (.lst ds) ds := .inl rfl
theorem LstD.ow {M : Mem} {a : Addr} {ds : List D} (h : M a = some (.lst ds)) : LstD M (.ref a) ds := .inr ⟨a, rfl, h⟩
theorem LstD.at {M : Mem} {x : D} {ds : List D} {F H : Hp} {v : V} (l : LstD M x ds) (st : St3 F M H) (r : RD F x v) : ∃ a vs, v = .ref a ∧ H a = some (.lst vs) ∧ RDs F ds vs := by
  rcases l with e | ⟨a, e, h⟩
  · subst e
    obtain ⟨a, vs, e1, h, rs⟩ := r
    exact ⟨a, vs, e1, st.fz a _ h, rs⟩
  · subst e
    obtain ⟨_, ho, h1, vs, e2, rs⟩ := st.own a _ h
    subst e2
    exact ⟨a, vs, r, h1, rs⟩
theorem LstD.seq {M : Mem} {x : D} {ds : List D} {F H : Hp} {v : V} (l : LstD M x ds) (st : St3 F M H) (r : RD F x v) : ∃ a vs, v = .ref a ∧ SqL K H a vs ∧ RDs F ds vs := by
  obtain ⟨a, vs, e, h, rs⟩ := l.at st r
  exact ⟨a, vs, e, .inl (.inl h), rs⟩
theorem r3_add_ll (lx : LstD M x xs) (ly : LstD M y ys) (h : xs.length + ys.length ≤ 1000000) (q : Q (.lst (xs ++ ys)) M) : R3 B rADD x y M Q := fun F H xv yv Qv b st rx ry k => by
  obtain ⟨a, vs, e1, h1, r1⟩ := lx.at st rx
  obtain ⟨c, us, e2, h2, r2⟩ := ly.at st ry
  refine .inr (.inr ⟨a, c, vs, us, e1, e2, h1, h2, ?_, fun p hp => ?_⟩)
  · rw [← r1.length, ← r2.length]; exact Nat.le_trans h (by decide)
  · obtain ⟨s2, e⟩ := st.new (o := .lst (vs ++ us)) hp
    exact k _ _ (.lst (xs ++ ys)) _ _ e s2 ⟨p, _, rfl, upd_same, (r1.append r2).mono e⟩ q
theorem r3_eq {n m : Nat} (hx : okD n x = true) (hy : okD m y = true) (q : Q (.bl (peq x y)) M) (hn : n ≤ 64 := by decide) (hm : m ≤ 64 := by decide) : R3 B (rEqD K) x y M Q := fun F H xv yv Qv b st rx ry k =>
  ⟨py x, py y, okD_dp st.fz hx rx, okD_dp st.fz hy ry, okD_shaped hx hn, okD_shaped hy hm, k F M (.bl (peq x y)) _ H (Ex.refl _) st rfl q⟩
theorem r3_ne {n m : Nat} (hx : okD n x = true) (hy : okD m y = true) (q : Q (.bl (!peq x y)) M) (hn : n ≤ 64 := by decide) (hm : m ≤ 64 := by decide) : R3 B (rNeD K) x y M Q := fun F H xv yv Qv b st rx ry k =>
  ⟨py x, py y, okD_dp st.fz hx rx, okD_dp st.fz hy ry, okD_shaped hx hn, okD_shaped hy hm, k F M (.bl (!peq x y)) _ H (Ex.refl _) st rfl q⟩
/-- owned lists of data -/
theorem LstD.dp {M : Mem} {n : Nat} {F H : Hp} {v : V} (l : LstD M x ds) (h : okDs n ds = true) (st : St3 F M H) (r : RD F x v) : Dp K H v (.list (pys ds)) := by
  obtain ⟨a, vs, e, h1, rs⟩ := l.at st r
  rw [e]
  exact .lst (.inl (.inl h1)) (okDs_dp st.fz h rs)
theorem okDs_shaped {n : Nat} (h : okDs n ds = true) (hn : n < 64) : SeqAt.shaped (.list (pys ds)) = true := by
  have : okD (n + 1) (.lst ds) = true := h
  exact okD_shaped this hn
theorem r3_eqO {n m : Nat} (lx : LstD M x xs) (ly : LstD M y ys) (hx : okDs n xs = true) (hy : okDs m ys = true) (q : Q (.bl (PyData.eqvAll (pys xs) (pys ys))) M) (hn : n < 64 := by decide) (hm : m < 64 := by decide) : R3 B (rEqD K) x y M Q := fun F H xv yv Qv b st rx ry k =>
  ⟨.list (pys xs), .list (pys ys), lx.dp hx st rx, ly.dp hy st ry, okDs_shaped hx hn, okDs_shaped hy hm, k F M (.bl (PyData.eqvAll (pys xs) (pys ys))) _ H (Ex.refl _) st rfl q⟩
theorem r3_neO {n m : Nat} (lx : LstD M x xs) (ly : LstD M y ys) (hx : okDs n xs = true) (hy : okDs m ys = true) (q : Q (.bl (!PyData.eqvAll (pys xs) (pys ys))) M) (hn : n < 64 := by decide) (hm : m < 64 := by decide) : R3 B (rNeD K) x y M Q := fun F H xv yv Qv b st rx ry k =>
  ⟨.list (pys xs), .list (pys ys), lx.dp hx st rx, ly.dp hy st ry, okDs_shaped hx hn, okDs_shaped hy hm, k F M (.bl (!PyData.eqvAll (pys xs) (pys ys))) _ H (Ex.refl _) st rfl q⟩
theorem any_pys (d : PyData) : ∀ ds : List D, ((pys ds).any fun z => PyData.eqv z d) = ds.any fun z => PyData.eqv (py z) d
  | [] => rfl
  | z :: zs => by show (PyData.eqv (py z) d || (pys zs).any _) = (PyData.eqv (py z) d || zs.any _); rw [any_pys d zs]
theorem r3_in {n m : Nat} {neg : Bool} (ly : LstD M y ys) (hx : okD n x = true) (hy : okDs m ys = true) (q : Q (.bl (if neg then !(ys.any fun z => peq z x) else ys.any fun z => peq z x)) M) (hn : n ≤ 64 := by decide) (hm : m < 64 := by decide) : R3 B (rIN K P w neg) x y M Q := fun F H xv yv Qv b st rx ry k =>
  .inl ⟨py x, pys ys, okD_dp st.fz hx rx, ly.dp hy st ry, okD_shaped hx hn, okDs_shaped hy hm, by
    rw [any_pys]
    exact k F M (.bl (if neg then !(ys.any fun z => peq z x) else ys.any fun z => peq z x)) _ H (Ex.refl _) st (by cases neg <;> rfl) q⟩
theorem r3_in_set {neg : Bool} {k : Key} {S : Key → Bool} {n : Nat} (hx : ∀ F v, RD F x v → v = kV k) (h : M a = some (.raw (SetK P w a S n))) (q : Q (.bl (if neg then !S k else S k)) M) : R3 B (rIN K P w neg) x (.ref a) M Q := fun F H xv yv Qv b st rx ry kk => by
  obtain ⟨_, ho, h1, e⟩ := st.own a _ h
  rw [e.1] at h1
  exact .inr (.inr (.inl ⟨k, a, S, n, hx F xv rx, ry, h1, kk F M (.bl (if neg then !S k else S k)) _ H (Ex.refl _) st rfl q⟩))
theorem r3_in_sign {neg : Bool} {c : Nat} {z : Str} (q : Q (.bl (if neg then !(decide (c ∈ z.cps.toList)) else decide (c ∈ z.cps.toList))) M) : R3 B (rIN K P w neg) (.str ⟨#[c]⟩) (.str z) M Q := fun F H xv yv Qv b st rx ry kk =>
  .inr (.inr (.inr ⟨c, z, rx, ry, kk F M (.bl (if neg then !(decide (c ∈ z.cps.toList)) else decide (c ∈ z.cps.toList))) _ H (Ex.refl _) st rfl q⟩))
end
/-! ### items, slices -/
section
variable {B : Hp} {M : Mem} {Q : DQ} {K : PySem.W.Frag} {P : Program} {w : World} {d x y : D} {ds xs ys : List D} {i j : Int} {s t : Str} {a b : Addr}
theorem atI_rel {F : Hp} {vs : List V} (r : RDs F ds vs) (h : atI ds i = some d) : ∃ v, atI vs i = some v ∧ RD F d v := by
  unfold atI at h ⊢
  rw [← r.length]
  cases e : ixN ds.length i with
  | none => rw [e] at h; cases h
  | some k =>
    rw [e] at h
    exact r.at h
theorem r3_ix_l (l : LstD M x ds) (h : atI ds i = some d) (q : Q d M) : R3 B (rIx K) x (.int i) M Q := fun F H xv yv Qv b st rx ry k => by
  obtain ⟨a, vs, e, h1, r⟩ := l.seq (K := K) st rx
  obtain ⟨v, hv, rv⟩ := atI_rel r h
  exact .inl ⟨a, vs, i, v, e, ry, h1, hv, k F M d v H (Ex.refl _) st rv q⟩
theorem r3_ix_t (h : atI ds i = some d) (q : Q d M) : R3 B (rIx K) (.tup ds) (.int i) M Q := fun F H xv yv Qv b st rx ry k => by
  obtain ⟨a, vs, e, h1, r⟩ := rx
  obtain ⟨v, hv, rv⟩ := atI_rel r h
  exact .inr (.inl ⟨a, vs, i, v, e, ry, .inl (.inl (st.fz a _ h1)), hv, k F M d v H (Ex.refl _) st rv q⟩)
theorem r3_ix_s {c : Nat} (hl : s.length ≤ 1000000) (h : atI s.cps.toList i = some c) (q : Q (.str ⟨#[c]⟩) M) : R3 B (rIx K) (.str s) (.int i) M Q := fun F H xv yv Qv b st rx ry k =>
  .inr (.inr ⟨s, i, c, rx, ry, Nat.le_trans hl (by decide), h, k F M (.str ⟨#[c]⟩) _ H (Ex.refl _) st rfl q⟩)
def O3 (B : Hp) (to : TO) (σ : Sig) (M : Mem) (Q : Option Int → Mem → Prop) : Prop :=
  ∀ (F : Hp) (σv : St) (H : Hp) (Qv : Option Int → Hp → Prop), Ex B F → SRel F σ σv → St3 F M H → (∀ F' M' o H', Ex F F' → St3 F' M' H' → Q o M' → Qv o H') → to σv H Qv
theorem o_no {σ : Sig} {Q : Option Int → Mem → Prop} (q : Q none M) : O3 B tNoPart σ M Q := fun F σv H Qv b hs st k => k F M none H (Ex.refl _) st q
theorem o_some {σ : Sig} {te : TE} {Q : Option Int → Mem → Prop} (h : W3e B te σ M (fun x M1 => ∃ i, x = .int i ∧ Q (some i) M1)) : O3 B (tPart te) σ M Q := fun F σv H Qv b hs st k =>
  h F σv H _ b hs st fun F1 M1 x xv H1 e1 st1 rx ⟨i, ex, q⟩ => by
    subst ex
    exact ⟨i, rx, k F1 M1 (some i) H1 e1 st1 q⟩
def S3 (B : Hp) (r : V → Option Int → Option Int → Hp → VK → Prop) (x : D) (lo hi : Option Int) (M : Mem) (Q : DQ) : Prop :=
  ∀ (F : Hp) (H : Hp) (xv : V) (Qv : VK), Ex B F → St3 F M H → RD F x xv → (∀ F' M' d v H', Ex F F' → St3 F' M' H' → RD F' d v → Q d M' → Qv v H') → r xv lo hi H Qv
theorem w_sl {r : V → Option Int → Option Int → Hp → VK → Prop} {te : TE} {tl th : TO} {σ : Sig} (h : W3e B te σ M (fun x M1 => O3 B tl σ M1 (fun lo M2 => O3 B th σ M2 (fun hi M3 => S3 B r x lo hi M3 Q)))) : W3e B (tSl r te tl th) σ M Q := fun F σv H Qv b hs st k =>
  h F σv H _ b hs st fun F1 M1 x xv H1 e1 st1 rx q1 => q1 F1 σv H1 _ (b.trans e1) (hs.mono e1) st1 fun F2 M2 lo H2 e2 st2 q2 =>
    q2 F2 σv H2 _ ((b.trans e1).trans e2) ((hs.mono e1).mono e2) st2 fun F3 M3 hi H3 e3 st3 q3 =>
      q3 F3 H3 xv Qv (((b.trans e1).trans e2).trans e3) st3 ((rx.mono e2).mono e3) fun F4 M4 d v H4 e4 st4 rd qd => k F4 M4 d v H4 (((e1.trans e2).trans e3).trans e4) st4 rd qd
def cutD (xs : List D) (lo hi : Option Int) : List D := (xs.drop (HT.sIx xs.length 0 lo)).take (HT.sIx xs.length xs.length hi - HT.sIx xs.length 0 lo)
theorem RDs.cut {F : Hp} {vs : List V} (r : RDs F ds vs) (lo hi : Option Int) : RDs F (cutD ds lo hi) (cutV vs lo hi) := by
  unfold cutD cutV
  rw [← r.length]
  exact (r.drop _).take _
def rSL (K : PySem.W.Frag) : V → Option Int → Option Int → Hp → VK → Prop := fun x lo hi H Q => rSlL K x lo hi H Q ∨ rSlS x lo hi H Q
theorem sl_SL {X : Cx} : SlR X (rSL X.K) := sl_list.or sl_str
theorem s3_l {lo hi : Option Int} (l : LstD M x ds) (q : Q (.lst (cutD ds lo hi)) M) : S3 B (rSL K) x lo hi M Q := fun F H xv Qv b st rx k => by
  obtain ⟨a, vs, e, h1, r⟩ := l.seq (K := K) st rx
  refine .inl ⟨a, vs, e, h1, fun p hp => ?_⟩
  obtain ⟨s2, e2⟩ := st.new (o := .lst (cutV vs lo hi)) hp
  exact k _ _ (.lst (cutD ds lo hi)) _ _ e2 s2 ⟨p, _, rfl, upd_same, (r.cut lo hi).mono e2⟩ q
end
section
variable {B : Hp} {M : Mem} {Q : DQ} {K : PySem.W.Frag} {P : Program} {w : World} {d x y : D} {ds xs ys : List D} {i j : Int} {s t : Str} {a b : Addr}
theorem s3_s {lo hi : Option Int} (hl : s.length ≤ 1000000) (q : Q (.str (cutS s lo hi)) M) : S3 B (rSL K) (.str s) lo hi M Q := fun F H xv Qv b st rx k =>
  .inr ⟨s, rx, Nat.le_trans hl (by decide), k F M (.str (cutS s lo hi)) _ H (Ex.refl _) st rfl q⟩
/-! ### calls of built-ins -/
theorem w_cb {r : List V → Hp → VK → Prop} {t : TA} {σ : Sig} (h : W3a B t σ M (fun xs M1 => C3 B r xs M1 Q)) : W3e B (tCB r t) σ M Q := fun F σv H Qv b hs st k =>
  h F σv H _ b hs st fun F1 M1 x xv H1 e1 st1 rx q1 => q1 F1 H1 xv Qv (b.trans e1) st1 rx fun F3 M3 d v H3 e3 st3 rd qd => k F3 M3 d v H3 (e1.trans e3) st3 rd qd
theorem RDs.sing {F : Hp} {xv : List V} (h : RDs F [x] xv) : ∃ v, xv = [v] ∧ RD F x v := by
  obtain ⟨v, r, e, h1, h2⟩ := h
  exact ⟨v, by rw [e, show r = [] from h2], h1⟩
theorem RDs.two {F : Hp} {xv : List V} (h : RDs F [x, y] xv) : ∃ v u, xv = [v, u] ∧ RD F x v ∧ RD F y u := by
  obtain ⟨v, r, e, h1, h2⟩ := h
  obtain ⟨u, e2, h3⟩ := h2.sing
  exact ⟨v, u, by rw [e, e2], h1, h3⟩
abbrev rLEN (K : PySem.W.Frag) : List V → Hp → VK → Prop := fun xs H Q => ∃ x n, xs = [x] ∧ LenV K x H n ∧ Q (.int n) H
theorem c3_len (l : LstD M x ds) (q : Q (.int ds.length) M) : C3 B (rLEN K) [x] M Q := fun F H xv Qv b st rx k => by
  obtain ⟨v, e, r⟩ := rx.sing
  obtain ⟨a, vs, e1, h1, rs⟩ := l.seq (K := K) st r
  subst e; subst e1
  exact ⟨.ref a, ds.length, rfl, .inl ⟨vs, h1, rs.length⟩, k F M (.int ds.length) _ H (Ex.refl _) st rfl q⟩
theorem c3_len_t (q : Q (.int ds.length) M) : C3 B (rLEN K) [.tup ds] M Q := fun F H xv Qv b st rx k => by
  obtain ⟨v, e, a, vs, e1, h1, rs⟩ := rx.sing
  subst e; subst e1
  exact ⟨.ref a, ds.length, rfl, .inr ⟨vs, .inl (.inl (st.fz a _ h1)), rs.length⟩, k F M (.int ds.length) _ H (Ex.refl _) st rfl q⟩
theorem c3_len_s (hl : s.length ≤ 1000000) (q : Q (.int s.length) M) : C3 B (rLEN K) [.str s] M Q := fun F H xv Qv b st rx k => by
  obtain ⟨v, e, r⟩ := rx.sing
  subst e
  rw [show v = V.str s from r]
  exact ⟨.str s, s.length, rfl, ⟨Nat.le_trans hl (by decide), rfl⟩, k F M (.int s.length) _ H (Ex.refl _) st rfl q⟩
abbrev rINT : List V → Hp → VK → Prop := fun xs H Q => (∃ i, xs = [.int i] ∧ Q (.int i) H) ∨ ∃ k, xs = [.bl k] ∧ Q (.int (if k then 1 else 0)) H
theorem c3_int_i (q : Q (.int i) M) : C3 B rINT [.int i] M Q := fun F H xv Qv b st rx k => by
  obtain ⟨v, e, r⟩ := rx.sing
  subst e
  rw [show v = V.int i from r]
  exact .inl ⟨i, rfl, k F M (.int i) _ H (Ex.refl _) st rfl q⟩
theorem c3_int_b {c : Bool} (q : Q (.int (if c then 1 else 0)) M) : C3 B rINT [.bl c] M Q := fun F H xv Qv b st rx k => by
  obtain ⟨v, e, r⟩ := rx.sing
  subst e
  rw [show v = V.bl c from r]
  exact .inr ⟨c, rfl, k F M (.int (if c then 1 else 0)) _ H (Ex.refl _) st rfl q⟩
abbrev rABS : List V → Hp → VK → Prop := fun xs H Q => ∃ i, xs = [.int i] ∧ Q (.int (if i < 0 then -i else i)) H
theorem c3_abs (q : Q (.int (if i < 0 then -i else i)) M) : C3 B rABS [.int i] M Q := fun F H xv Qv b st rx k => by
  obtain ⟨v, e, r⟩ := rx.sing
  subst e
  rw [show v = V.int i from r]
  exact ⟨i, rfl, k F M (.int (if i < 0 then -i else i)) _ H (Ex.refl _) st rfl q⟩
abbrev rMAX2 : List V → Hp → VK → Prop := fun xs H Q => ∃ i j, xs = [.int i, .int j] ∧ Q (.int (if j > i then j else i)) H
abbrev rMIN2 : List V → Hp → VK → Prop := fun xs H Q => ∃ i j, xs = [.int i, .int j] ∧ Q (.int (if j < i then j else i)) H
theorem c3_max2 (q : Q (.int (if j > i then j else i)) M) : C3 B rMAX2 [.int i, .int j] M Q := fun F H xv Qv b st rx k => by
  obtain ⟨v, u, e, r1, r2⟩ := rx.two
  subst e
  rw [show v = V.int i from r1, show u = V.int j from r2]
  exact ⟨i, j, rfl, k F M (.int (if j > i then j else i)) _ H (Ex.refl _) st rfl q⟩
theorem c3_min2 (q : Q (.int (if j < i then j else i)) M) : C3 B rMIN2 [.int i, .int j] M Q := fun F H xv Qv b st rx k => by
  obtain ⟨v, u, e, r1, r2⟩ := rx.two
  subst e
  rw [show v = V.int i from r1, show u = V.int j from r2]
  exact ⟨i, j, rfl, k F M (.int (if j < i then j else i)) _ H (Ex.refl _) st rfl q⟩
abbrev rLST (K : PySem.W.Frag) : List V → Hp → VK → Prop := fun xs H Q => ∃ p ys, xs = [.ref p] ∧ (SqL K H p ys ∨ SqT K H p ys) ∧ ∀ l, H l = none → Q (.ref l) (upd H l (.lst ys))
/-- list(x): a frozen copy; one that will change -/
theorem c3_lst (l : LstD M x ds) (q : Q (.lst ds) M) : C3 B (rLST K) [x] M Q := fun F H xv Qv b st rx k => by
  obtain ⟨v, e, r⟩ := rx.sing
  obtain ⟨a, vs, e1, h1, rs⟩ := l.seq (K := K) st r
  subst e; subst e1
  refine ⟨a, vs, rfl, .inl h1, fun p hp => ?_⟩
  obtain ⟨s2, e2⟩ := st.new (o := .lst vs) hp
  exact k _ _ (.lst ds) _ _ e2 s2 ⟨p, _, rfl, upd_same, rs.mono e2⟩ q
theorem c3_lstO (l : LstD M x ds) (q : ∀ p, M p = none → Q (.ref p) (mput M p (.lst ds))) : C3 B (rLST K) [x] M Q := fun F H xv Qv b st rx k => by
  obtain ⟨v, e, r⟩ := rx.sing
  obtain ⟨a, vs, e1, h1, rs⟩ := l.seq (K := K) st r
  subst e; subst e1
  exact ⟨a, vs, rfl, .inl h1, fun p hp => k F _ (.ref p) _ _ (Ex.refl _) (st.newO (d := .lst ds) hp ⟨vs, rfl, rs⟩) rfl (q p (st.nn hp).2)⟩
theorem c3_lst_t (q : Q (.lst ds) M) : C3 B (rLST K) [.tup ds] M Q := fun F H xv Qv b st rx k => by
  obtain ⟨v, e, a, vs, e1, h1, rs⟩ := rx.sing
  subst e; subst e1
  refine ⟨a, vs, rfl, .inr (.inl (.inl (st.fz a _ h1))), fun p hp => ?_⟩
  obtain ⟨s2, e2⟩ := st.new (o := .lst vs) hp
  exact k _ _ (.lst ds) _ _ e2 s2 ⟨p, _, rfl, upd_same, rs.mono e2⟩ q
theorem RDs.bls {F : Hp} : ∀ {bs : List Bool} {vs : List V}, RDs F (bs.map D.bl) vs → vs = bs.map V.bl
  | [], _, h => h
  | b :: bs, _, ⟨v, r, e, h1, h2⟩ => by rw [e, show v = V.bl b from h1, RDs.bls h2]; rfl
theorem RDs.ints {F : Hp} : ∀ {bs : List Int} {vs : List V}, RDs F (bs.map D.int) vs → vs = bs.map V.int
  | [], _, h => h
  | b :: bs, _, ⟨v, r, e, h1, h2⟩ => by rw [e, show v = V.int b from h1, RDs.ints h2]; rfl
theorem RDs.strs {F : Hp} : ∀ {bs : List Str} {vs : List V}, RDs F (bs.map D.str) vs → vs = bs.map V.str
  | [], _, h => h
  | b :: bs, _, ⟨v, r, e, h1, h2⟩ => by rw [e, show v = V.str b from h1, RDs.strs h2]; rfl
theorem c3_any {bs : List Bool} (l : LstD M x (bs.map D.bl)) (q : Q (.bl (bs.any id)) M) : C3 B (rAny K) [x] M Q := fun F H xv Qv b st rx k => by
  obtain ⟨v, e, r⟩ := rx.sing
  obtain ⟨a, vs, e1, h1, rs⟩ := l.seq (K := K) st r
  subst e; subst e1
  rw [rs.bls] at h1
  exact ⟨a, bs, rfl, h1, k F M (.bl (bs.any id)) _ H (Ex.refl _) st rfl q⟩
theorem c3_all {bs : List Bool} (l : LstD M x (bs.map D.bl)) (q : Q (.bl (bs.all id)) M) : C3 B (rAll K) [x] M Q := fun F H xv Qv b st rx k => by
  obtain ⟨v, e, r⟩ := rx.sing
  obtain ⟨a, vs, e1, h1, rs⟩ := l.seq (K := K) st r
  subst e; subst e1
  rw [rs.bls] at h1
  exact ⟨a, bs, rfl, h1, k F M (.bl (bs.all id)) _ H (Ex.refl _) st rfl q⟩
theorem c3_sum {bs : List Int} (l : LstD M x (bs.map D.int)) (q : Q (.int bs.sum) M) : C3 B (rSum K) [x] M Q := fun F H xv Qv b st rx k => by
  obtain ⟨v, e, r⟩ := rx.sing
  obtain ⟨a, vs, e1, h1, rs⟩ := l.seq (K := K) st r
  subst e; subst e1
  rw [rs.ints] at h1
  exact ⟨a, bs, rfl, h1, k F M (.int bs.sum) _ H (Ex.refl _) st rfl q⟩
def tyD : D → String
  | .non => "NoneType"
  | .bl _ => "bool"
  | .int _ => "int"
  | .str _ => "str"
  | .tup _ => "tuple"
  | .lst _ => "list"
  | _ => ""
theorem RD.tyX {F H : Hp} {v : V} (e : Ex F H) (r : RD F x v) (h : (tyD x == "") = false) : TyX K H v (.type (tyD x)) := by
  cases x with
  | non => rw [show v = _ from r]; exact .base .non
  | bl b => rw [show v = _ from r]; exact .base (.bl b)
  | int b => rw [show v = _ from r]; exact .base (.int b)
  | str b => rw [show v = _ from r]; exact .base (.str b)
  | tup ds => obtain ⟨a, vs, e1, h1, _⟩ := r; rw [e1]; exact .base (.tup (e a _ h1))
  | lst ds => obtain ⟨a, vs, e1, h1, _⟩ := r; rw [e1]; exact .base (.lst (e a _ h1))
  | _ => exact nomatch h
theorem c3_isi {n : String} {c : Bool} (h : (tyD x == "") = false) (hk : PySem.W.kitOne K (.type (tyD x)) (.type n) = some c) (q : Q (.bl c) M) : C3 B (rIsi K) [x, .ty n] M Q := fun F H xv Qv b st rx k => by
  obtain ⟨v, u, e, r1, r2⟩ := rx.two
  subst e
  rw [show u = V.ty n from r2]
  exact ⟨v, .ty n, .type (tyD x), .type n, c, rfl, .ty n, r1.tyX st.fz h, hk, k F M (.bl c) _ H (Ex.refl _) st rfl q⟩
/-! ### methods of built-ins -/
def TyD (M : Mem) (T : String) (x : D) : Prop := (T = "str" ∧ ∃ s, x = .str s) ∨ (T = "list" ∧ ∃ ds, LstD M x ds) ∨ (T = "dict" ∧ ∃ a, x = .ref a ∧ ((∃ kvs, M a = some (.dK kvs)) ∨ ∃ kvs, M a = some (.dT kvs)))
theorem TyD.at {F H : Hp} {T : String} {v : V} (h : TyD M T x) (st : St3 F M H) (r : RD F x v) : tyV K T v H := by
  rcases h with ⟨rfl, s, e⟩ | ⟨rfl, ds, l⟩ | ⟨rfl, a, e, h⟩
  · subst e; rw [show v = V.str s from r]; rfl
  · obtain ⟨a, vs, e1, h1, _⟩ := l.seq (K := K) st r
    rw [e1]
    exact .inl ⟨rfl, vs, h1⟩
  · subst e
    rw [show v = V.ref a from r]
    rcases h with ⟨kvs, h⟩ | ⟨kvs, h⟩
    · obtain ⟨_, ho, h1, kv, e2, _⟩ := st.own a _ h
      rw [e2] at h1
      exact .inr (.inr (.inl ⟨rfl, .inl ⟨kv, h1⟩⟩))
    · obtain ⟨_, ho, h1, kv, e2, _⟩ := st.own a _ h
      rw [e2] at h1
      exact .inr (.inr (.inl ⟨rfl, .inr ⟨kv, h1⟩⟩))
theorem TyD.lf {ds : List D} : TyD M "list" (.lst ds) := .inr (.inl ⟨rfl, ds, .fz⟩)
theorem TyD.lo {ds : List D} (h : M a = some (.lst ds)) : TyD M "list" (.ref a) := .inr (.inl ⟨rfl, ds, .ow h⟩)
theorem TyD.txt : TyD M "str" (.str s) := .inl ⟨rfl, s, rfl⟩
theorem w_bm0 {T : String} {r : V → List V → Hp → VK → Prop} {ta : TE} {σ : Sig} (h : W3e B ta σ M (fun x M1 => TyD M1 T x ∧ M3 B r x [] M1 Q)) : W3e B (tBM0 K T r ta) σ M Q := fun F σv H Qv b hs st k =>
  h F σv H _ b hs st fun F1 M1 x xv H1 e1 st1 rx ⟨ty, q1⟩ => ⟨ty.at st1 rx, q1 F1 H1 xv [] Qv (b.trans e1) st1 rx rfl fun F3 M3 d v H3 e3 st3 rd qd => k F3 M3 d v H3 (e1.trans e3) st3 rd qd⟩
theorem w_bm {T : String} {r : V → List V → Hp → VK → Prop} {ta : TE} {t : TA} {σ : Sig} (h : W3e B ta σ M (fun x M1 => TyD M1 T x ∧ W3a B t σ M1 (fun xs M2 => M3 B r x xs M2 Q))) : W3e B (tBM K T r ta t) σ M Q := fun F σv H Qv b hs st k =>
  h F σv H _ b hs st fun F1 M1 x xv H1 e1 st1 rx ⟨ty, q1⟩ => ⟨ty.at st1 rx, q1 F1 σv H1 _ (b.trans e1) (hs.mono e1) st1 fun F2 M2 xs xvs H2 e2 st2 rxs q2 =>
    q2 F2 H2 xv xvs Qv ((b.trans e1).trans e2) st2 (rx.mono e2) rxs fun F3 M3 d v H3 e3 st3 rd qd => k F3 M3 d v H3 ((e1.trans e2).trans e3) st3 rd qd⟩
theorem m3_append (h : M a = some (.lst ds)) (hl : ds.length ≤ 100000) (q : Q .non (mput M a (.lst (ds ++ [y])))) : M3 B rAppend (.ref a) [y] M Q := fun F H xv xvs Qv b st rx rxs k => by
  obtain ⟨v, e, ry⟩ := rxs.sing
  obtain ⟨_, ho, h1, vs, e2, rs⟩ := st.own a _ h
  subst e2
  refine ⟨a, vs, v, rx, e, h1, ?_, k F _ .non _ _ (Ex.refl _) (st.put h (d' := .lst (ds ++ [y])) ⟨_, rfl, rs.snoc ry⟩) rfl q⟩
  rw [← rs.length]; exact Nat.lt_of_le_of_lt hl (by decide)
theorem m3_extend (h : M a = some (.lst ds)) (l : LstD M y ys) (hl : ds.length + ys.length ≤ 100000) (q : Q .non (mput M a (.lst (ds ++ ys)))) : M3 B rExtend (.ref a) [y] M Q := fun F H xv xvs Qv b st rx rxs k => by
  obtain ⟨v, e, ry⟩ := rxs.sing
  obtain ⟨_, ho, h1, vs, e2, rs⟩ := st.own a _ h
  obtain ⟨c, us, e3, h3, r3⟩ := l.at st ry
  subst e2; subst e3
  refine ⟨a, c, vs, us, rx, e, h1, h3, ?_, k F _ .non _ _ (Ex.refl _) (st.put h (d' := .lst (ds ++ ys)) ⟨_, rfl, rs.append r3⟩) rfl q⟩
  rw [← rs.length, ← r3.length]; exact Nat.le_trans hl (by decide)
theorem m3_clear (h : M a = some (.lst ds)) (q : Q .non (mput M a (.lst []))) : M3 B rClear (.ref a) [] M Q := fun F H xv xvs Qv b st rx rxs k => by
  obtain ⟨_, ho, h1, vs, e2, rs⟩ := st.own a _ h
  subst e2
  exact ⟨a, vs, rx, rxs, h1, k F _ .non _ _ (Ex.refl _) (st.put h (d' := .lst []) ⟨_, rfl, rfl⟩) rfl q⟩
theorem m3_pop0 (h : M a = some (.lst (x :: ds))) (q : Q x (mput M a (.lst ds))) : M3 B rPopAt (.ref a) [.int 0] M Q := fun F H xv xvs Qv b st rx rxs k => by
  obtain ⟨v, e, ry⟩ := rxs.sing
  obtain ⟨_, ho, h1, vs, e2, rs⟩ := st.own a _ h
  obtain ⟨z, us, e3, r1, r2⟩ := rs
  subst e2; subst e3
  rw [show v = V.int 0 from ry] at e
  exact ⟨a, z :: us, 0, 0, z, rx, e, h1, by decide, by decide, by simp [seqIndex?], rfl, k F _ x _ _ (Ex.refl _) (st.put h (d' := .lst ds) ⟨_, rfl, r2⟩) r1 q⟩
end
end T3
set_option Elab.async false
set_option linter.all false
set_option maxRecDepth 100000
set_option maxHeartbeats 2000000
namespace T3
open PySem L2
open Evl (Ex)
/-! ### what is walked -/
/-- J walks the items ds while P holds of the owned objects -/
def WD (F : Hp) (J : It) (ds : List D) (P : Mem → Prop) : Prop := ∃ (G : Hp → Prop) (Y : Nat → Hp → V → Hp → Prop), Walk J ds.length G Y ∧ (∀ F' M H, Ex F F' → St3 F' M H → P M → G H) ∧
  (∀ (i : Nat) d x H H' F' M, ds[i]? = some d → Ex F F' → St3 F' M H → P M → Y i H x H' → ∃ F2, Ex F' F2 ∧ St3 F2 M H' ∧ RD F2 d x) ∧ (∀ M p o, M p = none → P M → P (mput M p o))
def W3i (B : Hp) (wi : TI) (σ : Sig) (M : Mem) (Q : List D → (Mem → Prop) → Mem → Prop) : Prop :=
  ∀ (F : Hp) (σv : St) (H : Hp) (R : It → Hp → Prop), Ex B F → SRel F σ σv → St3 F M H → (∀ F' M' J ds P H', Ex F F' → St3 F' M' H' → WD F' J ds P → Q ds P M' → R J H') → wi σv H R
section
variable {B : Hp} {M : Mem} {K : PySem.W.Frag} {σ : Sig} {te : TE} {ta : TA} {Q : List D → (Mem → Prop) → Mem → Prop}
theorem WD.len {F : Hp} {ds : List D} {vs : List V} {J : It} {n : Nat} {G : Hp → Prop} {Y : Nat → Hp → V → Hp → Prop} (w : Walk J n G Y) (e : n = ds.length) : Walk J ds.length G Y := e ▸ w
theorem i_list (h : W3e B te σ M (fun x M1 => ∃ ds, x = .lst ds ∧ Q ds (fun _ => True) M1)) : W3i B (iList K te) σ M Q := fun F σv H R b hs st k =>
  h F σv H _ b hs st fun F1 M1 x xv H1 e1 st1 rx ⟨ds, ex, q⟩ => by
    subst ex
    obtain ⟨a, vs, ev, hf, rs⟩ := rx
    refine ⟨a, ev, ⟨vs, .inl (.inl (st1.fz a _ hf))⟩, k F1 M1 (Itl K a) ds _ H1 e1 st1 ⟨fun H => SqL K H a vs, YAt vs, WD.len (F := F1) (vs := vs) walk_list rs.length.symm, ?_, ?_, fun _ _ _ _ z => z⟩ q⟩
    · intro F' M' H' e s _
      exact .inl (.inl (s.fz a _ (e a _ hf)))
    · intro i d x H' H'' F' M' hd e s _ y
      obtain ⟨y1, y2⟩ := y
      subst y1
      obtain ⟨v, hv, rv⟩ := rs.at hd
      rw [y2] at hv; cases hv
      exact ⟨F', Ex.refl _, s, rv.mono e⟩
/-- over an owned list that stands still -/
theorem i_listO (h : W3e B te σ M (fun x M1 => ∃ a ds, x = .ref a ∧ M1 a = some (.lst ds) ∧ Q ds (fun M => M a = some (.lst ds)) M1)) : W3i B (iList K te) σ M Q := fun F σv H R b hs st k =>
  h F σv H _ b hs st fun F1 M1 x xv H1 e1 st1 rx ⟨a, ds, ex, hm, q⟩ => by
    subst ex
    obtain ⟨_, ho, h1, vs, e2, rs⟩ := st1.own a _ hm
    subst e2
    refine ⟨a, rx, ⟨vs, .inl (.inl h1)⟩, k F1 M1 (Itl K a) ds _ H1 e1 st1 ⟨fun H => ∃ us, SqL K H a us ∧ us.length = vs.length, fun i H x H' => H' = H ∧ ∀ us, SqL K H a us → us[i]? = some x, ?_, ?_, ?_, ?_⟩ q⟩
    · rw [rs.length]
      exact ⟨fun i H hi ⟨us, g, hl⟩ => ⟨us, us[i], g, by simp [hl, hi]⟩, fun H ⟨us, g, hl⟩ => ⟨us, g, Nat.le_of_eq hl⟩, fun i H x H' hi g y => y⟩
    · intro F' M' H' e s p
      obtain ⟨_, ho, h1', us, e2, rs'⟩ := s.own a _ p
      subst e2
      exact ⟨us, .inl (.inl h1'), by rw [← rs'.length, rs.length]⟩
    · intro i d x H' H'' F' M' hd e s p ⟨y1, y2⟩
      subst y1
      obtain ⟨f0, ho, h1', us', e2, rs'⟩ := s.own a _ p
      subst e2
      obtain ⟨v, hv, rv⟩ := rs'.at hd
      rw [y2 us' (.inl (.inl h1'))] at hv; cases hv
      exact ⟨F', Ex.refl _, s, rv⟩
    · intro M' p o hp hm'
      show mput M' p o a = _
      rw [mput_ne (mne hm' hp)]; exact hm'

theorem i_rng1 (h : W3a B ta σ M (fun xs M1 => ∃ j : Int, xs = [.int j] ∧ -1000000 ≤ j ∧ j ≤ 1000000 ∧ Q ((List.range j.toNat).map fun (i : Nat) => D.int (i : Int)) (fun _ => True) M1)) : W3i B (iRng1 ta) σ M Q := fun F σv H R b hs st k =>
  h F σv H _ b hs st fun F1 M1 xs xv H1 e1 st1 rx ⟨j, ex, hj0, hj, q⟩ => by
    subst ex
    obtain ⟨v, e, r⟩ := rx.sing
    subst e
    rw [show v = V.int j from r]
    refine ⟨j, rfl, by omega, by omega, k F1 M1 _ _ _ H1 e1 st1 ⟨fun _ => True, _, WD.len (F := F1) (ds := (List.range j.toNat).map fun (i : Nat) => D.int (i : Int)) (vs := []) walk_range (by simp), fun _ _ _ _ _ _ => trivial, ?_, fun _ _ _ _ z => z⟩ q⟩
    intro i d x H' H'' F' M' hd e s _ ⟨y1, y2⟩
    subst y1
    refine ⟨F', Ex.refl _, s, ?_⟩
    rw [List.getElem?_map] at hd
    obtain ⟨i', h1, h2⟩ := Option.map_eq_some_iff.mp hd
    rw [List.getElem?_range (by have := (List.getElem?_eq_some_iff.mp h1).1; simpa using this)] at h1
    cases h1
    rw [← h2, y2]
    show V.int (0 + (i : Int)) = V.int (i : Int)
    rw [Int.zero_add]
theorem i_rng2 (h : W3a B ta σ M (fun xs M1 => ∃ i j : Int, xs = [.int i, .int j] ∧ -1000000 ≤ i ∧ i ≤ 1000000 ∧ -1000000 ≤ j ∧ j ≤ 1000000 ∧ Q ((List.range (j - i).toNat).map fun (n : Nat) => D.int (i + n)) (fun _ => True) M1)) : W3i B (iRng2 ta) σ M Q := fun F σv H R b hs st k =>
  h F σv H _ b hs st fun F1 M1 xs xv H1 e1 st1 rx ⟨l, j, ex, h1, h2, h3, h4, q⟩ => by
    subst ex
    obtain ⟨v, u, e, r, r2⟩ := rx.two
    subst e
    rw [show v = V.int l from r, show u = V.int j from r2]
    refine ⟨l, j, rfl, ⟨by omega, by omega, by omega, by omega⟩, k F1 M1 _ _ _ H1 e1 st1 ⟨fun _ => True, _, WD.len (F := F1) (ds := (List.range (j - l).toNat).map fun (n : Nat) => D.int (l + n)) (vs := []) walk_range (by simp), fun _ _ _ _ _ _ => trivial, ?_, fun _ _ _ _ z => z⟩ q⟩
    intro i d x H' H'' F' M' hd e s _ ⟨y1, y2⟩
    subst y1
    refine ⟨F', Ex.refl _, s, ?_⟩
    rw [List.getElem?_map] at hd
    obtain ⟨i', h1, h2⟩ := Option.map_eq_some_iff.mp hd
    rw [List.getElem?_range (by have := (List.getElem?_eq_some_iff.mp h1).1; simpa using this)] at h1
    cases h1
    rw [← h2, y2]
    rfl
end
/-! ### for -/
section
variable {B : Hp} {M : Mem} {K : PySem.W.Frag} {σ : Sig} {wi : TI} {g : TG} {tb : TS} {D3 : Ends3}
theorem s_for (h : W3i B wi σ M (fun ds P M1 => ∃ I : Nat → Sig → Mem → Prop, (∀ i σ' M', I i σ' M' → P M') ∧ I 0 σ M1 ∧
      (∀ (i : Nat) d σ' M', ds[i]? = some d → I i σ' M' → G3 B g d σ' M' (fun σ2 M2 => W3s B tb { D3 with nx := I (i + 1), ct := I (i + 1), bk := D3.nx } σ2 M2)) ∧ (∀ σ' M', I ds.length σ' M' → D3.nx σ' M'))) :
    W3s B (tFor wi g tb) D3 σ M := fun F σv H Dv b hs st im =>
  h F σv H _ b hs st fun F1 M1 J ds P H1 e1 st1 ⟨G, Y, w, hG, hY, _⟩ ⟨I, hP, h0, turn, fin⟩ =>
    for_it w (fun i σv' H' => ∃ F' M' σ', Ex F1 F' ∧ SRel F' σ' σv' ∧ St3 F' M' H' ∧ I i σ' M') ⟨F1, M1, σ, Ex.refl _, hs.mono e1, st1, h0⟩
      (fun i σv' H' _ ⟨F', M', σ', e, s, t, q⟩ => hG F' M' H' e t (hP i σ' M' q))
      (fun i x σv' H' H'' hi ⟨F', M', σ', e, s, t, q⟩ y => by
        have hd : ds[i]? = some ds[i] := by simp [hi]
        obtain ⟨F2, e2, t2, rd⟩ := hY i _ x H' H'' F' M' hd e t (hP i σ' M' q) y
        refine turn i _ σ' M' hd q F2 σv' H'' x _ (b.trans ((e1.trans e).trans e2)) (s.mono e2) t2 rd fun F3 M3 σ3 σv3 H3 e3 s3 t3 q3 => ?_
        refine q3 F3 σv3 H3 _ (b.trans (((e1.trans e).trans e2).trans e3)) s3 t3 ⟨fun F4 M4 σ4 σv4 H4 e4 s4 t4 q4 => ?_, ?_, ?_, fun F4 M4 σ4 σv4 H4 e4 s4 t4 q4 => ?_⟩
        · exact ⟨F4, M4, σ4, ((e.trans e2).trans e3).trans e4, s4, t4, q4⟩
        · exact (im.mono (((e1.trans e).trans e2).trans e3)).rt
        · exact (im.mono (((e1.trans e).trans e2).trans e3)).nx
        · exact ⟨F4, M4, σ4, ((e.trans e2).trans e3).trans e4, s4, t4, q4⟩)
      (fun σv' H' ⟨F', M', σ', e, s, t, q⟩ => im.nx F' M' σ' σv' H' (e1.trans e) s t (fin σ' M' q))
/-- while: a measure -/
theorem s_while {tc : TT} (I : Nat → Sig → Mem → Prop) (m0 : Nat) (h0 : I m0 σ M)
    (hs : ∀ m σ' M', I m σ' M' → W3t B tc σ' M' (fun c M1 => if c = true then W3s B tb { D3 with nx := fun σ2 M2 => ∃ m', m' < m ∧ I m' σ2 M2, ct := fun σ2 M2 => ∃ m', m' < m ∧ I m' σ2 M2, bk := D3.nx } σ' M1 else D3.nx σ' M1)) : W3s B (tWhile tc tb) D3 σ M := fun F σv H Dv b hs' st im => by
  refine ⟨fun m σv' H' => ∃ F' M' σ', Ex F F' ∧ SRel F' σ' σv' ∧ St3 F' M' H' ∧ I m σ' M', ⟨m0, F, M, σ, Ex.refl _, hs', st, h0⟩, ?_⟩
  rintro m σv' H' ⟨F', M', σ', e, s, t, q⟩
  refine hs m σ' M' q F' σv' H' _ (b.trans e) s t fun F2 M2 c H2 e2 t2 q2 => ?_
  cases c with
  | false => exact im.nx F2 M2 σ' σv' H2 (e.trans e2) (s.mono e2) t2 q2
  | true =>
    refine ⟨_, fun σ' H' z => z, q2 F2 σv' H2 _ (b.trans (e.trans e2)) (s.mono e2) t2 ⟨fun F4 M4 σ4 σv4 H4 e4 s4 t4 ⟨m', hm, q4⟩ => ?_, ?_, ?_, fun F4 M4 σ4 σv4 H4 e4 s4 t4 ⟨m', hm, q4⟩ => ?_⟩⟩
    · exact ⟨m', hm, F4, M4, σ4, (e.trans e2).trans e4, s4, t4, q4⟩
    · exact (im.mono (e.trans e2)).rt
    · exact (im.mono (e.trans e2)).nx
    · exact ⟨m', hm, F4, M4, σ4, (e.trans e2).trans e4, s4, t4, q4⟩
end
/-! ### comprehensions -/
def OwnG (g : TG) (vs : List Nat) : Prop := ∀ x σ H Q Q', (∀ σ2 H2, L2.wipe σ2 vs = L2.wipe σ vs → Q σ2 H2 → Q' σ2 H2) → g x σ H Q → g x σ H Q'
def OwnGs (g : TGs) (vs : List Nat) : Prop := ∀ x σ H Q Q', (∀ σ2 H2, L2.wipe σ2 vs = L2.wipe σ vs → Q σ2 H2 → Q' σ2 H2) → g x σ H Q → g x σ H Q'
theorem wipe_at : ∀ (vs : List Nat) (σ : St) (i : Nat), (L2.wipe σ vs)[i]? = if i ∈ vs then (if i < σ.length then some none else none) else σ[i]?
  | [], σ, i => by simp [L2.wipe]
  | v :: vs, σ, i => by
    show ((L2.wipe σ vs).set v none)[i]? = _
    by_cases e : v = i
    · subst e
      rw [if_pos List.mem_cons_self]
      by_cases h : v < σ.length
      · rw [List.getElem?_set_self (by rw [wipe_length]; exact h), if_pos h]
      · rw [if_neg h, List.getElem?_eq_none]
        rw [List.length_set, wipe_length]; omega
    · rw [List.getElem?_set_ne e, wipe_at vs σ i]
      by_cases h : i ∈ vs
      · rw [if_pos h, if_pos (List.mem_cons_of_mem _ h)]
      · rw [if_neg h, if_neg (by simp only [List.mem_cons, not_or]; exact ⟨fun z => e z.symm, h⟩)]
theorem wipe_set {vs : List Nat} {σ : St} {j : Nat} {x : Option V} (h : j ∈ vs) : L2.wipe (σ.set j x) vs = L2.wipe σ vs := by
  apply List.ext_getElem?
  intro i
  rw [wipe_at, wipe_at, List.length_set]
  by_cases e : i ∈ vs
  · rw [if_pos e, if_pos e]
  · rw [if_neg e, if_neg e, List.getElem?_set_ne (fun z => e (by rw [← z]; exact h))]
theorem wipe_wipe {vs : List Nat} {σ : St} : L2.wipe (L2.wipe σ vs) vs = L2.wipe σ vs := by
  apply List.ext_getElem?
  intro i
  rw [wipe_at, wipe_at, wipe_length]
  by_cases e : i ∈ vs
  · rw [if_pos e]; rw [if_pos e]
  · rw [if_neg e]
theorem own_name {j : Nat} {vs : List Nat} (h : j ∈ vs := by decide) : OwnG (gName j) vs := fun x σ H Q Q' k q => k _ _ (wipe_set h) q
theorem own_nil {vs : List Nat} : OwnGs gNil vs := fun x σ H Q Q' k q => ⟨q.1, k _ _ rfl q.2⟩
theorem own_cons {t : TG} {u : TGs} {vs : List Nat} (h1 : OwnG t vs) (h2 : OwnGs u vs) : OwnGs (gCons t u) vs := fun x σ H Q Q' k ⟨v, r, e, q⟩ =>
  ⟨v, r, e, h1 v σ H _ _ (fun σ2 H2 w q2 => h2 r σ2 H2 Q Q' (fun σ3 H3 w3 q3 => k σ3 H3 (w3.trans w) q3) q2) q⟩
theorem own_tup {K : PySem.W.Frag} {n : Nat} {t : TGs} {vs : List Nat} (h : OwnGs t vs) : OwnG (gTup K n t) vs := fun x σ H Q Q' k ⟨a, xs, e, hq, hl, q⟩ => ⟨a, xs, e, hq, hl, h _ _ _ _ _ k q⟩
section
variable {B : Hp} {M : Mem} {K : PySem.W.Frag} {σ : Sig} {wi : TI} {g : TG} {tt : TT} {te : TE} {vs : List Nat} {Q : DQ}
/-- a comprehension; the new list, while it grows, is an owned one at L -/
theorem w_lc (hg : OwnG g vs) (h : W3i B wi σ M (fun ds P M1 => ∃ I : Nat → List D → Mem → Prop, (∀ i acc M', I i acc M' → P M' ∧ acc.length ≤ i) ∧ ds.length ≤ 1000000 ∧ I 0 [] M1 ∧
      (∀ (i : Nat) d acc M' L, ds[i]? = some d → I i acc M' → M' L = none → G3 B g d (wipe3 σ vs) (mput M' L (.lst acc)) (fun σ2 M2 => W3t B tt σ2 M2 (fun b M3 =>
        if b = true then W3e B te σ2 M3 (fun y M4 => ∃ M5, M4 = mput M5 L (.lst acc) ∧ M5 L = none ∧ I (i + 1) (acc ++ [y]) M5) else ∃ M5, M3 = mput M5 L (.lst acc) ∧ M5 L = none ∧ I (i + 1) acc M5))) ∧
      (∀ acc M', I ds.length acc M' → Q (.lst acc) M'))) :
    W3e B (tLc wi g tt te vs) σ M Q := fun F σv H Qv b hs st k =>
  h F σv H _ b hs st fun F1 M1 J ds P H1 e1 st1 ⟨G, Y, w, hG, hY, hX⟩ ⟨I, hP, hl, h0, turn, fin⟩ L hL =>
    lc_it w (fun i H' => ∃ F' M' acc, Ex F1 F' ∧ M' L = none ∧ St3 F' (mput M' L (.lst acc)) H' ∧ I i acc M')
      ⟨F1, M1, [], Ex.refl _, (st1.nn hL).2, st1.newO (d := .lst []) hL ⟨[], rfl, rfl⟩, h0⟩
      (fun i H' _ ⟨F', M', acc, e, n, t, q⟩ => hG F' _ H' e t (hX M' L _ n (hP i acc M' q).1))
      (fun i x H' H'' hi ⟨F', M', acc, e, n, t, q⟩ y => by
        have hd : ds[i]? = some ds[i] := by simp [hi]
        obtain ⟨F2, e2, t2, rd⟩ := hY i _ x H' H'' F' _ hd e t (hX M' L _ n (hP i acc M' q).1) y
        have main := turn i _ acc M' L hd q n F2 (L2.wipe σv vs) H'' x (fun σ2 H2 => tt σ2 H2 fun b H3 => if b = true then te σ2 H3 fun y H4 => ∃ acc, H4 L = some (.lst acc) ∧ acc.length < sizeLine ∧ (∃ F' M' acc', Ex F1 F' ∧ M' L = none ∧ St3 F' (mput M' L (.lst acc')) (upd H4 L (.lst (acc ++ [y]))) ∧ I (i + 1) acc' M') else (∃ F' M' acc', Ex F1 F' ∧ M' L = none ∧ St3 F' (mput M' L (.lst acc')) H3 ∧ I (i + 1) acc' M'))
          (b.trans ((e1.trans e).trans e2)) (((hs.mono e1).mono (e.trans e2)).wipe vs) t2 rd fun F3 M3 σ3 σv3 H3 e3 s3 t3 q3 => ?_
        · exact hg x (L2.wipe σv vs) H'' _ _ (fun σ2 H2 w2 q2 => ⟨w2.trans wipe_wipe, q2⟩) main
        · refine q3 F3 σv3 H3 _ (b.trans (((e1.trans e).trans e2).trans e3)) s3 t3 fun F4 M4 c H4 e4 t4 q4 => ?_
          cases c with
          | false =>
            obtain ⟨M5, em, n5, i5⟩ := q4
            subst em
            exact ⟨F4, M5, acc, ((e.trans e2).trans e3).trans e4, n5, t4, i5⟩
          | true =>
            refine q4 F4 σv3 H4 _ (b.trans ((((e1.trans e).trans e2).trans e3).trans e4)) (s3.mono e4) t4 fun F5 M5' y v5 H5 e5 t5 r5 ⟨M5, em, n5, i5⟩ => ?_
            subst em
            obtain ⟨_, ho, h1, us, e6, rs⟩ := t5.own L _ mput_same
            subst e6
            have hlen := (hP i acc M' q).2
            refine ⟨us, h1, by rw [← rs.length]; exact Nat.lt_of_lt_of_le (Nat.lt_of_le_of_lt hlen hi) (Nat.le_trans hl (by decide)), F5, M5, acc ++ [y], (((e.trans e2).trans e3).trans e4).trans e5, n5, ?_, i5⟩
            have := t5.put (p := L) (d := .lst acc) (d' := .lst (acc ++ [y])) mput_same ⟨us ++ [v5], rfl, rs.snoc r5⟩
            rwa [mput_mput] at this)
      (fun H' ⟨F', M', acc, e, n, t, q⟩ => by
        obtain ⟨_, ho, h1, us, e6, rs⟩ := t.own L _ mput_same
        subst e6
        obtain ⟨t2, e2⟩ := t.freeze mput_same h1
        rw [mdel_mput n] at t2
        exact k _ M' (.lst acc) (.ref L) H' ((e1.trans e).trans e2) t2 ⟨L, us, rfl, upd_same, rs.mono e2⟩ (fin acc M' q))
/-- .. where nothing changes: filter and map -/
theorem w_lcP (p : D → Bool) (f : D → D) (hg : OwnG g vs) (h : W3i B wi σ M (fun ds P M1 => ds.length ≤ 1000000 ∧ P M1 ∧
      (∀ (i : Nat) d M', ds[i]? = some d → (∀ a o, M1 a = some o → M' a = some o) → G3 B g d (wipe3 σ vs) M' (fun σ2 M2 => M2 = M' ∧ W3t B tt σ2 M' (fun b M3 => M3 = M' ∧ b = p d ∧ (b = true → W3e B te σ2 M' (fun y M4 => M4 = M' ∧ y = f d))))) ∧
      Q (.lst ((ds.filter p).map f)) M1)) :
    W3e B (tLc wi g tt te vs) σ M Q := by
  refine w_lc hg fun F σv H R b hs st k => h F σv H R b hs st fun F' M' J ds P H' e s wd ⟨hl, hP, turn, q⟩ => k F' M' J ds P H' e s wd ?_
  refine ⟨fun i acc M2 => i ≤ ds.length ∧ M2 = M' ∧ acc = ((ds.take i).filter p).map f, fun i acc M2 ⟨hi, a, c⟩ => ⟨by rw [a]; exact hP, ?_⟩, hl, ⟨Nat.zero_le _, rfl, rfl⟩, fun i d acc M2 L hd ⟨hi, em, ea⟩ hL => ?_, fun acc M2 ⟨_, em, ea⟩ => ?_⟩
  · rw [c, List.length_map]
    exact Nat.le_trans (List.length_filter_le _ _) (by rw [List.length_take]; exact Nat.min_le_left _ _)
  · subst em
    have hlt : i < ds.length := (List.getElem?_eq_some_iff.mp hd).1
    have et : ds.take (i + 1) = ds.take i ++ [d] := by rw [List.take_add_one, hd]; rfl
    intro F2 σ2 H2 xv Qv b2 hs2 st2 rx kk
    refine turn i d _ hd (fun a o ha => by rw [mput_ne (mne ha hL)]; exact ha) F2 σ2 H2 xv Qv b2 hs2 st2 rx fun F3 M3 σ3 σv3 H3 e3 s3 t3 ⟨e4, q4⟩ => kk F3 M3 σ3 σv3 H3 e3 s3 t3 ?_
    subst e4
    refine q4.to fun c M4 ⟨e5, e6, q5⟩ => ?_
    subst e5
    cases c with
    | true =>
      refine (q5 rfl).to fun y M5 ⟨e7, e8⟩ => ?_
      subst e7
      refine ⟨M2, rfl, hL, hlt, rfl, ?_⟩
      rw [et, List.filter_append, List.map_append, ← ea, e8]
      simp [← e6]
    | false =>
      refine ⟨M2, rfl, hL, hlt, rfl, ?_⟩
      rw [et, List.filter_append, List.map_append, ← ea]
      simp [← e6]
  · rw [List.take_length] at ea
    subst em; subst ea
    exact q
end
end T3
set_option Elab.async false
set_option linter.all false
set_option maxRecDepth 100000
set_option maxHeartbeats 2000000
namespace T3
open PySem L2
open Evl (Ex)
/-! ### defs -/
abbrev EQ3 := Addr → D → Mem → Prop
abbrev NoE : EQ3 := fun _ _ _ => False
abbrev Sp3 := List D → Mem → DQ → EQ3 → Prop
def ImpE (F : Hp) (E3 : EQ3) (E : XK) : Prop := ∀ F' M' C d thing v H', Ex F F' → St3 F' M' H' → RD F' thing v → F' d = some (.xd [(("thing" : Str), v)]) → E3 C thing M' → E (.ref C) (some d) H'
theorem ImpE.mono {F F1 : Hp} {E3 : EQ3} {E : XK} (h : ImpE F E3 E) (e : Ex F F1) : ImpE F1 E3 E := fun F' M' C d t v H' a => h F' M' C d t v H' (e.trans a)
theorem impE0 {F : Hp} {E : XK} : ImpE F NoE E := fun _ _ _ _ _ _ _ _ _ _ _ h => h.elim
def lift3 (S : Sp3) : Sp := fun vs H Q E => ∃ (ds : List D) (F : Hp) (M : Mem) (Q3 : DQ) (E3 : EQ3), RDs F ds vs ∧ St3 F M H ∧ (∀ F' M' d v H', Ex F F' → St3 F' M' H' → RD F' d v → Q3 d M' → Q v H') ∧ ImpE F E3 E ∧ S ds M Q3 E3
theorem run3 {S : Sp3} {N : List Str} {vs : List V} {H : Hp} {Q : VK} {E : XK} {t : TS} (h : lift3 S vs H Q E)
    (k : ∀ B ds M Q3 E3, S ds M Q3 E3 → ImpE B E3 E → W3s B t { nx := fun _ M => Q3 .non M, rt := Q3 } (start3 N ds) M) : t { nx := fun _ H' => Q .non H', rt := Q } (L2.start N vs) H := by
  obtain ⟨ds, F, M, Q3, E3, r, st, hq, he, hs⟩ := h
  exact k F ds M Q3 E3 hs he F _ H _ (Ex.refl _) (SRel.start r) st ⟨fun F' M' σ' σv' H' e s t q => hq F' M' .non .non H' e t rfl q, hq, fun _ _ _ _ _ _ _ _ q => q.elim, fun _ _ _ _ _ _ _ _ q => q.elim⟩
theorem lift3_len {S : Sp3} {n : Nat} (h : ∀ ds M Q E, S ds M Q E → ds.length = n) : ∀ vs H Q E, lift3 S vs H Q E → vs.length = n := fun vs H Q E ⟨ds, F, M, Q3, E3, r, _, _, _, hs⟩ => by rw [← r.length]; exact h ds M Q3 E3 hs
section
variable {B : Hp} {M : Mem} {K : PySem.W.Frag} {σ : Sig} {t : TA} {ta tv te : TE} {Q : DQ} {S : Sp3} {E : XK} {E3 : EQ3} {dds : List D} {dvs : List V}
theorem lift_of {F : Hp} {H : Hp} {Qv : VK} {ds : List D} {vs : List V} (b : Ex B F) (st : St3 F M H) (r : RDs F ds vs) (hE : ImpE B E3 E) (k : ∀ F' M' d v H', Ex F F' → St3 F' M' H' → RD F' d v → Q d M' → Qv v H') (h : S ds M Q E3) : lift3 S vs H Qv E :=
  ⟨ds, F, M, Q, E3, r, st, k, hE.mono b, h⟩
theorem w_call (hd : ∀ F, RDs F dds dvs) (hE : ImpE B E3 E) (h : W3a B t σ M (fun ds M1 => S (ds ++ dds) M1 Q E3)) : W3e B (tCall (lift3 S) dvs E t) σ M Q := fun F σv H Qv b hs st k =>
  h F σv H _ b hs st fun F1 M1 ds vs H1 e1 st1 rx q => lift_of (b.trans e1) st1 (rx.append (hd F1)) hE (fun F2 M2 d v H2 e2 => k F2 M2 d v H2 (e1.trans e2)) q
theorem w_call0 (h : W3a B t σ M (fun ds M1 => S ds M1 Q NoE)) : W3e B (tCall (lift3 S) [] E t) σ M Q := fun F σv H Qv b hs st k =>
  h F σv H _ b hs st fun F1 M1 ds vs H1 e1 st1 rx q => lift_of (b.trans e1) st1 (by rw [List.append_nil]; exact rx) impE0 (fun F2 M2 d v H2 e2 => k F2 M2 d v H2 (e1.trans e2)) q
/-- an instance: frozen, or owned -/
def InsD (M : Mem) (x : D) (C : Addr) (fs : List (Str × D)) : Prop := x = .ins C (fs.map (·.1)) (fs.map (·.2)) ∨ ∃ a, x = .ref a ∧ M a = some (.ins C fs)
theorem pkv_of {F : Hp} : ∀ {fs : List (Str × D)} {vs : List V}, RDs F (fs.map (·.2)) vs → PKV F fs ((fs.map (·.1)).zip vs)
  | [], _, h => by rw [show _ = [] from h]; exact .nil
  | a :: r, _, ⟨v, us, e, h1, h2⟩ => by subst e; exact .cons ⟨rfl, h1⟩ (pkv_of h2)
theorem InsD.at {x : D} {C : Addr} {fs : List (Str × D)} {F H : Hp} {v : V} (h : InsD M x C fs) (st : St3 F M H) (r : RD F x v) : ∃ a dx fv, v = .ref a ∧ H a = some (.ins C dx fv) ∧ PKV F fs fv := by
  rcases h with e | ⟨a, e, h⟩
  · subst e
    obtain ⟨a, dx, vs, e1, h1, hl, rs⟩ := r
    exact ⟨a, dx, _, e1, st.fz a _ h1, pkv_of rs⟩
  · subst e
    obtain ⟨_, ho, h1, dx, fv, e2, rs⟩ := st.own a _ h
    subst e2
    exact ⟨a, dx, fv, r, h1, rs⟩
theorem pkv_look {F : Hp} {f : Str} : ∀ {fs : List (Str × D)} {fv : List (Str × V)}, PKV F fs fv → (∀ {d : D}, fs.lookup f = some d → ∃ v, fv.lookup f = some v ∧ RD F d v) ∧ (fs.lookup f = none → fv.lookup f = none)
  | _, _, .nil => ⟨fun {d} h => (by cases h), fun _ => rfl⟩
  | (g, d) :: r, (g', v) :: rv, .cons h t => by
    have e : g = g' := h.1
    subst e
    obtain ⟨i1, i2⟩ := pkv_look (f := f) t
    constructor
    · intro d' hd
      by_cases q : f = g
      · subst q
        rw [List.lookup_cons_self] at hd ⊢
        cases hd
        exact ⟨v, rfl, h.2⟩
      · have qb : (f == g) = false := beq_eq_false_iff_ne.mpr q
        rw [List.lookup_cons, qb] at hd ⊢
        exact i1 hd
    · intro hd
      by_cases q : f = g
      · subst q; rw [List.lookup_cons_self] at hd; cases hd
      · have qb : (f == g) = false := beq_eq_false_iff_ne.mpr q
        rw [List.lookup_cons, qb] at hd ⊢
        exact i2 hd
def putD (f : Str) (v : D) : List (Str × D) → List (Str × D)
  | [] => [(f, v)]
  | (g, x) :: r => if g = f then (g, v) :: r else (g, x) :: putD f v r
theorem pkv_put {F : Hp} {f : Str} {d : D} {v : V} (rd : RD F d v) : ∀ {fs : List (Str × D)} {fv : List (Str × V)}, PKV F fs fv → PKV F (putD f d fs) (putF f v fv)
  | _, _, .nil => .cons ⟨rfl, rd⟩ .nil
  | (g, d') :: r, (g', v') :: rv, .cons h t => by
    have e : g = g' := h.1
    subst e
    show PKV F (if g = f then (g, d) :: r else (g, d') :: putD f d r) (if g = f then (g, v) :: rv else (g, v') :: putF f v rv)
    by_cases q : g = f
    · rw [if_pos q, if_pos q]; exact .cons ⟨rfl, rd⟩ t
    · rw [if_neg q, if_neg q]; exact .cons h (pkv_put rd t)
theorem w_fld {f : Str} (h : W3e B ta σ M (fun x M1 => ∃ C fs d, InsD M1 x C fs ∧ Cls K C ∧ NoAttr K C f ∧ fs.lookup f = some d ∧ Q d M1)) : W3e B (tFld K ta f) σ M Q := fun F σv H Qv b hs st k =>
  h F σv H _ b hs st fun F1 M1 x xv H1 e1 st1 rx ⟨C, fs, d, hi, c, n, l, q⟩ => by
    obtain ⟨a, dx, fv, ev, ha, pk⟩ := hi.at st1 rx
    obtain ⟨v, hv, rv⟩ := (pkv_look pk).1 l
    exact ⟨a, C, dx, fv, v, ev, ha, c, n, hv, k F1 M1 d v H1 e1 st1 rv q⟩
theorem pkv_len {F : Hp} {fs : List (Str × D)} {fv : List (Str × V)} (h : PKV F fs fv) : fs.length = fv.length := by
  have := congrArg List.length h.fst
  simpa using this
theorem s_fld {f : Str} {D3 : Ends3} (h : W3e B tv σ M (fun y M1 => W3e B ta σ M1 (fun x M2 => ∃ a C fs, x = .ref a ∧ M2 a = some (.ins C fs) ∧ Cls K C ∧ NoAttr K C f ∧ fs.length < 1000 ∧ D3.nx σ (mput M2 a (.ins C (putD f y fs)))))) : W3s B (sFld K ta tv f) D3 σ M := fun F σv H Dv b hs st im =>
  h F σv H _ b hs st fun F1 M1 y yv H1 e1 st1 ry q1 => q1 F1 σv H1 _ (b.trans e1) (hs.mono e1) st1 fun F2 M2 x xv H2 e2 st2 rx ⟨a, C, fs, ex, hm, c, n, l, q⟩ => by
    subst ex
    obtain ⟨_, ho, h1, dx, fv, e3, pk⟩ := st2.own a _ hm
    subst e3
    exact ⟨a, C, dx, fv, rx, h1, c, n, by rw [← pkv_len pk]; exact l, im.nx F2 _ σ σv _ (e1.trans e2) ((hs.mono e1).mono e2) (st2.put hm (d' := .ins C (putD f y fs)) ⟨dx, _, rfl, pkv_put (ry.mono e2) pk⟩) q⟩
theorem w_meth {C : Addr} {m : Str} (hd : ∀ F, RDs F dds dvs) (hE : ImpE B E3 E) (h : W3e B ta σ M (fun x M1 => ∃ fs, InsD M1 x C fs ∧ fs.lookup m = none ∧ W3a B t σ M1 (fun ds M2 => S (x :: (ds ++ dds)) M2 Q E3))) : W3e B (tMeth C m (lift3 S) dvs E ta t) σ M Q := fun F σv H Qv b hs st k =>
  h F σv H _ b hs st fun F1 M1 x xv H1 e1 st1 rx ⟨fs, hi, l, q1⟩ => by
    obtain ⟨a, dx, fv, ev, ha, pk⟩ := hi.at st1 rx
    refine ⟨a, dx, fv, ev, ha, (pkv_look pk).2 l, q1 F1 σv H1 _ (b.trans e1) (hs.mono e1) st1 fun F2 M2 ds vs H2 e2 st2 rs q2 => ?_⟩
    exact lift_of (ds := x :: (ds ++ dds)) ((b.trans e1).trans e2) st2 ⟨xv, _, rfl, rx.mono e2, rs.append (hd F2)⟩ hE (fun F3 M3 d v H3 e3 => k F3 M3 d v H3 ((e1.trans e2).trans e3)) q2
theorem w_meth0 {C : Addr} {m : Str} (h : W3e B ta σ M (fun x M1 => ∃ fs, InsD M1 x C fs ∧ fs.lookup m = none ∧ W3a B t σ M1 (fun ds M2 => S (x :: ds) M2 Q NoE))) : W3e B (tMeth C m (lift3 S) [] E ta t) σ M Q :=
  w_meth (dds := []) (fun _ => rfl) impE0 (h.to fun x M1 ⟨fs, a, b, c⟩ => ⟨fs, a, b, fun F σv H Qv bb hs st k => c F σv H Qv bb hs st fun F' M' ds vs H' e s r q => k F' M' ds vs H' e s r (by show S (x :: (ds ++ [])) M' Q NoE; rw [List.append_nil]; exact q)⟩)
theorem w_make {C : Addr} (hd : ∀ F, RDs F dds dvs) (hE : ImpE B E3 E) (h : W3a B t σ M (fun ds M1 => ∀ p, M1 p = none → S (.ref p :: (ds ++ dds)) (mput M1 p (.ins C [])) (fun d M2 => d = .non ∧ Q (.ref p) M2) E3)) : W3e B (tMake C (lift3 S) dvs E t) σ M Q := fun F σv H Qv b hs st k =>
  h F σv H _ b hs st fun F1 M1 ds vs H1 e1 st1 rx q x dx hx hdx hne => by
    have hx2 : (upd H1 dx (.own x)) x = none := by rw [upd_ne (Ne.symm hne)]; exact hx
    have s1 : St3 F1 M1 (upd H1 dx (.own x)) := by
      obtain ⟨f0, m0⟩ := st1.nn hdx
      refine ⟨fun a u e => ?_, fun a u e => ?_⟩
      · rw [upd_ne (ne_of_none e f0)]; exact st1.fz a u e
      · obtain ⟨y1, ho, y2, y3⟩ := st1.own a u e
        exact ⟨y1, ho, by rw [upd_ne (mne e m0)]; exact y2, y3⟩
    have s2 := s1.newO (p := x) (o := .ins C dx []) (d := .ins C []) hx2 ⟨dx, [], rfl, .nil⟩
    exact lift_of (ds := .ref x :: (ds ++ dds)) (b.trans e1) s2 ⟨.ref x, _, rfl, rfl, rx.append (hd F1)⟩ hE (fun F3 M3 d v H3 e3 s3 r3 ⟨ed, q3⟩ => by
      subst ed
      exact ⟨r3, k F3 M3 (.ref x) (.ref x) H3 (e1.trans e3) s3 rfl q3⟩) (q x (st1.nn hx).2)
end
end T3
set_option Elab.async false
set_option linter.all false
set_option maxRecDepth 100000
set_option maxHeartbeats 2000000
namespace T3
open PySem L2
open Evl (Ex)
/-- truth by value -/
def truD (M : Mem) (x : D) (k : Bool) : Prop := match x with
  | .non => k = false
  | .bl b => k = b
  | .int i => k = (i != 0)
  | .str y => y.length ≤ 1000000 ∧ k = ((y.length : Int) != 0)
  | .lst ds => k = !ds.isEmpty
  | .tup ds => k = !ds.isEmpty
  | .ref a => ∃ ds, M a = some (.lst ds) ∧ k = !ds.isEmpty
  | _ => False
theorem RDs.emp {F : Hp} : ∀ {ds : List D} {vs : List V}, RDs F ds vs → (!ds.isEmpty) = !vs.isEmpty
  | [], vs, h => by rw [show vs = [] from h]; rfl
  | _ :: _, _, ⟨v, r, e, _, _⟩ => by rw [e]; rfl
section
variable {B : Hp} {M : Mem} {K : PySem.W.Frag} {σ : Sig} {te ta tb : TE}
abbrev tTR (K : PySem.W.Frag) (ta : TE) : TT := fun σ H Q => ta σ H fun x H' => ∃ k, TruV K x H' k ∧ Q k H'
theorem truD_at {F H : Hp} {x : D} {v : V} {k : Bool} (st : St3 F M H) (r : RD F x v) (h : truD M x k) : TruV K v H k := by
  cases x with
  | non => rw [show v = _ from r]; exact h
  | bl b => rw [show v = _ from r]; exact h
  | int b => rw [show v = _ from r]; exact h
  | str b => rw [show v = _ from r]; exact ⟨Nat.le_trans h.1 (by decide), h.2⟩
  | lst ds => obtain ⟨a, vs, e1, h1, rs⟩ := r; rw [e1]; exact .inl ⟨vs, .inl (.inl (st.fz a _ h1)), by rw [← rs.emp]; exact h⟩
  | tup ds => obtain ⟨a, vs, e1, h1, rs⟩ := r; rw [e1]; exact .inr (.inl ⟨vs, .inl (.inl (st.fz a _ h1)), by rw [← rs.emp]; exact h⟩)
  | ref a =>
    obtain ⟨ds, hm, e⟩ := h
    obtain ⟨_, ho, h1, vs, e2, rs⟩ := st.own a _ hm
    subst e2
    rw [show v = _ from r]
    exact .inl ⟨vs, .inl (.inl h1), by rw [← rs.emp]; exact e⟩
  | ty _ => exact h.elim
  | ins _ _ _ => exact h.elim
theorem w_tr {Q : Bool → Mem → Prop} (h : W3e B ta σ M (fun x M1 => ∃ k, truD M1 x k ∧ Q k M1)) : W3t B (tTR K ta) σ M Q := fun F σv H Qv b hs st k =>
  h F σv H _ b hs st fun F1 M1 x xv H1 e1 st1 rx ⟨c, hc, q⟩ => ⟨c, truD_at st1 rx hc, k F1 M1 c H1 e1 st1 q⟩
theorem w_chain {r r' : R2} {tc : TE} {Q : DQ} (h : W3e B ta σ M (fun x M1 => W3e B tb σ M1 (fun y M2 => R3 B r x y M2 (fun z M3 => ∃ c, z = .bl c ∧ if c = true then W3e B tc σ M3 (fun w M4 => R3 B r' y w M4 Q) else Q (.bl false) M3)))) : W3e B (tChain r r' ta tb tc) σ M Q := fun F σv H Qv b hs st k =>
  h F σv H _ b hs st fun F1 M1 x xv H1 e1 st1 rx q1 => q1 F1 σv H1 _ (b.trans e1) (hs.mono e1) st1 fun F2 M2 y yv H2 e2 st2 ry q2 =>
    q2 F2 H2 xv yv _ ((b.trans e1).trans e2) st2 (rx.mono e2) ry fun F3 M3 z zv H3 e3 st3 rz ⟨c, ez, q3⟩ => by
      subst ez
      refine ⟨c, rz, ?_⟩
      cases c with
      | true =>
        show tc σv H3 fun w' H4 => r' yv w' H4 Qv
        exact q3 F3 σv H3 _ (((b.trans e1).trans e2).trans e3) (((hs.mono e1).mono e2).mono e3) st3 fun F4 M4 w wv H4 e4 st4 rw q4 =>
          q4 F4 H4 yv wv Qv ((((b.trans e1).trans e2).trans e3).trans e4) st4 ((ry.mono e3).mono e4) rw fun F5 M5 d v H5 e5 st5 r5 q5 => k F5 M5 d v H5 ((((e1.trans e2).trans e3).trans e4).trans e5) st5 r5 q5
      | false => exact k F3 M3 (.bl false) _ H3 ((e1.trans e2).trans e3) st3 rfl q3
/-- xs[i] = v, xs owned -/
theorem g_set {x : D} {Q : Sig → Mem → Prop} (h : W3e B ta σ M (fun o M1 => W3e B tb σ M1 (fun i M2 => ∃ a ds n j, o = .ref a ∧ i = .int n ∧ M2 a = some (.lst ds) ∧ ixN ds.length n = some j ∧ Q σ (mput M2 a (.lst (ds.set j x)))))) : G3 B (gSub ta tb rSetL) x σ M Q := fun F σv H xv Qv b hs st rx k =>
  h F σv H _ b hs st fun F1 M1 o ov H1 e1 st1 ro q1 => q1 F1 σv H1 _ (b.trans e1) (hs.mono e1) st1 fun F2 M2 i iv H2 e2 st2 ri ⟨a, ds, n, j, eo, ei, hm, hj, q⟩ => by
    subst eo; subst ei
    obtain ⟨_, ho, h1, vs, e3, rs⟩ := st2.own a _ hm
    subst e3
    exact ⟨a, vs, n, j, ro, ri, h1, by rw [← rs.length]; exact hj, k F2 _ σ σv _ (e1.trans e2) ((hs.mono e1).mono e2) (st2.put hm (d' := .lst (ds.set j x)) ⟨_, rfl, rs.set j ((rx.mono e1).mono e2)⟩) q⟩
theorem okD_int {n : Nat} {i : Int} : okD n (.int i) = true := by cases n <;> rfl
theorem okD_bl {n : Nat} {i : Bool} : okD n (.bl i) = true := by cases n <;> rfl
theorem okD_non {n : Nat} : okD n .non = true := by cases n <;> rfl
theorem okD_str {n : Nat} {s : Str} (h : s.cps.all (· < 0x110000) = true) : okD n (.str s) = true := by cases n <;> exact h
end
section
variable {B : Hp} {M : Mem} {Q : DQ} {σ : Sig} {i j : Int} {K : PySem.W.Frag}
theorem w_cI (q : Q (.int i) M) : W3e B (tC (.int i)) σ M Q := w_c q
theorem w_cB {b : Bool} (q : Q (.bl b) M) : W3e B (tC (.bl b)) σ M Q := w_c q
theorem w_cS {s : Str} (q : Q (.str s) M) : W3e B (tC (.str s)) σ M Q := w_c q
theorem w_cN (q : Q .non M) : W3e B (tC .non) σ M Q := w_c q
theorem w_cT {n : String} (q : Q (.ty n) M) : W3e B (tC (.ty n)) σ M Q := w_c q
theorem w_cR {a : Addr} (q : Q (.ref a) M) : W3e B (tC (.ref a)) σ M Q := w_c q
theorem r3_sub (q : Q (.int (i - j)) M) : R3 B (rI0 fun i j => .int (i - j)) (.int i) (.int j) M Q := r3_I0 q
theorem r3_lt (q : Q (.bl (decide (i < j))) M) : R3 B (rI0 fun i j => .bl (decide (i < j))) (.int i) (.int j) M Q := r3_I0 q
theorem r3_le (q : Q (.bl (decide (i ≤ j))) M) : R3 B (rI0 fun i j => .bl (decide (i ≤ j))) (.int i) (.int j) M Q := r3_I0 q
theorem r3_gt (q : Q (.bl (decide (j < i))) M) : R3 B (rI0 fun i j => .bl (decide (j < i))) (.int i) (.int j) M Q := r3_I0 q
theorem r3_ge (q : Q (.bl (decide (j ≤ i))) M) : R3 B (rI0 fun i j => .bl (decide (j ≤ i))) (.int i) (.int j) M Q := r3_I0 q
theorem r3_mul (h : CMulW i j) (q : Q (.int (i * j)) M) : R3 B (rI CMulW fun i j => .int (i * j)) (.int i) (.int j) M Q := r3_I h q
theorem r3_mod (h : 0 < j) (q : Q (.int (i % j)) M) : R3 B (rI (fun _ j => j ≠ 0) fun i j => .int (i.fmod j)) (.int i) (.int j) M Q := r3_I (d := .int (i.fmod j)) (by omega) (by rw [Int.fmod_eq_emod_of_nonneg _ (by omega)]; exact q)
theorem r3_fdiv (h : 0 < j) (h2 : j.natAbs < 2 ^ 400) (q : Q (.int (i / j)) M) : R3 B (rI CDivW fun i j => .int (i / j)) (.int i) (.int j) M Q := r3_I ⟨h, Nat.lt_of_lt_of_le (PySem.Flt.log2_lt_of (by decide) h2) (by decide)⟩ q
theorem r3_pow (h : CPow i j) (q : Q (.int (i ^ j.toNat)) M) : R3 B (rI CPow fun i j => .int (i ^ j.toNat)) (.int i) (.int j) M Q := r3_I h q
theorem u3_neg (q : Q (.int (-i)) M) : U3 B (rU fun i => .int (-i)) (.int i) M Q := u3_I q
theorem at3 {α : Type} {xs : List α} {z : Int} {j : Nat} {v : α} (e : z = (j : Int)) (h : xs[j]? = some v) : atI xs z = some v := by rw [e]; exact atI_nat h
/-- both factors below 2 ^ 400 -/
theorem mulW {i j : Int} (hi : i.natAbs < 2 ^ 400) (hj : j.natAbs < 2 ^ 400) : CMulW i j := wide_mul hi hj (by decide) (by decide) (by decide)
end
section
variable {B : Hp} {ta tb te : TE} {ts tu : TS} {tA tB' : TT} {σ : Sig} {M : Mem} {Q : DQ} {D3 : Ends3}
theorem w_orP {a b : Bool} (h1 : W3e B ta σ M (fun x M1 => x = .bl a ∧ M1 = M)) (h2 : a = false → W3e B tb σ M (fun x M1 => x = .bl b ∧ M1 = M)) (q : Q (.bl (a || b)) M) : W3e B (tOrV ta tb) σ M Q :=
  w_orV (h1.to fun d M1 ⟨e1, e2⟩ => ⟨a, e1, by
    subst e2
    cases a with
    | true => exact q
    | false => exact (h2 rfl).to fun d M2 ⟨e3, e4⟩ => by subst e3; subst e4; exact q⟩)
theorem w_andP {a b : Bool} (h1 : W3e B ta σ M (fun x M1 => x = .bl a ∧ M1 = M)) (h2 : a = true → W3e B tb σ M (fun x M1 => x = .bl b ∧ M1 = M)) (q : Q (.bl (a && b)) M) : W3e B (tAndV ta tb) σ M Q :=
  w_andV (h1.to fun d M1 ⟨e1, e2⟩ => ⟨a, e1, by
    subst e2
    cases a with
    | false => exact q
    | true => exact (h2 rfl).to fun d M2 ⟨e3, e4⟩ => by subst e3; subst e4; exact q⟩)
theorem w_andTP {a b : Bool} {Q : Bool → Mem → Prop} (h1 : W3t B tA σ M (fun x M1 => x = a ∧ M1 = M)) (h2 : a = true → W3t B tB' σ M (fun x M1 => x = b ∧ M1 = M)) (q : Q (a && b) M) : W3t B (tAnd tA tB') σ M Q :=
  w_andT (h1.to fun d M1 ⟨e1, e2⟩ => by
    subst e1; subst e2
    cases d with
    | false => exact q
    | true => exact (h2 rfl).to fun d M2 ⟨e3, e4⟩ => by subst e3; subst e4; exact q)
theorem w_orTP {a b : Bool} {Q : Bool → Mem → Prop} (h1 : W3t B tA σ M (fun x M1 => x = a ∧ M1 = M)) (h2 : a = false → W3t B tB' σ M (fun x M1 => x = b ∧ M1 = M)) (q : Q (a || b) M) : W3t B (tOr tA tB') σ M Q :=
  w_orT (h1.to fun d M1 ⟨e1, e2⟩ => by
    subst e1; subst e2
    cases d with
    | true => exact q
    | false => exact (h2 rfl).to fun d M2 ⟨e3, e4⟩ => by subst e3; subst e4; exact q)
theorem s_seqM (Mid : Sig → Mem → Prop) (h : W3s B ts { D3 with nx := Mid } σ M) (k : ∀ σ M, Mid σ M → W3s B tu D3 σ M) : W3s B (tSeq ts tu) D3 σ M :=
  s_seq (h.to (fun σ M z => k σ M z) (fun _ _ z => z) (fun _ _ z => z) (fun _ _ z => z))
theorem iteB {c : Bool} {P R : Prop} (h1 : c = true → P) (h2 : c = false → R) : if c = true then P else R := by
  cases c with
  | true => exact h1 rfl
  | false => exact h2 rfl
end
end T3
set_option Elab.async false
set_option linter.all false
set_option maxRecDepth 100000
set_option maxHeartbeats 2000000
namespace L2
open PySem PySem.Spec PyProof.Rows
/-- l.count(x) -/
def rCountD (K : PySem.W.Frag) : V → List V → Hp → VK → Prop := fun x xs H Q => ∃ (a : Addr) (y : V) (d : PyData) (ds : List PyData), x = V.ref a ∧ xs = [y] ∧ Dp K H (V.ref a) (.list ds) ∧ Dp K H y d ∧
  SeqAt.shaped (.list ds) = true ∧ SeqAt.shaped d = true ∧ Q (.int ((ds.countP fun z => PyData.eqv z d : Nat))) H
/-- l.remove(x), x is there -/
def rRemoveD (K : PySem.W.Frag) : V → List V → Hp → VK → Prop := fun x xs H Q => ∃ (a : Addr) (us : List V) (y : V) (d : PyData) (ds : List PyData) (j : Nat) (z : PyData), x = V.ref a ∧ xs = [y] ∧ H a = some (.lst us) ∧ DpAll K H us ds ∧ Dp K H y d ∧
  SeqAt.shaped (.list ds) = true ∧ SeqAt.shaped d = true ∧ ds[j]? = some z ∧ PyData.eqv z d = true ∧ (∀ (m : Nat) (z' : PyData), m < j → ds[m]? = some z' → PyData.eqv z' d = false) ∧ Q .non (upd H a (.lst (us.eraseIdx j)))
section
variable {X : Cx}
theorem mt_countD (hu : X.A.units + 65 < cLine) : MtR X "list.count" (rCountD X.K) := by
  intro pins s σ H x xs v us Q I rx rxs h
  obtain ⟨a, y, d, ds, rfl, rfl, hl, hy, sl, sd, q⟩ := h
  cases rx
  cases rxs with
  | cons ry rt =>
    rename_i uy ut
    cases rt
    obtain ⟨bs, r1⟩ := Dp.reads I d y uy hy ry
    have hxs : PyData.canLayAll0 ds = true := SeqAt.canLay_of_shaped sl
    have hroom : X.A.units + 1 + min (PyData.depthAll ds) d.depth < cLine := room_in_shaped sd hu
    cases hl with
    | lst hs ha =>
      obtain ⟨its, rv, ⟨⟨cls, dd, data, sls⟩, n, ho, hc, hdn, hdt⟩, hlen⟩ := I.list hs
      simp only at hc hdt
      subst hc hdt
      obtain ⟨as, h4⟩ := Dp.readsAll I ds _ its ha rv
      have hmap : its.map (SeqAt.readOf s.heap) = ds := SeqAt.readsAll_map ds its as hxs h4
      refine call_meets PySem.F.slot_list_count ⟨_, ho, rfl⟩ PySem.F.entry_list_count (PySem.F.args_list_count_2 _ _)
        (SeqAt.list_countAt a its.toArray n dd sls uy (fun u => PyData.eqv (SeqAt.readOf s.heap u) d)) ⟨ho, SeqAt.items_eqAt (vs := its.toArray) (show ReadsAll s.heap its.toArray.toList ds as from h4) r1 hxs (SeqAt.canLay_of_shaped sd) hroom, ?_⟩
      have ec : List.countP (fun u => PyData.eqv (SeqAt.readOf s.heap u) d) its.toArray.toList = ds.countP fun z => PyData.eqv z d := by
        rw [← hmap, List.countP_map]; rfl
      rw [ec]
      exact ⟨.int (_ : Nat), H, I.tok _, ⟨_, rfl⟩, q⟩
theorem mt_removeD (hu : X.A.units + 65 < cLine) : MtR X "list.remove" (rRemoveD X.K) := by
  intro pins s σ H x xs v us Q I rx rxs h
  obtain ⟨a, vs, y, d, ds, j, z, rfl, rfl, hH, ha, hy, sl, sd, hz, hzj, hno, q⟩ := h
  cases rx
  cases rxs with
  | cons ry rt =>
    rename_i uy ut
    cases rt
    obtain ⟨bs, r1⟩ := Dp.reads I d y uy hy ry
    have hxs : PyData.canLayAll0 ds = true := SeqAt.canLay_of_shaped sl
    have hroom : X.A.units + 1 + min (PyData.depthAll ds) d.depth < cLine := room_in_shaped sd hu
    obtain ⟨hlen, its, n, rv, ho⟩ := I.hok a _ hH
    obtain ⟨as, h4⟩ := Dp.readsAll I ds _ its ha rv
    have hn : its.length = ds.length := SeqAt.ReadsAll.length ds its as h4
    have hmap : its.map (SeqAt.readOf s.heap) = ds := SeqAt.readsAll_map ds its as hxs h4
    have hvl := rv.length
    obtain ⟨hjd, _⟩ := List.getElem?_eq_some_iff.mp hz
    have hjl : j < its.length := by omega
    have hj : j < its.toArray.size := by simpa using hjl
    have at_ : ∀ (m : Nat) (hm : m < its.toArray.size) (z' : PyData), ds[m]? = some z' → SeqAt.readOf s.heap its.toArray[m] = z' := by
      intro m hm z' hz'
      have hml : m < its.length := by simpa using hm
      rw [← hmap, List.getElem?_map, List.getElem?_eq_getElem hml] at hz'
      have e1 : SeqAt.readOf s.heap its[m] = z' := Option.some.inj (show some (SeqAt.readOf s.heap its[m]) = some z' from hz')
      simpa using e1
    refine call_meets PySem.F.slot_list_remove ⟨_, ho, rfl⟩ PySem.F.entry_list_remove (PySem.F.args_list_remove_2 _ _)
      (SeqAt.list_removeAt a its.toArray n none #[] uy (fun u => PyData.eqv (SeqAt.readOf s.heap u) d) j hj ?_ ?_ (by simp; omega)) ⟨ho, SeqAt.items_eqAt (vs := its.toArray) (show ReadsAll s.heap its.toArray.toList ds as from h4) r1 hxs (SeqAt.canLay_of_shaped sd) hroom, ?_⟩
    · show PyData.eqv (SeqAt.readOf s.heap its.toArray[j]) d = true
      rw [at_ j hj z hz]
      exact hzj
    · intro m hm hmj
      have hmd : m < ds.length := by omega
      have hz' : ds[m]? = some ds[m] := List.getElem?_eq_getElem hmd
      show PyData.eqv (SeqAt.readOf s.heap its.toArray[m]) d = false
      rw [at_ m hm _ hz']
      exact hno m _ hmj hz'
    · refine ⟨.non, _, I.lstUpd (its' := its.eraseIdx j) (n' := n + 1) hH ho ?_ (rv.eraseIdx j) (Nat.le_trans (List.length_eraseIdx_le ..) hlen) _, rfl, q⟩
      simp [Obj.mapSeq, Array.eraseIdxIfInBounds, hjl]
      rw [List.length_eraseIdx_of_lt hjl]; omega
end
end L2
set_option Elab.async false
set_option linter.all false
set_option maxRecDepth 100000
set_option maxHeartbeats 2000000
namespace L2
open PySem PySem.Spec PyProof.Rows
/-! ### isinstance of a tracked exception, its field -/
structure ExcX (K : PySem.W.Frag) (D : Addr) : Prop where
  cl : (PySem.W.clsIn K D).isSome = true
  ga : PySem.W.findIn K (.ref D) "__getattribute__" = some (some (.builtin "BaseException.__getattribute__"))
  gg : PySem.W.findIn K (.ref D) "__getattr__" = some none
  hs : PySem.W.subIn K (.ref D) (.type "BaseException") = some true
  ha : PySem.W.findIn K (.ref D) "__class__" = some (some (.builtin "object.__class__"))
  hn : PySem.W.specialIn K (.builtin "object.__class__") "__get__" = some (some (.builtin "getset_descriptor.__get__"))
  ht : PySem.W.takesIn K (.builtin "object.__class__") = some true
  hm : PySem.W.mroIn K D (.type "object") = some true
  hd : PySem.W.hasDictIn K D = true
  no : PySem.W.findIn K (.ref D) "thing" = some none
/-- the exception at a, of the class D, with the dict at dd -/
def ExAt (H : Hp) (a D dd : Addr) (fs : List (Str × V)) : Prop := H a = some (EXO a (.ref D) (some dd)) ∧ H dd = some (.xd fs)
def rIsX (K : PySem.W.Frag) : List V → Hp → VK → Prop := fun xs H Q => ∃ (a D dd : Addr) (fs : List (Str × V)) (c : V) (cv : Value) (b : Bool), xs = [.ref a, c] ∧ ExAt H a D dd fs ∧ ExcX K D ∧ ClsV c cv ∧ PySem.W.kitOne K (.ref D) cv = some b ∧ Q (.bl b) H
def rISI (K : PySem.W.Frag) : List V → Hp → VK → Prop := fun xs H Q => rIsi K xs H Q ∨ rIsX K xs H Q
section
variable {X : Cx}
theorem exAt_inst {pins : List (Addr × Obj)} {σ : St} {H : Hp} {s : Shared} {a D dd : Addr} {fs : List (Str × V)} (I : Inv X pins σ H s) (e : ExAt H a D dd fs) :
    ∃ oe od, PySem.W.InstAt s.heap a oe D (some od) ∧ (∃ mA, s.heap.Ns1 dd mA ∧ ∀ f, RelO (fs.lookup f) (mA f)) ∧ s.heap.get? dd = some od ∧ oe.dict = some dd := by
  obtain ⟨oe, vs, h1, h2, h3, h4⟩ := exo_of I.hok e.1
  have hx : ObjOk X.prog X.w H s.heap dd (.xd fs) := I.hok dd _ e.2
  obtain ⟨mA, hns, hr⟩ := hx
  obtain ⟨od, ho, hl⟩ := lookIn_ns hns
  exact ⟨oe, od, ⟨h1, h2, by unfold PySem.W.notCls; rw [h4] <;> rfl, by rw [h3]; exact ho⟩, ⟨mA, hns, hr⟩, ho, h3⟩
theorem call_isX : CallR X (.builtin "isinstance") (rIsX X.K) := by
  intro pins s σ H xs us Q I r h
  obtain ⟨a, D, dd, fs, c, cv, b, rfl, hx, C, hc, e, q⟩ := h
  obtain ⟨u1, u2, rfl, r1, r2⟩ := vals2 r
  cases (show u1 = Value.ref a from r1)
  have e2 := hc.eq r2
  subst e2
  obtain ⟨oe, od, J, _⟩ := exAt_inst I hx
  exact PySem.W.kia_one (PySem.W.kitx_exc C.cl C.ga C.gg C.hs C.ha C.hn C.ht C.hm) I.kIn J e (fun z => nomatch z) fun tk => ⟨.bl b, H, I.kept (t' := tk) fun _ _ z => z, rfl, q⟩
theorem call_ISI : CallR X (.builtin "isinstance") (rISI X.K) := by
  intro pins s σ H xs us Q I r h
  rcases h with h | h
  · exact call_isi pins s σ H xs us Q I r h
  · exact call_isX pins s σ H xs us Q I r h
def tThing (K : PySem.W.Frag) (te : TE) : TE := fun σ H Q => te σ H fun x H1 => ∃ (a D dd : Addr) (v : V), x = .ref a ∧ ExAt H1 a D dd [(("thing" : Str), v)] ∧ ExcX K D ∧ Q v H1
theorem pe_thing {e : Expr} {te : TE} {pos : Pos} (he : PE X e te) (hb : attributeBase e "thing" X.env (eval e X.env) = eval e X.env := by rfl) : PE X (.Attribute e "thing" pos) (tThing X.K te) := by
  refine ⟨fun pins s σ H Q I h => ?_⟩
  refine attr_of hb (thn (he.run pins s σ H _ I h) fun u s1 hh => ?_)
  obtain ⟨x, H1, I1, rx, a, D, dd, v, ex, ea, T, q⟩ := hh
  subst ex
  obtain rfl : u = Value.ref a := rx
  obtain ⟨oe, od, J, ⟨mA, hns, hr⟩, ho, hdd⟩ := exAt_inst I1 ea
  obtain ⟨od', ho', hl⟩ := lookIn_ns hns
  rw [ho] at ho'; cases ho'
  have l : List.lookup ("thing" : Str) [(("thing" : Str), v)] = some v := by simp [List.lookup]
  obtain ⟨u, hu, ru⟩ := RelO.some_of (v := v) (o := mA "thing") (by rw [← l]; exact hr "thing")
  exact HandSPX.exc_get I1.kIn J T.ga T.gg T.hs (PySem.W.findObj_own T.hd T.no rfl (by rw [hl, hu])) (handed_of ru) ⟨v, H1, I1.tok _, ru, q⟩
end
end L2
namespace T3
open PySem L2
open Evl (Ex)
/-! ### exceptions at the pure level -/
abbrev EW3 := Addr → D → Sig → Mem → Prop
def ImpW (F : Hp) (EW : EW3) (W : WX) : Prop := ∀ F' M' σ' σv' C d thing v H', Ex F F' → SRel F' σ' σv' → St3 F' M' H' → RD F' thing v → F' d = some (.xd [(("thing" : Str), v)]) → EW C thing σ' M' → W (.ref C) (some d) σv' H'
theorem ImpW.mono {F F1 : Hp} {EW : EW3} {W : WX} (h : ImpW F EW W) (e : Ex F F1) : ImpW F1 EW W := fun F' M' σ' σv' C d t v H' a => h F' M' σ' σv' C d t v H' (e.trans a)
theorem impW_of {F : Hp} {E3 : EQ3} {E : XK} (h : ImpE F E3 E) : ImpW F (fun C th _ M => E3 C th M) (fun cls d _ H => E cls d H) := fun F' M' σ' σv' C d t v H' e _ s r x q => h F' M' C d t v H' e s r x q
theorem impW0 {F : Hp} : ImpW F (fun _ _ _ _ => False) (fun _ _ _ _ => False) := fun _ _ _ _ _ _ _ _ _ _ _ _ _ _ q => q
def end3 (i : Option Nat) (σ : Sig) : Sig := match i with | some i => σ.set i none | none => σ
def set3 (i : Option Nat) (a : Addr) (σ : Sig) : Sig := match i with | some i => σ.set i (some (.ref a)) | none => σ
def exW (B : Hp) (K : PySem.W.Frag) (EWo : EW3) (D3 : Ends3) : List (Value × Option Nat × TS) → EW3
  | [] => EWo
  | (c, i, ts) :: r => fun C th σ M => ∃ b, PySem.W.exmOne K (.ref C) c = some b ∧ (b = true → ∀ a, M a = none → W3s B ts { nx := fun σ' M' => D3.nx (end3 i σ') M', rt := D3.rt, bk := fun σ' M' => D3.bk (end3 i σ') M', ct := fun σ' M' => D3.ct (end3 i σ') M' } (set3 i a σ) (mput M a (.exc a C th))) ∧
      (b = false → exW B K EWo D3 r C th σ M)
theorem SRel.end3 {F : Hp} {σ : Sig} {σv : St} (h : SRel F σ σv) (i : Option Nat) : SRel F (T3.end3 i σ) (endI i σv) := by
  cases i with
  | none => exact h
  | some i => exact h.setN
theorem SRel.set3 {F : Hp} {σ : Sig} {σv : St} (h : SRel F σ σv) (i : Option Nat) (a : Addr) : SRel F (T3.set3 i a σ) (setI i a σv) := by
  cases i with
  | none => exact h
  | some i => exact h.set rfl
theorem exW_imp {B : Hp} {K : PySem.W.Frag} {EWo : EW3} {D3 : Ends3} {Wo : WX} {Dv : Ends} {F : Hp} (b : Ex B F) (im : Imp F D3 Dv) (ho : ImpW F EWo Wo) : ∀ l : List (Value × Option Nat × TS), ImpW F (exW B K EWo D3 l) (wManyA K Wo Dv l)
  | [] => ho
  | (c, i, ts) :: r => fun F' M' σ' σv' C d t v H' e s st rt x ⟨k, hk, hy, hn⟩ => by
    refine ⟨k, hk, fun ek a na => ?_, fun ek => exW_imp b im ho r F' M' σ' σv' C d t v H' e s st rt x (hn ek)⟩
    obtain ⟨f0, m0⟩ := st.nn na
    have st2 : St3 F' (mput M' a (.exc a C t)) (upd H' a (EXO a (.ref C) (some d))) := st.newO na ⟨d, v, rfl, x, rt⟩
    have im' := im.mono e
    refine hy ek a m0 F' (setI i a σv') _ _ (b.trans e) (s.set3 i a) st2 ⟨fun F2 M2 σ2 σv2 H2 e2 s2 t2 q => ?_, ?_, fun F2 M2 σ2 σv2 H2 e2 s2 t2 q => ?_, fun F2 M2 σ2 σv2 H2 e2 s2 t2 q => ?_⟩
    · exact im'.nx F2 M2 _ _ H2 e2 (s2.end3 i) t2 q
    · exact im'.rt
    · exact im'.bk F2 M2 _ _ H2 e2 (s2.end3 i) t2 q
    · exact im'.ct F2 M2 _ _ H2 e2 (s2.end3 i) t2 q
section
variable {B : Hp} {M : Mem} {K : PySem.W.Frag} {σ : Sig} {D3 : Ends3} {te : TE} {t ta : TA} {Q : DQ} {S : Sp3}
theorem s_try {tb : WX → TS} {l : List (Value × Option Nat × TS)} {Wo : WX} {EWo : EW3} (ho : ImpW B EWo Wo) (h : ∀ B' W, Ex B B' → ImpW B' (exW B K EWo D3 l) W → W3s B' (tb W) D3 σ M) : W3s B (fun D σ H => tb (wManyA K Wo D l) D σ H) D3 σ M := fun F σv H Dv b hs st im =>
  h F (wManyA K Wo Dv l) b (exW_imp b im (ho.mono b) l) F σv H Dv (Ex.refl _) hs st im
theorem w_callS {W : WX} {EW : EW3} (hW : ImpW B EW W) (h : W3a B t σ M (fun ds M1 => S ds M1 Q (fun C th M' => EW C th σ M'))) : W3e B (tCallS (lift3 S) (WE W) t) σ M Q := fun F σv H Qv b hs st k =>
  h F σv H _ b hs st fun F1 M1 ds vs H1 e1 st1 rx q => ⟨ds, F1, M1, Q, _, rx, st1, fun F2 M2 d v H2 e2 => k F2 M2 d v H2 (e1.trans e2), fun F' M' C d thing v H' e s r x q' => hW F' M' σ σv C d thing v H' ((b.trans e1).trans e) ((hs.mono e1).mono e) s r x q', q⟩
theorem s_raise {C : Addr} {W : WX} {EW : EW3} (hW : ImpW B EW W) (h : W3a B ta σ M (fun ds M1 => ∃ x y, ds = [x, y] ∧ EW C x σ M1)) : W3s B (tRaiseDye C W ta) D3 σ M := fun F σv H Dv b hs st im =>
  h F σv H _ b hs st fun F1 M1 ds vs H1 e1 st1 rx ⟨x, y, ed, q⟩ => by
    subst ed
    obtain ⟨v, u, ev, rv, ru⟩ := rx.two
    refine ⟨v, u, ev, fun d hd => ?_⟩
    obtain ⟨s2, e2⟩ := st1.new (o := .xd [(("thing" : Str), v)]) hd
    exact hW _ M1 σ σv C d x v _ ((b.trans e1).trans e2) ((hs.mono e1).mono e2) s2 (rv.mono e2) upd_same q
theorem w_thing (h : W3e B te σ M (fun x M1 => ∃ a C th, x = .ref a ∧ M1 a = some (.exc a C th) ∧ ExcX K C ∧ Q th M1)) : W3e B (tThing K te) σ M Q := fun F σv H Qv b hs st k =>
  h F σv H _ b hs st fun F1 M1 x xv H1 e1 st1 rx ⟨a, C, th, ex, hm, hc, q⟩ => by
    subst ex
    obtain ⟨_, ho, h1, dd, v, e2, hx, rv⟩ := st1.own a _ hm
    subst e2
    exact ⟨a, C, dd, v, rx, ⟨h1, st1.fz dd _ hx⟩, hc, k F1 M1 th v H1 e1 st1 rv q⟩
theorem c3_ISI {x : D} {n : String} {c : Bool} (h : (tyD x == "") = false) (hk : PySem.W.kitOne K (.type (tyD x)) (.type n) = some c) (q : Q (.bl c) M) : C3 B (rISI K) [x, .ty n] M Q := fun F H xv Qv b st rx k => .inl (c3_isi h hk q F H xv Qv b st rx k)
theorem c3_isX {a C C2 : Addr} {th : D} {c : Bool} (hm : M a = some (.exc a C th)) (hC : ExcX K C) (hk : PySem.W.kitOne K (.ref C) (.ref C2) = some c) (q : Q (.bl c) M) : C3 B (rISI K) [.ref a, .ref C2] M Q := fun F H xv Qv b st rx k => by
  obtain ⟨v, u, e, r1, r2⟩ := rx.two
  obtain ⟨_, ho, h1, dd, tv, e2, hx, rv⟩ := st.own a _ hm
  subst e2
  exact .inr ⟨a, C, dd, _, u, .ref C2, c, by rw [e, show v = V.ref a from r1], ⟨h1, st.fz dd _ hx⟩, hC, by rw [show u = V.ref C2 from r2]; exact .own C2, hk, k F M (.bl c) _ H (Ex.refl _) st rfl q⟩
theorem c3_isXt {a C : Addr} {n : String} {th : D} {c : Bool} (hm : M a = some (.exc a C th)) (hC : ExcX K C) (hk : PySem.W.kitOne K (.ref C) (.type n) = some c) (q : Q (.bl c) M) : C3 B (rISI K) [.ref a, .ty n] M Q := fun F H xv Qv b st rx k => by
  obtain ⟨v, u, e, r1, r2⟩ := rx.two
  obtain ⟨_, ho, h1, dd, tv, e2, hx, rv⟩ := st.own a _ hm
  subst e2
  exact .inr ⟨a, C, dd, _, u, .type n, c, by rw [e, show v = V.ref a from r1], ⟨h1, st.fz dd _ hx⟩, hC, by rw [show u = V.ty n from r2]; exact .ty n, hk, k F M (.bl c) _ H (Ex.refl _) st rfl q⟩
/-! ### index, count, remove by value -/
def rMD (K : PySem.W.Frag) : V → List V → Hp → VK → Prop := rIndexD K
theorem getM {α β : Type} {f : α → β} {l : List α} {i : Nat} {b : β} (h : (l.map f)[i]? = some b) : ∃ a, l[i]? = some a ∧ f a = b := by
  rw [List.getElem?_map] at h
  exact Option.map_eq_some_iff.mp h
theorem m3_index {n m : Nat} {x y z : D} {ds : List D} {j : Nat} (l : LstD M x ds) (hx : okDs n ds = true) (hy : okD m y = true) (hz : ds[j]? = some z) (he : peq z y = true) (hno : ∀ (i : Nat) z', i < j → ds[i]? = some z' → peq z' y = false) (q : Q (.int j) M) (hn : n < 64 := by decide) (hm : m ≤ 64 := by decide) : M3 B (rIndexD K) x [y] M Q := fun F H xv xvs Qv b st rx rxs k => by
  obtain ⟨v, e, ry⟩ := rxs.sing
  have hd := l.dp (K := K) hx st rx
  obtain ⟨a, vs, ev, _, _⟩ := l.at st rx
  subst ev
  refine ⟨a, v, py y, pys ds, j, py z, rfl, e, hd, okD_dp st.fz hy ry, okDs_shaped hx hn, okD_shaped hy hm, ?_, he, fun i z' hi hz' => ?_, k F M (.int j) _ H (Ex.refl _) st rfl q⟩
  · rw [pys_map, List.getElem?_map, hz]; rfl
  · rw [pys_map] at hz'
    obtain ⟨z2, h1, h2⟩ := getM hz'
    rw [← h2]; exact hno i z2 hi h1
theorem m3_count {n m : Nat} {x y : D} {ds : List D} (l : LstD M x ds) (hx : okDs n ds = true) (hy : okD m y = true) (q : Q (.int (ds.countP fun z => peq z y : Nat)) M) (hn : n < 64 := by decide) (hm : m ≤ 64 := by decide) : M3 B (rCountD K) x [y] M Q := fun F H xv xvs Qv b st rx rxs k => by
  obtain ⟨v, e, ry⟩ := rxs.sing
  have hd := l.dp (K := K) hx st rx
  obtain ⟨a, vs, ev, _, _⟩ := l.at st rx
  subst ev
  refine ⟨a, v, py y, pys ds, rfl, e, hd, okD_dp st.fz hy ry, okDs_shaped hx hn, okD_shaped hy hm, ?_⟩
  have ec : ((pys ds).countP fun z => PyData.eqv z (py y)) = ds.countP fun z => peq z y := by rw [pys_map, List.countP_map]; rfl
  rw [ec]
  exact k F M (.int _) _ H (Ex.refl _) st rfl q
theorem m3_remove {n m : Nat} {y z : D} {a : Addr} {ds : List D} {j : Nat} (hM : M a = some (.lst ds)) (hx : okDs n ds = true) (hy : okD m y = true) (hz : ds[j]? = some z) (he : peq z y = true) (hno : ∀ (i : Nat) z', i < j → ds[i]? = some z' → peq z' y = false) (q : Q .non (mput M a (.lst (ds.eraseIdx j)))) (hn : n < 64 := by decide) (hm : m ≤ 64 := by decide) : M3 B (rRemoveD K) (.ref a) [y] M Q := fun F H xv xvs Qv b st rx rxs k => by
  obtain ⟨v, e, ry⟩ := rxs.sing
  obtain ⟨_, ho, h1, vs, e2, rs⟩ := st.own a _ hM
  subst e2
  refine ⟨a, vs, v, py y, pys ds, j, py z, rx, e, h1, okDs_dp st.fz hx rs, okD_dp st.fz hy ry, okDs_shaped hx hn, okD_shaped hy hm, ?_, he, fun i z' hi hz' => ?_, k F _ .non _ _ (Ex.refl _) (st.put hM (d' := .lst (ds.eraseIdx j)) ⟨_, rfl, rs.eraseIdx j⟩) rfl q⟩
  · rw [pys_map, List.getElem?_map, hz]; rfl
  · rw [pys_map] at hz'
    obtain ⟨z2, h1, h2⟩ := getM hz'
    rw [← h2]; exact hno i z2 hi h1
end
end T3
set_option Elab.async false
set_option linter.all false
namespace T3
open PySem L2
open Evl (Ex)
section
variable {B : Hp} {M : Mem} {K : PySem.W.Frag} {σ : Sig} {te : TE} {t : TA} {Q : DQ} {P : Program} {w : World}
theorem RDs.rev {F : Hp} : ∀ {ds : List D} {vs : List V}, RDs F ds vs → RDs F ds.reverse vs.reverse
  | [], _, h => by rw [show _ = [] from h]; rfl
  | d :: ds, _, ⟨v, vs, e, r, rs⟩ => by subst e; rw [List.reverse_cons, List.reverse_cons]; exact (RDs.rev rs).snoc r
theorem w_rev (h : W3e B te σ M (fun x M1 => ∃ ds, LstD M1 x ds ∧ Q (.lst ds.reverse) M1)) : W3e B (tRevL K te) σ M Q := fun F σv H Qv b hs st k =>
  h F σv H _ b hs st fun F1 M1 x xv H1 e1 st1 rx ⟨ds, l, q⟩ => by
    obtain ⟨a, vs, e, h1, rs⟩ := l.seq (K := K) st1 rx
    refine ⟨a, vs, e, h1, fun p hp => ?_⟩
    obtain ⟨s2, e2⟩ := st1.new (o := .lst vs.reverse) hp
    exact k _ M1 (.lst ds.reverse) _ _ (e1.trans e2) s2 ⟨p, _, rfl, upd_same, rs.rev.mono e2⟩ q
theorem c3_set0 (q : ∀ p, M p = none → Q (.ref p) (mput M p (.raw (SetK P w p (fun _ => false) 0)))) : C3 B (rSet0K P w) [] M Q := fun F H xv Qv b st rx k => by
  refine ⟨rx, fun p hp => ?_⟩
  exact k F _ (.ref p) _ _ (Ex.refl _) (st.newO (d := .raw _) hp ⟨rfl, fun xs h => by unfold SetK at h; cases h⟩) rfl (q p (st.nn hp).2)
theorem w_sadd (h : W3e B te σ M (fun x M1 => ∃ a S n, x = .ref a ∧ M1 a = some (.raw (SetK P w a S n)) ∧ W3a B t σ M1 (fun ds M2 => ∃ d k S n, ds = [d] ∧ (∀ F v, RD F d v → v = kV k) ∧ M2 a = some (.raw (SetK P w a S n)) ∧ n + 1 < scanBound ∧
      Q .non (mput M2 a (.raw (SetK P w a (fun j => S j || decide (j = k)) (if S k = true then n else n + 1))))))) : W3e B (tSAddK P w te t) σ M Q := fun F σv H Qv b hs st kk =>
  h F σv H _ b hs st fun F1 M1 x xv H1 e1 st1 rx ⟨a, S, n, ex, hm, q⟩ => by
    subst ex
    obtain ⟨_, ho, h1, e⟩ := st1.own a _ hm
    rw [e.1] at h1
    refine ⟨⟨a, S, n, rx, h1⟩, q F1 σv H1 _ (b.trans e1) (hs.mono e1) st1 fun F2 M2 ds vs H2 e2 st2 rxs ⟨d, k, S', n', ed, hk, hm2, hn, q2⟩ => ?_⟩
    subst ed
    obtain ⟨v, ev, rv⟩ := rxs.sing
    obtain ⟨_, ho', h2, e'⟩ := st2.own a _ hm2
    rw [e'.1] at h2
    exact ⟨a, k, S', n', rx, by rw [ev, hk F2 v rv], h2, hn, kk F2 _ .non _ _ (e1.trans e2) (st2.put hm2 (d' := .raw _) ⟨rfl, fun xs h => by unfold SetK at h; cases h⟩) rfl q2⟩
def rJOIN (K : PySem.W.Frag) : V → List V → Hp → VK → Prop := fun x xs H Q => ∃ a p, ∃ ys : List Str, x = .str a ∧ xs = [.ref p] ∧ (SqL K H p (ys.map V.str) ∨ SqT K H p (ys.map V.str)) ∧
    (ys.map (·.length)).sum + ys.length * a.length ≤ 16777216 ∧ Q (.str (Txt.join a ys)) H
theorem mt_JOIN {X : Cx} : MtR X "str.join" (rJOIN X.K) := mt_join
theorem m3_join {y : D} {ys : List Str} {s : Str} (l : LstD M y (ys.map D.str)) (hb : (ys.map (·.length)).sum + ys.length * s.length ≤ 16777216) (q : Q (.str (Txt.join s ys)) M) : M3 B (rJOIN K) (.str s) [y] M Q := fun F H xv xvs Qv b st rx rxs k => by
  obtain ⟨v, e, r⟩ := rxs.sing
  obtain ⟨a, vs, e1, h1, rs⟩ := l.seq (K := K) st r
  rw [rs.strs] at h1
  exact ⟨s, a, ys, rx, by rw [e, e1], .inl h1, hb, k F M (.str _) _ H (Ex.refl _) st rfl q⟩
end
end T3
namespace T3
open PySem L2
theorem sl_SLK {X : Cx} (K : PySem.W.Frag) (h : X.K = K) : SlR X (rSL K) := by subst h; exact sl_SL
theorem op_INK {X : Cx} (K : PySem.W.Frag) (P : Program) (w : World) (h1 : X.K = K) (h2 : X.prog = P) (h3 : X.w = w) (hu : X.A.units + 65 < cLine) : OpR X (compareOp .In) (rIN K P w false) := by subst h1; subst h2; subst h3; exact op_IN hu
theorem vs_drop {d : D} {M : Mem} (p : Addr) : VS d M d (mdel M p) := fun F H v s r => ⟨F, Evl.Ex.refl _, s.drop p, r⟩
theorem s_nvs {B : Hp} {ts : TS} {D3 : Ends3} {σ : Sig} {M : Mem} (h : W3s B ts { D3 with nx := fun σ M => ∃ σ' M', VSs σ M σ' M' ∧ D3.nx σ' M' } σ M) : W3s B ts D3 σ M := fun F σv H Dv b hs st im =>
  h F σv H Dv b hs st ⟨fun F' M' σ' σv' H' e s t ⟨σ2, M2, vs, q⟩ => by
    obtain ⟨F2, e2, t2, s2⟩ := vs F' H' σv' t s
    exact im.nx F2 M2 σ2 σv' H' (e.trans e2) s2 t2 q, im.rt, im.bk, im.ct⟩
theorem ix_seqK {X : Cx} (K : PySem.W.Frag) (h : X.K = K) : IxR X (rIx K) := by subst h; exact ix_seq
theorem pt_truthK {X : Cx} {a : Expr} {ta : TE} (K : PySem.W.Frag) (h : X.K = K) (ha : PE X a ta) (he : ∀ whole, isTrue a X.env whole = (do let v ← whole; standAt a.pos; holding [v] (truthy v))) : PT X a (tTR K ta) := by subst h; exact pt_truth ha he
theorem call_lenK {X : Cx} (K : PySem.W.Frag) (h : X.K = K) : CallR X (.builtin "len") (rLEN K) := by subst h; exact call_len
theorem call_lstK {X : Cx} (K : PySem.W.Frag) (h : X.K = K) : CallR X (.type "list") (rLST K) := by subst h; exact call_list_of
theorem call_ISIK {X : Cx} (K : PySem.W.Frag) (h : X.K = K) : CallR X (.builtin "isinstance") (rISI K) := by subst h; exact call_ISI
theorem pe_thingK {X : Cx} {e : Expr} {te : TE} {pos : Pos} (K : PySem.W.Frag) (h : X.K = K) (he : PE X e te) (hb : attributeBase e "thing" X.env (eval e X.env) = eval e X.env := by rfl) : PE X (.Attribute e "thing" pos) (tThing K te) := by subst h; exact pe_thing he hb
theorem roomW_le {j k : Nat} {A A' : Around} (r : Room k A) (h : j ≤ k) (e1 : A'.depth = A.depth) (e2 : A'.units = A.units) : RoomW j A' := ⟨by have := r.dp; omega, by have := r.un; omega⟩
/-- promises that look at the frozen heap -/
def lift3B (S : Hp → Sp3) : Sp := fun vs H Q E => ∃ (ds : List D) (F : Hp) (M : Mem) (Q3 : DQ) (E3 : EQ3), RDs F ds vs ∧ St3 F M H ∧ (∀ F' M' d v H', Evl.Ex F F' → St3 F' M' H' → RD F' d v → Q3 d M' → Q v H') ∧ ImpE F E3 E ∧ S F ds M Q3 E3
theorem run3B {S : Hp → Sp3} {N : List Str} {vs : List V} {H : Hp} {Q : VK} {E : XK} {t : TS} (h : lift3B S vs H Q E)
    (k : ∀ B ds M Q3 E3, S B ds M Q3 E3 → ImpE B E3 E → W3s B t { nx := fun _ M => Q3 .non M, rt := Q3 } (start3 N ds) M) : t { nx := fun _ H' => Q .non H', rt := Q } (L2.start N vs) H := by
  obtain ⟨ds, F, M, Q3, E3, r, st, hq, he, hs⟩ := h
  exact k F ds M Q3 E3 hs he F _ H _ (Evl.Ex.refl _) (SRel.start r) st ⟨fun F' M' σ' σv' H' e s t q => hq F' M' .non .non H' e t rfl q, hq, fun _ _ _ _ _ _ _ _ q => q.elim, fun _ _ _ _ _ _ _ _ q => q.elim⟩
theorem lift3B_len {S : Hp → Sp3} {n : Nat} (h : ∀ F ds M Q E, S F ds M Q E → ds.length = n) : ∀ vs H Q E, lift3B S vs H Q E → vs.length = n := fun vs H Q E ⟨ds, F, M, Q3, E3, r, _, _, _, hs⟩ => by rw [← r.length]; exact h F ds M Q3 E3 hs
theorem w_callB0 {B : Hp} {M : Mem} {σ : Sig} {t : TA} {Q : DQ} {S : Hp → Sp3} {E : XK} (mono : ∀ F F' ds M Q E, Evl.Ex F F' → S F ds M Q E → S F' ds M Q E) (h : W3a B t σ M (fun ds M1 => S B ds M1 Q NoE)) : W3e B (tCall (lift3B S) [] E t) σ M Q := fun F σv H Qv b hs st k =>
  h F σv H _ b hs st fun F1 M1 ds vs H1 e1 st1 rx q => ⟨ds, F1, M1, Q, NoE, by rw [List.append_nil]; exact rx, st1, fun F2 M2 d v H2 e2 => k F2 M2 d v H2 (e1.trans e2), impE0, mono B F1 ds M1 Q NoE (b.trans e1) q⟩
theorem s3_q {B : Hp} {M : Mem} {K : PySem.W.Frag} {Q : DQ} {a : Addr} {ns : List Int} {lo hi : Option Int} (h : SqL K B a (ns.map V.int)) (q : Q (.lst (cutD (ns.map D.int) lo hi)) M) : S3 B (rSL K) (.ref a) lo hi M Q := fun F H xv Qv b st rx k => by
  refine .inl ⟨a, ns.map V.int, rx, Evl.ex_l (b.trans st.fz) h, fun p hp => ?_⟩
  obtain ⟨s2, e2⟩ := st.new (o := .lst (cutV (ns.map V.int) lo hi)) hp
  have r : ∀ l : List Int, RDs F (l.map D.int) (l.map V.int) := fun l => by
    induction l with
    | nil => rfl
    | cons i l ih => exact ⟨_, _, rfl, rfl, ih⟩
  exact k _ _ (.lst (cutD (ns.map D.int) lo hi)) _ _ e2 s2 ⟨p, _, rfl, upd_same, ((r ns).cut lo hi).mono e2⟩ q
theorem op_eqDK {X : Cx} (K : PySem.W.Frag) (h : X.K = K) (hu : X.A.units + 64 < cLine) : OpR X (compareOp .Eq) (rEqD K) := by subst h; exact op_eqD hu
theorem op_neDK {X : Cx} (K : PySem.W.Frag) (h : X.K = K) (hu : X.A.units + 64 < cLine) : OpR X (compareOp .NotEq) (rNeD K) := by subst h; exact op_neD hu
theorem op_NINK {X : Cx} (K : PySem.W.Frag) (P : Program) (w : World) (h1 : X.K = K) (h2 : X.prog = P) (h3 : X.w = w) (hu : X.A.units + 65 < cLine) : OpR X (compareOp .NotIn) (rIN K P w true) := by subst h1; subst h2; subst h3; exact op_NIN hu
end T3
set_option Elab.async false
set_option linter.all false
set_option maxRecDepth 100000
set_option maxHeartbeats 2000000
namespace L2
open PySem PySem.Spec PyProof.Rows
/-! ### a store to a property of an own class -/
structure PropSet (K : PySem.W.Frag) (C : Addr) (f : Str) (p g : Addr) : Prop where
  tk : PySem.W.takerIn K C f = some (some (.ref p))
  tT : PySem.W.typeIn K (.ref p) = some (.type "property")
  rec_ : ∃ a rest, PySem.W.recIn K p "property" = some (a :: .ref g :: rest)
def tPropSet (C : Addr) (sp : Sp) (E : St → XK) (ta tv : TE) : TS := fun D σ H => tv σ H fun y H1 => ta σ H1 fun x H2 => ∃ a dx fs, x = .ref a ∧ H2 a = some (.ins C dx fs) ∧ sp [.ref a, y] H2 (fun _ H3 => D.nx σ H3) (E σ)
section
variable {X : Cx} {CX : CXT} {k : Nat} {C p g a dx : Addr} {fs : List (Str × V)} {f : Str} {fd : FuncData} {ps : List Str} {sp : Sp} {E : St → XK} {o value : Expr} {pos pos' : Pos} {ta tv : TE}
theorem setprop_ok {pins : List (Addr × Obj)} {σ : St} {H : Hp} {s : Shared} {Q : VK} (I : Inv X pins σ H s) (ea : H a = some (.ins C dx fs)) (c : Cls X.K C) (hp : PropSet X.K C f p g)
    (F : FnOk X.prog X.w X.K X.mg X.base CX k g fd ps sp) (hr : Room (k + 2) X.A) (hb : Binds X.K fd ps []) (hx : PassesAt CX X σ (E σ)) {y : V} {u : Value} (ry : RelV y u) (h : sp [.ref a, y] H Q (E σ)) :
    wpAny (model X.prog X.w) X.A (setAttr (.ref a) f u) (fun _ s' => ∃ v H', Inv X pins σ H' s' ∧ Q v H') X.xe s := by
  obtain ⟨mA, O, _, _, _, _⟩ := ins_get I.hok ea
  obtain ⟨od, J, _⟩ := O.look
  obtain ⟨a0, rest, hrec⟩ := hp.rec_
  have I1 := (I.tok (s.toks + 1)).tok (s.toks + 1 + 1)
  have I2 := I.tok (s.toks + 1)
  have hl : [Value.ref a, u].length = ps.length := by rw [← F.len _ _ _ _ h]; rfl
  have b := hb { s with toks := s.toks + 1 } [.ref a, u] I.kIn (by rw [List.append_nil]; exact hl)
  rw [List.append_nil] at b
  refine PySem.W.set_plain I.kIn J c.sa (PySem.W.osa_descr (s := { s with toks := s.toks + 1 }) PySem.W.KF.slot_pset I.kIn J c.po hp.tk hp.tT (PySem.W.prop_set (s := { s with toks := s.toks + 1 }) I.kIn hrec
    (codeAny_mono (F.run X.A.in1.in1 X.stack { s with toks := s.toks + 1 } H ⟨[.ref a, u], []⟩ [.ref a, u] [.ref a, y] Q (E σ) hr.in1.in1 I2.env0.in1.in1 b (.cons rfl (.cons ry .nil)) h) fun r s' hq => ?_)))
  cases r with
  | error er => exact hx pins H { s with toks := s.toks + 1 } er s' I2 hq
  | ok fl =>
    cases fl with
    | ret u =>
      obtain ⟨v, H', I3, rv, q3⟩ := I2.after hq
      exact ⟨v, H', I3, q3⟩
    | next => exact False.elim hq
    | brk => exact False.elim hq
    | cont => exact False.elim hq
/-- o.f = value, f a property -/
theorem ps_propset (ha : PE X o ta) (hv : PE X value tv) (c : Cls X.K C) (hp : PropSet X.K C f p g) (F : FnOk X.prog X.w X.K X.mg X.base CX k g fd ps sp) (hr : Room (k + 2) X.A) (hb : Binds X.K fd ps []) (hx : ∀ σ, PassesAt CX X σ (E σ))
    (hs : swapsWith value (some (.Attribute o f pos')) pos.line X.env = pure false) : PS X (.Assign [.Attribute o f pos'] value pos) (tPropSet C sp E ta tv) := by
  refine ⟨fun pins s σ H D I h => ?_⟩
  refine plainObj_wpAny_Assign_Attribute (thn (hv.run pins s σ H _ I h) fun u s1 ⟨y, H1, I1, ry, q⟩ => thn (ha.run pins s1 σ H1 _ I1 q) fun ov s2 ⟨x, H2, I2, rx, a, dx, fs, ex, ea, q2⟩ => ?_) hs
  subst ex
  obtain rfl : ov = Value.ref a := rx
  exact thn (setprop_ok I2 ea c hp F hr hb (hx σ) ry q2) fun _ s3 ⟨v, H3, I3, q3⟩ => ⟨σ, H3, I3, q3⟩
end
end L2
set_option Elab.async false
set_option linter.all false
set_option maxRecDepth 100000
namespace T3
open PySem L2
open Evl (Ex)
/-! ### dicts -/
section
variable {κ : Type} [DecidableEq κ]
def valD (kvs : List (κ × D)) (k : κ) : Option D := (kvs.find? fun kv => decide (kv.1 = k)).map (·.2)
def putKD (kvs : List (κ × D)) (k : κ) (v : D) : List (κ × D) :=
  if (kvs.any fun kv => decide (kv.1 = k)) = true then kvs.map (fun kv => if kv.1 = k then (kv.1, v) else kv) else kvs ++ [(k, v)]
def OptR (F : Hp) : Option D → Option V → Prop
  | some d, some v => RD F d v
  | none, none => True
  | _, _ => False
theorem pkv_val {F : Hp} {k : κ} : ∀ {l : List (κ × D)} {m : List (κ × V)}, PKV F l m → OptR F (valD l k) (valV m k)
  | _, _, .nil => trivial
  | (a, d) :: l, (b, v) :: m, .cons h t => by
    have e : a = b := h.1
    subst e
    unfold valD valV
    rw [List.find?_cons, List.find?_cons]
    by_cases q : a = k
    · simp only [q, decide_true]; exact h.2
    · simp only [q, decide_false]; exact pkv_val t
theorem pkv_any {F : Hp} {k : κ} : ∀ {l : List (κ × D)} {m : List (κ × V)}, PKV F l m → (l.any fun kv => decide (kv.1 = k)) = (m.any fun kv => decide (kv.1 = k))
  | _, _, .nil => rfl
  | (a, d) :: l, (b, v) :: m, .cons h t => by
    have e : a = b := h.1
    subst e
    rw [List.any_cons, List.any_cons, pkv_any t]
theorem pkv_set {F : Hp} {k : κ} {d : D} {v : V} (r : RD F d v) : ∀ {l : List (κ × D)} {m : List (κ × V)}, PKV F l m → PKV F (l.map (fun kv => if kv.1 = k then (kv.1, d) else kv)) (m.map (fun kv => if kv.1 = k then (kv.1, v) else kv))
  | _, _, .nil => .nil
  | (a, d') :: l, (b, v') :: m, .cons h t => by
    have e : a = b := h.1
    subst e
    rw [List.map_cons, List.map_cons]
    refine .cons ?_ (pkv_set r t)
    by_cases q : a = k
    · rw [if_pos q, if_pos q]; exact ⟨rfl, r⟩
    · rw [if_neg q, if_neg q]; exact h
theorem pkv_app {F : Hp} {x : κ × D} {y : κ × V} (r : x.1 = y.1 ∧ RD F x.2 y.2) : ∀ {l : List (κ × D)} {m : List (κ × V)}, PKV F l m → PKV F (l ++ [x]) (m ++ [y])
  | _, _, .nil => .cons r .nil
  | _, _, .cons h t => .cons h (pkv_app r t)
theorem pkv_putK {F : Hp} {k : κ} {d : D} {v : V} (r : RD F d v) {l : List (κ × D)} {m : List (κ × V)} (h : PKV F l m) : PKV F (putKD l k d) (putK m k v) := by
  unfold putKD putK
  rw [pkv_any h]
  split
  · exact pkv_set r h
  · exact pkv_app ⟨rfl, r⟩ h
theorem pkv_length {F : Hp} : ∀ {l : List (κ × D)} {m : List (κ × V)}, PKV F l m → l.length = m.length
  | _, _, .nil => rfl
  | _, _, .cons _ t => congrArg (· + 1) (pkv_length t)
end
def kD : Key → D
  | .inl i => .int i
  | .inr s => .str s
theorem kD_V {k : Key} {F : Hp} {v : V} (r : RD F (kD k) v) : v = kV k := by cases k <;> exact r
section
variable {B : Hp} {M : Mem} {K : PySem.W.Frag} {σ : Sig} {te ty tx tv : TE} {Q : DQ} {D3 : Ends3} {P : Program} {w : World}
theorem w_dnewK (q : ∀ p, M p = none → Q (.ref p) (mput M p (.dK []))) : W3e B tDNewK σ M Q := fun F σv H Qv b hs st k p hp =>
  k F _ (.ref p) _ _ (Ex.refl _) (st.newO (d := .dK []) hp ⟨[], rfl, .nil⟩) rfl (q p (st.nn hp).2)
theorem w_dnewT (q : ∀ p, M p = none → Q (.ref p) (mput M p (.dT []))) : W3e B tDNewT σ M Q := fun F σv H Qv b hs st k p hp =>
  k F _ (.ref p) _ _ (Ex.refl _) (st.newO (d := .dT []) hp ⟨[], rfl, .nil⟩) rfl (q p (st.nn hp).2)
/-- a is a dict of ints and texts and y a key of it (tuple keys: dT) -/
def GetD (M : Mem) (x y : D) (o : Option D) : Prop := ∃ a, x = .ref a ∧ ((∃ kvs k, M a = some (.dK kvs) ∧ y = kD k ∧ o = valD kvs k) ∨ ∃ kvs k, M a = some (.dT kvs) ∧ y = .tup (k.map kD) ∧ o = valD kvs k)
theorem RDs.keys {F : Hp} : ∀ {k : List Key} {vs : List V}, RDs F (k.map kD) vs → vs = k.map kV
  | [], _, h => h
  | _ :: _, _, ⟨v, vs, e, r, rs⟩ => by rw [e, kD_V r, RDs.keys rs]; rfl
theorem GetD.at {F H : Hp} {x y : D} {o : Option D} {xv yv : V} (g : GetD M x y o) (st : St3 F M H) (rx : RD F x xv) (ry : RD F y yv) : ∃ a ov, xv = .ref a ∧ DGet H a yv ov ∧ OptR F o ov := by
  obtain ⟨a, ex, ⟨kvs, k, hm, ey, eo⟩ | ⟨kvs, k, hm, ey, eo⟩⟩ := g
  · subst ex; subst ey; subst eo
    obtain ⟨_, ho, h1, kv, e, pk⟩ := st.own a _ hm
    subst e
    rw [kD_V ry]
    exact ⟨a, _, rx, DGet.k h1, pkv_val pk⟩
  · subst ex; subst ey; subst eo
    obtain ⟨_, ho, h1, kv, e, pk⟩ := st.own a _ hm
    subst e
    obtain ⟨b, vs, e2, hb, rs⟩ := ry
    subst e2
    rw [rs.keys] at hb
    exact ⟨a, _, rx, DGet.t h1 (st.fz b _ hb), pkv_val pk⟩
theorem w_dget (h : W3e B te σ M (fun x M1 => W3e B ty σ M1 (fun y M2 => ∃ d, GetD M2 x y (some d) ∧ Q d M2))) : W3e B (tDGet te ty) σ M Q := fun F σv H Qv b hs st k =>
  h F σv H _ b hs st fun F1 M1 x xv H1 e1 st1 rx q1 => q1 F1 σv H1 _ (b.trans e1) (hs.mono e1) st1 fun F2 M2 y yv H2 e2 st2 ry ⟨d, g, q⟩ => by
    obtain ⟨a, ov, ex, g2, r⟩ := g.at st2 (rx.mono e2) ry
    cases ov with
    | none => exact r.elim
    | some v => exact ⟨a, v, ex, g2, k F2 M2 d v H2 (e1.trans e2) st2 r q⟩
theorem w_dget2 (h : W3e B te σ M (fun x M1 => (∃ a, x = .ref a ∧ ((∃ kvs, M1 a = some (.dK kvs)) ∨ ∃ kvs, M1 a = some (.dT kvs))) ∧ W3e B ty σ M1 (fun y M2 => W3e B tx σ M2 (fun z M3 => ∃ o, GetD M3 x y o ∧ Q (o.getD z) M3)))) : W3e B (tDGet2 te ty tx) σ M Q := fun F σv H Qv b hs st k =>
  h F σv H _ b hs st fun F1 M1 x xv H1 e1 st1 rx ⟨⟨a, ex, ht⟩, q1⟩ => by
    subst ex
    refine ⟨a, rx, ?_, q1 F1 σv H1 _ (b.trans e1) (hs.mono e1) st1 fun F2 M2 y yv H2 e2 st2 ry q2 => q2 F2 σv H2 _ (b.trans (e1.trans e2)) (hs.mono (e1.trans e2)) st2 fun F3 M3 z zv H3 e3 st3 rz ⟨o, g, q⟩ => ?_⟩
    · rcases ht with ⟨kvs, hm⟩ | ⟨kvs, hm⟩
      · obtain ⟨_, ho, h1, kv, e, _⟩ := st1.own a _ hm
        subst e; exact .inl ⟨kv, .inl h1⟩
      · obtain ⟨_, ho, h1, kv, e, _⟩ := st1.own a _ hm
        subst e; exact .inr ⟨kv, .inl h1⟩
    · obtain ⟨a', ov, ex, g2, r⟩ := g.at st3 (show RD F3 (.ref a) (.ref a) from rfl) (ry.mono e3)
      cases ex
      refine ⟨ov, g2, ?_⟩
      cases o with
      | none =>
        cases ov with
        | none => exact k F3 M3 z zv H3 (e1.trans (e2.trans e3)) st3 rz q
        | some v => exact r.elim
      | some d =>
        cases ov with
        | none => exact r.elim
        | some v => exact k F3 M3 d v H3 (e1.trans (e2.trans e3)) st3 r q
/-- d[y] = v -/
def PutD (M : Mem) (x y v : D) (M' : Mem) : Prop := ∃ a, x = .ref a ∧ ((∃ kvs k, M a = some (.dK kvs) ∧ y = kD k ∧ kvs.length < 100000 ∧ M' = mput M a (.dK (putKD kvs k v))) ∨ ∃ kvs k, M a = some (.dT kvs) ∧ y = .tup (k.map kD) ∧ kvs.length < 100000 ∧ M' = mput M a (.dT (putKD kvs k v)))
theorem PutD.at {F H : Hp} {x y v : D} {M' : Mem} {xv yv vv : V} (g : PutD M x y v M') (st : St3 F M H) (rx : RD F x xv) (ry : RD F y yv) (rv : RD F v vv) : ∃ a H', xv = .ref a ∧ DPut H a yv vv H' ∧ St3 F M' H' := by
  obtain ⟨a, ex, ⟨kvs, k, hm, ey, hl, eM⟩ | ⟨kvs, k, hm, ey, hl, eM⟩⟩ := g
  · subst ex; subst ey; subst eM
    obtain ⟨_, ho, h1, kv, e, pk⟩ := st.own a _ hm
    subst e
    rw [kD_V ry]
    exact ⟨a, _, rx, DPut.k h1 (by rw [← pkv_length pk]; exact Nat.lt_trans hl (by decide)), st.put hm (d' := .dK (putKD kvs k v)) ⟨_, rfl, pkv_putK rv pk⟩⟩
  · subst ex; subst ey; subst eM
    obtain ⟨_, ho, h1, kv, e, pk⟩ := st.own a _ hm
    subst e
    obtain ⟨b, vs, e2, hb, rs⟩ := ry
    subst e2
    rw [rs.keys] at hb
    exact ⟨a, _, rx, DPut.t h1 (st.fz b _ hb) (by rw [← pkv_length pk]; exact Nat.lt_trans hl (by decide)), st.put hm (d' := .dT (putKD kvs k v)) ⟨_, rfl, pkv_putK rv pk⟩⟩
theorem s_dput (h : W3e B tv σ M (fun v M1 => W3e B te σ M1 (fun x M2 => W3e B ty σ M2 (fun y M3 => ∃ M4, PutD M3 x y v M4 ∧ D3.nx σ M4)))) : W3s B (sDPut te ty tv) D3 σ M := fun F σv H Dv b hs st im =>
  h F σv H _ b hs st fun F1 M1 v vv H1 e1 st1 rv q1 => q1 F1 σv H1 _ (b.trans e1) (hs.mono e1) st1 fun F2 M2 x xv H2 e2 st2 rx q2 => q2 F2 σv H2 _ (b.trans (e1.trans e2)) (hs.mono (e1.trans e2)) st2 fun F3 M3 y yv H3 e3 st3 ry ⟨M4, g, q⟩ => by
    obtain ⟨a, H', ex, g2, st4⟩ := g.at st3 (rx.mono e3) ry (rv.mono (e2.trans e3))
    exact ⟨a, H', ex, g2, im.nx F3 M4 σ σv H' (e1.trans (e2.trans e3)) (hs.mono (e1.trans (e2.trans e3))) st4 q⟩
/-! ### in, with dicts -/
def rIND (K : PySem.W.Frag) (P : Program) (w : World) (neg : Bool) : R2 := fun x y H Q => rIN K P w neg x y H Q ∨ (∃ a o, y = .ref a ∧ DGet H a x o ∧ Q (.bl (if neg then !o.isSome else o.isSome)) H) ∨ ∃ a kvs, y = .ref a ∧ x = .non ∧ Rd H a (.dK kvs) ∧ Q (.bl neg) H
theorem op_INDK {X : Cx} (K : PySem.W.Frag) (P : Program) (w : World) (h1 : X.K = K) (h2 : X.prog = P) (h3 : X.w = w) (hu : X.A.units + 65 < cLine) : OpR X (compareOp .In) (rIND K P w false) := by
  subst h1; subst h2; subst h3
  intro pins s σ H x y v u Q I rx ry h
  rcases h with h | ⟨a, o, ey, g, q⟩ | ⟨a, kvs, ey, ex, g, q⟩
  · exact op_IN hu pins s σ H x y v u Q I rx ry h
  · subst ey
    obtain rfl : u = Value.ref a := ry
    exact d_in (by omega) I g rx fun s3 I3 => ⟨.bl o.isSome, H, I3, rfl, q⟩
  · subst ey; subst ex
    obtain rfl : u = Value.ref a := ry
    obtain rfl : v = Value.none := rx
    exact d_inNone I g fun s3 I3 => ⟨.bl false, H, I3, rfl, q⟩
theorem op_NINDK {X : Cx} (K : PySem.W.Frag) (P : Program) (w : World) (h1 : X.K = K) (h2 : X.prog = P) (h3 : X.w = w) (hu : X.A.units + 65 < cLine) : OpR X (compareOp .NotIn) (rIND K P w true) := by
  subst h1; subst h2; subst h3
  intro pins s σ H x y v u Q I rx ry h
  rcases h with h | ⟨a, o, ey, g, q⟩ | ⟨a, kvs, ey, ex, g, q⟩
  · exact op_NIN hu pins s σ H x y v u Q I rx ry h
  · subst ey
    obtain rfl : u = Value.ref a := ry
    exact d_notIn (by omega) I g rx fun s3 I3 => ⟨.bl (!o.isSome), H, I3, rfl, q⟩
  · subst ey; subst ex
    obtain rfl : u = Value.ref a := ry
    obtain rfl : v = Value.none := rx
    exact d_notInNone I g fun s3 I3 => ⟨.bl true, H, I3, rfl, q⟩
theorem r3_inL {neg : Bool} {x y : D} (h : R3 B (rIN K P w neg) x y M Q) : R3 B (rIND K P w neg) x y M Q := fun F H xv yv Qv b st rx ry k => .inl (h F H xv yv Qv b st rx ry k)
theorem OptR.isSome {F : Hp} {o : Option D} {ov : Option V} (r : OptR F o ov) : o.isSome = ov.isSome := by
  cases o <;> cases ov <;> first | rfl | exact r.elim
theorem r3_inD {neg : Bool} {x y : D} {o : Option D} (g : GetD M y x o) (q : Q (.bl (if neg then !o.isSome else o.isSome)) M) : R3 B (rIND K P w neg) x y M Q := fun F H xv yv Qv b st rx ry k => by
  obtain ⟨a, ov, ey, g2, r⟩ := g.at st ry rx
  refine .inr (.inl ⟨a, ov, ey, g2, ?_⟩)
  rw [← r.isSome]
  exact k F M (.bl _) _ H (Ex.refl _) st rfl q
theorem r3_inN {neg : Bool} {a : Addr} {kvs : List (Key × D)} (hm : M a = some (.dK kvs)) (q : Q (.bl neg) M) : R3 B (rIND K P w neg) .non (.ref a) M Q := fun F H xv yv Qv b st rx ry k => by
  obtain ⟨_, ho, h1, kv, e, pk⟩ := st.own a _ hm
  subst e
  exact .inr (.inr ⟨a, kv, ry, rx, .inl h1, k F M (.bl neg) _ H (Ex.refl _) st rfl q⟩)
end
end T3
set_option Elab.async false
set_option linter.all false
set_option maxRecDepth 100000
set_option maxHeartbeats 2000000
namespace L2
open PySem PySem.Spec PyProof.Rows
/-! ### methods whose exceptions are looked at where they arise; keywords -/
def tMethT (C : Addr) (m : Str) (sp : Sp) (dvs : List V) (E : St → XK) (ta : TE) (t : TA) : TE := fun σ H Q => ta σ H fun x H1 => ∃ a dx fs, x = .ref a ∧ H1 a = some (.ins C dx fs) ∧ fs.lookup m = none ∧
  t σ H1 fun vs H2 => sp (x :: (vs ++ dvs)) H2 Q (E σ)
def tMethN (C : Addr) (m : Str) (n k : Nat) (sp : Sp) (gV : List V → List V → List V) (E : St → XK) (ta : TE) (t tk : TA) : TE := fun σ H Q => ta σ H fun x H1 => ∃ a dx fs, x = .ref a ∧ H1 a = some (.ins C dx fs) ∧ fs.lookup m = none ∧
  t σ H1 fun vs H2 => tk σ H2 fun zs H3 => vs.length + 1 = n ∧ zs.length = k ∧ sp (gV (x :: vs) zs) H3 Q (E σ)
section
variable {X : Cx} {CX : CXT} {k n : Nat} {C f : Addr} {fd : FuncData} {ps ks : List Str} {sp : Sp} {dvs : List V} {ds : List Value} {E : St → XK} {m : Str} {e o : Expr} {es : List Expr} {kws : List Keyword} {apos pos : Pos} {ta : TE} {t tk : TA}
  {g : List Value → List Value → List Value} {gV : List V → List V → List V}
theorem run_fnT {pins : List (Addr × Obj)} {σ : St} {H : Hp} {s : Shared} {Q : VK} {us : List Value} {vs : List V} (F : FnOk X.prog X.w X.K X.mg X.base CX k f fd ps sp) (hr : Room k X.A) (hb : Binds X.K fd ps ds) (hd : Vals dvs ds) (hx : PassesAt CX X σ (E σ))
    (I : Inv X pins σ H s) (r : Vals vs us) (h : sp (vs ++ dvs) H Q (E σ)) : wpAny (model X.prog X.w) X.A (call (.ref f) us) (EP X pins σ Q) X.xe s := by
  have r2 : Vals (vs ++ dvs) (us ++ ds) := r.append hd
  have hl : (us ++ ds).length = ps.length := by rw [← r2.length]; exact F.len _ _ _ _ h
  refine wpAny_call (codeAny_mono (F.run X.A X.stack s H ⟨us, []⟩ (us ++ ds) (vs ++ dvs) Q (E σ) hr I.env0 (hb s us I.kIn hl) r2 h) fun r s' hq => ?_)
  cases r with
  | error e => exact hx pins H s e s' I hq
  | ok fl =>
    cases fl with
    | ret u => exact I.after hq
    | next => exact False.elim hq
    | brk => exact False.elim hq
    | cont => exact False.elim hq
theorem pe_methT {pl : Sem Bool} (he : PE X o ta) (c : Cls X.K C) (hm : Meth X.K C m f) (F : FnOk X.prog X.w X.K X.mg X.base CX k f fd ps sp) (hr : Room k X.A) (hb : Binds X.K fd ps ds) (hd : Vals dvs ds) (hx : ∀ σ, PassesAt CX X σ (E σ)) (ha : PA X (e :: es) t)
    (hst : starEach (e :: es) X.env = (false, eval e X.env) :: starEach es X.env := by rfl) (hpl : (backTo pos (starEach es X.env)).any (·.1) = false := by rfl)
    (ht : eval (.Call (.Attribute o m apos) (e :: es) [] pos) X.env = (do
      let ov ← eval o X.env
      standAt apos.atName
      let (f, first) ← holding [ov] (getMethod ov m pl)
      callWith pos f first (backTo pos (starEach (e :: es) X.env)) (backToKw pos (keywordEach [] X.env))) := by rfl) :
    PE X (.Call (.Attribute o m apos) (e :: es) [] pos) (tMethT C m sp dvs E ta t) := by
  refine ⟨fun pins s σ H Q I h => ?_⟩
  refine PySem.W.methodCall_KW (pl := pl) (thn (he.run pins s σ H _ I h) fun u s1 ⟨x, H1, I1, rx, a, dx, fs, ex, ea, l, q⟩ => ?_) ht
  subst ex
  obtain rfl : u = Value.ref a := rx
  refine getmeth_ok I1 ea c hm l ?_
  refine PySem.W.callWith_K (first := [.ref a]) (h₀ := X.base) I.ok.mod.kin hm.kp (thn (ha.run pos pins s1 σ H1 _ I1 q) fun us s2 ⟨vs, H2, I2, r, q2⟩ => ⟨I2.kIn, ?_⟩) hst hpl
  exact run_fnT (us := .ref a :: us) (vs := .ref a :: vs) F hr hb hd (hx σ) I2 (.cons rfl r) q2
theorem run_fnNT {pins : List (Addr × Obj)} {σ : St} {H : Hp} {s : Shared} {Q : VK} {us ws : List Value} {vs zs : List V} (F : FnOk X.prog X.w X.K X.mg X.base CX k f fd ps sp) (hr : Room k X.A) (hb : KBn X.K fd ps n ks g gV) (hx : PassesAt CX X σ (E σ))
    (I : Inv X pins σ H s) (r : Vals vs us) (rz : Vals zs ws) (l1 : vs.length = n) (l2 : zs.length = ks.length) (h : sp (gV vs zs) H Q (E σ)) : wpAny (model X.prog X.w) X.A (call (.ref f) us (ks.zip ws)) (EP X pins σ Q) X.xe s := by
  have r2 := hb.rel r rz
  refine wpAny_call (codeAny_mono (F.run X.A X.stack s H ⟨us, ks.zip ws⟩ (g us ws) (gV vs zs) Q (E σ) hr I.env0 (hb.to s us ws I.kIn (r.length.symm.trans l1) (rz.length.symm.trans l2)) r2 h) fun r s' hq => ?_)
  cases r with
  | error e => exact hx pins H s e s' I hq
  | ok fl =>
    cases fl with
    | ret u => exact I.after hq
    | next => exact False.elim hq
    | brk => exact False.elim hq
    | cont => exact False.elim hq
theorem pe_methN {pl : Sem Bool} (he : PE X o ta) (c : Cls X.K C) (hm : Meth X.K C m f) (F : FnOk X.prog X.w X.K X.mg X.base CX k f fd ps sp) (hr : Room k X.A) (hb : KBn X.K fd ps n ks g gV) (hx : ∀ σ, PassesAt CX X σ (E σ)) (ha : PA X (e :: es) t) (hkw : PK X kws tk)
    (hall : (backToKw pos (keywordEach kws X.env)).all (·.1.isSome) = true := by rfl) (hks : (backToKw pos (keywordEach kws X.env)).filterMap (·.1) = ks := by rfl)
    (hst : starEach (e :: es) X.env = (false, eval e X.env) :: starEach es X.env := by rfl) (hpl : ((backTo pos (starEach (e :: es) X.env)).any (·.1) || (backToKw pos (keywordEach kws X.env)).any (·.1.isNone)) = false := by rfl)
    (ht : eval (.Call (.Attribute o m apos) (e :: es) kws pos) X.env = (do
      let ov ← eval o X.env
      standAt apos.atName
      let (f, first) ← holding [ov] (getMethod ov m pl)
      callWith pos f first (backTo pos (starEach (e :: es) X.env)) (backToKw pos (keywordEach kws X.env))) := by rfl) :
    PE X (.Call (.Attribute o m apos) (e :: es) kws pos) (tMethN C m n ks.length sp gV E ta t tk) := by
  refine ⟨fun pins s σ H Q I h => ?_⟩
  refine PySem.W.methodCall_KW (pl := pl) (thn (he.run pins s σ H _ I h) fun u s1 ⟨x, H1, I1, rx, a, dx, fs, ex, ea, l, q⟩ => ?_) ht
  subst ex
  obtain rfl : u = Value.ref a := rx
  refine getmeth_ok I1 ea c hm l ?_
  refine PySem.W.callWith_KW (first := [.ref a]) (h₀ := X.base) I.ok.mod.kin hm.kp hall (thn (ha.run pos pins s1 σ H1 _ I1 q) fun us s2 ⟨vs, H2, I2, r, q2⟩ => ?_) hpl hst
  refine thn (hkw.run pos pins s2 σ H2 _ I2 q2) fun ws s3 ⟨zs, H3, I3, rz, l1, l2, q3⟩ => ⟨I3.kIn, ?_⟩
  rw [hks]
  exact run_fnNT (us := .ref a :: us) (vs := .ref a :: vs) F hr hb (hx σ) I3 (.cons rfl r) rz l1 l2 q3
theorem passes_at {E : XK} (h : Passes CX X E) : ∀ σ, PassesAt CX X σ ((fun _ => E) σ) := fun σ pins H s e s' I c => h pins σ H s e s' I c
end
end L2
namespace T3
open PySem L2
open Evl (Ex)
section
variable {B : Hp} {M : Mem} {K : PySem.W.Frag} {σ : Sig} {t tk : TA} {ta tv te : TE} {Q : DQ} {S : Sp3} {E3 : EQ3} {dds : List D} {dvs : List V} {P : Program} {w : World} {D3 : Ends3}
theorem w_methT {C : Addr} {m : Str} {W : WX} {EW : EW3} (hd : ∀ F, RDs F dds dvs) (hW : ImpW B EW W) (h : W3e B ta σ M (fun x M1 => ∃ fs, InsD M1 x C fs ∧ fs.lookup m = none ∧ W3a B t σ M1 (fun ds M2 => S (x :: (ds ++ dds)) M2 Q (fun C th M' => EW C th σ M')))) : W3e B (tMethT C m (lift3 S) dvs (WE W) ta t) σ M Q := fun F σv H Qv b hs st k =>
  h F σv H _ b hs st fun F1 M1 x xv H1 e1 st1 rx ⟨fs, hi, l, q1⟩ => by
    obtain ⟨a, dx, fv, ev, ha, pk⟩ := hi.at st1 rx
    refine ⟨a, dx, fv, ev, ha, (pkv_look pk).2 l, q1 F1 σv H1 _ (b.trans e1) (hs.mono e1) st1 fun F2 M2 ds vs H2 e2 st2 rs q2 => ?_⟩
    exact ⟨x :: (ds ++ dds), F2, M2, Q, _, ⟨xv, _, rfl, rx.mono e2, rs.append (hd F2)⟩, st2, fun F3 M3 d v H3 e3 => k F3 M3 d v H3 ((e1.trans e2).trans e3),
      fun F' M' C d thing v H' e s r z q' => hW F' M' σ σv C d thing v H' ((b.trans (e1.trans e2)).trans e) ((hs.mono (e1.trans e2)).mono e) s r z q', q2⟩
/-- the keywords' values put in their places, alike for both -/
def Put2 (gV : List V → List V → List V) (gD : List D → List D → List D) : Prop := ∀ F vs ds zs es, RDs F ds vs → RDs F es zs → RDs F (gD ds es) (gV vs zs)
theorem w_methN {C : Addr} {m : Str} {n k' : Nat} {gV : List V → List V → List V} {gD : List D → List D → List D} {W : WX} {EW : EW3} (hg : Put2 gV gD) (hW : ImpW B EW W)
    (h : W3e B ta σ M (fun x M1 => ∃ fs, InsD M1 x C fs ∧ fs.lookup m = none ∧ W3a B t σ M1 (fun ds M2 => W3a B tk σ M2 (fun es M3 => ds.length + 1 = n ∧ es.length = k' ∧ S (gD (x :: ds) es) M3 Q (fun C th M' => EW C th σ M'))))) : W3e B (tMethN C m n k' (lift3 S) gV (WE W) ta t tk) σ M Q := fun F σv H Qv b hs st k =>
  h F σv H _ b hs st fun F1 M1 x xv H1 e1 st1 rx ⟨fs, hi, l, q1⟩ => by
    obtain ⟨a, dx, fv, ev, ha, pk⟩ := hi.at st1 rx
    refine ⟨a, dx, fv, ev, ha, (pkv_look pk).2 l, q1 F1 σv H1 _ (b.trans e1) (hs.mono e1) st1 fun F2 M2 ds vs H2 e2 st2 rs q2 => q2 F2 σv H2 _ (b.trans (e1.trans e2)) (hs.mono (e1.trans e2)) st2 fun F3 M3 es zs H3 e3 st3 rz ⟨l1, l2, q3⟩ => ?_⟩
    refine ⟨by rw [← rs.length]; exact l1, by rw [← rz.length]; exact l2, gD (x :: ds) es, F3, M3, Q, _, hg _ _ _ _ _ ⟨xv, _, rfl, (rx.mono e2).mono e3, rs.mono e3⟩ rz, st3, fun F4 M4 d v H4 e4 => k F4 M4 d v H4 ((e1.trans (e2.trans e3)).trans e4),
      fun F' M' C d thing v H' e s r z q' => hW F' M' σ σv C d thing v H' ((b.trans (e1.trans (e2.trans e3))).trans e) ((hs.mono (e1.trans (e2.trans e3))).mono e) s r z q', q3⟩
/-- a store to a property -/
theorem s_propset {C : Addr} {W : WX} {EW : EW3} (hW : ImpW B EW W) (h : W3e B tv σ M (fun y M1 => W3e B ta σ M1 (fun x M2 => ∃ fs, InsD M2 x C fs ∧ S [x, y] M2 (fun _ M3 => D3.nx σ M3) (fun C th M' => EW C th σ M')))) : W3s B (tPropSet C (lift3 S) (WE W) ta tv) D3 σ M := fun F σv H Dv b hs st im =>
  h F σv H _ b hs st fun F1 M1 y yv H1 e1 st1 ry q1 => q1 F1 σv H1 _ (b.trans e1) (hs.mono e1) st1 fun F2 M2 x xv H2 e2 st2 rx ⟨fs, hi, q2⟩ => by
    obtain ⟨a, dx, fv, ev, ha, pk⟩ := hi.at st2 rx
    refine ⟨a, dx, fv, ev, ha, [x, y], F2, M2, _, _, ?_, st2, fun F3 M3 d v H3 e3 st3 rd q => im.nx F3 M3 σ σv H3 ((e1.trans e2).trans e3) (hs.mono ((e1.trans e2).trans e3)) st3 q,
      fun F' M' C d thing v H' e s r z q' => hW F' M' σ σv C d thing v H' ((b.trans (e1.trans e2)).trans e) ((hs.mono (e1.trans e2)).mono e) s r z q', q2⟩
    rw [← ev]
    exact ⟨xv, _, rfl, rx, _, _, rfl, ry.mono e2, rfl⟩
/-- a constant of a class -/
theorem w_cval {f : Str} {i : Int} {C : Addr} {mc u : Value} (hC : ClX.CRead K C mc) (hv : ClX.CVal K C mc f (.int i) u) (h : W3e B ta σ M (fun x M1 => x = .ref C ∧ Q (.int i) M1)) : W3e B (ClX.tCVal K ta f) σ M Q := fun F σv H Qv b hs st k =>
  h F σv H _ b hs st fun F1 M1 x xv H1 e1 st1 rx ⟨ex, q⟩ => by
    subst ex
    exact ⟨C, mc, .int i, u, rx, hC, hv, k F1 M1 (.int i) _ H1 e1 st1 rfl q⟩
/-- len, of dicts too -/
def rLEND (K : PySem.W.Frag) : List V → Hp → VK → Prop := fun xs H Q => rLEN K xs H Q ∨ ∃ a kvs, xs = [V.ref a] ∧ H a = some (.dK kvs) ∧ Q (.int kvs.length) H
theorem call_lenDK {X : Cx} (K : PySem.W.Frag) (h : X.K = K) : CallR X (.builtin "len") (rLEND K) := by
  subst h
  intro pins s σ H xs us Q I r h
  rcases h with h | h
  · exact call_len pins s σ H xs us Q I r h
  · exact call_lenD pins s σ H xs us Q I r h
theorem c3_lenL {x : D} (h : C3 B (rLEN K) [x] M Q) : C3 B (rLEND K) [x] M Q := fun F H xv Qv b st rx k => .inl (h F H xv Qv b st rx k)
theorem c3_lenD {a : Addr} {kvs : List (Key × D)} (hm : M a = some (.dK kvs)) (q : Q (.int kvs.length) M) : C3 B (rLEND K) [.ref a] M Q := fun F H xv Qv b st rx k => by
  obtain ⟨v, e, r⟩ := rx.sing
  obtain ⟨_, ho, h1, kv, e2, pk⟩ := st.own a _ hm
  subst e2
  exact .inr ⟨a, kv, by rw [e, show v = V.ref a from r], h1, by rw [← pkv_length pk]; exact k F M (.int _) _ H (Ex.refl _) st rfl q⟩
/-- over a text -/
def signs (z : Str) : List D := z.cps.toList.map fun c => D.str ⟨#[c]⟩
theorem i_str {Q : List D → (Mem → Prop) → Mem → Prop} (h : W3e B te σ M (fun x M1 => ∃ z, x = .str z ∧ Q (signs z) (fun _ => True) M1)) : W3i B (iStr te) σ M Q := fun F σv H R b hs st k =>
  h F σv H _ b hs st fun F1 M1 x xv H1 e1 st1 rx ⟨z, ex, q⟩ => by
    subst ex
    refine ⟨z, rx, k F1 M1 (Its z) (signs z) _ H1 e1 st1 ⟨fun _ => True, _, WD.len (F := F1) (vs := []) walk_str (by unfold signs; rw [List.length_map, Array.length_toList]), fun _ _ _ _ _ _ => trivial, ?_, fun _ _ _ _ _ => trivial⟩ q⟩
    intro i d x H' H'' F' M' hd e s _ y
    obtain ⟨y1, c, hc, ev⟩ := y
    subst y1
    refine ⟨F', Ex.refl _, s, ?_⟩
    unfold signs at hd
    rw [List.getElem?_map] at hd
    obtain ⟨c', h1, h2⟩ := Option.map_eq_some_iff.mp hd
    rw [Array.getElem?_toList, hc] at h1
    cases h1
    subst h2
    exact ev
/-- list(d.items()) -/
theorem w_items (h : W3e B te σ M (fun x M1 => ∃ a kvs, x = .ref a ∧ M1 a = some (.dK kvs) ∧ Q (.lst (kvs.map fun p => .tup [kD p.1, p.2])) M1)) : W3e B (LiI.tListItems te) σ M Q := fun F σv H Qv b hs st k =>
  h F σv H _ b hs st fun F1 M1 x xv H1 e1 st1 rx ⟨a, kvs, ex, hm, q⟩ => by
    subst ex
    obtain ⟨_, ho, h1, kv, e2, pk⟩ := st1.own a _ hm
    subst e2
    refine ⟨a, kv, rx, h1, fun H' p ts ext np nts pts hp hpair => ?_⟩
    -- the frozen heap with the new list and its pairs
    let F2 : Hp := fun c => if c = p ∨ c ∈ ts then H' c else F1 c
    have hF1 : ∀ c, F1 c ≠ none → ¬ (c = p ∨ c ∈ ts) := fun c hc hh => by
      cases hf : F1 c with
      | none => exact hc hf
      | some o =>
        have := st1.fz c o hf
        rcases hh with rfl | hh
        · rw [np] at this; cases this
        · rw [nts c hh] at this; cases this
    have e12 : Ex F1 F2 := fun c o hc => by
      show (if c = p ∨ c ∈ ts then H' c else F1 c) = some o
      rw [if_neg (hF1 c (by rw [hc]; exact Option.some_ne_none o)), hc]
    have st2 : St3 F2 M1 H' := by
      refine ⟨fun c o hc => ?_, fun c o hc => ?_⟩
      · have hc : (if c = p ∨ c ∈ ts then H' c else F1 c) = some o := hc
        split at hc
        · exact hc
        · exact ext c o (st1.fz c o hc)
      · obtain ⟨hn, ho, hh, r⟩ := st1.own c o hc
        refine ⟨?_, ho, ext c ho hh, r.mono e12⟩
        show (if c = p ∨ c ∈ ts then H' c else F1 c) = none
        rw [if_neg, hn]
        rintro (rfl | hm)
        · rw [np] at hh; cases hh
        · rw [nts c hm] at hh; cases hh
    have key : ∀ (kvs : List (Key × D)) (kv : List (Key × V)) (us : List Addr), PKV F1 kvs kv → Paired (fun (t : Addr) (q : Key × V) => H' t = some (.tup [kV q.1, q.2])) us kv → (∀ t ∈ us, t ∈ ts) → RDs F2 (kvs.map fun p => .tup [kD p.1, p.2]) (us.map V.ref) := by
      intro kvs
      induction kvs with
      | nil =>
        intro kv us pk pr _
        cases pk; cases pr; rfl
      | cons x kvs ih =>
        intro kv us pk pr hin
        match kv, us, pk, pr with
        | y :: kv, u :: us, .cons hx pk, .cons hy pr =>
            refine ⟨.ref u, us.map V.ref, rfl, ⟨u, [kV y.1, y.2], rfl, ?_, ⟨kV y.1, [y.2], rfl, ?_, ⟨y.2, [], rfl, hx.2.mono e12, rfl⟩⟩⟩, ih _ _ pk pr fun t ht => hin t (List.mem_cons_of_mem _ ht)⟩
            · show (if u = p ∨ u ∈ ts then H' u else F1 u) = _
              rw [if_pos (.inr (hin _ (List.mem_cons_self ..)))]
              exact hy
            · have e := hx.1
              rw [← e]
              cases x.1 <;> rfl
    refine k F2 M1 (.lst (kvs.map fun p => .tup [kD p.1, p.2])) (.ref p) H' (e1.trans e12) st2 ⟨p, ts.map V.ref, rfl, ?_, key _ _ _ pk hpair fun _ h => h⟩ q
    show (if p = p ∨ p ∈ ts then H' p else F1 p) = _
    rw [if_pos (.inl rfl)]
    exact hp
end
end T3
namespace T3
open PySem L2
theorem pe_fldK {X : Cx} {e : Expr} {ta : TE} {f : Str} {pos : Pos} (K : PySem.W.Frag) (h : X.K = K) (he : PE X e ta) (hb : attributeBase e f X.env (eval e X.env) = eval e X.env := by rfl) : PE X (.Attribute e f pos) (tFld K ta f) := by subst h; exact pe_fld he hb
theorem pe_cvalK {X : Cx} {e : Expr} {ta : TE} {f : Str} {pos : Pos} (K : PySem.W.Frag) (h : X.K = K) (he : PE X e ta) (hb : attributeBase e f X.env (eval e X.env) = eval e X.env := by rfl) : PE X (.Attribute e f pos) (ClX.tCVal K ta f) := by subst h; exact ClX.pe_cval he hb
end T3
set_option Elab.async false
set_option linter.all false
namespace T3
open PySem L2
open Evl (Ex)
section
variable {B : Hp} {M : Mem} {σ : Sig} {ta : TA} {Q : List D → (Mem → Prop) → Mem → Prop}
theorem i_rng3 (h : W3a B ta σ M (fun xs M1 => ∃ (i j c : Int) (n : Nat), xs = [.int i, .int j, .int c] ∧ RgC i j c n ∧ Q ((List.range n).map fun (k : Nat) => D.int (i + (k : Nat) * c)) (fun _ => True) M1)) : W3i B (iRng3 ta) σ M Q := fun F σv H R b hs st k =>
  h F σv H _ b hs st fun F1 M1 xs xv H1 e1 st1 rx ⟨i, j, c, n, ex, hr, q⟩ => by
    subst ex
    obtain ⟨v1, vs1, e, r1, v2, vs2, e', r2, v3, vs3, e'', r3, r4⟩ := rx
    subst e; subst e'; subst e''
    rw [show v1 = V.int i from r1, show v2 = V.int j from r2, show v3 = V.int c from r3, show vs3 = [] from r4]
    refine ⟨i, j, c, n, rfl, hr, k F1 M1 _ _ _ H1 e1 st1 ⟨fun _ => True, _, WD.len (F := F1) (ds := (List.range n).map fun (k : Nat) => D.int (i + (k : Nat) * c)) (vs := []) walk_rangeC (by simp), fun _ _ _ _ _ _ => trivial, ?_, fun _ _ _ _ z => z⟩ q⟩
    intro i' d x H' H'' F' M' hd e s _ ⟨y1, y2⟩
    subst y1
    refine ⟨F', Ex.refl _, s, ?_⟩
    rw [List.getElem?_map] at hd
    obtain ⟨k', h1, h2⟩ := Option.map_eq_some_iff.mp hd
    rw [List.getElem?_range (by have := (List.getElem?_eq_some_iff.mp h1).1; simpa using this)] at h1
    cases h1
    rw [← h2, y2]
    rfl
end
end T3
set_option Elab.async false
set_option linter.all false
namespace T3
open PySem L2
open Evl (Ex)
/-- slices of lists, texts and tuples -/
def rSLT (K : PySem.W.Frag) : V → Option Int → Option Int → Hp → VK → Prop := fun x lo hi H Q => rSL K x lo hi H Q ∨ rSlT K x lo hi H Q
theorem sl_SLTK {X : Cx} (K : PySem.W.Frag) (h : X.K = K) : SlR X (rSLT K) := by subst h; exact sl_SL.or sl_tup
section
variable {B : Hp} {M : Mem} {K : PySem.W.Frag} {σ : Sig} {te : TE} {Q : DQ} {ds : List D}
theorem s3_L {lo hi : Option Int} {x : D} (h : S3 B (rSL K) x lo hi M Q) : S3 B (rSLT K) x lo hi M Q := fun F H xv Qv b st rx k => .inl (h F H xv Qv b st rx k)
theorem s3_t {lo hi : Option Int} (hne : ¬ (HT.sIx ds.length 0 lo = 0 ∧ HT.sIx ds.length ds.length hi = ds.length)) (q : Q (.tup (cutD ds lo hi)) M) : S3 B (rSLT K) (.tup ds) lo hi M Q := fun F H xv Qv b st rx k => by
  obtain ⟨a, vs, e, h1, r⟩ := rx
  refine .inr ⟨a, vs, e, .inl (.inl (st.fz a _ h1)), by rw [← r.length]; exact hne, fun p hp => ?_⟩
  obtain ⟨s2, e2⟩ := st.new (o := .tup (cutV vs lo hi)) hp
  exact k _ _ (.tup (cutD ds lo hi)) _ _ e2 s2 ⟨p, _, rfl, upd_same, (r.cut lo hi).mono e2⟩ q
theorem i_tup {Q : List D → (Mem → Prop) → Mem → Prop} (h : W3e B te σ M (fun x M1 => ∃ ds, x = .tup ds ∧ Q ds (fun _ => True) M1)) : W3i B (iTup K te) σ M Q := fun F σv H R b hs st k =>
  h F σv H _ b hs st fun F1 M1 x xv H1 e1 st1 rx ⟨ds, ex, q⟩ => by
    subst ex
    obtain ⟨a, vs, ev, hf, rs⟩ := rx
    refine ⟨a, ev, ⟨vs, .inl (.inl (st1.fz a _ hf))⟩, k F1 M1 (Itt K a) ds _ H1 e1 st1 ⟨fun H => SqT K H a vs, YAt vs, WD.len (F := F1) (vs := vs) walk_tup rs.length.symm, ?_, ?_, fun _ _ _ _ z => z⟩ q⟩
    · intro F' M' H' e s _
      exact .inl (.inl (s.fz a _ (e a _ hf)))
    · intro i d x H' H'' F' M' hd e s _ y
      obtain ⟨y1, y2⟩ := y
      subst y1
      obtain ⟨v, hv, rv⟩ := rs.at hd
      rw [y2] at hv; cases hv
      exact ⟨F', Ex.refl _, s, rv.mono e⟩
end
end T3
set_option Elab.async false
set_option linter.all false
namespace T3
open PySem L2
open Evl (Ex)
section
variable {B : Hp} {M : Mem} {σ : Sig} {te : TE} {D3 : Ends3}
/-- x += e, whole numbers -/
theorem s_augI {i : Nat} {a : Int} (hx : σ[i]? = some (some (.int a))) (h : W3e B te σ M (fun y M1 => ∃ b : Int, y = .int b ∧ D3.nx (σ.set i (some (.int (a + b)))) M1)) : W3s B (tAug i te (ipI fun i j => i + j)) D3 σ M := fun F σv H Dv b hs st im => by
  obtain ⟨v, hv, rv⟩ := hs.2 i _ hx
  refine ⟨v, hv, h F σv H _ b hs st fun F1 M1 y yv H1 e1 st1 ry ⟨c, ey, q⟩ => ?_⟩
  subst ey
  refine ⟨a, c, rv, ry, ?_⟩
  exact im.nx F1 M1 _ _ H1 e1 ((hs.mono e1).set (d := .int (a + c)) (v := .int (a + c)) rfl) st1 q
end
end T3
set_option Elab.async false
set_option linter.all false
set_option maxRecDepth 100000
set_option maxHeartbeats 2000000
namespace L2
open PySem PySem.Spec PyProof.Rows ItX
/-! ### a def whose promise knows how large the heap was (for what it makes anew) -/
structure FnN (P : Program) (w : World) (K : PySem.W.Frag) (mg : Str → Option Value) (base : Heap) (CX : CXT) (k : Nat) (f : Addr) (fd : FuncData) (ps : List Str) (sp : Nat → Sp) : Prop where
  len : ∀ n vs H Q E, sp n vs H Q E → vs.length = ps.length
  run : ∀ (A : Around) (outer : List Env) (s : Shared) (H : Hp) (args : Args) (us : List Value) (vs : List V) (Q : VK) (E : XK), Room k A → Env0 P w K mg base A outer s H → BindsTo s fd args (ps.zip us) → Vals vs us →
    sp s.heap.objs.size vs H Q E → codeAny (model P w) A (.call (.ref f) args) (CR CX outer P w H s Q E) s
section
variable {X : Cx} {CX : CXT} {k : Nat} {C f : Addr} {fd : FuncData} {ps : List Str} {sp : Nat → Sp} {E : XK} {e tg : Expr} {te : TE}
def iOwn (K : PySem.W.Frag) (C : Addr) (sp : Nat → Sp) (E : XK) (te : TE) : TI := fun σ H R => te σ H fun x H1 => ∃ (a dx : Addr) (fs : List (Str × V)), x = V.ref a ∧ H1 a = some (.ins C dx fs) ∧
  ∀ n, sp n [.ref a] H1 (fun v H2 => ∃ (it l : Addr), v = V.ref it ∧ H2 it = some (ItO l it 0) ∧ n ≤ it ∧ R (ItlF K l 0) (dropH H2 it)) E
theorem pi_own (he : PE X e te) (hs : PySem.W.findIn X.K (.ref C) "__iter__" = some (some (.ref f))) (hf : PySem.W.isFn X.K (.ref f) = true) (F : FnN X.prog X.w X.K X.mg X.base CX k f fd ps sp) (hr : Room k X.A) (hb : Binds X.K fd ps []) (hx : Passes CX X E) :
    PI X tg e (iOwn X.K C sp E te) := by
  refine ⟨fun pins s σ H R I h => ?_⟩
  refine thn (he.run pins s σ H _ I h) fun u s1 ⟨x, H1, I1, rx, a, dx, fs, ex, ea, q⟩ => ?_
  subst ex
  obtain rfl : u = Value.ref a := rx
  obtain ⟨mA, O, _, _, _, _⟩ := ins_get I1.hok ea
  obtain ⟨od, J, _⟩ := O.look
  have KX := I1.kIn
  have q1 := q s1.heap.objs.size
  have hl : [Value.ref a].length = ps.length := by rw [← F.len _ _ _ _ _ q1]; rfl
  have b := hb s1 [.ref a] KX (by rw [List.append_nil]; exact hl)
  rw [List.append_nil] at b
  unfold pyIter
  refine wpAny_bind (wpAny_bind (J.type.here ((PySem.W.looks_findIn KX hs).here ?_)))
  dsimp only
  refine wpAny_bind ?_
  have call_ : wpAny (model X.prog X.w) X.A (call (.ref f) [.ref a]) (EP X pins σ (fun v H2 => ∃ (it l : Addr), v = V.ref it ∧ H2 it = some (ItO l it 0) ∧ s1.heap.objs.size ≤ it ∧ R (ItlF X.K l 0) (dropH H2 it))) X.xe s1 := by
    refine wpAny_call (codeAny_mono (F.run X.A X.stack s1 H1 ⟨[.ref a], []⟩ [.ref a] [.ref a] _ E hr I1.env0 b (.cons rfl .nil) q1) fun r s' hq => ?_)
    cases r with
    | error e => exact hx pins σ H1 s1 e s' I1 hq
    | ok fl =>
      cases fl with
      | ret u => exact I1.after hq
      | next => exact False.elim hq
      | brk => exact False.elim hq
      | cont => exact False.elim hq
  have tail : ∀ (v : Value) (s2 : Shared) (k : Option Value → Sem Value), (∀ r, k (some r) = pure v) → EP X pins σ (fun v H2 => ∃ (it l : Addr), v = V.ref it ∧ H2 it = some (ItO l it 0) ∧ s1.heap.objs.size ≤ it ∧ R (ItlF X.K l 0) (dropH H2 it)) v s2 →
      wpAny (model X.prog X.w) X.A (specialOf v "__next__" >>= k) (PIE X pins σ tg R) X.xe s2 := by
    rintro v s2 k hk ⟨y, H2, I2, ry, it, l, ey, hi, hn, hR⟩
    subst ey
    obtain rfl : v = Value.ref it := ry
    have eo := itO_get I2 hi
    have st : s2.heap.IsListIter it l (0 + 0) := ⟨_, eo, rfl, rfl⟩
    have hi' := hi
    unfold ItO at hi'
    refine wpAny_bind (wpAny_specialOf st.typeIs slot_listiter_next.lookup ?_)
    rw [hk]
    refine wpAny_pure ?_
    refine ⟨it, [it], _, _, dropH H2 it, rfl, inv_drop I2 hi', turn_listF l it 0, st, fun b hb => ?_, hR⟩
    have e : b = it := by simpa using hb
    rw [e]
    exact inv_fp I2 hi (Nat.le_trans I1.sz hn)
  unfold callSpecialIfBoundUnlessNone?
  refine wpAny_holding ?_
  simp only [bindSpecialIfBound?]
  refine wpAny_bind (wpAny_bind (wpAny_bind (J.type.here ((PySem.W.looks_findIn KX hs).here ?_))))
  refine wpAny_bind (wpAny_askSetting (wpAny_ite ?_))
  split
  · refine wpAny_bind ((PySem.W.bind_fn KX _ (beq_iff_eq.mp hf)).here (wpAny_pure ?_))
    dsimp only
    rw [if_neg (by simp)]
    exact wpAny_bind (wpAny_mono call_ (fun v s2 hv => wpAny_pure (tail v s2 _ (fun _ => rfl) hv)) fun _ _ z => z)
  · refine wpAny_tryCatch (wpAny_bind ((PySem.W.bind_fn KX _ (beq_iff_eq.mp hf)).here (wpAny_pure ?_)))
    dsimp only
    rw [if_neg (by simp)]
    exact wpAny_bind (wpAny_mono call_ (fun v s2 hv => wpAny_pure (tail v s2 _ (fun _ => rfl) hv)) fun _ _ z => z)
end
end L2
namespace L2
open PySem PySem.Spec PyProof.Rows ItX
/-- such a def by its body: the promise is asked at the size that stands when the body begins -/
theorem fn_ofN {CX : CXT} {P : Program} {w : World} {K : PySem.W.Frag} {mg : Str → Option Value} {base : Heap} {k : Nat} {f : Addr} {name qual : Str} {pars : Arguments} {bd : List Stmt} {scp : Scope} {dV kV doc pm cdv ct oc : Value} {an od : Option Addr}
    {osl : Array (Option Value)} {N ps : List Str} {sp : Nat → Sp} (look : K.lookup f = some ⟨oc, od, .func (PySem.W.fnOf name qual pars bd scp dV kV doc pm an cdv ct), osl⟩) (code : PySem.W.codeIn K cdv qual = true) (S : FnScope N ps scp)
    (ln : ∀ n vs H Q E, sp n vs H Q E → vs.length = ps.length)
    (bdy : ∀ (A : Around) (outer : List Env) (s : Shared) (H : Hp) (vs : List V) (Q : VK) (E : XK), Room k (A.deeper (envOfC qual scp s.heap.objs.size f cdv)) → sp s.heap.objs.size vs H Q E →
      ∃ t, PSs (cxOf CX P w K mg base N qual scp f cdv A outer s H E) bd t ∧ t { nx := fun _ H2 => Q .non H2, rt := Q } (start N vs) H) :
    FnN P w K mg base CX (k + 1) f (PySem.W.fnOf name qual pars bd scp dV kV doc pm an cdv ct) ps sp := by
  refine ⟨ln, fun A outer s H args us vs Q E room env bind rel prom => ?_⟩
  have same_ := ln _ _ _ _ _ prom
  have inK : K.In s.heap := env.mod.kin.keeps fun b o e => (env.bs b o e).1
  have noLim : s.heap.NoLimit := env.mod.nolimit.keeps fun b o e => (env.bs b o e).1
  have kinds_ : ∀ y ∈ ps.zip us, scp.names.lookup y.1 = some .local ∨ (scp.names.lookup y.1 = some .cell ∧ ((cellsFrom (s.heap.objs.size + 1) scp.names []).lookup y.1).isSome = true) := fun ⟨n, v⟩ hy => by
    rcases S.par n (List.of_mem_zip hy).1 with z | z
    · exact .inl z
    · exact .inr ⟨z, PySem.W.cellsFrom_some _ _ _ (.inl z)⟩
  refine codeAny_call_function room.depth (inK _ _ look) rfl S.co S.gen rfl (PySem.W.codeRec_of inK code) (bind _ _ _ _ ?_)
  refine wpAny_newFunctionEnv_cells S.kind kinds_ fun env2 he2 s1 x => ?_
  subst he2
  refine ⟨noLim.keeps x.toInCall.keep, codeAny_func ?_⟩
  obtain ⟨t, ht, hq⟩ := bdy A outer s H vs Q E (room.deeper _) prom
  have I : Inv (cxOf CX P w K mg base N qual scp f cdv A outer s H E) [] (start N vs) H s1 := inv_start S room.hd env same_ rel x
  refine wpAny_mono (ht.run [] s1 (start N vs) H _ I hq) (fun fl s2 out => ?_) fun _ _ out => out
  have close_ : ∀ {σ2 : St} {H2 : Hp} {v : V} {u : Value}, Inv (cxOf CX P w K mg base N qual scp f cdv A outer s H E) [] σ2 H2 s2 → RelV v u → Q v H2 → CE outer P w H s Q u s2 :=
    fun {σ2 H2 v u} J rv q => ⟨v, H2, J.os, J.bare, J.base, J.hok, rv, q⟩
  cases fl with
  | ret u =>
    obtain ⟨v, σ2, H2, J, rv, q⟩ := out
    exact close_ J rv q
  | next =>
    obtain ⟨σ2, H2, J, q⟩ := out
    exact close_ (v := V.non) (u := Value.none) J rfl q
  | brk =>
    rcases out with ⟨_, _, _, z⟩
    exact z.elim
  | cont =>
    rcases out with ⟨_, _, _, z⟩
    exact z.elim
theorem Fun.okN {P : Program} {w : World} {K : PySem.W.Frag} {mg : Str → Option Value} {base : Heap} {x qual : Str} {st : Stmt} {f : Addr} {fd : FuncData} {N ps : List Str} {k : Nat} {sp : Nat → Sp} (F : Fun K x qual st f fd) (S : FnScope N ps (defScope st)) (ln : ∀ n vs H Q E, sp n vs H Q E → vs.length = ps.length)
    (bdy : ∀ (cdv : Value) (A : Around) (outer : List Env) (s : Shared) (H : Hp) (vs : List V) (Q : VK) (E : XK), Room k (A.deeper (envOfC qual (defScope st) s.heap.objs.size f cdv)) → sp s.heap.objs.size vs H Q E →
      ∃ t, PSs (cxOf CX0 P w K mg base N qual (defScope st) f cdv A outer s H E).nox (defBody st) t ∧ t { nx := fun _ H2 => Q .non H2, rt := Q } (start N vs) H) : FnN P w K mg base CX0 (k + 1) f fd ps sp := by
  obtain ⟨oc, od, kV, doc, pm, an, cdv, ct, osl, rfl, lk, hcd⟩ := F.ex
  refine fn_ofN lk hcd S ln fun A outer s H vs Q E hr hsp => ?_
  obtain ⟨t, h, q⟩ := bdy cdv A outer s H vs Q E hr hsp
  exact ⟨t, h.nox, q⟩
end L2
set_option Elab.async false
set_option linter.all false
namespace T3
open PySem L2
open ItX
open Evl (Ex)
/-- what an __iter__ that hands out iter(self.f) promises, f a field with a list -/
def spIt (K : PySem.W.Frag) (C : Addr) (f : Str) : Nat → Sp := fun n vs H Q _ => ∃ (a dx : Addr) (fs : List (Str × V)) (l : Addr) (zs : List V), vs = [V.ref a] ∧ H a = some (.ins C dx fs) ∧ fs.lookup f = some (V.ref l) ∧ SqL K H l zs ∧
  ∀ it, H it = none → n ≤ it → Q (.ref it) (upd H it (ItO l it 0))
theorem itlF0 {K : PySem.W.Frag} {l : Addr} : ItlF K l 0 = Itl K l := by
  unfold ItlF
  simp only [Nat.zero_add]
section
variable {B : Hp} {M : Mem} {K : PySem.W.Frag} {σ : Sig} {te : TE} {Q : List D → (Mem → Prop) → Mem → Prop}
/-- walking an own instance whose __iter__ hands out its list's iterator -/
theorem i_own {C : Addr} {f : Str} {E : XK} (h : W3e B te σ M (fun x M1 => ∃ b fs l ds, x = .ref b ∧ M1 b = some (.ins C fs) ∧ fs.lookup f = some (.ref l) ∧ M1 l = some (.lst ds) ∧ Q ds (fun M => M l = some (.lst ds)) M1)) : W3i B (iOwn K C (spIt K C f) E te) σ M Q := fun F σv H R b hs st k =>
  h F σv H _ b hs st fun F1 M1 x xv H1 e1 st1 rx ⟨bb, fs, a, ds, ex, hb, hf, hm, q⟩ => by
    subst ex
    obtain ⟨_, ho0, h0, dx, fv, e0, pk⟩ := st1.own bb _ hb
    subst e0
    obtain ⟨v0, hv0, rv0⟩ := (pkv_look (f := f) pk).1 hf
    have rv0 : v0 = V.ref a := rv0
    subst rv0
    obtain ⟨_, ho, h1, vs, e2, rs⟩ := st1.own a _ hm
    subst e2
    refine ⟨bb, dx, fv, rx, h0, fun n => ⟨bb, dx, fv, a, vs, rfl, h0, hv0, .inl (.inl h1), fun it hit hn => ⟨it, a, rfl, upd_same, hn, ?_⟩⟩⟩
    rw [dropH_upd hit, itlF0]
    refine k F1 M1 (Itl K a) ds _ H1 e1 st1 ⟨fun H => ∃ us, SqL K H a us ∧ us.length = vs.length, fun i H x H' => H' = H ∧ ∀ us, SqL K H a us → us[i]? = some x, ?_, ?_, ?_, ?_⟩ q
    · rw [rs.length]
      exact ⟨fun i H hi ⟨us, g, hl⟩ => ⟨us, us[i], g, by simp [hl, hi]⟩, fun H ⟨us, g, hl⟩ => ⟨us, g, Nat.le_of_eq hl⟩, fun i H x H' hi g y => y⟩
    · intro F' M' H' e s p
      obtain ⟨_, ho, h1', us, e2, rs'⟩ := s.own a _ p
      subst e2
      exact ⟨us, .inl (.inl h1'), by rw [← rs'.length, rs.length]⟩
    · intro i d x H' H'' F' M' hd e s p ⟨y1, y2⟩
      subst y1
      obtain ⟨f0, ho, h1', us', e2, rs'⟩ := s.own a _ p
      subst e2
      obtain ⟨v, hv, rv⟩ := rs'.at hd
      rw [y2 us' (.inl (.inl h1'))] at hv; cases hv
      exact ⟨F', Ex.refl _, s, rv⟩
    · intro M' p o hp hm'
      show mput M' p o a = _
      rw [mput_ne (mne hm' hp)]; exact hm'
end
end T3
set_option Elab.async false
set_option linter.all false
set_option maxRecDepth 100000
set_option maxHeartbeats 2000000
namespace L2
open PySem PySem.Spec PyProof.Rows ItX
/-- list(o) of an own instance whose __iter__ hands out iter(self.f) and whose __len__ is len(self.f) -/
def spLen (C : Addr) (f : Str) : Sp := fun vs H Q _ => ∃ (a dx : Addr) (fs : List (Str × V)) (l : Addr) (zs : List V), vs = [V.ref a] ∧ H a = some (.ins C dx fs) ∧ fs.lookup f = some (V.ref l) ∧ H l = some (.lst zs) ∧ Q (.int zs.length) H
def rLO (C : Addr) (f : Str) : List V → Hp → VK → Prop := fun xs H Q => ∃ (a dx : Addr) (fs : List (Str × V)) (l : Addr) (zs : List V), xs = [V.ref a] ∧ H a = some (.ins C dx fs) ∧ fs.lookup f = some (V.ref l) ∧ H l = some (.lst zs) ∧
  ∀ q, H q = none → Q (.ref q) (upd H q (.lst zs))
section
variable {X : Cx} {pins : List (Addr × Obj)} {σ : St} {H : Hp} {s : Shared} {C f fi fl l q it : Addr} {fdI fdL : FuncData} {psI psL : List Str} {g : Str} {n : Nat} {A1 : Around} {Rs : Result → Shared → Prop}
theorem lo_loop (sb : Sub X n A1.in1) (hc : A1.in1.handled = none) (hql : q ≠ l) (hqi : q ≠ it) {zs : List V} (hdone : ∀ s, Inv X pins σ (upd H q (.lst zs)) s → Rs (.ok (.ret .none)) s) (hl : H l = some (.lst zs)) (hf : FpOk X pins H it) :
    ∀ (k i : Nat) (s : Shared), i + k = zs.length → Inv X pins σ (upd H q (.lst (zs.take i))) s → s.heap.IsListIter it l i → codeAny (model X.prog X.w) A1 (.builtin "list.extend.loop" ⟨[.ref q, .ref it, .none], []⟩) Rs s := by
  obtain ⟨f0, f1, f2, f3, f4, f5⟩ := hf
  intro k
  induction k with
  | zero =>
    intro i s hk I st
    have hl' : upd H q (.lst (zs.take i)) l = some (.lst zs) := by rw [upd_ne (Ne.symm hql)]; exact hl
    have f0' : upd H q (.lst (zs.take i)) it = none := by rw [upd_ne (Ne.symm hqi)]; exact f0
    refine codeAny_builtin PySem.F.entry_extend_loop ?_
    rw [Around.under_plainId PySem.F.plain_extend_loop _]
    show wpAny _ A1.in1 (pyNext (.ref it) >>= _) _ _ s
    obtain ⟨_, its, c, rv, hlen, e⟩ := I.lstM hl'
    refine wpAny_bind (wpAny_pyNext_list_end hc st (PySem.IsL.isList e) (by simp; omega) fun h' eb => ?_)
    have I1 := I.turned (t' := s.toks) (fun b o hb e => eb b o hb e) f0' f1 f3 f4 f5
    rw [List.take_of_length_le (by omega)] at I1
    exact wpAny_pure (hdone _ I1)
  | succ k ih =>
    intro i s hk I st
    have hl' : upd H q (.lst (zs.take i)) l = some (.lst zs) := by rw [upd_ne (Ne.symm hql)]; exact hl
    have f0' : upd H q (.lst (zs.take i)) it = none := by rw [upd_ne (Ne.symm hqi)]; exact f0
    refine codeAny_builtin PySem.F.entry_extend_loop ?_
    rw [Around.under_plainId PySem.F.plain_extend_loop _]
    show wpAny _ A1.in1 (pyNext (.ref it) >>= _) _ _ s
    obtain ⟨hsz, its, c, rv, hlen, e⟩ := I.lstM hl'
    obtain ⟨x, hx⟩ : ∃ x, zs[i]? = some x := ⟨zs[i], List.getElem?_eq_getElem (by omega)⟩
    obtain ⟨u, hu, ru⟩ := rv.get hx
    refine wpAny_bind (wpAny_pyNext_list_item st (PySem.IsL.isList e) (x := u) (by simpa using hu) fun h' st' sb' => ?_)
    have I1 : Inv X pins σ (upd H q (.lst (zs.take i))) { s with heap := h' } := I.turned (t' := s.toks) (fun b o hb e => (sb'.2 b hb).trans e) f0' f1 f3 f4 f5
    show wpAny _ A1.in1 (updateSeq q (·.push u) >>= _) _ _ _
    obtain ⟨hs3, its3, k3, r3, hl3, e3⟩ := I1.lstM upd_same
    have h3 : its3.length = i := by rw [← hl3, List.length_take]; omega
    refine wpAny_bind (wpAny_updateSeq e3 rfl (wpAny_pure ⟨plainId_quiet PySem.F.plain_extend_loop _, ?_⟩) (by rw [List.size_toArray]; omega) (by show (its3.toArray.push u).size ≤ sizeLine + 1; rw [Array.size_push, List.size_toArray]; omega))
    have I2 := I1.lset (f := (·.push u)) (its' := its3 ++ [u]) (t' := s.toks) (ys := zs.take i ++ [x]) upd_same e3 (by simp) (r3.append (.cons ru .nil)) (by rw [List.length_append, List.length_singleton, List.length_take]; omega)
    rw [upd_upd] at I2
    have ht : zs.take i ++ [x] = zs.take (i + 1) := by
      rw [List.take_add_one, hx]; rfl
    rw [ht] at I2
    exact ih (i + 1) _ (by omega) I2 (st'.at fun o e => (Heap.get?_update_other _ _ hqi).trans e)
theorem own_iter {a dx : Addr} {fs : List (Str × V)} {sp : Nat → Sp} {E : XK} {R : Addr → Addr → Hp → Prop} {Q : Value → Shared → Prop} {EE : Value → Shared → Prop} (sb : Sub X n A1) (hs : PySem.W.findIn X.K (.ref C) "__iter__" = some (some (.ref fi))) (hf : PySem.W.isFn X.K (.ref fi) = true)
    (F : FnN X.prog X.w X.K X.mg X.base CX0 n fi fdI psI sp) (hb : Binds X.K fdI psI []) (I1 : Inv X pins σ H s) (ea : H a = some (.ins C dx fs))
    (q1 : sp s.heap.objs.size [.ref a] H (fun v H2 => ∃ (it l : Addr), v = V.ref it ∧ H2 it = some (ItO l it 0) ∧ s.heap.objs.size ≤ it ∧ R it l H2) E)
    (k : ∀ it l H2 s2, Inv X pins σ H2 s2 → H2 it = some (ItO l it 0) → s.heap.objs.size ≤ it → R it l H2 → Q (.ref it) s2) : wpAny (model X.prog X.w) A1 (pyIter (.ref a)) Q EE s := by
  obtain ⟨mA, O, _, _, _, _⟩ := ins_get I1.hok ea
  obtain ⟨od, J, _⟩ := O.look
  have KX := I1.kIn
  have hl : [Value.ref a].length = psI.length := by rw [← F.len _ _ _ _ _ q1]; rfl
  have b := hb s [.ref a] KX (by rw [List.append_nil]; exact hl)
  rw [List.append_nil] at b
  have e0 : Env0 X.prog X.w X.K X.mg X.base A1 X.stack s H := by
    have e := I1.env0
    exact ⟨by rw [sb.fr]; exact e.frames, e.mod, e.bs, e.bsz, e.funs, e.frf, e.hok, e.bare⟩
  obtain ⟨m0, hF⟩ := I1.fr
  refine PySem.W.owit_iter hF I1.ok.mod.kin J hs hf ?_
  have call_ : wpAny (model X.prog X.w) A1 (call (.ref fi) [.ref a]) (EP X pins σ (fun v H2 => ∃ (it l : Addr), v = V.ref it ∧ H2 it = some (ItO l it 0) ∧ s.heap.objs.size ≤ it ∧ R it l H2)) EE s := by
    refine wpAny_call (codeAny_mono (F.run A1 X.stack s H ⟨[.ref a], []⟩ [.ref a] [.ref a] _ E sb.room e0 b (.cons rfl .nil) q1) fun r s' hq => ?_)
    cases r with
    | error e => exact hq.elim
    | ok fl =>
      cases fl with
      | ret u => exact I1.after hq
      | next => exact False.elim hq
      | brk => exact False.elim hq
      | cont => exact False.elim hq
  refine wpAny_mono call_ (fun v s2 hv => ?_) fun _ _ z => z
  obtain ⟨y, H2, I2, ry, it, l, ey, hi, hn, hR⟩ := hv
  subst ey
  obtain rfl : v = Value.ref it := ry
  have eo := itO_get I2 hi
  have st : s2.heap.IsListIter it l (0 + 0) := ⟨_, eo, rfl, rfl⟩
  exact wpAny_specialOf st.typeIs slot_listiter_next.lookup (k it l H2 s2 I2 hi hn hR)
/-- the hint: __len__ is called -/
theorem own_hintL {a dx : Addr} {fs : List (Str × V)} {zs : List V} {Q : Bool → Shared → Prop} {EE : Value → Shared → Prop} (sb : Sub X n A1.in1) (hle : PySem.W.findIn X.K (.ref C) "__len__" = some (some (.ref fl))) (hlf : PySem.W.isFn X.K (.ref fl) = true)
    (FL : FnOk X.prog X.w X.K X.mg X.base CX0 n fl fdL psL (spLen C g)) (bL : Binds X.K fdL psL []) (I : Inv X pins σ H s) (ha : H a = some (.ins C dx fs)) (hg : fs.lookup g = some (.ref l)) (hl : H l = some (.lst zs))
    (k : ∀ b s', Inv X pins σ H s' → Q b s') : wpAny (model X.prog X.w) A1 (Builtin.List.listLengthHint (.ref a)) Q EE s := by
  obtain ⟨mA, J, _⟩ := ins_get I.hok ha
  obtain ⟨od, J, _⟩ := J.look
  obtain ⟨m0, hF⟩ := I.fr
  have KX := I.kIn
  have hlen := (I.lstM hl).1
  have q1 : spLen C g [.ref a] H (fun v H' => v = .int zs.length ∧ H' = H) (fun _ _ _ => False) := ⟨a, dx, fs, l, zs, rfl, ha, hg, hl, rfl, rfl⟩
  have hll := FL.len _ _ _ _ q1
  have e0 : Env0 X.prog X.w X.K X.mg X.base A1.in1 X.stack s H := by
    have e := I.env0
    exact ⟨by rw [sb.fr]; exact e.frames, e.mod, e.bs, e.bsz, e.funs, e.frf, e.hok, e.bare⟩
  have b := bL s [.ref a] KX (by simpa using hll)
  rw [List.append_nil] at b
  unfold Builtin.List.listLengthHint
  refine wpAny_bind (wpAny_bind (J.type.here ((PySem.W.looks_findIn KX hle).here ?_)))
  refine PySem.W.KFB.if_not rfl ?_
  refine wpAny_ite_split (fun _ => ?_) (fun h => absurd rfl h)
  refine wpAny_bind (wpAny_rule ?_)
  refine wpAny_bind (wpAny_attempt (PySem.W.len_K hF I.ok.mod.kin J hle hlf ?_))
  refine wpAny_call (codeAny_mono (FL.run A1.in1 X.stack s H ⟨[.ref a], []⟩ [.ref a] [.ref a] _ (fun _ _ _ => False) sb.room e0 b (.cons rfl .nil) q1) fun r s' hq => ?_)
  cases r with
  | error e => exact hq.elim
  | ok fl =>
    cases fl with
    | next => exact False.elim hq
    | brk => exact False.elim hq
    | cont => exact False.elim hq
    | ret u =>
      obtain ⟨v, H', I', rv, ev, eH⟩ := I.after hq
      subst ev
      rw [eH] at I'
      obtain ⟨t, rfl⟩ := rv
      have hz := sizeLine_eq
      refine ⟨⟨by omega, by omega⟩, ?_⟩
      show wpAny _ _ (asInt? (.int (zs.length : Int) s'.toks) >>= _) _ _ _
      refine wpAny_bind (m := asInt? _) (wpAny_pure ?_)
      dsimp only
      rw [if_neg (by rw [Int.toNat_natCast, notLongL hlen]; exact Bool.false_ne_true)]
      exact wpAny_pure (k _ _ (I'.tok _))
theorem lo_extend {zs : List V} {a dx : Addr} {fs : List (Str × V)} (sb : Sub X (n + 1) A1.in1) (hn0 : A1.in1.handled = none) (hit : PySem.W.findIn X.K (.ref C) "__iter__" = some (some (.ref fi))) (hif : PySem.W.isFn X.K (.ref fi) = true)
    (hle : PySem.W.findIn X.K (.ref C) "__len__" = some (some (.ref fl))) (hlf : PySem.W.isFn X.K (.ref fl) = true)
    (FI : FnN X.prog X.w X.K X.mg X.base CX0 n fi fdI psI (T3.spIt X.K C g)) (bI : Binds X.K fdI psI []) (FL : FnOk X.prog X.w X.K X.mg X.base CX0 n fl fdL psL (spLen C g)) (bL : Binds X.K fdL psL [])
    (hdone : ∀ s, Inv X pins σ (upd H q (.lst zs)) s → Rs (.ok (.ret .none)) s) (herr : ∀ e s, X.xe e s → Rs (.error e) s)
    (I : Inv X pins σ (upd H q (.lst [])) s) (hq : H q = none) (ha : H a = some (.ins C dx fs)) (hg : fs.lookup g = some (.ref l)) (hl : H l = some (.lst zs)) :
    wpAny (model X.prog X.w) A1.in1 (Builtin.List.listExtendWith (.ref q) (.ref a) .none)
      (fun fin s' => match fin with | .done f => Rs (.ok f) s' | .again c' => c'.quiet = true ∧ codeAny (model X.prog X.w) A1 c' Rs s') (fun e s' => Rs (.error e) s') s := by
  have hqa : q ≠ a := fun e => by rw [e, ha] at hq; cases hq
  have hql : q ≠ l := fun e => by rw [e, hl] at hq; cases hq
  have ha1 : upd H q (.lst []) a = some (.ins C dx fs) := by rw [upd_ne (Ne.symm hqa)]; exact ha
  have hl1 : upd H q (.lst []) l = some (.lst zs) := by rw [upd_ne (Ne.symm hql)]; exact hl
  obtain ⟨mA, J, _⟩ := ins_get I.hok ha1
  obtain ⟨od, J, _⟩ := J.look
  have KX := I.kIn
  have hlen := (I.lstM hl1).1
  unfold Builtin.List.listExtendWith
  refine wpAny_bind (J.type.here ?_)
  have h1 : Builtin.List.listSameRef (.ref q) (.ref a) = false := by simp [Builtin.List.listSameRef, hqa]
  have h2 : (Value.ref C == Value.type "list") = false := rfl
  have h3 : (Value.ref C == Value.type "tuple") = false := rfl
  simp only [h1, h2, h3, Bool.or_false, Bool.false_eq_true, if_false]
  refine wpAny_bind (own_iter (R := fun it l' H2 => l' = l ∧ upd H q (.lst []) it = none ∧ H2 = upd (upd H q (.lst [])) it (ItO l it 0)) (E := fun _ _ _ => False) (sb.mono (Nat.le_succ n)) hit hif FI bI I ha1 ?_ ?_)
  · exact ⟨a, dx, fs, l, zs, rfl, ha1, hg, .inl (.inl hl1), fun it h1 h2 => ⟨it, l, rfl, upd_same, h2, rfl, h1, rfl⟩⟩
  rintro it l' H2 s2 I2 hi hle' ⟨rfl, hn, rfl⟩
  have ne : ∀ {b : Addr} {o : HO}, upd H q (.lst []) b = some o → b ≠ it := fun e z => by rw [z, hn] at e; cases e
  refine wpAny_bind (wpAny_holding (own_hintL sb.in1 hle hlf FL bL I2 (by rw [upd_ne (ne ha1)]; exact ha1) hg (by rw [upd_ne (ne hl1)]; exact hl1) fun b s3 I3 => ?_))
  have I4 := inv_drop I3 hi
  have fp := inv_fp I3 hi (Nat.le_trans I.sz hle')
  rw [dropH_upd hn] at I4 fp
  have st : s3.heap.IsListIter it l' 0 := ⟨_, itO_get I3 hi, rfl, rfl⟩
  have hqi : q ≠ it := fun e => by rw [← e, upd_same] at hn; cases hn
  have fpH : FpOk X pins H it := ⟨by have := fp.1; rwa [upd_ne (Ne.symm hqi)] at this, fp.2⟩
  have loop : ∀ s, Inv X pins σ (upd H q (.lst (zs.take 0))) s → s.heap.IsListIter it l' 0 → codeAny (model X.prog X.w) A1 (.builtin "list.extend.loop" ⟨[.ref q, .ref it, .none], []⟩) Rs s :=
    fun s I st => lo_loop (sb.mono (Nat.le_succ n)) hn0 hql hqi hdone hl fpH zs.length 0 s (by omega) I st
  refine wpAny_ite_split (fun _ => ?_) (fun _ => wpAny_pure ⟨plainId_quiet PySem.F.plain_extend_loop _, loop s3 I4 st⟩)
  refine wpAny_bind (wpAny_rule ?_)
  refine wpAny_bind ?_
  show wpAny _ _ (updateSeq q (·.push .none) >>= fun _ => updateSeq q (·.pop)) _ _ _
  obtain ⟨z3, its3, k3, r3, hl3, e3⟩ := I4.lstM upd_same
  cases r3
  refine wpAny_bind (wpAny_updateSeq e3 rfl ?_)
  have I5 := I4.lset (f := (·.push Value.none)) (its' := [Value.none]) (ys := [.non]) (t' := s3.toks) upd_same e3 (by simp) (.cons rfl .nil) (by rw [List.length_singleton, sizeLine_eq]; decide)
  obtain ⟨z4, its4, k4, r4, hl4, e4⟩ := I5.lstM upd_same
  obtain ⟨u4, rfl, ru4⟩ := r4.one
  refine wpAny_updateSeq e4 rfl ?_ (by show 1 ≤ sizeLine; rw [sizeLine_eq]; decide) (by show 0 ≤ sizeLine + 1; exact Nat.zero_le _)
  have I6 := I5.lset (f := (·.pop)) (its := [u4]) (its' := []) (ys := []) (t' := s3.toks) upd_same e4 (by rfl) .nil (Nat.zero_le _)
  rw [upd_upd, upd_upd] at I6
  refine wpAny_pure ⟨plainId_quiet PySem.F.plain_extend_loop _, loop _ I6 ?_⟩
  exact st.at fun o e => (Heap.get?_update_other _ _ hqi).trans ((Heap.get?_update_other _ _ hqi).trans e)
theorem call_lstOwn (hcm : X.calm = true) (hit : PySem.W.findIn X.K (.ref C) "__iter__" = some (some (.ref fi))) (hif : PySem.W.isFn X.K (.ref fi) = true)
    (hle : PySem.W.findIn X.K (.ref C) "__len__" = some (some (.ref fl))) (hlf : PySem.W.isFn X.K (.ref fl) = true)
    (FI : FnN X.prog X.w X.K X.mg X.base CX0 n fi fdI psI (T3.spIt X.K C g)) (bI : Binds X.K fdI psI []) (FL : FnOk X.prog X.w X.K X.mg X.base CX0 n fl fdL psL (spLen C g)) (bL : Binds X.K fdL psL []) (hr : Room (n + 3) X.A) : CallR X (.type "list") (rLO C g) := by
  intro pins s σ H xs us Q I rv h
  obtain ⟨a, dx, fs, l, zs, rfl, ha, hg, hl, hq⟩ := h
  obtain ⟨u, rfl, ru⟩ := rv.one
  cases ru
  have sb : Sub X (n + 1) X.A.in1.in1 := (Sub.in1 (Sub.in1 (⟨hr, rfl⟩ : Sub X (n + 3) X.A)))
  refine callType_codes (Q₁ := fun obj s₁ => obj = .ref s.heap.objs.size ∧ s₁ = { s with heap := s.heap.push { cls := .type "list", data := .seq #[] } }) PySem.F.called_list (PySem.F.typeCall_list_1 _) PySem.F.entry_list_init
    (code_list_new _ ⟨rfl, rfl⟩) fun obj s₁ h₁ => ?_
  obtain ⟨rfl, rfl⟩ := h₁
  have hS : (s.heap.push { cls := .type "list", data := .seq #[] }).get? s.heap.objs.size = some { cls := .type "list", data := .seq #[] } := Heap.get?_push_size _ rfl
  refine ⟨⟨_, hS, rfl⟩, PySem.F.args_list_init_2 _ _, ?_⟩
  have fr : H s.heap.objs.size = none := I.hok.fresh (Nat.le_refl _)
  have I1 : Inv X pins σ (upd H s.heap.objs.size (.lst [])) { s with heap := s.heap.push { cls := .type "list", data := .seq #[] } } := I.lnew (its := []) (t' := s.toks) .nil (Nat.zero_le _)
  show wpAny _ _ (do let old ← Builtin.List.listItems (.ref s.heap.objs.size); Builtin.List.listUpdate (.ref s.heap.objs.size) (fun _ => #[]); letGo old.toList.reverse; Builtin.List.listExtendWith (.ref s.heap.objs.size) (.ref a) .none) _ _ _
  refine wpAny_bind ?_
  unfold Builtin.List.listItems
  refine wpAny_bind (wpAny_seqItems hS rfl (wpAny_pure ?_))
  show wpAny _ _ (updateSeq s.heap.objs.size (fun _ => #[]) >>= fun _ => letGo (#[] : Array Value).toList.reverse >>= fun _ => Builtin.List.listExtendWith (.ref s.heap.objs.size) (.ref a) .none) _ _ _
  refine wpAny_bind (wpAny_updateSeq hS rfl ?_)
  have I2 := I1.lset (f := fun _ => #[]) (its := []) (its' := []) (ys := []) (t' := s.toks) upd_same hS rfl .nil (Nat.zero_le _)
  rw [upd_upd] at I2
  refine wpAny_bind (wpAny_letGo ?_)
  exact lo_extend (A1 := X.A.in1) (Rs := wants (fun r s₂ => r = .none ∧ EP X pins σ Q (.ref s.heap.objs.size) s₂) X.xe) sb (I.ok.hd hcm) hit hif hle hlf FI bI FL bL
    (fun s' I' => ⟨rfl, .ref s.heap.objs.size, _, I', rfl, hq _ fr⟩) (fun e s' he => he) I2 fr ha hg hl
end
end L2
namespace T3
open PySem L2
open Evl (Ex)
section
variable {B : Hp} {M : Mem} {K : PySem.W.Frag} {Q : DQ}
theorem c3_lstOwn {b l C : Addr} {f : Str} {fs : List (Str × D)} {ds : List D} (hb : M b = some (.ins C fs)) (hf : fs.lookup f = some (.ref l)) (hm : M l = some (.lst ds)) (q : ∀ p, M p = none → Q (.ref p) (mput M p (.lst ds))) : C3 B (rLO C f) [.ref b] M Q := fun F H xv Qv bb st rx k => by
  obtain ⟨v, e, r⟩ := rx.sing
  subst e
  obtain rfl : v = V.ref b := r
  obtain ⟨_, ho0, h0, dx, fv, e0, pk⟩ := st.own b _ hb
  subst e0
  obtain ⟨v0, hv0, rv0⟩ := (pkv_look (f := f) pk).1 hf
  have rv0 : v0 = V.ref l := rv0
  subst rv0
  obtain ⟨_, ho, h1, vs, e2, rs⟩ := st.own l _ hm
  subst e2
  exact ⟨b, dx, fv, l, vs, rfl, h0, hv0, h1, fun p hp => k F _ (.ref p) _ _ (Ex.refl _) (st.newO (d := .lst ds) hp ⟨vs, rfl, rs⟩) rfl (q p (st.nn hp).2)⟩
end
end T3
set_option Elab.async false
set_option linter.all false
namespace T3
open PySem L2
open Evl (Ex)
def enumD (ds : List D) : List D := ds.mapIdx fun i d => .tup [.int (i : Nat), d]
theorem enumD_at {ds : List D} {i : Nat} {d : D} (h : (enumD ds)[i]? = some d) : ∃ x, ds[i]? = some x ∧ d = .tup [.int (i : Nat), x] := by
  unfold enumD at h
  rw [List.getElem?_mapIdx] at h
  obtain ⟨x, h1, h2⟩ := Option.map_eq_some_iff.mp h
  exact ⟨x, h1, h2.symm⟩
theorem enumD_len {ds : List D} : (enumD ds).length = ds.length := by simp [enumD]
section
variable {B : Hp} {M : Mem} {K : PySem.W.Frag} {σ : Sig} {ta : TA} {x y : D} {xs ys : List D}
theorem i_enum {Q : List D → (Mem → Prop) → Mem → Prop} (h : W3a B ta σ M (fun xs M1 => ∃ ds, xs = [.lst ds] ∧ Q (enumD ds) (fun _ => True) M1)) : W3i B (iEnum K ta) σ M Q := fun F σv H R b hs st k =>
  h F σv H _ b hs st fun F1 M1 xs xv H1 e1 st1 rx ⟨ds, ex, q⟩ => by
    subst ex
    obtain ⟨v, e, a, vs, ev, hf, rs⟩ := rx.sing
    subst e; subst ev
    refine ⟨a, vs, rfl, .inl (.inl (st1.fz a _ hf)), k F1 M1 (Ite K a) (enumD ds) _ H1 e1 st1 ⟨fun H => SqL K H a vs, _, WD.len (F := F1) (ds := enumD ds) (vs := []) walk_enum (by rw [enumD_len, rs.length]), ?_, ?_, fun _ _ _ _ z => z⟩ q⟩
    · intro F' M' H' e s _
      exact .inl (.inl (s.fz a _ (e a _ hf)))
    · intro i d x H' H'' F' M' hd e s _ y
      obtain ⟨T, u, v, rfl, hT, rfl, hu, hv⟩ := y
      cases hu
      obtain ⟨d0, h0, rfl⟩ := enumD_at hd
      obtain ⟨v', hv', rv⟩ := rs.at h0
      have hv : vs[i]? = some v := hv
      rw [hv] at hv'; cases hv'
      obtain ⟨s2, e2⟩ := s.new (o := .tup [.int (i : Nat), v]) hT
      exact ⟨_, e2, s2, T, _, rfl, upd_same, _, _, rfl, rfl, _, _, rfl, rv.mono (e.trans e2), rfl⟩
theorem r3_add_llO {Q : DQ} (lx : LstD M x xs) (ly : LstD M y ys) (h : xs.length + ys.length ≤ 1000000) (q : ∀ p, M p = none → Q (.ref p) (mput M p (.lst (xs ++ ys)))) : R3 B rADD x y M Q := fun F H xv yv Qv b st rx ry k => by
  obtain ⟨a, vs, e1, h1, r1⟩ := lx.at st rx
  obtain ⟨c, us, e2, h2, r2⟩ := ly.at st ry
  refine .inr (.inr ⟨a, c, vs, us, e1, e2, h1, h2, ?_, fun p hp => ?_⟩)
  · rw [← r1.length, ← r2.length]; exact Nat.le_trans h (by decide)
  · exact k F _ (.ref p) _ _ (Ex.refl _) (st.newO (d := .lst (xs ++ ys)) hp ⟨vs ++ us, rfl, r1.append r2⟩) rfl (q p (st.nn hp).2)
theorem c3_lstF {Q : DQ} {b l C : Addr} {f : Str} {fs : List (Str × D)} {ds : List D} (hb : M b = some (.ins C fs)) (hf : fs.lookup f = some (.ref l)) (hm : M l = some (.lst ds)) (q : Q (.lst ds) M) : C3 B (rLO C f) [.ref b] M Q := fun F H xv Qv bb st rx k => by
  obtain ⟨v, e, r⟩ := rx.sing
  subst e
  obtain rfl : v = V.ref b := r
  obtain ⟨_, ho0, h0, dx, fv, e0, pk⟩ := st.own b _ hb
  subst e0
  obtain ⟨v0, hv0, rv0⟩ := (pkv_look (f := f) pk).1 hf
  have rv0 : v0 = V.ref l := rv0
  subst rv0
  obtain ⟨_, ho, h1, vs, e2, rs⟩ := st.own l _ hm
  subst e2
  refine ⟨b, dx, fv, l, vs, rfl, h0, hv0, h1, fun p hp => ?_⟩
  obtain ⟨s2, e2⟩ := st.new (o := .lst vs) hp
  exact k _ _ (.lst ds) _ _ e2 s2 ⟨p, _, rfl, upd_same, rs.mono e2⟩ q
end
section
variable {B : Hp} {M : Mem} {K : PySem.W.Frag} {σ : Sig} {wi : TI} {g : TG} {tt : TT} {te : TE} {vs : List Nat} {Q : DQ}
theorem w_lcO (hg : OwnG g vs) (h : W3i B wi σ M (fun ds P M1 => ∃ I : Nat → List D → Mem → Prop, (∀ i acc M', I i acc M' → P M' ∧ acc.length ≤ i) ∧ ds.length ≤ 1000000 ∧ I 0 [] M1 ∧
      (∀ (i : Nat) d acc M' L, ds[i]? = some d → I i acc M' → M' L = none → G3 B g d (wipe3 σ vs) (mput M' L (.lst acc)) (fun σ2 M2 => W3t B tt σ2 M2 (fun b M3 =>
        if b = true then W3e B te σ2 M3 (fun y M4 => ∃ M5, M4 = mput M5 L (.lst acc) ∧ M5 L = none ∧ I (i + 1) (acc ++ [y]) M5) else ∃ M5, M3 = mput M5 L (.lst acc) ∧ M5 L = none ∧ I (i + 1) acc M5))) ∧
      (∀ acc M' L, M' L = none → I ds.length acc M' → Q (.ref L) (mput M' L (.lst acc))))) :
    W3e B (tLc wi g tt te vs) σ M Q := fun F σv H Qv b hs st k =>
  h F σv H _ b hs st fun F1 M1 J ds P H1 e1 st1 ⟨G, Y, w, hG, hY, hX⟩ ⟨I, hP, hl, h0, turn, fin⟩ L hL =>
    lc_it w (fun i H' => ∃ F' M' acc, Ex F1 F' ∧ M' L = none ∧ St3 F' (mput M' L (.lst acc)) H' ∧ I i acc M')
      ⟨F1, M1, [], Ex.refl _, (st1.nn hL).2, st1.newO (d := .lst []) hL ⟨[], rfl, rfl⟩, h0⟩
      (fun i H' _ ⟨F', M', acc, e, n, t, q⟩ => hG F' _ H' e t (hX M' L _ n (hP i acc M' q).1))
      (fun i x H' H'' hi ⟨F', M', acc, e, n, t, q⟩ y => by
        have hd : ds[i]? = some ds[i] := by simp [hi]
        obtain ⟨F2, e2, t2, rd⟩ := hY i _ x H' H'' F' _ hd e t (hX M' L _ n (hP i acc M' q).1) y
        have main := turn i _ acc M' L hd q n F2 (L2.wipe σv vs) H'' x (fun σ2 H2 => tt σ2 H2 fun b H3 => if b = true then te σ2 H3 fun y H4 => ∃ acc, H4 L = some (.lst acc) ∧ acc.length < sizeLine ∧ (∃ F' M' acc', Ex F1 F' ∧ M' L = none ∧ St3 F' (mput M' L (.lst acc')) (upd H4 L (.lst (acc ++ [y]))) ∧ I (i + 1) acc' M') else (∃ F' M' acc', Ex F1 F' ∧ M' L = none ∧ St3 F' (mput M' L (.lst acc')) H3 ∧ I (i + 1) acc' M'))
          (b.trans ((e1.trans e).trans e2)) (((hs.mono e1).mono (e.trans e2)).wipe vs) t2 rd fun F3 M3 σ3 σv3 H3 e3 s3 t3 q3 => ?_
        · exact hg x (L2.wipe σv vs) H'' _ _ (fun σ2 H2 w2 q2 => ⟨w2.trans wipe_wipe, q2⟩) main
        · refine q3 F3 σv3 H3 _ (b.trans (((e1.trans e).trans e2).trans e3)) s3 t3 fun F4 M4 c H4 e4 t4 q4 => ?_
          cases c with
          | false =>
            obtain ⟨M5, em, n5, i5⟩ := q4
            subst em
            exact ⟨F4, M5, acc, ((e.trans e2).trans e3).trans e4, n5, t4, i5⟩
          | true =>
            refine q4 F4 σv3 H4 _ (b.trans ((((e1.trans e).trans e2).trans e3).trans e4)) (s3.mono e4) t4 fun F5 M5' y v5 H5 e5 t5 r5 ⟨M5, em, n5, i5⟩ => ?_
            subst em
            obtain ⟨_, ho, h1, us, e6, rs⟩ := t5.own L _ mput_same
            subst e6
            have hlen := (hP i acc M' q).2
            refine ⟨us, h1, by rw [← rs.length]; exact Nat.lt_of_lt_of_le (Nat.lt_of_le_of_lt hlen hi) (Nat.le_trans hl (by decide)), F5, M5, acc ++ [y], (((e.trans e2).trans e3).trans e4).trans e5, n5, ?_, i5⟩
            have := t5.put (p := L) (d := .lst acc) (d' := .lst (acc ++ [y])) mput_same ⟨us ++ [v5], rfl, rs.snoc r5⟩
            rwa [mput_mput] at this)
      (fun H' ⟨F', M', acc, e, n, t, q⟩ => by
        obtain ⟨_, ho, h1, us, e6, rs⟩ := t.own L _ mput_same
        subst e6
        exact k _ _ (.ref L) (.ref L) H' (e1.trans e) t rfl (fin acc M' L n q))
theorem w_lcPO (p : D → Bool) (f : D → D) (hg : OwnG g vs) (h : W3i B wi σ M (fun ds P M1 => ds.length ≤ 1000000 ∧ P M1 ∧
      (∀ (i : Nat) d M', ds[i]? = some d → (∀ a o, M1 a = some o → M' a = some o) → G3 B g d (wipe3 σ vs) M' (fun σ2 M2 => M2 = M' ∧ W3t B tt σ2 M' (fun b M3 => M3 = M' ∧ b = p d ∧ (b = true → W3e B te σ2 M' (fun y M4 => M4 = M' ∧ y = f d))))) ∧
      ∀ L, M1 L = none → Q (.ref L) (mput M1 L (.lst ((ds.filter p).map f))))) :
    W3e B (tLc wi g tt te vs) σ M Q := by
  refine w_lcO hg fun F σv H R b hs st k => h F σv H R b hs st fun F' M' J ds P H' e s wd ⟨hl, hP, turn, q⟩ => k F' M' J ds P H' e s wd ?_
  refine ⟨fun i acc M2 => i ≤ ds.length ∧ M2 = M' ∧ acc = ((ds.take i).filter p).map f, fun i acc M2 ⟨hi, a, c⟩ => ⟨by rw [a]; exact hP, ?_⟩, hl, ⟨Nat.zero_le _, rfl, rfl⟩, fun i d acc M2 L hd ⟨hi, em, ea⟩ hL => ?_, fun acc M2 L hL ⟨_, em, ea⟩ => ?_⟩
  · rw [c, List.length_map]
    exact Nat.le_trans (List.length_filter_le _ _) (by rw [List.length_take]; exact Nat.min_le_left _ _)
  · subst em
    have hlt : i < ds.length := (List.getElem?_eq_some_iff.mp hd).1
    have et : ds.take (i + 1) = ds.take i ++ [d] := by rw [List.take_add_one, hd]; rfl
    intro F2 σ2 H2 xv Qv b2 hs2 st2 rx kk
    refine turn i d _ hd (fun a o ha => by rw [mput_ne (mne ha hL)]; exact ha) F2 σ2 H2 xv Qv b2 hs2 st2 rx fun F3 M3 σ3 σv3 H3 e3 s3 t3 ⟨e4, q4⟩ => kk F3 M3 σ3 σv3 H3 e3 s3 t3 ?_
    subst e4
    refine q4.to fun c M4 ⟨e5, e6, q5⟩ => ?_
    subst e5
    cases c with
    | true =>
      refine (q5 rfl).to fun y M5 ⟨e7, e8⟩ => ?_
      subst e7
      refine ⟨M2, rfl, hL, hlt, rfl, ?_⟩
      rw [et, List.filter_append, List.map_append, ← ea, e8]
      simp [← e6]
    | false =>
      refine ⟨M2, rfl, hL, hlt, rfl, ?_⟩
      rw [et, List.filter_append, List.map_append, ← ea]
      simp [← e6]
  · rw [List.take_length] at ea
    subst em; subst ea
    exact q L hL
end
end T3
set_option Elab.async false
set_option linter.all false
set_option maxRecDepth 100000
set_option maxHeartbeats 2000000
namespace L2
open PySem PySem.Spec PyProof.Rows
/-! ### keys that no dict of texts has: a truth value, a tuple -/
def bkIs : Bool ⊕ Str → Value → Bool
  | .inl b, v => v == .bool b
  | .inr x, v => Value.isStrOf x v
theorem bk_inl {b : Bool} {v : Value} (h : bkIs (.inl b) v = true) : v = .bool b := by simpa [bkIs] using h
theorem bk_inr {x : Str} {v : Value} (h : bkIs (.inr x) v = true) : ∃ t, v = .str x t := Value.isStrOf_shape (x := x) (v := v) h
def boolKind (prog : Program) (w : World) : PySem.KeyKind prog w (Bool ⊕ Str) where
  is := bkIs
  hash := fun k => match k with
    | .inl b => hashInt (if b = true then 1 else 0)
    | .inr x => hashStr w x
  inj := fun v a b ha hb => by
    cases a with
    | inl a =>
      have e := bk_inl ha
      subst e
      cases b with
      | inl b =>
        have e := bk_inl hb
        cases e; rfl
      | inr y =>
        obtain ⟨t, e⟩ := bk_inr hb
        cases e
    | inr x =>
      obtain ⟨t, e⟩ := bk_inr ha
      subst e
      cases b with
      | inl b => cases bk_inl hb
      | inr y =>
        obtain ⟨t, e⟩ := bk_inr hb
        cases e; rfl
  byValue := fun k v h => by
    cases k with
    | inl b => rw [bk_inl h]; rfl
    | inr x =>
      obtain ⟨t, e⟩ := bk_inr h
      rw [e]; rfl
  pyHash := @fun A E s k v Q hv h => by
    cases k with
    | inl b =>
      have e := bk_inl hv
      subst e
      have h' : Q (hashInt (if b = true then 1 else 0)) { s with toks := s.toks + 1 } := h
      rw [← reduce_bool] at h'
      refine PySem.W.pyHash_slot (T := "bool") rfl PySem.F.slot_bool_hash entry_int_hash (args_int_hash _) (beq_builtin_none _) (.inl rfl) ?_
      cases b
      · exact (show wpAny _ _ (do ret (← mkInt 0)) _ _ s from wpAny_bind (wpAny_mkInt (wpAny_pure ⟨_, _, rfl, h'⟩)))
      · exact (show wpAny _ _ (do ret (← mkInt 1)) _ _ s from wpAny_bind (wpAny_mkInt (wpAny_pure ⟨_, _, rfl, h'⟩)))
    | inr x =>
      obtain ⟨t, e⟩ := bk_inr hv
      subst e
      exact wpAny_pyHash_str h
  eqBool := @fun A E s a b u v Q hu hv h => by
    cases a with
    | inl a =>
      have e := bk_inl hu
      subst e
      cases b with
      | inl b =>
        have e := bk_inl hv
        subst e
        refine SeqAt.EqAt.bool_bool a b _ _ _ _ ?_
        have e : decide ((Sum.inl a : Bool ⊕ Str) = .inl b) = (a == b) := by cases a <;> cases b <;> rfl
        rw [← e]; exact h
      | inr y =>
        obtain ⟨t, e⟩ := bk_inr hv
        subst e
        rw [decide_eq_false (fun z => nomatch z)] at h
        exact SeqAt.EqAt.bool_str a y t _ _ _ _ h
    | inr x =>
      obtain ⟨t, e⟩ := bk_inr hu
      subst e
      cases b with
      | inl b =>
        have e := bk_inl hv
        subst e
        rw [decide_eq_false (fun z => nomatch z)] at h
        exact SeqAt.EqAt.str_bool x t b _ _ _ _ h
      | inr y =>
        obtain ⟨t', e⟩ := bk_inr hv
        subst e
        refine SeqAt.EqAt.str_str x t y t' _ _ _ _ ?_
        have e : decide ((Sum.inr x : Bool ⊕ Str) = .inr y) = (x == y) := by
          by_cases c : x = y
          · subst c; simp
          · rw [decide_eq_false (fun z => c (Sum.inr.inj z))]; exact (beq_eq_false_iff_ne.mpr c).symm
        rw [← e]; exact h
  «strs» := fun k x t v h => by
    cases k with
    | inl b => cases bk_inl h
    | inr y =>
      obtain ⟨t', e⟩ := bk_inr h
      cases e
      exact (mixKind prog w).«strs» (.inr x) x t v (by simp [mixKind, keyIs, Value.isStrOf] <;> rfl)
end L2
namespace L2
open PySem PySem.Spec PyProof.Rows
theorem pairs_mem {K : Type} [DecidableEq K] {prog : Program} {w : World} {knd : PySem.KeyKind prog w K} : ∀ {es : List DictEntry} {kvs : List (K × Value)}, Pairs knd es kvs → ∀ e ∈ es, ∃ p ∈ kvs, knd.is p.1 e.key = true
  | _, _, .nil, e, h => by cases h
  | _, _, .cons h1 _ r, e, h => by
    rcases List.mem_cons.mp h with rfl | h
    · exact ⟨_, List.mem_cons_self .., h1⟩
    · obtain ⟨p, hp, q⟩ := pairs_mem r e h
      exact ⟨p, List.mem_cons_of_mem _ hp, q⟩
theorem txt_keys {P : Program} {w : World} {h : Heap} {a : Addr} {vs : List (Key × Value)} (d : h.DictOf (mixKind P w) a vs) (ht : ∀ p ∈ vs, ∃ x, p.1 = Sum.inr x) :
    ∃ o es ep, h.get? a = some o ∧ o.ExactDict ∧ o.data = .dict es ep ∧ ∀ e ∈ es, ∃ (x : Str) (t : Tok), e.key = .str x t ∧ e.hash = hashStr w x := by
  obtain ⟨o, es, ep, ho, hx, hdt, hk, hp, hn⟩ := d
  refine ⟨o, es, ep, ho, hx, hdt, fun e he => ?_⟩
  obtain ⟨k, h1, h2⟩ := hk e he
  obtain ⟨p, hpm, h3⟩ := pairs_mem hp e (Array.mem_toList_iff.mpr he)
  obtain ⟨x, hx⟩ := ht p hpm
  have e1 : k = p.1 := (mixKind P w).inj e.key k p.1 h1 h3
  rw [hx] at e1
  subst e1
  rcases keyIs_shape (show keyIs (.inr x) e.key = true from h1) with ⟨i, t, e2, _⟩ | ⟨y, t, e2, e3⟩
  · cases e2
  · cases e2
    exact ⟨x, t, e3, h2⟩
theorem bool_map {P : Program} {w : World} {h : Heap} {a : Addr} {vs : List (Key × Value)} (d : h.DictOf (mixKind P w) a vs) (ht : ∀ p ∈ vs, ∃ x, p.1 = Sum.inr x) : ∃ f, h.MapOf (boolKind P w) a f ∧ ∀ b, f (.inl b) = none := by
  obtain ⟨o, es, ep, ho, hx, hdt, hk⟩ := txt_keys d ht
  refine ⟨fun k => findBy (boolKind P w).is es k, ⟨o, es, ep, ho, hx, hdt, fun e he => ?_, fun k => rfl⟩, fun b => ?_⟩
  · obtain ⟨x, t, h1, h2⟩ := hk e he
    refine ⟨.inr x, ?_, h2⟩
    show Value.isStrOf x e.key = true
    rw [h1]; simp [Value.isStrOf]
  · have q : (es.find? fun e => bkIs (.inl b) e.key) = none := by
      rw [Array.find?_eq_none]
      intro e he hq
      obtain ⟨x, t, h1, _⟩ := hk e he
      rw [h1] at hq
      exact nomatch bk_inl hq
    show (es.find? fun e => bkIs (.inl b) e.key).map (·.val) = none
    rw [q] <;> rfl
section
variable {prog : Program} {w : World} {K : Type} [DecidableEq K] {knd : HeapKind prog w K} {A : Around} {E : Value → Shared → Prop} {s : Shared}
theorem tells_alien {a : Addr} {k : K} {stored : List Value} {Q : Bool → Shared → Prop} (hkey : knd.is s.heap k a) (hst : ∀ v ∈ stored, ∃ (x : Str) (t : Tok), v = .str x t) (h : Q false s) :
    wpAny (model prog w) A (tableMayTell (.ref a) stored) Q E s := by
  unfold tableMayTell
  split
  · exact wpAny_pure h
  · refine wpAny_bind (knd.quiet hkey ?_)
    simp only [Bool.not_true, Bool.false_eq_true, if_false]
    refine wpAny_bind ?_
    refine wpAny_forIn_list _ (fun rest r s' => s' = s ∧ r = (none, ()) ∧ ∀ v ∈ rest, ∃ (x : Str) (t : Tok), v = .str x t) _ ?_ ?_ _ _ ⟨rfl, rfl, hst⟩
    · rintro x rest r s' ⟨rfl, rfl, hr⟩
      obtain ⟨x, t, rfl⟩ := hr _ List.mem_cons_self
      refine wpAny_bind (wpAny_pure ?_)
      simp only [Bool.not_true, Bool.false_eq_true, if_false]
      exact wpAny_pure ⟨rfl, rfl, fun v hv => hr v (List.mem_cons_of_mem _ hv)⟩
    · rintro r s' ⟨rfl, rfl, _⟩
      exact wpAny_pure h
theorem find_alien {d a : Addr} {o : Obj} {es : Array DictEntry} {ep : Nat} {k : K} {items : Array Value} {Q : Option Nat → Shared → Prop} (hA : A.units < cLine) (hkey : knd.is s.heap k a) (htup : s.heap.IsTuple a items)
    (ho : s.heap.get? d = some o) (hd : o.data = .dict es ep) (hk : ∀ e ∈ es, ∃ (x : Str) (t : Tok), e.key = .str x t) (hQ : Q none s) : wpAny (model prog w) A (dictFind d (.ref a) (knd.hash k)) Q E s := by
  have hany : ¬ (es.any fun e => e.key == Value.ref a && e.hash != knd.hash k) = true := by
    rw [← Array.any_toList, List.any_eq_true]
    rintro ⟨e, hin, hc⟩
    obtain ⟨x, t, h1⟩ := hk e (Array.mem_toList_iff.mp hin)
    rw [h1] at hc
    simp at hc
  have hst : ∀ v ∈ (placesWithHash es.size (fun i => es[i]?.map (·.hash)) (knd.hash k)).filterMap (fun i => es[i]?.map (·.key)), ∃ (x : Str) (t : Tok), v = .str x t := by
    intro v hv
    obtain ⟨i, _, hi⟩ := List.mem_filterMap.mp hv
    cases hei : es[i]? with
    | none => rw [hei] at hi; cases hi
    | some e =>
      rw [hei] at hi
      obtain rfl : e.key = v := by simpa using hi
      exact hk e (Array.mem_of_getElem? hei)
  unfold dictFind
  try with_reducible refine wpAny_holding ?_
  refine wpAny_bind (wpAny_dictEntries ho hd ?_)
  dsimp only
  rw [if_neg (show ¬ ((Value.ref a :: (placesWithHash es.size (fun i => es[i]?.map (·.hash)) (knd.hash k)).filterMap (fun i => es[i]?.map (·.key))).all carriedByValue) = true by simp [carriedByValue])]
  rw [if_neg hany]
  by_cases hone : (((placesWithHash es.size (fun i => es[i]?.map (·.hash)) (knd.hash k)).filterMap (fun i => es[i]?.map (·.key))) == [Value.ref a]) = true <;>
  (first | rw [if_pos hone] | rw [if_neg hone]) <;> (first | refine wpAny_bind (wpAny_pure ?_) | refine wpAny_bind (tells_alien hkey hst ?_)) <;> (
    rw [if_neg (by simp)]
    refine wpAny_bind ?_
    refine wpAny_forIn_list _ (fun rest b s' => s' = s ∧ b = (none, none)) _ ?_ ?_ _ _ ⟨rfl, rfl⟩
    · rintro x rest b s' ⟨rfl, rfl⟩
      cases hei : es[x]? with
      | none => exact wpAny_pure ⟨rfl, rfl⟩
      | some e =>
        obtain ⟨y, t, h1⟩ := hk e (Array.mem_of_getElem? hei)
        dsimp only
        by_cases hh : (e.hash == knd.hash k) = true
        · rw [if_pos hh, h1]
          refine wpAny_bind (wpAny_dictEpoch ho hd (wpAny_bind (SeqAt.EqAt.str_tuple y t htup hA _ _ _ _ (wpAny_bind (wpAny_dictEpoch ho hd ?_)))))
          show wpAny _ _ (if (ep != ep) = true then _ else _) _ E _
          rw [if_neg (by simp)]
          simp only [Bool.false_eq_true, if_false]
          refine wpAny_bind (wpAny_rule ?_)
          first | rw [if_neg (by simp)] | skip
          first
            | exact wpAny_pure ⟨rfl, rfl⟩
            | exact wpAny_bind (wpAny_pure (wpAny_pure ⟨rfl, rfl⟩))
        · rw [if_neg hh]
          exact wpAny_pure ⟨rfl, rfl⟩
    · rintro b s' ⟨rfl, rfl⟩
      exact wpAny_pure hQ)
end
end L2
namespace L2
open PySem PySem.Spec PyProof.Rows
section
variable {prog : Program} {w : World} {K : Type} [DecidableEq K] {knd : HeapKind prog w K} {A : Around} {E : Value → Shared → Prop} {s : Shared} {d a : Addr} {k : K} {items : Array Value} {vs : List (Key × Value)}
theorem get_alien {Q : Option Value → Shared → Prop} (hA : A.units < cLine) (hu : knd.room A) (hkey : knd.is s.heap k a) (htup : s.heap.IsTuple a items) (dd : s.heap.DictOf (mixKind prog w) d vs) (ht : ∀ p ∈ vs, ∃ x, p.1 = Sum.inr x)
    (h : Q none { s with toks := s.toks + knd.draws k }) : wpAny (model prog w) A (dictGet d (.ref a)) Q E s := by
  obtain ⟨o, es, ep, ho, _, hd, hk⟩ := txt_keys dd ht
  unfold dictGet
  try with_reducible refine wpAny_holding ?_
  refine wpAny_bind (knd.pyHash hu hkey (wpAny_bind ?_))
  exact find_alien (s := { s with toks := s.toks + knd.draws k }) hA hkey htup ho hd (fun e he => let ⟨x, t, q, _⟩ := hk e he; ⟨x, t, q⟩) (wpAny_pure h)
theorem has_alien {Q : Bool → Shared → Prop} (hA : A.in1.units < cLine) (hu : knd.room A.in1) (hkey : knd.is s.heap k a) (htup : s.heap.IsTuple a items) (hs : (d == sysModules) = false) (dd : s.heap.DictOf (mixKind prog w) d vs) (ht : ∀ p ∈ vs, ∃ x, p.1 = Sum.inr x)
    (h : Q false { s with toks := s.toks + knd.draws k }) : wpAny (model prog w) A (contains (.ref d) (.ref a)) Q E s := by
  refine wpAny_contains_slot dd.typeIs PySem.F.slot_dict_contains ?_
  refine call_meetsIn PySem.F.slot_dict_contains dd.typeIs PySem.F.entry_dict_contains (PySem.F.args_dict_contains_2 _ _) (S := fun A' R s' => A' = A ∧ s' = s ∧ R (.ok (.ret (.bool false))) { s with toks := s.toks + knd.draws k }) (fun A' R s' hS => ?_) ⟨rfl, rfl, wpAny_truthy_bool h⟩
  obtain ⟨rfl, rfl, hq⟩ := hS
  show wpAny _ _ (dictGet d (.ref a) >>= _) _ _ _
  refine wpAny_bind (get_alien hA hu hkey htup dd ht ?_)
  show wpAny _ _ (Builtin.Dict.pendingKey? d (.ref a) >>= _) _ _ _
  exact wpAny_bind (wpAny_pendingKey_other hs (wpAny_pure hq))
end
section
variable {X : Cx} {pins : List (Addr × Obj)} {σ : St} {H : Hp} {s : Shared} {a : Addr} {kvs : List (Key × V)} {A : Around} {E : Value → Shared → Prop}
/-- what no dict of texts has as a key -/
def NoKey (H : Hp) (y : V) : Prop := (∃ b, y = .bl b) ∨ ∃ (p : Addr) (ks : List Key), y = .ref p ∧ H p = some (.tup (ks.map kV))
theorem kv_txt {vs : List (Key × Value)} (r : KV kvs vs) (ht : ∀ p ∈ kvs, ∃ x, p.1 = Sum.inr x) : ∀ p ∈ vs, ∃ x, p.1 = Sum.inr x := by
  induction r with
  | nil => intro p hp; cases hp
  | cons h _ ih =>
    intro p hp
    rcases List.mem_cons.mp hp with rfl | hp
    · obtain ⟨x, hx⟩ := ht _ (List.mem_cons_self ..)
      exact ⟨x, by rw [← h.1]; exact hx⟩
    · exact ih (fun q hq => ht q (List.mem_cons_of_mem _ hq)) p hp
theorem d_inAl {Q : Value → Shared → Prop} {y : V} {u : Value} (hu : A.units + 1 < cLine) (I : Inv X pins σ H s) (e : Rd H a (.dK kvs)) (ht : ∀ p ∈ kvs, ∃ x, p.1 = Sum.inr x) (n : NoKey H y) (ry : RelV y u) (h : ∀ s', Inv X pins σ H s' → Q (.bool false) s') :
    wpAny (model X.prog X.w) A (compareOp .In u (.ref a)) Q E s := by
  obtain ⟨_, hd, vs, rel, dd⟩ := dk_rd I.hok e
  have ht' := kv_txt rel ht
  rcases n with ⟨b, rfl⟩ | ⟨p, ks, rfl, hp⟩
  · obtain ⟨f, hm, hf⟩ := bool_map dd ht'
    obtain rfl : u = Value.bool b := ry
    refine wpAny_in_of (show (boolKind X.prog X.w).is (.inl b) (.bool b) = true by simp [boolKind, bkIs]) hd hm ?_
    rw [hf]
    exact h _ (I.tok _)
  · cases (show u = Value.ref p from ry)
    have hk := key_of I.hok hp
    obtain ⟨o, its, n, h1, h2, h3, h4⟩ := id hk
    show wpAny _ _ (contains (.ref a) (.ref p) >>= fun b => pure (.bool b)) Q E s
    exact wpAny_bind (has_alien (by show A.units + 1 < cLine; exact hu) (tupleKind_room_in1 hu) hk ⟨o, h1, h2, n, h3⟩ hd dd ht' (wpAny_pure (h _ (I.tok _))))
theorem d_outAl {Q : Value → Shared → Prop} {y : V} {u : Value} (hu : A.units + 1 < cLine) (I : Inv X pins σ H s) (e : Rd H a (.dK kvs)) (ht : ∀ p ∈ kvs, ∃ x, p.1 = Sum.inr x) (n : NoKey H y) (ry : RelV y u) (h : ∀ s', Inv X pins σ H s' → Q (.bool true) s') :
    wpAny (model X.prog X.w) A (compareOp .NotIn u (.ref a)) Q E s := by
  obtain ⟨_, hd, vs, rel, dd⟩ := dk_rd I.hok e
  have ht' := kv_txt rel ht
  rcases n with ⟨b, rfl⟩ | ⟨p, ks, rfl, hp⟩
  · obtain ⟨f, hm, hf⟩ := bool_map dd ht'
    obtain rfl : u = Value.bool b := ry
    refine wpAny_notIn_of (show (boolKind X.prog X.w).is (.inl b) (.bool b) = true by simp [boolKind, bkIs]) hd hm ?_
    rw [hf]
    exact h _ (I.tok _)
  · cases (show u = Value.ref p from ry)
    have hk := key_of I.hok hp
    obtain ⟨o, its, n, h1, h2, h3, h4⟩ := id hk
    show wpAny _ _ (contains (.ref a) (.ref p) >>= fun b => pure (.bool !b)) Q E s
    exact wpAny_bind (has_alien (by show A.units + 1 < cLine; exact hu) (tupleKind_room_in1 hu) hk ⟨o, h1, h2, n, h3⟩ hd dd ht' (wpAny_pure (h _ (I.tok _))))
end
end L2
set_option Elab.async false
set_option linter.all false
set_option maxHeartbeats 1000000
namespace T3
open PySem L2
open Evl (Ex)
/-- in: as rIND; and values that no dict of texts has; and any data in a tuple of texts -/
def rINA (K : PySem.W.Frag) (P : Program) (w : World) (neg : Bool) : R2 := fun x y H Q => rIND K P w neg x y H Q ∨ (∃ (a : Addr) (kvs : List (L2.Key × V)), y = .ref a ∧ Rd H a (.dK kvs) ∧ (∀ p ∈ kvs, ∃ z, p.1 = Sum.inr z) ∧ NoKey H x ∧ Q (.bl neg) H) ∨
  ∃ d ds, Dp K H x d ∧ Dp K H y (.tuple ds) ∧ SeqAt.shaped d = true ∧ SeqAt.shaped (.tuple ds) = true ∧ Q (.bl (if neg then !(ds.any fun z => PyData.eqv z d) else ds.any fun z => PyData.eqv z d)) H
theorem canAll_of {ds : List PyData} (h : SeqAt.shaped (.tuple ds) = true) : PyData.canLayAll0 ds = true := by
  have := SeqAt.canLay_of_shaped h
  simpa [PyData.canLay0] using this
theorem op_INAK {X : Cx} (K : PySem.W.Frag) (P : Program) (w : World) (h1 : X.K = K) (h2 : X.prog = P) (h3 : X.w = w) (hu : X.A.units + 65 < cLine) : OpR X (compareOp .In) (rINA K P w false) := by
  intro pins s σ H x y v u Q I rx ry h
  rcases h with h | ⟨a, kvs, ey, hr, ht, hn, q⟩ | ⟨d, ds, hd, he, sd, se, q⟩
  · exact op_INDK K P w h1 h2 h3 hu pins s σ H x y v u Q I rx ry h
  · subst ey
    obtain rfl : u = Value.ref a := ry
    exact d_inAl (by omega) I hr ht hn rx fun s3 I3 => ⟨.bl false, H, I3, rfl, q⟩
  · subst h1
    obtain ⟨as, r1⟩ := Dp.reads I d x v hd rx
    obtain ⟨bs, r2⟩ := Dp.reads I (.tuple ds) y u he ry
    exact SeqAt.in_tuple_reads r2 r1 (canAll_of se) (SeqAt.canLay_of_shaped sd) (PyProof.Rows.room_in_shaped sd hu) ⟨.bl _, H, I, rfl, q⟩
theorem op_NINAK {X : Cx} (K : PySem.W.Frag) (P : Program) (w : World) (h1 : X.K = K) (h2 : X.prog = P) (h3 : X.w = w) (hu : X.A.units + 65 < cLine) : OpR X (compareOp .NotIn) (rINA K P w true) := by
  intro pins s σ H x y v u Q I rx ry h
  rcases h with h | ⟨a, kvs, ey, hr, ht, hn, q⟩ | ⟨d, ds, hd, he, sd, se, q⟩
  · exact op_NINDK K P w h1 h2 h3 hu pins s σ H x y v u Q I rx ry h
  · subst ey
    obtain rfl : u = Value.ref a := ry
    exact d_outAl (by omega) I hr ht hn rx fun s3 I3 => ⟨.bl true, H, I3, rfl, q⟩
  · subst h1
    obtain ⟨as, r1⟩ := Dp.reads I d x v hd rx
    obtain ⟨bs, r2⟩ := Dp.reads I (.tuple ds) y u he ry
    exact SeqAt.notIn_tuple_reads r2 r1 (canAll_of se) (SeqAt.canLay_of_shaped sd) (PyProof.Rows.room_in_shaped sd hu) ⟨.bl _, H, I, rfl, q⟩
section
variable {B : Hp} {M : Mem} {K : PySem.W.Frag} {P : Program} {w : World} {Q : DQ} {neg : Bool} {x y : D}
theorem r3_inA (h : R3 B (rIND K P w neg) x y M Q) : R3 B (rINA K P w neg) x y M Q := fun F H xv yv Qv b st rx ry k => .inl (h F H xv yv Qv b st rx ry k)
/-- what is no key of a dict of texts -/
def NoKeyD (x : D) : Prop := (∃ b, x = .bl b) ∨ ∃ ks : List L2.Key, x = .tup (ks.map kD)
theorem pkv_txt {F : Hp} : ∀ {kvs : List (L2.Key × D)} {kv : List (L2.Key × V)}, PKV F kvs kv → (∀ p ∈ kvs, ∃ z, p.1 = Sum.inr z) → ∀ p ∈ kv, ∃ z, p.1 = Sum.inr z
  | _, _, .nil, _, p, hp => by cases hp
  | (g, d') :: r, (g', v') :: rv, .cons h t, ht, p, hp => by
    rcases List.mem_cons.mp hp with rfl | hp
    · obtain ⟨z, hz⟩ := ht _ (List.mem_cons_self ..)
      exact ⟨z, h.1.symm.trans hz⟩
    · exact pkv_txt t (fun q hq => ht q (List.mem_cons_of_mem _ hq)) p hp
theorem r3_inNo {a : Addr} {kvs : List (L2.Key × D)} (hx : NoKeyD x) (hm : M a = some (.dK kvs)) (ht : ∀ p ∈ kvs, ∃ z, p.1 = Sum.inr z) (q : Q (.bl neg) M) : R3 B (rINA K P w neg) x (.ref a) M Q := fun F H xv yv Qv b st rx ry k => by
  obtain ⟨_, ho, h1, kv, e, pk⟩ := st.own a _ hm
  subst e
  refine .inr (.inl ⟨a, kv, ry, .inl h1, pkv_txt pk ht, ?_, k F M (.bl neg) _ H (Ex.refl _) st rfl q⟩)
  rcases hx with ⟨c, rfl⟩ | ⟨ks, rfl⟩
  · exact .inl ⟨c, rx⟩
  · obtain ⟨p, vs, e2, hb, rs⟩ := rx
    rw [rs.keys] at hb
    exact .inr ⟨p, ks, e2, st.fz p _ hb⟩
theorem dp_strs {H : Hp} : ∀ ss : List Str, DpAll K H (ss.map V.str) (ss.map PyData.str)
  | [] => .nil
  | x :: ss => .cons (.str x) (dp_strs ss)
theorem pys_strs : ∀ ss : List Str, pys (ss.map D.str) = ss.map PyData.str
  | [] => rfl
  | z :: zs => by
    show py (D.str z) :: pys (zs.map D.str) = PyData.str z :: zs.map PyData.str
    rw [pys_strs zs]; rfl
theorem r3_inTup {n : Nat} {a : Addr} {ss : List Str} (ht : ∀ H, SqT K H a (ss.map V.str)) (hss : okDs 0 (ss.map D.str) = true) (hx : okD n x = true) (q : Q (.bl (if neg then !((ss.map D.str).any fun z => peq z x) else (ss.map D.str).any fun z => peq z x)) M) (hn : n ≤ 64 := by decide) :
    R3 B (rINA K P w neg) x (.ref a) M Q := fun F H xv yv Qv b st rx ry k => by
  have e1 := pys_strs ss
  have e2 : okD 1 (.tup (ss.map D.str)) = true := hss
  have e3 : SeqAt.shaped (.tuple (ss.map PyData.str)) = true := by
    have := okD_shaped e2 (by decide)
    rw [← e1]; exact this
  refine .inr (.inr ⟨py x, ss.map PyData.str, okD_dp st.fz hx rx, ?_, okD_shaped hx hn, e3, ?_⟩)
  · rw [show yv = V.ref a from ry]
    exact .tup (ht H) (dp_strs ss)
  · have e4 : ((ss.map PyData.str).any fun z => PyData.eqv z (py x)) = (ss.map D.str).any fun z => peq z x := by
      rw [← e1, any_pys]; rfl
    rw [e4]
    exact k F M (.bl _) _ H (Ex.refl _) st rfl q
end
end T3
set_option Elab.async false
set_option linter.all false
set_option maxRecDepth 100000
set_option maxHeartbeats 2000000
namespace L2
open PySem PySem.Spec PyProof.Rows
def rNB : V → V → Hp → VK → Prop := fun x y H Q => ∃ a b, x = .bl a ∧ y = .bl b ∧ Q (.bl (!decide (a = b))) H
theorem op_NB {X : Cx} : OpR X (compareOp .IsNot) rNB := op_isnot_bl
def rIB : V → V → Hp → VK → Prop := fun x y H Q => ∃ a b, x = .bl a ∧ y = .bl b ∧ Q (.bl (decide (a = b))) H
theorem op_IB {X : Cx} : OpR X (compareOp .Is) rIB := op_is_bl
def rUP : V → List V → Hp → VK → Prop := fun x xs H Q => ∃ a, x = .str a ∧ xs = [] ∧ a.length ≤ 5592405 ∧ Q (.str (Txt.upper a)) H
theorem mt_UP {X : Cx} : MtR X "str.upper" rUP := mt_upper
theorem pi_listK {X : Cx} (K : PySem.W.Frag) (hK : X.K = K) {tg l : Expr} {tl : TE} (hl : PE X l tl) : PI X tg l (iList K tl) := hK ▸ pi_list hl
end L2
namespace T3
open PySem L2
open Evl (Ex)
section
variable {B : Hp} {M : Mem} {K : PySem.W.Frag} {Q : DQ} {x y : D} {ds : List D} {a : Addr} {s : Str}
theorem r3_NB {c d : Bool} (q : Q (.bl (!decide (c = d))) M) : R3 B rNB (.bl c) (.bl d) M Q := fun F H xv yv Qv b st rx ry k => ⟨c, d, rx, ry, k F M (.bl _) _ H (Ex.refl _) st rfl q⟩
theorem r3_IB {c d : Bool} (q : Q (.bl (decide (c = d))) M) : R3 B rIB (.bl c) (.bl d) M Q := fun F H xv yv Qv b st rx ry k => ⟨c, d, rx, ry, k F M (.bl _) _ H (Ex.refl _) st rfl q⟩
theorem m3_upper (hl : s.length ≤ 1000000) (q : Q (.str (Txt.upper s)) M) : M3 B rUP (.str s) [] M Q := fun F H xv xvs Qv b st rx rxs k =>
  ⟨s, rx, rxs, Nat.le_trans hl (by decide), k F M (.str (Txt.upper s)) _ H (Ex.refl _) st rfl q⟩
theorem m3_popAt0 (h : M a = some (.lst (x :: ds))) (hl : ds.length ≤ 100000) (q : Q x (mput M a (.lst ds))) : M3 B rPopAt (.ref a) [.int 0] M Q := fun F H xv xvs Qv b st rx rxs k => by
  obtain ⟨v, e, ry⟩ := rxs.sing
  rw [show v = V.int 0 from ry] at e
  obtain ⟨_, ho, h1, vs, e2, rs⟩ := st.own a _ h
  subst e2
  obtain ⟨u, us, eu, ru, rus⟩ := rs
  subst eu
  refine ⟨a, u :: us, 0, 0, u, rx, e, h1, by decide, by decide, ?_, rfl, k F _ x _ _ (Ex.refl _) (st.put h (d' := .lst ds) ⟨us, rfl, rus⟩) ru q⟩
  simp [seqIndex?]
/-- a slice that is changed later -/
theorem s3_lO {lo hi : Option Int} (l : LstD M x ds) (q : ∀ p, M p = none → Q (.ref p) (mput M p (.lst (cutD ds lo hi)))) : S3 B (rSL K) x lo hi M Q := fun F H xv Qv b st rx k => by
  obtain ⟨c, vs, e, h1, r⟩ := l.seq (K := K) st rx
  exact .inl ⟨c, vs, e, h1, fun p hp => k F (mput M p (.lst (cutD ds lo hi))) (.ref p) _ _ (Ex.refl _) (st.newO hp ⟨_, rfl, r.cut lo hi⟩) rfl (q p (st.nn hp).2)⟩
end
end T3
set_option Elab.async false
set_option linter.all false
namespace L2
open PySem PySem.Spec PyProof.Rows
def tTry (K : PySem.W.Frag) (Wo : WX) (l : List (Value × Option Nat × TS)) (tb : WX → TS) : TS := fun D σ H => tb (wManyA K Wo D l) D σ H
section
variable {X : Cx} {body : List Stmt} {h₀ : ExceptHandler} {hds : List ExceptHandler} {l : List (Value × Option Nat × TS)} {pos : Pos} {tb : WX → TS} {Wout : WX}
theorem ps_tryM (hs : X.stack = X.env :: X.outer) (hf : X.env.frame = some X.env.locals) (hN : X.N.Nodup) (hex : X.ex = []) (tk : Takes X Wout)
    (hb : ∀ (W : WX) (pn : List (Addr × Obj)) (xe : Value → Shared → Prop), Takes (X.tr pn xe) W → PassesOwn (model X.prog X.w) X.A X.env xe → PSs (X.tr pn xe) body (tb W))
    (hh : HdsOkA X (h₀ :: hds) l) : PS X (.Try body (h₀ :: hds) [] [] pos) (tTry X.K Wout l tb) := ps_try_manyA hs hf hN hex tk hb hh
end
end L2
namespace T3
open PySem L2
open Evl (Ex)
theorem s_tryM {B : Hp} {M : Mem} {K : PySem.W.Frag} {σ : Sig} {D3 : Ends3} {tb : WX → TS} {l : List (Value × Option Nat × TS)} {Wo : WX} {EWo : EW3} (ho : ImpW B EWo Wo) (h : ∀ B' W EW, Ex B B' → exW B K EWo D3 l = EW → ImpW B' EW W → W3s B' (tb W) D3 σ M) : W3s B (tTry K Wo l tb) D3 σ M := s_try (tb := tb) ho fun B' W b hW => h B' W _ b rfl hW
end T3
set_option Elab.async false
set_option linter.all false
set_option maxRecDepth 100000
set_option maxHeartbeats 2000000
namespace L2
open PySem PySem.Spec PyProof.Rows
/-! ### C(k = v) where what it raises is looked at with the slots of that moment -/
def tMakeT (C : Addr) (n m : Nat) (sp : Sp) (gV : List V → List V → List V) (E : St → XK) (t tk : TA) : TE := fun σ H Q => t σ H fun vs H1 => tk σ H1 fun zs H2 => vs.length = n ∧ zs.length = m ∧ ∀ x dx, H2 x = none → H2 dx = none → dx ≠ x →
  sp (gV (.ref x :: vs) zs) (upd (upd H2 dx (.own x)) x (.ins C dx [])) (fun v H3 => v = .non ∧ Q (.ref x) H3) (E σ)
/-- what leaves a call in a fresh state leaves at the caller's -/
def PassesNew (CX : CXT) (X : Cx) (σ : St) (E : XK) : Prop := ∀ (pins : List (Addr × Obj)) (H H' : Hp) (s s0 : Shared) (e : Value) (s' : Shared), Inv X pins σ H s → Inv X pins σ H' s0 → CX X.stack H' s0 E e s' → X.xe e s'
theorem passesNew {CX : CXT} {X : Cx} {σ : St} {E : XK} (h : PassesAt CX X σ E) : PassesNew CX X σ E := fun pins _ H' _ s0 e s' _ I c => h pins H' s0 e s' I c
section
variable {X : Cx} {CX : CXT} {k n : Nat} {f C : Addr} {fd : FuncData} {ps ks : List Str} {sp : Sp} {E : St → XK} {x : Str} {p pos : Pos} {kws : List Keyword} {t tk : TA} {g : List Value → List Value → List Value} {gV : List V → List V → List V}
theorem run_makeT {pins : List (Addr × Obj)} {σ : St} {H : Hp} {s : Shared} {Q : VK} {us ws : List Value} {vs zs : List V} (M : Mk X.K C f) (F : FnOk X.prog X.w X.K X.mg X.base CX k f fd ps sp) (hr : Room (k + 1) X.A) (hb : KBn X.K fd ps (n + 1) ks g gV) (hx : PassesAt CX X σ (E σ))
    (I : Inv X pins σ H s) (r : Vals vs us) (rz : Vals zs ws) (l1 : vs.length = n) (l2 : zs.length = ks.length)
    (h : ∀ x dx, H x = none → H dx = none → dx ≠ x → sp (gV (.ref x :: vs) zs) (upd (upd H dx (.own x)) x (.ins C dx [])) (fun v H2 => v = .non ∧ Q (.ref x) H2) (E σ)) :
    wpAny (model X.prog X.w) X.A (call (.ref C) us (ks.zip ws)) (EP X pins σ Q) X.xe s := by
  have hq := h (s.heap.objs.size + 1) s.heap.objs.size (I.hok.fresh (Nat.le_succ _)) (I.hok.fresh (Nat.le_refl _)) (Nat.ne_of_lt (Nat.lt_succ_self _))
  have I2 := Inv.made (C := C) I
  have r1 : Vals (V.ref (s.heap.objs.size + 1) :: vs) (Value.ref (s.heap.objs.size + 1) :: us) := .cons rfl r
  have r2 := hb.rel r1 rz
  have n1 : (Value.ref (s.heap.objs.size + 1) :: us).length = n + 1 := by
    rw [List.length_cons, ← r.length, l1]
  refine wpAny_call (make_map (f := f) I.kIn M.makes M.init (beq_iff_eq.mp M.fn) (codeAny_mono (F.run _ X.stack _ _ ⟨Value.ref (s.heap.objs.size + 1) :: us, ks.zip ws⟩ (g (Value.ref (s.heap.objs.size + 1) :: us) ws) _ _ (E σ) (hr.make C us (ks.zip ws))
    (I2.env0.make C us (ks.zip ws)) (hb.to _ (Value.ref (s.heap.objs.size + 1) :: us) ws I2.kIn n1 (rz.length.symm.trans l2)) r2 hq) fun r s' hq' => ?_))
  cases r with
  | error e => exact hx pins _ _ e s' I2 hq'
  | ok fl =>
    cases fl with
    | ret u =>
      obtain ⟨v, H', I3, rv, ev, q3⟩ := I2.after hq'
      subst ev
      exact ⟨rv, ⟨V.ref (s.heap.objs.size + 1), H', I3, rfl, q3⟩⟩
    | next => exact False.elim hq'
    | brk => exact False.elim hq'
    | cont => exact False.elim hq'
theorem pe_makeT0 (M : Mk X.K C f) (F : FnOk X.prog X.w X.K X.mg X.base CX k f fd ps sp) (hr : Room (k + 1) X.A) (hg : Gl X x) (hm : X.mg x = some (.ref C)) (hb : KBn X.K fd ps 1 ks g gV) (hx : ∀ σ, PassesAt CX X σ (E σ)) (hkw : PK X kws tk)
    (hall : (backToKw pos (keywordEach kws X.env)).all (·.1.isSome) = true := by rfl) (hks : (backToKw pos (keywordEach kws X.env)).filterMap (·.1) = ks := by rfl) (hdb : (x == ("__debug__" : Str)) = false := by decide)
    (hpl : ((backTo pos (starEach [] X.env)).any (·.1) || (backToKw pos (keywordEach kws X.env)).any (·.1.isNone)) = false := by rfl) :
    PE X (.Call (.Name x p) [] kws pos) (tMakeT C 0 ks.length sp gV E tNil tk) := by
  refine ⟨fun pins s σ H Q I h => ?_⟩
  refine wpAny_Call_Name_kw (ld_glob I hg hm ?_ hdb)
  refine PySem.W.callWith_KW0 (h₀ := X.base) I.ok.mod.kin M.kp hall ?_ hpl
  refine thn (hkw.run pos pins s σ H _ I h) fun ws s2 ⟨zs, H2, I2, rz, l1, l2, q2⟩ => ⟨I2.kIn, ?_⟩
  rw [hks]
  exact run_makeT (us := []) (vs := []) M F hr hb (hx σ) I2 .nil rz rfl l2 q2
theorem pe_conK {X : Cx} {e : Expr} {ta : TE} {f : Str} {pos : Pos} (K : PySem.W.Frag) (h : X.K = K) (he : PE X e ta) (hb : attributeBase e f X.env (eval e X.env) = eval e X.env := by rfl) : PE X (.Attribute e f pos) (tCon K ta f) := by subst h; exact pe_con he hb
end
/-! ### len of an own instance -/
def rLenOwn (C : Addr) (f : Str) : List V → Hp → VK → Prop := fun xs H Q => ∃ (a dx : Addr) (fs : List (Str × V)) (l : Addr) (zs : List V), xs = [V.ref a] ∧ H a = some (.ins C dx fs) ∧ fs.lookup f = some (V.ref l) ∧ H l = some (.lst zs) ∧ Q (.int zs.length) H
section
variable {X : Cx} {n : Nat} {C fl : Addr} {fdL : FuncData} {psL : List Str} {g : Str}
theorem call_lenOwn (hle : PySem.W.findIn X.K (.ref C) "__len__" = some (some (.ref fl))) (hlf : PySem.W.isFn X.K (.ref fl) = true)
    (FL : FnOk X.prog X.w X.K X.mg X.base CX0 n fl fdL psL (spLen C g)) (bL : Binds X.K fdL psL []) (hr : Room (n + 1) X.A) : CallR X (.builtin "len") (rLenOwn C g) := by
  intro pins s σ H xs us Q I rv h
  obtain ⟨a, dx, fs, l, zs, rfl, ha, hg, hl, q⟩ := h
  obtain ⟨u, rfl, ru⟩ := vals1 rv
  obtain rfl : u = Value.ref a := ru
  obtain ⟨mA, J, _⟩ := ins_get I.hok ha
  obtain ⟨od, J, _⟩ := J.look
  obtain ⟨m0, hF⟩ := I.fr
  have KX := I.kIn
  have hlen := (I.lstM hl).1
  have q1 : spLen C g [.ref a] H (fun v H' => v = .int zs.length ∧ H' = H) (fun _ _ _ => False) := ⟨a, dx, fs, l, zs, rfl, ha, hg, hl, rfl, rfl⟩
  have hll := FL.len _ _ _ _ q1
  have e0 : Env0 X.prog X.w X.K X.mg X.base X.A.in1 X.stack s H := I.env0.in1
  have b := bL s [.ref a] KX (by simpa using hll)
  rw [List.append_nil] at b
  refine PySem.W.len_K hF I.ok.mod.kin J hle hlf ?_
  refine wpAny_call (codeAny_mono (FL.run X.A.in1 X.stack s H ⟨[.ref a], []⟩ [.ref a] [.ref a] _ (fun _ _ _ => False) hr.in1 e0 b (.cons rfl .nil) q1) fun r s' hq => ?_)
  cases r with
  | error e => exact hq.elim
  | ok fl =>
    cases fl with
    | next => exact False.elim hq
    | brk => exact False.elim hq
    | cont => exact False.elim hq
    | ret u =>
      obtain ⟨v, H', I', rv, ev, eH⟩ := I.after hq
      subst ev
      rw [eH] at I'
      obtain ⟨t, rfl⟩ := rv
      have hz := sizeLine_eq
      exact ⟨⟨by omega, by omega⟩, .int zs.length, H, I'.tok _, ⟨_, rfl⟩, q⟩
end
end L2
namespace T3
open PySem L2
open Evl (Ex)
section
variable {B : Hp} {M : Mem} {K : PySem.W.Frag} {σ : Sig} {t tk : TA} {ta tv te : TE} {Q : DQ} {S : Sp3} {E3 : EQ3} {dds : List D} {dvs : List V} {P : Program} {w : World} {D3 : Ends3}
/-- a constant of the class through an instance -/
theorem w_con {f : Str} {i : Int} {C : Addr} {u : Value} (hv : Con K C f (.int i) u) (hc : Cls K C) (h : W3e B ta σ M (fun x M1 => ∃ fs, InsD M1 x C fs ∧ fs.lookup f = none ∧ Q (.int i) M1)) : W3e B (tCon K ta f) σ M Q := fun F σv H Qv b hs st k =>
  h F σv H _ b hs st fun F1 M1 x xv H1 e1 st1 rx ⟨fs, hi, l, q⟩ => by
    obtain ⟨a, dx, fv, ev, ha, pk⟩ := hi.at st1 rx
    exact ⟨a, C, dx, fv, .int i, u, ev, ha, hc, hv, (pkv_look pk).2 l, k F1 M1 (.int i) _ H1 e1 st1 rfl q⟩
/-- a property, read -/
theorem w_prop {C : Addr} {E : XK} (hE : ImpE B E3 E) (h : W3e B ta σ M (fun x M1 => ∃ fs, InsD M1 x C fs ∧ S [x] M1 Q E3)) : W3e B (tProp C (lift3 S) [] E ta) σ M Q := fun F σv H Qv b hs st k =>
  h F σv H _ b hs st fun F1 M1 x xv H1 e1 st1 rx ⟨fs, hi, q1⟩ => by
    obtain ⟨a, dx, fv, ev, ha, pk⟩ := hi.at st1 rx
    refine ⟨a, dx, fv, ev, ha, ?_⟩
    exact lift_of (ds := [x]) (b.trans e1) st1 ⟨_, _, rfl, (by rw [← ev]; exact rx), rfl⟩ hE (fun F3 M3 d v H3 e3 s3 r3 q3 => k F3 M3 d v H3 (e1.trans e3) s3 r3 q3) q1
theorem c3_lenOwn {b l C : Addr} {f : Str} {fs : List (Str × D)} {ds : List D} (hb : M b = some (.ins C fs)) (hf : fs.lookup f = some (.ref l)) (hm : M l = some (.lst ds)) (q : Q (.int ds.length) M) : C3 B (rLenOwn C f) [.ref b] M Q := fun F H xv Qv bb st rx k => by
  obtain ⟨v, e, r⟩ := rx.sing
  subst e
  obtain rfl : v = V.ref b := r
  obtain ⟨_, ho0, h0, dx, fv, e0, pk⟩ := st.own b _ hb
  subst e0
  obtain ⟨v0, hv0, rv0⟩ := (pkv_look (f := f) pk).1 hf
  have rv0 : v0 = V.ref l := rv0
  subst rv0
  obtain ⟨_, ho, h1, vs, e2, rs⟩ := st.own l _ hm
  subst e2
  exact ⟨b, dx, fv, l, vs, rfl, h0, hv0, h1, by rw [← rs.length]; exact k F M (.int _) _ H (Ex.refl _) st rfl q⟩
/-- C(k = v) -/
theorem w_makeT {C : Addr} {n k' : Nat} {gV : List V → List V → List V} {gD : List D → List D → List D} {W : WX} {EW : EW3} (hg : Put2 gV gD) (hW : ImpW B EW W)
    (h : W3a B t σ M (fun ds M2 => W3a B tk σ M2 (fun es M3 => ds.length = n ∧ es.length = k' ∧ ∀ p, M3 p = none → S (gD (.ref p :: ds) es) (mput M3 p (.ins C [])) (fun d M4 => d = .non ∧ Q (.ref p) M4) (fun C th M' => EW C th σ M')))) : W3e B (tMakeT C n k' (lift3 S) gV (WE W) t tk) σ M Q := fun F σv H Qv b hs st k =>
  h F σv H _ b hs st fun F1 M1 ds vs H1 e1 st1 rs q1 => q1 F1 σv H1 _ (b.trans e1) (hs.mono e1) st1 fun F2 M2 es zs H2 e2 st2 rz ⟨l1, l2, q2⟩ => by
    refine ⟨by rw [← rs.length]; exact l1, by rw [← rz.length]; exact l2, fun x dx hx hdx hne => ?_⟩
    have hx2 : (upd H2 dx (.own x)) x = none := by rw [upd_ne (Ne.symm hne)]; exact hx
    have s1 : St3 F2 M2 (upd H2 dx (.own x)) := by
      obtain ⟨f0, m0⟩ := st2.nn hdx
      refine ⟨fun a u e => ?_, fun a u e => ?_⟩
      · rw [upd_ne (ne_of_none e f0)]; exact st2.fz a u e
      · obtain ⟨y1, ho, y2, y3⟩ := st2.own a u e
        exact ⟨y1, ho, by rw [upd_ne (mne e m0)]; exact y2, y3⟩
    have s2 := s1.newO (p := x) (o := .ins C dx []) (d := .ins C []) hx2 ⟨dx, [], rfl, .nil⟩
    refine ⟨gD (.ref x :: ds) es, F2, _, (fun d M4 => d = .non ∧ Q (.ref x) M4), _, hg _ _ _ _ _ ⟨V.ref x, _, rfl, rfl, rs.mono e2⟩ rz, s2, fun F3 M3 d v H3 e3 s3 r3 ⟨ed, q3⟩ => ?_, fun F' M' C d thing v H' e s r z q' => hW F' M' σ σv C d thing v H' ((b.trans (e1.trans e2)).trans e) ((hs.mono (e1.trans e2)).mono e) s r z q', q2 x (st2.nn hx).2⟩
    subst ed
    exact ⟨r3, k F3 M3 (.ref x) (.ref x) H3 ((e1.trans e2).trans e3) s3 rfl q3⟩
/-- forget much at once -/
theorem vs_less {d : D} {M M' : Mem} (h : ∀ a o, M' a = some o → M a = some o) : VS d M d M' := fun F H v s r => ⟨F, Ex.refl _, ⟨s.fz, fun a o e => s.own a o (h a o e)⟩, r⟩
theorem vss_less {σ : Sig} {M M' : Mem} (h : ∀ a o, M' a = some o → M a = some o) : VSs σ M σ M' := fun F H σv s r => ⟨F, Ex.refl _, ⟨s.fz, fun a o e => s.own a o (h a o e)⟩, r⟩
end
end T3
set_option Elab.async false
set_option linter.all false
set_option maxRecDepth 100000
set_option maxHeartbeats 2000000
/-! A run that does not wake the sleeping generators of a set leaves them in the table as they are.
   Trick: put a state whose continuation is stuck in their place; a run that ends with that table never woke them. -/
namespace GenF
open PySem
open Sem (wp)
/-- the stuck continuation -/
def stuck : Resume → Sem PySem.Fin := fun _ => .unsupported ""
def isRet : Frame → Bool
  | .ret .. => true
  | _ => false
/-- no generator's own frame -/
def NoG (fs : List Frame) : Prop := ∀ F ∈ fs, isRet F = true
theorem NoG.nil : NoG [] := fun _ h => nomatch h
theorem NoG.split : ∀ {fs : List Frame}, NoG fs → splitAtGen fs = none
  | [], _ => rfl
  | F :: fs, h => by
    cases F with
    | ret => show (splitAtGen fs).map _ = none; rw [NoG.split fun G hG => h G (List.mem_cons_of_mem _ hG)]; rfl
    | gen => exact absurd (h _ List.mem_cons_self) (by simp [isRet])
theorem NoG.append {a b : List Frame} (h : NoG a) (k : NoG b) : NoG (a ++ b) := fun F hF => (List.mem_append.mp hF).elim (h F) (k F)
/-- the frames that a run is stopped with -/
def EndG : End → Prop
  | .ret _ => True
  | .susp _ _ _ _ _ _ fs => NoG fs
/-- the table G', where the sleepers of I are stuck, in place of G -/
structure GRel (I : Nat → Prop) (G G' : Array GenState) : Prop where
  size : G'.size = G.size
  out : ∀ i, ¬ I i → G'[i]? = G[i]?
  sus : ∀ i, I i → ∃ k l c p fs cl, G[i]? = some (.suspended k l c p fs cl) ∧ G'[i]? = some (.suspended stuck l c p fs cl)
  good : ∀ i k l c p fs cl, ¬ I i → G'[i]? = some (.suspended k l c p fs cl) → NoG fs
structure SRel (I : Nat → Prop) (s s' : Shared) : Prop where
  heap : s'.heap = s.heap
  drawn : s'.drawn = s.drawn
  toks : s'.toks = s.toks
  os : s'.os = s.os
  gens : GRel I s.gens s'.gens
/-- what is known at the end: t is the end from s, t' that from s' -/
structure SEnd (I : Nat → Prop) (s t t' : Shared) : Prop where
  rel : SRel I t t'
  same : ∀ i, I i → t.gens[i]? = s.gens[i]?
variable {I : Nat → Prop} {M : Model}
theorem stuck_no0 {Γ : Ctx} {p : Pos} {s s' : Shared} {e : End} {w : String} : ¬ Runs M Γ p (.unsupported w) [] s e s' := by
  intro h
  cases h
theorem stuck_no {Γ : Ctx} {p : Pos} {fs : List Frame} {s s' : Shared} {e : End} {w : String} : ¬ Runs M Γ p (.unsupported w) fs s e s' := by
  intro h
  cases fs with
  | nil => exact stuck_no0 h
  | cons F fs => cases h <;> exact stuck_no0 (by assumption)
theorem SEnd.trans {s t t' u u' : Shared} (a : SEnd I s t t') (b : SEnd I t u u') : SEnd I s u u' := ⟨b.rel, fun i h => (b.same i h).trans (a.same i h)⟩
theorem SEnd.refl {s s' : Shared} (r : SRel I s s') : SEnd I s s s' := ⟨r, fun _ _ => rfl⟩
/-- what may be put into the table -/
def PutG : GenState → Prop
  | .suspended _ _ _ _ fs _ => NoG fs
  | _ => True
theorem EndG.put {e : End} (h : EndG e) : PutG e.genState := by
  cases e with
  | ret _ => trivial
  | susp => exact h
theorem GRel.setGen {s s' : Shared} {g : Nat} {x : GenState} (r : GRel I s.gens s'.gens) (hg : ¬ I g) (hx : PutG x) : GRel I (s.setGen g x).gens (s'.setGen g x).gens where
  size := by rw [GenW.setGen_size, GenW.setGen_size]; exact r.size
  out := fun i hi => by
    show (s'.gens.setIfInBounds g x)[i]? = (s.gens.setIfInBounds g x)[i]?
    rw [Array.getElem?_setIfInBounds, Array.getElem?_setIfInBounds, r.size, r.out i hi]
  sus := fun i hi => by
    have hne : g ≠ i := fun q => hg (q ▸ hi)
    obtain ⟨k, l, c, p, fs, cl, h1, h2⟩ := r.sus i hi
    refine ⟨k, l, c, p, fs, cl, ?_, ?_⟩
    · show (s.gens.setIfInBounds g x)[i]? = _
      rw [Array.getElem?_setIfInBounds_ne hne]; exact h1
    · show (s'.gens.setIfInBounds g x)[i]? = _
      rw [Array.getElem?_setIfInBounds_ne hne]; exact h2
  good := fun i k l c p fs cl hi h => by
    have h : (s'.gens.setIfInBounds g x)[i]? = some (.suspended k l c p fs cl) := h
    rw [Array.getElem?_setIfInBounds] at h
    split at h
    · split at h
      · cases h; exact hx
      · cases h
    · exact r.good i k l c p fs cl hi h
theorem same_setGen {s : Shared} {g i : Nat} {x : GenState} (hg : ¬ I g) (hi : I i) : (s.setGen g x).gens[i]? = s.gens[i]? := by
  have hne : g ≠ i := fun q => hg (q ▸ hi)
  show (s.gens.setIfInBounds g x)[i]? = _
  rw [Array.getElem?_setIfInBounds_ne hne]
theorem SRel.setGen {s s' : Shared} {g : Nat} {x : GenState} (r : SRel I s s') (hg : ¬ I g) (hx : PutG x) : SRel I (s.setGen g x) (s'.setGen g x) :=
  ⟨r.heap, r.drawn, r.toks, r.os, r.gens.setGen hg hx⟩
theorem GRel.lt {G G' : Array GenState} (r : GRel I G G') {i : Nat} (hi : I i) : i < G.size := by
  obtain ⟨_, _, _, _, _, _, h, _⟩ := r.sus i hi
  exact (Array.getElem?_eq_some_iff.mp h).1
theorem GRel.push {G G' : Array GenState} {x : GenState} (r : GRel I G G') (hx : PutG x) : GRel I (G.push x) (G'.push x) where
  size := by rw [Array.size_push, Array.size_push, r.size]
  out := fun i hi => by
    rw [Array.getElem?_push, Array.getElem?_push, r.size, r.out i hi]
  sus := fun i hi => by
    have hl := r.lt hi
    obtain ⟨k, l, c, p, fs, cl, h1, h2⟩ := r.sus i hi
    refine ⟨k, l, c, p, fs, cl, ?_, ?_⟩
    · rw [Array.getElem?_push, if_neg (Nat.ne_of_lt hl)]; exact h1
    · rw [Array.getElem?_push, r.size, if_neg (Nat.ne_of_lt hl)]; exact h2
  good := fun i k l c p fs cl hi h => by
    rw [Array.getElem?_push] at h
    split at h
    · cases h; exact hx
    · exact r.good i k l c p fs cl hi h
/-- the state of a generator that is read there is read here -/
theorem GRel.at {G G' : Array GenState} (r : GRel I G G') {g : Nat} {x : GenState} (h : G'[g]? = some x) : (¬ I g ∧ G[g]? = some x) ∨ (I g ∧ ∃ y, G[g]? = some y ∧ y.seen = x.seen ∧ ∃ l c p fs cl, x = .suspended stuck l c p fs cl) := by
  by_cases hg : I g
  · obtain ⟨k, l, c, p, fs, cl, h1, h2⟩ := r.sus g hg
    rw [h] at h2; cases h2
    exact .inr ⟨hg, _, h1, rfl, l, c, p, fs, cl, rfl⟩
  · rw [r.out g hg] at h; exact .inl ⟨hg, h⟩
theorem frame_runs {Γ : Ctx} {p : Pos} {t : Sem PySem.Fin} {fs : List Frame} {s1 s1' : Shared} {e : End} (h : Runs M Γ p t fs s1 e s1') :
    NoG fs → ∀ s, SRel I s s1 → EndG e ∧ ∃ s', Runs M Γ p t fs s e s' ∧ SEnd I s s' s1' := by
  induction h with
  | done => intro _ s r; exact ⟨trivial, s, .done, .refl r⟩
  | raise => intro _ s r; exact ⟨trivial, s, .raise, .refl r⟩
  | again hq _ ih => intro n s r; obtain ⟨y, s', h, z⟩ := ih n s r; exact ⟨y, s', .again hq h, z⟩
  | rule _ ih => intro n s r; obtain ⟨y, s', h, z⟩ := ih n s r; exact ⟨y, s', .rule h, z⟩
  | «at» _ ih => intro n s r; obtain ⟨y, s', h, z⟩ := ih n s r; exact ⟨y, s', .at h, z⟩
  | load ho _ ih => intro n s r; obtain ⟨y, s', h, z⟩ := ih n s r; exact ⟨y, s', .load (by rw [← r.heap]; exact ho) h, z⟩
  | update ho _ ih =>
    intro n s r
    obtain ⟨y, s', h, z⟩ := ih n ⟨_, s.gens, s.drawn, s.toks, s.os⟩ ⟨rfl, r.drawn, r.toks, r.os, r.gens⟩
    rw [r.heap] at h
    exact ⟨y, s', .update (by rw [← r.heap]; exact ho) h, ⟨z.rel, z.same⟩⟩
  | loadIfAlive _ ih => intro n s r; obtain ⟨y, s', h, z⟩ := ih n s r; rw [r.heap] at h; exact ⟨y, s', .loadIfAlive h, z⟩
  | point _ ih => intro n s r; obtain ⟨y, s', h, z⟩ := ih n s r; exact ⟨y, s', .point h, z⟩
  | alloc _ ih =>
    intro n s r
    obtain ⟨y, s', h, z⟩ := ih n ⟨_, s.gens, s.drawn, s.toks, s.os⟩ ⟨rfl, r.drawn, r.toks, r.os, r.gens⟩
    rw [r.heap] at h
    exact ⟨y, s', .alloc h, ⟨z.rel, z.same⟩⟩
  | fresh _ ih =>
    intro n s r
    obtain ⟨y, s', h, z⟩ := ih n ⟨s.heap, s.gens, s.drawn, s.toks + 1, s.os⟩ ⟨r.heap, r.drawn, congrArg (· + 1) r.toks, r.os, r.gens⟩
    rw [r.toks] at h
    exact ⟨y, s', .fresh h, ⟨z.rel, z.same⟩⟩
  | ask _ ih => intro n s r; obtain ⟨y, s', h, z⟩ := ih n s r; exact ⟨y, s', .ask h, z⟩
  | choose hn _ ih =>
    rename_i src _ _ _ _ _
    intro n s r
    obtain ⟨y, s', h, z⟩ := ih n ⟨s.heap, s.gens, s.drawn.bump (by assumption), s.toks, s.os⟩ ⟨r.heap, congrArg (fun d : Drawn => d.bump _) r.drawn, r.toks, r.os, r.gens⟩
    rw [r.drawn] at h
    exact ⟨y, s', .choose hn h, ⟨z.rel, z.same⟩⟩
  | os _ ih =>
    intro n s r
    obtain ⟨y, s', h, z⟩ := ih n ⟨s.heap, s.gens, s.drawn, s.toks, (Os.step s.os _).1⟩ ⟨r.heap, r.drawn, r.toks, congrArg (fun o => (Os.step o _).1) r.os, r.gens⟩
    rw [r.os] at h
    exact ⟨y, s', .os h, ⟨z.rel, z.same⟩⟩
  | handled _ ih => intro n s r; obtain ⟨y, s', h, z⟩ := ih n s r; exact ⟨y, s', .handled h, z⟩
  | genState hg _ ih =>
    intro n s r
    obtain ⟨y, s', h, z⟩ := ih n s r
    rcases r.gens.at hg with ⟨_, q⟩ | ⟨_, x, q, hy, _⟩
    · exact ⟨y, s', .genState q h, z⟩
    · exact ⟨y, s', .genState q (by rw [hy]; exact h), z⟩
  | stack _ ih => intro n s r; obtain ⟨y, s', h, z⟩ := ih n s r; exact ⟨y, s', .stack h, z⟩
  | thread _ ih => intro n s r; obtain ⟨y, s', h, z⟩ := ih n s r; exact ⟨y, s', .thread h, z⟩
  | newGen _ ih =>
    intro n s r
    obtain ⟨y, s', h, z⟩ := ih n ⟨s.heap, s.gens.push (.fresh _), s.drawn, s.toks, s.os⟩ ⟨r.heap, r.drawn, r.toks, r.os, r.gens.push trivial⟩
    rw [r.gens.size] at h
    refine ⟨y, s', .newGen h, ⟨z.rel, fun i hi => (z.same i hi).trans ?_⟩⟩
    show (s.gens.push _)[i]? = _
    rw [Array.getElem?_push, if_neg (Nat.ne_of_lt (r.gens.lt hi))]
  | call _ _ ih1 ih2 =>
    intro n s r
    obtain ⟨_, s2, h2, z2⟩ := ih1 .nil s r
    obtain ⟨y, s3, h3, z3⟩ := ih2 n s2 z2.rel
    exact ⟨y, s3, .call h2 h3, z2.trans z3⟩
  | callSusp _ ih => intro n s r; obtain ⟨y, s', h, z⟩ := ih n s r; exact ⟨NoG.append (show NoG _ from y) (fun F hF => by rw [List.mem_singleton.mp hF]; rfl), s', .callSusp h, z⟩
  | yield => intro n s r; exact ⟨.nil, s, .yield, .refl r⟩
  | resumeFresh hg _ hq _ ih1 ih2 =>
    intro n s r
    rcases r.gens.at hg with ⟨hn, q⟩ | ⟨_, y, q, _, _, _, _, _, _, hx⟩
    · obtain ⟨y2, s2, h2, z2⟩ := ih1 .nil _ (r.setGen hn trivial)
      obtain ⟨y3, s3, h3, z3⟩ := ih2 n _ (z2.rel.setGen hn y2.put)
      exact ⟨y3, s3, .resumeFresh q h2 hq h3, ⟨z3.rel, fun i hi => (z3.same i hi).trans ((same_setGen hn hi).trans ((z2.same i hi).trans (same_setGen hn hi)))⟩⟩
    · cases hx
  | resumeSuspended hg hr hq _ ih1 ih2 =>
    intro n s r
    rcases r.gens.at hg with ⟨hn, q⟩ | ⟨_, y, q, _, _, _, _, _, _, hx⟩
    · obtain ⟨y2, s2, h2, z2⟩ := ih1 (r.gens.good _ _ _ _ _ _ _ hn hg) _ (r.setGen hn trivial)
      obtain ⟨y3, s3, h3, z3⟩ := ih2 n _ (z2.rel.setGen hn y2.put)
      exact ⟨y3, s3, .resumeSuspended q h2 hq h3, ⟨z3.rel, fun i hi => (z3.same i hi).trans ((same_setGen hn hi).trans ((z2.same i hi).trans (same_setGen hn hi)))⟩⟩
    · cases hx
      exact (stuck_no hr).elim
  | resumeJustStarted hg hv _ ih =>
    intro n s r
    rcases r.gens.at hg with ⟨hn, q⟩ | ⟨_, y, q, _, _, _, _, _, _, hx⟩
    · obtain ⟨y, s', h, z⟩ := ih n s r; exact ⟨y, s', .resumeJustStarted q hv h, z⟩
    · cases hx
  | resumeThrowFresh hg _ ih =>
    intro n s r
    rcases r.gens.at hg with ⟨hn, q⟩ | ⟨_, y, q, _, _, _, _, _, _, hx⟩
    · obtain ⟨y, s', h, z⟩ := ih n _ (r.setGen hn trivial); exact ⟨y, s', .resumeThrowFresh q h, ⟨z.rel, fun i hi => (z.same i hi).trans (same_setGen hn hi)⟩⟩
    · cases hx
  | resumeRunning hg _ ih =>
    intro n s r
    rcases r.gens.at hg with ⟨hn, q⟩ | ⟨_, y, q, _, _, _, _, _, _, hx⟩
    · obtain ⟨y, s', h, z⟩ := ih n s r; exact ⟨y, s', .resumeRunning q h, z⟩
    · cases hx
  | resumeFinished hg _ ih =>
    intro n s r
    rcases r.gens.at hg with ⟨hn, q⟩ | ⟨_, y, q, _, _, _, _, _, _, hx⟩
    · obtain ⟨y, s', h, z⟩ := ih n s r; exact ⟨y, s', .resumeFinished q h, z⟩
    · cases hx
  | segRet _ _ ih1 ih2 =>
    intro n s r
    obtain ⟨_, s2, h2, z2⟩ := ih1 .nil s r
    obtain ⟨y, s3, h3, z3⟩ := ih2 (fun F hF => n F (List.mem_cons_of_mem _ hF)) s2 z2.rel
    exact ⟨y, s3, .segRet h2 h3, z2.trans z3⟩
  | segGen _ _ ih1 ih2 => intro n; exact absurd (n _ List.mem_cons_self) (by simp [isRet])
  | segSuspOut hs _ ih => intro n s r; obtain ⟨y, s', h, z⟩ := ih .nil s r; exact ⟨NoG.append (show NoG _ from y) n, s', .segSuspOut hs h, z⟩
  | segSuspGen hs _ hq _ ih1 ih2 => intro n; rw [n.split] at hs; cases hs

theorem frame_returns {Γ : Ctx} {p : Pos} {s s1 s1' : Shared} {r : Result} (h : Returns M Γ p s1 r s1') (rel : SRel I s s1) : ∃ s', Returns M Γ p s r s' ∧ SEnd I s s' s1' := by
  obtain ⟨_, s', a, b⟩ := frame_runs h .nil s rel
  exact ⟨s', a, b⟩
theorem frame_wakes {Γ : Ctx} {p : Pos} {g : Nat} {r : Resume} {s s1 s1' : Shared} {res : GenResult} (h : Wakes M Γ p g r s1 res s1') (rel : SRel I s s1) : ∃ s', Wakes M Γ p g r s res s' ∧ SEnd I s s' s1' := by
  unfold Wakes at h
  split at h
  · exact h.elim
  · rename_i hg
    rcases rel.gens.at hg with ⟨hn, q⟩ | ⟨_, y, q, _, _, _, _, _, _, hx⟩
    · split at h
      · obtain ⟨e₁, s₁, hr, hq, rfl, rfl⟩ := h
        obtain ⟨y2, s2, h2, z2⟩ := frame_runs hr .nil _ (rel.setGen hn trivial)
        refine ⟨s2.setGen g e₁.genState, ?_, z2.rel.setGen hn y2.put, fun i hi => (same_setGen hn hi).trans ((z2.same i hi).trans (same_setGen hn hi))⟩
        unfold Wakes
        rw [q]
        exact ⟨e₁, s2, h2, hq, rfl, rfl⟩
      · rename_i hv
        obtain ⟨rfl, rfl⟩ := h
        refine ⟨s, ?_, .refl rel⟩
        unfold Wakes
        rw [q]
        dsimp only
        split
        · rename_i e; cases e; exact (hv rfl).elim
        · exact ⟨rfl, rfl⟩
        · rename_i e; cases e
      · obtain ⟨rfl, rfl⟩ := h
        refine ⟨s.setGen g .finished, ?_, rel.setGen hn trivial, fun i hi => same_setGen hn hi⟩
        unfold Wakes
        rw [q]
        exact ⟨rfl, rfl⟩
    · cases hx
  · rename_i hg
    obtain ⟨e₁, s₁, hr, hq, rfl, rfl⟩ := h
    rcases rel.gens.at hg with ⟨hn, q⟩ | ⟨_, y, q, _, _, _, _, _, _, hx⟩
    · obtain ⟨y2, s2, h2, z2⟩ := frame_runs hr (rel.gens.good _ _ _ _ _ _ _ hn hg) _ (rel.setGen hn trivial)
      refine ⟨s2.setGen g e₁.genState, ?_, z2.rel.setGen hn y2.put, fun i hi => (same_setGen hn hi).trans ((z2.same i hi).trans (same_setGen hn hi))⟩
      unfold Wakes
      rw [q]
      exact ⟨e₁, s2, h2, hq, rfl, rfl⟩
    · cases hx
      exact (stuck_no hr).elim
  · rename_i hg
    obtain ⟨rfl, rfl⟩ := h
    rcases rel.gens.at hg with ⟨hn, q⟩ | ⟨_, y, q, _, _, _, _, _, _, hx⟩
    · refine ⟨s, ?_, .refl rel⟩
      unfold Wakes
      rw [q]
      exact ⟨rfl, rfl⟩
    · cases hx
  · rename_i hg
    obtain ⟨rfl, rfl⟩ := h
    rcases rel.gens.at hg with ⟨hn, q⟩ | ⟨_, y, q, _, _, _, _, _, _, hx⟩
    · refine ⟨s, ?_, .refl rel⟩
      unfold Wakes
      rw [q]
      exact ⟨rfl, rfl⟩
    · cases hx
theorem frame_wp {α : Type} {Γ : Ctx} (t : Sem α) : ∀ (s0 s s1 : Shared) (Q : α → Pos → Shared → Prop) (E : Value → Pos → Shared → Prop) (p : Pos), SEnd I s0 s s1 → wp M Γ t Q E p s1 →
    wp M Γ t (fun a p' s' => ∃ s1', SEnd I s0 s' s1' ∧ Q a p' s1') (fun e p' s' => ∃ s1', SEnd I s0 s' s1' ∧ E e p' s1') p s := by
  induction t with
  | pure a => intro s0 s s1 Q E p r h; exact ⟨s1, r, h⟩
  | raise e => intro s0 s s1 Q E p r h; exact ⟨s1, r, h⟩
  | unsupported _ => intro s0 s s1 Q E p _ h; exact h
  | finish _ => intro s0 s s1 Q E p _ h; exact h
  | rule _ k ih => intro s0 s s1 Q E p r h; exact ih () s0 s s1 Q E p r h
  | «at» p' k ih => intro s0 s s1 Q E p r h; exact ih () s0 s s1 Q E p' r h
  | load a _ k ih => intro s0 s s1 Q E p r h; obtain ⟨o, ho, h⟩ := h; exact ⟨o, by rw [← r.rel.heap]; exact ho, ih o s0 s s1 Q E p r h⟩
  | update a _ f k ih =>
    intro s0 s s1 Q E p r h
    exact ⟨by rw [← r.rel.heap]; exact h.1, ih () s0 { s with heap := s.heap.update a f } { s1 with heap := s1.heap.update a f } Q E p ⟨⟨congrArg (fun h : Heap => h.update a f) r.rel.heap, r.rel.drawn, r.rel.toks, r.rel.os, r.rel.gens⟩, r.same⟩ h.2⟩
  | loadIfAlive a k ih => intro s0 s s1 Q E p r h; have h := ih _ s0 s s1 Q E p r h; rw [r.rel.heap] at h; exact h
  | point _ k ih => intro s0 s s1 Q E p r h; exact ih () s0 s s1 Q E p r h
  | register _ _ => intro s0 s s1 Q E p _ h; exact h
  | alloc o k ih =>
    intro s0 s s1 Q E p r h
    have h := ih s1.heap.objs.size s0 { s with heap := s.heap.push o } { s1 with heap := s1.heap.push o } Q E p ⟨⟨congrArg (fun h : Heap => h.push o) r.rel.heap, r.rel.drawn, r.rel.toks, r.rel.os, r.rel.gens⟩, r.same⟩ h
    rw [r.rel.heap] at h
    exact h
  | fresh k ih =>
    intro s0 s s1 Q E p r h
    have h := ih s1.toks s0 { s with toks := s.toks + 1 } { s1 with toks := s1.toks + 1 } Q E p ⟨⟨r.rel.heap, r.rel.drawn, congrArg (· + 1) r.rel.toks, r.rel.os, r.rel.gens⟩, r.same⟩ h
    rw [r.rel.toks] at h
    exact h
  | ask k ih => intro s0 s s1 Q E p r h; exact ih _ s0 s s1 Q E p r h
  | choose src m k ih =>
    intro s0 s s1 Q E p r h
    have h2 := ih (M.w.draws src (s1.drawn.get src) % m) s0 { s with drawn := s.drawn.bump src } { s1 with drawn := s1.drawn.bump src } Q E p ⟨⟨r.rel.heap, congrArg (fun d : Drawn => d.bump src) r.rel.drawn, r.rel.toks, r.rel.os, r.rel.gens⟩, r.same⟩ h.2
    rw [r.rel.drawn] at h2
    exact ⟨h.1, h2⟩
  | os q _ k ih =>
    intro s0 s s1 Q E p r h
    have h := ih (Os.step s1.os q).2 s0 { s with os := (Os.step s.os q).1 } { s1 with os := (Os.step s1.os q).1 } Q E p ⟨⟨r.rel.heap, r.rel.drawn, r.rel.toks, congrArg (fun o => (Os.step o q).1) r.rel.os, r.rel.gens⟩, r.same⟩ h
    rw [r.rel.os] at h
    exact h
  | call c hd _ _ k ih =>
    intro s0 s s1 Q E p r h
    obtain ⟨x, s1', hr, h⟩ := h
    obtain ⟨s', h1, z⟩ := frame_returns hr r.rel
    exact ⟨x, s', h1, ih x s0 s' s1' Q E p (r.trans z) h⟩
  | handled own k ih => intro s0 s s1 Q E p r h; exact ih _ s0 s s1 Q E p r h
  | genState g k ih =>
    intro s0 s s1 Q E p r h
    obtain ⟨st, hs, h⟩ := h
    rcases r.rel.gens.at hs with ⟨_, q⟩ | ⟨_, x, q, hy, _⟩
    · exact ⟨st, q, ih _ s0 s s1 Q E p r h⟩
    · exact ⟨x, q, by rw [hy]; exact ih _ s0 s s1 Q E p r h⟩
  | newGen c k ih =>
    intro s0 s s1 Q E p r h
    have h := ih s1.gens.size s0 { s with gens := s.gens.push (.fresh c) } { s1 with gens := s1.gens.push (.fresh c) } Q E p ⟨⟨r.rel.heap, r.rel.drawn, r.rel.toks, r.rel.os, r.rel.gens.push trivial⟩, fun i hi => (by
      show (s.gens.push _)[i]? = _
      rw [Array.getElem?_push, if_neg (Nat.ne_of_lt (r.rel.gens.lt hi))]; exact r.same i hi)⟩ h
    rw [r.rel.gens.size] at h
    exact h
  | resume g x _ k ih =>
    intro s0 s s1 Q E p r h
    obtain ⟨res, s1', hw, h⟩ := h
    obtain ⟨s', h1, z⟩ := frame_wakes hw r.rel
    exact ⟨res, s', h1, ih res s0 s' s1' Q E p (r.trans z) h⟩
  | yield _ _ _ _ => intro s0 s s1 Q E p _ h; exact h
  | stack k ih => intro s0 s s1 Q E p r h; exact ih _ s0 s s1 Q E p r h
  | fork _ _ => intro s0 s s1 Q E p _ h; exact h
  | thread k ih => intro s0 s s1 Q E p r h; exact ih _ s0 s s1 Q E p r h
  | await _ _ _ _ _ => intro s0 s s1 Q E p _ h; exact h
/-- the sleepers of a table -/
def Sleeps (G : Array GenState) (i : Nat) : Prop := ∃ k l c p fs cl, G[i]? = some (.suspended k l c p fs cl)
/-- all sleepers stuck -/
def dull : GenState → GenState
  | .suspended _ l c p fs cl => .suspended stuck l c p fs cl
  | x => x
theorem rel_dull (s : Shared) : SRel (Sleeps s.gens) s { s with gens := s.gens.map dull } where
  heap := rfl
  drawn := rfl
  toks := rfl
  os := rfl
  gens := {
    size := by simp
    out := fun i hi => by
      show (s.gens.map dull)[i]? = _
      rw [Array.getElem?_map]
      cases e : s.gens[i]? with
      | none => rfl
      | some x =>
        cases x with
        | suspended k l c p fs cl => exact absurd ⟨k, l, c, p, fs, cl, e⟩ hi
        | fresh _ => rfl
        | running => rfl
        | finished => rfl
    sus := fun i ⟨k, l, c, p, fs, cl, e⟩ => ⟨k, l, c, p, fs, cl, e, by
      show (s.gens.map dull)[i]? = _
      rw [Array.getElem?_map, e]; rfl⟩
    good := fun i k l c p fs cl hi e => by
      have e : (s.gens.map dull)[i]? = some (.suspended k l c p fs cl) := e
      rw [Array.getElem?_map] at e
      obtain ⟨x, h1, h2⟩ := Option.map_eq_some_iff.mp e
      cases x with
      | suspended k' l' c' p' fs' cl' => exact absurd ⟨_, _, _, _, _, _, h1⟩ hi
      | fresh _ => cases h2
      | running => cases h2
      | finished => cases h2 }
theorem bare_dull {s : Shared} (h : ∀ x ∈ s.gens, x.bare = true) : ∀ x ∈ ({ s with gens := s.gens.map dull } : Shared).gens, x.bare = true := by
  intro x hx
  obtain ⟨y, hy, rfl⟩ := Array.mem_map.mp hx
  have := h y hy
  cases y <;> exact this
/-- the table's state at i stands still -/
def Still (G G' : Array GenState) : Prop := ∀ i, Sleeps G i → G'[i]? = G[i]?
theorem Still.refl {G : Array GenState} : Still G G := fun _ _ => rfl
/-- FRAME: what is shown from the table with all sleepers stuck holds from the table itself, and the sleepers stand as they were -/
theorem frame_any {α : Type} {A : Around} {t : Sem α} {s : Shared} {Q : α → Shared → Prop} {E : Value → Shared → Prop} (h : wpAny M A t Q E { s with gens := s.gens.map dull }) :
    wpAny M A t (fun a s' => ∃ s1', SEnd (Sleeps s.gens) s s' s1' ∧ Q a s1') (fun e s' => ∃ s1', SEnd (Sleeps s.gens) s s' s1' ∧ E e s1') s := fun Γ p hΓ =>
  frame_wp t s s _ _ _ p (.refl (rel_dull s)) (h Γ p hΓ)
end GenF
set_option Elab.async false
set_option linter.all false
set_option maxRecDepth 100000
set_option maxHeartbeats 2000000
/-! A generator's code up to its next stop. -/
namespace GenF
open PySem PySem.Spec PyProof.Rows
open Sem (wp)
/-- it runs to a stop with Φ -/
def To (M : Model) (A : Around) (c : Code) (t : Sem PySem.Fin) (fs : List Frame) (s : Shared) (Φ : End → Shared → Prop) : Prop :=
  ∀ Γ p, Γ.code = c → Γ.Woken A → ∃ e s', Runs M Γ p t fs s e s' ∧ Φ e s'
section
variable {M : Model} {A : Around} {c : Code} {fs : List Frame} {s : Shared} {Φ Φ' : End → Shared → Prop}
theorem To.mono {t : Sem PySem.Fin} (h : To M A c t fs s Φ) (k : ∀ e s', Φ e s' → Φ' e s') : To M A c t fs s Φ' := fun Γ p a b =>
  let ⟨e, s', r, q⟩ := h Γ p a b; ⟨e, s', r, k e s' q⟩
theorem to_wrap {α : Type} {m : Sem α} {K : α → Sem PySem.Fin} {J : Value → Sem PySem.Fin} {gd : Bool → Bool} {lv : List Value → List Value}
    (h : wpAny M (A.over c fs) m (fun a s' => To M A c (K a) fs s' Φ) (fun x s' => To M A c (J x) fs s' Φ) s) : To M A c (m.wrap K J gd lv) fs s Φ := by
  rintro Γ p rfl hΓ
  exact runs_wrap_of_wp K J gd lv m (h (Γ.over fs) p (hΓ.over fs)) (fun a p' s' z => z Γ p' rfl hΓ) fun x p' s' z => z Γ p' rfl hΓ
theorem to_bind {α : Type} {m : Sem α} {K : α → Sem PySem.Fin}
    (h : wpAny M (A.over c fs) m (fun a s' => To M A c (K a) fs s' Φ) (fun x s' => To M A c (.raise x) fs s' Φ) s) : To M A c (m >>= K) fs s Φ := by
  rw [Sem.bind_eq_wrap']; exact to_wrap h
theorem to_at {p' : Pos} {k : Unit → Sem PySem.Fin} (h : To M A c (k ()) fs s Φ) : To M A c (.at p' k) fs s Φ :=
  to_wrap (m := standAt p') (K := k) (J := .raise) (gd := id) (lv := id) (wpAny_standAt h)
theorem to_point {l : List Value} {k : Unit → Sem PySem.Fin} (h : To M A c (k ()) fs s Φ) : To M A c (.point l k) fs s Φ :=
  to_wrap (m := point) (K := k) (J := .raise) (gd := id) (lv := fun _ => l) (wpAny_point h)
theorem to_call {c' : Code} {h g l} {k : Result → Sem PySem.Fin} (hc : ∀ p, To M A c' (M.den c') (.ret k h g l c p [] :: fs) s Φ) : To M A c (.call c' h g l k) fs s Φ := by
  rintro Γ p rfl hΓ
  obtain ⟨e, s', hr, q⟩ := hc p (Γ.goto c') p rfl (hΓ.goto c')
  exact ⟨e, s', runs_call_seg hr, q⟩
theorem to_leaf {k h g l c₁ p₁ kp} (r : Result) (hk : To M A c₁ (k r) fs s Φ) : To M A c (leafOf r) (.ret k h g l c₁ p₁ kp :: fs) s Φ := by
  rintro Γ p rfl hΓ
  obtain ⟨e, s', hr, q⟩ := hk (Γ.goto c₁) p₁ rfl (hΓ.goto c₁)
  exact ⟨e, s', Runs.pop r hr, q⟩
theorem to_again {c' : Code} (hq : c'.quiet = true) (hc : To M A c' (M.den c') fs s Φ) : To M A c (.pure (.again c')) fs s Φ := by
  rintro Γ p rfl hΓ
  obtain ⟨e, s', hr, q⟩ := hc (Γ.goto c') p rfl (hΓ.goto c')
  exact ⟨e, s', Runs.head (c₁ := c') (fun _ _ x => .again hq x) hr, q⟩
theorem to_end (r : Result) (h : Φ (.ret r) s) : To M A c (leafOf r) [] s Φ := by
  rintro Γ p rfl _
  exact ⟨.ret r, s, Runs.leaf r, h⟩
theorem to_yield {v g l} {k : Resume → Sem PySem.Fin} (hfs : splitAtGen fs = none) (h : ∀ p, Φ (.susp v g l k c p fs) s) : To M A c (.yield v g l k) fs s Φ := by
  rintro Γ p rfl _
  exact ⟨_, s, Runs.yield' fs hfs, h p⟩
/-- a generator is woken -/
def WakeTo (M : Model) (A : Around) (gs : GenState) (s : Shared) (Φ : End → Shared → Prop) : Prop :=
  match gs with
  | .fresh c => To M A c (M.den c) [] s Φ
  | .suspended k _ c _ fs _ => To M A c (k (.send .none)) fs s Φ
  | _ => False
theorem wake_any {g : Nat} {gs : GenState} {l : List Value} {α : Type} {k : GenResult → Sem α} {Q : α → Shared → Prop} {E : Value → Shared → Prop} (hg : s.gens[g]? = some gs) (hgo : WakeTo M A gs (s.setGen g .running) Φ)
    (hΦ : ∀ e s₁, Φ e s₁ → s.gens.size ≤ s₁.gens.size → e.quiet = true ∧ wpAny M A (k e.result) Q E (s₁.setGen g e.genState)) : wpAny M A (.resume g (.send .none) l k) Q E s := by
  intro Γ p hΓ
  rw [Sem.wp_resume]
  cases gs with
  | fresh c =>
    obtain ⟨e, s₁, hr, q⟩ := hgo (Γ.wake c p) p rfl (hΓ.wake c p)
    obtain ⟨q1, q2⟩ := hΦ e s₁ q (by have z := GenW.runs_gsz hr; rw [GenW.setGen_size] at z; exact z)
    exact ⟨_, _, by unfold Wakes; rw [hg]; exact ⟨e, s₁, hr, q1, rfl, rfl⟩, q2 Γ p hΓ⟩
  | suspended k₀ l₀ c₀ p₀ fs₀ cl =>
    obtain ⟨e, s₁, hr, q⟩ := hgo (Γ.wake c₀ p) p₀ rfl (hΓ.wake c₀ p)
    obtain ⟨q1, q2⟩ := hΦ e s₁ q (by have z := GenW.runs_gsz hr; rw [GenW.setGen_size] at z; exact z)
    exact ⟨_, _, by unfold Wakes; rw [hg]; exact ⟨e, s₁, hr, q1, rfl, rfl⟩, q2 Γ p hΓ⟩
  | running => exact hgo.elim
  | finished => exact hgo.elim
end
/-- a stop: the end, or an item with its own generator's new state -/
def Stop (Fi : Shared → Prop) (Yl : Value → GenState → Shared → Prop) (e : End) (s : Shared) : Prop :=
  ((e = .ret (.ok (.ret .none)) ∨ e = .ret (.ok .next)) ∧ Fi s) ∨ ∃ v l k c p fs, e = .susp v false l k c p fs ∧ fs.any Frame.guarded = false ∧ Yl v e.genState s
section
variable {P : Program} {w : World} {A : Around} {E : Value → Shared → Prop} {s : Shared}
theorem next_to {a : Addr} {g : Nat} {gs : GenState} {Fi : Shared → Prop} {Yl : Value → GenState → Shared → Prop} {Q : Option Value → Shared → Prop} (hh : A.handled = none)
    (hl : s.heap.NoLimit) (hroom : A.depth < recursionLimit) (hg : s.heap.IsGen a g) (hgs : s.gens[g]? = some gs) (hgo : WakeTo (model P w) A.in1 gs (s.setGen g .running) (Stop Fi Yl))
    (hY : ∀ v s₁ gs', gs'.bare = true → s.gens.size ≤ s₁.gens.size → Yl v gs' s₁ → Q (some v) (s₁.setGen g gs'))
    (hP : ∀ s₁, Fi s₁ → ∀ h', (∀ b o, s₁.heap.get? b = some o → h'.get? b = some o) → Q none { s₁.setGen g .finished with heap := h' }) :
    wpAny (model P w) A (pyNext (.ref a)) Q E s := by
  unfold pyNext
  refine wpAny_bind (wpAny_attempt (wpAny_callSpecial?_slot (name := Str.ofString "__next__") hg.typeIs slot_gen_next
    (wpAny_call_entry slot_gen_next hg.typeIs entry_gen_next ?_ (args_gen_next _))))
  show wpAny _ A.in1 (Builtin.Generator.genWake (.ref a) (.send .none)) _ _ s
  unfold Builtin.Generator.genWake
  refine wpAny_bind (wpAny_holding (wpAny_genNumber hg (wpAny_bind (wpAny_genState hgs ?_))))
  cases gs with
  | running => exact hgo.elim
  | finished => exact hgo.elim
  | _ =>
    refine wpAny_bind (wpAny_roomToWake hl hroom ?_)
    show wpAny _ A.in1 (.resume g (.send .none) [] _) _ _ s
    refine wake_any hgs hgo (fun e s₁ he hsz => ?_)
    rcases he with ⟨hr, hp⟩ | ⟨v, l, k, c, p, fs, rfl, hq, hv⟩
    · have hres : e.result = .returned .none := by
        rcases hr with rfl | rfl <;> rfl
      have hgst : e.genState = .finished := by
        rcases hr with rfl | rfl <;> rfl
      refine ⟨by rcases hr with rfl | rfl <;> rfl, ?_⟩
      rw [hres, hgst]
      show wpAny _ A.in1 (newExc (.type "StopIteration") [] >>= _) _ _ _
      refine wpAny_bind ?_
      simp only [newExc, newTuple]
      refine wpAny_bind (wpAny_newObj_type ?_ (by size_fits))
      refine wpAny_bind (m := firstArgMember _ _) (wpAny_of_eq (a := Value.none) (by first | rfl | (simp only [firstArgMember]; rfl)) ?_)
      refine wpAny_newObj_type ?_ (by size_fits)
      simp only [raiseNew]
      refine wpAny_bind (wpAny_bind (wpAny_handled ?_))
      first | rw [show A.in1.handled = none from hh] | rw [hh]
      refine wpAny_throw ?_
      refine wpAny_bind (wpAny_isInstance (T := "StopIteration") (b := true) ⟨_, Heap.get?_push_size _ rfl, rfl⟩ isSubtype_stop ?_)
      exact wpAny_pure (hP s₁ hp _ fun b o hb => Heap.get?_push_of_some _ (Heap.get?_push_of_some _ hb))
    · refine ⟨by simp only [End.quiet, Bool.false_or, hq]; rfl, ?_⟩
      exact wpAny_pure ⟨v, rfl, wpAny_pure (hY v s₁ _ (End.bare_of_quiet (by simp only [End.quiet, Bool.false_or, hq]; rfl)) hsz hv)⟩
end
end GenF
set_option Elab.async false
set_option linter.all false
set_option maxRecDepth 100000
set_option maxHeartbeats 2000000
/-! What a generator leans on while it sleeps, and what it may change while it runs. -/
namespace GenF
open PySem PySem.Spec PyProof.Rows L2
open Sem (wp)
abbrev Pins := List (Addr × Obj)
abbrev GRow := List (Str × Str)
/-! ### judgements with the sleepers left as they are -/
theorem Inv.regens {X : Cx} {pins : Pins} {σ : L2.St} {H : Hp} {s s' : Shared} (I : Inv X pins σ H s) (hh : s'.heap = s.heap) (ho : s'.os = s.os) (hb : AllBare s'.gens) : Inv X pins σ H s' := by
  obtain ⟨h, g, d, t, o⟩ := s'
  obtain rfl : h = s.heap := hh
  obtain rfl : o = s.os := ho
  exact ⟨I.ok, I.os, hb, I.base, I.loc, I.cell, I.free, I.freeC, I.pin, I.hok, I.len⟩
theorem bare_of_end {s t t' : Shared} (hb : AllBare s.gens) (hb' : AllBare t'.gens) (z : SEnd (Sleeps s.gens) s t t') : AllBare t.gens := by
  intro x hx
  obtain ⟨i, hi, e⟩ := Array.mem_iff_getElem.mp hx
  have e : t.gens[i]? = some x := by rw [Array.getElem?_eq_getElem hi, e]
  by_cases hs : Sleeps s.gens i
  · rw [z.same i hs] at e
    exact hb x (Array.mem_of_getElem? e)
  · rw [← z.rel.gens.out i hs] at e
    exact hb' x (Array.mem_of_getElem? e)
theorem SP.regens {X : Cx} {pins : Pins} {D : Ends} {f : Flow} {s t t' : Shared} (hb : AllBare s.gens) (z : SEnd (Sleeps s.gens) s t t') (h : SP X pins D f t') : SP X pins D f t := by
  cases f with
  | next => obtain ⟨σ', H', I, q⟩ := h; exact ⟨σ', H', Inv.regens I z.rel.heap.symm z.rel.os.symm (bare_of_end hb I.bare z), q⟩
  | brk => obtain ⟨σ', H', I, q⟩ := h; exact ⟨σ', H', Inv.regens I z.rel.heap.symm z.rel.os.symm (bare_of_end hb I.bare z), q⟩
  | cont => obtain ⟨σ', H', I, q⟩ := h; exact ⟨σ', H', Inv.regens I z.rel.heap.symm z.rel.os.symm (bare_of_end hb I.bare z), q⟩
  | ret u => obtain ⟨v, σ', H', I, r, q⟩ := h; exact ⟨v, σ', H', Inv.regens I z.rel.heap.symm z.rel.os.symm (bare_of_end hb I.bare z), r, q⟩
/-- with no wish about exceptions -/
theorem pss_still {X : Cx} {st : List Stmt} {t : TS} (h : PSs X.nox st t) {pins : Pins} {σ : L2.St} {H : Hp} {s : Shared} {D : Ends} {E : Value → Shared → Prop} (I : Inv X pins σ H s) (ht : t D σ H) :
    wpAny (model X.prog X.w) X.A (execs st X.env) (fun f s' => SP X pins D f s' ∧ Still s.gens s'.gens) E s := by
  have I' : Inv X.nox pins σ H { s with gens := s.gens.map dull } := (Inv.regens (s' := { s with gens := s.gens.map dull }) I rfl rfl (bare_dull I.bare)).wish _
  refine wpAny_mono (frame_any (h.run pins _ σ H D I' ht)) (fun f s' ⟨s1, z, q⟩ => ⟨(SP.regens I.bare z q).unwish, z.same⟩) fun e s' ⟨_, _, q⟩ => q.elim
theorem pe_still {X : Cx} {e : Expr} {t : TE} (h : PE X.nox e t) {pins : Pins} {σ : L2.St} {H : Hp} {s : Shared} {Q : VK} {E : Value → Shared → Prop} (I : Inv X pins σ H s) (ht : t σ H Q) :
    wpAny (model X.prog X.w) X.A (eval e X.env) (fun u s' => EP X pins σ Q u s' ∧ Still s.gens s'.gens) E s := by
  have I' : Inv X.nox pins σ H { s with gens := s.gens.map dull } := (Inv.regens (s' := { s with gens := s.gens.map dull }) I rfl rfl (bare_dull I.bare)).wish _
  refine wpAny_mono (frame_any (h.run pins _ σ H Q I' ht)) (fun u s' ⟨s1, z, q⟩ => ?_) fun e s' ⟨_, _, q⟩ => q.elim
  obtain ⟨v, H', J, r, q⟩ := q
  exact ⟨⟨v, H', (Inv.regens J z.rel.heap.symm z.rel.os.symm (bare_of_end I.bare J.bare z)).unwish, r, q⟩, z.same⟩
theorem pg_still {X : Cx} {e : Expr} {t : TG} (h : PG X.nox e t) {pins : Pins} {σ : L2.St} {H : Hp} {s : Shared} {v : V} {u : Value} {Q : L2.St → Hp → Prop} {E : Value → Shared → Prop} (I : Inv X pins σ H s) (r : RelV v u) (ht : t v σ H Q) :
    wpAny (model X.prog X.w) X.A (assign e X.env u) (fun _ s' => (∃ σ' H', Inv X pins σ' H' s' ∧ Q σ' H') ∧ Still s.gens s'.gens) E s := by
  have I' : Inv X.nox pins σ H { s with gens := s.gens.map dull } := (Inv.regens (s' := { s with gens := s.gens.map dull }) I rfl rfl (bare_dull I.bare)).wish _
  refine wpAny_mono (frame_any (h.run pins _ σ H v u Q I' r ht)) (fun _ s' ⟨s1, z, q⟩ => ?_) fun e s' ⟨_, _, q⟩ => q.elim
  obtain ⟨σ', H', J, q⟩ := q
  exact ⟨⟨σ', H', (Inv.regens J z.rel.heap.symm z.rel.os.symm (bare_of_end I.bare J.bare z)).unwish, q⟩, z.same⟩

/-! ### sleeping and running -/
/-- from s to s' others ran: what the sleeper leans on stands -/
structure Sl (base : Heap) (outer : List Env) (pins : Pins) (gi : List Nat) (s s' : Shared) : Prop where
  os : s'.os = s.os
  bare : AllBare s'.gens
  pin : ∀ p ∈ pins, s'.heap.get? p.1 = some p.2
  gen : ∀ i ∈ gi, s'.gens[i]? = s.gens[i]?
  bs : ∀ b o, base.get? b = some o → s'.heap.get? b = some o
  funs : s'.heap.FunFrames base outer
/-- from s to s' the generator ran: it may have changed what stood at its pins, and the slots of the frames -/
structure Mv (fr : List Addr) (pins : Pins) (s s' : Shared) : Prop where
  os : s'.os = s.os
  bare : AllBare s'.gens
  keep : ∀ b o, s.heap.get? b = some o → (∀ p ∈ pins, p.1 ≠ b) → b ∉ fr → s'.heap.get? b = some o
  slot : ∀ b o, s.heap.get? b = some o → b ∈ fr → ∃ sl, s'.heap.get? b = some { o with slots := sl }
/-- not there at s0, or the generator's own -/
def New (pins : Pins) (s0 : Shared) (b : Addr) : Prop := s0.heap.get? b = none ∨ ∃ y ∈ pins, y.1 = b
/-- a row that was handed out: a new list of new pairs -/
structure RowAt (pins : Pins) (s0 s : Shared) (p : Addr) (qs : List Addr) (row : GRow) : Prop where
  obj : ∃ c, s.heap.get? p = some (lstObj (qs.map Value.ref).toArray c)
  tup : Paired (fun q (x : Str × Str) => ∃ t u, IsTup s.heap q #[.str x.1 t, .str x.2 u]) qs row
  newp : New pins s0 p
  newq : ∀ q ∈ qs, New pins s0 q
  nd : qs.Nodup
  pq : p ∉ qs
  len : row.length ≤ sizeLine
/-- the pins of the new sleep -/
structure PinOk (L : Addr) (fr : List Addr) (s0 s : Shared) (pins pins' : Pins) (ps : List Addr) : Prop where
  at_ : ∀ x ∈ pins', s.heap.get? x.1 = some x.2
  nc : ∀ x ∈ pins', ∀ v, x.2.data ≠ .cell v
  ge : ∀ x ∈ pins', L ≤ x.1
  old : ∀ x ∈ pins', New pins s0 x.1
  row : ∀ x ∈ pins', x.1 ∉ ps
  fr : ∀ x ∈ pins', x.1 ∉ fr
/-- where the generator stops next, and all that follows: it hands out rows and ends -/
def Good (M : Model) (A : Around) (a : Addr) (g : Nat) (base : Heap) (outer : List Env) (L : Addr) : List GRow → Pins → List Nat → Shared → End → Shared → Prop
  | [], pins, gi, s0, e, s => (e = .ret (.ok (.ret .none)) ∨ e = .ret (.ok .next)) ∧ Mv (frs outer) pins s0 s
  | r :: rs, pins, gi, s0, e, s => ∃ v l k c p fs pr qs pins' gi', e = .susp v false l k c p fs ∧ fs.any Frame.guarded = false ∧ v = .ref pr ∧ RowAt pins s0 s pr qs r ∧ Mv (frs outer) pins s0 s ∧
      PinOk L (frs outer) s0 s pins pins' (pr :: qs) ∧ s.heap.IsGen a g ∧ (∃ o, (a, o) ∈ pins') ∧ (∀ i ∈ gi', g < i ∧ Sleeps s.gens i) ∧ ∀ s3, Sl base outer pins' gi' s s3 → g < s3.gens.size → To M A c (k (.send .none)) fs (s3.setGen g .running) (Good M A a g base outer L rs pins' gi' s3)
/-- the generator at a may be woken here -/
structure GNow (M : Model) (A : Around) (a : Addr) (g : Nat) (base : Heap) (outer : List Env) (L : Addr) (rows : List GRow) (pins : Pins) (gi : List Nat) (s : Shared) : Prop where
  gen : s.heap.IsGen a g
  st : ∃ gs, s.gens[g]? = some gs ∧ WakeTo M A.in1 gs (s.setGen g .running) (Good M A.in1 a g base outer L rows pins gi s)
/-- .. whenever its sleep was not disturbed; all of its table's states sleep -/
structure GN (M : Model) (A : Around) (a : Addr) (g : Nat) (base : Heap) (outer : List Env) (L : Addr) (rows : List GRow) (pins : Pins) (gi : List Nat) (s : Shared) : Prop where
  now : ∀ s3, Sl base outer pins (g :: gi) s s3 → GNow M A a g base outer L rows pins gi s3
  slp : ∀ i ∈ g :: gi, Sleeps s.gens i
  gt : ∀ i ∈ gi, g < i
theorem WakeTo.mono {M : Model} {A : Around} {gs : GenState} {s : Shared} {Φ Φ' : End → Shared → Prop} (h : WakeTo M A gs s Φ) (k : ∀ e s', Φ e s' → Φ' e s') : WakeTo M A gs s Φ' := by
  cases gs with
  | fresh c => exact To.mono h k
  | suspended => exact To.mono h k
  | running => exact h
  | finished => exact h
theorem Heap.IsGen.at1 {h h' : Heap} {a : Addr} {g : Nat} (x : h.IsGen a g) (e : h'.get? a = h.get? a) : h'.IsGen a g := by
  obtain ⟨o, nm, qn, ho, r⟩ := x
  exact ⟨o, nm, qn, e.trans ho, r⟩
theorem next_row {P : Program} {w : World} {A : Around} {E : Value → Shared → Prop} {s : Shared} {a : Addr} {g : Nat} {base : Heap} {outer : List Env} {L : Addr} {rows : List GRow} {pins : Pins} {gi : List Nat} {Q : Option Value → Shared → Prop}
    (hh : A.handled = none) (hl : s.heap.NoLimit) (hroom : A.depth < recursionLimit) (G : GNow (model P w) A a g base outer L rows pins gi s)
    (hend : rows = [] → ∀ s', Mv (frs outer) pins s s' → Q none s')
    (hrow : ∀ r rs, rows = r :: rs → ∀ pr qs pins' gi' s', RowAt pins s s' pr qs r → Mv (frs outer) pins s s' → PinOk L (frs outer) s s' pins pins' (pr :: qs) → (∃ o, (a, o) ∈ pins') → GN (model P w) A a g base outer L rs pins' gi' s' → Q (some (.ref pr)) s') :
    wpAny (model P w) A (pyNext (.ref a)) Q E s := by
  obtain ⟨hg, gs, hgs, hw⟩ := G
  have hgl : g < s.gens.size := (Array.getElem?_eq_some_iff.mp hgs).1
  refine next_to (Fi := fun s1 => rows = [] ∧ Mv (frs outer) pins s s1)
    (Yl := fun v gs' s1 => ∃ r rs l k c p fs pr qs pins' gi', rows = r :: rs ∧ gs' = .suspended k l c p fs false ∧ v = .ref pr ∧ RowAt pins s s1 pr qs r ∧ Mv (frs outer) pins s s1 ∧ PinOk L (frs outer) s s1 pins pins' (pr :: qs) ∧ s1.heap.IsGen a g ∧ (∃ o, (a, o) ∈ pins') ∧
      (∀ i ∈ gi', g < i ∧ Sleeps s1.gens i) ∧ ∀ s3, Sl base outer pins' gi' s1 s3 → g < s3.gens.size → To (model P w) A.in1 c (k (.send .none)) fs (s3.setGen g .running) (Good (model P w) A.in1 a g base outer L rs pins' gi' s3))
    hh hl hroom hg hgs (hw.mono fun e s1 he => ?_) (fun v s1 gs' hb hsz hy => ?_) (fun s1 hf h' hk => ?_)
  · cases rows with
    | nil => exact .inl ⟨he.1, rfl, he.2⟩
    | cons r rs =>
      obtain ⟨v, l, k, c, p, fs, pr, qs, pins', gi', rfl, hq, hv, h⟩ := he
      exact .inr ⟨v, l, k, c, p, fs, rfl, hq, r, rs, l, k, c, p, fs, pr, qs, pins', gi', rfl, by simp only [End.genState, hq, Bool.or_false], hv, h⟩
  · obtain ⟨r, rs, l, k, c, p, fs, pr, qs, pins', gi', rfl, rfl, rfl, hr, hm, hp, hg1, ho, hi, hc⟩ := hy
    have hgl1 : g < s1.gens.size := Nat.lt_of_lt_of_le hgl hsz
    have hat : (s1.setGen g (.suspended k l c p fs false)).gens[g]? = some (.suspended k l c p fs false) := setGen_at hgl1
    have hne : ∀ i, i ≠ g → (s1.setGen g (.suspended k l c p fs false)).gens[i]? = s1.gens[i]? := fun i q => by
      show (s1.gens.setIfInBounds g _)[i]? = _
      rw [Array.getElem?_setIfInBounds_ne (Ne.symm q)]
    refine hrow r rs rfl pr qs pins' gi' _ ⟨hr.obj, hr.tup, hr.newp, hr.newq, hr.nd, hr.pq, hr.len⟩ ⟨hm.os, allBare_setGen hm.bare hb, hm.keep, hm.slot⟩ ⟨hp.at_, hp.nc, hp.ge, hp.old, hp.row, hp.fr⟩ ho ⟨fun s3 sl => ⟨?_, ?_⟩, fun i hi' => ?_, fun i hi' => (hi i hi').1⟩
    · obtain ⟨o, hoa⟩ := ho
      have e1 := hp.at_ _ hoa
      have e2 := sl.pin _ hoa
      exact Heap.IsGen.at1 hg1 (e2.trans e1.symm)
    · refine ⟨_, (sl.gen g List.mem_cons_self).trans hat, ?_⟩
      exact hc s3 ⟨sl.os, sl.bare, sl.pin, fun i hi' => (sl.gen i (List.mem_cons_of_mem _ hi')).trans (hne i (Nat.ne_of_gt (hi i hi').1)), sl.bs, sl.funs⟩ (Array.getElem?_eq_some_iff.mp ((sl.gen g List.mem_cons_self).trans hat)).1
    · rcases List.mem_cons.mp hi' with rfl | hi'
      · exact ⟨k, l, c, p, fs, false, hat⟩
      · obtain ⟨q1, k1, l1, c1, p1, f1, cl1, q2⟩ := hi i hi'
        exact ⟨k1, l1, c1, p1, f1, cl1, (hne i (Nat.ne_of_gt q1)).trans q2⟩
  · obtain ⟨rfl, hm⟩ := hf
    refine hend rfl _ ⟨hm.os, allBare_setGen hm.bare rfl, fun b o e1 e2 e3 => hk b o (hm.keep b o e1 e2 e3), fun b o e1 e2 => ?_⟩
    obtain ⟨sl, q⟩ := hm.slot b o e1 e2
    exact ⟨sl, hk b _ q⟩
end GenF
set_option Elab.async false
set_option linter.all false
set_option maxRecDepth 100000
set_option maxHeartbeats 2000000
/-! The consumer: for row in a generator. -/
namespace GenF
open PySem PySem.Spec PyProof.Rows L2
open Sem (wp)
theorem objAt {P : Program} {w : World} {H : Hp} {h : Heap} {a : Addr} {o : HO} (x : ObjOk P w H h a o) : ∃ u, h.get? a = some u := by
  induction o with
  | lst xs => obtain ⟨_, _, _, _, e⟩ := x; exact ⟨_, e⟩
  | tup xs => obtain ⟨_, _, _, o, e, _⟩ := x; exact ⟨_, e⟩
  | dK kvs => obtain ⟨_, _, _, _, o, _, _, e, _⟩ := x; exact ⟨_, e⟩
  | dT kvs => obtain ⟨_, _, _, _, o, _, _, e, _⟩ := x; exact ⟨_, e⟩
  | set S n => obtain ⟨o, _, _, _, e, _⟩ := x; exact ⟨_, e⟩
  | ins C dx fs => obtain ⟨_, _, _, e, _⟩ := x; exact ⟨_, e⟩
  | own y => exact x
  | xd fs => obtain ⟨_, ⟨_, _, _, e, _⟩, _⟩ := x; exact ⟨_, e⟩
  | rng lo hi => obtain ⟨_, _, _, e⟩ := x; exact ⟨_, e⟩
  | frz ob u => obtain ⟨e, _⟩ := x; exact ⟨_, e⟩
  | tbl ps => exact ⟨_, (show h.get? a = some _ from x)⟩
  | met f y => exact ⟨_, (show h.get? a = some _ from x)⟩
  | ext φ => exact x.2.1
theorem none_typed {P : Program} {w : World} {H : Hp} {h : Heap} (x : HOk P w H h) {a : Addr} (e : h.get? a = none) : H a = none := by
  cases q : H a with
  | none => rfl
  | some u => obtain ⟨o, z⟩ := objAt (x a u q); rw [e] at z; cases z
/-- the typed heap with a row in it -/
def tupH (H : Hp) (l : List (Addr × (Str × Str))) : Hp := fun b => match l.lookup b with
  | some x => some (.tup [.str x.1, .str x.2])
  | none => H b
def rowH (H : Hp) (p : Addr) (qs : List Addr) (row : GRow) : Hp := upd (tupH H (qs.zip row)) p (.lst (qs.map V.ref))
theorem lookup_mem {l : List (Addr × (Str × Str))} {b : Addr} {x : Str × Str} (h : l.lookup b = some x) : (b, x) ∈ l := by
  induction l with
  | nil => cases h
  | cons y l ih =>
    obtain ⟨c, z⟩ := y
    rw [List.lookup_cons] at h
    split at h
    · rename_i e
      cases h
      rw [show b = c by simpa using e]
      exact List.mem_cons_self
    · exact List.mem_cons_of_mem _ (ih h)
theorem rowH_ne {H : Hp} {p : Addr} {qs : List Addr} {row : GRow} {b : Addr} (h1 : b ≠ p) (h2 : b ∉ qs) : rowH H p qs row b = H b := by
  unfold rowH
  rw [upd_ne h1]
  unfold tupH
  cases e : (qs.zip row).lookup b with
  | none => rfl
  | some x => exact absurd (List.of_mem_zip (lookup_mem e)).1 h2
theorem paired_mem {α β : Type} {R : α → β → Prop} : ∀ {l : List α} {m : List β}, Paired R l m → ∀ {x : α} {y : β}, (x, y) ∈ l.zip m → R x y
  | _, _, .nil, _, _, h => nomatch h
  | _, _, .cons r t, x, y, h => by
    rw [List.zip_cons_cons] at h
    rcases List.mem_cons.mp h with e | h
    · cases e; exact r
    · exact paired_mem t h
theorem vals_refs : ∀ (qs : List Addr), Vals (qs.map V.ref) (qs.map Value.ref)
  | [] => .nil
  | _ :: qs => .cons rfl (vals_refs qs)
section
variable {X : Cx} {pins P' : Pins} {σ : L2.St} {H : Hp} {s s' : Shared} {pI : Pins}
/-- behind a run of the generator: all but its own memory is as it was, a row is there -/
theorem Inv.ran {p : Addr} {qs : List Addr} {row : GRow} {H' : Hp} (I : Inv X pins σ H s) (m : Mv (frs X.stack) pI s s') (hI : ∀ y ∈ pI, X.s_0.heap.objs.size ≤ y.1 ∧ H y.1 = none ∧ y.1 ≠ X.env.locals)
    (hcl : ∀ x c, X.env.cells.lookup x = some c → ∀ y ∈ pI, y.1 ≠ c) (hpn : X.pn = []) (hP : ∀ q ∈ P', q ∈ pins ∧ ∀ y ∈ pI, y.1 ≠ q.1)
    (hH : ∀ b, (∃ o, s.heap.get? b = some o) → (∀ y ∈ pI, y.1 ≠ b) → H' b = H b) (hok : HOk X.prog X.w H s'.heap → HOk X.prog X.w H' s'.heap) : Inv X P' σ H' s' := by
  have I' : Inv X P' σ H s := I.pins_of fun q hq => I.pin q (List.mem_append_right _ (hP q hq).1)
  have npi : ∀ b, H b ≠ none → ∀ y ∈ pI, y.1 ≠ b := fun b hb y hy e => hb (by rw [← e]; exact (hI y hy).2.1)
  have nfr : ∀ b, H b ≠ none → b ∉ frs X.stack := fun b hb hm => hb (I.stkFree b hm)
  have okH : HOk X.prog X.w H s'.heap := fun a o e => by
    refine (I.hok a o e).stay (fun b u hb q => ?_) (fun _ q => q) fun _ _ q => q
    have hn : H b ≠ none := by
      rcases hb with rfl | hb
      · rw [e]; exact fun z => nomatch z
      · rw [hb]; exact fun z => nomatch z
    exact m.keep b u q (npi b hn) (nfr b hn)
  let ch : List Addr := (List.range s.heap.objs.size).filter fun b => decide (X.s_0.heap.objs.size ≤ b) && decide (b ≠ X.env.locals) && (H b).isNone && P'.all (fun q => decide (q.1 ≠ b)) && pI.any fun y => y.1 == b
  have mch : ∀ b, b ∈ ch ↔ b < s.heap.objs.size ∧ X.s_0.heap.objs.size ≤ b ∧ b ≠ X.env.locals ∧ H b = none ∧ (∀ q ∈ P', q.1 ≠ b) ∧ ∃ y ∈ pI, y.1 = b := fun b => by
    show b ∈ List.filter _ _ ↔ _
    rw [List.mem_filter, List.mem_range]
    simp only [Bool.and_eq_true, decide_eq_true_eq, Option.isNone_iff_eq_none, List.all_eq_true, List.any_eq_true, beq_iff_eq]
    exact ⟨fun ⟨h1, ⟨⟨⟨h2, h3⟩, h4⟩, h5⟩, h6⟩ => ⟨h1, h2, h3, h4, h5, h6⟩, fun ⟨h1, h2, h3, h4, h5, h6⟩ => ⟨h1, ⟨⟨⟨h2, h3⟩, h4⟩, h5⟩, h6⟩⟩
  have out : ∀ b o, s.heap.get? b = some o → H b = none → b ∉ ch → ∀ y ∈ pI, y.1 ≠ b := fun b o e n hx y hy q => by
    apply hx
    obtain ⟨h1, h2, h3⟩ := hI y hy
    rw [q] at h1 h2 h3
    refine (mch b).mpr ⟨Heap.lt_size e, h1, h3, h2, fun z hz e2 => (hP z hz).2 y hy (q.trans e2.symm), y, hy, q⟩
  have kp : ∀ b o, s.heap.get? b = some o → b ∉ ch → ∃ o', s'.heap.get? b = some o' := fun b o e hx => by
    by_cases hf : b ∈ frs X.stack
    · obtain ⟨sl, q⟩ := m.slot b o e hf
      exact ⟨_, q⟩
    · by_cases hn : H b = none
      · exact ⟨o, m.keep b o e (out b o e hn hx) hf⟩
      · exact ⟨o, m.keep b o e (npi b hn) hf⟩
  refine I'.call' (ch := ch) m.os ⟨fun b o e n hb hx => m.keep b o e (out b o e n hx) hb, fun b o e n hb hx => m.slot b o e hb, fun b o e n hx => (hH b ⟨o, e⟩ (out b o e n hx)).trans n, fun b o e hx => kp b o e hx, fun b xs e => ?_, fun b o u e => ?_, fun b ps e => ?_⟩
    (hok okH) m.bare fun b hb => ?_
  · rw [hH b (objAt (I.hok b _ e)) (npi b (by rw [e]; exact fun z => nomatch z))]; exact e
  · rw [hH b (objAt (I.hok b _ e)) (npi b (by rw [e]; exact fun z => nomatch z))]; exact e
  · exact ⟨#[], by rw [hH b (objAt (I.hok b _ e)) (npi b (by rw [e]; exact fun z => nomatch z)), e]; simp⟩
  · obtain ⟨h1, h2, h3, h4, h5, y, hy, h6⟩ := (mch b).mp hb
    refine ⟨.inr h2, h3, fun x c e z => hcl x c e y hy (h6.trans (by first | exact z | exact z.symm)), fun q hq => ?_⟩
    rw [hpn, List.nil_append] at hq
    exact h5 q hq
theorem Inv.ranN (I : Inv X pins σ H s) (m : Mv (frs X.stack) pI s s') (hI : ∀ y ∈ pI, X.s_0.heap.objs.size ≤ y.1 ∧ H y.1 = none ∧ y.1 ≠ X.env.locals)
    (hcl : ∀ x c, X.env.cells.lookup x = some c → ∀ y ∈ pI, y.1 ≠ c) (hpn : X.pn = []) (hP : ∀ q ∈ P', q ∈ pins ∧ ∀ y ∈ pI, y.1 ≠ q.1) : Inv X P' σ H s' :=
  Inv.ran (p := 0) (qs := []) (row := []) I m hI hcl hpn hP (fun _ _ _ => rfl) fun h => h
theorem Inv.ranR {p : Addr} {qs : List Addr} {row : GRow} (I : Inv X pins σ H s) (m : Mv (frs X.stack) pI s s') (hI : ∀ y ∈ pI, X.s_0.heap.objs.size ≤ y.1 ∧ H y.1 = none ∧ y.1 ≠ X.env.locals)
    (hcl : ∀ x c, X.env.cells.lookup x = some c → ∀ y ∈ pI, y.1 ≠ c) (hpn : X.pn = []) (hP : ∀ q ∈ P', q ∈ pins ∧ ∀ y ∈ pI, y.1 ≠ q.1) (r : RowAt pI s s' p qs row) : Inv X P' σ (rowH H p qs row) s' := by
  have nw : ∀ b, New pI s b → (∃ o, s.heap.get? b = some o) → (∀ y ∈ pI, y.1 ≠ b) → False := fun b n ⟨o, e⟩ hn => by
    rcases n with n | ⟨y, hy, n⟩
    · rw [n] at e; cases e
    · exact hn y hy n
  have hH : ∀ b, (∃ o, s.heap.get? b = some o) → (∀ y ∈ pI, y.1 ≠ b) → rowH H p qs row b = H b := fun b e hn => rowH_ne (fun q => nw p r.newp (q ▸ e) (q ▸ hn)) fun q => nw b (r.newq b q) e hn
  refine Inv.ran (p := p) (qs := qs) (row := row) I m hI hcl hpn hP hH fun h a o e => ?_
  have hl := r.tup.length
  by_cases h1 : a = p
  · subst h1
    unfold rowH at e
    rw [upd_same] at e
    cases e
    obtain ⟨c, hc⟩ := r.obj
    refine ⟨by rw [List.length_map, hl]; exact r.len, qs.map Value.ref, c, vals_refs qs, hc⟩
  · unfold rowH at e
    rw [upd_ne h1] at e
    unfold tupH at e
    cases q : (qs.zip row).lookup a with
    | some x =>
      rw [q] at e
      cases e
      obtain ⟨t, u, ht⟩ := paired_mem r.tup (lookup_mem q)
      exact ⟨(show 2 ≤ sizeLine by decide), [.str x.1 t, .str x.2 u], .cons ⟨t, rfl⟩ (.cons ⟨u, rfl⟩ .nil), ht⟩
    | none =>
      rw [q] at e
      have e : H a = some o := e
      have old : ∀ b u, H b = some u → rowH H p qs row b = H b := fun b u z => hH b (objAt (I.hok b u z)) fun y hy e => by rw [← e, (hI y hy).2.1] at z; cases z
      exact (h a o e).stay (fun _ _ _ z => z) (fun b z => (old b _ z).trans z) fun b xs z => (old b _ z).trans z
end

/-! ### for row in e: body -/
/-- what a sleeping generator leans on lies apart -/
def PinI (X : Cx) (H : Hp) (pins pI : Pins) : Prop := ∀ y ∈ pI, X.s_0.heap.objs.size ≤ y.1 ∧ H y.1 = none ∧ y.1 ≠ X.env.locals ∧ ∀ q ∈ pins, q.1 ≠ y.1
def CelI (X : Cx) (L : Addr) (pI : Pins) : Prop := ∀ x c, X.env.cells.lookup x = some c → c < L ∧ ∀ y ∈ pI, y.1 ≠ c
abbrev TGx := L2.St → Hp → (List GRow → Hp → Prop) → Prop
/-- an expression whose value is a generator that may be woken and hands out rows -/
structure PGx (X : Cx) (e : Expr) (t : TGx) : Prop where
  run : ∀ (pins : Pins) (s : Shared) (σ : L2.St) (H : Hp) (cont : List GRow → Hp → Prop), Inv X pins σ H s → t σ H cont → wpAny (model X.prog X.w) X.A (eval e X.env) (fun v s' => ∃ a g L rows pI gi H', v = .ref a ∧ Inv X pins σ H' s' ∧
    GNow (model X.prog X.w) X.A a g X.base X.stack L rows pI gi s' ∧ X.s_0.heap.objs.size ≤ L ∧ X.env.locals < L ∧ PinI X H' pins pI ∧ CelI X L pI ∧ s.gens.size ≤ g ∧ cont rows H') X.xe s
def tForG (ti : TGx) (g : TG) (tb : TS) : TS := fun D σ H => ti σ H fun rows H1 => ∃ Pv : List GRow → L2.St → Hp → Prop, Pv rows σ H1 ∧ (∀ σ H, Pv [] σ H → D.nx σ H) ∧
  ∀ r rs σ H, Pv (r :: rs) σ H → ∀ p qs, H p = none → (∀ q ∈ qs, H q = none) → qs.Nodup → p ∉ qs → qs.length = r.length → r.length ≤ sizeLine → g (.ref p) σ (rowH H p qs r) fun σ2 H2 => tb { D with nx := Pv rs, ct := Pv rs, bk := D.nx } σ2 H2
theorem ps_forG {X : Cx} {x : Str} {xp pos : Pos} {e : Expr} {body : List Stmt} {ti : TGx} {g : TG} {tb : TS} (he : PGx X e ti) (hg : PG X.nox (.Name x xp) g) (hb : PSs X.nox body tb) (hh : X.A.handled = none) (hroom : X.A.depth < recursionLimit)
    (hpn : X.pn = []) (hxe : PassesOwn (model X.prog X.w) X.A X.env X.xe) (hs : ∀ y, foldedSetIterable e X.env y = pure y := by intro _; rfl) : PS X (.For (.Name x xp) e body [] pos) (tForG ti g tb) := by
  refine ⟨fun pins s σ H D I h => ?_⟩
  refine wpAny_For (thn (he.run pins s σ H _ I h) fun v s1 hv => ?_) hs
  obtain ⟨a, g0, L0, rows, pI, gi, H1, rfl, I1, G1, hL0, hlL0, hP1, hc1, _, Pv, h0, hD, hturn⟩ := hv
  refine wpAny_pyIter_gen G1.gen ?_
  refine codeAny_forLoop_any (fun n s' => ∃ rs σ' H' g1 L1 pI' gi', n = rs.length ∧ Inv X pins σ' H' s' ∧ Pv rs σ' H' ∧ GNow (model X.prog X.w) X.A a g1 X.base X.stack L1 rs pI' gi' s' ∧ X.s_0.heap.objs.size ≤ L1 ∧ X.env.locals < L1 ∧ PinI X H' pins pI' ∧ CelI X L1 pI') ?_ rows.length ⟨rows, σ, H1, g0, L0, pI, gi, rfl, I1, h0, G1, hL0, hlL0, hP1, hc1⟩
  rintro n s2 ⟨rs, σ2, H2, g2, Lb, pI2, gi2, rfl, I2, p2, G2, hLb, hlLb, hP2, hc2⟩
  refine next_row hh I2.nolimit hroom G2 (fun hr s3 m => ?_) (fun r rs' hr pr qs pI3 gi3 s3 ro m pk ho gn => ?_)
  · subst hr
    have I3 : Inv X pins σ2 H2 s3 := Inv.ranN I2 m (fun y hy => ⟨(hP2 y hy).1, (hP2 y hy).2.1, (hP2 y hy).2.2.1⟩) (fun x c e => (hc2 x c e).2) hpn fun q hq => ⟨hq, fun y hy e => (hP2 y hy).2.2.2 q hq e.symm⟩
    exact wpAny_execs_nil ⟨σ2, H2, I3, hD _ _ p2⟩
  · subst hr
    have J : Inv X pins σ2 (rowH H2 pr qs r) s3 := Inv.ranR I2 m (fun y hy => ⟨(hP2 y hy).1, (hP2 y hy).2.1, (hP2 y hy).2.2.1⟩) (fun x c e => (hc2 x c e).2) hpn (fun q hq => ⟨hq, fun y hy e => (hP2 y hy).2.2.2 q hq e.symm⟩) ro
    have nw : ∀ b, New pI2 s2 b → H2 b = none := fun b n => by
      rcases n with n | ⟨y, hy, n⟩
      · exact none_typed I2.hok n
      · rw [← n]; exact (hP2 y hy).2.1
    have hp0 : H2 pr = none := nw pr ro.newp
    have hq0 : ∀ q ∈ qs, H2 q = none := fun q hq => nw q (ro.newq q hq)
    -- the new pins lie apart
    have old : ∀ y ∈ pI3, (∃ z ∈ pI2, z.1 = y.1) ∨ s2.heap.get? y.1 = none := fun y hy => (pk.old y hy).symm
    have hloc : ∃ o, s2.heap.get? X.env.locals = some o := by
      obtain ⟨_, ⟨o, _, _, e, _⟩, _⟩ := I2.loc
      exact ⟨o, e⟩
    have hP3 : PinI X (rowH H2 pr qs r) pins pI3 := fun y hy => by
      have hy1 : y.1 ≠ pr := fun e => pk.row y hy (by rw [e]; exact List.mem_cons_self)
      have hy2 : y.1 ∉ qs := fun e => pk.row y hy (List.mem_cons_of_mem _ e)
      rw [rowH_ne hy1 hy2]
      refine ⟨Nat.le_trans hLb (pk.ge y hy), ?_, fun e => ?_, fun q hq e => ?_⟩
      · rcases old y hy with ⟨z, hz, e⟩ | e
        · rw [← e]; exact (hP2 z hz).2.1
        · exact none_typed I2.hok e
      · have := pk.ge y hy
        rw [e] at this
        exact absurd (Nat.lt_of_lt_of_le hlLb this) (Nat.lt_irrefl _)
      · rcases old y hy with ⟨z, hz, e2⟩ | e2
        · exact (hP2 z hz).2.2.2 q hq (e.trans e2.symm)
        · have := (I2.pin q (List.mem_append_right _ hq)).1
          rw [e, e2] at this; cases this
    have J' : Inv X (pins ++ pI3) σ2 (rowH H2 pr qs r) s3 := J.pins_of fun q hq => by
      rcases List.mem_append.mp hq with hq | hq
      · exact J.pin q (List.mem_append_right _ hq)
      · obtain ⟨q1, q2, q3, _⟩ := hP3 q hq
        refine ⟨pk.at_ q hq, q2, q3, fun hm => ?_, pk.nc q hq⟩
        obtain ⟨_, o, ho, _⟩ := I.ok.funs.mem hm
        exact absurd (Nat.lt_of_lt_of_le (Heap.lt_size ho) q1) (Nat.lt_irrefl _)
    have back : ∀ {σ' : L2.St} {H' : Hp} {s' : Shared}, Inv X (pins ++ pI3) σ' H' s' → Inv X pins σ' H' s' := fun K => K.pins_of fun q hq => K.pin q (List.mem_append_right _ (List.mem_append_left _ hq))
    have again : ∀ {σ' : L2.St} {H' : Hp} {s4 : Shared}, Inv X (pins ++ pI3) σ' H' s4 → Still s3.gens s4.gens → Pv rs' σ' H' → ∃ m', m' < (r :: rs').length ∧ ∃ rs σ' H' g1 L1 pI' gi', m' = rs.length ∧ Inv X pins σ' H' s4 ∧ Pv rs σ' H' ∧
        GNow (model X.prog X.w) X.A a g1 X.base X.stack L1 rs pI' gi' s4 ∧ X.s_0.heap.objs.size ≤ L1 ∧ X.env.locals < L1 ∧ PinI X H' pins pI' ∧ CelI X L1 pI' := fun {σ' H' s4} K st pv => by
      refine ⟨rs'.length, Nat.lt_succ_self _, rs', σ', H', g2, Lb, pI3, gi3, rfl, back K, pv, gn.now s4 ⟨K.os.trans J.os.symm, K.bare, fun q hq => (K.pin q (List.mem_append_right _ (List.mem_append_right _ hq))).1, fun i hi => st i (gn.slp i hi), K.bk, K.stack⟩, hLb, hlLb, fun y hy => ?_, fun x c e => ⟨(hc2 x c e).1, fun y hy z => absurd (Nat.lt_of_lt_of_le (hc2 x c e).1 (pk.ge y hy)) (by rw [z]; exact Nat.lt_irrefl _)⟩⟩
      obtain ⟨_, k2, k3, _, _⟩ := K.pin y (List.mem_append_right _ (List.mem_append_right _ hy))
      exact ⟨(hP3 y hy).1, k2, k3, (hP3 y hy).2.2.2⟩
    refine wpAny_pure (show wpAny _ _ _ _ _ s3 from ?_)
    refine wpAny_mono (pg_still (v := .ref pr) hg J' (show RelV (.ref pr) (.ref pr) from rfl) (hturn r rs' σ2 H2 p2 pr qs hp0 hq0 ro.nd ro.pq (by rw [ro.tup.length]) ro.len)) (fun _ s4 hs4 => ?_) fun _ _ z => z
    obtain ⟨⟨σ4, H4, I4, q4⟩, st4⟩ := hs4
    refine wpAny_mono (pss_still hb I4 q4) (fun f s5 hs5 => ?_) fun _ _ z => z
    obtain ⟨sp, st5⟩ := hs5
    have st : Still s3.gens s5.gens := fun i hi => by
      have e4 := st4 i hi
      refine (st5 i ?_).trans e4
      obtain ⟨k, l, c, p, fs, cl, e⟩ := hi
      exact ⟨k, l, c, p, fs, cl, e4.trans e⟩
    cases f with
    | next => obtain ⟨σ', H', K, q⟩ := sp; exact again K st q
    | cont => obtain ⟨σ', H', K, q⟩ := sp; exact again K st q
    | brk => obtain ⟨σ', H', K, q⟩ := sp; exact ⟨σ', H', back K, q⟩
    | ret u => obtain ⟨v, σ', H', K, r1, q⟩ := sp; exact ⟨v, σ', H', back K, r1, q⟩

/-- behind an item: the generator's new pins lie apart -/
theorem pinI_next {X : Cx} {pins pI pI3 : Pins} {σ : L2.St} {H : Hp} {s s3 : Shared} {Lb : Addr} {pr : Addr} {qs : List Addr} {r : GRow} (I : Inv X pins σ H s) (hP : PinI X H pins pI) (hLb : X.s_0.heap.objs.size ≤ Lb) (hlLb : X.env.locals < Lb)
    (pk : PinOk Lb (frs X.stack) s s3 pI pI3 (pr :: qs)) : PinI X (rowH H pr qs r) pins pI3 := fun y hy => by
  have hy1 : y.1 ≠ pr := fun e => pk.row y hy (by rw [e]; exact List.mem_cons_self)
  have hy2 : y.1 ∉ qs := fun e => pk.row y hy (List.mem_cons_of_mem _ e)
  rw [rowH_ne hy1 hy2]
  refine ⟨Nat.le_trans hLb (pk.ge y hy), ?_, fun e => ?_, fun q hq e => ?_⟩
  · rcases pk.old y hy with e | ⟨z, hz, e⟩
    · exact none_typed I.hok e
    · rw [← e]; exact (hP z hz).2.1
  · have := pk.ge y hy
    rw [e] at this
    exact absurd (Nat.lt_of_lt_of_le hlLb this) (Nat.lt_irrefl _)
  · rcases pk.old y hy with e2 | ⟨z, hz, e2⟩
    · have := (I.pin q (List.mem_append_right _ hq)).1
      rw [e, e2] at this; cases this
    · exact (hP z hz).2.2.2 q hq (e.trans e2.symm)
theorem rowH_at {H : Hp} {p : Addr} : ∀ {qs : List Addr} {row : GRow}, qs.Nodup → p ∉ qs → qs.length = row.length → Paired (fun q (x : Str × Str) => rowH H p qs row q = some (.tup [.str x.1, .str x.2])) qs row := by
  intro qs row nd hp hl
  have key : ∀ (q : Addr) (x : Str × Str), (q, x) ∈ qs.zip row → rowH H p qs row q = some (.tup [.str x.1, .str x.2]) := fun q x hz => by
    have hq : q ∈ qs := (List.of_mem_zip hz).1
    unfold rowH
    have hne : q ≠ p := fun e => hp (by rw [← e]; exact hq)
    rw [upd_ne hne]
    unfold tupH
    have : (qs.zip row).lookup q = some x := by
      clear hp hl
      induction qs generalizing row with
      | nil => cases hz
      | cons a qs ih =>
        cases row with
        | nil => cases hz
        | cons b row =>
          rw [List.zip_cons_cons] at hz ⊢
          rw [List.lookup_cons]
          rcases List.mem_cons.mp hz with e | hz
          · cases e
            rw [beq_self_eq_true]
          · have hne : q ≠ a := fun e => (List.nodup_cons.mp nd).1 (e ▸ (List.of_mem_zip hz).1)
            have : (q == a) = false := by simpa using hne
            rw [this]
            exact ih (List.nodup_cons.mp nd).2 hz (List.of_mem_zip hz).1
    rw [this]
  have pz : ∀ {R : Addr → Str × Str → Prop} {qs : List Addr} {row : GRow}, qs.length = row.length → (∀ q x, (q, x) ∈ qs.zip row → R q x) → Paired R qs row := by
    intro R qs
    induction qs with
    | nil => intro row h _; cases row with
      | nil => exact .nil
      | cons => cases h
    | cons a qs ih => intro row h k; cases row with
      | nil => cases h
      | cons b row => exact .cons (k a b (by rw [List.zip_cons_cons]; exact List.mem_cons_self)) (ih (by simpa using h) fun q x hz => k q x (by rw [List.zip_cons_cons]; exact List.mem_cons_of_mem _ hz))
  exact pz hl key
end GenF
set_option Elab.async false
set_option linter.all false
set_option maxRecDepth 100000
set_option maxHeartbeats 2000000
/-! A generator's code, statement by statement, where no exception leaves. -/
namespace GenF
open PySem PySem.Spec PyProof.Rows L2
open Sem (wp)
section
variable {M : Model} {A : Around} {c : Code} {fs : List Frame} {s : Shared} {Φ : End → Shared → Prop} {K : Flow → Sem PySem.Fin} {J : Value → Sem PySem.Fin} {gd : Bool → Bool} {lv : List Value → List Value} {env : Env}
abbrev No : Value → Shared → Prop := fun _ _ => False
theorem to_wrap0 {α : Type} {m : Sem α} {K : α → Sem PySem.Fin} (h : wpAny M (A.over c fs) m (fun a s' => To M A c (K a) fs s' Φ) No s) : To M A c (m.wrap K J gd lv) fs s Φ :=
  to_wrap (wpAny_mono h (fun _ _ z => z) fun _ _ z => z.elim)
theorem to_bind_wrap {α β : Type} {m : Sem α} {f : α → Sem β} {K : β → Sem PySem.Fin} (h : wpAny M (A.over c fs) m (fun a s' => To M A c ((f a).wrap K J gd lv) fs s' Φ) No s) : To M A c ((m >>= f).wrap K J gd lv) fs s Φ := by
  rw [Sem.bind_eq_wrap', Sem.wrap_wrap]
  exact to_wrap0 h
theorem to_nil (h : To M A c (K .next) fs s Φ) : To M A c ((execs [] env).wrap K J gd lv) fs s Φ := h
theorem to_cons {st : Stmt} {rest : List Stmt} (h : To M A c ((exec st env).wrap (fun f => match f with | .next => (execs rest env).wrap K J gd lv | f => K f) J gd lv) fs s Φ) : To M A c ((execs (st :: rest) env).wrap K J gd lv) fs s Φ := by
  rw [execs_cons_wrap]; exact h
theorem to_if {test : Expr} {body orelse : List Stmt} {pos : Pos}
    (h : wpAny M (A.over c fs) (isTrue test env (eval test env)) (fun b s' => To M A c ((if b = true then execs body env else execs orelse env).wrap K J gd lv) fs s' Φ) No s) : To M A c ((exec (.If test body orelse pos) env).wrap K J gd lv) fs s Φ := by
  rw [exec_If]
  exact to_bind_wrap (wpAny_standAt (to_bind_wrap h))
/-- yield e, as a statement -/
theorem to_yieldS {e : Expr} {yp pos : Pos} (hfs : splitAtGen fs = none) (hgd : gd false = false) (hi : interactive env = false) (hco : env.scope.isCoroutine = false)
    (h : wpAny M (A.over c fs) (eval e env) (fun v s' => ∀ l k p, (∀ s3 Ψ, To M A c (K .next) fs s3 Ψ → To M A c (k (.send .none)) fs s3 Ψ) → Φ (.susp v false l k c p fs) s') No s) :
    To M A c ((exec (.Expr (.Yield (some e) yp) pos) env).wrap K J gd lv) fs s Φ := by
  rw [exec_Expr env _ pos hi rfl]
  show To M A c (.at pos fun _ => ((eval e env >>= fun v => (standAt yp >>= fun _ => yieldOut env v)) >>= fun x => dropValue (.Yield (some e) yp) pos x).wrap K J gd lv) fs s Φ
  have hy : ∀ v, yieldOut env v = yieldValue v := fun v => by unfold yieldOut; rw [hco, if_neg Bool.false_ne_true]
  refine to_at ?_
  rw [Sem.bind_eq_wrap', Sem.bind_eq_wrap', Sem.wrap_wrap, Sem.wrap_wrap]
  refine to_wrap0 (wpAny_mono h (fun v s' z => ?_) fun _ _ z => z)
  refine to_at ?_
  rw [hy]
  show To M A c (.yield v (gd false) _ _) fs s' Φ
  rw [hgd]
  exact to_yield hfs fun p => z _ _ p fun s3 Ψ q => q
/-- a for loop's frame -/
abbrev forFrame (env : Env) (K : Flow → Sem PySem.Fin) (J : Value → Sem PySem.Fin) (gd : Bool → Bool) (lv : List Value → List Value) (c : Code) (p : Pos) : Frame :=
  .ret (fun r => ((match r with | .ok f => (.pure f : Sem Flow) | .error e => .raise e).onRaise fun (x : Value) => do
    if (← field x 1) == Value.none then unsupported "frame.own-activation:exception-without-traceback"
    setFlight x env.frame).wrap K J gd lv) none (gd false) (lv []) c p []
theorem to_for {target iter : Expr} {body : List Stmt} {pos : Pos} (hs : ∀ x, foldedSetIterable iter env x = pure x)
    (h : wpAny M (A.over c fs) (eval iter env) (fun x s₁ => wpAny M (A.over c fs) (pyIter x) (fun it s₂ => ∀ p, To M A (.forLoop target it body [] env) (M.den (.forLoop target it body [] env)) (forFrame env K J gd lv c p :: fs) s₂ Φ) No s₁) No s) :
    To M A c ((exec (.For target iter body [] pos) env).wrap K J gd lv) fs s Φ := by
  rw [exec_For]
  refine to_bind_wrap (wpAny_standAt (to_bind_wrap (wpAny_mono h (fun x s₁ h₁ => ?_) fun _ _ z => z)))
  rw [hs]
  refine to_bind_wrap (wpAny_pure (to_bind_wrap (wpAny_standAt (to_bind_wrap (wpAny_holding (wpAny_mono h₁ (fun it s₂ h₂ => ?_) fun _ _ z => z))))))
  exact to_call h₂
end
section
variable {P : Program} {w : World} {A : Around} {c : Code} {fs : List Frame} {s : Shared} {Φ : End → Shared → Prop} {K : Flow → Sem PySem.Fin} {J : Value → Sem PySem.Fin} {gd : Bool → Bool} {lv : List Value → List Value} {env : Env}
/-- a turn of a for loop -/
theorem to_turn {target : Expr} {it : Value} {body : List Stmt} {k : Result → Sem PySem.Fin} {hd : Option Value} {gg : Bool} {l kp : List Value} {c₁ : Code} {p₁ : Pos} (c' : Code) (hc' : c' = .forLoop target it body [] env)
    (h : wpAny (model P w) (A.over c' (.ret k hd gg l c₁ p₁ kp :: fs)) (pyNext it) (fun r s₁ => match r with
      | none => To (model P w) A c₁ (k (.ok .next)) fs s₁ Φ
      | some v => wpAny (model P w) (A.over c' (.ret k hd gg l c₁ p₁ kp :: fs)) (letOwnedTupleGo target it v) (fun _ s₂ => wpAny (model P w) (A.over c' (.ret k hd gg l c₁ p₁ kp :: fs)) (assign target env v) (fun _ s₃ =>
          ∀ (K2 : Flow → Sem PySem.Fin) (J2 : Value → Sem PySem.Fin), (∀ s4 Ψ, To (model P w) A c' ((model P w).den c') (.ret k hd gg l c₁ p₁ kp :: fs) s4 Ψ → To (model P w) A c' (K2 .next) (.ret k hd gg l c₁ p₁ kp :: fs) s4 Ψ) →
            To (model P w) A c' ((execs body env).wrap K2 J2 id id) (.ret k hd gg l c₁ p₁ kp :: fs) s₃ Φ) No s₂) No s₁) No s) :
    To (model P w) A c' ((model P w).den c') (.ret k hd gg l c₁ p₁ kp :: fs) s Φ := by
  subst hc'
  show To _ A _ ((forTurn target it body [] env).onRaise (fun x => do noteFrame x env; theTreesLotGoes x)) _ s Φ
  rw [Sem.onRaise_eq_wrap]
  unfold forTurn
  refine to_bind_wrap (wpAny_standAt (to_bind_wrap (wpAny_onRaise (wpAny_mono h (fun r s₁ h₁ => ?_) fun _ _ z => z.elim))))
  cases r with
  | none =>
    show To _ A _ (.pure (.again (.block [] env))) _ s₁ Φ
    refine to_again rfl ?_
    show To _ A _ ((execs [] env).onRaise (fun x => do noteFrame x env; theTreesLotGoes x) >>= fun f => pure (Fin.done f)) _ s₁ Φ
    exact to_leaf (.ok .next) h₁
  | some v =>
    refine to_bind_wrap (wpAny_mono h₁ (fun _ s₂ h₂ => to_bind_wrap (wpAny_mono h₂ (fun _ s₃ h₃ => ?_) fun _ _ z => z)) fun _ _ z => z)
    rw [Sem.bind_eq_wrap', Sem.wrap_wrap]
    refine h₃ _ _ fun s4 Ψ q => ?_
    exact to_again rfl q
theorem to_func {body : List Stmt} (h : To (model P w) A (.func body env) ((execs body env).wrap (fun f => .pure (.done (.ret (match f with | .ret v => v | _ => .none)))) (fun e => (leaving env e).wrap (fun _ => .raise e) .raise id id) id id) fs s Φ) :
    To (model P w) A (.func body env) ((model P w).den (.func body env)) fs s Φ := by
  show To _ A _ (.point [] fun _ => ((execs body env).onRaise (leaving env)) >>= _) fs s Φ
  refine to_point ?_
  rw [Sem.onRaise_eq_wrap, Sem.bind_eq_wrap', Sem.wrap_wrap]
  rw [Sem.wrap_congr (execs body env) _ _ (K' := fun f => .pure (.done (.ret (match f with | .ret v => v | _ => .none)))) (H' := fun e => (leaving env e).wrap (fun _ => .raise e) .raise id id) (fun f => by cases f <;> rfl)
    (fun e => by rw [Sem.bind_eq_wrap, Sem.wrap_wrap]; rfl)]
  exact h
end
end GenF
set_option Elab.async false
set_option linter.all false
set_option maxRecDepth 100000
set_option maxHeartbeats 2000000
/-! A generator's frame, seen anew at each wake. -/
namespace GenF
open PySem PySem.Spec PyProof.Rows L2
open Sem (wp)
def trunc (h : Heap) (n : Nat) : Heap := ⟨h.objs.extract 0 n, h.life⟩
theorem trunc_size {h : Heap} {n : Nat} (hn : n ≤ h.objs.size) : (trunc h n).objs.size = n := by
  show (h.objs.extract 0 n).size = n
  rw [Array.size_extract]; omega
theorem trunc_at {h : Heap} {n : Nat} {b : Nat} : (h.objs.extract 0 n)[b]? = if b < n then h.objs[b]? else none := by
  rw [Array.getElem?_extract]
  by_cases hb : b < n
  · rw [if_pos hb]
    by_cases hs : b < h.objs.size
    · rw [if_pos (by simp only [Nat.sub_zero]; exact Nat.lt_min.mpr ⟨hb, hs⟩), Nat.zero_add]
    · rw [if_neg (by simp only [Nat.sub_zero]; exact fun z => hs (Nat.lt_min.mp z).2)]
      exact (Array.getElem?_eq_none (Nat.le_of_not_lt hs)).symm
  · rw [if_neg hb, if_neg (by simp only [Nat.sub_zero]; exact fun z => hb (Nat.lt_min.mp z).1)]
theorem trunc_get {h : Heap} {n : Nat} {b : Addr} : (trunc h n).get? b = if b < n then h.get? b else none := by
  by_cases hb : b < n
  · rw [if_pos hb]
    unfold trunc Heap.get?
    dsimp only
    rw [trunc_at, if_pos hb]
  · rw [if_neg hb]
    unfold trunc Heap.get?
    dsimp only
    rw [trunc_at, if_neg hb]
theorem funs_trunc {h base : Heap} {n : Nat} : ∀ {l : List Env}, h.FunFrames base l → (∀ b ∈ frs l, b < n) → (trunc h n).FunFrames base l
  | [], _, _ => trivial
  | env :: l, ⟨hk, ⟨L, o, hf, hn, ho, hd⟩, hr⟩, hb => by
    have e : frs (env :: l) = L :: frs l := by unfold frs; rw [List.filterMap_cons, hf]
    rw [e] at hb
    refine ⟨hk, ⟨L, o, hf, hn, ?_, hd⟩, funs_trunc hr fun b q => hb b (List.mem_cons_of_mem _ q)⟩
    rw [trunc_get, if_pos (hb L List.mem_cons_self)]
    exact ho
section
variable (P : Program) (w : World) (K : PySem.W.Frag) (mg : Str → Option Value) (base : Heap) (N : List Str) (qual : Str) (scope : Scope) (f : Addr) (cd : Value) (A : Around) (outer : List Env)
/-- the frame's context, its entry being s0, H0 -/
abbrev GX (s0 : Shared) (H0 : Hp) : Cx := (cxOf CX0 P w K mg base N qual scope f cd A outer s0 H0 (fun _ _ _ => False)).nox
end
section
variable {P : Program} {w : World} {K : PySem.W.Frag} {mg : Str → Option Value} {base : Heap} {N : List Str} {qual : Str} {scope : Scope} {f : Addr} {cd : Value} {A : Around} {outer : List Env}
theorem rebase {s0 s s3 : Shared} {H0 H Hs : Hp} {pins P' : Pins} {σ : L2.St} (I : Inv (GX P w K mg base N qual scope f cd A outer s0 H0) pins σ H s) (hos : s3.os = s.os) (hba : AllBare s3.gens) (hbs : ∀ b o, base.get? b = some o → s3.heap.get? b = some o ∧ Hs b = none)
    (hfu : s3.heap.FunFrames base outer) (hok : HOk P w Hs s3.heap) (hL : s3.heap.get? s0.heap.objs.size = s.heap.get? s0.heap.objs.size) (hnL : Hs s0.heap.objs.size = none) (hnf : ∀ b ∈ frs outer, Hs b = none) (hcl : cellsFrom (s0.heap.objs.size + 1) scope.names [] = [])
    (hP : ∀ p ∈ P', s3.heap.get? p.1 = some p.2 ∧ Hs p.1 = none ∧ p.1 ≠ s0.heap.objs.size ∧ p.1 ∉ frs outer ∧ ∀ v, p.2.data ≠ .cell v) :
    ∃ s0' H0', s0'.heap.objs.size = s0.heap.objs.size ∧ (∀ b, s0'.heap.get? b = if b < s0.heap.objs.size then s3.heap.get? b else none) ∧ (∀ b, H0' b = if b < s0.heap.objs.size then Hs b else none) ∧ Inv (GX P w K mg base N qual scope f cd A outer s0' H0') P' σ Hs s3 := by
  have hlt : s0.heap.objs.size < s3.heap.objs.size := by
    obtain ⟨_, ⟨o, _, _, e, _⟩, _⟩ := I.loc
    have e : s.heap.get? s0.heap.objs.size = some o := e
    rw [← hL] at e
    exact Heap.lt_size e
  have hsz : (trunc s3.heap s0.heap.objs.size).objs.size = s0.heap.objs.size := trunc_size (Nat.le_of_lt hlt)
  have hlow : ∀ b ∈ frs outer, b < s0.heap.objs.size := fun b hb => by
    obtain ⟨_, o, ho, _⟩ := I.ok.funs.mem hb
    exact Heap.lt_size ho
  have hfun : (trunc s3.heap s0.heap.objs.size).FunFrames base outer := funs_trunc hfu hlow
  have k := I.ok
  refine ⟨{ s3 with heap := trunc s3.heap s0.heap.objs.size }, fun b => if b < s0.heap.objs.size then Hs b else none, hsz, fun b => trunc_get, fun b => rfl, ?_⟩
  have heq : envOfC qual scope (trunc s3.heap s0.heap.objs.size).objs.size f cd = envOfC qual scope s0.heap.objs.size f cd := by rw [hsz]
  have tg : ∀ {b o}, (trunc s3.heap s0.heap.objs.size).get? b = some o → b < s0.heap.objs.size ∧ s3.heap.get? b = some o := fun {b o} e => by
    rw [trunc_get] at e
    split at e
    · exact ⟨by assumption, e⟩
    · cases e
  have hcell : ∀ x, (cellsFrom (s0.heap.objs.size + 1) scope.names []).lookup x = none := fun x => by rw [hcl]; rfl
  have hok' : (GX P w K mg base N qual scope f cd A outer { s3 with heap := trunc s3.heap s0.heap.objs.size } (fun b => if b < s0.heap.objs.size then Hs b else none)).Ok := by
    refine ⟨k.mod, k.kind, rfl, rfl, Nat.le_refl _, ?_, ?_, ?_, k.hd, ?_, .inr ⟨rfl, rfl⟩, ?_, ?_, ?_, ?_, ?_, hfun, ?_⟩
    · intro x y c h1 h2
      have h1 : (cellsFrom ((trunc s3.heap s0.heap.objs.size).objs.size + 1) scope.names []).lookup x = some c := h1
      rw [hsz, hcell] at h1; cases h1
    · intro x hx
      obtain ⟨c, e⟩ := k.has x hx
      have e : (cellsFrom (s0.heap.objs.size + 1) scope.names []).lookup x = some c := e
      rw [hcell] at e; cases e
    · intro x c _ h1
      have h1 : (cellsFrom ((trunc s3.heap s0.heap.objs.size).objs.size + 1) scope.names []).lookup x = some c := h1
      rw [hsz, hcell] at h1; cases h1
    · show (A.deeper (envOfC qual scope (trunc s3.heap s0.heap.objs.size).objs.size f cd)).frames = some (envOfC qual scope (trunc s3.heap s0.heap.objs.size).objs.size f cd :: outer)
      rw [heq]; exact k.frames
    · intro b hb; cases hb
    · intro b o e
      obtain ⟨e1, e2⟩ := hbs b o e
      have hb : b < s0.heap.objs.size := Heap.lt_size (k.bs b o e).1
      refine ⟨?_, ?_⟩
      · show (trunc s3.heap s0.heap.objs.size).get? b = some o
        rw [trunc_get, if_pos hb]; exact e1
      · show (if b < s0.heap.objs.size then Hs b else none) = none
        rw [if_pos hb]; exact e2
    · show base.objs.size ≤ (trunc s3.heap s0.heap.objs.size).objs.size
      rw [hsz]; exact k.bsz
    · intro b o _ hb; cases hb
    · intro b hb; cases hb
    · intro b hb
      show (if b < s0.heap.objs.size then Hs b else none) = none
      split
      · exact hnf b hb
      · rfl
  refine ⟨hok', rfl, hba, ⟨fun b o e _ _ _ => (tg e).2, fun b o e _ _ _ => ⟨o.slots, (tg e).2⟩, fun b o e n _ => ?_, fun b o e _ => ⟨o, (tg e).2⟩, fun b xs e => ?_, fun b o u e => ?_, fun b ps e => ?_⟩, ?_, ?_, ?_, ?_, ?_, hok, I.len⟩
  · have n : (if b < s0.heap.objs.size then Hs b else none) = none := n
    rw [if_pos (tg e).1] at n; exact n
  · have e : (if b < s0.heap.objs.size then Hs b else none) = some (.tup xs) := e
    split at e
    · exact e
    · cases e
  · have e : (if b < s0.heap.objs.size then Hs b else none) = some (.frz o u) := e
    split at e
    · exact e
    · cases e
  · have e : (if b < s0.heap.objs.size then Hs b else none) = some (.tbl ps) := e
    split at e
    · exact ⟨#[], by rw [e]; simp⟩
    · cases e
  · obtain ⟨m, ⟨o, es, ep, e, r⟩, hl⟩ := I.loc
    have e' : s3.heap.get? s0.heap.objs.size = some o := hL.trans e
    show ∃ m, s3.heap.Ns (trunc s3.heap s0.heap.objs.size).objs.size m ∧ _
    rw [hsz]
    refine ⟨m, ⟨o, es, ep, e', r⟩, fun i x v h1 h2 h3 => ?_⟩
    obtain ⟨u, ru, l⟩ := hl i x v h1 h2 h3
    refine ⟨u, ru, ?_⟩
    rcases l with ⟨l1, l2⟩ | ⟨_, c, l2, _⟩
    · exact .inl ⟨l1, l2⟩
    · have l2 : (cellsFrom (s0.heap.objs.size + 1) scope.names []).lookup x = some c := l2
      rw [hcell] at l2; cases l2
  · intro x c h1
    have h1 : (cellsFrom ((trunc s3.heap s0.heap.objs.size).objs.size + 1) scope.names []).lookup x = some c := h1
    rw [hsz, hcell] at h1; cases h1
  · show Hs (trunc s3.heap s0.heap.objs.size).objs.size = none
    rw [hsz]; exact hnL
  · intro x c h1
    have h1 : (cellsFrom ((trunc s3.heap s0.heap.objs.size).objs.size + 1) scope.names []).lookup x = some c := h1
    rw [hsz, hcell] at h1; cases h1
  · intro p hp
    have hp : p ∈ P' := (List.mem_append.mp hp).elim (fun z => nomatch z) fun z => z
    obtain ⟨q1, q2, q3, q4, q5⟩ := hP p hp
    refine ⟨q1, q2, ?_, q4, q5⟩
    show p.1 ≠ (trunc s3.heap s0.heap.objs.size).objs.size
    rw [hsz]; exact q3
end
end GenF
set_option Elab.async false
set_option linter.all false
set_option maxRecDepth 100000
set_option maxHeartbeats 2000000
/-! A generator def's promise: what a call of it gives. -/
namespace GenF
open PySem PySem.Spec PyProof.Rows L2 GenW
open Sem (wp)
/-- the arguments, the heap, what is wanted of the rows -/
abbrev SpX := List V → Hp → (List GRow → Hp → Prop) → Prop
structure GFnX (P : Program) (w : World) (K : PySem.W.Frag) (mg : Str → Option Value) (base : Heap) (k : Nat) (f : Addr) (fd : FuncData) (ps : List Str) (sp : SpX) : Prop where
  len : ∀ vs H cont, sp vs H cont → vs.length = ps.length
  run : ∀ (A : Around) (outer : List Env) (s : Shared) (H : Hp) (args : Args) (us : List Value) (vs : List V) (cont : List GRow → Hp → Prop), Room k A → Env0 P w K mg base A outer s H → BindsTo s fd args (ps.zip us) → Vals vs us → sp vs H cont →
    codeAny (model P w) A (.call (.ref f) args) (fun r s' => ∃ a g rows pI, r = .ok (.ret (.ref a)) ∧ s'.os = s.os ∧ AllBare s'.gens ∧ (∀ b o, s.heap.get? b = some o → s'.heap.get? b = some o) ∧
      GNow (model P w) A a g base outer s.heap.objs.size rows pI [] s' ∧ (∀ y ∈ pI, s.heap.objs.size ≤ y.1) ∧ s.gens.size ≤ g ∧ cont rows H) s
theorem gsz_any {α : Type} {M : Model} {A : Around} {t : Sem α} {s : Shared} {Q : α → Shared → Prop} {E : Value → Shared → Prop} (h : wpAny M A t Q E s) : wpAny M A t (fun a s' => s.gens.size ≤ s'.gens.size ∧ Q a s') E s := fun Γ p hΓ =>
  Sem.wp_mono M Γ t (fun _ _ _ z => z) (fun _ _ _ z => z.2) p s (wp_gsz M Γ s.gens.size t _ _ p s (Nat.le_refl _) (h Γ p hΓ))
section
variable {X : Cx} {k : Nat} {f : Addr} {fd : FuncData} {ps : List Str} {sp : SpX} {dvs : List V} {ds : List Value} {x : Str} {p pos : Pos} {t : TA}
def tCallX (sp : SpX) (dvs : List V) (t : TA) : TGx := fun σ H cont => t σ H fun vs H1 => sp (vs ++ dvs) H1 cont
theorem pgx_call {e : Expr} {es : List Expr} (F : GFnX X.prog X.w X.K X.mg X.base k f fd ps sp) (hr : Room k X.A) (hg : Gl X x) (hm : X.mg x = some (.ref f)) (hk : PySem.W.keepIn X.K (.ref f) = true) (hb : Binds X.K fd ps ds) (hd : Vals dvs ds)
    (ha : PA X (e :: es) t) (hdb : (x == ("__debug__" : Str)) = false := by decide) (he : starEach (e :: es) X.env = (false, eval e X.env) :: starEach es X.env := by rfl) (hpl : (backTo pos (starEach es X.env)).any (·.1) = false := by rfl) :
    PGx X (.Call (.Name x p) (e :: es) [] pos) (tCallX sp dvs t) := by
  refine ⟨fun pins s σ H cont I h => ?_⟩
  refine wpAny_Call_Name_kw (ld_glob I hg hm ?_ hdb)
  refine PySem.W.callWith_K (h₀ := X.base) I.ok.mod.kin hk (thn (gsz_any (ha.run pos pins s σ H _ I h)) fun us s1 ⟨hgz, vs, H1, I1, r, q⟩ => ⟨I1.kIn, ?_⟩) he hpl
  have r2 : Vals (vs ++ dvs) (us ++ ds) := r.append hd
  have hl2 : (us ++ ds).length = ps.length := by rw [← r2.length]; exact F.len _ _ _ q
  refine wpAny_call (codeAny_mono (F.run X.A X.stack s1 H1 ⟨us, []⟩ (us ++ ds) (vs ++ dvs) cont hr I1.env0 (hb s1 us I1.kIn hl2) r2 q) fun rr s' hq => ?_)
  obtain ⟨a, g, rows, pI, rfl, hos, hba, hkp, G, hpi, hgg, hc⟩ := hq
  have J : Inv X pins σ H1 s' := I1.call' (ch := []) hos (Un.kept hkp) (I1.hok.kept hkp) hba fun b z => by simp at z
  have hcz : ∀ x c, X.env.cells.lookup x = some c → c < s1.heap.objs.size := fun x c e => by
    obtain ⟨v, o, ho, _⟩ := I1.cell x c e
    exact Heap.lt_size ho
  refine ⟨a, g, _, rows, pI, [], H1, rfl, J, G, I1.sz, I1.lt, fun y hy => ?_, fun x c e => ⟨hcz x c e, fun y hy z => absurd (Nat.lt_of_lt_of_le (hcz x c e) (hpi y hy)) (by rw [z]; exact Nat.lt_irrefl _)⟩, Nat.le_trans hgz hgg, hc⟩
  have hge := hpi y hy
  refine ⟨Nat.le_trans I1.sz hge, I1.hok.fresh hge, fun e => ?_, fun q hq e => ?_⟩
  · rw [e] at hge
    exact absurd (Nat.lt_of_lt_of_le I1.lt hge) (Nat.lt_irrefl _)
  · have := Heap.lt_size (I1.pin q (List.mem_append_right _ hq)).1
    rw [e] at this
    exact absurd (Nat.lt_of_lt_of_le this hge) (Nat.lt_irrefl _)
end
/-- the frame's own object and the generator's -/
abbrev pin0 (L a : Addr) (s : Shared) : Pins := (pinsAt [L, a] s.heap)
theorem gfnx_of {P : Program} {w : World} {K : PySem.W.Frag} {mg : Str → Option Value} {base : Heap} {k : Nat} {f : Addr} {x qual : Str} {st : Stmt} {fd : FuncData} {N ps : List Str} {sp : SpX} (F : Fun K x qual st f fd) (S : GScope N ps (defScope st)) (hcl : ∀ n, cellsFrom n (defScope st).names [] = [])
    (len : ∀ vs H cont, sp vs H cont → vs.length = ps.length)
    (hbody : ∀ (cdv : Value) (A : Around) (outer : List Env) (s s' : Shared) (H : Hp) (vs : List V) (cont : List GRow → Hp → Prop) (a : Addr) (g : Nat), Room k (A.in1.deeper (envOfC qual (defScope st) s.heap.objs.size f cdv)) → sp vs H cont →
      Inv (GX P w K mg base N qual (defScope st) f cdv A.in1 outer s H) [] (start N vs) H (s'.setGen g .running) → (s.heap.objs.size < a ∧ s'.heap.IsGen a g ∧ H a = none ∧ ∀ v o, s'.heap.get? a = some o → o.data ≠ .cell v) → AllBare s'.gens → g < s'.gens.size → (∀ b, s.heap.objs.size ≤ b → H b = none) →
      ∃ rows, cont rows H ∧ To (model P w) A.in1 (.func (defBody st) (envOfC qual (defScope st) s.heap.objs.size f cdv)) ((execs (defBody st) (envOfC qual (defScope st) s.heap.objs.size f cdv)).wrap (fun f => .pure (.done (.ret (match f with | .ret v => v | _ => .none)))) (fun e => (leaving (envOfC qual (defScope st) s.heap.objs.size f cdv) e).wrap (fun _ => .raise e) .raise id id) id id) []
        (s'.setGen g .running) (Good (model P w) A.in1 a g base outer s.heap.objs.size rows (pin0 s.heap.objs.size a s') [] s')) :
    GFnX P w K mg base (k + 2) f fd ps sp := by
  obtain ⟨oc, od, kV, doc, pm, an, cdv, ct, osl, rfl, lk, hcd⟩ := F.ex
  refine ⟨len, fun A outer s H args us vs cont hr e0 hb r hsp => ?_⟩
  have hl := len _ _ _ hsp
  have KX : K.In s.heap := e0.mod.kin.keeps fun b o e => (e0.bs b o e).1
  have lim : s.heap.NoLimit := e0.mod.nolimit.keeps fun b o e => (e0.bs b o e).1
  have hkind : ∀ y ∈ ps.zip us, (defScope st).names.lookup y.1 = some .local ∨ ((defScope st).names.lookup y.1 = some .cell ∧ ((cellsFrom (s.heap.objs.size + 1) (defScope st).names []).lookup y.1).isSome = true) := fun ⟨n, v⟩ hy => by
    rcases S.par n (List.of_mem_zip hy).1 with q | q
    · exact .inl q
    · exact .inr ⟨q, PySem.W.cellsFrom_some _ _ _ (.inl q)⟩
  refine codeAny_call_generator hr.depth (KX _ _ lk) rfl S.co S.gen rfl (PySem.W.codeRec_of KX hcd) (hb _ _ _ _ ?_)
  refine wpAny_newFunctionEnv_cells S.kind hkind fun env he s1 x => ?_
  subst he
  have lim1 : s1.heap.NoLimit := lim.keeps x.toInCall.keep
  refine ⟨lim1, ?_⟩
  obtain ⟨h1, tk, es1, hk1⟩ := x.done
  have os1 : s1.os = s.os := by rw [es1]
  have gen1 : s1.gens = s.gens := by rw [es1]
  have lt1 : s.heap.objs.size < s1.heap.objs.size := x.toInCall.ns.lt
  have kp1 : ∀ b o, s.heap.get? b = some o → s1.heap.get? b = some o := x.toInCall.keep
  have e1 : Env0 P w K mg base A.in1 outer s H := ⟨e0.frames, e0.mod, e0.bs, e0.bsz, e0.funs, e0.frf, e0.hok, e0.bare⟩
  have main : ∀ (go : Obj) (nm qn : Value) (tk2 : Nat), go.cls = .type "generator" → go.data = .fields #[.int s1.gens.size 0, nm, qn] → go.slots = #[] → (∀ h : Heap, (h.push go).get? h.objs.size = some go) →
      ∃ a g rows pI, (Except.ok (Flow.ret (.ref s1.heap.objs.size)) : Result) = .ok (.ret (.ref a)) ∧ ({ s1 with gens := s1.gens.push (.fresh (.func (defBody st) (envOfC qual (defScope st) s.heap.objs.size f cdv))), toks := tk2, heap := s1.heap.push go } : Shared).os = s.os ∧
        AllBare ({ s1 with gens := s1.gens.push (.fresh (.func (defBody st) (envOfC qual (defScope st) s.heap.objs.size f cdv))), toks := tk2, heap := s1.heap.push go } : Shared).gens ∧ (∀ b o, s.heap.get? b = some o → (s1.heap.push go).get? b = some o) ∧
        GNow (model P w) A a g base outer s.heap.objs.size rows pI [] { s1 with gens := s1.gens.push (.fresh (.func (defBody st) (envOfC qual (defScope st) s.heap.objs.size f cdv))), toks := tk2, heap := s1.heap.push go } ∧ (∀ y ∈ pI, s.heap.objs.size ≤ y.1) ∧ s.gens.size ≤ g ∧ cont rows H := by
    intro go nm qn tk2 hgc hgd hgs hgp
    generalize hS : ({ s1 with gens := s1.gens.push (.fresh (.func (defBody st) (envOfC qual (defScope st) s.heap.objs.size f cdv))), toks := tk2, heap := s1.heap.push go } : Shared) = S2
    have hh2 : S2.heap = s1.heap.push go := by rw [← hS]
    have hg2 : S2.gens = s1.gens.push (.fresh (.func (defBody st) (envOfC qual (defScope st) s.heap.objs.size f cdv))) := by rw [← hS]
    have ho2 : S2.os = s.os := by rw [← hS]; exact os1
    have hat : S2.heap.get? s1.heap.objs.size = some go := by rw [hh2]; exact hgp _
    have hgen : S2.heap.IsGen s1.heap.objs.size s1.gens.size := ⟨go, nm, qn, hat, hgc, hgd, hgs⟩
    have hba : AllBare S2.gens := by rw [hg2]; exact AllBare.push (by rw [gen1]; exact e0.bare) rfl
    have hgl : s1.gens.size < S2.gens.size := by rw [hg2, Array.size_push]; exact Nat.lt_succ_self _
    have hbr : AllBare (S2.setGen s1.gens.size .running).gens := allBare_setGen hba rfl
    have kp2 : ∀ b o, s1.heap.get? b = some o → S2.heap.get? b = some o := fun b o e => by rw [hh2]; exact Heap.get?_push_of_some _ e
    have I0 := inv_startG (E := fun _ _ _ => False) (A := A.in1) S hr.hd e1 hl r x
    have I1 : Inv (GX P w K mg base N qual (defScope st) f cdv A.in1 outer s H) [] (start N vs) H s1 := I0.wish _
    have I2 : Inv (GX P w K mg base N qual (defScope st) f cdv A.in1 outer s H) [] (start N vs) H (S2.setGen s1.gens.size .running) :=
      I1.call' (ch := []) (ho2.trans os1.symm) (Un.kept kp2) (I1.hok.kept kp2) hbr fun b z => by simp at z
    obtain ⟨rows, hc, ht⟩ := hbody cdv A outer s S2 H vs cont s1.heap.objs.size s1.gens.size (((hr.in1).deeper _)) hsp I2 ⟨lt1, hgen, I1.hok.fresh (Nat.le_refl _), fun v o e q => by rw [hat] at e; cases e; rw [hgd] at q; cases q⟩ hba hgl (fun b hb => e0.hok.fresh hb)
    have hfr : S2.gens[s1.gens.size]? = some (.fresh (.func (defBody st) (envOfC qual (defScope st) s.heap.objs.size f cdv))) := by rw [hg2]; exact Array.getElem?_push_size ..
    refine ⟨s1.heap.objs.size, s1.gens.size, rows, _, rfl, ho2, hba, fun b o e => by have := kp2 b o (kp1 b o e); rw [hh2] at this; exact this, ⟨hgen, .fresh (.func (defBody st) (envOfC qual (defScope st) s.heap.objs.size f cdv)), hfr, to_func ht⟩, fun y hy => ?_, Nat.le_of_eq (by rw [gen1]), hc⟩
    rcases List.mem_cons.mp (of_pinsAt hy).1 with e | e
    · rw [e]; exact Nat.le_refl _
    · rw [List.mem_singleton.mp e]; exact Nat.le_of_lt lt1
  exact main _ _ _ _ rfl rfl rfl fun h => Heap.get?_push_size _ rfl
end GenF
set_option Elab.async false
set_option linter.all false
set_option maxRecDepth 100000
set_option maxHeartbeats 2000000
/-! Between two stops of a generator: what is known of the wake's state. -/
namespace GenF
open PySem PySem.Spec PyProof.Rows L2 GenW T3
open Sem (wp)
open Evl (Ex)
/-- lists and tuples; known ones too -/
def Plain : HO → Prop
  | .lst _ => True
  | .tup _ => True
  | _ => False
def Flat : HO → Prop
  | .frz _ u => Plain u
  | o => Plain o
theorem Plain.cases {o : HO} (h : Plain o) : (∃ xs, o = .lst xs) ∨ ∃ xs, o = .tup xs := by
  cases o with
  | lst xs => exact .inl ⟨xs, rfl⟩
  | tup xs => exact .inr ⟨xs, rfl⟩
  | _ => exact h.elim
theorem Plain.flat {o : HO} (h : Plain o) : Flat o := by
  rcases h.cases with ⟨xs, rfl⟩ | ⟨xs, rfl⟩ <;> exact True.intro
theorem Flat.cases {o : HO} (h : Flat o) : Plain o ∨ ∃ ob u, o = .frz ob u ∧ Plain u := by
  cases o with
  | lst xs => exact .inl True.intro
  | tup xs => exact .inl True.intro
  | frz ob u =>
    refine .inr ⟨ob, u, rfl, ?_⟩
    cases u with
    | lst xs => exact True.intro
    | tup xs => exact True.intro
    | _ => exact h.elim
  | _ => exact h.elim
theorem plain_ok {P : Program} {w : World} {H H' : Hp} {h h' : Heap} {b : Addr} (e : h'.get? b = h.get? b) {o : HO} (hp : Plain o) (x : ObjOk P w H h b o) : ObjOk P w H' h' b o := by
  rcases hp.cases with ⟨xs, rfl⟩ | ⟨xs, rfl⟩
  · obtain ⟨z, its, n, r, x⟩ := x
    exact ⟨z, its, n, r, e.trans x⟩
  · obtain ⟨z, its, r, ob, x, c⟩ := x
    exact ⟨z, its, r, ob, e.trans x, c⟩
theorem flat_ok {P : Program} {w : World} {H H' : Hp} {h h' : Heap} {b : Addr} (e : h'.get? b = h.get? b) {o : HO} (hp : Flat o) (x : ObjOk P w H h b o) : ObjOk P w H' h' b o := by
  rcases hp.cases with hp | ⟨ob, u, rfl, hp⟩
  · exact plain_ok e hp x
  · obtain ⟨y, x⟩ := x
    exact ⟨e.trans y, plain_ok e hp x⟩
theorem flat_nc {P : Program} {w : World} {H : Hp} {h : Heap} {b : Addr} {u : Obj} (e : h.get? b = some u) {o : HO} (hp : Plain o) (x : ObjOk P w H h b o) : ∀ v, u.data ≠ .cell v := by
  rcases hp.cases with ⟨xs, rfl⟩ | ⟨xs, rfl⟩
  · obtain ⟨_, its, n, _, x⟩ := x
    rw [e] at x
    cases x
    exact fun v q => by cases q
  · obtain ⟨_, its, _, ob, x, _, n, c⟩ := x
    rw [e] at x
    cases x
    exact fun v q => by rw [q] at c; cases c
/-- the thing at b, as it is -/
abbrev asIs (b : Addr) (o : Obj) : HO := .ext fun h => h.get? b = some o
/-- at a wake: the generator's own typed things; all that is foreign, as it is -/
def wakeH (own : Hp) (L : Addr) (ex : List Addr) (h : Heap) : Hp := fun b => match own b with
  | some o => some o
  | none => if L ≤ b ∧ b ∉ ex then (h.get? b).map (asIs b) else none
theorem wakeH_own {own : Hp} {L : Addr} {ex : List Addr} {h : Heap} {b : Addr} {o : HO} (e : own b = some o) : wakeH own L ex h b = some o := by unfold wakeH; rw [e]
theorem wakeH_ex {own : Hp} {L : Addr} {ex : List Addr} {h : Heap} {b : Addr} (e : own b = none) (hx : b ∈ ex) : wakeH own L ex h b = none := by
  unfold wakeH; rw [e]; dsimp only; rw [if_neg fun z => z.2 hx]
theorem wakeH_low {own : Hp} {L : Addr} {ex : List Addr} {h : Heap} {b : Addr} (e : own b = none) (hx : b < L) : wakeH own L ex h b = none := by
  unfold wakeH; rw [e]; dsimp only; rw [if_neg fun z => absurd (Nat.lt_of_lt_of_le hx z.1) (Nat.lt_irrefl _)]
theorem wakeH_far {own : Hp} {L : Addr} {ex : List Addr} {h : Heap} {b : Addr} {o : Obj} (e : own b = none) (hl : L ≤ b) (hx : b ∉ ex) (ho : h.get? b = some o) : wakeH own L ex h b = some (asIs b o) := by
  unfold wakeH; rw [e]; dsimp only; rw [if_pos ⟨hl, hx⟩, ho]; rfl
theorem wakeH_ok {P : Program} {w : World} {own : Hp} {L : Addr} {ex : List Addr} {h : Heap} (hf : ∀ b o, own b = some o → Flat o ∧ ObjOk P w own h b o) : HOk P w (wakeH own L ex h) h := fun b o e => by
  cases q : own b with
  | some u =>
    rw [wakeH_own q] at e
    cases e
    exact flat_ok rfl (hf b _ q).1 (hf b _ q).2
  | none =>
    unfold wakeH at e
    rw [q] at e
    dsimp only at e
    split at e
    · obtain ⟨ob, e1, e2⟩ := Option.map_eq_some_iff.mp e
      rw [← e2]
      exact ⟨e1, ⟨ob, e1⟩, fun h1 h2 z k => k ob z⟩
    · cases e
section
variable {P : Program} {w : World} {K : PySem.W.Frag} {mg : Str → Option Value} {base : Heap} {N : List Str} {qual : Str} {scope : Scope} {f : Addr} {cd : Value} {A : Around} {outer : List Env}
/-- s0, H0: the frame's entry as it is told since the wake at s0w; F: what is frozen -/
structure WkI (outer : List Env) (L : Addr) (s0w : Shared) (pins0 : Pins) (s0 : Shared) (H0 F : Hp) : Prop where
  sz : s0.heap.objs.size = L
  low : ∀ b o, s0w.heap.get? b = some o → b < L → s0.heap.get? b = some o ∧ (H0 b = none ∨ ∃ u, H0 b = some (.frz o u))
  high : ∀ b o, s0w.heap.get? b = some o → L ≤ b → (∀ y ∈ pins0, y.1 ≠ b) → F b = some (asIs b o)
  os : s0.os = s0w.os
theorem WkI.mono {L : Addr} {s0w : Shared} {pins0 : Pins} {s0 : Shared} {H0 F F' : Hp} (k : WkI outer L s0w pins0 s0 H0 F) (e : Ex F F') : WkI outer L s0w pins0 s0 H0 F' :=
  ⟨k.sz, k.low, fun b o h1 h2 h3 => e b _ (k.high b o h1 h2 h3), k.os⟩
variable {L : Addr} {s0w s0 s : Shared} {pins0 pins : Pins} {H0 F H : Hp} {σ : L2.St}
theorem mv_of (k : WkI outer L s0w pins0 s0 H0 F) (I : Inv (GX P w K mg base N qual scope f cd A outer s0 H0) pins σ H s) (e : Ex F H) : Mv (frs outer) pins0 s0w s where
  os := I.os.trans k.os
  bare := I.bare
  keep := fun b o h hp hf => by
    by_cases hb : b < L
    · obtain ⟨h1, h2⟩ := k.low b o h hb
      rcases h2 with h2 | ⟨u, h2⟩
      · exact I.base.keep b o h1 h2 hf (fun z => nomatch z)
      · exact (I.hok b _ (I.base.frzs b o u h2)).1
    · have h1 := e b _ (k.high b o h (Nat.le_of_not_lt hb) hp)
      exact (I.hok b _ h1).1
  slot := fun b o h hf => by
    obtain ⟨_, ob, ho, _⟩ := I.ok.funs.mem hf
    have hb : b < L := k.sz ▸ Heap.lt_size ho
    obtain ⟨h1, _⟩ := k.low b o h hb
    exact I.base.slot b o h1 (I.ok.frf b hf) hf (fun z => nomatch z)
theorem new_of (k : WkI outer L s0w pins0 s0 H0 F) (I : Inv (GX P w K mg base N qual scope f cd A outer s0 H0) pins σ H s) (e : Ex F H) {b : Addr} {o : HO} (hb : H b = some o) (hp : Plain o) : New pins0 s0w b := by
  cases q : s0w.heap.get? b with
  | none => exact .inl q
  | some u =>
    refine .inr ?_
    by_cases hm : ∃ y ∈ pins0, y.1 = b
    · exact hm
    have hn : ∀ y ∈ pins0, y.1 ≠ b := fun y hy z => hm ⟨y, hy, z⟩
    by_cases hl : b < L
    · obtain ⟨h1, h2⟩ := k.low b u q hl
      rcases h2 with h2 | ⟨v, h2⟩
      · have := I.base.free b u h1 h2 (fun z => nomatch z)
        rw [this] at hb; cases hb
      · have := I.base.frzs b u v h2
        rw [this] at hb; cases hb; exact hp.elim
    · have := e b _ (k.high b u q (Nat.le_of_not_lt hl) hn)
      rw [this] at hb; cases hb; exact hp.elim
end
end GenF
set_option Elab.async false
set_option linter.all false
set_option maxRecDepth 100000
set_option maxHeartbeats 2000000
/-! What is gone from the heap stays gone. -/
namespace GenF
open PySem
open Sem (wp)
structure Dead (s s' : Shared) : Prop where
  sz : s.heap.objs.size ≤ s'.heap.objs.size
  dead : ∀ b, b < s.heap.objs.size → s.heap.get? b = none → s'.heap.get? b = none
theorem Dead.refl {s : Shared} : Dead s s := ⟨Nat.le_refl _, fun _ _ h => h⟩
theorem Dead.trans {a b c : Shared} (x : Dead a b) (y : Dead b c) : Dead a c := ⟨Nat.le_trans x.sz y.sz, fun d h n => y.dead d (Nat.lt_of_lt_of_le h x.sz) (x.dead d h n)⟩
theorem Dead.same {a b c : Shared} (x : Dead b c) (h : b.heap = a.heap) : Dead a c := ⟨h ▸ x.sz, fun d => h ▸ x.dead d⟩
theorem Dead.same' {a b c : Shared} (x : Dead a b) (h : c.heap = b.heap) : Dead a c := ⟨h ▸ x.sz, fun d => h ▸ x.dead d⟩
theorem Dead.update {s : Shared} {a : Addr} {f : Obj → Obj} (ha : (s.heap.get? a).isSome) : Dead s { s with heap := s.heap.update a f } := by
  refine ⟨?_, fun b hb n => ?_⟩
  · show _ ≤ (s.heap.objs.modify a f).size
    rw [Array.size_modify]
    exact Nat.le_refl _
  · have hne : a ≠ b := fun e => by rw [e, n] at ha; cases ha
    exact (Heap.get?_update_other _ _ hne).trans n
theorem Dead.push {s : Shared} {o : Obj} : Dead s { s with heap := s.heap.push o } := by
  refine ⟨?_, fun b hb n => ?_⟩
  · show _ ≤ (s.heap.push o).objs.size
    rw [Heap.size_push]; exact Nat.le_succ _
  · show (s.heap.push o).get? b = none
    unfold Heap.get? at n ⊢
    have e : (s.heap.push o).objs[b]? = s.heap.objs[b]? := by
      show (s.heap.objs.push o)[b]? = _
      rw [Array.getElem?_push, if_neg (Nat.ne_of_lt hb)]
    rw [e]; exact n
variable {M : Model}
theorem runs_dead {Γ : Ctx} {p : Pos} {t : Sem PySem.Fin} {fs : List Frame} {s s' : Shared} {e : End} (h : Runs M Γ p t fs s e s') : Dead s s' := by
  induction h with
  | done => exact .refl
  | raise => exact .refl
  | again _ _ ih => exact ih
  | rule _ ih => exact ih
  | «at» _ ih => exact ih
  | load _ _ ih => exact ih
  | update ho _ ih => exact (Dead.update ho).trans ih
  | loadIfAlive _ ih => exact ih
  | point _ ih => exact ih
  | alloc _ ih => exact Dead.push.trans ih
  | fresh _ ih => exact ⟨ih.sz, ih.dead⟩
  | ask _ ih => exact ih
  | choose _ _ ih => exact ⟨ih.sz, ih.dead⟩
  | os _ ih => exact ⟨ih.sz, ih.dead⟩
  | handled _ ih => exact ih
  | genState _ _ ih => exact ih
  | stack _ ih => exact ih
  | thread _ ih => exact ih
  | newGen _ ih => exact ⟨ih.sz, ih.dead⟩
  | call _ _ ih1 ih2 => exact ih1.trans ih2
  | callSusp _ ih => exact ih
  | yield => exact .refl
  | resumeFresh _ _ _ _ ih1 ih2 => exact ⟨Nat.le_trans ih1.sz ih2.sz, fun b hb n => ih2.dead b (Nat.lt_of_lt_of_le hb ih1.sz) (ih1.dead b hb n)⟩
  | resumeSuspended _ _ _ _ ih1 ih2 => exact ⟨Nat.le_trans ih1.sz ih2.sz, fun b hb n => ih2.dead b (Nat.lt_of_lt_of_le hb ih1.sz) (ih1.dead b hb n)⟩
  | resumeJustStarted _ _ _ ih => exact ih
  | resumeThrowFresh _ _ ih => exact Dead.same ih rfl
  | resumeRunning _ _ ih => exact ih
  | resumeFinished _ _ ih => exact ih
  | segRet _ _ ih1 ih2 => exact ih1.trans ih2
  | segGen _ _ ih1 ih2 => exact ih1.trans (Dead.same ih2 rfl)
  | segSuspOut _ _ ih => exact ih
  | segSuspGen _ _ _ _ ih1 ih2 => exact ih1.trans (Dead.same ih2 rfl)
theorem wakes_dead {Γ : Ctx} {p : Pos} {g : Nat} {r : Resume} {s s' : Shared} {res : GenResult} (h : Wakes M Γ p g r s res s') : Dead s s' := by
  unfold Wakes at h
  split at h
  · exact h.elim
  · split at h
    · obtain ⟨_, _, hr, _, _, rfl⟩ := h
      exact Dead.same' (Dead.same (runs_dead hr) rfl) rfl
    · rw [h.2]; exact .refl
    · rw [h.2]; exact Dead.same .refl rfl
  · obtain ⟨_, _, hr, _, _, rfl⟩ := h
    exact Dead.same' (Dead.same (runs_dead hr) rfl) rfl
  · rw [h.2]; exact .refl
  · rw [h.2]; exact .refl
theorem wp_dead {α : Type} {Γ : Ctx} (t : Sem α) : ∀ (s0 s : Shared) (Q : α → Pos → Shared → Prop) (E : Value → Pos → Shared → Prop) (p : Pos), Dead s0 s → wp M Γ t Q E p s →
    wp M Γ t (fun a p' s' => Dead s0 s' ∧ Q a p' s') (fun e p' s' => Dead s0 s' ∧ E e p' s') p s := by
  induction t with
  | pure a => intro s0 s Q E p r h; exact ⟨r, h⟩
  | raise e => intro s0 s Q E p r h; exact ⟨r, h⟩
  | unsupported _ => intro s0 s Q E p _ h; exact h
  | finish _ => intro s0 s Q E p _ h; exact h
  | rule _ k ih => intro s0 s Q E p r h; exact ih () s0 s Q E p r h
  | «at» p' k ih => intro s0 s Q E p r h; exact ih () s0 s Q E p' r h
  | load a _ k ih => intro s0 s Q E p r h; obtain ⟨o, ho, h⟩ := h; exact ⟨o, ho, ih o s0 s Q E p r h⟩
  | update a _ f k ih => intro s0 s Q E p r h; exact ⟨h.1, ih () s0 _ Q E p (r.trans (Dead.update h.1)) h.2⟩
  | loadIfAlive a k ih => intro s0 s Q E p r h; exact ih _ s0 s Q E p r h
  | point _ k ih => intro s0 s Q E p r h; exact ih () s0 s Q E p r h
  | register _ _ => intro s0 s Q E p _ h; exact h
  | alloc o k ih => intro s0 s Q E p r h; exact ih _ s0 _ Q E p (r.trans Dead.push) h
  | fresh k ih => intro s0 s Q E p r h; exact ih _ s0 _ Q E p (Dead.same' r rfl) h
  | ask k ih => intro s0 s Q E p r h; exact ih _ s0 s Q E p r h
  | choose src m k ih => intro s0 s Q E p r h; exact ⟨h.1, ih _ s0 _ Q E p (Dead.same' r rfl) h.2⟩
  | os q _ k ih => intro s0 s Q E p r h; exact ih _ s0 _ Q E p (Dead.same' r rfl) h
  | call c hd _ _ k ih => intro s0 s Q E p r h; obtain ⟨x, s', hr, h⟩ := h; exact ⟨x, s', hr, ih x s0 s' Q E p (r.trans (runs_dead hr)) h⟩
  | handled own k ih => intro s0 s Q E p r h; exact ih _ s0 s Q E p r h
  | genState g k ih => intro s0 s Q E p r h; obtain ⟨st, hs, h⟩ := h; exact ⟨st, hs, ih _ s0 s Q E p r h⟩
  | newGen c k ih => intro s0 s Q E p r h; exact ih _ s0 _ Q E p (Dead.same' r rfl) h
  | resume g x _ k ih => intro s0 s Q E p r h; obtain ⟨res, s', hw, h⟩ := h; exact ⟨res, s', hw, ih res s0 s' Q E p (r.trans (wakes_dead hw)) h⟩
  | yield _ _ _ _ => intro s0 s Q E p _ h; exact h
  | stack k ih => intro s0 s Q E p r h; exact ih _ s0 s Q E p r h
  | fork _ _ => intro s0 s Q E p _ h; exact h
  | thread k ih => intro s0 s Q E p r h; exact ih _ s0 s Q E p r h
  | await _ _ _ _ _ => intro s0 s Q E p _ h; exact h
theorem dead_any {α : Type} {A : Around} {t : Sem α} {s : Shared} {Q : α → Shared → Prop} {E : Value → Shared → Prop} (h : wpAny M A t Q E s) :
    wpAny M A t (fun a s' => Dead s s' ∧ Q a s') (fun e s' => Dead s s' ∧ E e s') s := fun Γ p hΓ => wp_dead t s s _ _ p .refl (h Γ p hΓ)
end GenF
set_option Elab.async false
set_option linter.all false
set_option maxRecDepth 100000
set_option maxHeartbeats 2000000
/-! To sleep and to wake. -/
namespace GenF
open PySem PySem.Spec PyProof.Rows L2 GenW T3
open Sem (wp)
open Evl (Ex)
mutual
def datD : D → Bool
  | .ref _ => false
  | .ins _ _ _ => false
  | .tup xs => datDs xs
  | .lst xs => datDs xs
  | .non => true
  | .bl _ => true
  | .int _ => true
  | .str _ => true
  | .ty _ => true
def datDs : List D → Bool
  | [] => true
  | d :: ds => datD d && datDs ds
end
def FootOk (F : Hp) (ol : List Addr) : Prop := ∀ b ∈ ol, ∃ o, F b = some o ∧ Plain o
theorem footNil {F : Hp} : FootOk F [] := fun _ h => nomatch h
mutual
theorem footD {F : Hp} : ∀ {d : D} {v : V}, datD d = true → RD F d v → ∃ ol, FootOk F ol ∧ ∀ F' : Hp, (∀ b ∈ ol, F' b = F b) → RD F' d v
  | .ref _, _, h, _ => by rw [datD] at h; cases h
  | .ins _ _ _, _, h, _ => by rw [datD] at h; cases h
  | .non, _, _, r => ⟨[], footNil, fun _ _ => r⟩
  | .bl _, _, _, r => ⟨[], footNil, fun _ _ => r⟩
  | .int _, _, _, r => ⟨[], footNil, fun _ _ => r⟩
  | .str _, _, _, r => ⟨[], footNil, fun _ _ => r⟩
  | .ty _, _, _, r => ⟨[], footNil, fun _ _ => r⟩
  | .tup xs, _, h, ⟨a, vs, e, ha, r⟩ => by
    rw [datD] at h
    obtain ⟨ol, h1, h2⟩ := footDs h r
    refine ⟨a :: ol, fun b hb => ?_, fun F' k => ⟨a, vs, e, (k a List.mem_cons_self).trans ha, h2 F' fun b hb => k b (List.mem_cons_of_mem _ hb)⟩⟩
    rcases List.mem_cons.mp hb with e | hb
    · exact ⟨.tup vs, by rw [e]; exact ha, True.intro⟩
    · exact h1 b hb
  | .lst xs, _, h, ⟨a, vs, e, ha, r⟩ => by
    rw [datD] at h
    obtain ⟨ol, h1, h2⟩ := footDs h r
    refine ⟨a :: ol, fun b hb => ?_, fun F' k => ⟨a, vs, e, (k a List.mem_cons_self).trans ha, h2 F' fun b hb => k b (List.mem_cons_of_mem _ hb)⟩⟩
    rcases List.mem_cons.mp hb with e | hb
    · exact ⟨.lst vs, by rw [e]; exact ha, True.intro⟩
    · exact h1 b hb
theorem footDs {F : Hp} : ∀ {ds : List D} {vs : List V}, datDs ds = true → RDs F ds vs → ∃ ol, FootOk F ol ∧ ∀ F' : Hp, (∀ b ∈ ol, F' b = F b) → RDs F' ds vs
  | [], _, _, r => ⟨[], footNil, fun _ _ => r⟩
  | d :: ds, _, h, ⟨v, rr, e, hd, r⟩ => by
    rw [datDs, Bool.and_eq_true] at h
    obtain ⟨o1, h1, k1⟩ := footD h.1 hd
    obtain ⟨o2, h2, k2⟩ := footDs h.2 r
    exact ⟨o1 ++ o2, fun b hb => (List.mem_append.mp hb).elim (h1 b) (h2 b), fun F' k => ⟨v, rr, e, k1 F' fun b hb => k b (List.mem_append_left _ hb), k2 F' fun b hb => k b (List.mem_append_right _ hb)⟩⟩
end
def DatS (σ : Sig) : Prop := ∀ (i : Nat) d, σ[i]? = some (some d) → datD d = true
theorem footS {F : Hp} {σ : Sig} {σv : L2.St} (hd : DatS σ) (h : T3.SRel F σ σv) : ∃ ol, FootOk F ol ∧ ∀ F' : Hp, (∀ b ∈ ol, F' b = F b) → T3.SRel F' σ σv := by
  have key : ∀ n, ∃ ol, FootOk F ol ∧ ∀ F' : Hp, (∀ b ∈ ol, F' b = F b) → ∀ (i : Nat) (d : D), i < n → σ[i]? = some (some d) → ∃ v, σv[i]? = some (some v) ∧ RD F' d v := fun n => by
    induction n with
    | zero => exact ⟨[], footNil, fun _ _ i _ hi => absurd hi (Nat.not_lt_zero i)⟩
    | succ n ih =>
      obtain ⟨ol, h1, h2⟩ := ih
      by_cases hn : ∃ d, σ[n]? = some (some d)
      · obtain ⟨d, hn⟩ := hn
        obtain ⟨v, hv, r⟩ := h.2 n d hn
        obtain ⟨o2, k1, k2⟩ := footD (hd n d hn) r
        refine ⟨ol ++ o2, fun b hb => (List.mem_append.mp hb).elim (h1 b) (k1 b), fun F' k i d' hi e => ?_⟩
        by_cases hin : i = n
        · subst hin
          rw [hn] at e; cases e
          exact ⟨v, hv, k2 F' fun b hb => k b (List.mem_append_right _ hb)⟩
        · exact h2 F' (fun b hb => k b (List.mem_append_left _ hb)) i d' (by omega) e
      · refine ⟨ol, h1, fun F' k i d' hi e => ?_⟩
        by_cases hin : i = n
        · subst hin
          exact absurd ⟨d', e⟩ hn
        · exact h2 F' k i d' (by omega) e
  obtain ⟨ol, h1, h2⟩ := key σ.length
  refine ⟨ol, h1, fun F' k => ⟨h.1, fun i d e => h2 F' k i d (List.getElem?_eq_some_iff.mp e).1 e⟩⟩
theorem vals_of_refs : ∀ {qs : List Addr} {us : List Value}, Vals (qs.map V.ref) us → us = qs.map Value.ref
  | [], _, .nil => rfl
  | q :: qs, _, .cons r t => by
    have r : _ = Value.ref q := r
    rw [r, vals_of_refs t]; rfl
section
variable {P : Program} {w : World} {K : PySem.W.Frag} {mg : Str → Option Value} {base : Heap} {N : List Str} {qual : Str} {scope : Scope} {f : Addr} {cd : Value} {A : Around} {outer : List Env}
variable {L a : Addr} {g : Nat} {s0w s0 s : Shared} {pins0 P' : Pins} {H0 F H : Hp} {σv : L2.St} {σ3 : Sig}
theorem new_free (k : WkI outer L s0w pins0 s0 H0 F) (hE : Ex F H) {b : Addr} (hb : H b = none) (hl : L ≤ b) : New pins0 s0w b := by
  cases q : s0w.heap.get? b with
  | none => exact .inl q
  | some u =>
    refine .inr ?_
    by_cases hm : ∃ y ∈ pins0, y.1 = b
    · exact hm
    · have := hE b _ (k.high b u q hl fun y hy z => hm ⟨y, hy, z⟩)
      rw [hb] at this; cases this
theorem SRel.retype {F' : Hp} (h : T3.SRel F σ3 σv) : True := True.intro
/-- THE SLEEP: at a yield; and what is known at the wake -/
theorem sleep {gi : List Nat} {p : Addr} {qs : List Addr} {row : GRow} (k : WkI outer L s0w pins0 s0 H0 F) (I : Inv (GX P w K mg base N qual scope f cd A outer s0 H0) P' σv H s) (hS : T3.SRel F σ3 σv) (hd : DatS σ3) (hE : Ex F H) (dd : Dead s0w s)
    (h0 : ∀ y ∈ pins0, L ≤ y.1) (hL0 : ∃ y ∈ pins0, y.1 = L) (hLw : L < s0w.heap.objs.size) (hpw : ∀ q ∈ P', L ≤ q.1) (ha : ∃ o, (a, o) ∈ P') (hcl : ∀ n, cellsFrom n scope.names [] = [])
    (hp : H p = some (.lst (qs.map V.ref))) (hq : Paired (fun q (x : Str × Str) => H q = some (.tup [.str x.1, .str x.2])) qs row) (hFp : F p = none) (hFq : ∀ q ∈ qs, F q = none) (nd : qs.Nodup) (pq : p ∉ qs) :
    ∃ pins', RowAt pins0 s0w s p qs row ∧ Mv (frs outer) pins0 s0w s ∧ PinOk L (frs outer) s0w s pins0 pins' (p :: qs) ∧ (∃ o, (a, o) ∈ pins') ∧ (∀ y ∈ pins', L ≤ y.1) ∧ (∃ y ∈ pins', y.1 = L) ∧
      ∀ s3, Sl base outer pins' gi s s3 → L < s3.heap.objs.size ∧ ∃ s0' H0' F', WkI outer L s3 pins' s0' H0' F' ∧ Inv (GX P w K mg base N qual scope f cd A outer s0' H0') P' σv F' (s3.setGen g .running) ∧ T3.SRel F' σ3 σv := by
  obtain ⟨ol, hol, hfoot⟩ := footS hd hS
  have hPI : ∀ q ∈ P', s.heap.get? q.1 = some q.2 ∧ H q.1 = none ∧ q.1 ≠ L ∧ q.1 ∉ frs outer ∧ ∀ v, q.2.data ≠ .cell v := fun q hq => by
    obtain ⟨h1, h2, h3, h4, h5⟩ := I.pin q (List.mem_append_right _ hq)
    exact ⟨h1, h2, by rw [← k.sz]; exact h3, h4, h5⟩
  have hLH : H L = none := by rw [← k.sz]; exact I.free
  obtain ⟨oL, hoL, hdL⟩ : ∃ o, s.heap.get? L = some o ∧ ∀ v, o.data ≠ .cell v := by
    obtain ⟨_, ⟨o, es, ep, e, e2, _⟩, _⟩ := I.loc
    refine ⟨o, by rw [← k.sz]; exact e, fun v q => by rw [e2] at q; cases q⟩
  have hlow : ∀ b ∈ frs outer, b < L := fun b hb => by
    obtain ⟨_, o, ho, _⟩ := I.ok.funs.mem hb
    exact k.sz ▸ Heap.lt_size ho
  -- the footprint is young
  have holH : ∀ b ∈ ol, ∃ o, H b = some o ∧ Plain o := fun b hb => let ⟨o, h1, h2⟩ := hol b hb; ⟨o, hE b o h1, h2⟩
  have holN : ∀ b ∈ ol, New pins0 s0w b := fun b hb => let ⟨o, h1, h2⟩ := holH b hb; new_of k I hE h1 h2
  have holL : ∀ b ∈ ol, L ≤ b := fun b hb => by
    rcases holN b hb with n | ⟨y, hy, e⟩
    · obtain ⟨o, h1, _⟩ := holH b hb
      obtain ⟨u, hu⟩ := objAt (I.hok b o h1)
      by_cases hlt : b < s0w.heap.objs.size
      · rw [dd.dead b hlt n] at hu; cases hu
      · exact Nat.le_trans (Nat.le_of_lt hLw) (Nat.le_of_not_lt hlt)
    · exact e ▸ h0 y hy
  have hnp : ∀ q ∈ P', q.1 ∉ ol := fun q hq hm => by
    obtain ⟨o, h1, _⟩ := holH _ hm
    rw [(hPI q hq).2.1] at h1; cases h1
  have hLo : L ∉ ol := fun hm => by
    obtain ⟨o, h1, _⟩ := holH _ hm
    rw [hLH] at h1; cases h1
  let pins' : Pins := pinsAt (L :: ol) s.heap ++ P'
  have split : ∀ x ∈ pins', (x.1 ∈ L :: ol ∧ s.heap.get? x.1 = some x.2) ∨ x ∈ P' := fun x hx => (List.mem_append.mp hx).elim (fun h => .inl (of_pinsAt h)) .inr
  have hps : ∀ b ∈ p :: qs, H b ≠ none ∧ F b = none := fun b hb => by
    rcases List.mem_cons.mp hb with e | hb
    · rw [e]; exact ⟨(by rw [hp]; exact fun z => nomatch z), hFp⟩
    · refine ⟨?_, hFq b hb⟩
      obtain ⟨i, hi, e⟩ := List.mem_iff_getElem.mp hb
      have hz : ∃ x, (b, x) ∈ qs.zip row := by
        have hlen := hq.length
        refine ⟨row[i]'(by omega), ?_⟩
        rw [List.mem_iff_getElem]
        exact ⟨i, by rw [List.length_zip]; omega, by rw [List.getElem_zip, e]⟩
      obtain ⟨x, hx⟩ := hz
      have := paired_mem hq hx
      rw [this]
      exact fun z => nomatch z
  have hexists : ∀ b ∈ L :: ol, ∃ o, s.heap.get? b = some o ∧ ∀ v, o.data ≠ .cell v := fun b hb => by
    rcases List.mem_cons.mp hb with e | hb
    · rw [e]; exact ⟨oL, hoL, hdL⟩
    · obtain ⟨o, h1, h2⟩ := holH b hb
      obtain ⟨u, hu⟩ := objAt (I.hok b o h1)
      exact ⟨u, hu, flat_nc hu h2 (I.hok b o h1)⟩
  have mL : ∀ b ∈ L :: ol, ∃ o, (b, o) ∈ pins' := fun b hb => by
    obtain ⟨o, h1, _⟩ := hexists b hb
    exact ⟨o, List.mem_append_left _ (mem_pinsAt hb h1)⟩
  have hge : ∀ x ∈ pins', L ≤ x.1 := fun x hx => by
    rcases split x hx with ⟨h1, _⟩ | h1
    · rcases List.mem_cons.mp h1 with e | h1
      · rw [e]; exact Nat.le_refl _
      · exact holL _ h1
    · exact hpw x h1
  refine ⟨pins', ?_, mv_of k I hE, ⟨fun x hx => ?_, fun x hx => ?_, hge, fun x hx => ?_, fun x hx hm => ?_, fun x hx hm => ?_⟩, ?_, hge, ?_, fun s3 sl => ?_⟩
  · -- the row
    obtain ⟨z, its, n, r, e⟩ := I.hok p _ hp
    rw [vals_of_refs r] at e
    refine ⟨⟨n, e⟩, ?_, new_of k I hE hp True.intro, fun q hm => ?_, nd, pq, by rw [← hq.length]; rw [List.length_map] at z; exact z⟩
    · refine Paired.mapP hq fun q x e => ?_
      obtain ⟨_, its, r, ht⟩ := I.hok q _ e
      cases r with
      | cons r1 t1 =>
        cases t1 with
        | cons r2 t2 =>
          cases t2
          obtain ⟨t, rfl⟩ := r1
          obtain ⟨u, rfl⟩ := r2
          exact ⟨t, u, ht⟩
    · obtain ⟨hn, _⟩ := hps q (List.mem_cons_of_mem _ hm)
      obtain ⟨i, hi, e⟩ := List.mem_iff_getElem.mp hm
      have hlen := hq.length
      have hz : (q, row[i]'(by omega)) ∈ qs.zip row := List.mem_iff_getElem.mpr ⟨i, by rw [List.length_zip]; omega, by rw [List.getElem_zip, e]⟩
      exact new_of k I hE (paired_mem hq hz) True.intro
  · rcases split x hx with ⟨_, h⟩ | h
    · exact h
    · exact (hPI x h).1
  · rcases split x hx with ⟨h1, h⟩ | h
    · obtain ⟨o, h2, h3⟩ := hexists _ h1
      rw [h] at h2; cases h2; exact h3
    · exact (hPI x h).2.2.2.2
  · rcases split x hx with ⟨h1, _⟩ | h
    · rcases List.mem_cons.mp h1 with e | h1
      · rw [e]; exact .inr hL0
      · exact holN _ h1
    · exact new_free k hE (hPI x h).2.1 (hpw x h)
  · obtain ⟨h1, h2⟩ := hps _ hm
    rcases split x hx with ⟨h3, _⟩ | h3
    · rcases List.mem_cons.mp h3 with e | h3
      · rw [e] at h1; exact h1 hLH
      · obtain ⟨o, h4, _⟩ := hol _ h3
        rw [h2] at h4; cases h4
    · exact h1 (hPI x h3).2.1
  · exact absurd (Nat.lt_of_lt_of_le (hlow _ hm) (hge x hx)) (Nat.lt_irrefl _)
  · obtain ⟨o, h⟩ := ha
    exact ⟨o, List.mem_append_right _ h⟩
  · obtain ⟨o, h⟩ := mL L List.mem_cons_self
    exact ⟨_, h, rfl⟩
  · -- the wake
    let own : Hp := fun b => if b ∈ ol then F b else none
    have own_in : ∀ b ∈ ol, own b = F b := fun b hb => if_pos hb
    have own_out : ∀ b, b ∉ ol → own b = none := fun b hb => if_neg hb
    let Hs : Hp := wakeH own L (pins'.map (·.1)) s3.heap
    have same : ∀ b ∈ L :: ol, s3.heap.get? b = s.heap.get? b := fun b hb => by
      obtain ⟨o, h1, _⟩ := hexists b hb
      rw [h1]
      exact sl.pin (b, o) (List.mem_append_left _ (mem_pinsAt hb h1))
    have hok : HOk P w Hs s3.heap := wakeH_ok fun b o e => by
      by_cases hb : b ∈ ol
      · rw [own_in b hb] at e
        obtain ⟨u, h1, h2⟩ := hol b hb
        rw [h1] at e; cases e
        exact ⟨Plain.flat h2, plain_ok (same b (List.mem_cons_of_mem _ hb)) h2 (I.hok b _ (hE b _ h1))⟩
      · rw [own_out b hb] at e; cases e
    have exP : ∀ x ∈ pins', x.1 ∈ pins'.map (·.1) := fun x hx => List.mem_map.mpr ⟨x, hx, rfl⟩
    have ownP : ∀ q ∈ P', Hs q.1 = none := fun q hq => wakeH_ex (own_out _ (hnp q hq)) (exP q (List.mem_append_right _ hq))
    have ownL : Hs L = none := by
      obtain ⟨o, h⟩ := mL L List.mem_cons_self
      exact wakeH_ex (own_out _ hLo) (exP _ h)
    have lowN : ∀ b, b < L → Hs b = none := fun b hb => wakeH_low (own_out _ fun hm => absurd (Nat.lt_of_lt_of_le hb (holL b hm)) (Nat.lt_irrefl _)) hb
    obtain ⟨s0', H0', e1, e2, e3, J⟩ := rebase (s3 := s3.setGen g .running) (P' := P') (Hs := Hs) I (sl.os) (allBare_setGen sl.bare rfl) (fun b o e => ⟨sl.bs b o e, lowN b (k.sz ▸ Heap.lt_size (I.ok.bs b o e).1)⟩) sl.funs hok
      (by rw [k.sz]; exact same L List.mem_cons_self) (by rw [k.sz]; exact ownL) (fun b hb => lowN b (hlow b hb)) (hcl _) (fun q hq => ⟨sl.pin q (List.mem_append_right _ hq), ownP q hq, by rw [k.sz]; exact (hPI q hq).2.2.1, (hPI q hq).2.2.2.1, (hPI q hq).2.2.2.2⟩)
    rw [k.sz] at e1 e2 e3
    refine ⟨Heap.lt_size ((same L List.mem_cons_self).trans hoL), s0', H0', Hs, ⟨e1, fun b o h hb => ⟨(e2 b).trans (by rw [if_pos hb]; exact h), .inl ((e3 b).trans (by rw [if_pos hb]; exact lowN b hb))⟩, fun b o h hb hn => ?_, J.os.symm⟩, J, hfoot Hs fun b hb => ?_⟩
    · refine wakeH_far (own_out b fun hm => ?_) hb (fun hm => ?_) h
      · obtain ⟨o', h'⟩ := mL b (List.mem_cons_of_mem _ hm)
        exact hn _ h' rfl
      · obtain ⟨x, hx, e⟩ := List.mem_map.mp hm
        exact hn x hx e
    · obtain ⟨o, h1, _⟩ := hol b hb
      exact (wakeH_own ((own_in b hb).trans h1)).trans h1.symm
end
end GenF
set_option Elab.async false
set_option linter.all false
set_option maxRecDepth 100000
set_option maxHeartbeats 2000000
/-! The pure layer over a generator's frame; lists and tuples that are known (raw). -/
namespace GenF
open PySem PySem.Spec PyProof.Rows L2 GenW T3
open Sem (wp)
open Evl (Ex)
theorem pt_still {X : Cx} {e : Expr} {t : TT} (h : PT X.nox e t) {pins : Pins} {σ : L2.St} {H : Hp} {s : Shared} {Q : Bool → Hp → Prop} {E : Value → Shared → Prop} (I : Inv X pins σ H s) (ht : t σ H Q) :
    wpAny (model X.prog X.w) X.A (isTrue e X.env (eval e X.env)) (fun u s' => TP X pins σ Q u s' ∧ Still s.gens s'.gens) E s := by
  have I' : Inv X.nox pins σ H { s with gens := s.gens.map dull } := (Inv.regens (s' := { s with gens := s.gens.map dull }) I rfl rfl (bare_dull I.bare)).wish _
  refine wpAny_mono (frame_any (h.run pins _ σ H Q I' ht)) (fun u s' ⟨s1, z, q⟩ => ?_) fun e s' ⟨_, _, q⟩ => q.elim
  obtain ⟨H', J, q⟩ := q
  exact ⟨⟨H', (Inv.regens J z.rel.heap.symm z.rel.os.symm (bare_of_end I.bare J.bare z)).unwish, q⟩, z.same⟩
theorem ps_still {X : Cx} {st : Stmt} {t : TS} (h : PS X.nox st t) {pins : Pins} {σ : L2.St} {H : Hp} {s : Shared} {D : Ends} {E : Value → Shared → Prop} (I : Inv X pins σ H s) (ht : t D σ H) :
    wpAny (model X.prog X.w) X.A (exec st X.env) (fun f s' => SP X pins D f s' ∧ Still s.gens s'.gens) E s := by
  have I' : Inv X.nox pins σ H { s with gens := s.gens.map dull } := (Inv.regens (s' := { s with gens := s.gens.map dull }) I rfl rfl (bare_dull I.bare)).wish _
  refine wpAny_mono (frame_any (h.run pins _ σ H D I' ht)) (fun f s' ⟨s1, z, q⟩ => ⟨(SP.regens I.bare z q).unwish, z.same⟩) fun e s' ⟨_, _, q⟩ => q.elim
section
variable {X : Cx} {pins : Pins} {σv : L2.St} {H F B : Hp} {M : Mem} {s : Shared} {σ3 : Sig} {E : Value → Shared → Prop}
/-- what is known behind a piece of code -/
def Seen (X : Cx) (pins : Pins) (F : Hp) (s : Shared) (q : Sig → Mem → Prop) (s' : Shared) : Prop :=
  (∃ σv' F' H' σ3' M', Inv X pins σv' H' s' ∧ T3.SRel F' σ3' σv' ∧ St3 F' M' H' ∧ Ex F F' ∧ q σ3' M') ∧ Still s.gens s'.gens ∧ Dead s s' ∧ s.gens.size ≤ s'.gens.size
theorem run_s {st : List Stmt} {t : TS} {q : Sig → Mem → Prop} (h : PSs X.nox st t) (hw : W3s B t { nx := q, rt := fun _ _ => False } σ3 M) (hB : Ex B F) (I : Inv X pins σv H s) (hS : T3.SRel F σ3 σv) (hM : St3 F M H) :
    wpAny (model X.prog X.w) X.A (execs st X.env) (fun f s' => f = .next ∧ Seen X pins F s q s') E s := by
  have ht := hw F σv H { nx := fun σ' H' => ∃ F' σ3' M', T3.SRel F' σ3' σ' ∧ St3 F' M' H' ∧ Ex F F' ∧ q σ3' M', rt := fun _ _ => False } hB hS hM
    ⟨fun F' M' σ' σv' H' e r m z => ⟨F', σ', M', r, m, e, z⟩, fun _ _ _ _ _ _ _ _ z => z, fun _ _ _ _ _ _ _ _ z => z, fun _ _ _ _ _ _ _ _ z => z⟩
  refine wpAny_mono (gsz_any (dead_any (pss_still (E := fun _ _ => False) h I ht))) (fun f s' ⟨gz, dd, sp, st⟩ => ?_) fun _ _ z => z.2.elim
  cases f with
  | next => obtain ⟨σ', H', J, F', σ3', M', r, m, e, z⟩ := sp; exact ⟨rfl, ⟨σ', F', H', σ3', M', J, r, m, e, z⟩, st, dd, gz⟩
  | brk => obtain ⟨_, _, _, z⟩ := sp; exact z.elim
  | cont => obtain ⟨_, _, _, z⟩ := sp; exact z.elim
  | ret u => obtain ⟨_, _, _, _, _, z⟩ := sp; exact z.elim
theorem run_s1 {st : Stmt} {t : TS} {q : Sig → Mem → Prop} (h : PS X.nox st t) (hw : W3s B t { nx := q, rt := fun _ _ => False } σ3 M) (hB : Ex B F) (I : Inv X pins σv H s) (hS : T3.SRel F σ3 σv) (hM : St3 F M H) :
    wpAny (model X.prog X.w) X.A (exec st X.env) (fun f s' => f = .next ∧ Seen X pins F s q s') E s := by
  have ht := hw F σv H { nx := fun σ' H' => ∃ F' σ3' M', T3.SRel F' σ3' σ' ∧ St3 F' M' H' ∧ Ex F F' ∧ q σ3' M', rt := fun _ _ => False } hB hS hM
    ⟨fun F' M' σ' σv' H' e r m z => ⟨F', σ', M', r, m, e, z⟩, fun _ _ _ _ _ _ _ _ z => z, fun _ _ _ _ _ _ _ _ z => z, fun _ _ _ _ _ _ _ _ z => z⟩
  have I' : Inv X.nox pins σv H { s with gens := s.gens.map dull } := (Inv.regens (s' := { s with gens := s.gens.map dull }) I rfl rfl (bare_dull I.bare)).wish _
  refine wpAny_mono (gsz_any (dead_any (frame_any (h.run pins _ σv H _ I' ht)))) (fun f s' ⟨gz, dd, s1, z, q⟩ => ?_) fun e s' ⟨_, _, _, q⟩ => q.elim
  have sp := (SP.regens I.bare z q).unwish
  have st : Still s.gens s'.gens := z.same
  cases f with
  | next => obtain ⟨σ', H', J, F', σ3', M', r, m, e, z⟩ := sp; exact ⟨rfl, ⟨σ', F', H', σ3', M', J, r, m, e, z⟩, st, dd, gz⟩
  | brk => obtain ⟨_, _, _, z⟩ := sp; exact z.elim
  | cont => obtain ⟨_, _, _, z⟩ := sp; exact z.elim
  | ret u => obtain ⟨_, _, _, _, _, z⟩ := sp; exact z.elim
theorem run_t {c : Expr} {t : TT} {q : Bool → Mem → Prop} (h : PT X.nox c t) (hw : W3t B t σ3 M q) (hB : Ex B F) (I : Inv X pins σv H s) (hS : T3.SRel F σ3 σv) (hM : St3 F M H) :
    wpAny (model X.prog X.w) X.A (isTrue c X.env (eval c X.env)) (fun b s' => (∃ F' H' M', Inv X pins σv H' s' ∧ T3.SRel F' σ3 σv ∧ St3 F' M' H' ∧ Ex F F' ∧ q b M') ∧ Still s.gens s'.gens ∧ Dead s s' ∧ s.gens.size ≤ s'.gens.size) E s := by
  have ht := hw F σv H (fun b H' => ∃ F' M', St3 F' M' H' ∧ Ex F F' ∧ q b M') hB hS hM fun F' M' b H' e m z => ⟨F', M', m, e, z⟩
  refine wpAny_mono (gsz_any (dead_any (pt_still (E := fun _ _ => False) h I ht))) (fun b s' ⟨gz, dd, tp, st⟩ => ?_) fun _ _ z => z.2.elim
  obtain ⟨H', J, F', M', m, e, z⟩ := tp
  exact ⟨⟨F', H', M', J, hS.mono e, m, e, z⟩, st, dd, gz⟩
theorem run_g {tg : Expr} {g : TG} {x : D} {v : V} {u : Value} {q : Sig → Mem → Prop} (h : PG X.nox tg g) (hw : G3 B g x σ3 M q) (hB : Ex B F) (I : Inv X pins σv H s) (hS : T3.SRel F σ3 σv) (hM : St3 F M H) (rv : RelV v u) (rd : RD F x v) :
    wpAny (model X.prog X.w) X.A (assign tg X.env u) (fun _ s' => Seen X pins F s q s') E s := by
  have ht := hw F σv H v (fun σ' H' => ∃ F' σ3' M', T3.SRel F' σ3' σ' ∧ St3 F' M' H' ∧ Ex F F' ∧ q σ3' M') hB hS hM rd fun F' M' σ' σv' H' e r m z => ⟨F', σ', M', r, m, e, z⟩
  refine wpAny_mono (gsz_any (dead_any (pg_still (E := fun _ _ => False) h I rv ht))) (fun _ s' ⟨gz, dd, ⟨σ', H', J, F', σ3', M', r, m, e, z⟩, st⟩ => ⟨⟨σ', F', H', σ3', M', J, r, m, e, z⟩, st, dd, gz⟩) fun _ _ z => z.2.elim
end
section
variable {B : Hp} {M : Mem} {K : PySem.W.Frag} {σ : Sig} {te : TE} {Q : DQ}
theorem i_listR {Qi : List D → (Mem → Prop) → Mem → Prop} (h : W3e B te σ M (fun x M1 => ∃ a o vs ds, x = .ref a ∧ M1 a = some (.raw (.frz o (.lst vs))) ∧ (∀ F, RDs F ds vs) ∧ Qi ds (fun M => M a = some (.raw (.frz o (.lst vs)))) M1)) : W3i B (iList K te) σ M Qi := fun F σv H R b hs st k =>
  h F σv H _ b hs st fun F1 M1 x xv H1 e1 st1 rx ⟨a, o, vs, ds, ex, hm, rs, q⟩ => by
    subst ex
    have at_ : ∀ {F' M' H'}, St3 F' M' H' → M' a = some (.raw (.frz o (.lst vs))) → H' a = some (.frz o (.lst vs)) := fun {F' M' H'} s p => by
      obtain ⟨_, ho, h1, e2, _⟩ := s.own a _ p
      rw [h1, e2]
    refine ⟨a, rx, ⟨vs, .inl (.inr ⟨o, at_ st1 hm⟩)⟩, k F1 M1 (Itl K a) ds _ H1 e1 st1 ⟨fun H => SqL K H a vs, YAt vs, WD.len (F := F1) (vs := vs) walk_list (rs F1).length.symm, ?_, ?_, ?_⟩ q⟩
    · intro F' M' H' _ s p
      exact .inl (.inr ⟨o, at_ s p⟩)
    · intro i d x H' H'' F' M' hd _ s _ y
      obtain ⟨y1, y2⟩ := y
      subst y1
      obtain ⟨v, hv, rv⟩ := (rs F').at hd
      rw [y2] at hv; cases hv
      exact ⟨F', Ex.refl _, s, rv⟩
    · intro M' p o' hn pm
      exact (mput_ne (mne pm hn)).trans pm
theorem g_tupR {q : Addr} {o : Obj} {vs : List V} {ds : List D} {n : Nat} {t : TGs} {Qg : Sig → Mem → Prop} (hm : M q = some (.raw (.frz o (.tup vs)))) (rs : ∀ F, RDs F ds vs) (hl : vs.length = n) (h : G3s B t ds σ M Qg) : G3 B (gTup K n t) (.ref q) σ M Qg := fun F σv H xv Qv b hs st rx k => by
  obtain ⟨_, ho, h1, e2, _⟩ := st.own q _ hm
  rw [e2] at h1
  exact ⟨q, vs, rx, .inl (.inr ⟨o, h1⟩), hl, h F σv H vs Qv b hs st (rs F) k⟩
theorem c3_lenR {l : Addr} {o : Obj} {vs : List V} (hm : M l = some (.raw (.frz o (.lst vs)))) (q : Q (.int vs.length) M) : C3 B (rLEN K) [.ref l] M Q := fun F H xv Qv b st rx k => by
  obtain ⟨v, e, r⟩ := rx.sing
  obtain rfl : v = .ref l := r
  obtain ⟨_, ho, h1, e2, _⟩ := st.own l _ hm
  rw [e2] at h1
  subst e
  exact ⟨.ref l, vs.length, rfl, .inl ⟨vs, .inl (.inr ⟨o, h1⟩), rfl⟩, k F M (.int vs.length) _ H (Ex.refl _) st rfl q⟩
theorem c3_lstR {l : Addr} {o : Obj} {vs : List V} {ds : List D} (hm : M l = some (.raw (.frz o (.lst vs)))) (rs : ∀ F, RDs F ds vs) (q : Q (.lst ds) M) : C3 B (rLST K) [.ref l] M Q := fun F H xv Qv b st rx k => by
  obtain ⟨v, e, r⟩ := rx.sing
  obtain rfl : v = .ref l := r
  obtain ⟨_, ho, h1, e2, _⟩ := st.own l _ hm
  rw [e2] at h1
  subst e
  refine ⟨l, vs, rfl, .inl (.inl (.inr ⟨o, h1⟩)), fun p hp => ?_⟩
  obtain ⟨s2, ee⟩ := st.new (o := .lst vs) hp
  exact k _ _ (.lst ds) _ _ ee s2 ⟨p, _, rfl, upd_same, rs _⟩ q
end
end GenF
set_option Elab.async false
set_option linter.all false
set_option maxRecDepth 100000
set_option maxHeartbeats 4000000
namespace LW
open PySem L2 T3
open Evl (Ex)
def topS (i : Nat) : Stmt := PySem.Challenge.pw_tiredpots_k35_every_row_once.main.body.getD i (.Pass ⟨0, 0, 0, 0⟩)
def inClass : Stmt → Nat → Stmt
  | .ClassDef _ _ _ b _ _ _ _ _ _ _, j => b.getD j (.Pass ⟨0, 0, 0, 0⟩)
  | s, _ => s
abbrev s_every_row : Stmt := topS 1
theorem sc_every_row : GScope ["work", "cloth", "pots", "waiting", "place", "rest", "row"] ["work"] (defScope s_every_row) := ⟨rfl, rfl, rfl, by decide +kernel, rfl, by decide +kernel, by decide +kernel⟩
abbrev s_source : Stmt := topS 3
theorem sc_source : FnScope ["_law_script", "_law_cell"] ["_law_script"] (defScope s_source) := ⟨rfl, rfl, rfl, by decide +kernel, rfl, by decide +kernel, by decide +kernel⟩
abbrev s_draw : Stmt := topS 4
theorem sc_draw : FnScope ["_law_source_here", "_law_many", "_law_cell", "_law_great", "_law_number", "_law_shift", "_law_mixed"] ["_law_source_here", "_law_many"] (defScope s_draw) := ⟨rfl, rfl, rfl, by decide +kernel, rfl, by decide +kernel, by decide +kernel⟩
abbrev s_word : Stmt := topS 5
theorem sc_word : FnScope ["_law_number", "_law_letters", "_law_word_here", "_law_k"] ["_law_number"] (defScope s_word) := ⟨rfl, rfl, rfl, by decide +kernel, rfl, by decide +kernel, by decide +kernel⟩
abbrev s_name : Stmt := topS 6
theorem sc_name : FnScope ["_law_source_here", "_law_k", "_law_size"] ["_law_source_here", "_law_k"] (defScope s_name) := ⟨rfl, rfl, rfl, by decide +kernel, rfl, by decide +kernel, by decide +kernel⟩
abbrev s_names : Stmt := topS 7
theorem sc_names : FnScope ["_law_source_here", "_law_many", "_law_word_here", "_law_place", "_law_turn", "_law_k"] ["_law_source_here", "_law_many"] (defScope s_names) := ⟨rfl, rfl, rfl, by decide +kernel, rfl, by decide +kernel, by decide +kernel⟩
abbrev s_all : Stmt := topS 8
theorem sc_all : FnScope ["_law_work", "_law_rows", "_law_k", "_law_longer", "_law_row_here", "_law_j", "_law_entry"] ["_law_work"] (defScope s_all) := ⟨rfl, rfl, rfl, by decide +kernel, rfl, by decide +kernel, by decide +kernel⟩
abbrev s_row : Stmt := topS 9
theorem sc_row : FnScope ["_law_work", "_law_places", "_law_k"] ["_law_work", "_law_places"] (defScope s_row) := ⟨rfl, rfl, rfl, by decide +kernel, rfl, by decide +kernel, by decide +kernel⟩
abbrev s_law : Stmt := topS 10
theorem sc_law : FnScope ["_law_script", "_law_source_here", "_law_work", "_law_left", "_law_many", "_law_words", "_law_tubs", "_law_word_here", "_law_vats", "_law_j", "_law_entry", "_law_handed", "_law_due", "_law_row_here", "_law_time", "_law_rows", "_law_k", "_law_great", "_law_first", "_law_vat"] ["_law_script"] (defScope s_law) := ⟨rfl, rfl, rfl, by decide +kernel, rfl, by decide +kernel, by decide +kernel⟩
structure Adr where
  (f_every_row f_source f_draw f_word f_name f_names f_all f_row f_law f_dyeInit : Addr)
  (d_every_row d_source d_draw d_word d_name d_names d_all d_row d_law : FuncData)
structure Tx (P : Program) (K : PySem.W.Frag) (mg : Str → Option Value) (A : Adr) : Prop where
  F_every_row : Fun K "every_row" "every_row" s_every_row A.f_every_row A.d_every_row
  F_source : Fun K "_law_source" "_law_source" s_source A.f_source A.d_source
  F_draw : Fun K "_law_draw" "_law_draw" s_draw A.f_draw A.d_draw
  F_word : Fun K "_law_word" "_law_word" s_word A.f_word A.d_word
  F_name : Fun K "_law_name" "_law_name" s_name A.f_name A.d_name
  F_names : Fun K "_law_names" "_law_names" s_names A.f_names A.d_names
  F_all : Fun K "_law_all" "_law_all" s_all A.f_all A.d_all
  F_row : Fun K "_law_row" "_law_row" s_row A.f_row A.d_row
  F_law : Fun K "law" "law" s_law A.f_law A.d_law
  n_len : mg "len" = none
  n_list : mg "list" = none
  n_enumerate : mg "enumerate" = none
  g_every_row : mg "every_row" = some (.ref A.f_every_row)
  k_every_row : PySem.W.keepIn K (.ref A.f_every_row) = true
  b_every_row : Binds K A.d_every_row ["work"] []
  n_int : mg "int" = none
  n_abs : mg "abs" = none
  n_range : mg "range" = none
  g_draw : mg "_law_draw" = some (.ref A.f_draw)
  k_draw : PySem.W.keepIn K (.ref A.f_draw) = true
  b_draw : Binds K A.d_draw ["_law_source_here", "_law_many"] []
  g_word : mg "_law_word" = some (.ref A.f_word)
  k_word : PySem.W.keepIn K (.ref A.f_word) = true
  b_word : Binds K A.d_word ["_law_number"] []
  g_name : mg "_law_name" = some (.ref A.f_name)
  k_name : PySem.W.keepIn K (.ref A.f_name) = true
  b_name : Binds K A.d_name ["_law_source_here", "_law_k"] []
  n_sum : mg "sum" = none
  g_source : mg "_law_source" = some (.ref A.f_source)
  k_source : PySem.W.keepIn K (.ref A.f_source) = true
  b_source : Binds K A.d_source ["_law_script"] []
  g_names : mg "_law_names" = some (.ref A.f_names)
  k_names : PySem.W.keepIn K (.ref A.f_names) = true
  b_names : Binds K A.d_names ["_law_source_here", "_law_many"] []
  g_all : mg "_law_all" = some (.ref A.f_all)
  k_all : PySem.W.keepIn K (.ref A.f_all) = true
  b_all : Binds K A.d_all ["_law_work"] []
  g_row : mg "_law_row" = some (.ref A.f_row)
  k_row : PySem.W.keepIn K (.ref A.f_row) = true
  b_row : Binds K A.d_row ["_law_work", "_law_places"] []
  n_isinstance : mg "isinstance" = none
  kit_ll : PySem.W.kitOne K (.type "list") (.type "list") = some true
  kit_ii : PySem.W.kitOne K (.type "int") (.type "int") = some true
  kit_ss : PySem.W.kitOne K (.type "str") (.type "str") = some true
  kit_tt : PySem.W.kitOne K (.type "tuple") (.type "tuple") = some true
theorem units65 {k : Nat} {A : Around} (r : Room k A) : A.units + 65 < cLine := by have := r.un; omega
theorem units1 {k : Nat} {A : Around} (r : Room k A) : A.units + 1 < cLine := by have := r.un; omega
end LW
namespace L2
open PySem
theorem pt_never {X : Cx} {c : Expr} : PT X c (fun _ _ _ => False) := ⟨fun _ _ _ _ _ _ h => h.elim⟩
end L2
set_option pp.maxSteps 1500
set_option Elab.async false
set_option linter.all false
set_option maxRecDepth 100000
set_option maxHeartbeats 4000000
namespace LW
open PySem L2 T3
open Evl (Ex)
local macro_rules | `(tactic| walk_at "t3") => `(tactic| first
  | (with_reducible refine s_seq ?_) | (with_reducible refine s_asg ?_) | (with_reducible refine s_if ?_) | (with_reducible refine s_ret ?_) | (with_reducible refine s_drop ?_) | (with_reducible refine s_asgG ?_) | (with_reducible refine s_retN ?_)
  | (with_reducible refine s_next ?_) | (with_reducible refine s_brk ?_) | (with_reducible refine s_cont ?_) | (with_reducible refine s_par ?_) | (with_reducible refine s_fld ?_)
  | ((with_reducible refine' w_var ?hx ?_); (case hx => exact rfl)) | (with_reducible refine w_cI ?_) | (with_reducible refine w_cB ?_) | (with_reducible refine w_cS ?_) | (with_reducible refine w_cN ?_) | (with_reducible refine w_cT ?_) | (with_reducible refine w_cR ?_)
  | (with_reducible refine w_op ?_) | (with_reducible refine w_un ?_) | (with_reducible refine w_nil ?_) | (with_reducible refine w_tup ?_) | (with_reducible refine w_cons ?_) | (with_reducible refine w_cb ?_) | (with_reducible refine w_bm0 ?_) | (with_reducible refine w_bm ?_)
  | (with_reducible refine w_test ?_) | (with_reducible refine w_B ?_) | (with_reducible refine w_notT ?_) | (with_reducible refine w_yes ?_) | (with_reducible refine w_notV ?_)
  | (with_reducible refine w_ifE ?_) | (with_reducible refine w_isN ?_) | (with_reducible refine w_notN ?_) | (with_reducible refine w_tr ?_) | (with_reducible refine w_chain ?_) | (with_reducible refine w_fld ?_) | (with_reducible refine w_sl ?_) | (with_reducible refine o_no ?_) | (with_reducible refine o_some ?_)
  | (with_reducible refine w_call0 ?_) | (with_reducible refine g_name ?_) | ((with_reducible refine' g_tup ?hx ?hy ?_); (case hx => exact rfl); (case hy => exact rfl)) | (with_reducible refine g_cons ?_) | (with_reducible refine g_nil ?_) | (with_reducible refine g_set ?_)
  | (with_reducible refine r3_add_ii ?_) | (with_reducible refine r3_sub ?_) | (with_reducible refine r3_lt ?_) | (with_reducible refine r3_le ?_) | (with_reducible refine r3_gt ?_) | (with_reducible refine r3_ge ?_) | (with_reducible refine u3_neg ?_)
  | (with_reducible refine c3_int_i ?_) | (with_reducible refine c3_int_b ?_) | (with_reducible refine c3_abs ?_) | (with_reducible refine c3_len_t ?_) | (with_reducible refine c3_len .fz ?_) | (with_reducible refine c3_max2 ?_) | (with_reducible refine c3_min2 ?_)
  | (with_reducible refine r3_eq (n := 9) (m := 9) okD_int okD_int ?_) | (with_reducible refine r3_ne (n := 9) (m := 9) okD_int okD_int ?_)
  | ((with_reducible refine' Exists.intro _ (And.intro ?hx ?_)); (case hx => exact rfl))
  | ((with_reducible refine' And.intro ?hx ?_); (case hx => (show List.length _ ≤ 100000); exact Nat.le_of_ble_eq_true rfl))
  | (with_reducible refine c3_lenL (c3_len_t ?_)) | (with_reducible refine c3_lenL (c3_len .fz ?_)))

section
variable {P : Program} {w : World} {K : PySem.W.Frag} {mg : Str → Option Value} {base : Heap} {A0 : Adr}

open GenF PyProof.Rows
/-! ### the rows of a work -/
abbrev Work := List (Str × List Str)
def eD (x : Str × List Str) : D := .tup [.str x.1, .lst (x.2.map D.str)]
def wlen (wk : Work) : Nat := (wk.map fun x => x.2.length).sum
def live (wk : Work) : Work := wk.filter fun x => decide (0 < x.2.length)
def restW (ws : Work) (i : Nat) (x : Str × List Str) : Work := ws.take i ++ [(x.1, x.2.drop 1)] ++ ws.drop (i + 1)
def hd1 (x : Str × List Str) : Str × Str := (x.1, x.2.headD (Str.ofString ""))
def rowsFrom (R : Work → List GRow) (ws : Work) : Nat → Work → List GRow
  | _, [] => []
  | i, x :: xs => (R (restW ws i x)).map (fun r => hd1 x :: r) ++ rowsFrom R ws (i + 1) xs
def rowsN : Nat → Work → List GRow
  | 0, _ => [[]]
  | m + 1, wk => rowsFrom (rowsN m) (live wk) 0 (live wk)
structure WOk (wk : Work) : Prop where
  len : wk.length ≤ 1000
  pots : ∀ x ∈ wk, x.2.length ≤ 1000
theorem WOk.live {wk : Work} (h : WOk wk) : WOk (live wk) := ⟨Nat.le_trans (List.length_filter_le _ _) h.len, fun x hx => h.pots x (List.mem_filter.mp hx).1⟩
theorem restW_len {ws : Work} {i : Nat} {x : Str × List Str} (hi : ws[i]? = some x) : (restW ws i x).length = ws.length := by
  have hl := (List.getElem?_eq_some_iff.mp hi).1
  unfold restW
  rw [List.length_append, List.length_append, List.length_take, List.length_drop, List.length_singleton]
  omega
theorem WOk.rest {ws : Work} {i : Nat} {x : Str × List Str} (h : WOk ws) (hi : ws[i]? = some x) : WOk (restW ws i x) := by
  refine ⟨by rw [restW_len hi]; exact h.len, fun y hy => ?_⟩
  unfold restW at hy
  rcases List.mem_append.mp hy with hy | hy
  · rcases List.mem_append.mp hy with hy | hy
    · exact h.pots y (List.mem_of_mem_take hy)
    · rw [List.mem_singleton.mp hy]
      have := h.pots x (List.mem_of_getElem? hi)
      simp only [List.length_drop]; omega
  · exact h.pots y (List.mem_of_mem_drop hy)
theorem split_at {ws : Work} {i : Nat} {x : Str × List Str} (hi : ws[i]? = some x) : ws = ws.take i ++ [x] ++ ws.drop (i + 1) := by
  have hl := (List.getElem?_eq_some_iff.mp hi).1
  have he : ws[i] = x := (List.getElem?_eq_some_iff.mp hi).2
  have h1 : ws.drop i = x :: ws.drop (i + 1) := by rw [List.drop_eq_getElem_cons hl, he]
  rw [List.append_assoc, List.singleton_append, ← h1, List.take_append_drop]
theorem wlen_app {a b : Work} : wlen (a ++ b) = wlen a + wlen b := by unfold wlen; rw [List.map_append, List.sum_append]
theorem wlen_rest {ws : Work} {i : Nat} {x : Str × List Str} (hi : ws[i]? = some x) (hx : 0 < x.2.length) : wlen (restW ws i x) + 1 = wlen ws := by
  have e : wlen ws = wlen (ws.take i ++ [x] ++ ws.drop (i + 1)) := congrArg wlen (split_at hi)
  rw [e]
  unfold restW
  rw [wlen_app, wlen_app, wlen_app, wlen_app]
  have h1 : wlen [(x.1, x.2.drop 1)] = x.2.length - 1 := by simp [wlen]
  have h2 : wlen [x] = x.2.length := by simp [wlen]
  rw [h1, h2]; omega
theorem wlen_live : ∀ (wk : Work), wlen (live wk) = wlen wk
  | [] => rfl
  | x :: wk => by
    have ih := wlen_live wk
    unfold live at ih ⊢
    rw [List.filter_cons]
    have h1 : ∀ l : Work, wlen (x :: l) = x.2.length + wlen l := fun l => by simp [wlen]
    split
    · rw [h1, h1, ih]
    · rename_i h
      have : x.2.length = 0 := by simpa using h
      rw [ih, h1, this]; omega
theorem live_pos {wk : Work} {i : Nat} {x : Str × List Str} (hi : (live wk)[i]? = some x) : 0 < x.2.length := by
  have := (List.mem_filter.mp (List.mem_of_getElem? hi)).2
  simpa using this
theorem rows_len : ∀ (m : Nat) (wk : Work) (r : GRow), r ∈ rowsN m wk → r.length ≤ m
  | 0, _, r, h => by rw [show r = [] from List.mem_singleton.mp h]; exact Nat.le_refl _
  | m + 1, wk, r, h => by
    have key : ∀ (xs : Work) (i : Nat), r ∈ rowsFrom (rowsN m) (live wk) i xs → r.length ≤ m + 1 := fun xs => by
      induction xs with
      | nil => intro i h; cases h
      | cons x xs ih =>
        intro i h
        rcases List.mem_append.mp h with h | h
        · obtain ⟨r', h1, rfl⟩ := List.mem_map.mp h
          have := rows_len m _ r' h1
          simp only [List.length_cons]; omega
        · exact ih _ h
    exact key _ _ h
/-! ### the generator's frame -/
abbrev eb (i : Nat) : Stmt := (defBody s_every_row).getD i (.Pass ⟨0, 0, 0, 0⟩)
theorem eb_split : defBody s_every_row = [eb 0, eb 1, eb 2] := rfl
abbrev eN : List Str := ["work", "cloth", "pots", "waiting", "place", "rest", "row"]
variable (P w K mg base) in
abbrev EX (fa : Addr) (cdv : Value) (A : Around) (outer : List Env) (s0 : Shared) (H0 : Hp) : Cx := GX P w K mg base eN "every_row" (defScope s_every_row) fa cdv A outer s0 H0
theorem ecl (n : Nat) : cellsFrom n (defScope s_every_row).names [] = [] := by rfl
/-- a work that is known: the list at a -/
def WorkM (M : Mem) (a : Addr) (wk : Work) : Prop := ∃ o vs, M a = some (.raw (.frz o (.lst vs))) ∧ Paired (fun (v : V) (x : Str × List Str) => ∃ q l o1 o2, v = .ref q ∧ M q = some (.raw (.frz o1 (.tup [.str x.1, .ref l]))) ∧ M l = some (.raw (.frz o2 (.lst (x.2.map V.str))))) vs wk
theorem rds_strs (F : Hp) : ∀ xs : List Str, RDs F (xs.map D.str) (xs.map V.str)
  | [] => rfl
  | x :: xs => ⟨_, _, rfl, rfl, rds_strs F xs⟩
theorem rds_dV {M : Mem} {wk : Work} (F : Hp) : ∀ {vs : List V} {wk : Work}, Paired (fun (v : V) (x : Str × List Str) => ∃ q l o1 o2, v = .ref q ∧ M q = some (.raw (.frz o1 (.tup [.str x.1, .ref l]))) ∧ M l = some (.raw (.frz o2 (.lst (x.2.map V.str))))) vs wk → RDs F (vs.map dV) vs
  | _, _, .nil => rfl
  | _, _, .cons ⟨q, _, _, _, e, _⟩ t => ⟨_, _, rfl, by rw [e]; rfl, rds_dV (wk := wk) F t⟩
theorem paired_get {α β : Type} {R : α → β → Prop} : ∀ {l : List α} {m : List β} {i : Nat} {x : α}, Paired R l m → l[i]? = some x → ∃ y, m[i]? = some y ∧ R x y
  | _, _, _, _, .nil, e => by simp at e
  | _, _, 0, _, .cons r _, e => ⟨_, rfl, by simp at e; rw [← e]; exact r⟩
  | _, _, i + 1, _, .cons _ t, e => by
    obtain ⟨y, h1, h2⟩ := paired_get (i := i) t (by simpa using e)
    exact ⟨y, by simpa using h1, h2⟩
variable {fa : Addr} {cdv : Value} {A : Around} {outer : List Env} {s0 : Shared} {H0 : Hp}
/-- waiting = [..] -/
theorem e_first (T : Tx P K mg A0) {k : Nat} (hr : Room k (A.deeper (envOfC "every_row" (defScope s_every_row) s0.heap.objs.size fa cdv))) : ∃ t, PS (EX P w K mg base fa cdv A outer s0 H0).nox (eb 0) t ∧
    ∀ (B : Hp) (M : Mem) (a : Addr) (wk : Work), WorkM M a wk → WOk wk → W3s B t { nx := fun σ M' => (∃ b1 b2, σ = [some (.ref a), b1, b2, some (.lst ((live wk).map eD)), none, none, none]) ∧ M' = M, rt := fun _ _ => False } [some (.ref a), none, none, none, none, none, none] M := by
  have hu := hr.units
  refine ⟨_, (ps_setLc (i := 3) (own := [("cloth", 1), ("pots", 2)]) (g := (gTup K 2 (gCons (gName 1) (gCons (gName 2) gNil)))) (by rfl) sc_every_row.nd (by rfl) (by rfl) (sw_true (by rfl) (by rfl) (by rfl) (by decide +kernel)) (pi_list (pv 0)) (blkOk_by (N := ["work", "cloth", "pots", "waiting", "place", "rest", "row"]) (sc := defScope s_every_row) (own := [("cloth", 1), ("pots", 2)]) (by decide +kernel)) (fun _ _ _ _ _ => (pg_tup (by rfl) (pgs_cons (pg_name (i := 1) sc_every_row.nd (by rfl) (Or.inl (by rfl))) (pgs_cons (pg_name (i := 2) sc_every_row.nd (by rfl) (Or.inl (by rfl))) pgs_nil)))) (fun _ _ _ _ _ => pts_one (pt_cmpR op_gt (pe_callB (call_lenDK K rfl) (by rfl) T.n_len PySem.boot_len (pa_cons (pv 2) pa_nil)) pe_int (nomark _))) (fun _ _ _ _ _ => (pe_tup (pa_cons (pv 1) (pa_cons (pe_callTy (call_lstK K rfl) (by rfl) T.n_list (by decide +kernel) (pa_cons (pv 2) pa_nil)) pa_nil))))), fun B M a wk hw ok => ?_⟩
  obtain ⟨o, vs, hm, hp⟩ := hw
  try dsimp only [cxOf, Cx.nox, Cx.wish]
  repeat walk_at "t3"
  refine w_lc (own_tup (own_cons own_name (own_cons own_name own_nil))) (i_listR ?_)
  repeat walk_at "t3"
  refine ⟨a, o, vs, vs.map dV, rfl, hm, fun F => rds_dV (M := M) (wk := wk) F hp, ?_⟩
  have hl := hp.length
  refine ⟨fun i acc M' => M' = M ∧ i ≤ vs.length ∧ acc = (live (wk.take i)).map eD, fun i acc M' ⟨h1, h2, h3⟩ => ⟨by rw [h1]; exact hm, ?_⟩, by rw [List.length_map, hl]; exact Nat.le_trans ok.len (by decide), ⟨rfl, Nat.zero_le _, rfl⟩, fun i d acc M' L hd ⟨em, hi, ea⟩ hL => ?_, fun acc M' ⟨em, hi, ea⟩ => ?_⟩
  · rw [h3, List.length_map]
    exact Nat.le_trans (List.length_filter_le _ _) (by rw [List.length_take]; exact Nat.min_le_left _ _)
  · subst em
    rw [List.getElem?_map] at hd
    obtain ⟨v, hv, rfl⟩ := Option.map_eq_some_iff.mp hd
    obtain ⟨x, hx, q, l, o1, o2, rfl, hq, hll⟩ := paired_get hp hv
    have hilt : i < vs.length := (List.getElem?_eq_some_iff.mp hv).1
    have hq' : mput M' L (.lst acc) q = some (.raw (.frz o1 (.tup [.str x.1, .ref l]))) := by rw [mput_ne (mne hq hL)]; exact hq
    have hl' : mput M' L (.lst acc) l = some (.raw (.frz o2 (.lst (x.2.map V.str)))) := by rw [mput_ne (mne hll hL)]; exact hll
    have et : live (wk.take (i + 1)) = live (wk.take i) ++ live [x] := by
      rw [List.take_add_one, hx]
      exact List.filter_append ..
    have hxl : x.2.length ≤ 1000 := ok.pots x (List.mem_of_getElem? hx)
    refine g_tupR (ds := [.str x.1, .ref l]) hq' (fun F => ⟨_, _, rfl, rfl, _, _, rfl, rfl, rfl⟩) rfl ?_
    repeat walk_at "t3"
    refine c3_lenL (c3_lenR hl' ?_)
    repeat walk_at "t3"
    refine iteB (fun hc => ?_) (fun hc => ?_)
    · have hpos : 0 < x.2.length := by simpa using hc
      have el : live [x] = [x] := by unfold live; rw [List.filter_cons, if_pos (by simpa using hpos)]; rfl
      repeat walk_at "t3"
      refine c3_lstR (ds := x.2.map D.str) hl' (fun F => rds_strs F _) ?_
      repeat walk_at "t3"
      refine ⟨hL, rfl, hilt, ?_⟩
      rw [et, el, List.map_append, ea]; rfl
    · have hz : ¬ 0 < x.2.length := by simpa using hc
      have el : live [x] = [] := by unfold live; rw [List.filter_cons, if_neg (by simpa using hz)]; rfl
      refine ⟨M', rfl, hL, rfl, hilt, ?_⟩
      rw [et, el, List.append_nil]; exact ea
  · subst em; subst ea
    rw [List.length_map, hl, List.take_length]
    exact ⟨⟨_, _, rfl⟩, rfl⟩
end
end LW
set_option pp.maxSteps 1500
set_option Elab.async false
set_option linter.all false
set_option maxRecDepth 100000
set_option maxHeartbeats 4000000
namespace LW
open PySem L2 T3
open Evl (Ex)
local macro_rules | `(tactic| walk_at "t3") => `(tactic| first
  | (with_reducible refine s_seq ?_) | (with_reducible refine s_asg ?_) | (with_reducible refine s_if ?_) | (with_reducible refine s_ret ?_) | (with_reducible refine s_drop ?_) | (with_reducible refine s_asgG ?_) | (with_reducible refine s_retN ?_)
  | (with_reducible refine s_next ?_) | (with_reducible refine s_brk ?_) | (with_reducible refine s_cont ?_) | (with_reducible refine s_par ?_) | (with_reducible refine s_fld ?_)
  | ((with_reducible refine' w_var ?hx ?_); (case hx => exact rfl)) | (with_reducible refine w_cI ?_) | (with_reducible refine w_cB ?_) | (with_reducible refine w_cS ?_) | (with_reducible refine w_cN ?_) | (with_reducible refine w_cT ?_) | (with_reducible refine w_cR ?_)
  | (with_reducible refine w_op ?_) | (with_reducible refine w_un ?_) | (with_reducible refine w_nil ?_) | (with_reducible refine w_tup ?_) | (with_reducible refine w_cons ?_) | (with_reducible refine w_cb ?_) | (with_reducible refine w_bm0 ?_) | (with_reducible refine w_bm ?_)
  | (with_reducible refine w_test ?_) | (with_reducible refine w_B ?_) | (with_reducible refine w_notT ?_) | (with_reducible refine w_yes ?_) | (with_reducible refine w_notV ?_)
  | (with_reducible refine w_ifE ?_) | (with_reducible refine w_isN ?_) | (with_reducible refine w_notN ?_) | (with_reducible refine w_tr ?_) | (with_reducible refine w_chain ?_) | (with_reducible refine w_fld ?_) | (with_reducible refine w_sl ?_) | (with_reducible refine o_no ?_) | (with_reducible refine o_some ?_)
  | (with_reducible refine w_call0 ?_) | (with_reducible refine g_name ?_) | ((with_reducible refine' g_tup ?hx ?hy ?_); (case hx => exact rfl); (case hy => exact rfl)) | (with_reducible refine g_cons ?_) | (with_reducible refine g_nil ?_) | (with_reducible refine g_set ?_)
  | (with_reducible refine r3_add_ii ?_) | (with_reducible refine r3_sub ?_) | (with_reducible refine r3_lt ?_) | (with_reducible refine r3_le ?_) | (with_reducible refine r3_gt ?_) | (with_reducible refine r3_ge ?_) | (with_reducible refine u3_neg ?_)
  | (with_reducible refine c3_int_i ?_) | (with_reducible refine c3_int_b ?_) | (with_reducible refine c3_abs ?_) | (with_reducible refine c3_len_t ?_) | (with_reducible refine c3_len .fz ?_) | (with_reducible refine c3_max2 ?_) | (with_reducible refine c3_min2 ?_)
  | (with_reducible refine r3_eq (n := 9) (m := 9) okD_int okD_int ?_) | (with_reducible refine r3_ne (n := 9) (m := 9) okD_int okD_int ?_)
  | ((with_reducible refine' Exists.intro _ (And.intro ?hx ?_)); (case hx => exact rfl))
  | ((with_reducible refine' And.intro ?hx ?_); (case hx => (show List.length _ ≤ 100000); exact Nat.le_of_ble_eq_true rfl))
  | (with_reducible refine c3_lenL (c3_len_t ?_)) | (with_reducible refine c3_lenL (c3_len .fz ?_)))

section
variable {P : Program} {w : World} {K : PySem.W.Frag} {mg : Str → Option Value} {base : Heap} {A0 : Adr}

open GenF PyProof.Rows
def sTest : Stmt → Expr
  | .If t _ _ _ => t
  | _ => .Constant .none 0 ⟨0, 0, 0, 0⟩
def sBody : Stmt → List Stmt
  | .If _ b _ _ => b
  | .For _ _ b _ _ => b
  | _ => []
def sTgt : Stmt → Expr
  | .For t _ _ _ _ => t
  | _ => .Constant .none 0 ⟨0, 0, 0, 0⟩
def sIter : Stmt → Expr
  | .For _ i _ _ _ => i
  | _ => .Constant .none 0 ⟨0, 0, 0, 0⟩
def sPos : Stmt → Pos
  | .If _ _ _ p => p
  | .For _ _ _ _ p => p
  | .Expr _ p => p
  | _ => ⟨0, 0, 0, 0⟩
def yVal : Stmt → Expr
  | .Expr (.Yield (some e) _) _ => e
  | _ => .Constant .none 0 ⟨0, 0, 0, 0⟩
def yPos : Stmt → Pos
  | .Expr (.Yield _ p) _ => p
  | _ => ⟨0, 0, 0, 0⟩
def nPos : Expr → Pos
  | .Name _ p => p
  | _ => ⟨0, 0, 0, 0⟩
abbrev fb (i : Nat) : Stmt := (sBody (eb 2)).getD i (.Pass ⟨0, 0, 0, 0⟩)
abbrev y0 : Stmt := (sBody (eb 1)).getD 0 (.Pass ⟨0, 0, 0, 0⟩)
abbrev y1 : Stmt := (sBody (fb 1)).getD 0 (.Pass ⟨0, 0, 0, 0⟩)
theorem eb1 : eb 1 = .If (sTest (eb 1)) (sBody (eb 1)) [] (sPos (eb 1)) := rfl
theorem eb1b : sBody (eb 1) = [.Expr (.Yield (some (yVal y0)) (yPos y0)) (sPos y0)] := rfl
theorem eb2 : eb 2 = .For (sTgt (eb 2)) (sIter (eb 2)) (sBody (eb 2)) [] (sPos (eb 2)) := rfl
theorem eb2b : sBody (eb 2) = [fb 0, fb 1] := rfl
theorem fb1 : fb 1 = .For (.Name "row" (nPos (sTgt (fb 1)))) (sIter (fb 1)) (sBody (fb 1)) [] (sPos (fb 1)) := rfl
theorem fb1b : sBody (fb 1) = [.Expr (.Yield (some (yVal y1)) (yPos y1)) (sPos y1)] := rfl
variable {fa : Addr} {cdv : Value} {A : Around} {outer : List Env} {s0 : Shared} {H0 : Hp}
theorem cutD_to {xs : List D} {n : Nat} : T3.cutD xs none (some (n : Int)) = xs.take n := by
  unfold T3.cutD
  rw [HT.sIx_nat]
  show (xs.drop 0).take (min n xs.length - 0) = _
  rw [List.drop_zero, Nat.sub_zero, List.take_eq_take_iff]
  omega
theorem cutD_from {xs : List D} {n : Nat} : T3.cutD xs (some (n : Int)) none = xs.drop n := by
  unfold T3.cutD
  rw [HT.sIx_nat, HT.sIx_none]
  rw [List.take_of_length_le (by rw [List.length_drop]; exact Nat.le_refl _)]
  by_cases h : n ≤ xs.length
  · rw [Nat.min_eq_left h]
  · rw [Nat.min_eq_right (by omega), List.drop_length, List.drop_eq_nil_iff.mpr (by omega)]
theorem e_test (T : Tx P K mg A0) : ∃ t, PT (EX P w K mg base fa cdv A outer s0 H0).nox (sTest (eb 1)) t ∧
    ∀ (B : Hp) (M : Mem) (σ : Sig) (ds : List D), σ[3]? = some (some (.lst ds)) → W3t B t σ M (fun b M' => b = ds.isEmpty ∧ M' = M) := by
  refine ⟨_, (pt_not (pt_truthK K rfl (pv 3) (by intro _; rfl))), fun B M σ ds h => ?_⟩
  try dsimp only [cxOf, Cx.nox, Cx.wish]
  refine w_notT (w_tr (w_var h ?_))
  exact ⟨!ds.isEmpty, rfl, Bool.not_not _, rfl⟩
theorem e_enum (T : Tx P K mg A0) {k : Nat} (hr : Room k (A.deeper (envOfC "every_row" (defScope s_every_row) s0.heap.objs.size fa cdv))) : ∃ t, PI (EX P w K mg base fa cdv A outer s0 H0).nox (sTgt (eb 2)) (sIter (eb 2)) t ∧
    ∀ (σ : L2.St) (H : Hp) (R : It → Hp → Prop) (aw : Addr) (vs : List V), σ[3]? = some (some (.ref aw)) → H aw = some (.lst vs) → R (Ite K aw) H → t σ H R := by
  have hu := hr.units
  refine ⟨_, (pi_enum (by rfl) T.n_enumerate (pa_cons (pv 3) pa_nil)), fun σ H R aw vs h1 h2 q => ?_⟩
  exact ⟨.ref aw, h1, aw, vs, rfl, .of h2, q⟩
theorem e_tgt (T : Tx P K mg A0) : ∃ t, PG (EX P w K mg base fa cdv A outer s0 H0).nox (sTgt (eb 2)) t ∧
    ∀ (σ : L2.St) (H : Hp) (Q : L2.St → Hp → Prop) (T1 q l : Addr) (i : Int) (c : Str), H T1 = some (.tup [.int i, .ref q]) → H q = some (.tup [.str c, .ref l]) → Q (((σ.set 4 (some (.int i))).set 1 (some (.str c))).set 2 (some (.ref l))) H → t (.ref T1) σ H Q := by
  refine ⟨_, (pg_tup (by rfl) (pgs_cons (pg_name (i := 4) sc_every_row.nd (by rfl) (Or.inl (by rfl))) (pgs_cons (pg_tup (by rfl) (pgs_cons (pg_name (i := 1) sc_every_row.nd (by rfl) (Or.inl (by rfl))) (pgs_cons (pg_name (i := 2) sc_every_row.nd (by rfl) (Or.inl (by rfl))) pgs_nil))) pgs_nil))), fun σ H Q T1 q l i c h1 h2 z => ?_⟩
  exact ⟨T1, _, rfl, .of h1, rfl, _, _, rfl, _, _, rfl, ⟨q, _, rfl, .of h2, rfl, _, _, rfl, _, _, rfl, rfl, rfl, z⟩⟩
theorem e_rest (T : Tx P K mg A0) {k : Nat} (hr : Room k (A.deeper (envOfC "every_row" (defScope s_every_row) s0.heap.objs.size fa cdv))) : ∃ t, PS (EX P w K mg base fa cdv A outer s0 H0).nox (fb 0) t ∧
    ∀ (F : Hp) (σv : L2.St) (H : Hp) (Q : L2.St → Hp → Prop) (ws : Work) (i : Nat) (x : Str × List Str), WOk ws → ws[i]? = some x → T3.SRel F [none, some (.str x.1), some (.lst (x.2.map D.str)), some (.lst (ws.map eD)), some (.int i), none, none] σv → Ex F H →
      (∀ F' M' v H', Ex F F' → St3 F' M' H' → RD F' (.lst ((restW ws i x).map eD)) v → Q (σv.set 5 (some v)) H') → t { nx := Q, rt := fun _ _ => False } σv H := by
  have hu := hr.units
  refine ⟨_, (ps_set (i := 5) sc_every_row.nd (by rfl) (Or.inl (by rfl)) (pe_op op_ADD (pe_op op_ADD (pe_slice (sl_SLTK K rfl) (pv 3) po_none (po_some (pv 4))) (pe_lst (pa_cons (pe_tup (pa_cons (pv 1) (pa_cons (pe_slice (sl_SLTK K rfl) (pv 2) (po_some pe_int) po_none) pa_nil))) pa_nil))) (pe_slice (sl_SLTK K rfl) (pv 3) (po_some (pe_op op_ADD (pv 4) pe_int)) po_none))), fun F σv H Q ws i x ok hi hS hE q => ?_⟩
  have main : W3e (fun _ => Option.none) (tOp rADD (tOp rADD (tSl (rSLT K) (tVar 3) tNoPart (tPart (tVar 4))) (tLst (tCons (tTup (tCons (tVar 1) (tCons (tSl (rSLT K) (tVar 2) (tPart (tC (V.int 1))) tNoPart) tNil))) tNil))) (tSl (rSLT K) (tVar 3) (tPart (tOp rADD (tVar 4) (tC (V.int 1)))) tNoPart))
      [none, some (.str x.1), some (.lst (x.2.map D.str)), some (.lst (ws.map eD)), some (.int i), none, none] (fun _ => Option.none) (fun d _ => d = .lst ((restW ws i x).map eD)) := by
    have hil := (List.getElem?_eq_some_iff.mp hi).1
    have hws := ok.len
    repeat walk_at "t3"
    refine s3_L (s3_l .fz ?_)
    repeat walk_at "t3"
    refine w_lst ?_
    repeat walk_at "t3"
    refine s3_L (s3_l .fz ?_)
    repeat walk_at "t3"
    refine r3_add_ll .fz .fz (by rw [cutD_to, List.length_take, List.length_map, List.length_singleton]; omega) ?_
    repeat walk_at "t3"
    refine s3_L (s3_l .fz ?_)
    repeat walk_at "t3"
    have e1 : T3.cutD (ws.map eD) none (some (i : Int)) = (ws.take i).map eD := by rw [cutD_to, List.map_take]
    have e2 : T3.cutD (ws.map eD) (some ((i : Int) + 1)) none = (ws.drop (i + 1)).map eD := by
      rw [show (i : Int) + 1 = ((i + 1 : Nat) : Int) by omega, cutD_from, List.map_drop]
    have e3 : T3.cutD (x.2.map D.str) (some 1) none = (x.2.drop 1).map D.str := by
      rw [show (1 : Int) = ((1 : Nat) : Int) by omega, cutD_from, List.map_drop]
    refine r3_add_ll .fz .fz (by rw [e1, e2, List.length_append, List.length_map, List.length_map, List.length_take, List.length_drop, List.length_singleton]; omega) ?_
    show _ = _
    rw [e1, e2, e3]
    unfold restW
    rw [List.map_append, List.map_append]
    rfl
  exact main F σv H _ (fun _ _ h => nomatch h) hS ⟨hE, fun _ _ h => nomatch h⟩ fun F' M' d v H' e s r z => by
    subst z
    exact q F' M' v H' e s r
theorem e_row : ∃ t, PG (EX P w K mg base fa cdv A outer s0 H0).nox (.Name "row" (nPos (sTgt (fb 1)))) t ∧
    ∀ (v : V) (σ : L2.St) (H : Hp) (Q : L2.St → Hp → Prop), Q (σ.set 6 (some v)) H → t v σ H Q := by
  refine ⟨_, (pg_name (i := 6) sc_every_row.nd (by rfl) (Or.inl (by rfl))), fun v σ H Q q => ?_⟩
  exact q
theorem e_yield (T : Tx P K mg A0) : ∃ t, PE (EX P w K mg base fa cdv A outer s0 H0).nox (yVal y1) t ∧
    ∀ (σ : L2.St) (H : Hp) (Q : VK) (c t0 : Str) (l pr : Addr) (ts : List V) (us : List V), σ[1]? = some (some (.str c)) → σ[2]? = some (some (.ref l)) → H l = some (.lst (.str t0 :: ts)) → σ[6]? = some (some (.ref pr)) → H pr = some (.lst us) → us.length ≤ 1000 →
      (∀ T1 l1 p, H T1 = none → upd H T1 (.tup [.str c, .str t0]) l1 = none → upd (upd H T1 (.tup [.str c, .str t0])) l1 (.lst [.ref T1]) p = none → Q (.ref p) (upd (upd (upd H T1 (.tup [.str c, .str t0])) l1 (.lst [.ref T1])) p (.lst (.ref T1 :: us)))) → t σ H Q := by
  refine ⟨_, (pe_op op_ADD (pe_lst (pa_cons (pe_tup (pa_cons (pv 1) (pa_cons (pe_ix (ix_seqK K rfl) (pv 2) pe_int (fun _ _ => by rfl)) pa_nil))) pa_nil)) (pv 6)), fun σ H Q c t0 l pr ts us h1 h2 hl h6 hp hle q => ?_⟩
  refine ⟨.str c, h1, .ref l, h2, .inl ⟨l, _, 0, .str t0, rfl, rfl, .of hl, (by show (ixN (ts.length + 1) 0).bind _ = _; rw [show ixN (ts.length + 1) 0 = some 0 from by simp [ixN]]; rfl), (show 2 ≤ sizeLine by decide), fun T1 hT => ⟨(show 1 ≤ sizeLine by decide), fun l1 hl1 => ⟨.ref pr, h6, ?_⟩⟩⟩⟩
  have n1 : pr ≠ T1 := fun e => by rw [e, hT] at hp; cases hp
  have n2 : pr ≠ l1 := fun e => by rw [← e, upd_ne n1, hp] at hl1; cases hl1
  exact .inr (.inr ⟨l1, pr, [.ref T1], us, rfl, rfl, upd_same, by rw [upd_ne n2, upd_ne n1]; exact hp, by rw [List.length_singleton]; exact Nat.le_trans (Nat.add_le_add_left hle 1) (by decide), fun p hpn => q T1 l1 p hT hl1 hpn⟩)
theorem e_yield0 : ∃ t, PE (EX P w K mg base fa cdv A outer s0 H0).nox (yVal y0) t ∧ ∀ (σ : L2.St) (H : Hp) (Q : VK), (∀ p, H p = none → Q (.ref p) (upd H p (.lst []))) → t σ H Q := by
  refine ⟨_, (pe_lst pa_nil), fun σ H Q q => ⟨(show 0 ≤ sizeLine by decide), q⟩⟩
end
end LW
set_option pp.maxSteps 1500
set_option Elab.async false
set_option linter.all false
set_option maxRecDepth 100000
set_option maxHeartbeats 4000000
namespace LW
open PySem L2 T3
open Evl (Ex)
local macro_rules | `(tactic| walk_at "t3") => `(tactic| first
  | (with_reducible refine s_seq ?_) | (with_reducible refine s_asg ?_) | (with_reducible refine s_if ?_) | (with_reducible refine s_ret ?_) | (with_reducible refine s_drop ?_) | (with_reducible refine s_asgG ?_) | (with_reducible refine s_retN ?_)
  | (with_reducible refine s_next ?_) | (with_reducible refine s_brk ?_) | (with_reducible refine s_cont ?_) | (with_reducible refine s_par ?_) | (with_reducible refine s_fld ?_)
  | ((with_reducible refine' w_var ?hx ?_); (case hx => exact rfl)) | (with_reducible refine w_cI ?_) | (with_reducible refine w_cB ?_) | (with_reducible refine w_cS ?_) | (with_reducible refine w_cN ?_) | (with_reducible refine w_cT ?_) | (with_reducible refine w_cR ?_)
  | (with_reducible refine w_op ?_) | (with_reducible refine w_un ?_) | (with_reducible refine w_nil ?_) | (with_reducible refine w_tup ?_) | (with_reducible refine w_cons ?_) | (with_reducible refine w_cb ?_) | (with_reducible refine w_bm0 ?_) | (with_reducible refine w_bm ?_)
  | (with_reducible refine w_test ?_) | (with_reducible refine w_B ?_) | (with_reducible refine w_notT ?_) | (with_reducible refine w_yes ?_) | (with_reducible refine w_notV ?_)
  | (with_reducible refine w_ifE ?_) | (with_reducible refine w_isN ?_) | (with_reducible refine w_notN ?_) | (with_reducible refine w_tr ?_) | (with_reducible refine w_chain ?_) | (with_reducible refine w_fld ?_) | (with_reducible refine w_sl ?_) | (with_reducible refine o_no ?_) | (with_reducible refine o_some ?_)
  | (with_reducible refine w_call0 ?_) | (with_reducible refine g_name ?_) | ((with_reducible refine' g_tup ?hx ?hy ?_); (case hx => exact rfl); (case hy => exact rfl)) | (with_reducible refine g_cons ?_) | (with_reducible refine g_nil ?_) | (with_reducible refine g_set ?_)
  | (with_reducible refine r3_add_ii ?_) | (with_reducible refine r3_sub ?_) | (with_reducible refine r3_lt ?_) | (with_reducible refine r3_le ?_) | (with_reducible refine r3_gt ?_) | (with_reducible refine r3_ge ?_) | (with_reducible refine u3_neg ?_)
  | (with_reducible refine c3_int_i ?_) | (with_reducible refine c3_int_b ?_) | (with_reducible refine c3_abs ?_) | (with_reducible refine c3_len_t ?_) | (with_reducible refine c3_len .fz ?_) | (with_reducible refine c3_max2 ?_) | (with_reducible refine c3_min2 ?_)
  | (with_reducible refine r3_eq (n := 9) (m := 9) okD_int okD_int ?_) | (with_reducible refine r3_ne (n := 9) (m := 9) okD_int okD_int ?_)
  | ((with_reducible refine' Exists.intro _ (And.intro ?hx ?_)); (case hx => exact rfl))
  | ((with_reducible refine' And.intro ?hx ?_); (case hx => (show List.length _ ≤ 100000); exact Nat.le_of_ble_eq_true rfl))
  | (with_reducible refine c3_lenL (c3_len_t ?_)) | (with_reducible refine c3_lenL (c3_len .fz ?_)))

section
variable {P : Program} {w : World} {K : PySem.W.Frag} {mg : Str → Option Value} {base : Heap} {A0 : Adr}

open GenF PyProof.Rows GenW
abbrev EE (fa : Addr) (cdv : Value) (L : Addr) : Env := envOfC "every_row" (defScope s_every_row) L fa cdv
variable {fa : Addr} {cdv : Value} {A : Around} {outer : List Env} {L a : Addr} {g : Nat}
variable (P w K mg base fa cdv A outer L g) in
/-- between two stops; waiting is the list at aw -/
def Run (aw : Addr) (σ3 : Sig) (P' pI : Pins) (s0w : Shared) (pins0 : Pins) (s : Shared) : Prop :=
  (∃ s0 H0 F H σv, WkI outer L s0w pins0 s0 H0 F ∧ Inv (EX P w K mg base fa cdv A outer s0 H0) P' σv H s ∧ T3.SRel F σ3 σv ∧ Ex F H ∧ PinI (EX P w K mg base fa cdv A outer s0 H0) H P' pI ∧ σv[3]? = some (some (.ref aw))) ∧
  Dead s0w s ∧ (∀ y ∈ pins0, L ≤ y.1) ∧ (∃ y ∈ pins0, y.1 = L) ∧ L < s0w.heap.objs.size ∧ g < s.gens.size
theorem hclE {s0 : Shared} {H0 : Hp} : ∀ x, (EX P w K mg base fa cdv A outer s0 H0).env.cells.lookup x = none := fun x => by
  show (cellsFrom (s0.heap.objs.size + 1) (defScope s_every_row).names []).lookup x = none
  rw [ecl (s0.heap.objs.size + 1)]; rfl
theorem hclG {s0 : Shared} {H0 : Hp} {pI : Pins} : ∀ x c, (EX P w K mg base fa cdv A outer s0 H0).env.cells.lookup x = some c → ∀ y ∈ pI, y.1 ≠ c := fun x c e => by
  rw [hclE x] at e; cases e
abbrev innerC (fa : Addr) (cdv : Value) (L ai : Addr) : Code := .forLoop (.Name "row" (nPos (sTgt (fb 1)))) (.ref ai) (sBody (fb 1)) [] (EE fa cdv L)
abbrev sig3 (c t0 : Str) (ts : List Str) (ws : Work) (i : Nat) : Sig := [none, some (.str c), some (.lst ((t0 :: ts).map D.str)), some (.lst (ws.map eD)), some (.int i), none, none]
theorem datDs_strs : ∀ xs : List Str, datDs (xs.map D.str) = true
  | [] => rfl
  | x :: xs => by rw [List.map_cons, datDs, datDs_strs xs]; rfl
theorem datDs_eD : ∀ ws : Work, datDs (ws.map eD) = true
  | [] => rfl
  | x :: ws => by
    rw [List.map_cons, datDs, datDs_eD ws, Bool.and_true]
    show datD (.tup [.str x.1, .lst (x.2.map D.str)]) = true
    rw [datD, datDs, datDs, datDs, datD, datD, datDs_strs]; rfl
theorem datS3 (c t0 : Str) (ts : List Str) (ws : Work) (i : Nat) : DatS (sig3 c t0 ts ws i) := fun j d h => by
  match j with
  | 0 => cases h
  | 1 => cases h; rfl
  | 2 => cases h; rw [datD]; exact datDs_strs _
  | 3 => cases h; rw [datD]; exact datDs_eD _
  | 4 => cases h; rfl
  | 5 => cases h
  | 6 => cases h
  | j + 7 => simp at h
theorem rds_strs_inv {F : Hp} : ∀ {xs : List Str} {vs : List V}, RDs F (xs.map D.str) vs → vs = xs.map V.str
  | [], _, h => h
  | x :: xs, _, ⟨v, r, e, h, t⟩ => by
    have h : v = .str x := h
    rw [e, h, rds_strs_inv t]; rfl
theorem SRel.set_out {F : Hp} {σ3 : Sig} {σv : L2.St} {i : Nat} {v : V} (h : T3.SRel F σ3 σv) (hn : σ3[i]? = some none) : T3.SRel F σ3 (σv.set i (some v)) := by
  refine ⟨by rw [List.length_set]; exact h.1, fun j d e => ?_⟩
  have hne : i ≠ j := fun q => by rw [q, e] at hn; cases hn
  rw [List.getElem?_set_ne hne]
  exact h.2 j d e
theorem inner_loop (T : Tx P K mg A0) {k : Nat} (hr : Room k (A.deeper (EE fa cdv L))) {c t0 : Str} {ts : List Str} {ws : Work} {i : Nat} {go : Obj} {P' : Pins} (ha : (a, go) ∈ P') (hgo : ∀ h : Heap, h.get? a = some go → h.IsGen a g) (hPL : ∀ q ∈ P', L ≤ q.1)
    {ai Li aw : Addr} {gI : Nat} (hLi : L < Li) (hgg : g < gI) {kk : Result → Sem PySem.Fin} {hd : Option Value} {gg : Bool} {l kp : List Value} {c1 : Code} {p1 : Pos} {fs : List Frame}
    (hov : A.over (innerC fa cdv L ai) (.ret kk hd gg l c1 p1 kp :: fs) = A.deeper (EE fa cdv L)) (hsp : splitAtGen (.ret kk hd gg l c1 p1 kp :: fs) = none) (hgd : (Frame.ret kk hd gg l c1 p1 kp :: fs).any Frame.guarded = false) {restRows : List GRow}
    (hcont : ∀ s0w pins0 gi s, Run P w K mg base fa cdv A outer L g aw (sig3 c t0 ts ws i) P' [] s0w pins0 s → To (model P w) A c1 (kk (.ok .next)) fs s (Good (model P w) A a g base outer L restRows pins0 gi s0w)) :
    ∀ (ir : List GRow), (∀ r ∈ ir, r.length ≤ 900) → ∀ s0w pins0 gi s pI giI, Run P w K mg base fa cdv A outer L g aw (sig3 c t0 ts ws i) P' pI s0w pins0 s → GNow (model P w) (A.deeper (EE fa cdv L)) ai gI base (EE fa cdv L :: outer) Li ir pI giI s →
      To (model P w) A (innerC fa cdv L ai) ((model P w).den (innerC fa cdv L ai)) (.ret kk hd gg l c1 p1 kp :: fs) s (Good (model P w) A a g base outer L (ir.map (fun r => (c, t0) :: r) ++ restRows) pins0 gi s0w) := by
  intro ir
  induction ir with
  | nil =>
    intro _ s0w pins0 gi s pI giI hrun hG
    obtain ⟨⟨s0, H0, F, H, σv, k1, I, hS, hE, hPI, h3w⟩, dd, hge, hL0, hLw, hgs⟩ := hrun
    obtain rfl := k1.sz
    refine to_turn _ rfl ?_
    rw [hov]
    refine wpAny_mono (gsz_any (dead_any (next_row (E := fun _ _ => False) (Q := fun r s1 => r = none ∧ Mv (frs (EE fa cdv s0.heap.objs.size :: outer)) pI s s1) hr.hd I.nolimit hr.depth hG (fun _ s1 m => ⟨rfl, m⟩) (fun r rs h => by cases h)))) (fun r s1 ⟨gz, d1, e, m⟩ => ?_) fun _ _ z => z.2.elim
    subst e
    refine hcont s0w pins0 gi s1 ⟨⟨s0, H0, F, H, σv, k1, ?_, hS, hE, (fun y hy => nomatch hy), h3w⟩, dd.trans d1, hge, hL0, hLw, Nat.lt_of_lt_of_le hgs gz⟩
    exact Inv.ranN I m (fun y hy => ⟨(hPI y hy).1, (hPI y hy).2.1, (hPI y hy).2.2.1⟩) hclG rfl fun q hq => ⟨hq, fun y hy e => (hPI y hy).2.2.2 q hq e.symm⟩
  | cons r0 rs ih =>
    intro hlen s0w pins0 gi s pI giI hrun hG
    obtain ⟨⟨s0, H0, F, H, σv, k1, I, hS, hE, hPI, h3w⟩, dd, hge, hL0, hLw, hgs⟩ := hrun
    obtain rfl := k1.sz
    refine to_turn _ rfl ?_
    rw [hov]
    refine wpAny_mono (dead_any (next_row (E := fun _ _ => False) (Q := fun r s1 => ∃ pr qs pI' gi', r = some (.ref pr) ∧ RowAt pI s s1 pr qs r0 ∧ Mv (frs (EE fa cdv s0.heap.objs.size :: outer)) pI s s1 ∧ PinOk Li (frs (EE fa cdv s0.heap.objs.size :: outer)) s s1 pI pI' (pr :: qs) ∧
      GN (model P w) (A.deeper (EE fa cdv s0.heap.objs.size)) ai gI base (EE fa cdv s0.heap.objs.size :: outer) Li rs pI' gi' s1) hr.hd I.nolimit hr.depth hG (fun h => by cases h) (fun r rs' h pr qs pI' gi' s1 ro m pk _ gn => by cases h; exact ⟨pr, qs, pI', gi', rfl, ro, m, pk, gn⟩))) (fun r s1 ⟨d1, pr, qs, pI', giI', e, ro, m, pk, gn⟩ => ?_) fun _ _ z => z.2.elim
    subst e
    have J : Inv (EX P w K mg base fa cdv A outer s0 H0) P' σv (rowH H pr qs r0) s1 := Inv.ranR I m (fun y hy => ⟨(hPI y hy).1, (hPI y hy).2.1, (hPI y hy).2.2.1⟩) hclG rfl (fun q hq => ⟨hq, fun y hy e => (hPI y hy).2.2.2 q hq e.symm⟩) ro
    have nw : ∀ b, New pI s b → H b = none := fun b n => by
      rcases n with n | ⟨y, hy, n⟩
      · exact none_typed I.hok n
      · rw [← n]; exact (hPI y hy).2.1
    have hp0 : H pr = none := nw pr ro.newp
    have hq0 : ∀ q ∈ qs, H q = none := fun q hq => nw q (ro.newq q hq)
    have hP3 : PinI (EX P w K mg base fa cdv A outer s0 H0) (rowH H pr qs r0) P' pI' := pinI_next I hPI (Nat.le_of_lt hLi) hLi pk
    have hlowf : ∀ b ∈ frs outer, b < s0.heap.objs.size := fun b hb => by
      obtain ⟨_, o, ho, _⟩ := I.ok.funs.mem hb
      exact Heap.lt_size ho
    have J' : Inv (EX P w K mg base fa cdv A outer s0 H0) (P' ++ pI') σv (rowH H pr qs r0) s1 := J.pins_of fun q hq => by
      rcases List.mem_append.mp hq with hq | hq
      · exact J.pin q (List.mem_append_right _ hq)
      · obtain ⟨q1, q2, q3, _⟩ := hP3 q hq
        exact ⟨pk.at_ q hq, q2, q3, fun hm => absurd (Nat.lt_of_lt_of_le (hlowf _ hm) q1) (Nat.lt_irrefl _), pk.nc q hq⟩
    refine wpAny_pure (show wpAny _ _ _ _ _ s1 from ?_)
    obtain ⟨tr, hrow, qrow⟩ := e_row (P := P) (w := w) (K := K) (mg := mg) (base := base) (fa := fa) (cdv := cdv) (A := A) (outer := outer) (s0 := s0) (H0 := H0)
    refine wpAny_mono (dead_any (pg_still (E := fun _ _ => False) (v := .ref pr) hrow J' (show RelV (.ref pr) (.ref pr) from rfl) (qrow (.ref pr) σv _ (fun σ' H' => σ' = σv.set 6 (some (.ref pr)) ∧ H' = rowH H pr qs r0) ⟨rfl, rfl⟩))) (fun _ s2 ⟨d2, ⟨σ', H', J2, e1, e2⟩, st2⟩ => ?_) fun _ _ z => z.2.elim
    subst e1 e2
    intro K2 J2' hag
    rw [fb1b]
    refine to_cons (to_yieldS hsp rfl J2.quiet rfl ?_)
    rw [hov]
    -- the values of the names
    obtain ⟨vc, hvc, rc⟩ := hS.2 1 (.str c) rfl
    obtain rfl : vc = .str c := rc
    obtain ⟨vl, hvl, lp, vs, rfl, hlp, rvs⟩ := hS.2 2 (.lst ((t0 :: ts).map D.str)) rfl
    have hvs := rds_strs_inv rvs
    subst hvs
    have hlen6 : 6 < σv.length := by rw [← hS.1]; exact (show 6 < 7 by decide)
    have fdif : ∀ b o, F b = some o → b ≠ pr ∧ b ∉ qs := fun b o e => ⟨fun q => (by rw [← q, hE b o e] at hp0; cases hp0), fun q => (by have := hq0 b q; rw [hE b o e] at this; cases this)⟩
    have hlpH : rowH H pr qs r0 lp = some (.lst ((t0 :: ts).map V.str)) := by
      obtain ⟨n1, n2⟩ := fdif lp _ hlp
      rw [rowH_ne n1 n2]; exact hE lp _ hlp
    have hqlen : qs.length = r0.length := ro.tup.length
    obtain ⟨ty, hy, qy⟩ := e_yield (w := w) (mg := mg) (base := base) (fa := fa) (cdv := cdv) (A := A) (outer := outer) (s0 := s0) (H0 := H0) T
    refine wpAny_mono (gsz_any (dead_any (pe_still (E := fun _ _ => False) hy J2 (qy (σv.set 6 (some (.ref pr))) (rowH H pr qs r0)
      (fun v H3 => ∃ T1 l1 p, v = .ref p ∧ rowH H pr qs r0 T1 = none ∧ upd (rowH H pr qs r0) T1 (.tup [.str c, .str t0]) l1 = none ∧ upd (upd (rowH H pr qs r0) T1 (.tup [.str c, .str t0])) l1 (.lst [.ref T1]) p = none ∧ H3 = upd (upd (upd (rowH H pr qs r0) T1 (.tup [.str c, .str t0])) l1 (.lst [.ref T1])) p (.lst (.ref T1 :: qs.map V.ref)))
      c t0 lp pr (ts.map V.str) (qs.map V.ref) (by rw [List.getElem?_set_ne (by decide)]; exact hvc) (by rw [List.getElem?_set_ne (by decide)]; exact hvl) hlpH (List.getElem?_set_self hlen6) upd_same
      (by rw [List.length_map, hqlen]; exact Nat.le_trans (hlen r0 List.mem_cons_self) (by decide)) (fun T1 l1 p h1 h2 h3 => ⟨T1, l1, p, rfl, h1, h2, h3, rfl⟩))))) (fun v s3 ⟨_, d3, hep, st3⟩ => ?_) fun _ _ z => z.2.elim
    obtain ⟨x, H3, J3, rx, T1, l1, p, rfl, hT1, hl1, hpn, e3⟩ := hep
    subst e3
    obtain rfl : v = Value.ref p := rx
    intro lv ky py hk
    -- what is new
    have bne : ∀ b o, rowH H pr qs r0 b = some o → b ≠ T1 ∧ b ≠ l1 ∧ b ≠ p := fun b o e => by
      have n1 : b ≠ T1 := fun q => by rw [← q, e] at hT1; cases hT1
      have e1 : upd (rowH H pr qs r0) T1 (.tup [.str c, .str t0]) b = some o := by rw [upd_ne n1]; exact e
      have n2 : b ≠ l1 := fun q => by rw [← q, e1] at hl1; cases hl1
      have e2 : upd (upd (rowH H pr qs r0) T1 (.tup [.str c, .str t0])) l1 (.lst [.ref T1]) b = some o := by rw [upd_ne n2]; exact e1
      exact ⟨n1, n2, fun q => (by rw [← q, e2] at hpn; cases hpn)⟩
    have stay : ∀ b o, rowH H pr qs r0 b = some o → upd (upd (upd (rowH H pr qs r0) T1 (.tup [.str c, .str t0])) l1 (.lst [.ref T1])) p (.lst (.ref T1 :: qs.map V.ref)) b = some o := fun b o e => by
      obtain ⟨n1, n2, n3⟩ := bne b o e
      rw [upd_ne n3, upd_ne n2, upd_ne n1]; exact e
    have hT1p : T1 ≠ p := fun q => by
      by_cases z : T1 = l1
      · rw [← q, z, upd_same] at hpn; cases hpn
      · rw [← q, upd_ne z, upd_same] at hpn; cases hpn
    have hT1l : T1 ≠ l1 := fun q => by rw [← q, upd_same] at hl1; cases hl1
    have hatq := rowH_at (H := H) (p := pr) (row := r0) ro.nd ro.pq hqlen
    have qin : ∀ q ∈ qs, ∃ o, rowH H pr qs r0 q = some o := fun q hq => by
      obtain ⟨j, hj, e⟩ := List.mem_iff_getElem.mp hq
      have hz : (q, r0[j]'(by omega)) ∈ qs.zip r0 := List.mem_iff_getElem.mpr ⟨j, by rw [List.length_zip]; omega, by rw [List.getElem_zip, e]⟩
      exact ⟨_, paired_mem hatq hz⟩
    have T1q : T1 ∉ qs := fun hm => by
      obtain ⟨o, e⟩ := qin T1 hm
      rw [hT1] at e; cases e
    have hFH : ∀ b o, F b = some o → rowH H pr qs r0 b = some o := fun b o e => by
      obtain ⟨n1, n2⟩ := fdif b o e
      rw [rowH_ne n1 n2]; exact hE b o e
    have gS := SRel.set_out (i := 6) (v := .ref pr) hS rfl
    have ddd : Dead s0w s3 := ((dd.trans d1).trans d2).trans d3
    obtain ⟨pins', ra, mv, pk', ho', hge', hL', wake⟩ := sleep (a := a) (g := g) (gi := gI :: giI') (row := (c, t0) :: r0) (p := p) (qs := T1 :: qs) k1 J3 gS (datS3 c t0 ts ws i) (fun b o e => stay b o (hFH b o e)) ddd hge hL0 hLw
      (fun q hq => (List.mem_append.mp hq).elim (hPL q) fun z => Nat.le_trans (Nat.le_of_lt hLi) (pk.ge q z)) ⟨go, List.mem_append_left _ ha⟩ ecl
      upd_same (.cons (by rw [upd_ne hT1p, upd_ne hT1l, upd_same]) (Paired.mapP hatq fun q x e => stay q _ e))
      (by cases e : F p with
        | none => rfl
        | some o => exact absurd rfl (bne p o (hFH p o e)).2.2)
      (fun q hq => by
        rcases List.mem_cons.mp hq with e | hq
        · rw [e]
          cases e2 : F T1 with
          | none => rfl
          | some o => exact absurd rfl (bne T1 o (hFH T1 o e2)).1
        · cases e2 : F q with
          | none => rfl
          | some o => exact absurd hq (fdif q o e2).2)
      (List.nodup_cons.mpr ⟨T1q, ro.nd⟩) (fun hm => by
        rcases List.mem_cons.mp hm with e | hm
        · exact hT1p e.symm
        · obtain ⟨o, e⟩ := qin p hm
          exact (bne p o e).2.2 rfl)
    have st : ∀ i', Sleeps s1.gens i' → s3.gens[i']? = s1.gens[i']? := fun i' hi => by
      have e2 := st2 i' hi
      have hi2 : Sleeps s2.gens i' := by
        obtain ⟨k', l', c', p', f', cl, e⟩ := hi
        exact ⟨k', l', c', p', f', cl, e2.trans e⟩
      exact (st3 i' hi2).trans e2
    have gtg : ∀ i' ∈ gI :: giI', g < i' := fun i' hi => by
      rcases List.mem_cons.mp hi with e | hi
      · rw [e]; exact hgg
      · exact Nat.lt_trans hgg (gn.gt i' hi)
    rw [List.map_cons, List.cons_append]
    refine ⟨_, lv, ky, _, py, _, p, T1 :: qs, pins', gI :: giI', rfl, hgd, rfl, ra, mv, pk', hgo _ (J3.pin (a, go) (List.mem_append_right _ (List.mem_append_left _ ha))).1, ho', fun i' hi => ⟨gtg i' hi, ?_⟩, fun w3 sl hgw => ?_⟩
    · have hs := gn.slp i' hi
      have e3 := st i' hs
      obtain ⟨k', l', c', p', f', cl, e⟩ := hs
      exact ⟨k', l', c', p', f', cl, e3.trans e⟩
    · obtain ⟨hLw3, s0', H0', F', k1', I', hS'⟩ := wake w3 sl
      refine hk _ _ (hag _ _ ?_)
      have hI'P : ∀ y ∈ pI', w3.heap.get? y.1 = some y.2 ∧ F' y.1 = none ∧ y.1 ≠ s0.heap.objs.size := fun y hy => by
        obtain ⟨h1, h2, h3, _⟩ := I'.pin y (List.mem_append_right _ (List.mem_append_right _ hy))
        exact ⟨h1, h2, by rw [← k1'.sz]; exact h3⟩
      have hset : ∀ i', g < i' → (w3.setGen g .running).gens[i']? = w3.gens[i']? := fun i' hi => by
        show (w3.gens.setIfInBounds g _)[i']? = _
        rw [Array.getElem?_setIfInBounds_ne (Nat.ne_of_lt hi)]
      refine ih (fun r hr' => hlen r (List.mem_cons_of_mem _ hr')) w3 pins' (gI :: giI') (w3.setGen g .running) pI' giI' ⟨⟨s0', H0', F', F', _, k1', ?_, hS', Ex.refl _, fun y hy => ?_, by rw [List.getElem?_set_ne (by decide)]; exact h3w⟩, ⟨Nat.le_refl _, fun _ _ h => h⟩, hge', hL', hLw3, by rw [setGen_size]; exact hgw⟩ (gn.now _ ⟨?_, I'.bare, fun y hy => (hI'P y hy).1, fun i' hi => ?_, sl.bs, ?_⟩)
      · exact I'.pins_of fun q hq => I'.pin q (List.mem_append_right _ (List.mem_append_left _ hq))
      · refine ⟨?_, (hI'P y hy).2.1, ?_, (hP3 y hy).2.2.2⟩
        · show s0'.heap.objs.size ≤ y.1
          rw [k1'.sz]; exact Nat.le_trans (Nat.le_of_lt hLi) (pk.ge y hy)
        · show y.1 ≠ s0'.heap.objs.size
          rw [k1'.sz]; exact (hI'P y hy).2.2
      · exact sl.os.trans (J3.os.trans J.os.symm)
      · exact (hset i' (gtg i' hi)).trans ((sl.gen i' hi).trans (st i' (gn.slp i' hi)))
      · have := I'.stack
        rw [show (EX P w K mg base fa cdv A outer s0' H0').stack = EE fa cdv s0.heap.objs.size :: outer from by show EE fa cdv s0'.heap.objs.size :: outer = _; rw [k1'.sz]] at this
        exact this
end
end LW
set_option pp.maxSteps 1500
set_option Elab.async false
set_option linter.all false
set_option maxRecDepth 100000
set_option maxHeartbeats 4000000
namespace LW
open PySem L2 T3
open Evl (Ex)
local macro_rules | `(tactic| walk_at "t3") => `(tactic| first
  | (with_reducible refine s_seq ?_) | (with_reducible refine s_asg ?_) | (with_reducible refine s_if ?_) | (with_reducible refine s_ret ?_) | (with_reducible refine s_drop ?_) | (with_reducible refine s_asgG ?_) | (with_reducible refine s_retN ?_)
  | (with_reducible refine s_next ?_) | (with_reducible refine s_brk ?_) | (with_reducible refine s_cont ?_) | (with_reducible refine s_par ?_) | (with_reducible refine s_fld ?_)
  | ((with_reducible refine' w_var ?hx ?_); (case hx => exact rfl)) | (with_reducible refine w_cI ?_) | (with_reducible refine w_cB ?_) | (with_reducible refine w_cS ?_) | (with_reducible refine w_cN ?_) | (with_reducible refine w_cT ?_) | (with_reducible refine w_cR ?_)
  | (with_reducible refine w_op ?_) | (with_reducible refine w_un ?_) | (with_reducible refine w_nil ?_) | (with_reducible refine w_tup ?_) | (with_reducible refine w_cons ?_) | (with_reducible refine w_cb ?_) | (with_reducible refine w_bm0 ?_) | (with_reducible refine w_bm ?_)
  | (with_reducible refine w_test ?_) | (with_reducible refine w_B ?_) | (with_reducible refine w_notT ?_) | (with_reducible refine w_yes ?_) | (with_reducible refine w_notV ?_)
  | (with_reducible refine w_ifE ?_) | (with_reducible refine w_isN ?_) | (with_reducible refine w_notN ?_) | (with_reducible refine w_tr ?_) | (with_reducible refine w_chain ?_) | (with_reducible refine w_fld ?_) | (with_reducible refine w_sl ?_) | (with_reducible refine o_no ?_) | (with_reducible refine o_some ?_)
  | (with_reducible refine w_call0 ?_) | (with_reducible refine g_name ?_) | ((with_reducible refine' g_tup ?hx ?hy ?_); (case hx => exact rfl); (case hy => exact rfl)) | (with_reducible refine g_cons ?_) | (with_reducible refine g_nil ?_) | (with_reducible refine g_set ?_)
  | (with_reducible refine r3_add_ii ?_) | (with_reducible refine r3_sub ?_) | (with_reducible refine r3_lt ?_) | (with_reducible refine r3_le ?_) | (with_reducible refine r3_gt ?_) | (with_reducible refine r3_ge ?_) | (with_reducible refine u3_neg ?_)
  | (with_reducible refine c3_int_i ?_) | (with_reducible refine c3_int_b ?_) | (with_reducible refine c3_abs ?_) | (with_reducible refine c3_len_t ?_) | (with_reducible refine c3_len .fz ?_) | (with_reducible refine c3_max2 ?_) | (with_reducible refine c3_min2 ?_)
  | (with_reducible refine r3_eq (n := 9) (m := 9) okD_int okD_int ?_) | (with_reducible refine r3_ne (n := 9) (m := 9) okD_int okD_int ?_)
  | ((with_reducible refine' Exists.intro _ (And.intro ?hx ?_)); (case hx => exact rfl))
  | ((with_reducible refine' And.intro ?hx ?_); (case hx => (show List.length _ ≤ 100000); exact Nat.le_of_ble_eq_true rfl))
  | (with_reducible refine c3_lenL (c3_len_t ?_)) | (with_reducible refine c3_lenL (c3_len .fz ?_)))

section
variable {P : Program} {w : World} {K : PySem.W.Frag} {mg : Str → Option Value} {base : Heap} {A0 : Adr}

open GenF PyProof.Rows GenW
/-- every_row: the rows of a work of m dips -/
def S_every (m : Nat) : SpX := fun vs H cont => ∃ (x : D) (v : V) (F : Hp) (M : Mem) (wk : Work), vs = [v] ∧ St3 F M H ∧ RD F x v ∧ LstD M x (wk.map eD) ∧ WOk wk ∧ wlen wk = m ∧ cont (rowsN m wk) H
variable {fa : Addr} {cdv : Value} {A : Around} {outer : List Env} {L a : Addr} {g : Nat}
theorem e_call (T : Tx P K mg A0) {s0 : Shared} {H0 : Hp} {m k : Nat} (IH : GFnX P w K mg base k A0.f_every_row A0.d_every_row ["work"] (S_every m)) (hr : Room k (A.deeper (envOfC "every_row" (defScope s_every_row) s0.heap.objs.size fa cdv))) :
    PGx (EX P w K mg base fa cdv A outer s0 H0) (sIter (fb 1)) (tCallX (S_every m) [] (tCons (tVar 5) tNil)) :=
  pgx_call IH hr (by rfl) T.g_every_row T.k_every_row T.b_every_row .nil (pa_cons (pv 5) pa_nil)
abbrev sigO (ws : Work) : Sig := [none, none, none, some (.lst (ws.map eD)), none, none, none]
abbrev outerC (fa : Addr) (cdv : Value) (L it : Addr) : Code := .forLoop (sTgt (eb 2)) (.ref it) (sBody (eb 2)) [] (EE fa cdv L)
abbrev codeE (fa : Addr) (cdv : Value) (L : Addr) : Code := .func (defBody s_every_row) (EE fa cdv L)
theorem sig_weak {F : Hp} {c t0 : Str} {ts : List Str} {ws : Work} {i : Nat} {σv : L2.St} (h : T3.SRel F (sig3 c t0 ts ws i) σv) : T3.SRel F (sigO ws) σv := by
  refine ⟨h.1, fun j d e => h.2 j d ?_⟩
  match j with
  | 0 => cases e
  | 1 => cases e
  | 2 => cases e
  | 3 => exact e
  | 4 => cases e
  | 5 => cases e
  | 6 => cases e
  | j + 7 => simp at e
abbrev M0 : Mem := fun _ => Option.none
theorem st0 {F H : Hp} (h : Ex F H) : St3 F M0 H := ⟨h, fun _ _ e => nomatch e⟩
theorem exB {F : Hp} : Ex (fun _ => Option.none) F := fun _ _ h => nomatch h
theorem paired_rds {F : Hp} : ∀ {ws : Work} {vs : List V} {i : Nat} {x : Str × List Str}, RDs F (ws.map eD) vs → ws[i]? = some x → ∃ v, vs[i]? = some v ∧ RD F (eD x) v := fun {ws vs i x} r e =>
  r.at (by rw [List.getElem?_map, e]; rfl)
variable (P w K mg base fa cdv A outer L g) in
/-- at the head of the loop's turn i -/
def RunO (aw : Addr) (ws : Work) (P0 : Pins) (fp : List Addr) (tn : Nat → Heap → Prop) (i : Nat) (s0w : Shared) (pins0 : Pins) (s : Shared) : Prop :=
  (∃ s0 H0 F H σv, WkI outer L s0w pins0 s0 H0 F ∧ Inv (EX P w K mg base fa cdv A outer s0 H0) P0 σv H s ∧ T3.SRel F (sigO ws) σv ∧ Ex F H ∧ σv[3]? = some (some (.ref aw)) ∧ tn i s.heap ∧ ∀ b ∈ fp, FpOk (EX P w K mg base fa cdv A outer s0 H0) P0 H b) ∧
  Dead s0w s ∧ (∀ y ∈ pins0, L ≤ y.1) ∧ (∃ y ∈ pins0, y.1 = L) ∧ L < s0w.heap.objs.size ∧ g < s.gens.size
theorem outer_loop (T : Tx P K mg A0) {k m : Nat} (hr : Room k (A.deeper (EE fa cdv L))) {ws : Work} (ok : WOk ws) (hpos : ∀ x ∈ ws, 0 < x.2.length) (hm : m ≤ 900) (hwl : ws ≠ [] → wlen ws = m + 1) (IH : ws ≠ [] → GFnX P w K mg base k A0.f_every_row A0.d_every_row ["work"] (S_every m))
    {go : Obj} (hgo : ∀ h : Heap, h.get? a = some go → h.IsGen a g) (hLa : L ≤ a) {aw it : Addr} {fp : List Addr} {tn : Nat → Heap → Prop} (hT : Turn P w K (sTgt (eb 2)) (Ite K aw) fp it tn)
    {K1 : Flow → Sem PySem.Fin} {J1 : Value → Sem PySem.Fin} {p1 : Pos} (hend : ∀ s Φ, To (model P w) A (codeE fa cdv L) (.pure (.done (.ret .none))) [] s Φ → To (model P w) A (codeE fa cdv L) (K1 .next) [] s Φ) :
    ∀ (xs : Work) (i : Nat), ws.drop i = xs → ∀ s0w pins0 gi s, RunO P w K mg base fa cdv A outer L g aw ws [(a, go)] fp tn i s0w pins0 s →
      To (model P w) A (outerC fa cdv L it) ((model P w).den (outerC fa cdv L it)) [forFrame (EE fa cdv L) K1 J1 id id (codeE fa cdv L) p1] s (Good (model P w) A a g base outer L (rowsFrom (rowsN m) ws i xs) pins0 gi s0w) := by
  have hov : ∀ it', A.over (outerC fa cdv L it') [forFrame (EE fa cdv L) K1 J1 id id (codeE fa cdv L) p1] = A.deeper (EE fa cdv L) := fun it' => (over_loop (c := codeE fa cdv L) rfl rfl).trans over_func
  intro xs
  induction xs with
  | nil =>
    intro i hi s0w pins0 gi s hrun
    obtain ⟨⟨s0, H0, F, H, σv, k1, I, hS, hE, h3w, htn, hfp⟩, dd, hge, hL0, hLw, hgs⟩ := hrun
    obtain rfl := k1.sz
    obtain ⟨vw, hvw, aw', vs, ew, hFw, rvs⟩ := hS.2 3 (.lst (ws.map eD)) rfl
    rw [h3w] at hvw; cases hvw; cases ew
    have hlen : vs.length ≤ i := by
      rw [← rvs.length, List.length_map]
      have := congrArg List.length hi
      rw [List.length_drop, List.length_nil] at this; omega
    refine to_turn _ rfl ?_
    rw [hov]
    refine wpAny_mono (hT.done (EX P w K mg base fa cdv A outer s0 H0) rfl rfl rfl rfl i _ s σv H No I hfp htn ⟨vs, .of (hE _ _ hFw), hlen⟩) (fun r s1 ⟨e, I1⟩ => ?_) fun _ _ z => z
    subst e
    refine hend s1 _ (to_end (.ok (.ret .none)) ⟨.inl rfl, mv_of k1 I1 hE⟩)
  | cons x xs ih =>
    intro i hi s0w pins0 gi s hrun
    obtain ⟨⟨s0, H0, F, H, σv, k1, I, hS, hE, h3w, htn, hfp⟩, dd, hge, hL0, hLw, hgs⟩ := hrun
    obtain rfl := k1.sz
    have hix : ws[i]? = some x := by
      have := congrArg List.head? hi
      rwa [List.head?_drop] at this
    have hws : ws ≠ [] := fun e => by rw [e] at hix; simp at hix
    obtain ⟨c, ps⟩ := x
    have hps := hpos _ (List.mem_of_getElem? hix)
    obtain ⟨t0, ts, rfl⟩ : ∃ t0 ts, ps = t0 :: ts := by
      cases ps with
      | nil => exact absurd hps (Nat.lt_irrefl _)
      | cons t0 ts => exact ⟨t0, ts, rfl⟩
    obtain ⟨vw, hvw, aw', vs, ew, hFw, rvs⟩ := hS.2 3 (.lst (ws.map eD)) rfl
    rw [h3w] at hvw; cases hvw; cases ew
    obtain ⟨vi, hvi, rvi⟩ := paired_rds rvs hix
    refine to_turn _ rfl ?_
    rw [hov]
    refine wpAny_mono (gsz_any (dead_any (hT.item (EX P w K mg base fa cdv A outer s0 H0) rfl rfl rfl rfl i _ s σv H No I hfp htn ⟨vs, vi, .of (hE _ _ hFw), hvi⟩))) (fun r s1 ⟨g1, d1, u, e, h1⟩ => ?_) fun _ _ z => z.2.elim
    subst e
    refine wpAny_mono (gsz_any (dead_any h1)) (fun _ s2 ⟨g2, d2, xv, H2, I2, ru, hy, tn2, fp2⟩ => ?_) fun _ _ z => z.2.elim
    obtain ⟨T1, x1, rfl, hT1, rfl, hx1⟩ := hy
    have ex1 : x1 = vi := by
      have := hx1 vs (.of (hE _ _ hFw))
      rw [hvi] at this; cases this; rfl
    subst ex1
    have stat : ∀ b ∈ fp, FpOk (EX P w K mg base fa cdv A outer s0 H0) [(a, go)] (upd H T1 (.tup [.int (i : Nat), x1])) b := fun b hb => ⟨fp2 b hb, (hfp b hb).2⟩
    have I2' := I2.pinned stat (hT.obj _ _ tn2)
    have fT : F T1 = none := Evl.fresh_back hE hT1
    have hE2 : Ex (upd F T1 (.tup [.int (i : Nat), x1])) (upd H T1 (.tup [.int (i : Nat), x1])) := fun b o e => by
      by_cases q : b = T1
      · subst q; rw [upd_same] at e ⊢; exact e
      · rw [upd_ne q] at e ⊢; exact hE b o e
    have eF : Ex F (upd F T1 (.tup [.int (i : Nat), x1])) := Ex.new fT
    obtain ⟨qa, avs, rfl, hqa, hr2⟩ := rvi
    obtain ⟨_, _, rfl, rc, _, _, rfl, ⟨la, lvs, rfl, hla, rls⟩, rnil⟩ := hr2
    have rc : _ = V.str c := rc
    subst rc
    have rnil : _ = ([] : List V) := rnil
    subst rnil
    obtain ⟨tg, hg1, qg⟩ := e_tgt (w := w) (mg := mg) (base := base) (fa := fa) (cdv := cdv) (A := A) (outer := outer) (s0 := s0) (H0 := H0) T
    refine wpAny_mono (gsz_any (dead_any (pg_still (E := fun _ _ => False) (v := .ref T1) hg1 I2' ru (qg σv _ (fun σ' H' => σ' = ((σv.set 4 (some (.int i))).set 1 (some (.str c))).set 2 (some (.ref la)) ∧ H' = upd H T1 (.tup [.int (i : Nat), .ref qa])) T1 qa la i c upd_same (hE2 _ _ (eF _ _ hqa)) ⟨rfl, rfl⟩)))) (fun _ s3 hs3 => ?_) fun _ _ z => z.2.elim
    obtain ⟨g3, d3, ⟨σ3, H3, I3, e31, e32⟩, _⟩ := hs3
    subst e31 e32
    have S3 : T3.SRel (upd F T1 (.tup [.int (i : Nat), .ref qa])) [none, some (.str c), some (.lst ((t0 :: ts).map D.str)), some (.lst (ws.map eD)), some (.int i), none, none] (((σv.set 4 (some (.int i))).set 1 (some (.str c))).set 2 (some (.ref la))) :=
      T3.SRel.set (T3.SRel.set (T3.SRel.set (hS.mono eF) (i := 4) (d := .int i) rfl) (i := 1) (d := .str c) rfl) (i := 2) (d := .lst ((t0 :: ts).map D.str)) ⟨la, _, rfl, eF _ _ hla, rls.mono eF⟩
    intro K2 J2 hag
    rw [eb2b]
    -- rest = ..
    obtain ⟨tr, hr1, qr⟩ := e_rest (w := w) (mg := mg) (base := base) (fa := fa) (cdv := cdv) (A := A) (outer := outer) (s0 := s0) (H0 := H0) T hr
    refine to_cons (to_wrap0 ?_)
    rw [hov]
    refine wpAny_mono (gsz_any (dead_any (ps_still (E := fun _ _ => False) hr1 I3 (qr _ _ _ (fun σ' H' => ∃ F' M' v, σ' = (((σv.set 4 (some (.int i))).set 1 (some (.str c))).set 2 (some (.ref la))).set 5 (some v) ∧ Ex (upd F T1 (.tup [.int (i : Nat), .ref qa])) F' ∧ St3 F' M' H' ∧ RD F' (.lst ((restW ws i (c, t0 :: ts)).map eD)) v) ws i (c, t0 :: ts) ok hix S3 hE2 fun F' M' v H' e s r => ⟨F', M', v, rfl, e, s, r⟩)))) (fun f s4 ⟨g4, d4, sp, _⟩ => ?_) fun _ _ z => z.2.elim
    cases f with
    | brk => obtain ⟨_, _, _, z⟩ := sp; exact z.elim
    | cont => obtain ⟨_, _, _, z⟩ := sp; exact z.elim
    | ret u => obtain ⟨_, _, _, _, _, z⟩ := sp; exact z.elim
    | next =>
    obtain ⟨σ4, H4, I4, F4, M4, v5, eσ4, e4, St4, r5⟩ := sp
    have S4 : T3.SRel F4 [none, some (.str c), some (.lst ((t0 :: ts).map D.str)), some (.lst (ws.map eD)), some (.int i), some (.lst ((restW ws i (c, t0 :: ts)).map eD)), none] σ4 := by
      rw [eσ4]
      exact T3.SRel.set (S3.mono e4) (i := 5) r5
    -- for row in every_row(rest)
    refine to_cons ?_
    rw [fb1]
    obtain ⟨v5, hv5, r5⟩ := S4.2 5 (.lst ((restW ws i (c, t0 :: ts)).map eD)) rfl
    have hlr : wlen (restW ws i (c, t0 :: ts)) = m := by
      have h1 := wlen_rest hix hps
      have h2 := hwl hws
      omega
    refine to_for (fun _ => rfl) ?_
    rw [hov]
    refine wpAny_mono (gsz_any (dead_any ((e_call (outer := outer) (H0 := H0) T (IH hws) hr).run _ s4 σ4 H4 (fun rows Hx => rows = rowsN m (restW ws i (c, t0 :: ts)) ∧ Hx = H4) I4
      ⟨v5, hv5, .lst ((restW ws i (c, t0 :: ts)).map eD), v5, F4, M4, restW ws i (c, t0 :: ts), rfl, St4, r5, .fz, ok.rest hix, hlr, rfl, rfl⟩))) (fun uv s5 ⟨g5, d5, hs5⟩ => ?_) fun _ _ z => z.2.elim
    obtain ⟨ai, gI, Li, rows, pI, giI, H5, rfl, I5, G5, hL5, hl5, hP5, _, hgI, rfl, rfl⟩ := hs5
    refine wpAny_pyIter_gen G5.gen ?_
    intro p2
    have hP' : ∀ q ∈ (a, go) :: pinsAt fp s2.heap, s0.heap.objs.size ≤ q.1 := fun q hq => by
      rcases List.mem_cons.mp hq with e | hq
      · rw [e]; exact hLa
      · rcases (hfp _ (of_pinsAt hq).1).2.2.2.1 with z | z
        · cases z
        · exact z
    have e45 : Ex F F4 := eF.trans e4
    have gs5 : g < s4.gens.size := Nat.lt_of_lt_of_le hgs (Nat.le_trans g1 (Nat.le_trans g2 (Nat.le_trans g3 g4)))
    have dd5 : Dead s0w s5 := ((((dd.trans d1).trans d2).trans d3).trans d4).trans d5
    have h34 : σ4[3]? = some (some (.ref aw)) := by
      rw [eσ4, List.getElem?_set_ne (by decide), List.getElem?_set_ne (by decide), List.getElem?_set_ne (by decide), List.getElem?_set_ne (by decide)]
      exact h3w
    refine inner_loop (aw := aw) (c := c) (t0 := t0) (ts := ts) (ws := ws) (i := i) T hr (P' := (a, go) :: pinsAt fp s2.heap) List.mem_cons_self hgo hP' hl5 (Nat.lt_of_lt_of_le gs5 hgI) ((over_loop (c := outerC fa cdv s0.heap.objs.size it) rfl rfl).trans (hov it)) rfl rfl
      (fun s0w' pins0' gi' s6 hrun => ?_) (rowsN m (restW ws i (c, t0 :: ts))) (fun r hr' => Nat.le_trans (rows_len m _ r hr') hm) s0w pins0 gi s5 pI giI
      ⟨⟨s0, H0, F4, _, σ4, k1.mono e45, I5, ?_, St4.fz, hP5, h34⟩, dd5, hge, hL0, hLw, Nat.lt_of_lt_of_le gs5 g5⟩ G5
    · show To (model P w) A _ (K2 .next) _ s6 _
      refine hag _ _ (ih (i + 1) ?_ s0w' pins0' gi' s6 ?_)
      · have := congrArg List.tail hi
        rw [List.tail_drop] at this
        exact this
      · obtain ⟨⟨s0', H0', F', H', σ', k1', I', S', hE', _, h3'⟩, dd', hge', hL0', hLw', hgs'⟩ := hrun
        refine ⟨⟨s0', H0', F', H', σ', k1', ?_, sig_weak S', hE', h3', ?_, fun b hb => ?_⟩, dd', hge', hL0', hLw', hgs'⟩
        · exact I'.pins_of fun q hq => I'.pin q (List.mem_append_right _ (by rw [List.mem_singleton.mp hq]; exact List.mem_cons_self))
        · exact hT.keep _ _ _ tn2 fun b hb o e => (I'.pin (b, o) (List.mem_append_right _ (List.mem_cons_of_mem _ (mem_pinsAt hb e)))).1
        · obtain ⟨o, e, _⟩ := hT.obj _ _ tn2 b hb
          obtain ⟨_, p2, p3, p4, _⟩ := I'.pin (b, o) (List.mem_append_right _ (List.mem_cons_of_mem _ (mem_pinsAt hb e)))
          obtain ⟨_, _, _, f4, _, f6⟩ := hfp b hb
          refine ⟨p2, p3, p4, ?_, fun x cc e2 => (by rw [hclE x] at e2; cases e2), fun q hq => f6 q hq⟩
          rcases f4 with z | z
          · cases z
          · refine .inr ?_
            show s0'.heap.objs.size ≤ b
            rw [k1'.sz]; exact z
    · refine ⟨S4.1, fun j d e => S4.2 j d ?_⟩
      match j with
      | 0 => cases e
      | 1 => exact e
      | 2 => exact e
      | 3 => exact e
      | 4 => exact e
      | 5 => cases e
      | 6 => cases e
      | j + 7 => simp at e
end
end LW
set_option pp.maxSteps 1500
set_option Elab.async false
set_option linter.all false
set_option maxRecDepth 100000
set_option maxHeartbeats 4000000
namespace LW
open PySem L2 T3
open Evl (Ex)
local macro_rules | `(tactic| walk_at "t3") => `(tactic| first
  | (with_reducible refine s_seq ?_) | (with_reducible refine s_asg ?_) | (with_reducible refine s_if ?_) | (with_reducible refine s_ret ?_) | (with_reducible refine s_drop ?_) | (with_reducible refine s_asgG ?_) | (with_reducible refine s_retN ?_)
  | (with_reducible refine s_next ?_) | (with_reducible refine s_brk ?_) | (with_reducible refine s_cont ?_) | (with_reducible refine s_par ?_) | (with_reducible refine s_fld ?_)
  | ((with_reducible refine' w_var ?hx ?_); (case hx => exact rfl)) | (with_reducible refine w_cI ?_) | (with_reducible refine w_cB ?_) | (with_reducible refine w_cS ?_) | (with_reducible refine w_cN ?_) | (with_reducible refine w_cT ?_) | (with_reducible refine w_cR ?_)
  | (with_reducible refine w_op ?_) | (with_reducible refine w_un ?_) | (with_reducible refine w_nil ?_) | (with_reducible refine w_tup ?_) | (with_reducible refine w_cons ?_) | (with_reducible refine w_cb ?_) | (with_reducible refine w_bm0 ?_) | (with_reducible refine w_bm ?_)
  | (with_reducible refine w_test ?_) | (with_reducible refine w_B ?_) | (with_reducible refine w_notT ?_) | (with_reducible refine w_yes ?_) | (with_reducible refine w_notV ?_)
  | (with_reducible refine w_ifE ?_) | (with_reducible refine w_isN ?_) | (with_reducible refine w_notN ?_) | (with_reducible refine w_tr ?_) | (with_reducible refine w_chain ?_) | (with_reducible refine w_fld ?_) | (with_reducible refine w_sl ?_) | (with_reducible refine o_no ?_) | (with_reducible refine o_some ?_)
  | (with_reducible refine w_call0 ?_) | (with_reducible refine g_name ?_) | ((with_reducible refine' g_tup ?hx ?hy ?_); (case hx => exact rfl); (case hy => exact rfl)) | (with_reducible refine g_cons ?_) | (with_reducible refine g_nil ?_) | (with_reducible refine g_set ?_)
  | (with_reducible refine r3_add_ii ?_) | (with_reducible refine r3_sub ?_) | (with_reducible refine r3_lt ?_) | (with_reducible refine r3_le ?_) | (with_reducible refine r3_gt ?_) | (with_reducible refine r3_ge ?_) | (with_reducible refine u3_neg ?_)
  | (with_reducible refine c3_int_i ?_) | (with_reducible refine c3_int_b ?_) | (with_reducible refine c3_abs ?_) | (with_reducible refine c3_len_t ?_) | (with_reducible refine c3_len .fz ?_) | (with_reducible refine c3_max2 ?_) | (with_reducible refine c3_min2 ?_)
  | (with_reducible refine r3_eq (n := 9) (m := 9) okD_int okD_int ?_) | (with_reducible refine r3_ne (n := 9) (m := 9) okD_int okD_int ?_)
  | ((with_reducible refine' Exists.intro _ (And.intro ?hx ?_)); (case hx => exact rfl))
  | ((with_reducible refine' And.intro ?hx ?_); (case hx => (show List.length _ ≤ 100000); exact Nat.le_of_ble_eq_true rfl))
  | (with_reducible refine c3_lenL (c3_len_t ?_)) | (with_reducible refine c3_lenL (c3_len .fz ?_)))

section
variable {P : Program} {w : World} {K : PySem.W.Frag} {mg : Str → Option Value} {base : Heap} {A0 : Adr}

open GenF PyProof.Rows GenW
variable {fa : Addr} {cdv : Value} {A : Around} {outer : List Env} {L a : Addr} {g : Nat}
theorem ov_func : A.over (codeE fa cdv L) [] = A.deeper (EE fa cdv L) := over_func
theorem to_eb2 (T : Tx P K mg A0) {k m : Nat} (hr : Room k (A.deeper (EE fa cdv L))) {ws : Work} (ok : WOk ws) (hpos : ∀ x ∈ ws, 0 < x.2.length) (hm : m ≤ 900) (hwl : ws ≠ [] → wlen ws = m + 1) (IH : ws ≠ [] → GFnX P w K mg base k A0.f_every_row A0.d_every_row ["work"] (S_every m))
    {go : Obj} (hgo : ∀ h : Heap, h.get? a = some go → h.IsGen a g) (hLa : L ≤ a) {aw : Addr} {K1 : Flow → Sem PySem.Fin} {J1 : Value → Sem PySem.Fin} (hend : ∀ s Φ, To (model P w) A (codeE fa cdv L) (.pure (.done (.ret .none))) [] s Φ → To (model P w) A (codeE fa cdv L) (K1 .next) [] s Φ)
    {s0w : Shared} {pins0 : Pins} {gi : List Nat} {s : Shared} (hrun : Run P w K mg base fa cdv A outer L g aw (sigO ws) [(a, go)] [] s0w pins0 s) :
    To (model P w) A (codeE fa cdv L) ((exec (eb 2) (EE fa cdv L)).wrap K1 J1 id id) [] s (Good (model P w) A a g base outer L (rowsFrom (rowsN m) ws 0 ws) pins0 gi s0w) := by
  obtain ⟨⟨s0, H0, F, H, σv, k1, I, hS, hE, _, h3w⟩, dd, hge, hL0, hLw, hgs⟩ := hrun
  obtain rfl := k1.sz
  obtain ⟨vw, hvw, aw', vs, ew, hFw, rvs⟩ := hS.2 3 (.lst (ws.map eD)) rfl
  rw [h3w] at hvw; cases hvw; cases ew
  obtain ⟨te, he, qe⟩ := e_enum (w := w) (mg := mg) (base := base) (fa := fa) (cdv := cdv) (A := A) (outer := outer) (s0 := s0) (H0 := H0) T hr
  rw [eb2]
  refine to_for (fun _ => rfl) ?_
  rw [ov_func]
  refine wpAny_mono (gsz_any (dead_any (he.run _ s σv H (fun J H' => J = Ite K aw ∧ H' = H) (I.wish _) (qe σv H _ aw vs h3w (hE _ _ hFw) ⟨rfl, rfl⟩)))) (fun v s1 ⟨g1, d1, h1⟩ => ?_) fun _ _ z => z.2.elim
  refine wpAny_mono (gsz_any (dead_any h1)) (fun itv s2 ⟨g2, d2, h2⟩ => ?_) fun _ _ z => z.2.elim
  obtain ⟨it, fp, tn, J, H', rfl, I2, hT, htn, hfp, rfl, rfl⟩ := h2
  intro p
  exact outer_loop T hr ok hpos hm hwl IH hgo hLa hT hend ws 0 (List.drop_zero) s0w pins0 gi s2 ⟨⟨s0, H0, F, _, σv, k1, I2.unwish, hS, hE, h3w, htn, hfp⟩, (dd.trans d1).trans d2, hge, hL0, hLw, Nat.lt_of_lt_of_le hgs (Nat.le_trans g1 g2)⟩
theorem to_eb12 (T : Tx P K mg A0) {k m : Nat} (hr : Room k (A.deeper (EE fa cdv L))) {ws : Work} (ok : WOk ws) (hpos : ∀ x ∈ ws, 0 < x.2.length) (hm : m ≤ 900) (hwl : ws ≠ [] → wlen ws = m + 1) (IH : ws ≠ [] → GFnX P w K mg base k A0.f_every_row A0.d_every_row ["work"] (S_every m))
    {go : Obj} (hgo : ∀ h : Heap, h.get? a = some go → h.IsGen a g) (hLa : L ≤ a) {aw : Addr} {K1 : Flow → Sem PySem.Fin} {J1 : Value → Sem PySem.Fin} (hend : ∀ s Φ, To (model P w) A (codeE fa cdv L) (.pure (.done (.ret .none))) [] s Φ → To (model P w) A (codeE fa cdv L) (K1 .next) [] s Φ)
    {s0w : Shared} {pins0 : Pins} {gi : List Nat} {s : Shared} (hrun : Run P w K mg base fa cdv A outer L g aw (sigO ws) [(a, go)] [] s0w pins0 s) :
    To (model P w) A (codeE fa cdv L) ((execs [eb 1, eb 2] (EE fa cdv L)).wrap K1 J1 id id) [] s (Good (model P w) A a g base outer L ((if ws.isEmpty then [[]] else []) ++ rowsFrom (rowsN m) ws 0 ws) pins0 gi s0w) := by
  have hrun0 := hrun
  obtain ⟨⟨s0, H0, F, H, σv, k1, I, hS, hE, _, h3w⟩, dd, hge, hL0, hLw, hgs⟩ := hrun
  obtain rfl := k1.sz
  obtain ⟨tt, ht, qt⟩ := e_test (w := w) (mg := mg) (base := base) (fa := fa) (cdv := cdv) (A := A) (outer := outer) (s0 := s0) (H0 := H0) T
  refine to_cons ?_
  rw [eb1]
  refine to_if ?_
  rw [ov_func]
  refine wpAny_mono (run_t (E := fun _ _ => False) ht (qt (fun _ => Option.none) M0 (sigO ws) (ws.map eD) rfl) exB I hS (st0 hE)) (fun b s1 ⟨⟨F1, H1, M1, I1, S1, St1, e1, ebv, em⟩, _, d1, g1⟩ => ?_) fun _ _ z => z
  have run1 : Run P w K mg base fa cdv A outer s0.heap.objs.size g aw (sigO ws) [(a, go)] [] s0w pins0 s1 := ⟨⟨s0, H0, F1, H1, σv, k1.mono e1, I1, S1, St1.fz, (fun _ hy => nomatch hy), h3w⟩, dd.trans d1, hge, hL0, hLw, Nat.lt_of_lt_of_le hgs g1⟩
  cases hws : ws with
  | cons x xs =>
    have hb : b = false := by rw [ebv, hws]; rfl
    rw [hb, if_neg Bool.false_ne_true]
    refine to_nil ?_
    show To _ _ _ ((execs [eb 2] _).wrap K1 J1 id id) _ _ _
    refine to_cons ?_
    rw [← hws]
    have hie : ws.isEmpty = false := by rw [hws]; rfl
    rw [hie, if_neg Bool.false_ne_true, List.nil_append]
    refine to_eb2 T hr ok hpos hm hwl IH hgo hLa ?_ run1
    exact fun s Φ h => hend s Φ h
  | nil =>
    have hb : b = true := by rw [ebv, hws]; rfl
    rw [hb, if_pos rfl, eb1b]
    obtain ⟨ty, hy, qy⟩ := e_yield0 (P := P) (w := w) (K := K) (mg := mg) (base := base) (fa := fa) (cdv := cdv) (A := A) (outer := outer) (s0 := s0) (H0 := H0)
    refine to_cons (to_yieldS rfl rfl I1.quiet rfl ?_)
    rw [ov_func]
    refine wpAny_mono (gsz_any (dead_any (pe_still (E := fun _ _ => False) hy I1 (qy σv H1 (fun v H3 => ∃ p, v = .ref p ∧ H1 p = none ∧ H3 = upd H1 p (.lst [])) fun p hp => ⟨p, rfl, hp, rfl⟩)))) (fun v s3 ⟨g3, d3, hep, _⟩ => ?_) fun _ _ z => z.2.elim
    obtain ⟨x, H3, J3, rx, p, rfl, hpn, e3⟩ := hep
    subst e3
    obtain rfl : v = Value.ref p := rx
    intro lv ky py hk
    have hdat : DatS (sigO ws) := fun j d h => by
      match j with
      | 0 => cases h
      | 1 => cases h
      | 2 => cases h
      | 3 => cases h; rw [datD]; exact datDs_eD _
      | 4 => cases h
      | 5 => cases h
      | 6 => cases h
      | j + 7 => simp at h
    have fnp : ∀ b o, F1 b = some o → b ≠ p := fun b o e q => by rw [← q, St1.fz b o e] at hpn; cases hpn
    obtain ⟨pins', ra, mv, pk', ho', hge', hL', wake⟩ := sleep (a := a) (g := g) (gi := []) (row := []) (p := p) (qs := []) (k1.mono e1) J3 S1 hdat (fun b o e => by rw [upd_ne (fnp b o e)]; exact St1.fz b o e) ((dd.trans d1).trans d3) hge hL0 hLw
      (fun q hq => by rw [List.mem_singleton.mp hq]; exact hLa) ⟨go, List.mem_singleton.mpr rfl⟩ ecl upd_same .nil
      (by cases e : F1 p with
        | none => rfl
        | some o => exact absurd rfl (fnp p o e)) (fun q hq => nomatch hq) List.nodup_nil (fun hm => nomatch hm)
    refine ⟨_, lv, ky, _, py, _, p, [], pins', [], rfl, rfl, rfl, ra, mv, pk', hgo _ (J3.pin (a, go) (List.mem_append_right _ (List.mem_singleton.mpr rfl))).1, ho', (fun i' hi => nomatch hi), fun w3 sl hgw => ?_⟩
    obtain ⟨hLw3, s0', H0', F', k1', I', hS'⟩ := wake w3 sl
    refine hk _ _ (to_nil ?_)
    show To _ _ _ ((execs [eb 2] _).wrap K1 J1 id id) _ _ _
    refine to_cons ?_
    have := fun (K' : Flow → Sem PySem.Fin) (he : ∀ s Φ, To (model P w) A (codeE fa cdv s0.heap.objs.size) (.pure (.done (.ret .none))) [] s Φ → To (model P w) A (codeE fa cdv s0.heap.objs.size) (K' .next) [] s Φ) => to_eb2 (J1 := J1) (gi := []) T hr ok hpos hm hwl IH hgo hLa (aw := aw) he (s0w := w3) (pins0 := pins') (s := w3.setGen g .running) ⟨⟨s0', H0', F', F', _, k1', I', hS', Ex.refl _, (fun _ hy => nomatch hy), h3w⟩, ⟨Nat.le_refl _, fun _ _ h => h⟩, hge', hL', hLw3, by rw [setGen_size]; exact hgw⟩
    rw [hws] at this
    exact this _ (fun s Φ h => hend s Φ h)
end
end LW
set_option pp.maxSteps 1500
set_option Elab.async false
set_option linter.all false
set_option maxRecDepth 100000
set_option maxHeartbeats 4000000
namespace LW
open PySem L2 T3
open Evl (Ex)
local macro_rules | `(tactic| walk_at "t3") => `(tactic| first
  | (with_reducible refine s_seq ?_) | (with_reducible refine s_asg ?_) | (with_reducible refine s_if ?_) | (with_reducible refine s_ret ?_) | (with_reducible refine s_drop ?_) | (with_reducible refine s_asgG ?_) | (with_reducible refine s_retN ?_)
  | (with_reducible refine s_next ?_) | (with_reducible refine s_brk ?_) | (with_reducible refine s_cont ?_) | (with_reducible refine s_par ?_) | (with_reducible refine s_fld ?_)
  | ((with_reducible refine' w_var ?hx ?_); (case hx => exact rfl)) | (with_reducible refine w_cI ?_) | (with_reducible refine w_cB ?_) | (with_reducible refine w_cS ?_) | (with_reducible refine w_cN ?_) | (with_reducible refine w_cT ?_) | (with_reducible refine w_cR ?_)
  | (with_reducible refine w_op ?_) | (with_reducible refine w_un ?_) | (with_reducible refine w_nil ?_) | (with_reducible refine w_tup ?_) | (with_reducible refine w_cons ?_) | (with_reducible refine w_cb ?_) | (with_reducible refine w_bm0 ?_) | (with_reducible refine w_bm ?_)
  | (with_reducible refine w_test ?_) | (with_reducible refine w_B ?_) | (with_reducible refine w_notT ?_) | (with_reducible refine w_yes ?_) | (with_reducible refine w_notV ?_)
  | (with_reducible refine w_ifE ?_) | (with_reducible refine w_isN ?_) | (with_reducible refine w_notN ?_) | (with_reducible refine w_tr ?_) | (with_reducible refine w_chain ?_) | (with_reducible refine w_fld ?_) | (with_reducible refine w_sl ?_) | (with_reducible refine o_no ?_) | (with_reducible refine o_some ?_)
  | (with_reducible refine w_call0 ?_) | (with_reducible refine g_name ?_) | ((with_reducible refine' g_tup ?hx ?hy ?_); (case hx => exact rfl); (case hy => exact rfl)) | (with_reducible refine g_cons ?_) | (with_reducible refine g_nil ?_) | (with_reducible refine g_set ?_)
  | (with_reducible refine r3_add_ii ?_) | (with_reducible refine r3_sub ?_) | (with_reducible refine r3_lt ?_) | (with_reducible refine r3_le ?_) | (with_reducible refine r3_gt ?_) | (with_reducible refine r3_ge ?_) | (with_reducible refine u3_neg ?_)
  | (with_reducible refine c3_int_i ?_) | (with_reducible refine c3_int_b ?_) | (with_reducible refine c3_abs ?_) | (with_reducible refine c3_len_t ?_) | (with_reducible refine c3_len .fz ?_) | (with_reducible refine c3_max2 ?_) | (with_reducible refine c3_min2 ?_)
  | (with_reducible refine r3_eq (n := 9) (m := 9) okD_int okD_int ?_) | (with_reducible refine r3_ne (n := 9) (m := 9) okD_int okD_int ?_)
  | ((with_reducible refine' Exists.intro _ (And.intro ?hx ?_)); (case hx => exact rfl))
  | ((with_reducible refine' And.intro ?hx ?_); (case hx => (show List.length _ ≤ 100000); exact Nat.le_of_ble_eq_true rfl))
  | (with_reducible refine c3_lenL (c3_len_t ?_)) | (with_reducible refine c3_lenL (c3_len .fz ?_)))

section
variable {P : Program} {w : World} {K : PySem.W.Frag} {mg : Str → Option Value} {base : Heap} {A0 : Adr}

open GenF PyProof.Rows GenW
theorem work_paired {F H : Hp} {M : Mem} (hE : Ex F H) (hM : ∀ b u, H b = some u → Plain u → ∃ o, M b = some (.raw (.frz o u))) : ∀ {wk : Work} {vs : List V}, RDs F (wk.map eD) vs →
    Paired (fun (v : V) (x : Str × List Str) => ∃ q l o1 o2, v = .ref q ∧ M q = some (.raw (.frz o1 (.tup [.str x.1, .ref l]))) ∧ M l = some (.raw (.frz o2 (.lst (x.2.map V.str))))) vs wk
  | [], _, h => by rw [show _ = [] from h]; exact .nil
  | x :: wk, _, ⟨v, r, e, h, t⟩ => by
    rw [e]
    obtain ⟨q, avs, rfl, hq, ⟨v1, r1, e1, rc, v2, r2, e2, ⟨l, lvs, e3, hl, rls⟩, e4⟩⟩ := h
    have rc : v1 = .str x.1 := rc
    have e4 : r2 = [] := e4
    subst rc e4 e3 e2 e1
    have hls := rds_strs_inv rls
    subst hls
    obtain ⟨o1, h1⟩ := hM q _ (hE q _ hq) True.intro
    obtain ⟨o2, h2⟩ := hM l _ (hE l _ hl) True.intro
    exact .cons ⟨q, l, o1, o2, rfl, h1, h2⟩ (work_paired hE hM t)
open Classical in
/-- the caller's lists and tuples, as they are -/
noncomputable def knownH (H : Hp) (h : Heap) : Hp := fun b => match H b with
  | some u => if Plain u then (h.get? b).map (fun o => HO.frz o u) else none
  | none => none
theorem knownH_at {H : Hp} {h : Heap} {b : Addr} {u : HO} {o : Obj} (e : H b = some u) (hp : Plain u) (ho : h.get? b = some o) : knownH H h b = some (.frz o u) := by
  unfold knownH
  rw [e]
  dsimp only
  rw [if_pos hp, ho]; rfl
theorem knownH_of {H : Hp} {h : Heap} {b : Addr} {z : HO} (e : knownH H h b = some z) : ∃ u o, H b = some u ∧ Plain u ∧ h.get? b = some o ∧ z = .frz o u := by
  unfold knownH at e
  cases q : H b with
  | none => rw [q] at e; cases e
  | some u =>
    rw [q] at e
    dsimp only at e
    split at e
    · rename_i hp
      obtain ⟨o, h1, h2⟩ := Option.map_eq_some_iff.mp e
      exact ⟨u, o, rfl, hp, h1, h2.symm⟩
    · cases e
theorem knownH_none {H : Hp} {h : Heap} {b : Addr} (e : H b = none) : knownH H h b = none := by unfold knownH; rw [e]
theorem every_step (T : Tx P K mg A0) {m m' kI : Nat} (hm' : m' ≤ 900) (IH : ∀ wk : Work, wlen wk = m → live wk ≠ [] → GFnX P w K mg base kI A0.f_every_row A0.d_every_row ["work"] (S_every m') ∧ m = m' + 1)
    (hrows : ∀ wk : Work, wlen wk = m → rowsN m wk = (if (live wk).isEmpty then [[]] else []) ++ rowsFrom (rowsN m') (live wk) 0 (live wk)) : GFnX P w K mg base (kI + 2) A0.f_every_row A0.d_every_row ["work"] (S_every m) := by
  refine gfnx_of (N := eN) T.F_every_row sc_every_row ecl (fun vs H cont ⟨_, v, _, _, _, h, _⟩ => by rw [h]; rfl) (fun cdv A outer s s' H vs cont a g hr hsp I hgo0 hba hgl hfresh => ?_)
  obtain ⟨haL, ⟨go, nm, qn, hgo, hgc, hgd, hgs⟩, hHa, hnc⟩ := hgo0
  obtain ⟨x, v, F0, M0', wk, rfl, hSt, rd, hl, ok, hwl, hc⟩ := hsp
  refine ⟨_, hc, ?_⟩
  -- the list that is handed
  obtain ⟨aw0, vl, rfl, hHw, rs⟩ : ∃ aw0 vl, v = .ref aw0 ∧ H aw0 = some (.lst vl) ∧ RDs F0 (wk.map eD) vl := by
    rcases hl with rfl | ⟨aa, rfl, hMa⟩
    · obtain ⟨aw0, vl, e, hF, rs⟩ := rd
      exact ⟨aw0, vl, e, hSt.fz _ _ hF, rs⟩
    · obtain ⟨_, ho, hH, vl, e, rs⟩ := hSt.own aa _ hMa
      subst e
      exact ⟨aa, vl, rd, hH, rs⟩
  have hIok : HOk P w H s'.heap := I.hok
  have hLs : ∃ o, s'.heap.get? s.heap.objs.size = some o := by
    obtain ⟨_, ⟨o, _, _, e, _⟩, _⟩ := I.loc
    exact ⟨o, e⟩
  have hlow : ∀ b u, H b = some u → b < s.heap.objs.size := fun b u e => by
    by_cases q : b < s.heap.objs.size
    · exact q
    · rw [hfresh b (Nat.le_of_not_lt q)] at e; cases e
  let own : Hp := knownH H s'.heap
  let Hs : Hp := wakeH own s.heap.objs.size [s.heap.objs.size, a] s'.heap
  have ownNone : ∀ b, H b = none → own b = none := fun b e => knownH_none e
  have hok : HOk P w Hs s'.heap := wakeH_ok fun b z e => by
    obtain ⟨u, o, h1, h2, h3, rfl⟩ := knownH_of e
    exact ⟨h2, h3, plain_ok rfl h2 (hIok b u h1)⟩
  have hfo : ∀ b ∈ frs outer, b < s.heap.objs.size := fun b hb => by
    obtain ⟨_, o, ho, _⟩ := I.ok.funs.mem hb
    exact Heap.lt_size ho
  have lowN : ∀ b, b < s.heap.objs.size → H b = none → Hs b = none := fun b hb e => wakeH_low (ownNone b e) hb
  obtain ⟨s0', H0', z1, z2, z3, J⟩ := rebase (s3 := s'.setGen g .running) (P' := [(a, go)]) (Hs := Hs) I rfl I.bare (fun b o e => ⟨I.bk b o e, lowN b (Heap.lt_size (I.ok.bs b o e).1) (I.bs b o e).2⟩)
    (by have := I.funs; exact this) hok rfl (wakeH_ex (ownNone _ (hfresh _ (Nat.le_refl _))) List.mem_cons_self) (fun b hb => lowN b (hfo b hb) (I.ok.frf b hb)) (ecl _)
    (fun q hq => by
      rw [List.mem_singleton.mp hq]
      exact ⟨hgo, wakeH_ex (ownNone _ hHa) (List.mem_cons_of_mem _ List.mem_cons_self), Nat.ne_of_gt haL, fun hm => absurd (Nat.lt_trans haL (hfo _ hm)) (Nat.lt_irrefl _), fun v => hnc v go hgo⟩)
  let F : Hp := fun b => if (own b).isNone then Hs b else none
  let M : Mem := fun b => (own b).map DO.raw
  have hFs : Ex F Hs := fun b o e => by
    have e : (if (own b).isNone then Hs b else none) = some o := e
    split at e
    · exact e
    · cases e
  have hSt1 : St3 F M Hs := ⟨hFs, fun b d e => by
    obtain ⟨z, h1, rfl⟩ := Option.map_eq_some_iff.mp (show (own b).map DO.raw = some d from e)
    refine ⟨?_, z, wakeH_own h1, rfl, ?_⟩
    · show (if (own b).isNone then Hs b else none) = none
      rw [h1]; rfl
    · obtain ⟨u, o, _, _, _, rfl⟩ := knownH_of h1
      exact fun xs q => nomatch q⟩
  have hM : ∀ b u, H b = some u → Plain u → ∃ o, M b = some (.raw (.frz o u)) := fun b u e hp => by
    obtain ⟨o, ho⟩ := objAt (hIok b u e)
    refine ⟨o, ?_⟩
    show (own b).map DO.raw = _
    rw [show own b = some (.frz o u) from knownH_at e hp ho]; rfl
  have hW : WorkM M aw0 wk := by
    obtain ⟨o, h1⟩ := hM aw0 _ hHw True.intro
    exact ⟨o, vl, h1, work_paired hSt.fz hM rs⟩
  have hk : WkI outer s.heap.objs.size s' (pin0 s.heap.objs.size a s') s0' H0' F := by
    refine ⟨z1, fun b o e hb => ⟨(z2 b).trans (by rw [if_pos hb]; exact e), ?_⟩, fun b o e hb hn => ?_, J.os.symm⟩
    · rw [z3 b, if_pos hb]
      cases q : own b with
      | none => exact .inl (wakeH_low q hb)
      | some z =>
        obtain ⟨u, o', _, _, h3, rfl⟩ := knownH_of q
        rw [e] at h3; cases h3
        exact .inr ⟨u, wakeH_own q⟩
    · have on : own b = none := ownNone b (hfresh b hb)
      have hx : b ∉ [s.heap.objs.size, a] := fun hm => hn _ (mem_pinsAt hm e) rfl
      show (if (own b).isNone then Hs b else none) = _
      rw [on]
      exact wakeH_far on hb hx e
  obtain ⟨t, ht, qt⟩ := e_first (w := w) (mg := mg) (base := base) (fa := A0.f_every_row) (cdv := cdv) (A := A.in1) (outer := outer) (s0 := s0') (H0 := H0') T (k := kI) (by rw [z1]; exact hr)
  show To (model P w) A.in1 (codeE A0.f_every_row cdv s.heap.objs.size) ((execs [eb 0, eb 1, eb 2] (EE A0.f_every_row cdv s.heap.objs.size)).wrap _ _ id id) [] _ _
  refine to_cons (to_wrap0 ?_)
  rw [show A.in1.over (codeE A0.f_every_row cdv s.heap.objs.size) [] = (EX P w K mg base A0.f_every_row cdv A.in1 outer s0' H0').A from by
    show _ = A.in1.deeper (EE A0.f_every_row cdv s0'.heap.objs.size)
    rw [z1]; exact ov_func]
  have hS0 : T3.SRel F [some (.ref aw0), none, none, none, none, none, none] (L2.start eN [.ref aw0]) := T3.SRel.start (ds := [.ref aw0]) (N := eN) ⟨_, _, rfl, rfl, rfl⟩
  have hrun := run_s1 (E := fun _ _ => False) ht (qt (fun _ => Option.none) M aw0 wk hW ok) exB J hS0 hSt1
  rw [show (EX P w K mg base A0.f_every_row cdv A.in1 outer s0' H0').env = EE A0.f_every_row cdv s.heap.objs.size from by
    show EE A0.f_every_row cdv s0'.heap.objs.size = _
    rw [z1]] at hrun
  refine wpAny_mono hrun (fun f s1 ⟨ef, hs1⟩ => ?_) fun _ _ z => z
  subst ef
  obtain ⟨⟨σ1, F1, H1, σ3, M1, I1, S1, St1, e1, ⟨b1, b2, rfl⟩, _⟩, _, d1, g1⟩ := hs1
  obtain ⟨v3, hv3, aw, vs3, rfl, _, _⟩ := S1.2 3 (.lst ((live wk).map eD)) rfl
  have hwl' : live wk ≠ [] → wlen (live wk) = m' + 1 := fun hne => by rw [wlen_live, hwl]; exact (IH wk hwl hne).2
  rw [hrows wk hwl]
  refine to_eb12 (aw := aw) (go := go) T hr ok.live (fun x hx => by simpa using (List.mem_filter.mp hx).2) hm' hwl' (fun hne => (IH wk hwl hne).1) (fun h e => ⟨go, nm, qn, e, hgc, hgd, hgs⟩) (Nat.le_of_lt haL) (fun _ _ h => h)
    ⟨⟨s0', H0', F1, H1, σ1, hk.mono e1, I1, ?_, St1.fz, (fun _ hy => nomatch hy), hv3⟩, ⟨d1.sz, d1.dead⟩, fun y hy => ?_, ?_, ?_, Nat.lt_of_lt_of_le (by rw [setGen_size]; exact hgl) g1⟩
  · refine ⟨S1.1, fun j d e => S1.2 j d ?_⟩
    match j with
    | 0 => cases e
    | 1 => cases e
    | 2 => cases e
    | 3 => exact e
    | 4 => cases e
    | 5 => cases e
    | 6 => cases e
    | j + 7 => simp at e
  · rcases List.mem_cons.mp (of_pinsAt hy).1 with e | e
    · rw [e]; exact Nat.le_refl _
    · rw [List.mem_singleton.mp e]; exact Nat.le_of_lt haL
  · obtain ⟨o, e⟩ := hLs
    exact ⟨_, mem_pinsAt List.mem_cons_self e, rfl⟩
  · obtain ⟨o, e⟩ := hLs
    exact Heap.lt_size e
theorem rows_zero {wk : Work} (h : wlen wk = 0) : live wk = [] := by
  cases q : live wk with
  | nil => rfl
  | cons x xs =>
    have h1 : 0 < x.2.length := live_pos (wk := wk) (i := 0) (by rw [q]; rfl)
    have h2 := wlen_live wk
    rw [q, h] at h2
    have h3 : wlen (x :: xs) = x.2.length + wlen xs := by simp [wlen]
    omega
theorem ok_every (T : Tx P K mg A0) : ∀ m, m ≤ 900 → GFnX P w K mg base (2 * m + 9) A0.f_every_row A0.d_every_row ["work"] (S_every m)
  | 0, _ => every_step (m' := 0) (kI := 7) T (by decide) (fun wk h hne => absurd (rows_zero h) hne) (fun wk h => by rw [rows_zero h]; rfl)
  | m + 1, hm => by
    have ih := ok_every T m (by omega)
    have := every_step (m := m + 1) (m' := m) (kI := 2 * m + 9) T (by omega) (fun wk h hne => ⟨ih, rfl⟩) (fun wk h => by
      have : (live wk).isEmpty = false := by
        cases q : live wk with
        | nil =>
          have h2 := wlen_live wk
          rw [q, h] at h2
          exact absurd h2 (by simp [wlen])
        | cons => rfl
      rw [this]; rfl)
    rw [show 2 * (m + 1) + 9 = 2 * m + 9 + 2 by omega]
    exact this
end
end LW
set_option pp.maxSteps 1500
set_option Elab.async false
set_option linter.all false
set_option maxRecDepth 100000
set_option maxHeartbeats 4000000
namespace LW
open PySem L2 T3
open Evl (Ex)
local macro_rules | `(tactic| walk_at "t3") => `(tactic| first
  | (with_reducible refine s_seq ?_) | (with_reducible refine s_asg ?_) | (with_reducible refine s_if ?_) | (with_reducible refine s_ret ?_) | (with_reducible refine s_drop ?_) | (with_reducible refine s_asgG ?_) | (with_reducible refine s_retN ?_)
  | (with_reducible refine s_next ?_) | (with_reducible refine s_brk ?_) | (with_reducible refine s_cont ?_) | (with_reducible refine s_par ?_) | (with_reducible refine s_fld ?_)
  | ((with_reducible refine' w_var ?hx ?_); (case hx => exact rfl)) | (with_reducible refine w_cI ?_) | (with_reducible refine w_cB ?_) | (with_reducible refine w_cS ?_) | (with_reducible refine w_cN ?_) | (with_reducible refine w_cT ?_) | (with_reducible refine w_cR ?_)
  | (with_reducible refine w_op ?_) | (with_reducible refine w_un ?_) | (with_reducible refine w_nil ?_) | (with_reducible refine w_tup ?_) | (with_reducible refine w_cons ?_) | (with_reducible refine w_cb ?_) | (with_reducible refine w_bm0 ?_) | (with_reducible refine w_bm ?_)
  | (with_reducible refine w_test ?_) | (with_reducible refine w_B ?_) | (with_reducible refine w_notT ?_) | (with_reducible refine w_yes ?_) | (with_reducible refine w_notV ?_)
  | (with_reducible refine w_ifE ?_) | (with_reducible refine w_isN ?_) | (with_reducible refine w_notN ?_) | (with_reducible refine w_tr ?_) | (with_reducible refine w_chain ?_) | (with_reducible refine w_fld ?_) | (with_reducible refine w_sl ?_) | (with_reducible refine o_no ?_) | (with_reducible refine o_some ?_)
  | (with_reducible refine w_call0 ?_) | (with_reducible refine g_name ?_) | ((with_reducible refine' g_tup ?hx ?hy ?_); (case hx => exact rfl); (case hy => exact rfl)) | (with_reducible refine g_cons ?_) | (with_reducible refine g_nil ?_) | (with_reducible refine g_set ?_)
  | (with_reducible refine r3_add_ii ?_) | (with_reducible refine r3_sub ?_) | (with_reducible refine r3_lt ?_) | (with_reducible refine r3_le ?_) | (with_reducible refine r3_gt ?_) | (with_reducible refine r3_ge ?_) | (with_reducible refine u3_neg ?_)
  | (with_reducible refine c3_int_i ?_) | (with_reducible refine c3_int_b ?_) | (with_reducible refine c3_abs ?_) | (with_reducible refine c3_len_t ?_) | (with_reducible refine c3_len .fz ?_) | (with_reducible refine c3_max2 ?_) | (with_reducible refine c3_min2 ?_)
  | (with_reducible refine r3_eq (n := 9) (m := 9) okD_int okD_int ?_) | (with_reducible refine r3_ne (n := 9) (m := 9) okD_int okD_int ?_)
  | ((with_reducible refine' Exists.intro _ (And.intro ?hx ?_)); (case hx => exact rfl))
  | ((with_reducible refine' And.intro ?hx ?_); (case hx => (show List.length _ ≤ 100000); exact Nat.le_of_ble_eq_true rfl))
  | (with_reducible refine c3_lenL (c3_len_t ?_)) | (with_reducible refine c3_lenL (c3_len .fz ?_)))

section
variable {P : Program} {w : World} {K : PySem.W.Frag} {mg : Str → Option Value} {base : Heap} {A0 : Adr}

def okT (s : Str) : Prop := s.cps.all (· < 0x110000) = true
theorem okD_S {n : Nat} {s : Str} (h : okT s) : okD n (.str s) = true := okD_str h
theorem okDs_S {n : Nat} {l : List Str} (h : ∀ s ∈ l, okT s) : okDs n (l.map D.str) = true := okDs_iff.mpr fun d hd => by
  obtain ⟨s, hs, rfl⟩ := List.mem_map.mp hd
  exact okD_S (h s hs)
def LET : List Nat := ("abcdefghijklmnopqrstuvwxyz" : Str).cps.toList
def goodS (x : Str) : Bool := (decide ((1 : Int) ≤ x.length) && decide ((x.length : Int) ≤ 12)) && x.cps.toList.all fun c => decide (c ∈ LET)
theorem map_at {α : Type} {f : α → D} {l : List α} {i : Nat} {d : D} (h : (l.map f)[i]? = some d) : ∃ a, l[i]? = some a ∧ d = f a := by
  rw [List.getElem?_map] at h
  obtain ⟨a, h1, h2⟩ := Option.map_eq_some_iff.mp h
  exact ⟨a, h1, h2.symm⟩
end
end LW
set_option Elab.async false
set_option linter.all false
set_option maxRecDepth 100000
set_option maxHeartbeats 4000000
namespace LW
open PySem L2 T3
open Evl (Ex)
local macro_rules | `(tactic| walk_at "t3") => `(tactic| first
  | (with_reducible refine s_seq ?_) | (with_reducible refine s_asg ?_) | (with_reducible refine s_if ?_) | (with_reducible refine s_ret ?_) | (with_reducible refine s_drop ?_) | (with_reducible refine s_asgG ?_) | (with_reducible refine s_retN ?_)
  | (with_reducible refine s_next ?_) | (with_reducible refine s_brk ?_) | (with_reducible refine s_cont ?_) | (with_reducible refine s_par ?_) | (with_reducible refine s_fld ?_)
  | ((with_reducible refine' w_var ?hx ?_); (case hx => exact rfl)) | (with_reducible refine w_cI ?_) | (with_reducible refine w_cB ?_) | (with_reducible refine w_cS ?_) | (with_reducible refine w_cN ?_) | (with_reducible refine w_cT ?_) | (with_reducible refine w_cR ?_)
  | (with_reducible refine w_op ?_) | (with_reducible refine w_un ?_) | (with_reducible refine w_nil ?_) | (with_reducible refine w_tup ?_) | (with_reducible refine w_cons ?_) | (with_reducible refine w_cb ?_) | (with_reducible refine w_bm0 ?_) | (with_reducible refine w_bm ?_)
  | (with_reducible refine w_test ?_) | (with_reducible refine w_B ?_) | (with_reducible refine w_notT ?_) | (with_reducible refine w_yes ?_) | (with_reducible refine w_notV ?_)
  | (with_reducible refine w_ifE ?_) | (with_reducible refine w_isN ?_) | (with_reducible refine w_notN ?_) | (with_reducible refine w_tr ?_) | (with_reducible refine w_chain ?_) | (with_reducible refine w_fld ?_) | (with_reducible refine w_sl ?_) | (with_reducible refine o_no ?_) | (with_reducible refine o_some ?_)
  | (with_reducible refine w_call0 ?_) | (with_reducible refine g_name ?_) | ((with_reducible refine' g_tup ?hx ?hy ?_); (case hx => exact rfl); (case hy => exact rfl)) | (with_reducible refine g_cons ?_) | (with_reducible refine g_nil ?_) | (with_reducible refine g_set ?_)
  | (with_reducible refine r3_add_ii ?_) | (with_reducible refine r3_sub ?_) | (with_reducible refine r3_lt ?_) | (with_reducible refine r3_le ?_) | (with_reducible refine r3_gt ?_) | (with_reducible refine r3_ge ?_) | (with_reducible refine u3_neg ?_)
  | (with_reducible refine c3_int_i ?_) | (with_reducible refine c3_int_b ?_) | (with_reducible refine c3_abs ?_) | (with_reducible refine c3_len_t ?_) | (with_reducible refine c3_len .fz ?_) | (with_reducible refine c3_max2 ?_) | (with_reducible refine c3_min2 ?_)
  | (with_reducible refine r3_eq (n := 9) (m := 9) okD_int okD_int ?_) | (with_reducible refine r3_ne (n := 9) (m := 9) okD_int okD_int ?_)
  | ((with_reducible refine' Exists.intro _ (And.intro ?hx ?_)); (case hx => exact rfl))
  | ((with_reducible refine' And.intro ?hx ?_); (case hx => (show List.length _ ≤ 100000); exact Nat.le_of_ble_eq_true rfl))
  | (with_reducible refine c3_lenL (c3_len_t ?_)) | (with_reducible refine c3_lenL (c3_len .fz ?_)))

def SrcD (cells : List Int) (i j k : Int) : DO := .lst [.lst (cells.map D.int), .int i, .int j, .int k]
def IsSrc (o : DO) : Prop := ∃ (cells : List Int) (i j k : Int), o = SrcD cells i j k ∧ cells.length ≤ 63 ∧ 0 ≤ i ∧ i ≤ 63 ∧ 0 ≤ j ∧ j ≤ 60
def S_draw : Sp3 := fun ds M Q _ => ∃ (a : Addr) (n : Int) (o : DO), ds = [.ref a, .int n] ∧ M a = some o ∧ IsSrc o ∧ 0 < n ∧ n < 10 ^ 100 ∧ ∀ r o', 0 ≤ r → r < n → IsSrc o' → Q (.int r) (mput M a o')
section
variable {P : Program} {w : World} {K : PySem.W.Frag} {mg : Str → Option Value} {base : Heap}
variable {A0 : Adr}
theorem ok_draw (T : Tx P K mg A0) : FnOk P w K mg base CX0 1 A0.f_draw A0.d_draw ["_law_source_here", "_law_many"] (lift3 S_draw) := by
  refine T.F_draw.ok sc_draw (lift3_len fun ds M Q E ⟨a, n, o, h, _⟩ => by rw [h]; rfl) (fun cdv A outer s H vs Q E hr h => ?_)
  have hu := hr.units
  have hu5 := units65 hr
  refine ⟨_, (pss_cons (ps_if (pt_cmpR op_ge (pe_ix (ix_seqK K rfl) (pv 0) pe_int (fun _ _ => by rfl)) (pe_callB (call_lenDK K rfl) (by rfl) T.n_len PySem.boot_len (pa_cons (pe_ix (ix_seqK K rfl) (pv 0) pe_int (fun _ _ => by rfl)) pa_nil)) (nomark _)) (pss_one (ps_ret pe_int)) pss_nil)
  (pss_cons (ps_set (i := 2) sc_draw.nd (by rfl) (Or.inl (by rfl)) (pe_ix (ix_seqK K rfl) (pe_ix (ix_seqK K rfl) (pv 0) pe_int (fun _ _ => by rfl)) (pe_ix (ix_seqK K rfl) (pv 0) pe_int (fun _ _ => by rfl)) (fun _ _ => by rfl)))
  (pss_cons (ps_set (i := 3) sc_draw.nd (by rfl) (Or.inl (by rfl)) (pe_or (pe_cmpR op_ge (pv 2) (pe_op op_pow pe_int pe_int) (nomark _)) (pe_one (pe_cmpR op_le (pv 2) (pe_op op_sub pe_int (pe_op op_pow pe_int pe_int)) (nomark _)))))
  (pss_cons (ps_if (PW.pt (pw_and (pt_truthK K rfl (pv 3) (by intro _; rfl)) (pw_and1 (pt_cmpR (op_eqDK K rfl hu) (pe_ix (ix_seqK K rfl) (pv 0) pe_int (fun _ _ => by rfl)) pe_int (nomark _))))) (pss_one (ps_asg (pe_callB call_abs (by rfl) T.n_abs (by decide +kernel) (pa_cons (pv 2) pa_nil)) (pg_sub (pv 0) pe_int set_list))) pss_nil)
  (pss_cons (ps_if (pt_truthK K rfl (pv 3) (by intro _; rfl)) (pss_cons (ps_set (i := 4) sc_draw.nd (by rfl) (Or.inl (by rfl)) (pe_op op_modN (pe_callTy call_int1 (by rfl) T.n_int (by decide +kernel) (pa_cons (pe_ix (ix_seqK K rfl) (pv 0) pe_int (fun _ _ => by rfl)) pa_nil)) (pv 1)))
  (pss_one (ps_asg (pe_op op_fdivW (pe_ix (ix_seqK K rfl) (pv 0) pe_int (fun _ _ => by rfl)) (pv 1)) (pg_sub (pv 0) pe_int set_list)))) (pss_cons (ps_set (i := 5) sc_draw.nd (by rfl) (Or.inl (by rfl)) (pe_op op_ADD (pe_op op_ADD (pe_op op_mulW (pe_ix (ix_seqK K rfl) (pv 0) pe_int (fun _ _ => by rfl)) pe_int) (pe_op op_mulW (pe_ix (ix_seqK K rfl) (pv 0) pe_int (fun _ _ => by rfl)) pe_int)) pe_int))
  (pss_cons (ps_set (i := 6) sc_draw.nd (by rfl) (Or.inl (by rfl)) (pe_op op_modN (pe_callTy call_int1 (by rfl) T.n_int (by decide +kernel) (pa_cons (pe_op op_ADD (pe_op op_mulW (pv 2) pe_int) (pv 5)) pa_nil)) pe_int))
  (pss_cons (ps_set (i := 6) sc_draw.nd (by rfl) (Or.inl (by rfl)) (pe_op op_modN (pe_callTy call_int1 (by rfl) T.n_int (by decide +kernel) (pa_cons (pe_op op_ADD (pe_op op_ADD (pe_op op_mulW (pv 6) (pv 6)) (pe_op op_mulW (pv 2) pe_int)) (pe_ix (ix_seqK K rfl) (pv 0) pe_int (fun _ _ => by rfl))) pa_nil)) pe_int))
  (pss_one (ps_set (i := 4) sc_draw.nd (by rfl) (Or.inl (by rfl)) (pe_op op_modN (pe_callTy call_int1 (by rfl) T.n_int (by decide +kernel) (pa_cons (pv 6) pa_nil)) (pv 1))))))))
  (pss_cons (ps_asg (pe_op op_ADD (pe_ix (ix_seqK K rfl) (pv 0) pe_int (fun _ _ => by rfl)) pe_int) (pg_sub (pv 0) pe_int set_list))
  (pss_cons (ps_if (PW.pt (pw_or (pt_cmpR op_ge (pe_ix (ix_seqK K rfl) (pv 0) pe_int (fun _ _ => by rfl)) pe_int (nomark _)) (pw_or (PW.pt (pw_and (pt_not (pt_truthK K rfl (pv 3) (by intro _; rfl))) (pw_and1 (pt_cmpR op_ge (pe_ix (ix_seqK K rfl) (pv 0) pe_int (fun _ _ => by rfl)) pe_int (nomark _))))) (pw_or1 (PW.pt (pw_and (pt_truthK K rfl (pv 3) (by intro _; rfl)) (pw_and1 (pt_cmpR (op_eqDK K rfl hu) (pe_ix (ix_seqK K rfl) (pv 0) pe_int (fun _ _ => by rfl)) pe_int (nomark _))))))))) (pss_cons (ps_asg (pe_op op_ADD (pe_ix (ix_seqK K rfl) (pv 0) pe_int (fun _ _ => by rfl)) pe_int) (pg_sub (pv 0) pe_int set_list))
  (pss_one (ps_asg pe_int (pg_sub (pv 0) pe_int set_list)))) pss_nil)
  (pss_one (ps_ret (pv 4)))))))))), run3 h fun B ds M Q3 E3 hs hE => ?_⟩
  obtain ⟨a, n, o, rfl, hm, ⟨cells, i, j, k, rfl, hl, i0, i1, j0, j1⟩, n0, n1, q⟩ := hs
  change W3s B _ _ [some (.ref a), some (.int n), none, none, none, none, none] M
  try dsimp only [cxOf, Cx.nox, Cx.wish]
  repeat walk_at "t3"
  refine r3_ix_l (.ow hm) rfl ?_
  repeat walk_at "t3"
  refine r3_ix_l (.ow hm) rfl ?_
  repeat walk_at "t3"
  rw [List.length_map]
  refine iteB (fun hc => ?_) (fun hc => ?_)
  · repeat walk_at "t3"
    have := q 0 _ (Int.le_refl _) n0 ⟨cells, i, j, k, rfl, hl, i0, i1, j0, j1⟩
    rwa [mput_self hm] at this
  have hc : i < cells.length := by simpa using hc
  obtain ⟨c, hcc⟩ : ∃ c, (cells.map D.int)[i.toNat]? = some (.int c) := ⟨cells[i.toNat], by rw [List.getElem?_map, List.getElem?_eq_getElem (by omega)]; rfl⟩
  repeat walk_at "t3"
  refine r3_ix_l (.ow hm) rfl ?_
  repeat walk_at "t3"
  refine r3_ix_l (.ow hm) rfl ?_
  repeat walk_at "t3"
  refine r3_ix_l .fz (at3 (by omega) hcc) ?_
  repeat walk_at "t3"
  refine w_orP (a := decide ((10:Int) ^ 18 ≤ c)) (b := decide (c ≤ 0 - 10 ^ 18)) ?_ (fun _ => ?_) ?_
  · repeat walk_at "t3"
    refine r3_pow ⟨by decide, by decide, by decide⟩ ?_
    repeat walk_at "t3"
    exact ⟨rfl, rfl⟩
  · repeat walk_at "t3"
    refine r3_pow ⟨by decide, by decide, by decide⟩ ?_
    repeat walk_at "t3"
    exact ⟨rfl, rfl⟩
  have hg : (decide ((10:Int) ^ 18 ≤ c) || decide (c ≤ 0 - 10 ^ 18)) = false → -10 ^ 18 < c ∧ c < 10 ^ 18 := fun h => by
    have := (Bool.or_eq_false_iff.mp h)
    have h1 := of_decide_eq_false this.1
    have h2 := of_decide_eq_false this.2
    omega
  generalize (decide ((10:Int) ^ 18 ≤ c) || decide (c ≤ 0 - 10 ^ 18)) = g at hg ⊢
  -- if great and src[2] == 0: src[3] = abs(cell)
  refine s_seqM (fun σ' M' => σ' = [some (.ref a), some (.int n), some (.int c), some (.bl g), none, none, none] ∧ ∃ k', M' = mput M a (SrcD cells i j k')) ?_ ?_
  · refine s_if (w_andTP (a := g) (b := peq (.int j) (.int 0)) ?_ (fun _ => ?_) ?_)
    · repeat walk_at "t3"
      exact ⟨rfl, rfl⟩
    · repeat walk_at "t3"
      refine r3_ix_l (.ow hm) rfl ?_
      repeat walk_at "t3"
      exact ⟨rfl, rfl⟩
    · refine iteB (fun _ => ?_) (fun _ => ?_)
      · repeat walk_at "t3"
        exact ⟨a, _, _, 3, rfl, rfl, hm, rfl, rfl, _, rfl⟩
      · repeat walk_at "t3"
        exact ⟨rfl, k, (mput_self hm).symm⟩
  rintro _ _ ⟨rfl, k', rfl⟩
  have hm' : mput M a (SrcD cells i j k') a = some (SrcD cells i j k') := mput_same
  generalize hM : mput M a (SrcD cells i j k') = M' at hm'
  have hback : ∀ o, mput M' a o = mput M a o := fun o => by rw [← hM, mput_mput]
  -- the number
  refine s_seqM (fun σ' M'' => ∃ r v5 v6 k'', 0 ≤ r ∧ r < n ∧ σ' = [some (.ref a), some (.int n), some (.int c), some (.bl g), some (.int r), v5, v6] ∧ M'' = mput M a (SrcD cells i j k'')) ?_ ?_
  · repeat walk_at "t3"
    refine iteB (fun _ => ?_) (fun eg => ?_)
    · repeat walk_at "t3"
      refine r3_ix_l (.ow hm') rfl ?_
      repeat walk_at "t3"
      refine r3_mod n0 ?_
      repeat walk_at "t3"
      refine r3_ix_l (.ow hm') rfl ?_
      repeat walk_at "t3"
      refine r3_fdiv n0 (by omega) ?_
      repeat walk_at "t3"
      exact ⟨a, _, _, 3, rfl, rfl, hm', rfl, k' % n, none, none, k' / n, Int.emod_nonneg _ (by omega), Int.emod_lt_of_pos _ n0, rfl, hback _⟩
    · obtain ⟨c1, c2⟩ := hg eg
      repeat walk_at "t3"
      refine r3_ix_l (.ow hm') rfl ?_
      repeat walk_at "t3"
      refine r3_mul (mulW (by omega) (by decide)) ?_
      repeat walk_at "t3"
      refine r3_ix_l (.ow hm') rfl ?_
      repeat walk_at "t3"
      refine r3_mul (mulW (by omega) (by decide)) ?_
      repeat walk_at "t3"
      refine r3_mul (mulW (by omega) (by decide)) ?_
      repeat walk_at "t3"
      refine r3_mod (by decide) ?_
      repeat walk_at "t3"
      have m0 : ∀ z : Int, 0 ≤ z % 2147483647 ∧ z % 2147483647 < 2147483647 := fun z => ⟨Int.emod_nonneg _ (by decide), Int.emod_lt_of_pos _ (by decide)⟩
      obtain ⟨z0, z1⟩ := m0 (c * 48271 + (i * 69621 + j * 40692 + 11))
      generalize (c * 48271 + (i * 69621 + j * 40692 + 11)) % 2147483647 = z at z0 z1 ⊢
      refine r3_mul (mulW (by omega) (by omega)) ?_
      repeat walk_at "t3"
      refine r3_mul (mulW (by omega) (by decide)) ?_
      repeat walk_at "t3"
      refine r3_ix_l (.ow hm') rfl ?_
      repeat walk_at "t3"
      refine r3_mod (by decide) ?_
      repeat walk_at "t3"
      refine r3_mod n0 ?_
      repeat walk_at "t3"
      exact ⟨_, _, _, k', Int.emod_nonneg _ (by omega), Int.emod_lt_of_pos _ n0, rfl, hM.symm⟩
  rintro _ _ ⟨r, v5, v6, k'', r0, r1, rfl, rfl⟩
  have hm'' : mput M a (SrcD cells i j k'') a = some (SrcD cells i j k'') := mput_same
  generalize hM2 : mput M a (SrcD cells i j k'') = M2 at hm''
  have hback2 : ∀ o, mput M2 a o = mput M a o := fun o => by rw [← hM2, mput_mput]
  repeat walk_at "t3"
  refine r3_ix_l (.ow hm'') rfl ?_
  repeat walk_at "t3"
  refine ⟨a, _, _, 2, rfl, rfl, hm'', rfl, ?_⟩
  rw [hback2]
  have hm3 : mput M a (SrcD cells i (j + 1) k'') a = some (SrcD cells i (j + 1) k'') := mput_same
  have hback3 : ∀ o, mput (mput M a (SrcD cells i (j + 1) k'')) a o = mput M a o := fun o => mput_mput
  show W3s B _ _ _ (mput M a (SrcD cells i (j + 1) k''))
  generalize hM3 : mput M a (SrcD cells i (j + 1) k'') = M3 at hm3 hback3
  refine s_seqM (fun σ' M'' => ∃ o', IsSrc o' ∧ σ' = [some (.ref a), some (.int n), some (.int c), some (.bl g), some (.int r), v5, v6] ∧ M'' = mput M a o') ?_ ?_
  · refine s_if (w_orTP (a := decide ((60:Int) ≤ j + 1)) (b := (!g && decide ((6:Int) ≤ j + 1)) || (g && peq (.int k'') (.int 0))) ?_ (fun _ => w_orTP (a := !g && decide ((6:Int) ≤ j + 1)) (b := g && peq (.int k'') (.int 0)) ?_ (fun _ => ?_) ⟨rfl, rfl⟩) ?_)
    · repeat walk_at "t3"
      refine r3_ix_l (.ow hm3) rfl ?_
      repeat walk_at "t3"
      exact ⟨rfl, rfl⟩
    · refine w_andTP (a := !g) (b := decide ((6:Int) ≤ j + 1)) ?_ (fun _ => ?_) ⟨rfl, rfl⟩
      · repeat walk_at "t3"
        exact ⟨rfl, rfl⟩
      · repeat walk_at "t3"
        refine r3_ix_l (.ow hm3) rfl ?_
        repeat walk_at "t3"
        exact ⟨rfl, rfl⟩
    · refine w_andTP (a := g) (b := peq (.int k'') (.int 0)) ?_ (fun _ => ?_) ⟨rfl, rfl⟩
      · repeat walk_at "t3"
        exact ⟨rfl, rfl⟩
      · repeat walk_at "t3"
        refine r3_ix_l (.ow hm3) rfl ?_
        repeat walk_at "t3"
        exact ⟨rfl, rfl⟩
    · refine iteB (fun _ => ?_) (fun hn => ?_)
      · repeat walk_at "t3"
        refine r3_ix_l (.ow hm3) rfl ?_
        repeat walk_at "t3"
        refine ⟨a, _, _, 1, rfl, rfl, hm3, rfl, ?_⟩
        rw [hback3]
        have hm4 : mput M a (SrcD cells (i + 1) (j + 1) k'') a = some (SrcD cells (i + 1) (j + 1) k'') := mput_same
        show W3s B _ _ _ (mput M a (SrcD cells (i + 1) (j + 1) k''))
        repeat walk_at "t3"
        exact ⟨a, _, _, 2, rfl, rfl, hm4, rfl, SrcD cells (i + 1) 0 k'', ⟨cells, i + 1, 0, k'', rfl, hl, by omega, by omega, by omega, by omega⟩, rfl, mput_mput⟩
      · repeat walk_at "t3"
        have := of_decide_eq_false (Bool.or_eq_false_iff.mp hn).1
        exact ⟨SrcD cells i (j + 1) k'', ⟨cells, i, j + 1, k'', rfl, hl, i0, i1, by omega, by omega⟩, rfl, hM3.symm⟩
  rintro _ _ ⟨o', ho', rfl, rfl⟩
  repeat walk_at "t3"
  exact q r o' r0 r1 ho'
end
end LW
set_option pp.maxSteps 1500
set_option Elab.async false
set_option linter.all false
set_option maxRecDepth 100000
set_option maxHeartbeats 4000000
namespace LW
open PySem L2 T3
open Evl (Ex)
local macro_rules | `(tactic| walk_at "t3") => `(tactic| first
  | (with_reducible refine s_seq ?_) | (with_reducible refine s_asg ?_) | (with_reducible refine s_if ?_) | (with_reducible refine s_ret ?_) | (with_reducible refine s_drop ?_) | (with_reducible refine s_asgG ?_) | (with_reducible refine s_retN ?_)
  | (with_reducible refine s_next ?_) | (with_reducible refine s_brk ?_) | (with_reducible refine s_cont ?_) | (with_reducible refine s_par ?_) | (with_reducible refine s_fld ?_)
  | ((with_reducible refine' w_var ?hx ?_); (case hx => exact rfl)) | (with_reducible refine w_cI ?_) | (with_reducible refine w_cB ?_) | (with_reducible refine w_cS ?_) | (with_reducible refine w_cN ?_) | (with_reducible refine w_cT ?_) | (with_reducible refine w_cR ?_)
  | (with_reducible refine w_op ?_) | (with_reducible refine w_un ?_) | (with_reducible refine w_nil ?_) | (with_reducible refine w_tup ?_) | (with_reducible refine w_cons ?_) | (with_reducible refine w_cb ?_) | (with_reducible refine w_bm0 ?_) | (with_reducible refine w_bm ?_)
  | (with_reducible refine w_test ?_) | (with_reducible refine w_B ?_) | (with_reducible refine w_notT ?_) | (with_reducible refine w_yes ?_) | (with_reducible refine w_notV ?_)
  | (with_reducible refine w_ifE ?_) | (with_reducible refine w_isN ?_) | (with_reducible refine w_notN ?_) | (with_reducible refine w_tr ?_) | (with_reducible refine w_chain ?_) | (with_reducible refine w_fld ?_) | (with_reducible refine w_sl ?_) | (with_reducible refine o_no ?_) | (with_reducible refine o_some ?_)
  | (with_reducible refine w_call0 ?_) | (with_reducible refine g_name ?_) | ((with_reducible refine' g_tup ?hx ?hy ?_); (case hx => exact rfl); (case hy => exact rfl)) | (with_reducible refine g_cons ?_) | (with_reducible refine g_nil ?_) | (with_reducible refine g_set ?_)
  | (with_reducible refine r3_add_ii ?_) | (with_reducible refine r3_sub ?_) | (with_reducible refine r3_lt ?_) | (with_reducible refine r3_le ?_) | (with_reducible refine r3_gt ?_) | (with_reducible refine r3_ge ?_) | (with_reducible refine u3_neg ?_)
  | (with_reducible refine c3_int_i ?_) | (with_reducible refine c3_int_b ?_) | (with_reducible refine c3_abs ?_) | (with_reducible refine c3_len_t ?_) | (with_reducible refine c3_len .fz ?_) | (with_reducible refine c3_max2 ?_) | (with_reducible refine c3_min2 ?_)
  | (with_reducible refine r3_eq (n := 9) (m := 9) okD_int okD_int ?_) | (with_reducible refine r3_ne (n := 9) (m := 9) okD_int okD_int ?_)
  | ((with_reducible refine' Exists.intro _ (And.intro ?hx ?_)); (case hx => exact rfl))
  | ((with_reducible refine' And.intro ?hx ?_); (case hx => (show List.length _ ≤ 100000); exact Nat.le_of_ble_eq_true rfl))
  | (with_reducible refine c3_lenL (c3_len_t ?_)) | (with_reducible refine c3_lenL (c3_len .fz ?_)))

section
variable {P : Program} {w : World} {K : PySem.W.Frag} {mg : Str → Option Value} {base : Heap} {A0 : Adr}

def wl (m : Nat) : List Nat := if h : m < 26 then [97 + m] else wl (m / 26 - 1) ++ [97 + m % 26]
termination_by m
theorem wl_lt {m : Nat} (h : m < 26) : wl m = [97 + m] := by rw [wl, dif_pos h]
theorem wl_ge {m : Nat} (h : ¬ m < 26) : wl m = wl (m / 26 - 1) ++ [97 + m % 26] := by rw [wl, dif_neg h]
theorem wl_ne (m : Nat) : wl m ≠ [] := by
  by_cases h : m < 26
  · rw [wl_lt h]; exact List.cons_ne_nil _ _
  · rw [wl_ge h]; intro e; exact absurd (congrArg List.length e) (by simp)
theorem snoc_inj {α : Type} {a b : List α} {x y : α} (h : a ++ [x] = b ++ [y]) : a = b ∧ x = y := by
  have := List.append_inj' h rfl
  exact ⟨this.1, by simpa using this.2⟩
theorem wl_inj : ∀ (n m : Nat), wl n = wl m → n = m := by
  intro n
  induction n using Nat.strongRecOn with
  | ind n ih =>
    intro m h
    by_cases hn : n < 26 <;> by_cases hm : m < 26
    · rw [wl_lt hn, wl_lt hm] at h
      have : 97 + n = 97 + m := by simpa using h
      omega
    · rw [wl_lt hn, wl_ge hm] at h
      exact absurd (snoc_inj (a := []) h).1.symm (wl_ne _)
    · rw [wl_ge hn, wl_lt hm] at h
      exact absurd (snoc_inj (b := []) h).1 (wl_ne _)
    · rw [wl_ge hn, wl_ge hm] at h
      obtain ⟨h1, h2⟩ := snoc_inj h
      have := ih (n / 26 - 1) (by omega) _ h1
      omega
theorem wl_ok : ∀ (n : Nat), ∀ c ∈ wl n, c < 123 := by
  intro n
  induction n using Nat.strongRecOn with
  | ind n ih =>
    intro c hc
    by_cases hn : n < 26
    · rw [wl_lt hn] at hc; simp at hc; omega
    · rw [wl_ge hn, List.mem_append] at hc
      rcases hc with hc | hc
      · exact ih _ (by omega) c hc
      · simp at hc; omega
theorem wl_len : ∀ (k n : Nat), n + 1 < 26 ^ k → (wl n).length ≤ k := by
  intro k
  induction k with
  | zero => intro n h; simp at h
  | succ k ih =>
    intro n h
    by_cases hn : n < 26
    · rw [wl_lt hn]; simp
    · rw [wl_ge hn, List.length_append]
      rw [Nat.pow_succ] at h
      have := ih (n / 26 - 1) (by omega)
      simp; omega
def strL (l : List Nat) : Str := ⟨l.toArray⟩
def wordS (m : Nat) : Str := strL (wl m)
theorem strL_app (a b : List Nat) : strL a ++ strL b = strL (a ++ b) := by
  show (⟨a.toArray ++ b.toArray⟩ : Str) = _
  simp [strL]
theorem strL_len (a : List Nat) : (strL a).length = a.length := by simp [strL, Str.length]
theorem strL_inj {a b : List Nat} (h : strL a = strL b) : a = b := by
  have := congrArg Str.cps h
  simpa [strL] using this
theorem strL_self (s : Str) : s = strL s.cps.toList := by cases s; simp [strL]
theorem wordS_inj {a b : Nat} (h : wordS a = wordS b) : a = b := wl_inj _ _ (strL_inj h)
def okS (s : Str) : Prop := s.cps.all (· < 0x110000) = true ∧ s.length ≤ 100
theorem okS_L {l : List Nat} (h : ∀ c ∈ l, c < 123) (hl : l.length ≤ 100) : okS (strL l) := ⟨by
  rw [Array.all_eq_true']
  intro c hc
  have := h c (by simpa [strL] using hc)
  simp; omega, by rw [strL_len]; exact hl⟩
theorem okS_word {m : Nat} (h : m + 1 < 26 ^ 12) : okS (wordS m) := okS_L (wl_ok m) (Nat.le_trans (wl_len 12 m h) (by decide))
def S_word : Sp3 := fun ds M Q _ => ∃ m : Nat, ds = [.int m] ∧ m + 1 < 26 ^ 12 ∧ Q (.str (wordS m)) M
theorem abc_at (r : Nat) : (("abcdefghijklmnopqrstuvwxyz" : Str)).cps.toList[r % 26]? = some (97 + r % 26) := by
  have h : ∀ j : Fin 26, (("abcdefghijklmnopqrstuvwxyz" : Str)).cps.toList[j.1]? = some (97 + j.1) := by decide +kernel
  exact h ⟨r % 26, Nat.mod_lt _ (by decide)⟩
theorem ok_word (T : Tx P K mg A0) : FnOk P w K mg base CX0 1 A0.f_word A0.d_word ["_law_number"] (lift3 S_word) := by
  refine T.F_word.ok sc_word (lift3_len fun ds M Q E ⟨m, h, _⟩ => by rw [h]; rfl) (fun cdv A outer s H vs Q E hr h => ?_)
  have hu := hr.units
  have hu5 := units65 hr
  refine ⟨_, (pss_cons (ps_set (i := 1) sc_word.nd (by rfl) (Or.inl (by rfl)) pe_str)
  (pss_cons (ps_set (i := 2) sc_word.nd (by rfl) (Or.inl (by rfl)) pe_str)
  (pss_cons (ps_for PassesOwn.never (by rfl) (pi_range1 (by rfl) T.n_range (pa_cons pe_int pa_nil)) (pg_name (i := 3) sc_word.nd (by rfl) (Or.inl (by rfl))) (pss_cons (ps_set (i := 2) sc_word.nd (by rfl) (Or.inl (by rfl)) (pe_op op_ADD (pe_ix (ix_seqK K rfl) (pv 1) (pe_op op_modN (pe_callTy call_int1 (by rfl) T.n_int (by decide +kernel) (pa_cons (pv 0) pa_nil)) pe_int) (fun _ _ => by rfl)) (pv 2)))
  (pss_cons (ps_set (i := 0) sc_word.nd (by rfl) (Or.inl (by rfl)) (pe_op op_sub (pe_op op_fdivW (pv 0) pe_int) pe_int))
  (pss_one (ps_if (pt_cmpR op_lt (pv 0) pe_int (nomark _)) (pss_one ps_break) pss_nil)))))
  (pss_one (ps_ret (pv 2)))))), run3 h fun B ds M Q3 E3 hs hE => ?_⟩
  obtain ⟨m, rfl, hm, q⟩ := hs
  change W3s B _ _ [some (.int (m : Int)), none, none, none] M
  try dsimp only [cxOf, Cx.nox, Cx.wish]
  repeat walk_at "t3"
  refine W3s.nx (nx := fun σ' M' => M' = M ∧ ∃ a L b, σ' = [a, some (.str L), some (.str (wordS m)), b]) ?_ ?_
  · refine s_for (i_rng1 ?_)
    repeat walk_at "t3"
    refine ⟨by decide, by decide, fun i σ' M' => M' = M ∧ ∃ (r : Nat) (acc : List Nat) (b : Option D), r + 1 < 26 ^ (12 - i) ∧ wl m = wl r ++ acc ∧ acc.length ≤ i ∧ σ' = [some (.int (r : Int)), some (.str "abcdefghijklmnopqrstuvwxyz"), some (.str (strL acc)), b], fun _ _ _ _ => trivial, ⟨rfl, m, [], none, hm, (List.append_nil _).symm, Nat.le_refl _, rfl⟩, ?_, ?_⟩
    · rintro i d σ' M' hi ⟨rfl, r, acc, b, hr, hw, ha, rfl⟩
      have hi' : i < 12 := by
        have := (List.getElem?_eq_some_iff.mp hi).1
        simpa using this
      repeat walk_at "t3"
      refine r3_mod (by decide) ?_
      refine r3_ix_s (c := 97 + r % 26) (by decide) (at3 (j := r % 26) (by omega) (abc_at r)) ?_
      repeat walk_at "t3"
      refine r3_add_ss (by rw [strL_len]; show 1 + acc.length ≤ 1000000; omega) ?_
      repeat walk_at "t3"
      refine r3_fdiv (by decide) (by decide) ?_
      repeat walk_at "t3"
      have e1 : (⟨#[97 + r % 26]⟩ : Str) ++ strL acc = strL ((97 + r % 26) :: acc) := strL_app [97 + r % 26] acc
      rw [e1]
      have e12 : 12 - i = (12 - (i + 1)) + 1 := by omega
      rw [e12, Nat.pow_succ] at hr
      refine iteB (fun hc => ?_) (fun hc => ?_)
      · repeat walk_at "t3"
        have hc := of_decide_eq_true hc
        have hr : r < 26 := by omega
        rw [wl_lt hr] at hw
        have e2 : strL ((97 + r % 26) :: acc) = wordS m := by rw [wordS, hw, Nat.mod_eq_of_lt hr]; rfl
        rw [e2]
        exact ⟨rfl, _, _, _, rfl⟩
      · repeat walk_at "t3"
        have hc := of_decide_eq_false hc
        have hr6 : ¬ r < 26 := by omega
        refine ⟨rfl, r / 26 - 1, (97 + r % 26) :: acc, some d, by omega, ?_, by show acc.length + 1 ≤ i + 1; omega, ?_⟩
        · rw [hw, wl_ge hr6, List.append_assoc]; rfl
        · have : ((r : Int) / 26 - 1) = ((r / 26 - 1 : Nat) : Int) := by omega
          rw [this]; rfl
    · rintro σ' M' ⟨rfl, r, acc, b, hr, _⟩
      exact absurd hr (by simp)
  · rintro σ' _ ⟨rfl, a, L, b, rfl⟩
    repeat walk_at "t3"
    exact q
def S_name : Sp3 := fun ds M Q _ => ∃ (a : Addr) (k : Nat) (o : DO), ds = [.ref a, .int k] ∧ M a = some o ∧ IsSrc o ∧ k < 100 ∧ ∀ (r : Nat) o', r * 8 + k + 1 < 26 ^ 12 → IsSrc o' → Q (.str (wordS (r * 8 + k))) (mput M a o')
theorem ok_name (T : Tx P K mg A0) : FnOk P w K mg base CX0 2 A0.f_name A0.d_name ["_law_source_here", "_law_k"] (lift3 S_name) := by
  refine T.F_name.ok sc_name (lift3_len fun ds M Q E ⟨a, k, o, h, _⟩ => by rw [h]; rfl) (fun cdv A outer s H vs Q E hr h => ?_)
  have hu := hr.units
  have hu5 := units65 hr
  refine ⟨_, (pss_cons (ps_set (i := 2) sc_name.nd (by rfl) (Or.inl (by rfl)) (pe_ix (ix_seqK K rfl) (pe_lst (pa_cons pe_int (pa_cons pe_int (pa_cons (pe_op op_pow pe_int pe_int) pa_nil)))) (pe_call (ok_draw T) (hr.mono (by decide)) (by rfl) T.g_draw T.k_draw T.b_draw .nil pass0 (pa_cons (pv 0) (pa_cons pe_int pa_nil))) (fun _ _ => by rfl)))
  (pss_one (ps_ret (pe_call (ok_word T) (hr.mono (by decide)) (by rfl) T.g_word T.k_word T.b_word .nil pass0 (pa_cons (pe_op op_ADD (pe_op op_mulW (pe_call (ok_draw T) (hr.mono (by decide)) (by rfl) T.g_draw T.k_draw T.b_draw .nil pass0 (pa_cons (pv 0) (pa_cons (pv 2) pa_nil))) pe_int) (pv 1)) pa_nil))))), run3 h fun B ds M Q3 E3 hs hE => ?_⟩
  obtain ⟨a, k, o, rfl, hm, ho, hk, q⟩ := hs
  change W3s B _ _ [some (.ref a), some (.int (k : Int)), none] M
  try dsimp only [cxOf, Cx.nox, Cx.wish]
  repeat walk_at "t3"
  refine w_lst ?_
  repeat walk_at "t3"
  refine r3_pow ⟨by decide, by decide, by decide⟩ ?_
  repeat walk_at "t3"
  refine ⟨a, 3, o, rfl, hm, ho, by decide, by decide, fun r o' r0 r3 ho' => ?_⟩
  obtain ⟨z, hz, z1, z2⟩ : ∃ z : Int, [D.int 3, .int 1000, .int (10 ^ (15 : Int).toNat)][r.toNat]? = some (.int z) ∧ 0 < z ∧ z ≤ 10 ^ 15 := by
    rcases (show r = 0 ∨ r = 1 ∨ r = 2 by omega) with rfl | rfl | rfl
    · exact ⟨3, rfl, by decide, by decide⟩
    · exact ⟨1000, rfl, by decide, by decide⟩
    · exact ⟨_, rfl, by decide, by decide⟩
  refine r3_ix_l .fz (at3 (by omega) hz) ?_
  repeat walk_at "t3"
  have hm' : mput M a o' a = some o' := mput_same
  refine ⟨a, z, o', rfl, hm', ho', z1, by omega, fun s o2 s0 s1 ho2 => ?_⟩
  rw [mput_mput]
  repeat walk_at "t3"
  refine r3_mul (mulW (by omega) (by decide)) ?_
  repeat walk_at "t3"
  have : s * 8 + (k : Int) = ((s.toNat * 8 + k : Nat) : Int) := by omega
  rw [this]
  exact ⟨_, rfl, by omega, q _ _ (by omega) ho2⟩
end
end LW
set_option pp.maxSteps 1500
set_option Elab.async false
set_option linter.all false
set_option maxRecDepth 100000
set_option maxHeartbeats 4000000
namespace LW
open PySem L2 T3
open Evl (Ex)
local macro_rules | `(tactic| walk_at "t3") => `(tactic| first
  | (with_reducible refine s_seq ?_) | (with_reducible refine s_asg ?_) | (with_reducible refine s_if ?_) | (with_reducible refine s_ret ?_) | (with_reducible refine s_drop ?_) | (with_reducible refine s_asgG ?_) | (with_reducible refine s_retN ?_)
  | (with_reducible refine s_next ?_) | (with_reducible refine s_brk ?_) | (with_reducible refine s_cont ?_) | (with_reducible refine s_par ?_) | (with_reducible refine s_fld ?_)
  | ((with_reducible refine' w_var ?hx ?_); (case hx => exact rfl)) | (with_reducible refine w_cI ?_) | (with_reducible refine w_cB ?_) | (with_reducible refine w_cS ?_) | (with_reducible refine w_cN ?_) | (with_reducible refine w_cT ?_) | (with_reducible refine w_cR ?_)
  | (with_reducible refine w_op ?_) | (with_reducible refine w_un ?_) | (with_reducible refine w_nil ?_) | (with_reducible refine w_tup ?_) | (with_reducible refine w_cons ?_) | (with_reducible refine w_cb ?_) | (with_reducible refine w_bm0 ?_) | (with_reducible refine w_bm ?_)
  | (with_reducible refine w_test ?_) | (with_reducible refine w_B ?_) | (with_reducible refine w_notT ?_) | (with_reducible refine w_yes ?_) | (with_reducible refine w_notV ?_)
  | (with_reducible refine w_ifE ?_) | (with_reducible refine w_isN ?_) | (with_reducible refine w_notN ?_) | (with_reducible refine w_tr ?_) | (with_reducible refine w_chain ?_) | (with_reducible refine w_fld ?_) | (with_reducible refine w_sl ?_) | (with_reducible refine o_no ?_) | (with_reducible refine o_some ?_)
  | (with_reducible refine w_call0 ?_) | (with_reducible refine g_name ?_) | ((with_reducible refine' g_tup ?hx ?hy ?_); (case hx => exact rfl); (case hy => exact rfl)) | (with_reducible refine g_cons ?_) | (with_reducible refine g_nil ?_) | (with_reducible refine g_set ?_)
  | (with_reducible refine r3_add_ii ?_) | (with_reducible refine r3_sub ?_) | (with_reducible refine r3_lt ?_) | (with_reducible refine r3_le ?_) | (with_reducible refine r3_gt ?_) | (with_reducible refine r3_ge ?_) | (with_reducible refine u3_neg ?_)
  | (with_reducible refine c3_int_i ?_) | (with_reducible refine c3_int_b ?_) | (with_reducible refine c3_abs ?_) | (with_reducible refine c3_len_t ?_) | (with_reducible refine c3_len .fz ?_) | (with_reducible refine c3_max2 ?_) | (with_reducible refine c3_min2 ?_)
  | (with_reducible refine r3_eq (n := 9) (m := 9) okD_int okD_int ?_) | (with_reducible refine r3_ne (n := 9) (m := 9) okD_int okD_int ?_)
  | ((with_reducible refine' Exists.intro _ (And.intro ?hx ?_)); (case hx => exact rfl))
  | ((with_reducible refine' And.intro ?hx ?_); (case hx => (show List.length _ ≤ 100000); exact Nat.le_of_ble_eq_true rfl))
  | (with_reducible refine c3_lenL (c3_len_t ?_)) | (with_reducible refine c3_lenL (c3_len .fz ?_)))

section
variable {P : Program} {w : World} {K : PySem.W.Frag} {mg : Str → Option Value} {base : Heap} {A0 : Adr}

theorem nodup_map {α β : Type} {f : α → β} : ∀ {l : List α}, (∀ (i j : Nat) a b, l[i]? = some a → l[j]? = some b → f a = f b → i = j) → (l.map f).Nodup
  | [], _ => List.nodup_nil
  | x :: l, h => by
    rw [List.map_cons, List.nodup_cons]
    refine ⟨fun hm => ?_, nodup_map fun i j a b ha hb e => ?_⟩
    · obtain ⟨y, hy, e⟩ := List.mem_map.mp hm
      obtain ⟨j, hj⟩ := List.getElem?_of_mem hy
      have := h 0 (j + 1) x y rfl hj e.symm
      omega
    · have := h (i + 1) (j + 1) a b ha hb e
      omega
theorem cutS_mem {z : Str} {lo hi : Option Int} {c : Nat} (h : c ∈ (cutS z lo hi).cps.toList) : c ∈ z.cps.toList := by
  have h : c ∈ (z.cps.toList.drop (HT.sIx z.length 0 lo)).take (HT.sIx z.length z.length hi - HT.sIx z.length 0 lo) := by simpa [cutS] using h
  exact List.mem_of_mem_drop (List.mem_of_mem_take h)
theorem cutS_len {z : Str} {lo hi : Option Int} : (cutS z lo hi).length ≤ z.length := by
  show (cutS z lo hi).cps.size ≤ z.cps.size
  simp only [cutS, List.size_toArray, List.length_take, List.length_drop]
  exact Nat.le_trans (Nat.min_le_right _ _) (Nat.le_trans (Nat.sub_le _ _) (by simp))
theorem LET_iff (c : Nat) : c ∈ LET ↔ 97 ≤ c ∧ c < 123 := by
  constructor
  · intro h
    have : ∀ x ∈ LET, 97 ≤ x ∧ x < 123 := by decide +kernel
    exact this c h
  · intro ⟨h1, h2⟩
    have : ∀ j : Fin 26, 97 + j.1 ∈ LET := by decide +kernel
    have := this ⟨c - 97, by omega⟩
    rwa [show 97 + (c - 97) = c by omega] at this
theorem goodS_iff (x : Str) : goodS x = true ↔ 1 ≤ x.length ∧ x.length ≤ 12 ∧ ∀ c ∈ x.cps.toList, 97 ≤ c ∧ c < 123 := by
  unfold goodS
  rw [Bool.and_eq_true, Bool.and_eq_true, decide_eq_true_iff, decide_eq_true_iff, List.all_eq_true]
  constructor
  · rintro ⟨⟨h1, h2⟩, h3⟩
    exact ⟨by omega, by omega, fun c hc => (LET_iff c).mp (of_decide_eq_true (h3 c hc))⟩
  · rintro ⟨h1, h2, h3⟩
    exact ⟨⟨by omega, by omega⟩, fun c hc => decide_eq_true ((LET_iff c).mpr (h3 c hc))⟩
theorem good_okT {x : Str} (h : goodS x = true) : okT x := by
  unfold okT
  rw [Array.all_eq_true']
  intro c hc
  have := ((goodS_iff x).mp h).2.2 c (by simpa using hc)
  simp; omega
theorem good_okS {x : Str} (h : goodS x = true) : okS x := ⟨good_okT h, by have := ((goodS_iff x).mp h).2.1; omega⟩
theorem good_len {x : Str} (h : goodS x = true) : x.length ≤ 1000000 := by have := ((goodS_iff x).mp h).2.1; omega
theorem wl_lo : ∀ (n : Nat), ∀ c ∈ wl n, 97 ≤ c ∧ c < 123 := by
  intro n
  induction n using Nat.strongRecOn with
  | ind n ih =>
    intro c hc
    by_cases hn : n < 26
    · rw [wl_lt hn] at hc; simp at hc; omega
    · rw [wl_ge hn, List.mem_append] at hc
      rcases hc with hc | hc
      · exact ih _ (by omega) c hc
      · simp at hc; omega
theorem strL_list (l : List Nat) : (strL l).cps.toList = l := by simp [strL]
theorem good_word {m : Nat} (h : m + 1 < 26 ^ 12) : goodS (wordS m) = true := by
  refine (goodS_iff _).mpr ⟨?_, ?_, ?_⟩
  · rw [wordS, strL_len]
    cases e : wl m with
    | nil => exact absurd e (wl_ne m)
    | cons => simp
  · rw [wordS, strL_len]; exact wl_len 12 m h
  · rw [wordS, strL_list]; exact wl_lo m
end
end LW
set_option pp.maxSteps 1500
set_option Elab.async false
set_option linter.all false
set_option maxRecDepth 100000
set_option maxHeartbeats 4000000
namespace LW
open PySem L2 T3
open Evl (Ex)
local macro_rules | `(tactic| walk_at "t3") => `(tactic| first
  | (with_reducible refine s_seq ?_) | (with_reducible refine s_asg ?_) | (with_reducible refine s_if ?_) | (with_reducible refine s_ret ?_) | (with_reducible refine s_drop ?_) | (with_reducible refine s_asgG ?_) | (with_reducible refine s_retN ?_)
  | (with_reducible refine s_next ?_) | (with_reducible refine s_brk ?_) | (with_reducible refine s_cont ?_) | (with_reducible refine s_par ?_) | (with_reducible refine s_fld ?_)
  | ((with_reducible refine' w_var ?hx ?_); (case hx => exact rfl)) | (with_reducible refine w_cI ?_) | (with_reducible refine w_cB ?_) | (with_reducible refine w_cS ?_) | (with_reducible refine w_cN ?_) | (with_reducible refine w_cT ?_) | (with_reducible refine w_cR ?_)
  | (with_reducible refine w_op ?_) | (with_reducible refine w_un ?_) | (with_reducible refine w_nil ?_) | (with_reducible refine w_tup ?_) | (with_reducible refine w_cons ?_) | (with_reducible refine w_cb ?_) | (with_reducible refine w_bm0 ?_) | (with_reducible refine w_bm ?_)
  | (with_reducible refine w_test ?_) | (with_reducible refine w_B ?_) | (with_reducible refine w_notT ?_) | (with_reducible refine w_yes ?_) | (with_reducible refine w_notV ?_)
  | (with_reducible refine w_ifE ?_) | (with_reducible refine w_isN ?_) | (with_reducible refine w_notN ?_) | (with_reducible refine w_tr ?_) | (with_reducible refine w_chain ?_) | (with_reducible refine w_fld ?_) | (with_reducible refine w_sl ?_) | (with_reducible refine o_no ?_) | (with_reducible refine o_some ?_)
  | (with_reducible refine w_call0 ?_) | (with_reducible refine g_name ?_) | ((with_reducible refine' g_tup ?hx ?hy ?_); (case hx => exact rfl); (case hy => exact rfl)) | (with_reducible refine g_cons ?_) | (with_reducible refine g_nil ?_) | (with_reducible refine g_set ?_)
  | (with_reducible refine r3_add_ii ?_) | (with_reducible refine r3_sub ?_) | (with_reducible refine r3_lt ?_) | (with_reducible refine r3_le ?_) | (with_reducible refine r3_gt ?_) | (with_reducible refine r3_ge ?_) | (with_reducible refine u3_neg ?_)
  | (with_reducible refine c3_int_i ?_) | (with_reducible refine c3_int_b ?_) | (with_reducible refine c3_abs ?_) | (with_reducible refine c3_len_t ?_) | (with_reducible refine c3_len .fz ?_) | (with_reducible refine c3_max2 ?_) | (with_reducible refine c3_min2 ?_)
  | (with_reducible refine r3_eq (n := 9) (m := 9) okD_int okD_int ?_) | (with_reducible refine r3_ne (n := 9) (m := 9) okD_int okD_int ?_)
  | ((with_reducible refine' Exists.intro _ (And.intro ?hx ?_)); (case hx => exact rfl))
  | ((with_reducible refine' And.intro ?hx ?_); (case hx => (show List.length _ ≤ 100000); exact Nat.le_of_ble_eq_true rfl))
  | (with_reducible refine c3_lenL (c3_len_t ?_)) | (with_reducible refine c3_lenL (c3_len .fz ?_)))

section
variable {P : Program} {w : World} {K : PySem.W.Frag} {mg : Str → Option Value} {base : Heap} {A0 : Adr}

def S_source (K : PySem.W.Frag) : Hp → Sp3 := fun F ds M Q _ => ∃ (a : Addr) (ns : List Int), ds = [.ref a] ∧ SqL K F a (ns.map V.int) ∧ ns.length ≤ 63 ∧ ∀ p o, M p = none → IsSrc o → Q (.ref p) (mput M p o)
theorem source_mono : ∀ F F' ds M Q E, Ex F F' → S_source K F ds M Q E → S_source K F' ds M Q E := fun F F' ds M Q E e ⟨a, ns, h1, h2, h3⟩ => ⟨a, ns, h1, Evl.ex_l e h2, h3⟩
theorem ok_source (T : Tx P K mg A0) : FnOk P w K mg base CX0 1 A0.f_source A0.d_source ["_law_script"] (lift3B (S_source K)) := by
  refine T.F_source.ok sc_source (lift3B_len fun F ds M Q E ⟨a, b, h, _⟩ => by rw [h]; rfl) (fun cdv A outer s H vs Q E hr h => ?_)
  have hu := hr.units
  have hu5 := units65 hr
  refine ⟨_, (pss_one (ps_ret (pe_lst (pa_cons (pe_lc (own := [("_law_cell", 1)]) (g := (gName 1)) (by rfl) sc_source.nd (pi_list (pe_slice (sl_SLTK K rfl) (pv 0) po_none (po_some pe_int))) (blkOk_by (N := ["_law_script", "_law_cell"]) (sc := defScope s_source) (own := [("_law_cell", 1)]) (by decide +kernel)) (fun _ _ _ _ _ => (pg_name (i := 1) sc_source.nd (by rfl) (Or.inl (by rfl)))) (fun _ _ _ _ _ => pts_nil) (fun _ _ _ _ _ => (pe_callTy call_int1 (by rfl) T.n_int (by decide +kernel) (pa_cons (pv 1) pa_nil)))) (pa_cons pe_int (pa_cons pe_int (pa_cons pe_int pa_nil))))))), run3B h fun B ds M Q3 E3 hs hE => ?_⟩
  obtain ⟨a, ns, rfl, hS, hl, q⟩ := hs
  change W3s B _ _ [some (.ref a), none] M
  try dsimp only [cxOf, Cx.nox, Cx.wish]
  repeat walk_at "t3"
  refine w_lstO ?_
  repeat walk_at "t3"
  refine w_lcP (fun _ => true) (fun d => d) own_name (i_list ?_)
  repeat walk_at "t3"
  refine s3_L <| s3_q hS ?_
  repeat walk_at "t3"
  have ec : cutD (ns.map D.int) none (some 63) = ((ns.drop (HT.sIx (ns.map D.int).length 0 none)).take (HT.sIx (ns.map D.int).length (ns.map D.int).length (some 63) - HT.sIx (ns.map D.int).length 0 none)).map D.int := by
    unfold cutD; rw [List.map_take, List.map_drop]
  have lc : ∀ x y : Nat, ((ns.drop x).take y).length ≤ 63 := fun x y => by rw [List.length_take, List.length_drop]; omega
  rw [ec]
  generalize hc : (ns.drop (HT.sIx (ns.map D.int).length 0 none)).take (HT.sIx (ns.map D.int).length (ns.map D.int).length (some 63) - HT.sIx (ns.map D.int).length 0 none) = cells
  have lc : cells.length ≤ 63 := by rw [← hc]; exact lc _ _
  refine ⟨by rw [List.length_map]; omega, trivial, ?_, ?_⟩
  · intro i d M' hi _
    obtain ⟨z, hz, rfl⟩ := map_at hi
    repeat walk_at "t3"
    refine ⟨rfl, ?_⟩
    repeat walk_at "t3"
    refine ⟨rfl, rfl, fun _ => ?_⟩
    repeat walk_at "t3"
    exact ⟨rfl, rfl⟩
  have e : ((cells.map D.int).filter (fun _ => true)).map (fun d => d) = cells.map D.int := by rw [List.filter_eq_self.mpr (fun _ _ => rfl), List.map_id']
  rw [e]
  repeat walk_at "t3"
  exact fun p hp => q p _ hp ⟨cells, 0, 0, 0, rfl, lc, by decide, by decide, by decide, by decide⟩
end
end LW
set_option pp.maxSteps 1500
set_option Elab.async false
set_option linter.all false
set_option maxRecDepth 100000
set_option maxHeartbeats 4000000
namespace LW
open PySem L2 T3
open Evl (Ex)
local macro_rules | `(tactic| walk_at "t3") => `(tactic| first
  | (with_reducible refine s_seq ?_) | (with_reducible refine s_asg ?_) | (with_reducible refine s_if ?_) | (with_reducible refine s_ret ?_) | (with_reducible refine s_drop ?_) | (with_reducible refine s_asgG ?_) | (with_reducible refine s_retN ?_)
  | (with_reducible refine s_next ?_) | (with_reducible refine s_brk ?_) | (with_reducible refine s_cont ?_) | (with_reducible refine s_par ?_) | (with_reducible refine s_fld ?_)
  | ((with_reducible refine' w_var ?hx ?_); (case hx => exact rfl)) | (with_reducible refine w_cI ?_) | (with_reducible refine w_cB ?_) | (with_reducible refine w_cS ?_) | (with_reducible refine w_cN ?_) | (with_reducible refine w_cT ?_) | (with_reducible refine w_cR ?_)
  | (with_reducible refine w_op ?_) | (with_reducible refine w_un ?_) | (with_reducible refine w_nil ?_) | (with_reducible refine w_tup ?_) | (with_reducible refine w_cons ?_) | (with_reducible refine w_cb ?_) | (with_reducible refine w_bm0 ?_) | (with_reducible refine w_bm ?_)
  | (with_reducible refine w_test ?_) | (with_reducible refine w_B ?_) | (with_reducible refine w_notT ?_) | (with_reducible refine w_yes ?_) | (with_reducible refine w_notV ?_)
  | (with_reducible refine w_ifE ?_) | (with_reducible refine w_isN ?_) | (with_reducible refine w_notN ?_) | (with_reducible refine w_tr ?_) | (with_reducible refine w_chain ?_) | (with_reducible refine w_fld ?_) | (with_reducible refine w_sl ?_) | (with_reducible refine o_no ?_) | (with_reducible refine o_some ?_)
  | (with_reducible refine w_call0 ?_) | (with_reducible refine g_name ?_) | ((with_reducible refine' g_tup ?hx ?hy ?_); (case hx => exact rfl); (case hy => exact rfl)) | (with_reducible refine g_cons ?_) | (with_reducible refine g_nil ?_) | (with_reducible refine g_set ?_)
  | (with_reducible refine r3_add_ii ?_) | (with_reducible refine r3_sub ?_) | (with_reducible refine r3_lt ?_) | (with_reducible refine r3_le ?_) | (with_reducible refine r3_gt ?_) | (with_reducible refine r3_ge ?_) | (with_reducible refine u3_neg ?_)
  | (with_reducible refine c3_int_i ?_) | (with_reducible refine c3_int_b ?_) | (with_reducible refine c3_abs ?_) | (with_reducible refine c3_len_t ?_) | (with_reducible refine c3_len .fz ?_) | (with_reducible refine c3_max2 ?_) | (with_reducible refine c3_min2 ?_)
  | (with_reducible refine r3_eq (n := 9) (m := 9) okD_int okD_int ?_) | (with_reducible refine r3_ne (n := 9) (m := 9) okD_int okD_int ?_)
  | ((with_reducible refine' Exists.intro _ (And.intro ?hx ?_)); (case hx => exact rfl))
  | ((with_reducible refine' And.intro ?hx ?_); (case hx => (show List.length _ ≤ 100000); exact Nat.le_of_ble_eq_true rfl))
  | (with_reducible refine c3_lenL (c3_len_t ?_)) | (with_reducible refine c3_lenL (c3_len .fz ?_)))

section
variable {P : Program} {w : World} {K : PySem.W.Frag} {mg : Str → Option Value} {base : Heap} {A0 : Adr}

theorem okT_app {a b : Str} (ha : okT a) (hb : okT b) : okT (a ++ b) := by
  show (a.cps ++ b.cps).all _ = true
  rw [Array.all_append, show a.cps.all _ = true from ha, show b.cps.all _ = true from hb]; rfl
theorem okT_cut {z : Str} {lo hi : Option Int} (h : okT z) : okT (cutS z lo hi) := by
  unfold okT
  rw [Array.all_eq_true']
  intro c hc
  have := Array.all_eq_true'.mp h c (by simpa using cutS_mem (by simpa using hc))
  exact this
theorem len_app (a b : Str) : (a ++ b).length = a.length + b.length := by
  show (a.cps ++ b.cps).size = _
  rw [Array.size_append]; rfl
theorem cut_two {z : Str} {p : Nat} : (cutS z none (some (p : Int))).cps.toList = z.cps.toList.take (min p z.length) ∧ (cutS z (some (p : Int)) none).cps.toList = z.cps.toList.drop (min p z.length) := by
  have e : HT.sIx z.length z.length (some (p : Int)) = min p z.length := HT.sIx_nat _ _ p
  have e' : HT.sIx z.length 0 (some (p : Int)) = min p z.length := HT.sIx_nat _ _ p
  have e0 : HT.sIx z.length 0 none = 0 := rfl
  have e1 : HT.sIx z.length z.length none = z.length := rfl
  unfold cutS
  rw [e, e', e0, e1]
  refine ⟨by simp, ?_⟩
  simp only [List.toList_toArray]
  exact List.take_of_length_le (by rw [List.length_drop]; simp [Str.length])
theorem good_ins {z : Str} {p k : Nat} (h : goodS z = true) (hl : z.length ≤ 11) (hk : k < 26) : goodS (cutS z none (some (p : Int)) ++ wordS k ++ cutS z (some (p : Int)) none) = true := by
  obtain ⟨h1, h2, h3⟩ := (goodS_iff z).mp h
  obtain ⟨c1, c2⟩ := cut_two (z := z) (p := p)
  have e : (cutS z none (some (p : Int)) ++ wordS k ++ cutS z (some (p : Int)) none).cps.toList = z.cps.toList.take (min p z.length) ++ [97 + k] ++ z.cps.toList.drop (min p z.length) := by
    rw [← c1, ← c2, ← wl_lt hk, ← strL_list (wl k)]
    show ((cutS z none (some (p : Int))).cps ++ (wordS k).cps ++ (cutS z (some (p : Int)) none).cps).toList = _
    rw [Array.toList_append, Array.toList_append]; rfl
  have hz : z.cps.toList.length = z.length := by simp [Str.length]
  have el : (cutS z none (some (p : Int)) ++ wordS k ++ cutS z (some (p : Int)) none).length = z.length + 1 := by
    show (cutS z none (some (p : Int)) ++ wordS k ++ cutS z (some (p : Int)) none).cps.size = _
    rw [← Array.length_toList, e]
    simp only [List.length_append, List.length_take, List.length_drop, List.length_cons, List.length_nil, hz]
    omega
  refine (goodS_iff _).mpr ⟨by rw [el]; omega, by rw [el]; omega, fun c hc => ?_⟩
  rw [e] at hc
  rcases List.mem_append.mp hc with hc | hc
  · rcases List.mem_append.mp hc with hc | hc
    · exact h3 c (List.mem_of_mem_take hc)
    · have : c = 97 + k := by simpa using hc
      omega
  · exact h3 c (List.mem_of_mem_drop hc)
def Names (many : Nat) (ns : List Str) : Prop := ns.length = many ∧ ns.Nodup ∧ ∀ s ∈ ns, goodS s = true
def S_names : Sp3 := fun ds M Q _ => ∃ (a : Addr) (many : Nat) (o : DO), ds = [.ref a, .int many] ∧ M a = some o ∧ IsSrc o ∧ many ≤ 8 ∧ ∀ (ns : List Str) o' p, Names many ns → IsSrc o' → M p = none → Q (.ref p) (mput (mput M a o') p (.lst (ns.map .str)))
theorem ok_names (T : Tx P K mg A0) : FnOk P w K mg base CX0 3 A0.f_names A0.d_names ["_law_source_here", "_law_many"] (lift3 S_names) := by
  refine T.F_names.ok sc_names (lift3_len fun ds M Q E ⟨a, k, o, h, _⟩ => by rw [h]; rfl) (fun cdv A outer s H vs Q E hr h => ?_)
  have hu := hr.units
  have hu5 := units65 hr
  refine ⟨_, (pss_cons (ps_if (pt_cmpR (op_eqDK K rfl hu) (pe_call (ok_draw T) (hr.mono (by decide)) (by rfl) T.g_draw T.k_draw T.b_draw .nil pass0 (pa_cons (pv 0) (pa_cons pe_int pa_nil))) pe_int (nomark _)) (pss_one (ps_ret (pe_lc (own := [("_law_k", 5)]) (g := (gName 5)) (by rfl) sc_names.nd (pi_range1 (by rfl) T.n_range (pa_cons (pv 1) pa_nil)) (blkOk_by (N := ["_law_source_here", "_law_many", "_law_word_here", "_law_place", "_law_turn", "_law_k"]) (sc := defScope s_names) (own := [("_law_k", 5)]) (by decide +kernel)) (fun _ _ _ _ _ => (pg_name (i := 5) sc_names.nd (by rfl) (Or.inl (by rfl)))) (fun _ _ _ _ _ => pts_nil) (fun _ _ _ _ _ => (pe_call (ok_name T) (hr.mono (by decide)) (by rfl) T.g_name T.k_name T.b_name .nil pass0 (pa_cons (pv 0) (pa_cons (pv 5) pa_nil))))))) pss_nil)
  (pss_cons (ps_set (i := 2) sc_names.nd (by rfl) (Or.inr (by rfl)) (pe_call (ok_word T) (hr.mono (by decide)) (by rfl) T.g_word T.k_word T.b_word .nil pass0 (pa_cons (pe_call (ok_draw T) (hr.mono (by decide)) (by rfl) T.g_draw T.k_draw T.b_draw .nil pass0 (pa_cons (pv 0) (pa_cons (pe_ix (ix_seqK K rfl) (pe_lst (pa_cons pe_int (pa_cons (pe_op op_pow pe_int pe_int) pa_nil))) (pe_call (ok_draw T) (hr.mono (by decide)) (by rfl) T.g_draw T.k_draw T.b_draw .nil pass0 (pa_cons (pv 0) (pa_cons pe_int pa_nil))) (fun _ _ => by rfl)) pa_nil))) pa_nil)))
  (pss_cons (ps_set (i := 3) sc_names.nd (by rfl) (Or.inr (by rfl)) (pe_call (ok_draw T) (hr.mono (by decide)) (by rfl) T.g_draw T.k_draw T.b_draw .nil pass0 (pa_cons (pv 0) (pa_cons (pe_op op_ADD (pe_callB (call_lenDK K rfl) (by rfl) T.n_len PySem.boot_len (pa_cons (pv 2) pa_nil)) pe_int) pa_nil))))
  (pss_cons (ps_set (i := 4) sc_names.nd (by rfl) (Or.inr (by rfl)) (pe_call (ok_draw T) (hr.mono (by decide)) (by rfl) T.g_draw T.k_draw T.b_draw .nil pass0 (pa_cons (pv 0) (pa_cons pe_int pa_nil))))
  (pss_one (ps_ret (pe_lc (own := [("_law_k", 5)]) (g := (gName 5)) (by rfl) sc_names.nd (pi_range1 (by rfl) T.n_range (pa_cons (pv 1) pa_nil)) (blkOk_by (N := ["_law_source_here", "_law_many", "_law_word_here", "_law_place", "_law_turn", "_law_k"]) (sc := defScope s_names) (own := [("_law_k", 5)]) (by decide +kernel)) (fun _ _ _ _ _ => (pg_name (i := 5) sc_names.nd (by rfl) (Or.inl (by rfl)))) (fun _ _ _ _ _ => pts_nil) (fun _ _ _ _ _ => (pe_op op_ADD (pe_op op_ADD (pe_slice (sl_SLTK K rfl) (pv 2) po_none (po_some (pv 3))) (pe_call (ok_word T) (hr.mono (by decide)) (by rfl) T.g_word T.k_word T.b_word .nil pass0 (pa_cons (pe_op op_modN (pe_callTy call_int1 (by rfl) T.n_int (by decide +kernel) (pa_cons (pe_op op_ADD (pv 5) (pv 4)) pa_nil)) pe_int) pa_nil))) (pe_slice (sl_SLTK K rfl) (pv 2) (po_some (pv 3)) po_none)))))))))), run3 h fun B ds M Q3 E3 hs hE => ?_⟩
  obtain ⟨a, many, o, rfl, hm, ho, hk, q⟩ := hs
  change W3s B _ _ [some (.ref a), some (.int (many : Int)), none, none, none, none] M
  try dsimp only [cxOf, Cx.nox, Cx.wish]
  repeat walk_at "t3"
  refine ⟨a, 2, o, rfl, hm, ho, by decide, by decide, fun r o1 r0 r1 ho1 => ?_⟩
  have hm1 : mput M a o1 a = some o1 := mput_same
  repeat walk_at "t3"
  refine iteB (fun _ => ?_) (fun _ => ?_)
  · repeat walk_at "t3"
    refine w_lcO own_name (i_rng1 ?_)
    repeat walk_at "t3"
    refine ⟨by omega, by omega, fun i acc M' => ∃ (o' : DO) (ns : List Nat), M' = mput M a o' ∧ IsSrc o' ∧ ns.length = i ∧ acc = ns.map (fun n => D.str (wordS n)) ∧ ∀ (j n : Nat), ns[j]? = some n → n % 8 = j ∧ n + 1 < 26 ^ 12, ?_, ?_, ?_, ?_, ?_⟩
    · rintro i acc M' ⟨o', ns, rfl, ho', hl, rfl, hn⟩
      exact ⟨trivial, by rw [List.length_map, hl]; exact Nat.le_refl _⟩
    · rw [List.length_map, List.length_range]; omega
    · exact ⟨o1, [], rfl, ho1, rfl, rfl, fun j n h => by simp at h⟩
    · rintro i d acc M' L hi ⟨o', ns, rfl, ho', hl, rfl, hn⟩ hL
      have hi' : i < many := by
        have := (List.getElem?_eq_some_iff.mp hi).1
        simpa using this
      have hd : d = .int (i : Int) := by
        rw [List.getElem?_map, List.getElem?_range (by simpa using hi')] at hi
        exact (Option.some.inj hi).symm
      subst hd
      have hLa : a ≠ L := fun e => by subst e; rw [mput_same] at hL; cases hL
      repeat walk_at "t3"
      show if true = true then _ else _
      rw [if_pos rfl]
      repeat walk_at "t3"
      refine ⟨a, i, o', rfl, by rw [mput_ne hLa]; exact mput_same, ho', by omega, fun r o2 hr2 ho2 => ?_⟩
      refine ⟨mput M a o2, ?_, ?_, o2, ns ++ [r * 8 + i], rfl, ho2, by simp [hl], by simp, ?_⟩
      · rw [← mput_comm hLa, mput_mput]
      · rw [mput_ne (Ne.symm hLa)] at hL ⊢; exact hL
      · intro j n h
        rcases Nat.lt_or_ge j ns.length with hj | hj
        · rw [List.getElem?_append_left hj] at h; exact hn j n h
        · rw [List.getElem?_append_right hj] at h
          have : j - ns.length = 0 := by
            have := (List.getElem?_eq_some_iff.mp h).1
            simp at this; omega
          rw [this] at h
          have h : r * 8 + i = n := Option.some.inj h
          subst h
          exact ⟨by omega, hr2⟩
    · rintro acc M' L hL ⟨o', ns, rfl, ho', hl, rfl, hn⟩
      have hl : ns.length = many := by simpa using hl
      have hL0 : M L = none := by
        by_cases e : L = a
        · subst e; rw [mput_same] at hL; cases hL
        · rwa [mput_ne e] at hL
      have := q (ns.map wordS) o' L ⟨by rw [List.length_map, hl], nodup_map fun i j a b ha hb e => ?_, fun s hs => ?_⟩ ho' hL0
      · rw [List.map_map] at this; exact this
      · have e := wordS_inj e
        rw [← (hn i a ha).1, ← (hn j b hb).1, e]
      · obtain ⟨n, hn', rfl⟩ := List.mem_map.mp hs
        obtain ⟨j, hj⟩ := List.getElem?_of_mem hn'
        exact good_word (hn j n hj).2
  · repeat walk_at "t3"
    refine w_lst ?_
    repeat walk_at "t3"
    refine r3_pow ⟨by decide, by decide, by decide⟩ ?_
    repeat walk_at "t3"
    refine ⟨a, 2, o1, rfl, hm1, ho1, by decide, by decide, fun r o2 r0 r1 ho2 => ?_⟩
    rw [mput_mput]
    have hm2 : mput M a o2 a = some o2 := mput_same
    obtain ⟨z, hz, z1, z2⟩ : ∃ z : Int, [D.int 3, .int (10 ^ (13 : Int).toNat)][r.toNat]? = some (.int z) ∧ 0 < z ∧ z ≤ 10 ^ 13 := by
      rcases (show r = 0 ∨ r = 1 by omega) with rfl | rfl
      · exact ⟨3, rfl, by decide, by decide⟩
      · exact ⟨_, rfl, by decide, by decide⟩
    refine r3_ix_l .fz (at3 (by omega) hz) ?_
    repeat walk_at "t3"
    refine ⟨a, z, o2, rfl, hm2, ho2, z1, by omega, fun s o3 s0 s1 ho3 => ?_⟩
    rw [mput_mput]
    have hm3 : mput M a o3 a = some o3 := mput_same
    repeat walk_at "t3"
    refine ⟨s.toNat, by rw [Int.toNat_of_nonneg s0], by omega, ?_⟩
    have okw : okS (wordS s.toNat) := okS_word (by omega)
    have lw' : (wordS s.toNat).length ≤ 10 := by rw [wordS, strL_len]; exact wl_len 10 _ (by omega)
    have lw : (wordS s.toNat).length ≤ 12 := by omega
    have gw : goodS (wordS s.toNat) = true := good_word (by omega)
    generalize wordS s.toNat = W at okw lw lw' gw ⊢
    repeat walk_at "t3"
    refine c3_lenL <| c3_len_s (by omega) ?_
    repeat walk_at "t3"
    refine ⟨a, _, o3, rfl, hm3, ho3, by omega, by omega, fun pl o4 p0 p1 ho4 => ?_⟩
    rw [mput_mput]
    have hm4 : mput M a o4 a = some o4 := mput_same
    repeat walk_at "t3"
    refine ⟨a, 8, o4, rfl, hm4, ho4, by decide, by decide, fun tu o5 t0 t1 ho5 => ?_⟩
    rw [mput_mput]
    repeat walk_at "t3"
    have okc : ∀ lo hi, okS (cutS W lo hi) := fun lo hi => ⟨by
      rw [Array.all_eq_true']
      intro c hc
      have := Array.all_eq_true'.mp okw.1 c (by simpa using cutS_mem (by simpa using hc))
      exact this, Nat.le_trans cutS_len okw.2⟩
    have lc : ∀ lo hi, (cutS W lo hi).length ≤ 12 := fun lo hi => Nat.le_trans cutS_len lw
    refine w_lcPO (fun _ => true) (fun d => match d with | .int k => .str (cutS W none (some pl) ++ wordS (((k + tu) % 8).toNat) ++ cutS W (some pl) none) | d => d) own_name (i_rng1 ?_)
    repeat walk_at "t3"
    refine ⟨by omega, by omega, by rw [List.length_map, List.length_range]; omega, trivial, ?_, ?_⟩
    · intro i d M' hi _
      have hd : d = .int (i : Int) := by
        rw [List.getElem?_map] at hi
        cases h : (List.range (many : Int).toNat)[i]? with
        | none => rw [h] at hi; cases hi
        | some z =>
          rw [h] at hi
          have hz : z = i := by
            have := (List.getElem?_eq_some_iff.mp h); obtain ⟨_, h2⟩ := this; simpa using h2.symm
          subst hz
          exact (Option.some.inj hi).symm
      subst hd
      repeat walk_at "t3"
      refine ⟨rfl, ?_⟩
      repeat walk_at "t3"
      refine ⟨rfl, rfl, fun _ => ?_⟩
      repeat walk_at "t3"
      refine s3_L <| s3_s (by omega) ?_
      repeat walk_at "t3"
      refine r3_mod (by decide) ?_
      repeat walk_at "t3"
      refine ⟨((i + tu) % 8).toNat, by rw [Int.toNat_of_nonneg (by omega)], by omega, ?_⟩
      have l1 := lc none (some pl)
      have l2 : (wordS ((i + tu) % 8).toNat).length ≤ 12 := by rw [wordS, strL_len]; exact wl_len 12 _ (by omega)
      refine r3_add_ss (by omega) ?_
      repeat walk_at "t3"
      refine s3_L <| s3_s (by omega) ?_
      have l3 := lc (some pl) none
      refine r3_add_ss ?_ ⟨rfl, rfl⟩
      show ((cutS W none (some pl)).cps ++ (wordS ((i + tu) % 8).toNat).cps).size + _ ≤ _
      rw [Array.size_append]
      show (cutS W none (some pl)).length + (wordS ((i + tu) % 8).toNat).length + (cutS W (some pl) none).length ≤ _
      omega
    · have e : ((List.range (many : Int).toNat).map (fun (i : Nat) => D.int (i : Int))).filter (fun _ => true) = (List.range (many : Int).toNat).map (fun (i : Nat) => D.int (i : Int)) := List.filter_eq_self.mpr fun _ _ => rfl
      rw [e, List.map_map]
      intro L hL
      have hL0 : M L = none := by
        by_cases e : L = a
        · subst e; rw [mput_same] at hL; cases hL
        · rwa [mput_ne e] at hL
      have := q ((List.range many).map fun (i : Nat) => cutS W none (some pl) ++ wordS ((((i : Int) + tu) % 8).toNat) ++ cutS W (some pl) none) o5 L ⟨by simp, nodup_map fun i j a b ha hb e => ?_, fun s hs => ?_⟩ ho5 hL0
      · rw [List.map_map] at this
        exact this
      · have fact : ∀ {i a : Nat}, (List.range many)[i]? = some a → a = i ∧ i < many := fun {i a} h => by
          obtain ⟨h1, h2⟩ := List.getElem?_eq_some_iff.mp h
          exact ⟨by simpa using h2.symm, by simpa using h1⟩
        obtain ⟨rfl, i1⟩ := fact ha
        obtain ⟨rfl, j1⟩ := fact hb
        have e1 : ∀ z : Int, wordS (z % 8).toNat = strL [97 + (z % 8).toNat] := fun z => by rw [wordS, wl_lt (by omega)]
        simp only [e1] at e
        rw [strL_self (cutS W none (some pl)), strL_self (cutS W (some pl) none), strL_app, strL_app, strL_app, strL_app] at e
        have e := strL_inj e
        have e := List.append_cancel_left (List.append_cancel_right e)
        have e : 97 + ((((a : Nat) : Int) + tu) % 8).toNat = 97 + ((((b : Nat) : Int) + tu) % 8).toNat := by simpa using e
        omega
      · obtain ⟨k, hk', rfl⟩ := List.mem_map.mp hs
        rw [show pl = ((pl.toNat : Nat) : Int) by omega]
        exact good_ins gw (by omega) (by omega)
end
end LW
set_option pp.maxSteps 1500
set_option Elab.async false
set_option linter.all false
set_option maxRecDepth 100000
set_option maxHeartbeats 4000000
namespace LW
open PySem L2 T3
open Evl (Ex)
local macro_rules | `(tactic| walk_at "t3") => `(tactic| first
  | (with_reducible refine s_seq ?_) | (with_reducible refine s_asg ?_) | (with_reducible refine s_if ?_) | (with_reducible refine s_ret ?_) | (with_reducible refine s_drop ?_) | (with_reducible refine s_asgG ?_) | (with_reducible refine s_retN ?_)
  | (with_reducible refine s_next ?_) | (with_reducible refine s_brk ?_) | (with_reducible refine s_cont ?_) | (with_reducible refine s_par ?_) | (with_reducible refine s_fld ?_)
  | ((with_reducible refine' w_var ?hx ?_); (case hx => exact rfl)) | (with_reducible refine w_cI ?_) | (with_reducible refine w_cB ?_) | (with_reducible refine w_cS ?_) | (with_reducible refine w_cN ?_) | (with_reducible refine w_cT ?_) | (with_reducible refine w_cR ?_)
  | (with_reducible refine w_op ?_) | (with_reducible refine w_un ?_) | (with_reducible refine w_nil ?_) | (with_reducible refine w_tup ?_) | (with_reducible refine w_cons ?_) | (with_reducible refine w_cb ?_) | (with_reducible refine w_bm0 ?_) | (with_reducible refine w_bm ?_)
  | (with_reducible refine w_test ?_) | (with_reducible refine w_B ?_) | (with_reducible refine w_notT ?_) | (with_reducible refine w_yes ?_) | (with_reducible refine w_notV ?_)
  | (with_reducible refine w_ifE ?_) | (with_reducible refine w_isN ?_) | (with_reducible refine w_notN ?_) | (with_reducible refine w_tr ?_) | (with_reducible refine w_chain ?_) | (with_reducible refine w_fld ?_) | (with_reducible refine w_sl ?_) | (with_reducible refine o_no ?_) | (with_reducible refine o_some ?_)
  | (with_reducible refine w_call0 ?_) | (with_reducible refine g_name ?_) | ((with_reducible refine' g_tup ?hx ?hy ?_); (case hx => exact rfl); (case hy => exact rfl)) | (with_reducible refine g_cons ?_) | (with_reducible refine g_nil ?_) | (with_reducible refine g_set ?_)
  | (with_reducible refine r3_add_ii ?_) | (with_reducible refine r3_sub ?_) | (with_reducible refine r3_lt ?_) | (with_reducible refine r3_le ?_) | (with_reducible refine r3_gt ?_) | (with_reducible refine r3_ge ?_) | (with_reducible refine u3_neg ?_)
  | (with_reducible refine c3_int_i ?_) | (with_reducible refine c3_int_b ?_) | (with_reducible refine c3_abs ?_) | (with_reducible refine c3_len_t ?_) | (with_reducible refine c3_len .fz ?_) | (with_reducible refine c3_max2 ?_) | (with_reducible refine c3_min2 ?_)
  | (with_reducible refine r3_eq (n := 9) (m := 9) okD_int okD_int ?_) | (with_reducible refine r3_ne (n := 9) (m := 9) okD_int okD_int ?_)
  | ((with_reducible refine' Exists.intro _ (And.intro ?hx ?_)); (case hx => exact rfl))
  | ((with_reducible refine' And.intro ?hx ?_); (case hx => (show List.length _ ≤ 100000); exact Nat.le_of_ble_eq_true rfl))
  | (with_reducible refine c3_lenL (c3_len_t ?_)) | (with_reducible refine c3_lenL (c3_len .fz ?_)))

section
variable {P : Program} {w : World} {K : PySem.W.Frag} {mg : Str → Option Value} {base : Heap} {A0 : Adr}

open GenF
/-! ### the rows by places -/
theorem flat_congr {α β : Type} {f g : α → List β} : ∀ {l : List α}, (∀ j ∈ l, f j = g j) → l.flatMap f = l.flatMap g
  | [], _ => rfl
  | j :: l, h => by rw [List.flatMap_cons, List.flatMap_cons, h j List.mem_cons_self, flat_congr fun x hx => h x (List.mem_cons_of_mem _ hx)]
def vs (wk : Work) (p : List Nat) : List Nat := (List.range wk.length).filter fun j => decide (p.count j < (wk.getD j default).2.length)
def dfs (wk : Work) : Nat → List Nat → List (List Nat)
  | 0, _ => [[]]
  | m + 1, p => (vs wk p).flatMap fun j => (dfs wk m (p ++ [j])).map (j :: ·)
def ext1 (wk : Work) (p : List Nat) : List (List Nat) := (vs wk p).map fun j => p ++ [j]
def allN (wk : Work) : Nat → List (List Nat)
  | 0 => [[]]
  | m + 1 => (allN wk m).flatMap (ext1 wk)
def bfs (wk : Work) : Nat → List Nat → List (List Nat)
  | 0, p => [p]
  | m + 1, p => (bfs wk m p).flatMap (ext1 wk)
theorem allN_bfs (wk : Work) : ∀ m, allN wk m = bfs wk m []
  | 0 => rfl
  | m + 1 => by unfold allN bfs; rw [allN_bfs wk m]
theorem bfs_head (wk : Work) : ∀ m p, bfs wk (m + 1) p = (ext1 wk p).flatMap (bfs wk m)
  | 0, p => by
    show [p].flatMap (ext1 wk) = (ext1 wk p).flatMap fun q => [q]
    rw [List.flatMap_singleton, List.flatMap_singleton']
  | m + 1, p => by
    show (bfs wk (m + 1) p).flatMap (ext1 wk) = _
    rw [bfs_head wk m p, List.flatMap_assoc]
    rfl
theorem bfs_dfs (wk : Work) : ∀ m p, bfs wk m p = (dfs wk m p).map (p ++ ·)
  | 0, p => by show [p] = [p ++ []]; rw [List.append_nil]
  | m + 1, p => by
    rw [bfs_head]
    unfold ext1 dfs
    rw [List.flatMap_map, List.map_flatMap]
    congr 1
    funext j
    rw [bfs_dfs wk m (p ++ [j]), List.map_map]
    congr 1
    funext q
    simp
theorem allN_dfs (wk : Work) (m : Nat) : allN wk m = dfs wk m [] := by
  rw [allN_bfs, bfs_dfs]
  simp
/-- what stands at a place behind the places p -/
def ent (wk : Work) (p : List Nat) (j : Nat) : Str × List Str := ((wk.getD j default).1, (wk.getD j default).2.drop (p.count j))
def out1 (wk : Work) (p : List Nat) (j : Nat) : Str × Str := hd1 (ent wk p j)
def outs (wk : Work) : List Nat → List Nat → GRow
  | _, [] => []
  | p, j :: q => out1 wk p j :: outs wk (p ++ [j]) q
def remW (wk : Work) (p : List Nat) : Work := (List.range wk.length).map (ent wk p)
theorem remW_nil (wk : Work) : remW wk [] = wk := by
  unfold remW
  apply List.ext_getElem?
  intro i
  rw [List.getElem?_map]
  by_cases h : i < wk.length
  · rw [List.getElem?_range h, List.getElem?_eq_getElem h]
    show some (ent wk [] i) = _
    unfold ent
    rw [List.count_nil, List.drop_zero, List.getD_eq_getElem?_getD, List.getElem?_eq_getElem h]
    rfl
  · rw [List.getElem?_eq_none (by simpa using h), List.getElem?_eq_none (by simpa using h)]
    rfl
theorem live_rem (wk : Work) (p : List Nat) : live (remW wk p) = (vs wk p).map (ent wk p) := by
  unfold live remW vs
  rw [List.filter_map]
  congr 1
  apply List.filter_congr
  intro j _
  show decide (0 < ((wk.getD j default).2.drop (p.count j)).length) = _
  rw [List.length_drop]
  simp only [decide_eq_decide]
  omega
theorem vs_nodup (wk : Work) (p : List Nat) : (vs wk p).Nodup := List.nodup_range.filter _
theorem rowsFrom_eq {R : Work → List GRow} {e : Nat → Str × List Str} : ∀ {js' pre : List Nat} {js : List Nat}, js = pre ++ js' → js.Nodup →
    rowsFrom R (js.map e) pre.length (js'.map e) = js'.flatMap fun j => (R (js.map fun j' => if j' = j then ((e j).1, (e j).2.drop 1) else e j')).map (hd1 (e j) :: ·)
  | [], _, _, _, _ => rfl
  | j :: js', pre, js, h, nd => by
    have h2 : js = (pre ++ [j]) ++ js' := by rw [h, List.append_assoc]; rfl
    have ih := rowsFrom_eq (R := R) (e := e) h2 nd
    rw [List.length_append, List.length_singleton] at ih
    rw [List.map_cons, List.flatMap_cons]
    show (R (restW (js.map e) pre.length (e j))).map (fun r => hd1 (e j) :: r) ++ rowsFrom R (js.map e) (pre.length + 1) (js'.map e) = _
    rw [ih]
    congr 2
    congr 1
    have hn : (pre ++ j :: js').Nodup := h ▸ nd
    have hp : ∀ x ∈ pre, x ≠ j := fun x hx q => (List.nodup_append.mp hn).2.2 x hx j List.mem_cons_self q
    have hs : ∀ x ∈ js', x ≠ j := fun x hx q => (List.nodup_cons.mp (List.nodup_append.mp hn).2.1).1 (q ▸ hx)
    unfold restW
    rw [h, List.map_append, List.map_cons, List.take_append_of_le_length (by rw [List.length_map]; exact Nat.le_refl _), List.take_of_length_le (by rw [List.length_map]; exact Nat.le_refl _)]
    rw [show (pre.map e ++ e j :: js'.map e).drop (pre.length + 1) = js'.map e by
      rw [List.drop_append, List.drop_of_length_le (by rw [List.length_map]; omega), List.length_map, show pre.length + 1 - pre.length = 1 by omega]; rfl]
    rw [List.map_append, List.map_cons, if_pos rfl, List.append_assoc]
    congr 1
    · exact List.map_congr_left fun x hx => (if_neg (hp x hx)).symm
    · show _ :: js'.map e = _
      congr 1
      exact List.map_congr_left fun x hx => (if_neg (hs x hx)).symm
theorem rowsN_live : ∀ (m : Nat) (a b : Work), live a = live b → rowsN m a = rowsN m b
  | 0, _, _, _ => rfl
  | m + 1, a, b, h => by unfold rowsN; rw [h]
theorem count_snoc (p : List Nat) (j j' : Nat) : (p ++ [j]).count j' = p.count j' + if j' = j then 1 else 0 := by
  rw [List.count_append, List.count_singleton]
  by_cases h : j' = j
  · rw [if_pos h, h]; simp
  · rw [if_neg h, if_neg (by simpa using fun q => h q.symm)]
theorem live_next (wk : Work) (p : List Nat) {j : Nat} (hj : j ∈ vs wk p) : live ((vs wk p).map fun j' => if j' = j then ((ent wk p j).1, (ent wk p j).2.drop 1) else ent wk p j') = live (remW wk (p ++ [j])) := by
  have e : (fun j' => if j' = j then ((ent wk p j).1, (ent wk p j).2.drop 1) else ent wk p j') = ent wk (p ++ [j]) := by
    funext j'
    unfold ent
    rw [count_snoc]
    by_cases h : j' = j
    · rw [if_pos h, if_pos h, h, List.drop_drop]
    · rw [if_neg h, if_neg h, Nat.add_zero]
  rw [e, live_rem]
  unfold live
  rw [List.filter_map]
  congr 1
  unfold vs
  rw [List.filter_filter]
  apply List.filter_congr
  intro x _
  show (decide (0 < ((wk.getD x default).2.drop ((p ++ [j]).count x)).length) && decide (p.count x < (wk.getD x default).2.length)) = decide ((p ++ [j]).count x < (wk.getD x default).2.length)
  have h1 := count_snoc p j x
  rw [List.length_drop]
  have h2 : p.count x ≤ (p ++ [j]).count x := by rw [h1]; exact Nat.le_add_right _ _
  rw [← Bool.decide_and, decide_eq_decide]
  omega
theorem rowsN_dfs (wk : Work) : ∀ m p, rowsN m (remW wk p) = (dfs wk m p).map (outs wk p)
  | 0, p => rfl
  | m + 1, p => by
    show rowsFrom (rowsN m) (live (remW wk p)) 0 (live (remW wk p)) = _
    rw [live_rem]
    have := rowsFrom_eq (R := rowsN m) (e := ent wk p) (js' := vs wk p) (pre := []) rfl (vs_nodup wk p)
    rw [List.length_nil, List.nil_append] at this
    rw [this]
    unfold dfs
    rw [List.map_flatMap]
    refine flat_congr fun j hj => ?_
    rw [rowsN_live m _ _ (live_next wk p hj), rowsN_dfs wk m (p ++ [j]), List.map_map, List.map_map]
    rfl
theorem rows_all (wk : Work) (m : Nat) : rowsN m wk = (allN wk m).map (outs wk []) := by
  rw [allN_dfs, ← rowsN_dfs, remW_nil]
/-- a row by its places -/
theorem outs_at (wk : Work) : ∀ (q p : List Nat) (k : Nat) (j : Nat), q[k]? = some j → (outs wk p q)[k]? = some ((wk.getD j default).1, ((wk.getD j default).2.drop ((p ++ q.take k).count j)).headD (Str.ofString ""))
  | [], _, _, _, h => by simp at h
  | j :: q, p, 0, j', h => by
    have h : j = j' := by simpa using h
    subst h
    simp [outs, out1, hd1, ent]
  | j :: q, p, k + 1, j', h => by
    have := outs_at wk q (p ++ [j]) k j' (by simpa using h)
    rw [List.append_assoc] at this
    simpa [outs] using this
theorem outs_len (wk : Work) : ∀ (q p : List Nat), (outs wk p q).length = q.length
  | [], _ => rfl
  | j :: q, p => by show (outs wk (p ++ [j]) q).length + 1 = _; rw [outs_len wk q]; rfl
end
end LW
set_option pp.maxSteps 1500
set_option Elab.async false
set_option linter.all false
set_option maxRecDepth 100000
set_option maxHeartbeats 4000000
namespace LW
open PySem L2 T3
open Evl (Ex)
local macro_rules | `(tactic| walk_at "t3") => `(tactic| first
  | (with_reducible refine s_seq ?_) | (with_reducible refine s_asg ?_) | (with_reducible refine s_if ?_) | (with_reducible refine s_ret ?_) | (with_reducible refine s_drop ?_) | (with_reducible refine s_asgG ?_) | (with_reducible refine s_retN ?_)
  | (with_reducible refine s_next ?_) | (with_reducible refine s_brk ?_) | (with_reducible refine s_cont ?_) | (with_reducible refine s_par ?_) | (with_reducible refine s_fld ?_)
  | ((with_reducible refine' w_var ?hx ?_); (case hx => exact rfl)) | (with_reducible refine w_cI ?_) | (with_reducible refine w_cB ?_) | (with_reducible refine w_cS ?_) | (with_reducible refine w_cN ?_) | (with_reducible refine w_cT ?_) | (with_reducible refine w_cR ?_)
  | (with_reducible refine w_op ?_) | (with_reducible refine w_un ?_) | (with_reducible refine w_nil ?_) | (with_reducible refine w_tup ?_) | (with_reducible refine w_cons ?_) | (with_reducible refine w_cb ?_) | (with_reducible refine w_bm0 ?_) | (with_reducible refine w_bm ?_)
  | (with_reducible refine w_test ?_) | (with_reducible refine w_B ?_) | (with_reducible refine w_notT ?_) | (with_reducible refine w_yes ?_) | (with_reducible refine w_notV ?_)
  | (with_reducible refine w_ifE ?_) | (with_reducible refine w_isN ?_) | (with_reducible refine w_notN ?_) | (with_reducible refine w_tr ?_) | (with_reducible refine w_chain ?_) | (with_reducible refine w_fld ?_) | (with_reducible refine w_sl ?_) | (with_reducible refine o_no ?_) | (with_reducible refine o_some ?_)
  | (with_reducible refine w_call0 ?_) | (with_reducible refine g_name ?_) | ((with_reducible refine' g_tup ?hx ?hy ?_); (case hx => exact rfl); (case hy => exact rfl)) | (with_reducible refine g_cons ?_) | (with_reducible refine g_nil ?_) | (with_reducible refine g_set ?_)
  | (with_reducible refine r3_add_ii ?_) | (with_reducible refine r3_sub ?_) | (with_reducible refine r3_lt ?_) | (with_reducible refine r3_le ?_) | (with_reducible refine r3_gt ?_) | (with_reducible refine r3_ge ?_) | (with_reducible refine u3_neg ?_)
  | (with_reducible refine c3_int_i ?_) | (with_reducible refine c3_int_b ?_) | (with_reducible refine c3_abs ?_) | (with_reducible refine c3_len_t ?_) | (with_reducible refine c3_len .fz ?_) | (with_reducible refine c3_max2 ?_) | (with_reducible refine c3_min2 ?_)
  | (with_reducible refine r3_eq (n := 9) (m := 9) okD_int okD_int ?_) | (with_reducible refine r3_ne (n := 9) (m := 9) okD_int okD_int ?_)
  | ((with_reducible refine' Exists.intro _ (And.intro ?hx ?_)); (case hx => exact rfl))
  | ((with_reducible refine' And.intro ?hx ?_); (case hx => (show List.length _ ≤ 100000); exact Nat.le_of_ble_eq_true rfl))
  | (with_reducible refine c3_lenL (c3_len_t ?_)) | (with_reducible refine c3_lenL (c3_len .fz ?_)))

section
variable {P : Program} {w : World} {K : PySem.W.Frag} {mg : Str → Option Value} {base : Heap} {A0 : Adr}

open GenF
theorem mt_countDK {X : Cx} (K : PySem.W.Frag) (hK : X.K = K) (hu : X.A.units + 65 < cLine) : MtR X "list.count" (rCountD K) := by
  subst hK; exact mt_countD hu
theorem pe_bmKC {X : Cx} {T id : String} {name : Str} {r : V → List V → Hp → VK → Prop} {o e : Expr} {es : List Expr} {to : TE} {t : TA} {apos cpos : Pos} (K : PySem.W.Frag) (hK : X.K = K) (pa : PlainAttrs T) (slot : Slot T name id) (hty : typeOf (.builtin id) = pure (.type "method_descriptor")) (hm : MtR X id r) (ho : PE X o to) (ha : PA X (e :: es) t)
    (hbase : attributeBase o name X.env (eval o X.env) = eval o X.env := by rfl)
    (hfew : ((backTo cpos (starEach (e :: es) X.env)).all (fun x => !x.1) && (backToKw cpos (keywordEach [] X.env)).all (fun x => x.1.isSome)
      && decide ((e :: es).length + ([] : List Keyword).length + (if ([] : List Keyword).isEmpty then 0 else 1) < 30)) = true := by rfl)
    (hline : (apos.endLine == cpos.line) = true := by rfl) (hs : starEach (e :: es) X.env = (false, eval e X.env) :: starEach es X.env := by rfl) (hplain : (backTo cpos (starEach es X.env)).any (·.1) = false := by rfl) :
    PE X (.Call (.Attribute o name apos) (e :: es) [] cpos) (tBM K T r to t) := by
  subst hK
  exact pe_bm pa slot hty hm ho ha hbase hfew hline hs hplain
def rD (r : List Nat) : D := .lst (r.map fun j => D.int (j : Nat))
def pD (x : Str × Str) : D := .tup [.str x.1, .str x.2]
structure WB (wk : Work) : Prop where
  len : wk.length ≤ 8
  tot : wlen wk ≤ 5
theorem WB.ok {wk : Work} (h : WB wk) : WOk wk := ⟨Nat.le_trans h.len (by decide), fun x hx => by
  have : x.2.length ≤ wlen wk := by
    have key : ∀ l : List Nat, ∀ y ∈ l, y ≤ l.sum := fun l => by
      induction l with
      | nil => intro y h; cases h
      | cons z l ih =>
        intro y h
        rw [List.sum_cons]
        rcases List.mem_cons.mp h with e | h
        · omega
        · have := ih y h; omega
    exact key _ _ (List.mem_map.mpr ⟨x, hx, rfl⟩)
  exact Nat.le_trans this (Nat.le_trans h.tot (by decide))⟩
theorem vs_len (wk : Work) (p : List Nat) : (vs wk p).length ≤ wk.length := by
  unfold vs
  exact Nat.le_trans (List.length_filter_le _ _) (by rw [List.length_range]; exact Nat.le_refl _)
theorem allN_len {wk : Work} (h : wk.length ≤ 8) : ∀ m, (allN wk m).length ≤ 8 ^ m
  | 0 => by show 1 ≤ 1; exact Nat.le_refl _
  | m + 1 => by
    have ih := allN_len h m
    show ((allN wk m).flatMap (ext1 wk)).length ≤ _
    rw [List.length_flatMap]
    have key : ∀ l : List (List Nat), ((l.map fun p => (ext1 wk p).length)).sum ≤ l.length * 8 := fun l => by
      induction l with
      | nil => exact Nat.zero_le _
      | cons p l ih =>
        rw [List.map_cons, List.sum_cons, List.length_cons]
        have : (ext1 wk p).length ≤ 8 := by unfold ext1; rw [List.length_map]; exact Nat.le_trans (vs_len wk p) h
        omega
    have := key (allN wk m)
    rw [Nat.pow_succ]
    omega
theorem allN_mem {wk : Work} : ∀ (m : Nat) (r : List Nat), r ∈ allN wk m → r.length = m ∧ ∀ j ∈ r, j < wk.length
  | 0, r, h => by rw [show r = [] from List.mem_singleton.mp h]; exact ⟨rfl, fun _ h => nomatch h⟩
  | m + 1, r, h => by
    obtain ⟨p, hp, hr⟩ := List.mem_flatMap.mp h
    obtain ⟨j, hj, rfl⟩ := List.mem_map.mp hr
    obtain ⟨h1, h2⟩ := allN_mem m p hp
    refine ⟨by rw [List.length_append, h1]; rfl, fun x hx => ?_⟩
    rcases List.mem_append.mp hx with hx | hx
    · exact h2 x hx
    · rw [List.mem_singleton.mp hx]
      exact List.mem_range.mp (List.mem_filter.mp hj).1
def S_all : Sp3 := fun ds M Q _ => ∃ wk : Work, ds = [.lst (wk.map eD)] ∧ WB wk ∧ Q (.lst ((allN wk (wlen wk)).map rD)) M
theorem cnt_peq (j : Nat) : ∀ r : List Nat, (r.map fun x => D.int (x : Nat)).countP (fun z => peq z (.int (j : Nat))) = r.count j
  | [] => rfl
  | x :: r => by
    rw [List.map_cons, List.countP_cons, List.count_cons, cnt_peq j r]
    congr 1
    have : peq (.int (x : Nat)) (.int (j : Nat)) = (x == j) := by
      rw [peq_int, Bool.eq_iff_iff]
      simp only [decide_eq_true_eq, beq_iff_eq]
      omega
    rw [this]
def plen : D → D
  | .tup [_, .lst ps] => .int ps.length
  | _ => .non
theorem ok_all (T : Tx P K mg A0) : FnOk P w K mg base CX0 2 A0.f_all A0.d_all ["_law_work"] (lift3 S_all) := by
  refine T.F_all.ok sc_all (lift3_len fun ds M Q E ⟨_, h, _⟩ => by rw [h]; rfl) (fun cdv A outer s H vs Q E hr h => ?_)
  have hu := hr.units
  have hu5 := units65 hr
  refine ⟨_, (pss_cons (ps_set (i := 1) sc_all.nd (by rfl) (Or.inl (by rfl)) (pe_lst (pa_cons (pe_lst pa_nil) pa_nil)))
  (pss_cons (ps_for PassesOwn.never (by rfl) (pi_range1 (by rfl) T.n_range (pa_cons (pe_callB (cr_sum (by rfl)) (by rfl) T.n_sum (by decide +kernel) (pa_cons (pe_lc (own := [("_law_entry", 6)]) (g := (gName 6)) (by rfl) sc_all.nd (pi_list (pv 0)) (blkOk_by (N := ["_law_work", "_law_rows", "_law_k", "_law_longer", "_law_row_here", "_law_j", "_law_entry"]) (sc := defScope s_all) (own := [("_law_entry", 6)]) (by decide +kernel)) (fun _ _ _ _ _ => (pg_name (i := 6) sc_all.nd (by rfl) (Or.inl (by rfl)))) (fun _ _ _ _ _ => pts_nil) (fun _ _ _ _ _ => (pe_callB (call_lenDK K rfl) (by rfl) T.n_len PySem.boot_len (pa_cons (pe_ix (ix_seqK K rfl) (pv 6) pe_int (fun _ _ => by rfl)) pa_nil)))) pa_nil)) pa_nil)) (pg_name (i := 2) sc_all.nd (by rfl) (Or.inl (by rfl))) (pss_cons (ps_set (i := 3) sc_all.nd (by rfl) (Or.inl (by rfl)) (pe_lst pa_nil))
  (pss_cons (ps_for PassesOwn.never (by rfl) (pi_list (pe_callTy (call_lstK K rfl) (by rfl) T.n_list (by decide +kernel) (pa_cons (pv 1) pa_nil))) (pg_name (i := 4) sc_all.nd (by rfl) (Or.inl (by rfl))) (pss_one (ps_for PassesOwn.never (by rfl) (pi_range1 (by rfl) T.n_range (pa_cons (pe_callB (call_lenDK K rfl) (by rfl) T.n_len PySem.boot_len (pa_cons (pv 0) pa_nil)) pa_nil)) (pg_name (i := 5) sc_all.nd (by rfl) (Or.inl (by rfl))) (pss_one (ps_if (pt_cmpR op_lt (pe_bmKC K rfl PySem.F.plainAttrs_list PySem.F.slot_list_count PySem.F.type_list_count (mt_countDK K rfl hu5) (pv 4) (pa_cons (pv 5) pa_nil)) (pe_callB (call_lenDK K rfl) (by rfl) T.n_len PySem.boot_len (pa_cons (pe_ix (ix_seqK K rfl) (pe_ix (ix_seqK K rfl) (pv 0) (pv 5) (fun _ _ => by rfl)) pe_int (fun _ _ => by rfl)) pa_nil)) (nomark _)) (pss_one (ps_expr (pe_bm PySem.F.plainAttrs_list PySem.F.slot_list_append PySem.F.type_list_append mt_append (pv 3) (pa_cons (pe_op op_ADD (pv 4) (pe_lst (pa_cons (pv 5) pa_nil))) pa_nil)))) pss_nil)))))
  (pss_one (ps_set (i := 1) sc_all.nd (by rfl) (Or.inl (by rfl)) (pv 3))))))
  (pss_one (ps_ret (pv 1))))), run3 h fun B ds M Q3 E3 hs hE => ?_⟩
  obtain ⟨wk, rfl, hb, q⟩ := hs
  change W3s B _ _ [some (.lst (wk.map eD)), none, none, none, none, none, none] M
  try dsimp only [cxOf, Cx.nox, Cx.wish]
  repeat walk_at "t3"
  refine w_lst ?_
  repeat walk_at "t3"
  refine w_lst ?_
  repeat walk_at "t3"
  refine s_for (i_rng1 ?_)
  repeat walk_at "t3"
  refine w_lcP (fun _ => true) plen own_name (i_list ?_)
  repeat walk_at "t3"
  have hwl := hb.len
  refine ⟨by rw [List.length_map]; omega, True.intro, fun i d M' hd _ => ?_, ?_⟩
  · obtain ⟨x, hx, rfl⟩ := map_at hd
    refine g_name ?_
    refine ⟨rfl, W3t.to (Q := fun b M3 => b = true ∧ M3 = M') (w_yes ⟨rfl, rfl⟩) fun b M3 ⟨e1, e2⟩ => ⟨e2, e1, fun _ => ?_⟩⟩
    repeat walk_at "t3"
    refine r3_ix_t (at3 (j := 1) (by omega) (v := .lst (x.2.map D.str)) rfl) ?_
    repeat walk_at "t3"
    exact ⟨rfl, by rw [List.length_map]; show _ = D.int _; rw [List.length_map]⟩
  have e0 : ((wk.map eD).filter fun _ => true).map plen = (wk.map fun x => (x.2.length : Int)).map D.int := by
    rw [List.filter_eq_self.mpr fun _ _ => rfl, List.map_map, List.map_map]
    exact List.map_congr_left fun x _ => (by show D.int _ = D.int _; rw [List.length_map])
  rw [e0]
  repeat walk_at "t3"
  refine c3_sum .fz ?_
  have es : (wk.map fun x => (x.2.length : Int)).sum = (wlen wk : Nat) := by
    unfold wlen
    clear e0 q hb hwl
    induction wk with
    | nil => rfl
    | cons x wk ih => rw [List.map_cons, List.sum_cons, ih, List.map_cons, List.sum_cons, Int.natCast_add]
  rw [es]
  repeat walk_at "t3"
  have ht := hb.tot
  refine ⟨by omega, by omega, fun k σ' M' => M' = M ∧ ∃ b2 b3 b4 b5, σ' = [some (.lst (wk.map eD)), some (.lst ((allN wk k).map rD)), b2, b3, b4, b5, none], fun _ _ _ _ => True.intro, ⟨rfl, none, none, none, none, rfl⟩, ?_, ?_⟩
  · rintro k d σ' M' hk ⟨rfl, b2, b3, b4, b5, rfl⟩
    obtain ⟨k', hk', rfl⟩ := map_at hk
    have hkk : k' = k := by
      have := List.getElem?_eq_some_iff.mp hk'
      obtain ⟨h1, h2⟩ := this
      rw [List.getElem_range] at h2; exact h2.symm
    subst hkk
    have hkl : k' < wlen wk := by
      have := (List.getElem?_eq_some_iff.mp hk').1
      simpa using this
    have hAl : (allN wk k').length ≤ 32768 := Nat.le_trans (allN_len hwl k') (Nat.le_trans (Nat.pow_le_pow_right (by decide) (show k' ≤ 5 by omega)) (by decide))
    refine g_name ?_
    repeat walk_at "t3"
    refine w_lstO ?_
    repeat walk_at "t3"
    intro p hp
    repeat walk_at "t3"
    refine s_for (i_list ?_)
    repeat walk_at "t3"
    refine c3_lst .fz ?_
    refine ⟨_, rfl, fun i σ' N => N = mput M' p (.lst ((((allN wk k').take i).flatMap (ext1 wk)).map rD)) ∧ ∃ b4 b5, σ' = [some (.lst (wk.map eD)), some (.lst ((allN wk k').map rD)), some (.int (k' : Nat)), some (.ref p), b4, b5, none], fun _ _ _ _ => True.intro, ⟨by rw [List.take_zero]; rfl, b4, b5, rfl⟩, ?_, ?_⟩
    · rintro i d σ' N hi ⟨rfl, c4, c5, rfl⟩
      obtain ⟨r, hr1, rfl⟩ := map_at hi
      have hrl := (allN_mem k' r (List.mem_of_getElem? hr1)).1
      refine g_name ?_
      refine s_for (i_rng1 ?_)
      repeat walk_at "t3"
      rw [List.length_map]
      refine ⟨by omega, by omega, fun j σ' N => N = mput M' p (.lst ((((allN wk k').take i).flatMap (ext1 wk) ++ ((List.range j).filter fun j => decide (r.count j < (wk.getD j default).2.length)).map fun j => r ++ [j]).map rD)) ∧ ∃ b5, σ' = [some (.lst (wk.map eD)), some (.lst ((allN wk k').map rD)), some (.int (k' : Nat)), some (.ref p), some (rD r), b5, none], fun _ _ _ _ => True.intro, ⟨by simp, c5, rfl⟩, ?_, ?_⟩
      · rintro j d σ' N hj ⟨rfl, c5, rfl⟩
        obtain ⟨j', hj', rfl⟩ := map_at hj
        have hjj : j' = j := by
          obtain ⟨h1, h2⟩ := List.getElem?_eq_some_iff.mp hj'
          rw [List.getElem_range] at h2; exact h2.symm
        subst hjj
        have hjl : j' < wk.length := by
          have := (List.getElem?_eq_some_iff.mp hj').1
          simpa using this
        have hwj : wk[j']? = some (wk.getD j' default) := by rw [List.getD_eq_getElem?_getD, List.getElem?_eq_getElem hjl]; rfl
        refine g_name ?_
        refine s_if ?_
        repeat walk_at "t3"
        refine ⟨.lf, ?_⟩
        repeat walk_at "t3"
        refine m3_count (n := 1) (m := 0) .fz (okDs_iff.mpr fun d hd => by obtain ⟨x, _, rfl⟩ := List.mem_map.mp hd; rfl) rfl ?_
        rw [cnt_peq]
        repeat walk_at "t3"
        refine r3_ix_l .fz (at3 (j := j') (by omega) (v := eD (wk.getD j' default)) (by rw [List.getElem?_map, hwj]; rfl)) ?_
        repeat walk_at "t3"
        refine r3_ix_t (at3 (j := 1) (by omega) (v := .lst ((wk.getD j' default).2.map D.str)) rfl) ?_
        repeat walk_at "t3"
        rw [show (List.map D.str (wk.getD j' default).2).length = (wk.getD j' default).2.length from List.length_map ..]
        have er : (List.range (j' + 1)).filter (fun j => decide (r.count j < (wk.getD j default).2.length)) = (List.range j').filter (fun j => decide (r.count j < (wk.getD j default).2.length)) ++ if r.count j' < (wk.getD j' default).2.length then [j'] else [] := by
          rw [List.range_succ, List.filter_append]
          congr 1
          by_cases hh : r.count j' < (wk.getD j' default).2.length
          · rw [if_pos hh, List.filter_cons_of_pos (by exact decide_eq_true hh)]; rfl
          · rw [if_neg hh, List.filter_cons_of_neg (by exact fun h => hh (of_decide_eq_true h))]; rfl
        refine iteB (fun hc => ?_) (fun hc => ?_)
        · have hc' : r.count j' < (wk.getD j' default).2.length := by have := of_decide_eq_true hc; omega
          rw [if_pos hc'] at er
          have ll : ((((allN wk k').take i).flatMap (ext1 wk) ++ ((List.range j').filter fun j => decide (r.count j < (wk.getD j default).2.length)).map fun j => r ++ [j]).map rD).length ≤ 100000 := by
            rw [List.length_map, List.length_append]
            have h1 : (((allN wk k').take i).flatMap (ext1 wk)).length ≤ 32768 := by
              have : (((allN wk k').take i).flatMap (ext1 wk)).length ≤ ((allN wk k').flatMap (ext1 wk)).length := by
                conv => rhs; rw [← List.take_append_drop i (allN wk k'), List.flatMap_append, List.length_append]
                omega
              have h2 := allN_len hwl (k' + 1)
              have h3 : 8 ^ (k' + 1) ≤ 32768 := Nat.le_trans (Nat.pow_le_pow_right (by decide) (show k' + 1 ≤ 5 by omega)) (by decide)
              change (allN wk (k' + 1)).length ≤ _ at h2
              exact Nat.le_trans this (Nat.le_trans h2 h3)
            have h2 : ((((List.range j').filter fun j => decide (r.count j < (wk.getD j default).2.length)).map fun j => r ++ [j])).length ≤ 8 := by
              rw [List.length_map]
              exact Nat.le_trans (List.length_filter_le _ _) (by rw [List.length_range]; omega)
            omega
          repeat walk_at "t3"
          refine ⟨.lo mput_same, ?_⟩
          repeat walk_at "t3"
          refine w_lst ?_
          repeat walk_at "t3"
          have hx1 : (r.map fun j => D.int (j : Nat)).length ≤ 8 := by rw [List.length_map]; omega
          refine r3_add_ll (xs := r.map fun j => D.int (j : Nat)) (ys := [.int (j' : Nat)]) .fz .fz (Nat.le_trans (Nat.add_le_add_right hx1 _) (show 8 + 1 ≤ 1000000 by decide)) ?_
          repeat walk_at "t3"
          refine m3_append mput_same ll ?_
          repeat walk_at "t3"
          refine ⟨?_, _, rfl⟩
          rw [mput_mput, er]
          congr 2
          simp [rD]
        · have hc' : ¬ r.count j' < (wk.getD j' default).2.length := by have := of_decide_eq_false hc; omega
          rw [if_neg hc', List.append_nil] at er
          refine s_next ?_
          refine ⟨?_, _, rfl⟩
          rw [er]
      · rintro σ' N ⟨rfl, c5, rfl⟩
        refine ⟨?_, _, _, rfl⟩
        rw [List.take_add_one, hr1]
        show _ = mput M' p (.lst ((List.flatMap (ext1 wk) (_ ++ [r])).map rD))
        rw [List.flatMap_append, List.flatMap_singleton]
        congr 3
        rw [List.length_map, List.length_range, Int.toNat_natCast]
        rfl
    · rintro σ' N ⟨rfl, c4, c5, rfl⟩
      rw [List.length_map, List.take_length]
      show W3s B _ _ [some (.lst (wk.map eD)), some (.lst ((allN wk k').map rD)), some (.int (k' : Nat)), some (.ref p), c4, c5, none] _
      refine s_vs (vss_lst 3 rfl mput_same) ?_
      rw [mdel_mput hp]
      repeat walk_at "t3"
      exact ⟨rfl, _, _, _, _, rfl⟩
  · rintro σ' M' ⟨rfl, b2, b3, b4, b5, rfl⟩
    repeat walk_at "t3"
    have := q
    simpa using q
end
end LW
set_option pp.maxSteps 1500
set_option Elab.async false
set_option linter.all false
set_option maxRecDepth 100000
set_option maxHeartbeats 4000000
namespace LW
open PySem L2 T3
open Evl (Ex)
local macro_rules | `(tactic| walk_at "t3") => `(tactic| first
  | (with_reducible refine s_seq ?_) | (with_reducible refine s_asg ?_) | (with_reducible refine s_if ?_) | (with_reducible refine s_ret ?_) | (with_reducible refine s_drop ?_) | (with_reducible refine s_asgG ?_) | (with_reducible refine s_retN ?_)
  | (with_reducible refine s_next ?_) | (with_reducible refine s_brk ?_) | (with_reducible refine s_cont ?_) | (with_reducible refine s_par ?_) | (with_reducible refine s_fld ?_)
  | ((with_reducible refine' w_var ?hx ?_); (case hx => exact rfl)) | (with_reducible refine w_cI ?_) | (with_reducible refine w_cB ?_) | (with_reducible refine w_cS ?_) | (with_reducible refine w_cN ?_) | (with_reducible refine w_cT ?_) | (with_reducible refine w_cR ?_)
  | (with_reducible refine w_op ?_) | (with_reducible refine w_un ?_) | (with_reducible refine w_nil ?_) | (with_reducible refine w_tup ?_) | (with_reducible refine w_cons ?_) | (with_reducible refine w_cb ?_) | (with_reducible refine w_bm0 ?_) | (with_reducible refine w_bm ?_)
  | (with_reducible refine w_test ?_) | (with_reducible refine w_B ?_) | (with_reducible refine w_notT ?_) | (with_reducible refine w_yes ?_) | (with_reducible refine w_notV ?_)
  | (with_reducible refine w_ifE ?_) | (with_reducible refine w_isN ?_) | (with_reducible refine w_notN ?_) | (with_reducible refine w_tr ?_) | (with_reducible refine w_chain ?_) | (with_reducible refine w_fld ?_) | (with_reducible refine w_sl ?_) | (with_reducible refine o_no ?_) | (with_reducible refine o_some ?_)
  | (with_reducible refine w_call0 ?_) | (with_reducible refine g_name ?_) | ((with_reducible refine' g_tup ?hx ?hy ?_); (case hx => exact rfl); (case hy => exact rfl)) | (with_reducible refine g_cons ?_) | (with_reducible refine g_nil ?_) | (with_reducible refine g_set ?_)
  | (with_reducible refine r3_add_ii ?_) | (with_reducible refine r3_sub ?_) | (with_reducible refine r3_lt ?_) | (with_reducible refine r3_le ?_) | (with_reducible refine r3_gt ?_) | (with_reducible refine r3_ge ?_) | (with_reducible refine u3_neg ?_)
  | (with_reducible refine c3_int_i ?_) | (with_reducible refine c3_int_b ?_) | (with_reducible refine c3_abs ?_) | (with_reducible refine c3_len_t ?_) | (with_reducible refine c3_len .fz ?_) | (with_reducible refine c3_max2 ?_) | (with_reducible refine c3_min2 ?_)
  | (with_reducible refine r3_eq (n := 9) (m := 9) okD_int okD_int ?_) | (with_reducible refine r3_ne (n := 9) (m := 9) okD_int okD_int ?_)
  | ((with_reducible refine' Exists.intro _ (And.intro ?hx ?_)); (case hx => exact rfl))
  | ((with_reducible refine' And.intro ?hx ?_); (case hx => (show List.length _ ≤ 100000); exact Nat.le_of_ble_eq_true rfl))
  | (with_reducible refine c3_lenL (c3_len_t ?_)) | (with_reducible refine c3_lenL (c3_len .fz ?_)))

section
variable {P : Program} {w : World} {K : PySem.W.Frag} {mg : Str → Option Value} {base : Heap} {A0 : Adr}

open GenF
theorem cnt_lt {wk : Work} : ∀ (m : Nat) (r : List Nat), r ∈ allN wk m → ∀ (k j : Nat), r[k]? = some j → (r.take k).count j < (wk.getD j default).2.length
  | 0, r, h, k, j, e => by rw [show r = [] from List.mem_singleton.mp h] at e; simp at e
  | m + 1, r, h, k, j, e => by
    obtain ⟨p, hp, hr⟩ := List.mem_flatMap.mp h
    obtain ⟨j', hj, rfl⟩ := List.mem_map.mp hr
    by_cases hk : k < p.length
    · rw [List.getElem?_append_left hk] at e
      rw [List.take_append_of_le_length (Nat.le_of_lt hk)]
      exact cnt_lt m p hp k j e
    · have hk2 : k = p.length := by
        have := (List.getElem?_eq_some_iff.mp e).1
        rw [List.length_append, List.length_singleton] at this
        omega
      subst hk2
      have ej : j' = j := by simpa using e
      rw [List.take_left', ← ej]
      · exact of_decide_eq_true (List.mem_filter.mp hj).2
      · rfl
def rowF (wk : Work) (r : List Nat) : D → D
  | .int k => pD ((outs wk [] r).getD k.toNat default)
  | d => d
def S_row : Sp3 := fun ds M Q _ => ∃ (wk : Work) (r : List Nat), ds = [.lst (wk.map eD), rD r] ∧ WB wk ∧ r ∈ allN wk (wlen wk) ∧ Q (.lst ((outs wk [] r).map pD)) M
theorem ok_row (T : Tx P K mg A0) : FnOk P w K mg base CX0 2 A0.f_row A0.d_row ["_law_work", "_law_places"] (lift3 S_row) := by
  refine T.F_row.ok sc_row (lift3_len fun ds M Q E ⟨_, _, h, _⟩ => by rw [h]; rfl) (fun cdv A outer s H vs Q E hr h => ?_)
  have hu := hr.units
  have hu5 := units65 hr
  refine ⟨_, (pss_one (ps_ret (pe_lc (own := [("_law_k", 2)]) (g := (gName 2)) (by rfl) sc_row.nd (pi_range1 (by rfl) T.n_range (pa_cons (pe_callB (call_lenDK K rfl) (by rfl) T.n_len PySem.boot_len (pa_cons (pv 1) pa_nil)) pa_nil)) (blkOk_by (N := ["_law_work", "_law_places", "_law_k"]) (sc := defScope s_row) (own := [("_law_k", 2)]) (by decide +kernel)) (fun _ _ _ _ _ => (pg_name (i := 2) sc_row.nd (by rfl) (Or.inl (by rfl)))) (fun _ _ _ _ _ => pts_nil) (fun _ _ _ _ _ => (pe_tup (pa_cons (pe_ix (ix_seqK K rfl) (pe_ix (ix_seqK K rfl) (pv 0) (pe_ix (ix_seqK K rfl) (pv 1) (pv 2) (fun _ _ => by rfl)) (fun _ _ => by rfl)) pe_int (fun _ _ => by rfl)) (pa_cons (pe_ix (ix_seqK K rfl) (pe_ix (ix_seqK K rfl) (pe_ix (ix_seqK K rfl) (pv 0) (pe_ix (ix_seqK K rfl) (pv 1) (pv 2) (fun _ _ => by rfl)) (fun _ _ => by rfl)) pe_int (fun _ _ => by rfl)) (pe_bmKC K rfl PySem.F.plainAttrs_list PySem.F.slot_list_count PySem.F.type_list_count (mt_countDK K rfl hu5) (pe_slice (sl_SLTK K rfl) (pv 1) po_none (po_some (pv 2))) (pa_cons (pe_ix (ix_seqK K rfl) (pv 1) (pv 2) (fun _ _ => by rfl)) pa_nil)) (fun _ _ => by rfl)) pa_nil))))))), run3 h fun B ds M Q3 E3 hs hE => ?_⟩
  obtain ⟨wk, r, rfl, hb, hr0, q⟩ := hs
  change W3s B _ _ [some (.lst (wk.map eD)), some (rD r), none] M
  try dsimp only [cxOf, Cx.nox, Cx.wish]
  repeat walk_at "t3"
  refine w_lcP (fun _ => true) (rowF wk r) own_name (i_rng1 ?_)
  repeat walk_at "t3"
  have hrl := allN_mem _ r hr0
  have hml : (r.map fun j => D.int (j : Nat)).length = r.length := List.length_map ..
  have ht := hb.tot
  have hwl := hb.len
  refine ⟨by omega, by omega, by rw [List.length_map, List.length_range]; omega, True.intro, fun i d M' hi _ => ?_, ?_⟩
  · obtain ⟨i', hi', rfl⟩ := map_at hi
    have hii : i' = i := by
      obtain ⟨h1, h2⟩ := List.getElem?_eq_some_iff.mp hi'
      rw [List.getElem_range] at h2; exact h2.symm
    subst hii
    have hlt : i' < r.length := by
      have := (List.getElem?_eq_some_iff.mp hi').1
      rw [List.length_range] at this
      omega
    obtain ⟨j, hj⟩ : ∃ j, r[i']? = some j := ⟨_, List.getElem?_eq_getElem hlt⟩
    have hrj : (r.map fun j => D.int (j : Nat))[i']? = some (.int (j : Nat)) := by rw [List.getElem?_map, hj]; rfl
    have hjl : j < wk.length := hrl.2 j (List.mem_of_getElem? hj)
    have hwj : (wk.map eD)[j]? = some (eD (wk.getD j default)) := by
      rw [List.getElem?_map, List.getD_eq_getElem?_getD, List.getElem?_eq_getElem hjl]; rfl
    have hc := cnt_lt _ r hr0 i' j hj
    have hmi : min i' r.length = i' := Nat.min_eq_left (Nat.le_of_lt hlt)
    have ho := outs_at wk r [] i' j hj
    rw [List.nil_append] at ho
    generalize hcc : (r.take i').count j = c at hc ho
    generalize hww : wk.getD j default = e at hwj hc ho
    have hpc : (e.2.map D.str)[c]? = some (.str (e.2[c]'hc)) := by rw [List.getElem?_map, List.getElem?_eq_getElem hc]; rfl
    refine g_name ?_
    refine ⟨rfl, ?_⟩
    repeat walk_at "t3"
    refine ⟨rfl, rfl, fun _ => ?_⟩
    repeat walk_at "t3"
    refine r3_ix_l .fz (at3 (j := i') rfl hrj) ?_
    repeat walk_at "t3"
    refine r3_ix_l .fz (at3 (j := j) rfl hwj) ?_
    repeat walk_at "t3"
    refine r3_ix_t (at3 (j := 0) rfl (v := .str e.1) rfl) ?_
    repeat walk_at "t3"
    refine r3_ix_l .fz (at3 (j := i') rfl hrj) ?_
    repeat walk_at "t3"
    refine r3_ix_l .fz (at3 (j := j) rfl hwj) ?_
    repeat walk_at "t3"
    refine r3_ix_t (at3 (j := 1) rfl (v := .lst (e.2.map D.str)) rfl) ?_
    repeat walk_at "t3"
    refine s3_L <| s3_l .fz ?_
    have hcut : cutD (r.map fun j => D.int (j : Nat)) none (some (i' : Nat)) = (r.take i').map fun j => D.int (j : Nat) := by
      unfold cutD
      rw [HT.sIx_none, HT.sIx_nat, List.length_map, Nat.min_eq_left (Nat.le_of_lt hlt), List.map_take]
      rfl
    rw [hcut]
    refine ⟨.lf, ?_⟩
    repeat walk_at "t3"
    refine r3_ix_l .fz (at3 (j := i') rfl hrj) ?_
    repeat walk_at "t3"
    refine m3_count (n := 1) (m := 0) .fz (okDs_iff.mpr fun d hd => by obtain ⟨x, _, rfl⟩ := List.mem_map.mp hd; rfl) rfl ?_
    rw [cnt_peq, hcc]
    repeat walk_at "t3"
    refine r3_ix_l .fz (at3 (j := c) rfl hpc) ?_
    repeat walk_at "t3"
    refine ⟨rfl, ?_⟩
    show _ = pD ((outs wk [] r).getD (Int.toNat (i' : Nat)) default)
    rw [Int.toNat_natCast, List.getD_eq_getElem?_getD, ho]
    show _ = D.tup [.str e.1, .str ((e.2.drop c).headD _)]
    rw [List.drop_eq_getElem_cons hc]
    rfl
  · show Q3 _ M
    have e1 : ((List.range (Int.toNat ((r.map fun j => D.int (j : Nat)).length : Nat))).map (fun (i : Nat) => D.int (i : Nat))).filter (fun _ => true) = (List.range r.length).map fun (i : Nat) => D.int (i : Nat) := by
      rw [List.filter_eq_self.mpr fun _ _ => rfl, Int.toNat_natCast, List.length_map]
    rw [e1, List.map_map]
    have e2 : (List.range r.length).map (rowF wk r ∘ fun (i : Nat) => D.int (i : Nat)) = (outs wk [] r).map pD := by
      apply List.ext_getElem?
      intro n
      rw [List.getElem?_map, List.getElem?_map]
      by_cases hn : n < r.length
      · rw [List.getElem?_range hn, List.getElem?_eq_getElem (show n < (outs wk [] r).length by rw [outs_len]; exact hn)]
        show some (pD ((outs wk [] r).getD (Int.toNat (n : Nat)) default)) = _
        rw [Int.toNat_natCast, List.getD_eq_getElem?_getD, List.getElem?_eq_getElem (show n < (outs wk [] r).length by rw [outs_len]; exact hn)]
        rfl
      · rw [List.getElem?_eq_none (by simpa using hn), List.getElem?_eq_none (by rw [outs_len]; omega)]
        rfl
    rw [e2]
    exact q
end
end LW
set_option pp.maxSteps 1500
set_option Elab.async false
set_option linter.all false
set_option maxRecDepth 100000
set_option maxHeartbeats 4000000
namespace LW
open PySem L2 T3
open Evl (Ex)
local macro_rules | `(tactic| walk_at "t3") => `(tactic| first
  | (with_reducible refine s_seq ?_) | (with_reducible refine s_asg ?_) | (with_reducible refine s_if ?_) | (with_reducible refine s_ret ?_) | (with_reducible refine s_drop ?_) | (with_reducible refine s_asgG ?_) | (with_reducible refine s_retN ?_)
  | (with_reducible refine s_next ?_) | (with_reducible refine s_brk ?_) | (with_reducible refine s_cont ?_) | (with_reducible refine s_par ?_) | (with_reducible refine s_fld ?_)
  | ((with_reducible refine' w_var ?hx ?_); (case hx => exact rfl)) | (with_reducible refine w_cI ?_) | (with_reducible refine w_cB ?_) | (with_reducible refine w_cS ?_) | (with_reducible refine w_cN ?_) | (with_reducible refine w_cT ?_) | (with_reducible refine w_cR ?_)
  | (with_reducible refine w_op ?_) | (with_reducible refine w_un ?_) | (with_reducible refine w_nil ?_) | (with_reducible refine w_tup ?_) | (with_reducible refine w_cons ?_) | (with_reducible refine w_cb ?_) | (with_reducible refine w_bm0 ?_) | (with_reducible refine w_bm ?_)
  | (with_reducible refine w_test ?_) | (with_reducible refine w_B ?_) | (with_reducible refine w_notT ?_) | (with_reducible refine w_yes ?_) | (with_reducible refine w_notV ?_)
  | (with_reducible refine w_ifE ?_) | (with_reducible refine w_isN ?_) | (with_reducible refine w_notN ?_) | (with_reducible refine w_tr ?_) | (with_reducible refine w_chain ?_) | (with_reducible refine w_fld ?_) | (with_reducible refine w_sl ?_) | (with_reducible refine o_no ?_) | (with_reducible refine o_some ?_)
  | (with_reducible refine w_call0 ?_) | (with_reducible refine g_name ?_) | ((with_reducible refine' g_tup ?hx ?hy ?_); (case hx => exact rfl); (case hy => exact rfl)) | (with_reducible refine g_cons ?_) | (with_reducible refine g_nil ?_) | (with_reducible refine g_set ?_)
  | (with_reducible refine r3_add_ii ?_) | (with_reducible refine r3_sub ?_) | (with_reducible refine r3_lt ?_) | (with_reducible refine r3_le ?_) | (with_reducible refine r3_gt ?_) | (with_reducible refine r3_ge ?_) | (with_reducible refine u3_neg ?_)
  | (with_reducible refine c3_int_i ?_) | (with_reducible refine c3_int_b ?_) | (with_reducible refine c3_abs ?_) | (with_reducible refine c3_len_t ?_) | (with_reducible refine c3_len .fz ?_) | (with_reducible refine c3_max2 ?_) | (with_reducible refine c3_min2 ?_)
  | (with_reducible refine r3_eq (n := 9) (m := 9) okD_int okD_int ?_) | (with_reducible refine r3_ne (n := 9) (m := 9) okD_int okD_int ?_)
  | ((with_reducible refine' Exists.intro _ (And.intro ?hx ?_)); (case hx => exact rfl))
  | ((with_reducible refine' And.intro ?hx ?_); (case hx => (show List.length _ ≤ 100000); exact Nat.le_of_ble_eq_true rfl))
  | (with_reducible refine c3_lenL (c3_len_t ?_)) | (with_reducible refine c3_lenL (c3_len .fz ?_)))

section
variable {P : Program} {w : World} {K : PySem.W.Frag} {mg : Str → Option Value} {base : Heap} {A0 : Adr}

open GenF PyProof.Rows GenW
/-- every_row at one level: works of at most 24 dips -/
def S_any : SpX := fun vs H cont => ∃ m, m ≤ 24 ∧ S_every m vs H cont
theorem ok_any (T : Tx P K mg A0) : GFnX P w K mg base 57 A0.f_every_row A0.d_every_row ["work"] S_any :=
  ⟨fun vs H cont ⟨m, hm, hs⟩ => (ok_every (P := P) (w := w) (base := base) T m (by omega)).len vs H cont hs, fun A outer s H args us vs cont hr e0 hb r ⟨m, hm, hs⟩ => (ok_every T m (by omega)).run A outer s H args us vs cont (hr.mono (by omega)) e0 hb r hs⟩
theorem tupH_cons {H : Hp} {q : Addr} {x : Str × Str} {z : List (Addr × (Str × Str))} : tupH H ((q, x) :: z) = upd (tupH H z) q (.tup [.str x.1, .str x.2]) := by
  funext b
  unfold tupH
  rw [List.lookup_cons]
  by_cases e : b = q
  · subst e; rw [upd_same, beq_self_eq_true]
  · rw [upd_ne e, show (b == q) = false by simpa using e]
theorem tupH_ne {H : Hp} {b : Addr} : ∀ {z : List (Addr × (Str × Str))}, b ∉ z.map (·.1) → tupH H z b = H b
  | [], _ => rfl
  | (q, x) :: z, h => by
    rw [tupH_cons, upd_ne fun e => h (by rw [e]; exact List.mem_cons_self), tupH_ne fun k => h (List.mem_cons_of_mem _ k)]
theorem st3_tups {F H : Hp} {M : Mem} (st : St3 F M H) : ∀ {z : List (Addr × (Str × Str))}, (∀ q ∈ z.map (·.1), H q = none) → (z.map (·.1)).Nodup → St3 (tupH F z) M (tupH H z) ∧ Ex F (tupH F z)
  | [], _, _ => ⟨st, Ex.refl _⟩
  | (q, x) :: z, h, nd => by
    obtain ⟨n1, n2⟩ := List.nodup_cons.mp nd
    obtain ⟨st1, e1⟩ := st3_tups st (z := z) (fun q hq => h q (List.mem_cons_of_mem _ hq)) n2
    have hq : tupH H z q = none := (tupH_ne n1).trans (h q List.mem_cons_self)
    obtain ⟨st2, e2⟩ := st1.new (o := .tup [.str x.1, .str x.2]) hq
    rw [tupH_cons, tupH_cons]
    exact ⟨st2, e1.trans e2⟩
theorem rds_row {F : Hp} : ∀ {qs : List Addr} {row : GRow}, Paired (fun q (x : Str × Str) => F q = some (.tup [.str x.1, .str x.2])) qs row → RDs F (row.map pD) (qs.map V.ref)
  | _, _, .nil => rfl
  | _, _, .cons h t => ⟨_, _, rfl, ⟨_, _, rfl, h, _, _, rfl, rfl, _, _, rfl, rfl, rfl⟩, rds_row t⟩
theorem paired_in {α β : Type} {R S : α → β → Prop} : ∀ {l : List α} {m : List β}, Paired R l m → (∀ x y, x ∈ l → R x y → S x y) → Paired S l m
  | _, _, .nil, _ => .nil
  | _, _, .cons r t, k => .cons (k _ _ List.mem_cons_self r) (paired_in t fun x y h => k x y (List.mem_cons_of_mem _ h))
theorem row_st3 {F H : Hp} {M : Mem} {p : Addr} {qs : List Addr} {row : GRow} (st : St3 F M H) (hp : H p = none) (hq : ∀ q ∈ qs, H q = none) (nd : qs.Nodup) (pq : p ∉ qs) (hl : qs.length = row.length) :
    St3 (tupH F (qs.zip row)) (mput M p (.lst (row.map pD))) (rowH H p qs row) ∧ Ex F (tupH F (qs.zip row)) := by
  have hz : (qs.zip row).map (·.1) = qs := by
    have := List.map_fst_zip (l₁ := qs) (l₂ := row) (by omega)
    exact this
  obtain ⟨s1, e1⟩ := st3_tups st (z := qs.zip row) (by rw [hz]; exact hq) (by rw [hz]; exact nd)
  refine ⟨?_, e1⟩
  have hp1 : tupH H (qs.zip row) p = none := (tupH_ne (by rw [hz]; exact pq)).trans hp
  refine s1.newO (d := .lst (row.map pD)) hp1 ⟨_, rfl, rds_row ?_⟩
  have := rowH_at (H := F) nd pq hl
  exact paired_in this fun q x hm e => by
    unfold rowH at e
    rwa [upd_ne fun k : q = p => pq (by rw [← k]; exact hm)] at e
theorem s_forG {B : Hp} {σ : Sig} {M : Mem} {D3 : Ends3} {ta : TA} {g : TG} {tb : TS} (h : W3a B ta σ M (fun xs M1 => ∃ (x : D) (wk : Work), xs = [x] ∧ LstD M1 x (wk.map eD) ∧ WOk wk ∧ wlen wk ≤ 24 ∧ ∃ I : List GRow → Sig → Mem → Prop, I (rowsN (wlen wk) wk) σ M1 ∧
      (∀ σ' M', I [] σ' M' → D3.nx σ' M') ∧ ∀ r rs σ' M', I (r :: rs) σ' M' → ∀ p, M' p = none → G3 B g (.ref p) σ' (mput M' p (.lst (r.map pD))) (fun σ2 M2 => W3s B tb { D3 with nx := I rs, ct := I rs, bk := D3.nx } σ2 M2))) :
    W3s B (tForG (tCallX S_any [] ta) g tb) D3 σ M := fun F σv H Dv b hs st im =>
  h F σv H _ b hs st fun F1 M1 xs vs H1 e1 st1 rx ⟨x, wk, ex, lx, ok, hl, I, h0, fin, turn⟩ => by
    subst ex
    obtain ⟨v, ev, rv⟩ := rx.sing
    subst ev
    refine ⟨wlen wk, hl, x, v, F1, M1, wk, rfl, st1, rv, lx, ok, rfl, ?_⟩
    refine ⟨fun rs σv' H' => ∃ F' M' σ', Ex F1 F' ∧ T3.SRel F' σ' σv' ∧ St3 F' M' H' ∧ I rs σ' M', ⟨F1, M1, σ, Ex.refl _, hs.mono e1, st1, h0⟩, ?_, ?_⟩
    · rintro σv' H' ⟨F', M', σ', e, s, t, q⟩
      exact im.nx F' M' σ' σv' H' (e1.trans e) s t (fin σ' M' q)
    · rintro r rs σv' H' ⟨F', M', σ', e, s, t, q⟩ p qs hp hq nd pq hl _
      obtain ⟨st2, e2⟩ := row_st3 t hp hq nd pq hl
      refine turn r rs σ' M' q p (t.nn hp).2 _ σv' _ (.ref p) _ (b.trans ((e1.trans e).trans e2)) (s.mono e2) st2 rfl fun F3 M3 σ3 σv3 H3 e3 s3 t3 q3 => ?_
      refine q3 F3 σv3 H3 _ (b.trans (((e1.trans e).trans e2).trans e3)) s3 t3 ⟨fun F4 M4 σ4 σv4 H4 e4 s4 t4 q4 => ?_, ?_, ?_, fun F4 M4 σ4 σv4 H4 e4 s4 t4 q4 => ?_⟩
      · exact ⟨F4, M4, σ4, ((e.trans e2).trans e3).trans e4, s4, t4, q4⟩
      · exact (im.mono (((e1.trans e).trans e2).trans e3)).rt
      · exact (im.mono (((e1.trans e).trans e2).trans e3)).nx
      · exact ⟨F4, M4, σ4, ((e.trans e2).trans e3).trans e4, s4, t4, q4⟩
end
end LW
set_option pp.maxSteps 1500
set_option Elab.async false
set_option linter.all false
set_option maxRecDepth 100000
set_option maxHeartbeats 4000000
namespace LW
open PySem L2 T3
open Evl (Ex)
local macro_rules | `(tactic| walk_at "t3") => `(tactic| first
  | (with_reducible refine s_seq ?_) | (with_reducible refine s_asg ?_) | (with_reducible refine s_if ?_) | (with_reducible refine s_ret ?_) | (with_reducible refine s_drop ?_) | (with_reducible refine s_asgG ?_) | (with_reducible refine s_retN ?_)
  | (with_reducible refine s_next ?_) | (with_reducible refine s_brk ?_) | (with_reducible refine s_cont ?_) | (with_reducible refine s_par ?_) | (with_reducible refine s_fld ?_)
  | ((with_reducible refine' w_var ?hx ?_); (case hx => exact rfl)) | (with_reducible refine w_cI ?_) | (with_reducible refine w_cB ?_) | (with_reducible refine w_cS ?_) | (with_reducible refine w_cN ?_) | (with_reducible refine w_cT ?_) | (with_reducible refine w_cR ?_)
  | (with_reducible refine w_op ?_) | (with_reducible refine w_un ?_) | (with_reducible refine w_nil ?_) | (with_reducible refine w_tup ?_) | (with_reducible refine w_cons ?_) | (with_reducible refine w_cb ?_) | (with_reducible refine w_bm0 ?_) | (with_reducible refine w_bm ?_)
  | (with_reducible refine w_test ?_) | (with_reducible refine w_B ?_) | (with_reducible refine w_notT ?_) | (with_reducible refine w_yes ?_) | (with_reducible refine w_notV ?_)
  | (with_reducible refine w_ifE ?_) | (with_reducible refine w_isN ?_) | (with_reducible refine w_notN ?_) | (with_reducible refine w_tr ?_) | (with_reducible refine w_chain ?_) | (with_reducible refine w_fld ?_) | (with_reducible refine w_sl ?_) | (with_reducible refine o_no ?_) | (with_reducible refine o_some ?_)
  | (with_reducible refine w_call0 ?_) | (with_reducible refine g_name ?_) | ((with_reducible refine' g_tup ?hx ?hy ?_); (case hx => exact rfl); (case hy => exact rfl)) | (with_reducible refine g_cons ?_) | (with_reducible refine g_nil ?_) | (with_reducible refine g_set ?_)
  | (with_reducible refine r3_add_ii ?_) | (with_reducible refine r3_sub ?_) | (with_reducible refine r3_lt ?_) | (with_reducible refine r3_le ?_) | (with_reducible refine r3_gt ?_) | (with_reducible refine r3_ge ?_) | (with_reducible refine u3_neg ?_)
  | (with_reducible refine c3_int_i ?_) | (with_reducible refine c3_int_b ?_) | (with_reducible refine c3_abs ?_) | (with_reducible refine c3_len_t ?_) | (with_reducible refine c3_len .fz ?_) | (with_reducible refine c3_max2 ?_) | (with_reducible refine c3_min2 ?_)
  | (with_reducible refine r3_eq (n := 9) (m := 9) okD_int okD_int ?_) | (with_reducible refine r3_ne (n := 9) (m := 9) okD_int okD_int ?_)
  | ((with_reducible refine' Exists.intro _ (And.intro ?hx ?_)); (case hx => exact rfl))
  | ((with_reducible refine' And.intro ?hx ?_); (case hx => (show List.length _ ≤ 100000); exact Nat.le_of_ble_eq_true rfl))
  | (with_reducible refine c3_lenL (c3_len_t ?_)) | (with_reducible refine c3_lenL (c3_len .fz ?_)))

section
variable {P : Program} {w : World} {K : PySem.W.Frag} {mg : Str → Option Value} {base : Heap} {A0 : Adr}

open GenF
/-! ### what is compared -/
theorem peq_me {n : Nat} {d : D} (h : okD n d = true) : peq d d = true := PySem.SeqAt.eqv_refl (py d) (okD_lay h)
theorem eqvAll_me {n : Nat} {ds : List D} (h : okDs n ds = true) : PyData.eqvAll (pys ds) (pys ds) = true := by
  have : peq (.lst ds) (.lst ds) = true := peq_me (n := n + 1) h
  unfold peq at this
  rw [show py (.lst ds) = .list (pys ds) from rfl, PyData.eqv] at this
  exact this
def WT (wk : Work) : Prop := ∀ x ∈ wk, okT x.1 ∧ ∀ y ∈ x.2, okT y
theorem okT_e : okT (Str.ofString "") := by unfold okT; decide +kernel
theorem okT_d : okT (default : Str) := by unfold okT; decide +kernel
theorem WT.getD {wk : Work} (h : WT wk) (j : Nat) : okT (wk.getD j default).1 ∧ ∀ y ∈ (wk.getD j default).2, okT y := by
  rw [List.getD_eq_getElem?_getD]
  cases e : wk[j]? with
  | none => exact ⟨okT_d, fun y hy => nomatch hy⟩
  | some x => exact h x (List.mem_of_getElem? e)
theorem outs_ok {wk : Work} (h : WT wk) : ∀ (q p : List Nat), ∀ z ∈ outs wk p q, okT z.1 ∧ okT z.2
  | [], _, _, hz => nomatch hz
  | j :: q, p, z, hz => by
    rcases List.mem_cons.mp hz with e | hz
    · subst e
      have hj := h.getD j
      refine ⟨hj.1, ?_⟩
      show okT (((wk.getD j default).2.drop (p.count j)).headD (Str.ofString ""))
      cases e : (wk.getD j default).2.drop (p.count j) with
      | nil => exact okT_e
      | cons y ys => exact hj.2 y (List.mem_of_mem_drop (by rw [e]; exact List.mem_cons_self))
    · exact outs_ok h q _ z hz
theorem okDs_row {r : GRow} (h : ∀ z ∈ r, okT z.1 ∧ okT z.2) : okDs 1 (r.map pD) = true := okDs_iff.mpr fun d hd => by
  obtain ⟨z, hz, rfl⟩ := List.mem_map.mp hd
  show okDs 0 [.str z.1, .str z.2] = true
  exact okDs_iff.mpr fun d hd => by
    rcases List.mem_cons.mp hd with e | hd
    · rw [e]; exact okD_S (h z hz).1
    · rw [List.mem_singleton.mp hd]; exact okD_S (h z hz).2
theorem okDs_work {wk : Work} (h : WT wk) : okDs 2 (wk.map eD) = true := okDs_iff.mpr fun d hd => by
  obtain ⟨x, hx, rfl⟩ := List.mem_map.mp hd
  show okDs 1 [.str x.1, .lst (x.2.map D.str)] = true
  exact okDs_iff.mpr fun d hd => by
    rcases List.mem_cons.mp hd with e | hd
    · rw [e]; exact okD_S (h x hx).1
    · rw [List.mem_singleton.mp hd]
      show okDs 0 (x.2.map D.str) = true
      exact okDs_S (h x hx).2
/-! ### the first row of a work -/
def flatW (wk : Work) : GRow := wk.flatMap fun x => x.2.map fun y => (x.1, y)
theorem flatW_live : ∀ wk : Work, flatW (live wk) = flatW wk
  | [] => rfl
  | x :: wk => by
    have ih := flatW_live wk
    unfold live flatW at ih ⊢
    rw [List.filter_cons, List.flatMap_cons]
    split
    · rw [List.flatMap_cons, ih]
    · rename_i h
      have : x.2 = [] := List.eq_nil_of_length_eq_zero (by simpa using h)
      rw [ih, this]; rfl
theorem head_rows : ∀ (m : Nat) (wk : Work), wlen wk = m → ∃ t, rowsN m wk = flatW wk :: t
  | 0, wk, h => ⟨[], by
    have hl := rows_zero h
    rw [← flatW_live, hl]; rfl⟩
  | m + 1, wk, h => by
    cases q : live wk with
    | nil =>
      have h2 := wlen_live wk
      rw [q, h] at h2
      exact absurd h2 (by simp [wlen])
    | cons x xs =>
      have hp : 0 < x.2.length := live_pos (wk := wk) (i := 0) (by rw [q]; rfl)
      have hw := wlen_rest (ws := live wk) (i := 0) (x := x) (by rw [q]; rfl) hp
      rw [wlen_live, h] at hw
      obtain ⟨t, ht⟩ := head_rows m (restW (live wk) 0 x) (by omega)
      have e : flatW wk = hd1 x :: flatW (restW (live wk) 0 x) := by
        rw [← flatW_live wk, q]
        obtain ⟨c, ys⟩ := x
        cases ys with
        | nil => exact absurd hp (by simp)
        | cons y ys =>
          unfold restW flatW
          simp [hd1]
      rw [e]
      have e2 : rowsN (m + 1) wk = (rowsN m (restW (live wk) 0 x)).map (fun r => hd1 x :: r) ++ rowsFrom (rowsN m) (live wk) 1 xs := by
        show rowsFrom (rowsN m) (live wk) 0 (live wk) = _
        rw [show rowsFrom (rowsN m) (live wk) 0 (live wk) = rowsFrom (rowsN m) (live wk) 0 (x :: xs) from congrArg _ q]
        rfl
      rw [e2, ht]
      exact ⟨_, rfl⟩
/-! ### the great work -/
def GR : Work := (List.range 8).map fun k => (wordS k, [Str.ofString "a", Str.ofString "b", Str.ofString "c"])
theorem GR_len : wlen GR = 24 := by decide +kernel
theorem GR_ok : WOk GR := ⟨by decide +kernel, fun x hx => by
  obtain ⟨k, _, rfl⟩ := List.mem_map.mp hx
  exact (show 3 ≤ 1000 by decide)⟩
theorem GR_t : WT GR := fun x hx => by
  obtain ⟨k, hk, rfl⟩ := List.mem_map.mp hx
  refine ⟨?_, fun y hy => ?_⟩
  · have : ∀ k : Fin 8, okT (wordS k.1) := by unfold okT; decide +kernel
    exact this ⟨k, List.mem_range.mp hk⟩
  · have : ∀ y ∈ [Str.ofString "a", Str.ofString "b", Str.ofString "c"], okT y := by unfold okT; decide +kernel
    exact this y hy
theorem flat_ok {wk : Work} (h : WT wk) : ∀ z ∈ flatW wk, okT z.1 ∧ okT z.2 := fun z hz => by
  obtain ⟨x, hx, hz⟩ := List.mem_flatMap.mp hz
  obtain ⟨y, hy, rfl⟩ := List.mem_map.mp hz
  exact ⟨(h x hx).1, (h x hx).2 y hy⟩
end
end LW
set_option pp.maxSteps 1500
set_option Elab.async false
set_option linter.all false
set_option maxRecDepth 100000
set_option maxHeartbeats 4000000
namespace LW
open PySem L2 T3
open Evl (Ex)
local macro_rules | `(tactic| walk_at "t3") => `(tactic| first
  | (with_reducible refine s_seq ?_) | (with_reducible refine s_asg ?_) | (with_reducible refine s_if ?_) | (with_reducible refine s_ret ?_) | (with_reducible refine s_drop ?_) | (with_reducible refine s_asgG ?_) | (with_reducible refine s_retN ?_)
  | (with_reducible refine s_next ?_) | (with_reducible refine s_brk ?_) | (with_reducible refine s_cont ?_) | (with_reducible refine s_par ?_) | (with_reducible refine s_fld ?_)
  | ((with_reducible refine' w_var ?hx ?_); (case hx => exact rfl)) | (with_reducible refine w_cI ?_) | (with_reducible refine w_cB ?_) | (with_reducible refine w_cS ?_) | (with_reducible refine w_cN ?_) | (with_reducible refine w_cT ?_) | (with_reducible refine w_cR ?_)
  | (with_reducible refine w_op ?_) | (with_reducible refine w_un ?_) | (with_reducible refine w_nil ?_) | (with_reducible refine w_tup ?_) | (with_reducible refine w_cons ?_) | (with_reducible refine w_cb ?_) | (with_reducible refine w_bm0 ?_) | (with_reducible refine w_bm ?_)
  | (with_reducible refine w_test ?_) | (with_reducible refine w_B ?_) | (with_reducible refine w_notT ?_) | (with_reducible refine w_yes ?_) | (with_reducible refine w_notV ?_)
  | (with_reducible refine w_ifE ?_) | (with_reducible refine w_isN ?_) | (with_reducible refine w_notN ?_) | (with_reducible refine w_tr ?_) | (with_reducible refine w_chain ?_) | (with_reducible refine w_fld ?_) | (with_reducible refine w_sl ?_) | (with_reducible refine o_no ?_) | (with_reducible refine o_some ?_)
  | (with_reducible refine w_call0 ?_) | (with_reducible refine g_name ?_) | ((with_reducible refine' g_tup ?hx ?hy ?_); (case hx => exact rfl); (case hy => exact rfl)) | (with_reducible refine g_cons ?_) | (with_reducible refine g_nil ?_) | (with_reducible refine g_set ?_)
  | (with_reducible refine r3_add_ii ?_) | (with_reducible refine r3_sub ?_) | (with_reducible refine r3_lt ?_) | (with_reducible refine r3_le ?_) | (with_reducible refine r3_gt ?_) | (with_reducible refine r3_ge ?_) | (with_reducible refine u3_neg ?_)
  | (with_reducible refine c3_int_i ?_) | (with_reducible refine c3_int_b ?_) | (with_reducible refine c3_abs ?_) | (with_reducible refine c3_len_t ?_) | (with_reducible refine c3_len .fz ?_) | (with_reducible refine c3_max2 ?_) | (with_reducible refine c3_min2 ?_)
  | (with_reducible refine r3_eq (n := 9) (m := 9) okD_int okD_int ?_) | (with_reducible refine r3_ne (n := 9) (m := 9) okD_int okD_int ?_)
  | ((with_reducible refine' Exists.intro _ (And.intro ?hx ?_)); (case hx => exact rfl))
  | ((with_reducible refine' And.intro ?hx ?_); (case hx => (show List.length _ ≤ 100000); exact Nat.le_of_ble_eq_true rfl))
  | (with_reducible refine c3_lenL (c3_len_t ?_)) | (with_reducible refine c3_lenL (c3_len .fz ?_)))

section
variable {P : Program} {w : World} {K : PySem.W.Frag} {mg : Str → Option Value} {base : Heap} {A0 : Adr}

local macro_rules | `(tactic| walk_at "t3q") => `(tactic| first
  | (with_reducible refine s_seq ?_) | (with_reducible refine s_asg ?_) | (with_reducible refine s_if ?_) | (with_reducible refine s_ret ?_) | (with_reducible refine s_drop ?_) | (with_reducible refine s_asgG ?_) | (with_reducible refine s_retN ?_)
  | (with_reducible refine s_next ?_) | (with_reducible refine s_brk ?_) | (with_reducible refine s_cont ?_) | (with_reducible refine s_par ?_) | (with_reducible refine s_fld ?_)
  | ((with_reducible refine' w_var ?hx ?_); (case hx => exact rfl)) | (with_reducible refine w_cI ?_) | (with_reducible refine w_cB ?_) | (with_reducible refine w_cS ?_) | (with_reducible refine w_cN ?_) | (with_reducible refine w_cT ?_) | (with_reducible refine w_cR ?_)
  | (with_reducible refine w_op ?_) | (with_reducible refine w_un ?_) | (with_reducible refine w_nil ?_) | (with_reducible refine w_tup ?_) | (with_reducible refine w_cons ?_) | (with_reducible refine w_cb ?_) | (with_reducible refine w_bm0 ?_) | (with_reducible refine w_bm ?_)
  | (with_reducible refine w_test ?_) | (with_reducible refine w_B ?_) | (with_reducible refine w_notT ?_) | (with_reducible refine w_yes ?_) | (with_reducible refine w_notV ?_)
  | (with_reducible refine w_ifE ?_) | (with_reducible refine w_isN ?_) | (with_reducible refine w_notN ?_) | (with_reducible refine w_tr ?_) | (with_reducible refine w_chain ?_) | (with_reducible refine w_fld ?_) | (with_reducible refine w_sl ?_) | (with_reducible refine o_no ?_) | (with_reducible refine o_some ?_)
  | (with_reducible refine g_name ?_) | ((with_reducible refine' g_tup ?hx ?hy ?_); (case hx => exact rfl); (case hy => exact rfl)) | (with_reducible refine g_cons ?_) | (with_reducible refine g_nil ?_) | (with_reducible refine g_set ?_)
  | (with_reducible refine r3_add_ii ?_) | (with_reducible refine r3_sub ?_) | (with_reducible refine r3_lt ?_) | (with_reducible refine r3_le ?_) | (with_reducible refine r3_gt ?_) | (with_reducible refine r3_ge ?_) | (with_reducible refine u3_neg ?_)
  | (with_reducible refine c3_int_i ?_) | (with_reducible refine c3_int_b ?_) | (with_reducible refine c3_abs ?_) | (with_reducible refine c3_len_t ?_) | (with_reducible refine c3_len .fz ?_) | (with_reducible refine c3_max2 ?_) | (with_reducible refine c3_min2 ?_)
  | (with_reducible refine r3_eq (n := 9) (m := 9) okD_int okD_int ?_) | (with_reducible refine r3_ne (n := 9) (m := 9) okD_int okD_int ?_)
  | ((with_reducible refine' Exists.intro _ (And.intro ?hx ?_)); (case hx => exact rfl))
  | ((with_reducible refine' And.intro ?hx ?_); (case hx => (show List.length _ ≤ 100000); exact Nat.le_of_ble_eq_true rfl))
  | (with_reducible refine c3_lenL (c3_len_t ?_)) | (with_reducible refine c3_lenL (c3_len .fz ?_)))

open GenF
theorem c3_ISIl {B : Hp} {M : Mem} {Q : DQ} {x : D} {ds : List D} {n : String} {c : Bool} (l : LstD M x ds) (hk : PySem.W.kitOne K (.type "list") (.type n) = some c) (q : Q (.bl c) M) : C3 B (rISI K) [x, .ty n] M Q := fun F H xv Qv b st rx k => by
  obtain ⟨v, u, e, r1, r2⟩ := rx.two
  subst e
  obtain ⟨a, vs, e1, h1, rs⟩ := l.at st r1
  subst e1
  rw [show u = V.ty n from r2]
  exact .inl ⟨.ref a, .ty n, .type "list", .type n, c, rfl, .ty n, .base (.lst h1), hk, k F M (.bl c) _ H (Evl.Ex.refl _) st rfl q⟩
/-- the source of draws and the work as it grows -/
structure SP (N : Mem) (a p : Addr) (ds : List D) : Prop where
  src : ∃ o, N a = some o ∧ IsSrc o
  wk : N p = some (.lst ds)
  ne : p ≠ a
section
variable {N : Mem} {a p u : Addr} {ds es : List D} {o x : DO}
theorem SP.draw (h : SP N a p ds) (ho : IsSrc o) : SP (mput N a o) a p ds := ⟨⟨o, mput_same, ho⟩, (mput_ne h.ne).trans h.wk, h.ne⟩
theorem SP.put (h : SP N a p ds) : SP (mput N p (.lst es)) a p es := ⟨by
  obtain ⟨o, h1, h2⟩ := h.src
  exact ⟨o, (mput_ne h.ne.symm).trans h1, h2⟩, mput_same, h.ne⟩
theorem SP.off (h : SP N a p ds) (hu : N u = none) : u ≠ a ∧ u ≠ p := by
  obtain ⟨o, h1, _⟩ := h.src
  refine ⟨fun e => ?_, fun e => ?_⟩
  · rw [e, h1] at hu; cases hu
  · rw [e, h.wk] at hu; cases hu
theorem SP.with (h : SP N a p ds) (hu : u ≠ a ∧ u ≠ p) : SP (mput N u x) a p ds := ⟨by
  obtain ⟨o, h1, h2⟩ := h.src
  exact ⟨o, (mput_ne hu.1.symm).trans h1, h2⟩, (mput_ne hu.2.symm).trans h.wk, h.ne⟩
theorem SP.del (h : SP N a p ds) (hu : u ≠ a ∧ u ≠ p) : SP (mdel N u) a p ds := ⟨by
  obtain ⟨o, h1, h2⟩ := h.src
  exact ⟨o, (mdel_ne hu.1.symm).trans h1, h2⟩, (mdel_ne hu.2.symm).trans h.wk, h.ne⟩
end
theorem cut_pre (l : List D) (h : Option Int) : ∃ t, cutD l none h = l.take t := ⟨HT.sIx l.length l.length h, by
  unfold cutD
  show (l.drop 0).take (_ - 0) = _
  rw [List.drop_zero, Nat.sub_zero]⟩
def LIT : List Str := [Str.ofString "", Str.ofString "Cape 2", Str.ofString "a-b", Str.ofString "abcdefghijklm", Str.ofString " ", Str.ofString "A", Str.ofString "0", Str.ofString "\n"]
theorem LIT_ok : ∀ s ∈ LIT, okT s := by unfold okT; decide +kernel
def TUA : List Str := [Str.ofString "a", Str.ofString "b", Str.ofString "c", Str.ofString "d", Str.ofString "e"]
theorem TUA_ok : ∀ s ∈ TUA, okT s := by unfold okT; decide +kernel
def TUB : List Str := [Str.ofString "", Str.ofString "P 1", Str.ofString "0", Str.ofString "Big pot", Str.ofString "e"]
theorem TUB_ok : ∀ s ∈ TUB, okT s := by unfold okT; decide +kernel
theorem iteMid {B : Hp} {c : Bool} {ts tu : TS} {D3 : Ends3} {σ : Sig} {M : Mem} {Mid : Sig → Mem → Prop} (h1 : c = true → W3s B ts { D3 with nx := Mid } σ M) (h2 : c = false → W3s B tu { D3 with nx := Mid } σ M) (k : ∀ σ M, Mid σ M → D3.nx σ M) :
    if c = true then W3s B ts D3 σ M else W3s B tu D3 σ M := by
  cases c with
  | true => exact s_cut (h1 rfl) k
  | false => exact s_cut (h2 rfl) k
/-- names and tubs as drawn -/
structure NT (ns ts : List Str) : Prop where
  nl : ns.length ≤ 8
  no : ∀ s ∈ ns, okT s
  tl : ts.length = 5
  to : ∀ s ∈ ts, okT s
theorem flat_len : ∀ wk : Work, (flatW wk).length = wlen wk
  | [] => rfl
  | x :: wk => by
    have ih := flat_len wk
    unfold flatW at ih ⊢
    rw [List.flatMap_cons, List.length_append, ih, List.length_map]
    simp [wlen]
def S_law (K : PySem.W.Frag) : Hp → Sp3 := fun F ds M Q _ => ∃ (a : Addr) (ns : List Int), ds = [.ref a] ∧ SqL K F a (ns.map V.int) ∧ ns.length ≤ 63 ∧ M = (fun _ => none) ∧ ∀ M', Q (.bl true) M'
theorem ok_law (T : Tx P K mg A0) : FnOk P w K mg base CX0 60 A0.f_law A0.d_law ["_law_script"] (lift3B (S_law K)) := by
  refine T.F_law.ok sc_law (lift3B_len fun F ds M Q E ⟨a, b, h, _⟩ => by rw [h]; rfl) (fun cdv A outer st0 H vs Q E hr h => ?_)
  have hu := hr.units
  have hu5 := units65 hr
  refine ⟨_, (pss_cons (ps_set (i := 1) sc_law.nd (by rfl) (Or.inl (by rfl)) (pe_call (ok_source T) (hr.mono (by decide)) (by rfl) T.g_source T.k_source T.b_source .nil pass0 (pa_cons (pv 0) pa_nil)))
  (pss_cons (ps_set (i := 2) sc_law.nd (by rfl) (Or.inl (by rfl)) (pe_lst pa_nil))
  (pss_cons (ps_set (i := 3) sc_law.nd (by rfl) (Or.inl (by rfl)) pe_int)
  (pss_cons (ps_set (i := 4) sc_law.nd (by rfl) (Or.inl (by rfl)) (pe_op op_modN (pe_op op_ADD pe_int (pe_call (ok_draw T) (hr.mono (by decide)) (by rfl) T.g_draw T.k_draw T.b_draw .nil pass0 (pa_cons (pv 1) (pa_cons pe_int pa_nil)))) pe_int))
  (pss_cons (ps_set (i := 5) sc_law.nd (by rfl) (Or.inl (by rfl)) (pe_call (ok_names T) (hr.mono (by decide)) (by rfl) T.g_names T.k_names T.b_names .nil pass0 (pa_cons (pv 1) (pa_cons (pv 4) pa_nil))))
  (pss_cons (ps_set (i := 6) sc_law.nd (by rfl) (Or.inl (by rfl)) (pe_lst (pa_cons pe_str (pa_cons pe_str (pa_cons pe_str (pa_cons pe_str (pa_cons pe_str pa_nil)))))))
  (pss_cons (ps_if (pt_cmpR (op_eqDK K rfl hu) (pe_call (ok_draw T) (hr.mono (by decide)) (by rfl) T.g_draw T.k_draw T.b_draw .nil pass0 (pa_cons (pv 1) (pa_cons pe_int pa_nil))) pe_int (nomark _)) (pss_cons (ps_set (i := 5) sc_law.nd (by rfl) (Or.inl (by rfl)) (pe_slice (sl_SLTK K rfl) (pe_lst (pa_cons pe_str (pa_cons pe_str (pa_cons pe_str (pa_cons pe_str (pa_cons pe_str (pa_cons pe_str (pa_cons pe_str (pa_cons pe_str pa_nil))))))))) po_none (po_some (pv 4))))
  (pss_one (ps_set (i := 6) sc_law.nd (by rfl) (Or.inl (by rfl)) (pe_lst (pa_cons pe_str (pa_cons pe_str (pa_cons pe_str (pa_cons pe_str (pa_cons pe_str pa_nil))))))))) pss_nil)
  (pss_cons (ps_for PassesOwn.never (by rfl) (pi_list (pv 5)) (pg_name (i := 7) sc_law.nd (by rfl) (Or.inl (by rfl))) (pss_cons (ps_set (i := 8) sc_law.nd (by rfl) (Or.inl (by rfl)) (pe_lst pa_nil))
  (pss_cons (ps_for PassesOwn.never (by rfl) (pi_range1 (by rfl) T.n_range (pa_cons (pe_op op_modN (pe_op op_ADD pe_int (pe_call (ok_draw T) (hr.mono (by decide)) (by rfl) T.g_draw T.k_draw T.b_draw .nil pass0 (pa_cons (pv 1) (pa_cons pe_int pa_nil)))) pe_int) pa_nil)) (pg_name (i := 9) sc_law.nd (by rfl) (Or.inl (by rfl))) (pss_one (ps_if (pt_cmpR op_gt (pv 3) pe_int (nomark _)) (pss_cons (ps_expr (pe_bm PySem.F.plainAttrs_list PySem.F.slot_list_append PySem.F.type_list_append mt_append (pv 8) (pa_cons (pe_ix (ix_seqK K rfl) (pv 6) (pe_call (ok_draw T) (hr.mono (by decide)) (by rfl) T.g_draw T.k_draw T.b_draw .nil pass0 (pa_cons (pv 1) (pa_cons pe_int pa_nil))) (fun _ _ => by rfl)) pa_nil)))
  (pss_one (ps_set (i := 3) sc_law.nd (by rfl) (Or.inl (by rfl)) (pe_op op_sub (pv 3) pe_int)))) pss_nil)))
  (pss_one (ps_expr (pe_bm PySem.F.plainAttrs_list PySem.F.slot_list_append PySem.F.type_list_append mt_append (pv 2) (pa_cons (pe_tup (pa_cons (pv 7) (pa_cons (pv 8) pa_nil))) pa_nil)))))))
  (pss_cons (ps_setLc (i := 11) (own := [("_law_entry", 10)]) (g := (gName 10)) (by rfl) sc_law.nd (by rfl) (by rfl) (sw_true (by rfl) (by rfl) (by rfl) (by decide +kernel)) (pi_list (pv 2)) (blkOk_by (N := ["_law_script", "_law_source_here", "_law_work", "_law_left", "_law_many", "_law_words", "_law_tubs", "_law_word_here", "_law_vats", "_law_j", "_law_entry", "_law_handed", "_law_due", "_law_row_here", "_law_time", "_law_rows", "_law_k", "_law_great", "_law_first", "_law_vat"]) (sc := defScope s_law) (own := [("_law_entry", 10)]) (by decide +kernel)) (fun _ _ _ _ _ => (pg_name (i := 10) sc_law.nd (by rfl) (Or.inl (by rfl)))) (fun _ _ _ _ _ => pts_nil) (fun _ _ _ _ _ => (pe_tup (pa_cons (pe_ix (ix_seqK K rfl) (pv 10) pe_int (fun _ _ => by rfl)) (pa_cons (pe_callTy (call_lstK K rfl) (by rfl) T.n_list (by decide +kernel) (pa_cons (pe_ix (ix_seqK K rfl) (pv 10) pe_int (fun _ _ => by rfl)) pa_nil)) pa_nil)))))
  (pss_cons (ps_set (i := 12) sc_law.nd (by rfl) (Or.inl (by rfl)) (pe_call (ok_all T) (hr.mono (by decide)) (by rfl) T.g_all T.k_all T.b_all .nil pass0 (pa_cons (pv 2) pa_nil)))
  (pss_cons (ps_forG (pgx_call (ok_any T) (hr.mono (by decide)) (by rfl) T.g_every_row T.k_every_row T.b_every_row .nil (pa_cons (pv 11) pa_nil)) (pg_name (i := 13) sc_law.nd (by rfl) (Or.inl (by rfl))) (pss_cons (ps_if (pt_cmpR (op_neDK K rfl hu) (pv 13) (pe_call (ok_row T) (hr.mono (by decide)) (by rfl) T.g_row T.k_row T.b_row .nil pass0 (pa_cons (pv 2) (pa_cons (pe_ix (ix_seqK K rfl) (pv 12) pe_int (fun _ _ => by rfl)) pa_nil))) (nomark _)) (pss_one (ps_ret pe_bl)) pss_nil)
  (pss_one ps_break)) hr.hd hr.depth rfl PassesOwn.never)
  (pss_cons (ps_for PassesOwn.never (by rfl) (pi_range1 (by rfl) T.n_range (pa_cons pe_int pa_nil)) (pg_name (i := 14) sc_law.nd (by rfl) (Or.inl (by rfl))) (pss_cons (ps_set (i := 15) sc_law.nd (by rfl) (Or.inl (by rfl)) (pe_lst pa_nil))
  (pss_cons (ps_forG (pgx_call (ok_any T) (hr.mono (by decide)) (by rfl) T.g_every_row T.k_every_row T.b_every_row .nil (pa_cons (pv 11) pa_nil)) (pg_name (i := 13) sc_law.nd (by rfl) (Or.inl (by rfl))) (pss_cons (ps_if (PW.pt (pw_or (pt_cmpR op_ge (pe_callB (call_lenDK K rfl) (by rfl) T.n_len PySem.boot_len (pa_cons (pv 15) pa_nil)) (pe_callB (call_lenDK K rfl) (by rfl) T.n_len PySem.boot_len (pa_cons (pv 12) pa_nil)) (nomark _)) (pw_or1 (pt_not (pt_truthK K rfl (pe_callB (call_ISIK K rfl) (by rfl) T.n_isinstance (by decide +kernel) (pa_cons (pv 13) (pa_cons (pe_bltn (v := .ty "list") (by rfl) T.n_list (by decide +kernel) rfl) pa_nil))) (by intro _; rfl)))))) (pss_one (ps_ret pe_bl)) pss_nil)
  (pss_cons (ps_expr (pe_bm PySem.F.plainAttrs_list PySem.F.slot_list_append PySem.F.type_list_append mt_append (pv 15) (pa_cons (pe_callTy (call_lstK K rfl) (by rfl) T.n_list (by decide +kernel) (pa_cons (pv 13) pa_nil)) pa_nil)))
  (pss_one (ps_expr (pe_bm0 PySem.F.plainAttrs_list PySem.F.slot_list_clear PySem.F.type_list_clear mt_clear (pv 13)))))) hr.hd hr.depth rfl PassesOwn.never)
  (pss_cons (ps_if (PW.pt (pw_or (pt_cmpR (op_neDK K rfl hu) (pe_callB (call_lenDK K rfl) (by rfl) T.n_len PySem.boot_len (pa_cons (pv 15) pa_nil)) (pe_callB (call_lenDK K rfl) (by rfl) T.n_len PySem.boot_len (pa_cons (pv 12) pa_nil)) (nomark _)) (pw_or1 (pt_cmpR (op_neDK K rfl hu) (pv 11) (pv 2) (nomark _))))) (pss_one (ps_ret pe_bl)) pss_nil)
  (pss_one (ps_for PassesOwn.never (by rfl) (pi_range1 (by rfl) T.n_range (pa_cons (pe_callB (call_lenDK K rfl) (by rfl) T.n_len PySem.boot_len (pa_cons (pv 15) pa_nil)) pa_nil)) (pg_name (i := 16) sc_law.nd (by rfl) (Or.inl (by rfl))) (pss_one (ps_if (pt_cmpR (op_neDK K rfl hu) (pe_ix (ix_seqK K rfl) (pv 15) (pv 16) (fun _ _ => by rfl)) (pe_call (ok_row T) (hr.mono (by decide)) (by rfl) T.g_row T.k_row T.b_row .nil pass0 (pa_cons (pv 2) (pa_cons (pe_ix (ix_seqK K rfl) (pv 12) (pv 16) (fun _ _ => by rfl)) pa_nil))) (nomark _)) (pss_one (ps_ret pe_bl)) pss_nil))))))))
  (pss_cons (ps_setLc (i := 17) (own := [("_law_k", 16)]) (g := (gName 16)) (by rfl) sc_law.nd (by rfl) (by rfl) (sw_true (by rfl) (by rfl) (by rfl) (by decide +kernel)) (pi_range1 (by rfl) T.n_range (pa_cons pe_int pa_nil)) (blkOk_by (N := ["_law_script", "_law_source_here", "_law_work", "_law_left", "_law_many", "_law_words", "_law_tubs", "_law_word_here", "_law_vats", "_law_j", "_law_entry", "_law_handed", "_law_due", "_law_row_here", "_law_time", "_law_rows", "_law_k", "_law_great", "_law_first", "_law_vat"]) (sc := defScope s_law) (own := [("_law_k", 16)]) (by decide +kernel)) (fun _ _ _ _ _ => (pg_name (i := 16) sc_law.nd (by rfl) (Or.inl (by rfl)))) (fun _ _ _ _ _ => pts_nil) (fun _ _ _ _ _ => (pe_tup (pa_cons (pe_call (ok_word T) (hr.mono (by decide)) (by rfl) T.g_word T.k_word T.b_word .nil pass0 (pa_cons (pv 16) pa_nil)) (pa_cons (pe_lst (pa_cons pe_str (pa_cons pe_str (pa_cons pe_str pa_nil)))) pa_nil)))))
  (pss_cons (ps_set (i := 18) sc_law.nd (by rfl) (Or.inl (by rfl)) (pe_lst pa_nil))
  (pss_cons (ps_for PassesOwn.never (by rfl) (pi_list (pv 17)) (pg_name (i := 10) sc_law.nd (by rfl) (Or.inr (by rfl))) (pss_one (ps_expr (pe_bm PySem.F.plainAttrs_list PySem.F.slot_list_extend PySem.F.type_list_extend mt_extend (pv 18) (pa_cons (pe_lc (own := [("_law_vat", 19)]) (g := (gName 19)) (by rfl) sc_law.nd (pi_list (pe_ix (ix_seqK K rfl) (pv 10) pe_int (fun _ _ => by rfl))) (blkOk_by (N := ["_law_script", "_law_source_here", "_law_work", "_law_left", "_law_many", "_law_words", "_law_tubs", "_law_word_here", "_law_vats", "_law_j", "_law_entry", "_law_handed", "_law_due", "_law_row_here", "_law_time", "_law_rows", "_law_k", "_law_great", "_law_first", "_law_vat"]) (sc := defScope s_law) (own := [("_law_vat", 19)]) (by decide +kernel)) (fun _ _ _ _ _ => (pg_name (i := 19) sc_law.nd (by rfl) (Or.inl (by rfl)))) (fun _ _ _ _ _ => pts_nil) (fun _ _ _ _ _ => (pe_tup (pa_cons (pe_ix (ix_seqK K rfl) (pv 10) pe_int (fun _ _ => by rfl)) (pa_cons (pv 19) pa_nil))))) pa_nil)))))
  (pss_cons (ps_forG (pgx_call (ok_any T) (hr.mono (by decide)) (by rfl) T.g_every_row T.k_every_row T.b_every_row .nil (pa_cons (pv 17) pa_nil)) (pg_name (i := 13) sc_law.nd (by rfl) (Or.inl (by rfl))) (pss_one (ps_ret (pe_cmpR (op_eqDK K rfl hu) (pv 13) (pv 18) (nomark _)))) hr.hd hr.depth rfl PassesOwn.never)
  (pss_one (ps_ret pe_bl)))))))))))))))))), run3B h fun B ds M Q3 E3 hs hE => ?_⟩
  obtain ⟨sa, is, rfl, hS, hl, _, q⟩ := hs
  change W3s B _ _ [some (.ref sa), none, none, none, none, none, none, none, none, none, none, none, none, none, none, none, none, none, none, none] _
  try dsimp only [cxOf, Cx.nox, Cx.wish]
  repeat walk_at "t3"
  refine w_callB0 source_mono ?_
  repeat walk_at "t3"
  refine ⟨sa, is, rfl, hS, hl, fun a o ha ho => ?_⟩
  repeat walk_at "t3"
  refine w_lstO ?_
  repeat walk_at "t3"
  intro p hp
  have sp0 : SP (mput (mput M a o) p (.lst [])) a p [] := by
    have ne : p ≠ a := fun e => by rw [e, mput_same] at hp; cases hp
    exact ⟨⟨o, (mput_ne ne.symm).trans mput_same, ho⟩, mput_same, ne⟩
  generalize mput (mput M a o) p (.lst []) = N0 at sp0 ⊢
  obtain ⟨o0, h0, so0⟩ := sp0.src
  repeat walk_at "t3"
  refine ⟨a, 9, o0, rfl, h0, so0, by decide, by decide, fun r o1 r0 r1 ho1 => ?_⟩
  have sp1 := sp0.draw ho1
  generalize mput N0 a o1 = N1 at sp1 ⊢
  obtain ⟨many, hm⟩ : ∃ many : Nat, (3 + r) % 9 = (many : Int) := ⟨((3 + r) % 9).toNat, by omega⟩
  have hm8 : many ≤ 8 := by omega
  obtain ⟨o2, h2, so2⟩ := sp1.src
  repeat walk_at "t3"
  refine r3_mod (by decide) ?_
  rw [hm]
  repeat walk_at "t3"
  refine ⟨a, many, o2, rfl, h2, so2, hm8, fun ns o3 pw hns ho3 hpw => ?_⟩
  have sp2 := sp1.draw ho3
  have hpw1 : mput N1 a o3 pw = none := by
    rw [mput_ne fun e => by rw [e, h2] at hpw; cases hpw]; exact hpw
  generalize mput N1 a o3 = N2 at sp2 hpw1 ⊢
  show W3s B _ _ [some (.ref sa), some (.ref a), some (.ref p), some (.int 5), some (.int (many : Nat)), some (.ref pw), none, none, none, none, none, none, none, none, none, none, none, none, none, none] _
  refine s_vs (vss_lst 5 rfl mput_same) ?_
  rw [mdel_mput hpw1]
  repeat walk_at "t3"
  refine w_lst ?_
  repeat walk_at "t3"
  obtain ⟨o4, h4, so4⟩ := sp2.src
  refine ⟨a, 3, o4, rfl, h4, so4, by decide, by decide, fun r3 o5 r30 r31 ho5 => ?_⟩
  have sp3 := sp2.draw ho5
  generalize mput N2 a o5 = N3 at sp3 ⊢
  repeat walk_at "t3"
  refine iteMid (Mid := fun σ' N' => ∃ ns ts : List Str, NT ns ts ∧ SP N' a p [] ∧ σ' = [some (.ref sa), some (.ref a), some (.ref p), some (.int 5), some (.int (many : Nat)), some (.lst (ns.map .str)), some (.lst (ts.map .str)), none, none, none, none, none, none, none, none, none, none, none, none, none]) (fun _ => ?_) (fun _ => ?_) ?_
  · repeat walk_at "t3"
    refine w_lst ?_
    repeat walk_at "t3"
    refine s3_L <| s3_l .fz ?_
    obtain ⟨t, ht⟩ := cut_pre (LIT.map D.str) (some (many : Int))
    rw [show cutD [D.str (Str.ofString ""), .str (Str.ofString "Cape 2"), .str (Str.ofString "a-b"), .str (Str.ofString "abcdefghijklm"), .str (Str.ofString " "), .str (Str.ofString "A"), .str (Str.ofString "0"), .str (Str.ofString "\n")] none (some (many : Int)) = (LIT.take t).map D.str from ht.trans (List.map_take ..).symm]
    repeat walk_at "t3"
    refine w_lst ?_
    repeat walk_at "t3"
    exact ⟨LIT.take t, TUB, ⟨Nat.le_trans (by rw [List.length_take]; exact Nat.min_le_right _ _) (show LIT.length ≤ 8 by decide), fun s hs => LIT_ok s (List.mem_of_mem_take hs), rfl, TUB_ok⟩, sp3, rfl⟩
  · refine s_next ?_
    exact ⟨ns, TUA, ⟨by rw [hns.1]; exact hm8, fun s hs => good_okT (hns.2.2 s hs), rfl, TUA_ok⟩, sp3, rfl⟩
  rintro σ' N' ⟨ns, ts, nt, sp4, rfl⟩
  show W3s B _ _ _ _
  refine s_seq ?_
  refine s_for (i_list (w_var rfl ?_))
  refine ⟨_, rfl, fun i σ' N => ∃ (wk : Work) (left : Nat) (b7 b8 b9 : Option D), wk.length = i ∧ WT wk ∧ wlen wk + left = 5 ∧ SP N a p (wk.map eD) ∧
    σ' = [some (.ref sa), some (.ref a), some (.ref p), some (.int (left : Nat)), some (.int (many : Nat)), some (.lst (ns.map .str)), some (.lst (ts.map .str)), b7, b8, b9, none, none, none, none, none, none, none, none, none, none], fun _ _ _ _ => True.intro, ⟨[], 5, none, none, none, rfl, fun _ h => (by cases h), rfl, sp4, rfl⟩, ?_, ?_⟩
  · rintro i d σ' N hi ⟨wk, left, b7, b8, b9, wl, wt, wn, sp, rfl⟩
    obtain ⟨x, hx, rfl⟩ := map_at hi
    refine g_name ?_
    repeat walk_at "t3"
    refine w_lstO ?_
    repeat walk_at "t3"
    intro u hu0
    have fu := sp.off hu0
    have sp5 := sp.with (x := .lst []) fu
    have hu1 : mput N u (.lst []) u = some (.lst []) := mput_same
    generalize mput N u (.lst []) = N5 at sp5 hu1 ⊢
    obtain ⟨o5, h5, so5⟩ := sp5.src
    repeat walk_at "t3"
    refine s_for (i_rng1 ?_)
    repeat walk_at "t3"
    refine ⟨a, 6, o5, rfl, h5, so5, by decide, by decide, fun z o6 z0 z1 so6 => ?_⟩
    have sp6 := sp5.draw so6
    have hu6 : mput N5 a o6 u = some (.lst []) := (mput_ne fu.1).trans hu1
    generalize mput N5 a o6 = N6 at sp6 hu6 ⊢
    repeat walk_at "t3"
    refine r3_mod (by decide) ?_
    repeat walk_at "t3"
    refine ⟨by omega, by omega, fun i σ' N => ∃ (ps : List Str) (lf : Nat) (b9 : Option D), (∀ y ∈ ps, okT y) ∧ wlen wk + ps.length + lf = 5 ∧ SP N a p (wk.map eD) ∧ N u = some (.lst (ps.map .str)) ∧
      σ' = [some (.ref sa), some (.ref a), some (.ref p), some (.int (lf : Nat)), some (.int (many : Nat)), some (.lst (ns.map .str)), some (.lst (ts.map .str)), some (.str x), some (.ref u), b9, none, none, none, none, none, none, none, none, none, none], fun _ _ _ _ => True.intro, ⟨[], left, b9, fun _ h => (by cases h), wn, sp6, hu6, rfl⟩, ?_, ?_⟩
    · rintro i2 d σ' N' hi2 ⟨ps, lf, b9, pp, pl, sp, hu, rfl⟩
      obtain ⟨k2, hk2, rfl⟩ := map_at hi2
      refine g_name ?_
      refine s_if ?_
      repeat walk_at "t3"
      refine iteB (fun hc => ?_) (fun hc => ?_)
      · have hlf : 0 < lf := by have := of_decide_eq_true hc; omega
        obtain ⟨o7, h7, so7⟩ := sp.src
        repeat walk_at "t3"
        refine ⟨.lo hu, ?_⟩
        repeat walk_at "t3"
        refine ⟨a, 5, o7, rfl, h7, so7, by decide, by decide, fun z4 o8 z40 z41 so8 => ?_⟩
        have sp8 := sp.draw so8
        have hu8 : mput N' a o8 u = some (.lst (ps.map .str)) := (mput_ne fu.1).trans hu
        generalize mput N' a o8 = N8 at sp8 hu8 ⊢
        have hjl : z4.toNat < ts.length := by rw [nt.tl]; omega
        repeat walk_at "t3"
        refine r3_ix_l .fz (at3 (j := z4.toNat) (by omega) (v := .str (ts[z4.toNat])) (by rw [List.getElem?_map, List.getElem?_eq_getElem hjl]; rfl)) ?_
        have hty := nt.to _ (List.getElem_mem hjl)
        generalize ts[z4.toNat] = y at hty ⊢
        repeat walk_at "t3"
        refine m3_append hu8 (by rw [List.length_map]; omega) ?_
        have sp9 := sp8.with (x := .lst (ps.map .str ++ [.str y])) fu
        have hu9 : mput N8 u (.lst (ps.map .str ++ [.str y])) u = some (.lst ((ps ++ [y]).map .str)) := mput_same.trans (by rw [List.map_append]; rfl)
        generalize mput N8 u (.lst (ps.map .str ++ [.str y])) = N9 at sp9 hu9 ⊢
        repeat walk_at "t3"
        refine ⟨ps ++ [y], lf - 1, some (.int (k2 : Nat)), fun w hw => ?_, by rw [List.length_append]; show _ + (_ + 1) + _ = _; omega, sp9, hu9, ?_⟩
        · rcases List.mem_append.mp hw with hw | hw
          · exact pp w hw
          · rw [List.mem_singleton.mp hw]; exact hty
        · rw [show ((lf - 1 : Nat) : Int) = (lf : Int) - 1 by omega]; rfl
      · refine s_next ?_
        exact ⟨ps, lf, _, pp, pl, sp, hu, rfl⟩
    rintro σ' N' ⟨ps, lf, b9', pp, pl, sp, hu, rfl⟩
    show W3s B _ _ [some (.ref sa), some (.ref a), some (.ref p), some (.int (lf : Nat)), some (.int (many : Nat)), some (.lst (ns.map .str)), some (.lst (ts.map .str)), some (.str x), some (.ref u), b9', none, none, none, none, none, none, none, none, none, none] N'
    refine s_vs (vss_lst 8 rfl hu) ?_
    have sp10 := sp.del fu
    generalize mdel N' u = N10 at sp10 ⊢
    repeat walk_at "t3"
    refine ⟨.lo sp10.wk, ?_⟩
    repeat walk_at "t3"
    have hwl : wk.length < 8 := by
      have := (List.getElem?_eq_some_iff.mp hx).1
      have := nt.nl
      omega
    refine m3_append sp10.wk (by rw [List.length_map]; omega) ?_
    have sp11 := sp10.put (es := (wk ++ [(x, ps)]).map eD)
    rw [show (wk ++ [(x, ps)]).map eD = wk.map eD ++ [.tup [.str x, .lst (ps.map .str)]] by rw [List.map_append]; rfl] at sp11
    repeat walk_at "t3"
    refine ⟨wk ++ [(x, ps)], lf, some (.str x), some (.lst (ps.map .str)), b9', by rw [List.length_append, wl]; rfl, fun e he => ?_, ?_, ?_, rfl⟩
    · rcases List.mem_append.mp he with he | he
      · exact wt e he
      · rw [List.mem_singleton.mp he]
        exact ⟨nt.no x (List.mem_of_getElem? hx), pp⟩
    · rw [wlen_app, show wlen [(x, ps)] = ps.length by simp [wlen]]; exact pl
    · rw [List.map_append]; exact sp11
  rintro σ' N ⟨wk, left, b7, b8, b9, wl, wt, wn, sp, rfl⟩
  show W3s B _ _ [some (.ref sa), some (.ref a), some (.ref p), some (.int (left : Nat)), some (.int (many : Nat)), some (.lst (ns.map .str)), some (.lst (ts.map .str)), b7, b8, b9, none, none, none, none, none, none, none, none, none, none] N
  refine s_vs (vss_lst 2 rfl sp.wk) ?_
  generalize mdel N p = N20
  have hb : WB wk := ⟨by rw [wl, List.length_map]; exact nt.nl, by omega⟩
  clear sp sp4
  show W3s B _ _ [some (.ref sa), some (.ref a), some (.lst (wk.map eD)), some (.int (left : Nat)), some (.int (many : Nat)), some (.lst (ns.map .str)), some (.lst (ts.map .str)), b7, b8, b9, none, none, none, none, none, none, none, none, none, none] N20
  repeat walk_at "t3"
  have hwl := hb.len
  have htt := hb.tot
  refine w_lcP (fun _ => true) (fun d => d) own_name (i_list (w_var rfl ⟨_, rfl, by rw [List.length_map]; omega, True.intro, fun i d M' hd _ => ?_, ?_⟩))
  · obtain ⟨x, hx, rfl⟩ := map_at hd
    refine g_name ?_
    refine ⟨rfl, ?_⟩
    repeat walk_at "t3"
    refine ⟨rfl, rfl, fun _ => ?_⟩
    repeat walk_at "t3"
    refine r3_ix_t (at3 (j := 0) rfl (v := .str x.1) rfl) ?_
    repeat walk_at "t3"
    refine r3_ix_t (at3 (j := 1) rfl (v := .lst (x.2.map D.str)) rfl) ?_
    repeat walk_at "t3"
    refine c3_lst .fz ?_
    repeat walk_at "t3"
    exact ⟨rfl, rfl⟩
  rw [List.filter_eq_self.mpr fun _ _ => rfl, List.map_id']
  repeat walk_at "t3"
  refine ⟨wk, rfl, hb, ?_⟩
  show W3s B _ _ [some (.ref sa), some (.ref a), some (.lst (wk.map eD)), some (.int (left : Nat)), some (.int (many : Nat)), some (.lst (ns.map .str)), some (.lst (ts.map .str)), b7, b8, b9, none, some (.lst (wk.map eD)), some (.lst ((allN wk (wlen wk)).map rD)), none, none, none, none, none, none, none] N20
  refine s_seqM (fun σ' N' => ∃ b13, σ' = [some (.ref sa), some (.ref a), some (.lst (wk.map eD)), some (.int (left : Nat)), some (.int (many : Nat)), some (.lst (ns.map .str)), some (.lst (ts.map .str)), b7, b8, b9, none, some (.lst (wk.map eD)), some (.lst ((allN wk (wlen wk)).map rD)), b13, none, none, none, none, none, none]) (s_forG ?_) ?_
  · repeat walk_at "t3"
    refine ⟨.lst (wk.map eD), wk, rfl, .fz, hb.ok, by omega, fun rs σ' N' => rs = rowsN (wlen wk) wk ∧ σ' = [some (.ref sa), some (.ref a), some (.lst (wk.map eD)), some (.int (left : Nat)), some (.int (many : Nat)), some (.lst (ns.map .str)), some (.lst (ts.map .str)), b7, b8, b9, none, some (.lst (wk.map eD)), some (.lst ((allN wk (wlen wk)).map rD)), none, none, none, none, none, none, none], ⟨rfl, rfl⟩, fun σ' M' ⟨_, e⟩ => ⟨none, e⟩, ?_⟩
    rintro r rs σ' N' ⟨er, rfl⟩ pr hpr
    rw [rows_all] at er
    cases hal : allN wk (wlen wk) with
    | nil => rw [hal] at er; cases er
    | cons q0 qs =>
      rw [hal, List.map_cons] at er
      obtain ⟨er1, er2⟩ := List.cons.inj er
      subst er1
      have ok0 := okDs_row (outs_ok wt q0 [])
      refine g_name ?_
      repeat walk_at "t3"
      refine r3_ix_l .fz (at3 (j := 0) rfl (v := rD q0) rfl) ?_
      repeat walk_at "t3"
      refine ⟨wk, q0, rfl, hb, by rw [hal]; exact List.mem_cons_self, ?_⟩
      repeat walk_at "t3"
      refine r3_neO (n := 1) (m := 1) (.ow mput_same) .fz ok0 ok0 ?_
      rw [eqvAll_me ok0]
      refine ⟨_, rfl, ?_⟩
      refine iteB (fun hc => by cases hc) (fun _ => ?_)
      refine s_next ?_
      refine s_brk ?_
      exact ⟨_, rfl⟩
  rintro σ' N' ⟨b13, rfl⟩
  obtain ⟨RW, hRW⟩ : ∃ RW, allN wk (wlen wk) = RW := ⟨_, rfl⟩
  have hRl : RW.length ≤ 32768 := by
    rw [← hRW]
    exact Nat.le_trans (allN_len hwl _) (Nat.le_trans (Nat.pow_le_pow_right (by decide) htt) (by decide))
  rw [hRW]
  repeat walk_at "t3"
  refine s_for (i_rng1 ?_)
  repeat walk_at "t3"
  refine ⟨by decide, by decide, fun i σ' N' => ∃ b13 b14 b15 b16, σ' = [some (.ref sa), some (.ref a), some (.lst (wk.map eD)), some (.int (left : Nat)), some (.int (many : Nat)), some (.lst (ns.map .str)), some (.lst (ts.map .str)), b7, b8, b9, none, some (.lst (wk.map eD)), some (.lst (RW.map rD)), b13, b14, b15, b16, none, none, none], fun _ _ _ _ => True.intro, ⟨b13, none, none, none, rfl⟩, ?_, ?_⟩
  · rintro i d σ' N' hi ⟨b13, b14, b15, b16, rfl⟩
    refine g_name ?_
    repeat walk_at "t3"
    refine w_lstO ?_
    repeat walk_at "t3"
    intro p5 hp5
    show W3s B _ _ [some (.ref sa), some (.ref a), some (.lst (wk.map eD)), some (.int (left : Nat)), some (.int (many : Nat)), some (.lst (ns.map .str)), some (.lst (ts.map .str)), b7, b8, b9, none, some (.lst (wk.map eD)), some (.lst (RW.map rD)), b13, some d, some (.ref p5), b16, none, none, none] _
    refine s_seqM (fun σ' N' => ∃ b13, N' p5 = some (.lst (RW.map fun q => .lst ((outs wk [] q).map pD))) ∧ σ' = [some (.ref sa), some (.ref a), some (.lst (wk.map eD)), some (.int (left : Nat)), some (.int (many : Nat)), some (.lst (ns.map .str)), some (.lst (ts.map .str)), b7, b8, b9, none, some (.lst (wk.map eD)), some (.lst (RW.map rD)), b13, some d, some (.ref p5), b16, none, none, none]) (s_forG ?_) ?_
    · repeat walk_at "t3"
      refine ⟨.lst (wk.map eD), wk, rfl, .fz, hb.ok, by omega, fun rs σ' N' => ∃ j b13, j ≤ RW.length ∧ rs = (RW.drop j).map (outs wk []) ∧ N' p5 = some (.lst ((RW.take j).map fun q => .lst ((outs wk [] q).map pD))) ∧ σ' = [some (.ref sa), some (.ref a), some (.lst (wk.map eD)), some (.int (left : Nat)), some (.int (many : Nat)), some (.lst (ns.map .str)), some (.lst (ts.map .str)), b7, b8, b9, none, some (.lst (wk.map eD)), some (.lst (RW.map rD)), b13, some d, some (.ref p5), b16, none, none, none], ⟨0, b13, Nat.zero_le _, by rw [rows_all, hRW]; rfl, mput_same, rfl⟩, ?_, ?_⟩
      · rintro σ' N' ⟨j, b13, hj, er, hN, rfl⟩
        have hjl : RW.length ≤ j := by
          have := congrArg List.length er
          rw [List.length_map, List.length_drop] at this
          change 0 = _ at this
          omega
        rw [List.take_of_length_le hjl] at hN
        exact ⟨b13, hN, rfl⟩
      · rintro r rs σ' N' ⟨j, b13, hj, er, hN, rfl⟩ pr hpr
        have hjl : j < RW.length := by
          have := congrArg List.length er
          rw [List.length_map, List.length_drop, List.length_cons] at this
          omega
        rw [List.drop_eq_getElem_cons hjl, List.map_cons] at er
        obtain ⟨er1, er2⟩ := List.cons.inj er
        subst er1
        have npr : p5 ≠ pr := mne hN hpr
        have hN1 := (mput_ne (o := .lst ((outs wk [] RW[j]).map pD)) npr).trans hN
        refine g_name ?_
        repeat walk_at "t3"
        refine w_orTP (a := false) (b := false) ?_ (fun _ => ?_) ?_
        · repeat walk_at "t3"
          refine c3_lenL <| c3_len (.ow hN1) ?_
          rw [List.length_map, List.length_take, Nat.min_eq_left hj]
          repeat walk_at "t3"
          exact ⟨decide_eq_false (by rw [List.length_map]; omega), rfl⟩
        · repeat walk_at "t3"
          refine c3_ISIl (.ow mput_same) T.kit_ll ?_
          repeat walk_at "t3"
          exact ⟨rfl, rfl⟩
        refine iteB (fun hc => by cases hc) (fun _ => ?_)
        refine s_next ?_
        repeat walk_at "t3"
        refine ⟨.lo hN1, ?_⟩
        repeat walk_at "t3"
        refine c3_lst (.ow mput_same) ?_
        repeat walk_at "t3"
        refine m3_append hN1 (by rw [List.length_map, List.length_take]; omega) ?_
        repeat walk_at "t3"
        refine ⟨.lo ((mput_ne npr.symm).trans mput_same), ?_⟩
        refine m3_clear ((mput_ne npr.symm).trans mput_same) ?_
        refine ⟨j + 1, some (.ref pr), hjl, er2, ?_, rfl⟩
        rw [mput_ne npr, mput_same, List.take_add_one, List.getElem?_eq_getElem hjl, List.map_append]
        rfl
    rintro σ' N' ⟨b13, hN, rfl⟩
    show W3s B _ _ [some (.ref sa), some (.ref a), some (.lst (wk.map eD)), some (.int (left : Nat)), some (.int (many : Nat)), some (.lst (ns.map .str)), some (.lst (ts.map .str)), b7, b8, b9, none, some (.lst (wk.map eD)), some (.lst (RW.map rD)), b13, some d, some (.ref p5), b16, none, none, none] _
    refine s_vs (vss_lst 15 rfl hN) ?_
    repeat walk_at "t3"
    have okw := okDs_work wt
    refine w_orTP (a := false) (b := false) ?_ (fun _ => ?_) ?_
    · repeat walk_at "t3"
      rw [List.length_map, List.length_map]
      repeat walk_at "t3"
      rw [peq_me (n := 0) okD_int]
      exact ⟨rfl, rfl⟩
    · repeat walk_at "t3"
      refine r3_neO (n := 2) (m := 2) .fz .fz okw okw ?_
      rw [eqvAll_me okw]
      exact ⟨_, rfl, rfl, rfl⟩
    refine iteB (fun hc => by cases hc) (fun _ => ?_)
    refine s_next ?_
    repeat walk_at "t3"
    refine s_for (i_rng1 ?_)
    repeat walk_at "t3"
    rw [List.length_map]
    refine ⟨by omega, by omega, fun k σ' N' => ∃ b16, σ' = [some (.ref sa), some (.ref a), some (.lst (wk.map eD)), some (.int (left : Nat)), some (.int (many : Nat)), some (.lst (ns.map .str)), some (.lst (ts.map .str)), b7, b8, b9, none, some (.lst (wk.map eD)), some (.lst (RW.map rD)), b13, some d, some (.lst (RW.map fun q => .lst ((outs wk [] q).map pD))), b16, none, none, none], fun _ _ _ _ => True.intro, ⟨b16, rfl⟩, ?_, ?_⟩
    · rintro k d2 σ' N' hk ⟨b16, rfl⟩
      obtain ⟨k', hk', rfl⟩ := map_at hk
      have hkk : k' = k := by
        obtain ⟨h1, h2⟩ := List.getElem?_eq_some_iff.mp hk'
        rw [List.getElem_range] at h2; exact h2.symm
      subst hkk
      have hkl : k' < RW.length := by
        have := (List.getElem?_eq_some_iff.mp hk').1
        simpa using this
      have ok0 := okDs_row (outs_ok wt RW[k'] [])
      refine g_name ?_
      repeat walk_at "t3"
      refine r3_ix_l .fz (at3 (j := k') rfl (v := .lst ((outs wk [] RW[k']).map pD)) (by rw [List.getElem?_map, List.getElem?_eq_getElem hkl]; rfl)) ?_
      repeat walk_at "t3"
      refine r3_ix_l .fz (at3 (j := k') rfl (v := rD RW[k']) (by rw [List.getElem?_map, List.getElem?_eq_getElem hkl]; rfl)) ?_
      repeat walk_at "t3"
      refine ⟨wk, RW[k'], rfl, hb, by rw [hRW]; exact List.getElem_mem hkl, ?_⟩
      repeat walk_at "t3"
      refine r3_neO (n := 1) (m := 1) .fz .fz ok0 ok0 ?_
      rw [eqvAll_me ok0]
      refine ⟨_, rfl, ?_⟩
      refine iteB (fun hc => by cases hc) (fun _ => ?_)
      refine s_next ?_
      exact ⟨_, rfl⟩
    · rintro σ' N' ⟨b16, rfl⟩
      exact ⟨_, _, _, _, rfl⟩
  rintro σ' N' ⟨b13, b14, b15, b16, rfl⟩
  repeat walk_at "t3"
  refine w_lcP (fun _ => true) (fun d => match d with | .int k => eD (wordS k.toNat, [Str.ofString "a", Str.ofString "b", Str.ofString "c"]) | d => d) own_name (i_rng1 ?_)
  repeat walk_at "t3"
  refine ⟨by decide, by decide, by decide, True.intro, fun i d M' hi _ => ?_, ?_⟩
  · obtain ⟨i', h1, rfl⟩ := map_at hi
    have hi8 : i' < 8 := by
      have := List.mem_range.mp (List.mem_of_getElem? h1)
      simpa using this
    refine g_name ?_
    refine ⟨rfl, ?_⟩
    repeat walk_at "t3"
    refine ⟨rfl, rfl, fun _ => ?_⟩
    repeat walk_at "t3"
    refine ⟨i', rfl, by omega, ?_⟩
    repeat walk_at "t3"
    refine w_lst ?_
    repeat walk_at "t3"
    exact ⟨rfl, rfl⟩
  have eG : ((List.range (8 : Int).toNat).map (fun (i : Nat) => D.int (i : Int))).filter (fun _ => true) = (List.range 8).map (fun (i : Nat) => D.int (i : Int)) := List.filter_eq_self.mpr fun _ _ => rfl
  rw [eG, List.map_map]
  have eG2 : (List.range 8).map ((fun d => match d with | .int k => eD (wordS k.toNat, [Str.ofString "a", Str.ofString "b", Str.ofString "c"]) | d => d) ∘ fun (i : Nat) => D.int (i : Int)) = GR.map eD := by
    unfold GR
    rw [List.map_map]; rfl
  rw [eG2]
  repeat walk_at "t3"
  refine w_lstO ?_
  repeat walk_at "t3"
  intro p8 hp8
  repeat walk_at "t3"
  refine s_for (i_list (w_var rfl ?_))
  refine ⟨_, rfl, fun i σ' N => ∃ b10 b19, N p8 = some (.lst ((flatW (GR.take i)).map pD)) ∧ σ' = [some (.ref sa), some (.ref a), some (.lst (wk.map eD)), some (.int (left : Nat)), some (.int (many : Nat)), some (.lst (ns.map .str)), some (.lst (ts.map .str)), b7, b8, b9, b10, some (.lst (wk.map eD)), some (.lst (RW.map rD)), b13, b14, b15, b16, some (.lst (GR.map eD)), some (.ref p8), b19], fun _ _ _ _ => True.intro, ⟨none, none, mput_same, rfl⟩, ?_, ?_⟩
  · rintro i d σ' N hi ⟨b10, b19, hN, rfl⟩
    obtain ⟨x, hx, rfl⟩ := map_at hi
    have hx3 := GR_ok.pots x (List.mem_of_getElem? hx)
    have hf : (flatW (GR.take i)).length ≤ 24 := by
      rw [flat_len]
      have h1 : wlen (GR.take i) + wlen (GR.drop i) = wlen GR := by rw [← wlen_app, List.take_append_drop]
      rw [GR_len] at h1
      omega
    refine g_name ?_
    repeat walk_at "t3"
    refine ⟨.lo hN, ?_⟩
    repeat walk_at "t3"
    refine w_lcP (fun _ => true) (fun d => match d with | .str y => pD (x.1, y) | d => d) own_name (i_list ?_)
    repeat walk_at "t3"
    refine r3_ix_t (at3 (j := 1) rfl (v := .lst (x.2.map D.str)) rfl) ?_
    refine ⟨_, rfl, by rw [List.length_map]; omega, True.intro, fun i d M' hi2 _ => ?_, ?_⟩
    · obtain ⟨y, hy, rfl⟩ := map_at hi2
      refine g_name ?_
      refine ⟨rfl, ?_⟩
      repeat walk_at "t3"
      refine ⟨rfl, rfl, fun _ => ?_⟩
      repeat walk_at "t3"
      refine r3_ix_t (at3 (j := 0) rfl (v := .str x.1) rfl) ?_
      repeat walk_at "t3"
      exact ⟨rfl, rfl⟩
    have ex : ((x.2.map D.str).filter fun _ => true).map (fun d => match d with | .str y => pD (x.1, y) | d => d) = (x.2.map fun y => (x.1, y)).map pD := by
      rw [List.filter_eq_self.mpr fun _ _ => rfl, List.map_map, List.map_map]; rfl
    rw [ex]
    repeat walk_at "t3"
    refine m3_extend hN .fz (by rw [List.length_map, List.length_map, List.length_map]; omega) ?_
    refine ⟨_, _, mput_same.trans ?_, rfl⟩
    rw [List.take_add_one, hx]
    show _ = some (DO.lst ((flatW (GR.take i ++ [x])).map pD))
    unfold flatW
    rw [List.flatMap_append, List.flatMap_singleton, List.map_append]
  rintro σ' N ⟨b10, b19, hN, rfl⟩
  rw [List.length_map, List.take_length] at hN
  show W3s B _ _ [some (.ref sa), some (.ref a), some (.lst (wk.map eD)), some (.int (left : Nat)), some (.int (many : Nat)), some (.lst (ns.map .str)), some (.lst (ts.map .str)), b7, b8, b9, b10, some (.lst (wk.map eD)), some (.lst (RW.map rD)), b13, b14, b15, b16, some (.lst (GR.map eD)), some (.ref p8), b19] _
  refine s_vs (vss_lst 18 rfl hN) ?_
  generalize mdel N p8 = N30
  show W3s B _ _ [some (.ref sa), some (.ref a), some (.lst (wk.map eD)), some (.int (left : Nat)), some (.int (many : Nat)), some (.lst (ns.map .str)), some (.lst (ts.map .str)), b7, b8, b9, b10, some (.lst (wk.map eD)), some (.lst (RW.map rD)), b13, b14, b15, b16, some (.lst (GR.map eD)), some (.lst ((flatW GR).map pD)), b19] N30
  refine s_seqM (fun _ _ => False) (s_forG ?_) fun _ _ z => z.elim
  repeat walk_at "t3"
  have okf := okDs_row (flat_ok GR_t)
  obtain ⟨rt, hrt⟩ := head_rows (wlen GR) GR rfl
  refine ⟨.lst (GR.map eD), GR, rfl, .fz, GR_ok, by rw [GR_len]; exact Nat.le_refl _, fun rs σ' N => rs = rowsN (wlen GR) GR ∧ σ' = [some (.ref sa), some (.ref a), some (.lst (wk.map eD)), some (.int (left : Nat)), some (.int (many : Nat)), some (.lst (ns.map .str)), some (.lst (ts.map .str)), b7, b8, b9, b10, some (.lst (wk.map eD)), some (.lst (RW.map rD)), b13, b14, b15, b16, some (.lst (GR.map eD)), some (.lst ((flatW GR).map pD)), b19], ⟨rfl, rfl⟩, fun σ' M' ⟨e, _⟩ => (by rw [hrt] at e; cases e), ?_⟩
  rintro r rs σ' N' ⟨er, rfl⟩ pr hpr
  rw [hrt] at er
  obtain ⟨er1, er2⟩ := List.cons.inj er
  subst er1
  refine g_name ?_
  repeat walk_at "t3"
  refine r3_eqO (n := 1) (m := 1) (.ow mput_same) .fz okf okf ?_
  rw [eqvAll_me okf]
  exact q _
end
end LW
set_option Elab.async false
set_option linter.all false
set_option maxRecDepth 100000
set_option maxHeartbeats 4000000
namespace LW
open PySem L2 T3
open Evl (Ex)
section
theorem kit_own2 {K : PySem.W.Frag} {C D : Addr} {cd : ClassData} {b : Bool} (h1 : PySem.W.clsIn K D = some cd) (h2 : PySem.W.typeIn K (.ref D) = some (.type "type")) (h3 : PySem.W.subIn K (.ref C) (.ref D) = some b) (h4 : PySem.W.subIn K (.ref C) (.ref C) = some true) : PySem.W.kitOne K (.ref C) (.ref D) = some b := by
  unfold PySem.W.kitOne
  split
  · rename_i e
    have e : (Value.ref C) = .ref D := by simpa using e
    cases e
    rw [h4] at h3
    exact h3
  · show PySem.W.kitCls K (.ref C) (.ref D) = _
    unfold PySem.W.kitCls
    dsimp only
    rw [h1, h2]
    simpa using h3
theorem kit_tyO {K : PySem.W.Frag} {T : String} {D : Addr} {cd : ClassData} {b : Bool} (h1 : PySem.W.clsIn K D = some cd) (h2 : PySem.W.typeIn K (.ref D) = some (.type "type")) (h3 : PySem.W.subIn K (.type T) (.ref D) = some b) : PySem.W.kitOne K (.type T) (.ref D) = some b := by
  unfold PySem.W.kitOne
  split
  · rename_i e
    have e : (Value.type T) = .ref D := by simpa using e
    cases e
  · show PySem.W.kitCls K (.type T) (.ref D) = _
    unfold PySem.W.kitCls
    dsimp only
    rw [h1, h2]
    simpa using h3
theorem kit_ve {K : PySem.W.Frag} {C : Addr} (hm : PySem.W.kitMeta "ValueError" = true) (h : PySem.W.subIn K (.ref C) (.type "ValueError") = some true) : PySem.W.kitOne K (.ref C) (.type "ValueError") = some true := by
  unfold PySem.W.kitOne
  split
  · rfl
  · show PySem.W.kitCls K (.ref C) (.type "ValueError") = _
    unfold PySem.W.kitCls
    simp only [hm, if_true]
    exact h
theorem exm_own2 {K : PySem.W.Frag} {C D : Addr} {cd : ClassData} {b : Bool} (hB : PySem.W.subIn K (.ref D) (.type "BaseException") = some true) (h1 : PySem.W.clsIn K D = some cd) (h2 : PySem.W.typeIn K (.ref D) = some (.type "type")) (h3 : PySem.W.subIn K (.ref C) (.ref D) = some b) : PySem.W.exmOne K (.ref C) (.ref D) = some b := by
  unfold PySem.W.exmOne
  rw [hB]
  show (if (some true == some true) = true then PySem.W.kitCls K (.ref C) (.ref D) else none) = _
  rw [if_pos (by rfl)]
  unfold PySem.W.kitCls
  dsimp only
  rw [h1, h2]
  simpa using h3
theorem all_mk {l : PySem.W.OpenLaw} {w : World} {K : PySem.W.Frag} {h : Heap} {mg : Str → Option Value} {fa : Addr} (X : K.In h) (G : h.Ns mainGlobals mg) (hfa : mg "law" = some (.ref fa))
    {f_every_row : Addr} {oc_every_row kV_every_row dc_every_row pm_every_row cd_every_row ct_every_row : Value} {od_every_row an_every_row : Option Addr} {sl_every_row : Array (Option Value)}
    {f_source : Addr} {oc_source kV_source dc_source pm_source cd_source ct_source : Value} {od_source an_source : Option Addr} {sl_source : Array (Option Value)}
    {f_draw : Addr} {oc_draw kV_draw dc_draw pm_draw cd_draw ct_draw : Value} {od_draw an_draw : Option Addr} {sl_draw : Array (Option Value)}
    {f_word : Addr} {oc_word kV_word dc_word pm_word cd_word ct_word : Value} {od_word an_word : Option Addr} {sl_word : Array (Option Value)}
    {f_name : Addr} {oc_name kV_name dc_name pm_name cd_name ct_name : Value} {od_name an_name : Option Addr} {sl_name : Array (Option Value)}
    {f_names : Addr} {oc_names kV_names dc_names pm_names cd_names ct_names : Value} {od_names an_names : Option Addr} {sl_names : Array (Option Value)}
    {f_all : Addr} {oc_all kV_all dc_all pm_all cd_all ct_all : Value} {od_all an_all : Option Addr} {sl_all : Array (Option Value)}
    {f_row : Addr} {oc_row kV_row dc_row pm_row cd_row ct_row : Value} {od_row an_row : Option Addr} {sl_row : Array (Option Value)}
    {f_law : Addr} {oc_law kV_law dc_law pm_law cd_law ct_law : Value} {od_law an_law : Option Addr} {sl_law : Array (Option Value)}
    (a_every_row : PySem.W.nsIn K mainGlobals "every_row" = some (some (.ref f_every_row)))
    (l_every_row : K.lookup f_every_row = some ⟨oc_every_row, od_every_row, .func (PySem.W.fnOf "every_row" "every_row" (defArgs s_every_row) (defBody s_every_row) (defScope s_every_row) .none kV_every_row dc_every_row pm_every_row an_every_row cd_every_row ct_every_row), sl_every_row⟩)
    (c_every_row : PySem.W.codeIn K cd_every_row "every_row" = true)
    (k_every_row : PySem.W.keepIn K (.ref f_every_row) = true)
    (a_source : PySem.W.nsIn K mainGlobals "_law_source" = some (some (.ref f_source)))
    (l_source : K.lookup f_source = some ⟨oc_source, od_source, .func (PySem.W.fnOf "_law_source" "_law_source" (defArgs s_source) (defBody s_source) (defScope s_source) .none kV_source dc_source pm_source an_source cd_source ct_source), sl_source⟩)
    (c_source : PySem.W.codeIn K cd_source "_law_source" = true)
    (k_source : PySem.W.keepIn K (.ref f_source) = true)
    (a_draw : PySem.W.nsIn K mainGlobals "_law_draw" = some (some (.ref f_draw)))
    (l_draw : K.lookup f_draw = some ⟨oc_draw, od_draw, .func (PySem.W.fnOf "_law_draw" "_law_draw" (defArgs s_draw) (defBody s_draw) (defScope s_draw) .none kV_draw dc_draw pm_draw an_draw cd_draw ct_draw), sl_draw⟩)
    (c_draw : PySem.W.codeIn K cd_draw "_law_draw" = true)
    (k_draw : PySem.W.keepIn K (.ref f_draw) = true)
    (a_word : PySem.W.nsIn K mainGlobals "_law_word" = some (some (.ref f_word)))
    (l_word : K.lookup f_word = some ⟨oc_word, od_word, .func (PySem.W.fnOf "_law_word" "_law_word" (defArgs s_word) (defBody s_word) (defScope s_word) .none kV_word dc_word pm_word an_word cd_word ct_word), sl_word⟩)
    (c_word : PySem.W.codeIn K cd_word "_law_word" = true)
    (k_word : PySem.W.keepIn K (.ref f_word) = true)
    (a_name : PySem.W.nsIn K mainGlobals "_law_name" = some (some (.ref f_name)))
    (l_name : K.lookup f_name = some ⟨oc_name, od_name, .func (PySem.W.fnOf "_law_name" "_law_name" (defArgs s_name) (defBody s_name) (defScope s_name) .none kV_name dc_name pm_name an_name cd_name ct_name), sl_name⟩)
    (c_name : PySem.W.codeIn K cd_name "_law_name" = true)
    (k_name : PySem.W.keepIn K (.ref f_name) = true)
    (a_names : PySem.W.nsIn K mainGlobals "_law_names" = some (some (.ref f_names)))
    (l_names : K.lookup f_names = some ⟨oc_names, od_names, .func (PySem.W.fnOf "_law_names" "_law_names" (defArgs s_names) (defBody s_names) (defScope s_names) .none kV_names dc_names pm_names an_names cd_names ct_names), sl_names⟩)
    (c_names : PySem.W.codeIn K cd_names "_law_names" = true)
    (k_names : PySem.W.keepIn K (.ref f_names) = true)
    (a_all : PySem.W.nsIn K mainGlobals "_law_all" = some (some (.ref f_all)))
    (l_all : K.lookup f_all = some ⟨oc_all, od_all, .func (PySem.W.fnOf "_law_all" "_law_all" (defArgs s_all) (defBody s_all) (defScope s_all) .none kV_all dc_all pm_all an_all cd_all ct_all), sl_all⟩)
    (c_all : PySem.W.codeIn K cd_all "_law_all" = true)
    (k_all : PySem.W.keepIn K (.ref f_all) = true)
    (a_row : PySem.W.nsIn K mainGlobals "_law_row" = some (some (.ref f_row)))
    (l_row : K.lookup f_row = some ⟨oc_row, od_row, .func (PySem.W.fnOf "_law_row" "_law_row" (defArgs s_row) (defBody s_row) (defScope s_row) .none kV_row dc_row pm_row an_row cd_row ct_row), sl_row⟩)
    (c_row : PySem.W.codeIn K cd_row "_law_row" = true)
    (k_row : PySem.W.keepIn K (.ref f_row) = true)
    (a_law : PySem.W.nsIn K mainGlobals "law" = some (some (.ref f_law)))
    (l_law : K.lookup f_law = some ⟨oc_law, od_law, .func (PySem.W.fnOf "law" "law" (defArgs s_law) (defBody s_law) (defScope s_law) .none kV_law dc_law pm_law an_law cd_law ct_law), sl_law⟩)
    (c_law : PySem.W.codeIn K cd_law "law" = true)
    (k_law : PySem.W.keepIn K (.ref f_law) = true)
    (n_len : PySem.W.nsIn K mainGlobals "len" = some none)
    (n_list : PySem.W.nsIn K mainGlobals "list" = some none)
    (n_enumerate : PySem.W.nsIn K mainGlobals "enumerate" = some none)
    (n_int : PySem.W.nsIn K mainGlobals "int" = some none)
    (n_abs : PySem.W.nsIn K mainGlobals "abs" = some none)
    (n_range : PySem.W.nsIn K mainGlobals "range" = some none)
    (n_sum : PySem.W.nsIn K mainGlobals "sum" = some none)
    (n_isinstance : PySem.W.nsIn K mainGlobals "isinstance" = some none) :
    ∃ fd : FuncData, (∀ (s : Shared) (v : Value), BindsTo s fd ⟨[v], []⟩ [("_law_script", v)]) ∧ ∀ base : Heap, K.In base → base.Ns mainGlobals mg → FnOk l.prog w K mg base CX0 60 fa fd ["_law_script"] (lift3B (S_law K)) := by
  have e := hfa.symm.trans (PySem.W.mg_of X G a_law)
  obtain rfl : f_law = fa := by cases e; rfl
  have F_every_row := fun_mk (st := s_every_row) l_every_row c_every_row k_every_row
  have F_source := fun_mk (st := s_source) l_source c_source k_source
  have F_draw := fun_mk (st := s_draw) l_draw c_draw k_draw
  have F_word := fun_mk (st := s_word) l_word c_word k_word
  have F_name := fun_mk (st := s_name) l_name c_name k_name
  have F_names := fun_mk (st := s_names) l_names c_names k_names
  have F_all := fun_mk (st := s_all) l_all c_all k_all
  have F_row := fun_mk (st := s_row) l_row c_row k_row
  have F_law := fun_mk (st := s_law) l_law c_law k_law
  have b_every_row := F_every_row.binds (ps := ["work"]) fun _ _ _ _ _ _ us hl => match us, hl with | [_], _ => rfl
  have b_draw := F_draw.binds (ps := ["_law_source_here", "_law_many"]) fun _ _ _ _ _ _ us hl => match us, hl with | [_, _], _ => rfl
  have b_word := F_word.binds (ps := ["_law_number"]) fun _ _ _ _ _ _ us hl => match us, hl with | [_], _ => rfl
  have b_name := F_name.binds (ps := ["_law_source_here", "_law_k"]) fun _ _ _ _ _ _ us hl => match us, hl with | [_, _], _ => rfl
  have b_source := F_source.binds (ps := ["_law_script"]) fun _ _ _ _ _ _ us hl => match us, hl with | [_], _ => rfl
  have b_names := F_names.binds (ps := ["_law_source_here", "_law_many"]) fun _ _ _ _ _ _ us hl => match us, hl with | [_, _], _ => rfl
  have b_all := F_all.binds (ps := ["_law_work"]) fun _ _ _ _ _ _ us hl => match us, hl with | [_], _ => rfl
  have b_row := F_row.binds (ps := ["_law_work", "_law_places"]) fun _ _ _ _ _ _ us hl => match us, hl with | [_, _], _ => rfl
  let A0 : Adr := { f_every_row := f_every_row, d_every_row := PySem.W.fnOf "every_row" "every_row" (defArgs s_every_row) (defBody s_every_row) (defScope s_every_row) .none kV_every_row dc_every_row pm_every_row an_every_row cd_every_row ct_every_row, f_source := f_source, d_source := PySem.W.fnOf "_law_source" "_law_source" (defArgs s_source) (defBody s_source) (defScope s_source) .none kV_source dc_source pm_source an_source cd_source ct_source, f_draw := f_draw, d_draw := PySem.W.fnOf "_law_draw" "_law_draw" (defArgs s_draw) (defBody s_draw) (defScope s_draw) .none kV_draw dc_draw pm_draw an_draw cd_draw ct_draw, f_word := f_word, d_word := PySem.W.fnOf "_law_word" "_law_word" (defArgs s_word) (defBody s_word) (defScope s_word) .none kV_word dc_word pm_word an_word cd_word ct_word, f_name := f_name, d_name := PySem.W.fnOf "_law_name" "_law_name" (defArgs s_name) (defBody s_name) (defScope s_name) .none kV_name dc_name pm_name an_name cd_name ct_name, f_names := f_names, d_names := PySem.W.fnOf "_law_names" "_law_names" (defArgs s_names) (defBody s_names) (defScope s_names) .none kV_names dc_names pm_names an_names cd_names ct_names, f_all := f_all, d_all := PySem.W.fnOf "_law_all" "_law_all" (defArgs s_all) (defBody s_all) (defScope s_all) .none kV_all dc_all pm_all an_all cd_all ct_all, f_row := f_row, d_row := PySem.W.fnOf "_law_row" "_law_row" (defArgs s_row) (defBody s_row) (defScope s_row) .none kV_row dc_row pm_row an_row cd_row ct_row, f_law := f_law, d_law := PySem.W.fnOf "law" "law" (defArgs s_law) (defBody s_law) (defScope s_law) .none kV_law dc_law pm_law an_law cd_law ct_law, f_dyeInit := 0 }
  have T : Tx l.prog K mg A0 := {
    F_every_row := F_every_row
    F_source := F_source
    F_draw := F_draw
    F_word := F_word
    F_name := F_name
    F_names := F_names
    F_all := F_all
    F_row := F_row
    F_law := F_law
    n_len := PySem.W.mg_none_of X G n_len
    n_list := PySem.W.mg_none_of X G n_list
    n_enumerate := PySem.W.mg_none_of X G n_enumerate
    g_every_row := PySem.W.mg_of X G a_every_row
    k_every_row := k_every_row
    b_every_row := b_every_row
    n_int := PySem.W.mg_none_of X G n_int
    n_abs := PySem.W.mg_none_of X G n_abs
    n_range := PySem.W.mg_none_of X G n_range
    g_draw := PySem.W.mg_of X G a_draw
    k_draw := k_draw
    b_draw := b_draw
    g_word := PySem.W.mg_of X G a_word
    k_word := k_word
    b_word := b_word
    g_name := PySem.W.mg_of X G a_name
    k_name := k_name
    b_name := b_name
    n_sum := PySem.W.mg_none_of X G n_sum
    g_source := PySem.W.mg_of X G a_source
    k_source := k_source
    b_source := b_source
    g_names := PySem.W.mg_of X G a_names
    k_names := k_names
    b_names := b_names
    g_all := PySem.W.mg_of X G a_all
    k_all := k_all
    b_all := b_all
    g_row := PySem.W.mg_of X G a_row
    k_row := k_row
    b_row := b_row
    n_isinstance := PySem.W.mg_none_of X G n_isinstance
    kit_ll := kit_ty rfl
    kit_ii := kit_ty rfl
    kit_ss := kit_ty rfl
    kit_tt := kit_ty rfl }
  exact ⟨PySem.W.fnOf "law" "law" (defArgs s_law) (defBody s_law) (defScope s_law) .none kV_law dc_law pm_law an_law cd_law ct_law, fun s v => .of_eq rfl, fun base _ _ => ok_law T⟩

theorem walk {l : PySem.W.OpenLaw} {q : Program} {loose : List Str} {XP : (Str → Option Value) → Heap → Prop} {YP : World → Heap → Prop} {d : DefRec} {K : Params → PySem.W.Frag} (hn : l.most = some 63) (hdf : d.params.defaults = [])
    (hY : ∀ (w : World) (h : Heap), YP w h → (K w.params).In h)
    (F : ∀ (w : World) (mg : Str → Option Value) (fa : Addr) (h : Heap), (K w.params).In h → h.Ns mainGlobals mg → mg d.name = some (.ref fa) →
      ∃ fd : FuncData, (∀ (s : Shared) (u : Value), BindsTo s fd ⟨[u], []⟩ [("_law_script", u)]) ∧ ∀ base : Heap, (K w.params).In base → base.Ns mainGlobals mg → FnOk l.prog w (K w.params) mg base CX0 60 fa fd ["_law_script"] (lift3B (S_law (K w.params)))) :
    PySem.W.WalkO q loose XP YP l.row.toRowW d [] (fun f vs => PySem.call f vs) :=
  L2.walk_of (n := 63) (k := 60) (x := "_law_script") (CX := fun _ => CX0) (sp := fun w => lift3B (S_law (K w.params))) hn (by decide) hdf ⟨rfl, by decide, by decide⟩ hY F
    (fun w H a ns hl _ hS => ⟨[.ref a], H, fun _ => none, fun d _ => d = .bl true, fun _ _ _ => False, ⟨_, _, rfl, rfl, rfl⟩, ⟨Ex.refl _, fun a o h => (by cases h)⟩, fun F' M' d v H' _ _ r e => (by subst e; exact r), fun _ _ _ _ _ _ _ _ _ _ _ h => h.elim, a, ns, rfl, hS, hl, rfl, fun _ => rfl⟩) fun _ _ _ _ _ z => z
end
end LW
set_option pp.maxSteps 200
set_option pp.proofs false
open PySem PySem.W PyProof.Rows
set_option maxRecDepth 100000 in
set_option maxHeartbeats 0 in
theorem PySem.Challenge.cw_tiredpots_k35_every_row_once_holds : PySem.Challenge.rw_tiredpots_k35_every_row_once.Holds := by
  w_on; o_law; k_head; (case hw => w_witness2)
  k_fill
  refine LW.walk (l := PySem.Challenge.rw_tiredpots_k35_every_row_once) rfl rfl (fun w h Y => PySem.W.kIn_of Y) ?F
  case F =>
    intro w mg fa h KX G hmg
    refine' LW.all_mk KX G hmg ?a_every_row ?l_every_row ?c_every_row ?k_every_row ?a_source ?l_source ?c_source ?k_source ?a_draw ?l_draw ?c_draw ?k_draw ?a_word ?l_word ?c_word ?k_word ?a_name ?l_name ?c_name ?k_name ?a_names ?l_names ?c_names ?k_names ?a_all ?l_all ?c_all ?k_all ?a_row ?l_row ?c_row ?k_row ?a_law ?l_law ?c_law ?k_law ?n_len ?n_list ?n_enumerate ?n_int ?n_abs ?n_range ?n_sum ?n_isinstance
    (case a_every_row => k_is)
    (case l_every_row => k_is)
    (case c_every_row => k_is)
    (case k_every_row => k_is)
    (case a_source => k_is)
    (case l_source => k_is)
    (case c_source => k_is)
    (case k_source => k_is)
    (case a_draw => k_is)
    (case l_draw => k_is)
    (case c_draw => k_is)
    (case k_draw => k_is)
    (case a_word => k_is)
    (case l_word => k_is)
    (case c_word => k_is)
    (case k_word => k_is)
    (case a_name => k_is)
    (case l_name => k_is)
    (case c_name => k_is)
    (case k_name => k_is)
    (case a_names => k_is)
    (case l_names => k_is)
    (case c_names => k_is)
    (case k_names => k_is)
    (case a_all => k_is)
    (case l_all => k_is)
    (case c_all => k_is)
    (case k_all => k_is)
    (case a_row => k_is)
    (case l_row => k_is)
    (case c_row => k_is)
    (case k_row => k_is)
    (case a_law => k_is)
    (case l_law => k_is)
    (case c_law => k_is)
    (case k_law => k_is)
    (case n_len => k_is)
    (case n_list => k_is)
    (case n_enumerate => k_is)
    (case n_int => k_is)
    (case n_abs => k_is)
    (case n_range => k_is)
    (case n_sum => k_is)
    (case n_isinstance => k_is)
