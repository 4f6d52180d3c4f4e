import PyProof.Rows.All
import Wide.All
import OpenK.AllK
import Wide.FinOn
import HandS.ForExc
import HandS.ExcIs
import HandS.TryMany
import KE.KExcSuper
import HandS.Defaults
import HandS.HeadWalk
import KE.KExcIs
import HandS.ForMost
import HandS.Evl
import HandS.Walk
import HandS.Deep
import HandS.IsInst
import HandS.Wide
import HandS.SetKeys
import HandS.ExcOwn
import KE.DataFind
import HandS.ExcField
import HandS.Style
import PySem.Challenge.RW_tiredpots_k36_rank_row
import HandS.EndBits
import KE.RegKSuper
set_option Elab.async false
set_option linter.all false
set_option maxRecDepth 100000
set_option maxHeartbeats 2000000
namespace L2
open PySem PySem.Spec PyProof.Rows
/-! ### defs called where an exception is handled -/
structure RoomW (k : Nat) (A : Around) : Prop where
  dp : A.depth + 3 * k + 5 < recursionLimit
  un : A.units + 16 * k + 200 < cLine
theorem RoomW.mono {j k : Nat} {A : Around} (r : RoomW k A) (h : j ≤ k) : RoomW j A := ⟨by have := r.dp; omega, by have := r.un; omega⟩
theorem RoomW.deeper {k : Nat} {A : Around} (r : RoomW (k + 1) A) (env : Env) : RoomW k (A.deeper env) :=
  ⟨by have := r.dp; show A.depth + 1 + 3 * k + 5 < _; omega, by have := r.un; show A.units + 3 + 16 * k + 200 < _; omega⟩
theorem RoomW.depth {k : Nat} {A : Around} (r : RoomW k A) : A.depth < recursionLimit := by have := r.dp; omega
theorem RoomW.units {k : Nat} {A : Around} (r : RoomW k A) : A.units + 65 < cLine := by have := r.un; omega
theorem roomW_of {k : Nat} {A : Around} (r : Room k A) (o : Option Value) : RoomW k (A.mark o) := ⟨r.dp, r.un⟩
structure FnW (P : Program) (w : World) (K : PySem.W.Frag) (mg : Str → Option Value) (base : Heap) (CX : CXT) (k : Nat) (f : Addr) (fd : FuncData) (ps : List Str) (sp : Sp) : Prop where
  len : ∀ vs H Q E, sp vs H Q E → vs.length = ps.length
  run : ∀ (A : Around) (outer : List Env) (s : Shared) (H : Hp) (args : Args) (us : List Value) (vs : List V) (Q : VK) (E : XK), RoomW k A → Env0 P w K mg base A outer s H → BindsTo s fd args (ps.zip us) → Vals vs us → sp vs H Q E →
    codeAny (model P w) A (.call (.ref f) args) (CR CX outer P w H s Q E) s
def cxW (CX : CXT) (P : Program) (w : World) (K : PySem.W.Frag) (mg : Str → Option Value) (base : Heap) (N : List Str) (qual : Str) (scope : Scope) (f : Addr) (cd : Value) (A : Around) (outer : List Env) (s : Shared) (H : Hp) (E : XK) : Cx :=
  { cxOf CX P w K mg base N qual scope f cd A outer s H E with calm := false }
theorem inv_startW {CX : CXT} {P : Program} {w : World} {K : PySem.W.Frag} {mg : Str → Option Value} {base : Heap} {N ps : List Str} {qual : Str} {scope : Scope} {f : Addr} {cd : Value} {A : Around} {outer : List Env} {s s1 : Shared} {H : Hp} {E : XK} {us : List Value} {vs : List V}
    (S : FnScope N ps scope) (e0 : Env0 P w K mg base A outer s H) (hl : vs.length = ps.length) (r : Vals vs us)
    (x : InCallC s s.heap.objs.size (bindL (envOfC qual scope s.heap.objs.size f cd).kindOf (ps.zip us) fun _ => none) (cellsFrom (s.heap.objs.size + 1) scope.names []) (bindC (envOfC qual scope s.heap.objs.size f cd).kindOf (ps.zip us) fun _ => none) s1) :
    Inv (cxW CX P w K mg base N qual scope f cd A outer s H E) [] (start N vs) H s1 := by
  have hpl : ps.length ≤ N.length := by have := congrArg List.length S.pre; rw [List.length_take] at this; omega
  obtain ⟨h1, tk, rfl, hk⟩ := x.done
  have noA : ∀ b : Addr, b ∉ (cxW CX P w K mg base N qual scope f cd A outer s H E).ex := fun b z => absurd (show b ∈ ([] : List Addr) from z) (by simp)
  refine ⟨⟨e0.mod, S.kind, rfl, rfl, Nat.le_refl _, fun y z c h1 h2 => ?_, fun y hy => ?_, fun y c _ h => ?_, (fun z => Bool.noConfusion (show false = true from z)), Around.frames_deeper e0.frames, .inr ⟨rfl, rfl⟩, fun b z => absurd z (noA b), e0.bs, e0.bsz, fun b _ _ => noA b, fun b z => absurd z (noA b), e0.funs, e0.frf⟩,
    rfl, e0.bare, Un.kept hk, ⟨_, x.toInCall.ns, fun i y v h1 h2 h3 => ?_⟩, fun y c h => ⟨_, x.cell y c h⟩, e0.hok.fresh (Nat.le_refl _), fun y c h => ?_, fun p hp => absurd (show p ∈ ([] : List (Addr × Obj)) from hp) (by simp), e0.hok.kept hk, ?_⟩
  · exact name_of_addr x.apart (PySem.mem_of_lookup h1) (PySem.mem_of_lookup h2)
  · have hy : scope.names.lookup y = some .cell ∨ scope.names.lookup y = some .free := hy
    rcases hy with hy | hy
    · exact cell_has hy
    · exact absurd rfl (S.nofree _ (PySem.mem_of_lookup hy))
  · exact Nat.le_of_lt (x.above y c (PySem.mem_of_lookup h))
  · have hi : i < vs.length := by
      unfold start at h2
      by_cases hi : i < vs.length
      · exact hi
      · rw [List.getElem?_append_right (by simpa using hi)] at h2
        rw [List.getElem?_replicate] at h2
        split at h2 <;> cases h2
    have ha : vs[i]? = some v := by
      unfold start at h2
      rw [List.getElem?_append_left (by simpa using hi), List.getElem?_map] at h2
      cases e : vs[i]? with
      | none => rw [e] at h2; cases h2
      | some a => rw [e] at h2; cases h2; rfl
    obtain ⟨u, hu, rv⟩ := r.get ha
    have hp : ps[i]? = some y := by
      rw [← S.pre, List.getElem?_take_of_lt (by omega)]; exact h1
    have ndP : ps.Nodup := by rw [← S.pre]; exact S.nd.sublist (List.take_sublist _ _)
    refine ⟨u, rv, ?_⟩
    rcases S.par y (List.mem_of_getElem? hp) with k | k
    · exact .inl ⟨k, bindL_get ndP hp hu k⟩
    · obtain ⟨c, e⟩ := cell_has (n := s.heap.objs.size + 1) k
      refine .inr ⟨.inl k, c, e, ?_⟩
      have q := x.cell y c e
      rw [bindC_get ndP hp hu (by show scope.names.lookup y ≠ _; rw [k]; decide)] at q
      exact q
  · exact e0.hok.fresh (Nat.le_of_lt (x.above y c (PySem.mem_of_lookup h)))
  · unfold start
    show _ = N.length
    rw [List.length_append, List.length_map, List.length_replicate]
    omega

theorem fn_ofW {CX : CXT} {P : Program} {w : World} {K : PySem.W.Frag} {mg : Str → Option Value} {base : Heap} {k : Nat} {f : Addr} {name qual : Str} {params : Arguments} {body : List Stmt} {scope : Scope} {dV kV doc pm cdv ct oc : Value} {an od : Option Addr}
    {osl : Array (Option Value)} {N ps : List Str} {sp : Sp} (lk : K.lookup f = some ⟨oc, od, .func (PySem.W.fnOf name qual params body scope dV kV doc pm an cdv ct), osl⟩) (hcd : PySem.W.codeIn K cdv qual = true) (S : FnScope N ps scope)
    (len : ∀ vs H Q E, sp vs H Q E → vs.length = ps.length)
    (hbody : ∀ (A : Around) (outer : List Env) (s : Shared) (H : Hp) (vs : List V) (Q : VK) (E : XK), RoomW k (A.deeper (envOfC qual scope s.heap.objs.size f cdv)) → sp vs H Q E →
      ∃ t, PSs (cxW CX P w K mg base N qual scope f cdv A outer s H E) body t ∧ t { nx := fun _ H' => Q .non H', rt := Q } (start N vs) H) :
    FnW P w K mg base CX (k + 1) f (PySem.W.fnOf name qual params body scope dV kV doc pm an cdv ct) ps sp := by
  refine ⟨len, fun A outer s H args us vs Q E hr e0 hb r hsp => ?_⟩
  have hl := len _ _ _ _ hsp
  have KX : K.In s.heap := e0.mod.kin.keeps fun b o e => (e0.bs b o e).1
  have lim : s.heap.NoLimit := e0.mod.nolimit.keeps fun b o e => (e0.bs b o e).1
  have hkind : ∀ y ∈ ps.zip us, scope.names.lookup y.1 = some .local ∨ (scope.names.lookup y.1 = some .cell ∧ ((cellsFrom (s.heap.objs.size + 1) scope.names []).lookup y.1).isSome = true) := fun ⟨n, v⟩ hy => by
    rcases S.par n (List.of_mem_zip hy).1 with q | q
    · exact .inl q
    · exact .inr ⟨q, PySem.W.cellsFrom_some _ _ _ (.inl q)⟩
  refine codeAny_call_function hr.depth (KX _ _ lk) rfl S.co S.gen rfl (PySem.W.codeRec_of KX hcd) (hb _ _ _ _ ?_)
  refine wpAny_newFunctionEnv_cells S.kind hkind fun env he s1 x => ?_
  subst he
  refine ⟨lim.keeps x.toInCall.keep, codeAny_func ?_⟩
  obtain ⟨t, ht, hq⟩ := hbody A outer s H vs Q E (hr.deeper _) hsp
  have I : Inv (cxW CX P w K mg base N qual scope f cdv A outer s H E) [] (start N vs) H s1 := inv_startW S e0 hl r x
  refine wpAny_mono (ht.run [] s1 (start N vs) H _ I hq) (fun fl s' hs => ?_) fun e s' hs => hs
  have fin : ∀ {σ' : St} {H' : Hp} {v : V} {u : Value}, Inv (cxW CX P w K mg base N qual scope f cdv A outer s H E) [] σ' H' s' → RelV v u → Q v H' → CE outer P w H s Q u s' :=
    fun {σ' H' v u} J rv q => ⟨v, H', J.os, J.bare, J.base, J.hok, rv, q⟩
  cases fl with
  | ret u =>
    obtain ⟨v, σ', H', J, rv, q⟩ := hs
    exact fin J rv q
  | next =>
    obtain ⟨σ', H', J, q⟩ := hs
    exact fin (v := V.non) (u := Value.none) J rfl q
  | brk =>
    obtain ⟨_, _, _, q⟩ := hs
    exact False.elim q
  | cont =>
    obtain ⟨_, _, _, q⟩ := hs
    exact False.elim q
theorem Fun.okW {P : Program} {w : World} {K : PySem.W.Frag} {mg : Str → Option Value} {base : Heap} {x qual : Str} {st : Stmt} {f : Addr} {fd : FuncData} {N ps : List Str} {k : Nat} {sp : Sp} (F : Fun K x qual st f fd) (S : FnScope N ps (defScope st)) (len : ∀ vs H Q E, sp vs H Q E → vs.length = ps.length)
    (hbody : ∀ (cdv : Value) (A : Around) (outer : List Env) (s : Shared) (H : Hp) (vs : List V) (Q : VK) (E : XK), RoomW k (A.deeper (envOfC qual (defScope st) s.heap.objs.size f cdv)) → sp vs H Q E →
      ∃ t, PSs (cxW CX0 P w K mg base N qual (defScope st) f cdv A outer s H E).nox (defBody st) t ∧ t { nx := fun _ H' => Q .non H', rt := Q } (start N vs) H) : FnW P w K mg base CX0 (k + 1) f fd ps sp := by
  obtain ⟨oc, od, kV, doc, pm, an, cdv, ct, osl, rfl, lk, hcd⟩ := F.ex
  refine fn_ofW lk hcd S len fun A outer s H vs Q E hr hsp => ?_
  obtain ⟨t, h, q⟩ := hbody cdv A outer s H vs Q E hr hsp
  exact ⟨t, h.nox, q⟩
section
variable {X : Cx} {CX : CXT} {k : Nat} {f C : Addr} {fd : FuncData} {ps : List Str} {sp : Sp} {dvs : List V} {ds : List Value} {E : XK} {x m : Str} {p pos apos : Pos} {e o : Expr} {es : List Expr} {ta : TE} {t : TA}
theorem run_fnW {pins : List (Addr × Obj)} {σ : St} {H : Hp} {s : Shared} {Q : VK} {us : List Value} {vs : List V} (F : FnW X.prog X.w X.K X.mg X.base CX k f fd ps sp) (hr : RoomW k X.A) (hb : Binds X.K fd ps ds) (hd : Vals dvs ds) (hx : Passes CX X E)
    (I : Inv X pins σ H s) (r : Vals vs us) (h : sp (vs ++ dvs) H Q E) : wpAny (model X.prog X.w) X.A (call (.ref f) us) (EP X pins σ Q) X.xe s := by
  have r2 : Vals (vs ++ dvs) (us ++ ds) := r.append hd
  have hl : (us ++ ds).length = ps.length := by rw [← r2.length]; exact F.len _ _ _ _ h
  refine wpAny_call (codeAny_mono (F.run X.A X.stack s H ⟨us, []⟩ (us ++ ds) (vs ++ dvs) Q E hr I.env0 (hb s us I.kIn hl) r2 h) fun r s' hq => ?_)
  cases r with
  | error e => exact hx pins σ H s e s' I hq
  | ok fl =>
    cases fl with
    | ret u => exact I.after hq
    | next => exact False.elim hq
    | brk => exact False.elim hq
    | cont => exact False.elim hq
theorem pe_callW (F : FnW X.prog X.w X.K X.mg X.base CX k f fd ps sp) (hr : RoomW k X.A) (hg : Gl X x) (hm : X.mg x = some (.ref f)) (hk : PySem.W.keepIn X.K (.ref f) = true) (hb : Binds X.K fd ps ds) (hd : Vals dvs ds) (hx : Passes CX X E)
    (ha : PA X (e :: es) t) (hdb : (x == ("__debug__" : Str)) = false := by decide) (he : starEach (e :: es) X.env = (false, eval e X.env) :: starEach es X.env := by rfl) (hpl : (backTo pos (starEach es X.env)).any (·.1) = false := by rfl) :
    PE X (.Call (.Name x p) (e :: es) [] pos) (tCall sp dvs E t) := by
  refine ⟨fun pins s σ H Q I h => ?_⟩
  refine wpAny_Call_Name_kw (ld_glob I hg hm ?_ hdb)
  refine PySem.W.callWith_K (h₀ := X.base) I.ok.mod.kin hk (thn (ha.run pos pins s σ H _ I h) fun us s1 ⟨vs, H1, I1, r, q⟩ => ⟨I1.kIn, ?_⟩) he hpl
  exact run_fnW F hr hb hd hx I1 r q
end
end L2
set_option Elab.async false
set_option linter.all false
set_option maxRecDepth 100000
set_option maxHeartbeats 2000000
namespace PySem
namespace DyeX
open PySem.W PySem.Calls PyProof.Rows PySem.HandSPX
/-! ### the text of DyeError.__init__ -/
def iA (p1 p2 p3 p4 : Pos) (j : Nat) : Arguments := { posonlyargs := [], args := [{ arg := "self", annotation := none, pos := p1 }, { arg := "thing", annotation := none, pos := p2 }, { arg := "words", annotation := none, pos := p3 }], vararg := none, kwonlyargs := [], kw_defaults := [], kwarg := none, defaults := [(.Constant (.str "refused") j p4)] }
def iB (a1 a2 a3 a4 a5 a6 q1 q2 q3 q4 : Pos) : List Stmt := [.Expr (.Call (.Attribute (.Call (.Name "super" a1) [] [] a2) "__init__" a3) [.Name "words" a4] [] a5) a6, .Assign [.Attribute (.Name "self" q1) "thing" q2] (.Name "thing" q3) q4]
def iS : Scope := { kind := .function, names := [(PySem.Str.ofString "self", .local), (PySem.Str.ofString "thing", .local), (PySem.Str.ofString "words", .local), (PySem.Str.ofString "__class__", .free), (PySem.Str.ofString "super", .globalImplicit)], isGenerator := false, isCoroutine := false, more := [] }
/-- what the written part says of an own error at C (DyeError, or a class of it without more), of DyeError at D and its __init__ at fI -/
structure DyeTxt (prog : Program) (K : Frag) (D C fI : Addr) : Prop where
  cls : ∃ nm q N bs bm sn sub ab col dd k0 k1 k2 k3 k5, K.lookup C = some (excClassObj nm q C N bs bm true sn sub ab col dd k0 k1 k2 k3 k5 "ValueError.__new__") ∧ refsVE bm = true
  sa : findIn K (.ref C) "__setattr__" = some (some (.builtin "object.__setattr__"))
  noN : findIn K (.ref C) "thing" = some none
  iC : findIn K (.ref C) "__init__" = some (some (.ref fI))
  tC : typeIn K (.ref fI) = some (.type "function")
  kC : keepIn K (.ref C) = true
  exC : subIn K (.ref C) (.type "BaseException") = some true
  tyC : typeIn K (.ref C) = some (.type "type")
  q : excInitIn K C veTail "ValueError.__new__" = true
  hm : ks_superIn K C D "__init__" = some (some (.builtin "ValueError.__init__"))
  hB : subIn K (.ref C) (.type "ValueError") = some true
  hsub : mroIn K C (.ref D) = some true
  hsuper : nsIn K mainGlobals "super" = some none
  ho : nsIn K cStatics "thirdparty.any" = some none
  htop : (prog.main.scope.names.lookup ("super" : Str)).isSome = false
  fn : ∃ (dT : Addr) (dO : Obj) (dI : Value) (dN : Nat) (oc : Value) (od : Option Addr) (doc pm : Value) (an : Option Addr) (ct : Value) (cda cc : Addr) (osl : Array (Option Value)) (p1 p2 p3 p4 : Pos) (j : Nat) (a1 a2 a3 a4 a5 a6 q1 q2 q3 q4 : Pos)
      (ccl cl : Value) (cdd cld : Option Addr) (ccs csl : Array (Option Value)) (vs : Array Value) (file : Str) (tf : Tok) (cdD : ClassData),
    (a3.endLine == a5.line) = true ∧ K.lookup fI = some ⟨oc, od, .func (ksFn "__init__" "DyeError.__init__" (iA p1 p2 p3 p4 j) (iB a1 a2 a3 a4 a5 a6 q1 q2 q3 q4) iS (.ref dT) .none doc pm an (.ref cda) ct cc), osl⟩ ∧ K.lookup dT = some dO ∧ dO.data = .seq #[dI] dN ∧ codeIn K (.ref cda) "DyeError.__init__" = true ∧
    K.lookup cda = some ⟨ccl, cdd, .fields vs, ccs⟩ ∧ vs[2]? = some (.str file tf) ∧ ((prog.main.file : Str) == file) = true ∧ K.lookup cc = some ⟨cl, cld, .cell (some (.ref D)), csl⟩ ∧ clsIn K D = some cdD
/-- what __init__ leaves of a fresh exception at x -/
structure InitEnd (h h' : Heap) (x C dx t1 : Addr) (v : Value) : Prop where
  keep : ∀ b o, b ≠ x → h.get? b = some o → h'.get? b = some o
  obj : h'.get? x = some { cls := .ref C, dict := some dx, data := .fields #[.ref t1, .none, .none, .none, .bool false, .none] }
  dbig : h.objs.size ≤ dx
  dne : dx ≠ x
  ns : h'.Ns1 dx (fun y => if y = "thing" then some v else none)
structure OwnMade (h h' : Heap) (e C d : Addr) (v : Value) : Prop where
  keep : ∀ b o, h.get? b = some o → h'.get? b = some o
  new : h.objs.size ≤ e
  obj : ∃ oe vs, h'.get? e = some oe ∧ oe.cls = .ref C ∧ oe.dict = some d ∧ oe.data = .fields vs ∧ vs[1]? = some .none
  dbig : h.objs.size ≤ d
  dne : d ≠ e
  ns : h'.Ns1 d (fun y => if y = "thing" then some v else none)
theorem two_size (v u : Value) : [v, u].length ≤ sizeLine := by rw [sizeLine_eq]; exact (by decide : 2 ≤ 16777216)
theorem one_size (v : Value) : [v].length ≤ sizeLine := by rw [sizeLine_eq]; exact (by decide : 1 ≤ 16777216)
section
variable {prog : Program} {w : World} {A : Around} {E : Value → Shared → Prop} {R : Result → Shared → Prop} {s : Shared} {K : Frag} {mg mb : Str → Option Value} {D C fI : Addr}
theorem dye_init (T : DyeTxt prog K D C fI) {x t0 : Addr} {v u : Value} (X : K.In s.heap) (hlim : s.heap.NoLimit) (Gm : s.heap.Ns mainGlobals mg) (Gb : s.heap.Ns builtinsNs mb) (hb : ∀ y : Str, y ≠ "__name__" → mb y = bootBuiltins y)
    (hx : s.heap.get? x = some (excO C t0)) (hnx : K.lookup x = none) (hnm : x ≠ mainGlobals) (hnb : x ≠ builtinsNs) (hroom : A.depth < recursionLimit)
    (hq : ∀ h' tk dx t1, InitEnd s.heap h' x C dx t1 v → R (.ok (.ret .none)) { s with heap := h', toks := tk }) :
    codeAny (model prog w) A (.call (.ref fI) ⟨[.ref x, v, u], []⟩) R s := by
  obtain ⟨dT, dO, dI, dN, oc, od, doc, pm, an, ct, cda, cc, osl, p1, p2, p3, p4, j, a1, a2, a3, a4, a5, a6, q1, q2, q3, q4, ccl, cl, cdd, cld, ccs, csl, vs, file, tf, cdD, hline, hfI, hdT, hdO, hcd, hcda, hvs, hfile, hcc, hD⟩ := T.fn
  obtain ⟨nm, q, N, bs, bm, sn, sub, ab, col, dd, k0, k1, k2, k3, k5, hC, hbm⟩ := T.cls
  have hcl : clsIn K C = some { name := nm, bases := bs, mro := .ref C :: bm, ns := N, qualname := q, hasDict := true, slotNames := sn, subclasses := sub, abstract := ab, collection := col, hasDel := false } := by unfold clsIn; rw [hC] <;> rfl
  -- the ground: the heap without x
  have Xg : K.In (hideAll s.heap [x]) := fun a o e => hideAll_get _ (X a o e) fun hm => by
    have : a = x := by simpa using hm
    rw [this, hnx] at e; cases e
  refine ks_codeAny_call_defAt (fd := ksFn "__init__" "DyeError.__init__" (iA p1 p2 p3 p4 j) (iB a1 a2 a3 a4 a5 a6 q1 q2 q3 q4) iS (.ref dT) .none doc pm an (.ref cda) ct cc) (body := iB a1 a2 a3 a4 a5 a6 q1 q2 q3 q4) (binds := [("self", .ref x), ("thing", v), ("words", u)])
    hroom (X _ _ hfI) rfl hlim (codeRec_of X hcd) rfl (L2.BindsTo.of_looks fun M => L2.looks_items X hdT hdO (PySem.W.Looks.of_pure (by first | rfl | with_unfolding_all rfl))) (by intro y hy; simp only [ksFn, fnX, iS, List.mem_cons, List.not_mem_nil, or_false] at hy; rcases hy with rfl | rfl | rfl | rfl | rfl <;> (intro z; cases z)) (by intro y hy; simp only [List.mem_cons, List.not_mem_nil, or_false] at hy; rcases hy with rfl | rfl | rfl <;> rfl) (fun h₁ hns hk₁ => ?_) rfl rfl rfl
  have F : Fr (hideAll s.heap [x]) s.heap.objs.size h₁ (fun y => [(("self" : Str), Value.ref x), ("thing", v), ("words", u)].reverse.lookup y) := ⟨hns, fun b o e => hk₁ b o (of_hideAll _ e), Nat.le_of_eq (hideAll_size _ _)⟩
  have hxL : x ≠ s.heap.objs.size := Nat.ne_of_lt (Heap.lt_size hx)
  have hx0 : (hideAll s.heap [x]).get? x = none := hideAll_none _ (by simp)
  have N0 : News (hideAll s.heap [x]) s.heap.objs.size h₁ [(x, excObj C t0 none .none)] := fun p hp => by
    have : p = (x, excObj C t0 none .none) := by simpa using hp
    rw [this]
    exact ⟨hk₁ _ _ hx, hxL, hx0⟩
  have I0 : PySem.W.InstAt h₁ x (excObj C t0 none .none) C none := ⟨hk₁ _ _ hx, rfl, rfl, trivial⟩
  have X1 : K.In h₁ := X.keeps hk₁
  have hbase : ∀ {whole : Sem Value} {Q : Value → Shared → Prop} {s1 : Shared}, s1.heap = h₁ → (∀ so h', Fr (hideAll s.heap [x]) s.heap.objs.size h' (fun y => [(("self" : Str), Value.ref x), ("thing", v), ("words", u)].reverse.lookup y) → News (hideAll s.heap [x]) s.heap.objs.size h' ((so, ks_superObj D x C) :: [(x, excObj C t0 none .none)]) → (∀ b o, h₁.get? b = some o → h'.get? b = some o) → x < so → Q (.ref so) { s1 with heap := h' }) →
      _root_.PySem.wpAt (model prog w) (A.deeper (ksEnv "DyeError.__init__" iS s.heap.objs.size fI (.ref cda) cc)) (.func (iB a1 a2 a3 a4 a5 a6 q1 q2 q3 q4) (ksEnv "DyeError.__init__" iS s.heap.objs.size fI (.ref cda) cc))
        (attributeBase (.Call (.Name "super" a1) [] [] a2) "__init__" (ksEnv "DyeError.__init__" iS s.heap.objs.size fI (.ref cda) cc) whole) Q
        (fun e s' => wpAny (model prog w) (A.deeper (ksEnv "DyeError.__init__" iS s.heap.objs.size fI (.ref cda) cc)) (leaving (ksEnv "DyeError.__init__" iS s.heap.objs.size fI (.ref cda) cc) e) (fun _ s'' => R (.error e) s'') (fun e' s'' => R (.error e') s'') s') s1 := by
    intro whole Q s1 e1 hQ
    obtain ⟨hh, g, d, t, os⟩ := s1
    have e1 : hh = h₁ := e1
    subst e1
    obtain ⟨oD, hD1, hD2⟩ : ∃ oD, hh.get? D = some oD ∧ oD.data = .cls cdD := by
      unfold clsIn at hD
      split at hD
      · rename_i c d cd' sl ho
        cases hD
        exact ⟨_, X1 _ _ ho, rfl⟩
      · cases hD
    refine ks_wpAt_super_base (env := ksEnv "DyeError.__init__" iS s.heap.objs.size fI (.ref cda) cc) rfl rfl rfl rfl (X1 _ _ hfI) rfl rfl rfl (X1 _ _ hcda) rfl hvs hfile T.htop ?_
    refine ks_loadName_global rfl rfl (loadGlobal_builtin (env := ksEnv "DyeError.__init__" iS s.heap.objs.size fI (.ref cda) cc) (Gm.keeps hk₁) (mg_none_of X Gm T.hsuper) (Gb.keeps hk₁) ((hb _ (by decide +kernel)).trans (by decide +kernel)) ⟨rfl, ?_⟩)
    refine wpAny_loadName_free rfl rfl rfl ⟨_, X1 _ _ hcc, rfl⟩ ?_
    refine wpAny_loadName_local rfl rfl hns (by rfl) ?_
    refine ks_wpAny_isType_cls hD1 hD2 ⟨rfl, ?_⟩
    refine ks_wpAny_call_super hD1 hD2 I0.at_ I0.cls (fun c e => ?_) (looks_mroIn X1 T.hsub) (fun h' e k => ?_)
    · have := I0.no
      unfold notCls at this
      rw [e] at this
      exact Bool.noConfusion this
    · obtain ⟨F', N', l'⟩ := ks_newsPush (s := ⟨hh, g, d, t, os⟩) F N0 rfl e k
      exact hQ _ _ F' N' k (l' (x, excObj C t0 none .none) List.mem_cons_self)
  refine ks_wpAt_execs_cons (ks_wpAt_Expr_any ?_ rfl)
  refine ks_wpAt_MethodCall (pl := L2.plainOf (.Call (.Name "super" a1) [] [] a2) (ksEnv "DyeError.__init__" iS s.heap.objs.size fI (.ref cda) cc)) (hbase rfl fun so h2 F2 N2 k2 lso => ?_) ?_
  · have X2 : K.In (hideAll s.heap [x]) := Xg
    have Ix2 : PySem.W.InstAt h2 x (excObj C t0 none .none) C none := ⟨k2 _ _ (hk₁ _ _ hx), rfl, rfl, trivial⟩
    refine kxs_method kxs_ValueError F2 X2 N2 List.mem_cons_self Ix2 T.ho T.hm T.hB rfl fun q h3 F3 N3 l3 => ?_
    refine kxs_callWith1 N3 List.mem_cons_self ?_ rfl rfl
    refine Calls.spliced_cons (wpAny_Name (wpAny_loadName_local rfl rfl F3.ns (by rfl) ?_) (by decide))
    refine Calls.spliced_nil ⟨kxs_at N3 List.mem_cons_self, ?_⟩
    have q1 : x < q := l3 (x, excObj C t0 none .none) (by simp)
    refine kxs_call F3 X2 N3 _root_.PySem.F.excBase_ValueError T.q List.mem_cons_self (.tail (Nat.ne_of_gt q1) (.tail (Nat.ne_of_gt lso) (.head (fun p hp => nomatch hp)))) (one_size u) fun t' h4 F4 N4 l4 => ?_
    have X4 : K.In h4 := Xg.keeps F4.keep
    have hx4 : h4.get? x = some (excO C t') := (N4 (x, excObj C t' none .none) (by simp)).1
    refine ks_wpAt_execs_cons (ks_wpAt_Assign_Attr (wpAt_of_wpAny (wpAny_Name (wpAny_loadName_local (v := v) rfl rfl F4.ns (by rfl) (wpAny_Name (wpAny_loadName_local (v := .ref x) rfl rfl F4.ns (by rfl) ?_) (by decide))) (by decide))) rfl)
    refine set_plain X4 (ox := excO C t') (od := none) ⟨hx4, rfl, rfl, trivial⟩ T.sa ?_
    refine exc_osa X4 hx4 hcl (show refsVE (.ref C :: bm) = true from hbm) rfl T.noN (fun h5 tk5 dx k5' dn dne hx5 hn5 => ?_)
    refine wpAt_of_wpAny (wpAny_execs_nil (hq h5 tk5 dx t' ⟨fun b o hb' e => ?_, hx5, ?_, dne, hn5⟩))
    · exact k5' b o hb' (F4.keep b o (hideAll_get _ e fun hm => hb' (by simpa using hm)))
    · have z : s.heap.objs.size < h4.objs.size := F4.ns.lt
      exact Nat.le_of_lt (Nat.lt_of_lt_of_le z dn)
  · have e : ∀ ov, methodCall (.Call (.Name "super" a1) [] [] a2) "__init__" a3 a5 (ksEnv "DyeError.__init__" iS s.heap.objs.size fI (.ref cda) cc) ov 1 (backTo a5 (starEach [.Name "words" a4] (ksEnv "DyeError.__init__" iS s.heap.objs.size fI (.ref cda) cc))) [] = (do
        let (f, first) ← holding [ov] (getMethod ov "__init__" (L2.plainOf (.Call (.Name "super" a1) [] [] a2) (ksEnv "DyeError.__init__" iS s.heap.objs.size fI (.ref cda) cc)))
        callWith a5 f first (backTo a5 (starEach [.Name "words" a4] (ksEnv "DyeError.__init__" iS s.heap.objs.size fI (.ref cda) cc))) []) := fun ov => L2.mcall_line rfl hline
    exact congrArg (fun k => attributeBase (.Call (.Name "super" a1) [] [] a2) "__init__" (ksEnv "DyeError.__init__" iS s.heap.objs.size fI (.ref cda) cc) (eval (.Call (.Name "super" a1) [] [] a2) (ksEnv "DyeError.__init__" iS s.heap.objs.size fI (.ref cda) cc)) >>= fun ov => standAt a3.atName >>= fun _ => k ov) (funext e)
theorem dye_made (T : DyeTxt prog K D C fI) {v u : Value} (X : K.In s.heap) (hlim : s.heap.NoLimit) (Gm : s.heap.Ns mainGlobals mg) (Gb : s.heap.Ns builtinsNs mb) (hb : ∀ y : Str, y ≠ "__name__" → mb y = bootBuiltins y) (hroom : A.depth + 1 < recursionLimit)
    (hq : ∀ h' tk e d, OwnMade s.heap h' e C d v → R (.ok (.ret (.ref e))) { s with heap := h', toks := tk }) :
    codeAny (model prog w) A (.call (.ref C) ⟨[v, u], []⟩) R s := by
  obtain ⟨nm, q, N, bs, bm, sn, sub, ab, col, dd, k0, k1, k2, k3, k5, hC, hbm⟩ := T.cls
  obtain ⟨hp, g, dr, tk, os⟩ := s
  have k : ∀ b o, hp.get? b = some o → ((hp.push (kdv_tup [v, u])).push (excO C hp.objs.size)).get? b = some o := fun b o e => Heap.get?_push_of_some _ (Heap.get?_push_of_some _ e)
  have hget : ((hp.push (kdv_tup [v, u])).push (excO C hp.objs.size)).get? (hp.objs.size + 1) = some (excO C hp.objs.size) := by heap_get
  have hnx : K.lookup (hp.objs.size + 1) = none := by
    cases e : K.lookup (hp.objs.size + 1) with
    | none => rfl
    | some o =>
      have z : hp.get? (hp.objs.size + 1) = some o := X _ _ e
      exact absurd (Nat.lt_of_succ_lt (Heap.lt_size z)) (Nat.lt_irrefl _)
  have n1 : hp.objs.size + 1 ≠ mainGlobals := fun z => by have := Gm.lt; rw [← z] at this; exact absurd (Nat.lt_of_succ_lt this) (Nat.lt_irrefl _)
  have n2 : hp.objs.size + 1 ≠ builtinsNs := fun z => by have := Gb.lt; rw [← z] at this; exact absurd (Nat.lt_of_succ_lt this) (Nat.lt_irrefl _)
  refine call_own F.excBase_ValueError (fun X => refsVE_contains X bm hbm) (X _ _ hC) (looks_findIn X T.iC) (fun self => bind_fn X self T.tC) (two_size v u) ?_
  refine dye_init (s := ⟨(hp.push (kdv_tup [v, u])).push (excO C hp.objs.size), g, dr, tk, os⟩) T (X.keeps k) (hlim.keeps k) (Gm.keeps k) (Gb.keeps k) hb hget hnx n1 n2 ?_ fun h' tk' dx t1 ⟨k', hx, dn, dne, hns⟩ => ?_
  · show A.depth + 1 < recursionLimit
    exact hroom
  · have old : ∀ b o, hp.get? b = some o → h'.get? b = some o := fun b o e => k' b o (Nat.ne_of_lt (Nat.lt_succ_of_lt (Heap.lt_size e))) (k b o e)
    have z : hp.objs.size + 1 + 1 ≤ dx := by
      first
        | (simpa only [Heap.size_push] using dn)
        | exact dn
        | (have q := dn; rw [Heap.size_push, Heap.size_push] at q; exact q)
    exact ⟨rfl, hq h' tk' (hp.objs.size + 1) dx ⟨old, Nat.le_succ _, ⟨_, _, hx, rfl, rfl, rfl, rfl⟩, Nat.le_trans (Nat.le_trans (Nat.le_succ _) (Nat.le_succ _)) z, dne, hns⟩⟩
end
end DyeX
end PySem
namespace L2
open PySem PySem.Spec PyProof.Rows
theorem relO_thing {v : V} {v' : Value} (r : RelV v v') (f : Str) : RelO (List.lookup f [(("thing" : Str), v)]) (if f = "thing" then some v' else none) := by
  by_cases hw : f = "thing"
  · subst hw
    rw [if_pos rfl]
    have q : List.lookup ("thing" : Str) [(("thing" : Str), v)] = some v := by simp [List.lookup]
    rw [q]
    exact r
  · rw [if_neg hw]
    have qw : (f == ("thing" : Str)) = false := by simpa using hw
    have q2 : List.lookup f [(("thing" : Str), v)] = none := by simp [List.lookup, qw]
    rw [q2]
    trivial
section
variable {X : Cx} {D C fI : Addr}
/-- C(thing, words) -/
def tMkDye (C : Addr) (ta : TA) : St → Hp → XK → Prop := fun σ H Q => ta σ H fun vs H1 => ∃ v u, vs = [v, u] ∧ ∀ d, H1 d = none → Q (.ref C) (some d) (upd H1 d (.xd [(("thing" : Str), v)]))
theorem pmk_dye {x : Str} {a b : Expr} {ta : TA} {p pos : Pos} {k : Nat} (T : PySem.DyeX.DyeTxt X.prog X.K D C fI) (gC : X.mg x = some (.ref C)) (hr : Room k X.A) (ha : PA X [a, b] ta) (hg : Gl X x) (hdb : (x == ("__debug__" : Str)) = false)
    (he : starEach (a :: [b]) X.env = (false, eval a X.env) :: starEach [b] X.env) (hpl : (backTo pos (starEach [b] X.env)).any (·.1) = false) :
    PMk X (.Call (.Name x p) [a, b] [] pos) (tMkDye C ta) := by
  intro pins s σ H Q I h
  refine wpAny_Call_Name_kw (ld_glob I hg gC ?_ hdb)
  refine PySem.W.callWith_K (h₀ := X.base) I.ok.mod.kin T.kC (thn (ha.run pos pins s σ H _ I h) fun us s1 hh => ?_) he hpl
  obtain ⟨vs, H1, I1, r1, v, u, ev, q1⟩ := hh
  subst ev
  refine ⟨I1.kIn, ?_⟩
  obtain ⟨v', u', rfl, rv, ru⟩ := vals2 r1
  show wpAny _ _ (call (.ref C) [v', u']) _ _ _
  have hlim := I1.nolimit
  have hglob := I1.mod.glob.keeps I1.bk
  obtain ⟨mb, hblt, hboot⟩ := I1.mod.blt
  have hblt := hblt.keeps I1.bk
  obtain ⟨hp, g, dr, tk, os⟩ := s1
  refine wpAny_call (PySem.DyeX.dye_made T I1.kIn hlim hglob hblt hboot (by have := hr.dp; omega) fun h' tk' e d M => ?_)
  show MkP X pins σ Q (.ref e) ⟨h', g, dr, tk', os⟩
  obtain ⟨oe, fv, hoe, hc, hd, hdat, h1⟩ := M.obj
  have hns := M.ns
  obtain ⟨G', g1, g2⟩ := restrict h' fun b => decide (b ≠ e)
  have gk : ∀ b, b ≠ e → G'.get? b = h'.get? b := fun b hb => g1 b (decide_eq_true hb)
  have ge : G'.get? e = none := g2 e (by simp)
  have old : ∀ b o, hp.get? b = some o → G'.get? b = some o := fun b o q => (gk b (Nat.ne_of_lt (Nat.lt_of_lt_of_le (Heap.lt_size q) M.new))).trans (M.keep b o q)
  have ob : ObjOk X.prog X.w (upd H1 d (.xd [(("thing" : Str), v)])) G' d (.xd [(("thing" : Str), v)]) :=
    ⟨_, hns.at (fun o q => (gk d M.dne).trans q), fun f => relO_thing rv f⟩
  have J : Inv X pins σ (upd H1 d (.xd [(("thing" : Str), v)])) ⟨G', g, dr, tk', os⟩ := I1.laid (t' := tk') old M.dbig ob
  refine ⟨e, oe, fv, ⟨G', g, dr, tk', os⟩, _, .ref C, some d, rfl, J, fun b o q => ?_, ge, hoe, ⟨hc, hd⟩, hdat, h1, ?_, rfl, I1.bare, raises_own T.exC T.tyC, q1 d (I1.hok.fresh M.dbig)⟩
  · by_cases hb : b = e
    · have q' : G'.get? b = some o := q
      rw [hb, ge] at q'; cases q'
    · exact (gk b hb).symm.trans q
  · rw [upd_ne (Ne.symm M.dne)]
    exact I1.hok.fresh M.new
/-- raise C(thing, words) -/
def tRaiseDye (C : Addr) (W : WX) (ta : TA) : TS := fun _ σ H => tMkDye C ta σ H fun cls d H' => W cls d σ H'
theorem ps_raiseDye {x : Str} {a b : Expr} {ta : TA} {W : WX} {p pos pos2 : Pos} {k : Nat} (hc : X.calm = true) (T : PySem.DyeX.DyeTxt X.prog X.K D C fI) (gC : X.mg x = some (.ref C)) (hr : Room k X.A) (tk : Takes X W) (ha : PA X [a, b] ta) (hg : Gl X x := by rfl) (hdb : (x == ("__debug__" : Str)) = false := by decide)
    (he : starEach (a :: [b]) X.env = (false, eval a X.env) :: starEach [b] X.env := by rfl) (hpl : (backTo pos (starEach [b] X.env)).any (·.1) = false := by rfl) :
    PS X (.Raise (some (.Call (.Name x p) [a, b] [] pos)) none pos2) (tRaiseDye C W ta) := ps_raise hc tk (pmk_dye T gC hr ha hg hdb he hpl)
end
end L2
set_option Elab.async false
set_option linter.all false
set_option maxRecDepth 100000
set_option maxHeartbeats 2000000
namespace L2
open PySem PySem.Spec PyProof.Rows
/-! ### a caught exception, tracked -/
/-- the exception at a: its class, its own dict -/
def EXO (a : Addr) (cls : Value) (d : Option Addr) : HO := .ext fun h => ∃ oe vs, h.get? a = some oe ∧ oe.cls = cls ∧ oe.dict = d ∧ oe.data = .fields vs
theorem exo_ok' {P : Program} {w : World} {H : Hp} {h : Heap} {a : Addr} {cls : Value} {d : Option Addr} {oe : Obj} {vs : Array Value} (e : h.get? a = some oe) (h1 : oe.cls = cls) (h2 : oe.dict = d) (h3 : oe.data = .fields vs) : ObjOk P w H h a (EXO a cls d) :=
  ⟨⟨oe, vs, e, h1, h2, h3⟩, ⟨oe, e⟩, fun _ h2 ⟨o, vs, q, x⟩ k => ⟨o, vs, k o q, x⟩⟩
theorem exo_of {P : Program} {w : World} {H : Hp} {h : Heap} {a : Addr} {cls : Value} {d : Option Addr} (hok : HOk P w H h) (e : H a = some (EXO a cls d)) : ∃ oe vs, h.get? a = some oe ∧ oe.cls = cls ∧ oe.dict = d ∧ oe.data = .fields vs := (hok a _ e).1
section
variable {X : Cx} {pins : List (Addr × Obj)} {σ : St} {H : Hp} {s : Shared}
/-- into an except suite, the exception tracked -/
theorem Inv.suiteT (I : Inv X pins σ H s) {a : Addr} {oe : Obj} {vs : Array Value} {cls : Value} {d : Option Addr} (ha : s.heap.get? a = some oe) (h1 : oe.cls = cls) (h2 : oe.dict = d) (hd : oe.data = .fields vs) (na : H a = none)
    (n0 : X.s_0.heap.get? a = none) (npin : ∀ p ∈ X.pn ++ pins, p.1 ≠ a) (nL : a ≠ X.env.locals) :
    Inv (X.suite a (X.pn ++ pins)) [] σ (upd H a (EXO a cls d)) s := by
  have ne : ∀ b o, H b = some o → b ≠ a := fun b o e => ne_of_none e na
  refine ⟨I.ok.suite _ _, I.os, I.bare, ⟨I.base.keep, I.base.slot, fun b o e n hx => ?_, I.base.there, fun b xs e => ?_, fun b o xs e => ?_, fun b ps e => ?_⟩, I.loc, I.cell, ?_, fun x c e => ?_, fun p hp => ?_, fun b u e => ?_, I.len⟩
  · have q : b ≠ a := fun z => by rw [z, n0] at e; cases e
    rw [upd_ne q]; exact I.base.free b o e n hx
  · have q := I.base.tups b xs e
    rw [upd_ne (ne _ _ q)]; exact q
  · have q := I.base.frzs b o xs e
    rw [upd_ne (ne _ _ q)]; exact q
  · obtain ⟨m, q⟩ := I.base.tbls b ps e
    exact ⟨m, by rw [upd_ne (ne _ _ q)]; exact q⟩
  · rw [upd_ne (Ne.symm nL)]; exact I.free
  · have q : c ≠ a := fun z => by
      obtain ⟨v, o, ho, hv⟩ := I.cell x c e
      rw [z, ha] at ho; cases ho; rw [hd] at hv; cases hv
    rw [upd_ne q]; exact I.freeC x c e
  · have hp' : p ∈ X.pn ++ pins := by rw [List.append_nil] at hp; exact hp
    obtain ⟨q1, q2, q3, q4, q5⟩ := I.pin p hp'
    exact ⟨q1, by rw [upd_ne (npin p hp')]; exact q2, q3, q4, q5⟩
  · by_cases q : b = a
    · subst q; rw [upd_same] at e; cases e
      exact exo_ok' ha h1 h2 hd
    · rw [upd_ne q] at e
      refine (I.hok b u e).stay (fun _ _ _ z => z) (fun c z => ?_) fun c xs z => ?_
      · rw [upd_ne (ne _ _ z)]; exact z
      · rw [upd_ne (ne _ _ z)]; exact z
theorem Inv.unsuiteT {a : Addr} {pn' : List (Addr × Obj)} (I : Inv (X.suite a (X.pn ++ pins)) pn' σ H s) (ok : X.Ok) : Inv X pins σ H s :=
  ⟨ok, I.os, I.bare, I.base, I.loc, I.cell, I.free, I.freeC, fun p hp => I.pin p (List.mem_append_left _ hp), I.hok, I.len⟩
end
/-- what the clauses wish of an exception of the body, one after the other; i: the slot of «as n» -/
def endI (i : Option Nat) (σ : St) : St := match i with | some i => σ.set i none | none => σ
def setI (i : Option Nat) (a : Addr) (σ : St) : St := match i with | some i => σ.set i (some (.ref a)) | none => σ
def wManyA (K : PySem.W.Frag) (Wout : WX) (D : Ends) : List (Value × Option Nat × TS) → WX
  | [] => Wout
  | (c, i, ts) :: r => fun cls d σ H => ∃ b, PySem.W.exmOne K cls c = some b ∧ (b = true → ∀ a, H a = none → ts { nx := fun σ' H' => D.nx (endI i σ') H', rt := D.rt, bk := fun σ' H' => D.bk (endI i σ') H', ct := fun σ' H' => D.ct (endI i σ') H' } (setI i a σ) (upd H a (EXO a cls d))) ∧ (b = false → wManyA K Wout D r cls d σ H)
inductive HdsOkA (X : Cx) : List ExceptHandler → List (Value × Option Nat × TS) → Prop
  | nil : HdsOkA X [] []
  | bare {x : Str} {c : Value} {ts : TS} {b₀ : Stmt} {suite : List Stmt} {np pos' : Pos} {hds : List ExceptHandler} {l : List (Value × Option Nat × TS)} (hc : Names X x c)
      (hsu : ∀ (a : Addr) (pn : List (Addr × Obj)), PSs (X.suite a pn) (b₀ :: suite) ts) (r : HdsOkA X hds l) :
      HdsOkA X (.ExceptHandler (some (.Name x np)) none (b₀ :: suite) pos' :: hds) ((c, none, ts) :: l)
  | as_ {x n : Str} {c : Value} {i : Nat} {ts : TS} {b₀ : Stmt} {suite : List Stmt} {np pos' : Pos} {hds : List ExceptHandler} {l : List (Value × Option Nat × TS)} (hc : Names X x c) (hi : X.N[i]? = some n) (hln : X.env.kindOf n = some .local)
      (hsu : ∀ (a : Addr) (pn : List (Addr × Obj)), PSs (X.suite a pn) (b₀ :: suite) ts) (r : HdsOkA X hds l) :
      HdsOkA X (.ExceptHandler (some (.Name x np)) (some n) (b₀ :: suite) pos' :: hds) ((c, some i, ts) :: l)
section
variable {X : Cx} {body : List Stmt} {h₀ : ExceptHandler} {hds : List ExceptHandler} {l : List (Value × Option Nat × TS)} {pos : Pos} {tb : WX → TS} {Wout : WX}
theorem ps_try_manyA (hs : X.stack = X.env :: X.outer) (hf : X.env.frame = some X.env.locals) (hN : X.N.Nodup) (hex : X.ex = []) (tk : Takes X Wout)
    (hb : ∀ (W : WX) (pn : List (Addr × Obj)) (xe : Value → Shared → Prop), Takes (X.tr pn xe) W → PassesOwn (model X.prog X.w) X.A X.env xe → PSs (X.tr pn xe) body (tb W))
    (hh : HdsOkA X (h₀ :: hds) l) : PS X (.Try body (h₀ :: hds) [] [] pos) (fun D σ H => tb (wManyA X.K Wout D l) D σ H) := by
  refine ⟨fun pins s σ H D I h => ?_⟩
  have ok := I.ok
  have hfr : X.A.frames = some (X.env :: X.outer) := by rw [ok.frames, hs]
  refine wpAny_Try_except ?_
  refine wpAny_mono ((hb (wManyA X.K Wout D l) (X.pn ++ pins) (fun e s₁ => wpAny (model X.prog X.w) X.A (noteFrame e X.env) (fun _ s₂ => wpAny (model X.prog X.w) X.A (setFlight e none) (fun _ s₃ =>
    wpAny (model X.prog X.w) X.A (handleBy e X.env (h₀ :: hds)) (SP X pins D) X.xe s₃) X.xe s₂) X.xe s₁) (fun u s' xx => ?_) PassesOwn.looking).run [] s σ H D (I.toTry _) h) (fun f s1 hsp => ?_) (fun e s1 he => he)
  · -- the catch
    obtain ⟨a, B, sI, pins', σ', H', cls, d, rfl, J', nb, up, sky, na, os, ag, w⟩ := xx
    have J : Inv X pins σ' H' sI := J'.ofTry ok
    have sky' : Sky B (X.env :: X.outer) a (Zc cls d) X.env.locals s'.heap := by rw [← hs]; exact sky
    show wpAny (model X.prog X.w) X.A (noteFrame (.ref a) X.env) _ _ _
    refine Sky.land Zc.steady hfr hf sky' fun h3 fl3 up3 => ?_
    have J3 : Inv X pins σ' H' { s' with heap := h3 } := J.landed nb fl3.1 (up.trans up3) os ag
    obtain ⟨oe3, vs3, he3, hz3, hd3⟩ := fl3.there
    have notFr : ∀ {h : Heap} {o : Obj} {vs : Array Value}, h.FunFrames B (X.env :: X.outer) → h.get? a = some o → o.data = .fields vs → a ∉ frs (X.env :: X.outer) := fun {h o vs} ff e dd hm => by
      obtain ⟨_, o', e', hnf⟩ := ff.mem hm
      rw [e] at e'; cases e'
      exact hnf _ dd
    have nfr := notFr fl3.2.2.1 he3 hd3
    have nL : a ≠ X.env.locals := fun z => nfr (List.mem_filterMap.mpr ⟨X.env, List.mem_cons_self, by rw [hf, z]⟩)
    have nF : a ∉ X.fs := fun hm => by
      obtain ⟨e, he, q⟩ := List.mem_filterMap.mp hm
      exact nfr (List.mem_filterMap.mpr ⟨e, List.mem_cons_of_mem _ he, q⟩)
    have S3 := J3.suite he3 hd3 na nL nF
    have gI : sI.heap.get? a = none := by
      cases q : sI.heap.get? a with
      | none => rfl
      | some o =>
        have z := nb a o q (by rw [hs]; exact nfr)
        rw [fl3.2.1] at z; cases z
    have n0 : X.s_0.heap.get? a = none := by
      cases q : X.s_0.heap.get? a with
      | none => rfl
      | some o =>
        obtain ⟨o', z⟩ := J.base.there a o q (by rw [hex]; simp)
        rw [gI] at z; cases z
    have npin : ∀ p ∈ X.pn ++ pins, p.1 ≠ a := fun p hp z => by
      have := (J.pin p hp).1
      rw [z, gI] at this; cases this
    have go : ∀ {hds' : List ExceptHandler} {l' : List (Value × Option Nat × TS)}, HdsOkA X hds' l' → wManyA X.K Wout D l' cls d σ' H' →
        wpAny (model X.prog X.w) X.A (handleBy (.ref a) X.env hds') (SP X pins D) X.xe { s' with heap := h3 } := by
      intro hds' l' hk
      induction hk with
      | nil =>
        intro w
        refine wpAny_handleBy_nil ?_
        obtain ⟨k1, k2, k3, oe, vs, T, oT, ts', he, hz, hd, h1, hr⟩ := id fl3
        unfold PySem.passOn
        refine wpAny_bind (wpAny_field he hd h1 ?_)
        rw [if_neg (show ¬ ((Value.ref T == Value.none) = true) from by simp)]
        have fin : wpAny (model X.prog X.w) X.A (setFlight (.ref a) X.env.frame) (fun _ s4 => wpAny (model X.prog X.w) X.A (throw (.ref a) : Sem Flow) (SP X pins D) X.xe s4) X.xe { s' with heap := h3 } := by
          rw [hf]
          refine HandSPX.setFlight_upZ fl3 fun h4 hh4 up4 => wpAny_throw (tk _ _ ?_)
          exact ⟨a, B, sI, pins, σ', H', cls, d, rfl, J, nb, (up.trans up3).trans up4, .inr (.inr (by rw [hs]; exact hh4)), na, os, ag, w⟩
        first
          | exact wpAny_bind (wpAny_pure (wpAny_bind fin))
          | exact wpAny_bind fin
      | @bare x c ts b₀ suite np pos' hds2 l2 hc hsu r ih =>
        intro w
        obtain ⟨b, hb1, hyes, hno⟩ := w
        refine wpAny_handleBy_cons (codeAny_handlers_test ?_) (by intro q; cases q)
        have LT : PySem.W.Looks (model X.prog X.w) h3 (typeOf (.ref a)) cls := fun A Q E s k q => wpAny_typeOf_ref (k _ _ he3) (by rw [hz3.1]; exact q)
        have LM := PySem.W.exm_one (M := model X.prog X.w) (J3.kIn) LT hb1
        have test : ∀ {Q : Value → Shared → Prop} {E : Value → Shared → Prop}, Q c { s' with heap := h3 } → wpAny (model X.prog X.w) (X.A.mark (some (.ref a))) (eval (.Name x np) X.env) Q E { s' with heap := h3 } := fun {Q E} q => by
          obtain ⟨hg, hdbg, hm | ⟨hm, hv, hnn⟩⟩ := hc
          · exact ld_glob (X := X.suite a ((a, oe3) :: (X.pn ++ pins))) S3 hg hm q hdbg
          · exact ld_blt (X := X.suite a ((a, oe3) :: (X.pn ++ pins))) S3 hg hm hv q hnn hdbg
        refine test (LM.here ?_)
        cases b with
        | true =>
          refine codeAny_handlers_suite ?_
          refine HandSPX.lands_againZ fl3 fun h4 fl4 up4 => ?_
          have J4 : Inv X pins σ' H' { s' with heap := h4 } := J.landed nb fl4.1 ((up.trans up3).trans up4) os ag
          obtain ⟨oe4, vs4, he4, hz4, hd4⟩ := fl4.there
          have S4 := J4.suiteT he4 hz4.1 hz4.2 hd4 na n0 npin nL
          refine wpAny_mono ((hsu a (X.pn ++ pins)).run [] _ _ _ _ S4 (hyes rfl a na)) (fun f s6 hsp => ?_) (fun _ _ z => False.elim z)
          cases f with
          | next =>
            obtain ⟨σ6, H6, S6, q6⟩ := hsp
            exact ⟨_, _, S6.unsuiteT ok, q6⟩
          | brk =>
            obtain ⟨σ6, H6, S6, q6⟩ := hsp
            exact ⟨_, _, S6.unsuiteT ok, q6⟩
          | cont =>
            obtain ⟨σ6, H6, S6, q6⟩ := hsp
            exact ⟨_, _, S6.unsuiteT ok, q6⟩
          | ret u =>
            obtain ⟨v6, σ6, H6, S6, r6, q6⟩ := hsp
            exact ⟨_, _, _, S6.unsuiteT ok, r6, q6⟩
        | false =>
          show wpAny _ X.A (handleBy (.ref a) X.env hds2) _ _ _
          exact ih (hno rfl)
      | @as_ x n c i ts b₀ suite np pos' hds2 l2 hc hi hln hsu r ih =>
        intro w
        obtain ⟨b, hb1, hyes, hno⟩ := w
        refine wpAny_handleBy_cons (codeAny_handlers_test ?_) (by intro q; cases q)
        have LT : PySem.W.Looks (model X.prog X.w) h3 (typeOf (.ref a)) cls := fun A Q E s k q => wpAny_typeOf_ref (k _ _ he3) (by rw [hz3.1]; exact q)
        have LM := PySem.W.exm_one (M := model X.prog X.w) (J3.kIn) LT hb1
        have test : ∀ {Q : Value → Shared → Prop} {E : Value → Shared → Prop}, Q c { s' with heap := h3 } → wpAny (model X.prog X.w) (X.A.mark (some (.ref a))) (eval (.Name x np) X.env) Q E { s' with heap := h3 } := fun {Q E} q => by
          obtain ⟨hg, hdbg, hm | ⟨hm, hv, hnn⟩⟩ := hc
          · exact ld_glob (X := X.suite a ((a, oe3) :: (X.pn ++ pins))) S3 hg hm q hdbg
          · exact ld_blt (X := X.suite a ((a, oe3) :: (X.pn ++ pins))) S3 hg hm hv q hnn hdbg
        refine test (LM.here ?_)
        cases b with
        | true =>
          refine codeAny_handlers_suite_as ?_
          refine HandSPX.lands_againZ fl3 fun h4 fl4 up4 => ?_
          have J4 : Inv X pins σ' H' { s' with heap := h4 } := J.landed nb fl4.1 ((up.trans up3).trans up4) os ag
          obtain ⟨oe4, vs4, he4, hz4, hd4⟩ := fl4.there
          have S4 := J4.suiteT he4 hz4.1 hz4.2 hd4 na n0 npin nL
          refine store_ok (X := X.suite a (X.pn ++ pins)) (v := .ref a) S4 hN hi (.inl hln) rfl (fun s5 S5 => ?_) (.inr hln)
          refine wpAny_mono ((hsu a (X.pn ++ pins)).run [] s5 _ _ _ S5 (hyes rfl a na)) (fun f s6 hsp => ?_) (fun _ _ z => False.elim z)
          have end_ : ∀ {σ6 : St} {H6 : Hp} {Q : Shared → Prop}, Inv (X.suite a (X.pn ++ pins)) [] σ6 H6 s6 → (∀ s7, Inv X pins (σ6.set i none) H6 s7 → Q s7) →
              wpAny (model X.prog X.w) X.A (do bindName X.env n .none; unbindBehindTheSuite X.env n pos') (fun _ s7 => Q s7) X.xe s6 := fun {σ6 H6 Q} S6 hq => gone_ok (S6.unsuiteT ok) hN hi hln hq
          cases f with
          | next =>
            obtain ⟨σ6, H6, S6, q6⟩ := hsp
            exact end_ S6 fun s7 J7 => ⟨_, _, J7, q6⟩
          | brk =>
            obtain ⟨σ6, H6, S6, q6⟩ := hsp
            exact end_ S6 fun s7 J7 => ⟨_, _, J7, q6⟩
          | cont =>
            obtain ⟨σ6, H6, S6, q6⟩ := hsp
            exact end_ S6 fun s7 J7 => ⟨_, _, J7, q6⟩
          | ret u =>
            obtain ⟨v6, σ6, H6, S6, r6, q6⟩ := hsp
            exact end_ S6 fun s7 J7 => ⟨_, _, _, J7, r6, q6⟩
        | false =>
          show wpAny _ X.A (handleBy (.ref a) X.env hds2) _ _ _
          exact ih (hno rfl)
    exact go hh w
  · cases f with
    | next =>
      obtain ⟨σ', H', J', q⟩ := hsp
      exact wpAny_execs_nil ⟨σ', H', J'.ofTry ok, q⟩
    | brk =>
      obtain ⟨σ', H', J', q⟩ := hsp
      exact ⟨σ', H', J'.ofTry ok, q⟩
    | cont =>
      obtain ⟨σ', H', J', q⟩ := hsp
      exact ⟨σ', H', J'.ofTry ok, q⟩
    | ret u =>
      obtain ⟨v, σ', H', J', r, q⟩ := hsp
      exact ⟨v, σ', H', J'.ofTry ok, r, q⟩
end
end L2
set_option Elab.async false
set_option linter.all false
set_option maxRecDepth 100000
set_option maxHeartbeats 2000000
namespace T3
open PySem L2
open Evl (Ex)

/-- values of the pure layer: tuples, frozen lists and frozen instances are values -/
inductive D where
  | non | bl (b : Bool) | int (i : Int) | str (x : Str) | ty (n : String) | ref (a : Addr)
  | tup (xs : List D) | lst (xs : List D)
  | ins (C : Addr) (ns : List Str) (vs : List D)

mutual
/-- the value d is v, its frozen parts in F -/
def RD (F : Hp) : D → V → Prop
  | .non, v => v = .non
  | .bl b, v => v = .bl b
  | .int i, v => v = .int i
  | .str x, v => v = .str x
  | .ty n, v => v = .ty n
  | .ref a, v => v = .ref a
  | .tup ds, v => ∃ a vs, v = .ref a ∧ F a = some (.tup vs) ∧ RDs F ds vs
  | .lst ds, v => ∃ a vs, v = .ref a ∧ F a = some (.lst vs) ∧ RDs F ds vs
  | .ins C ns ds, v => ∃ a dx vs, v = .ref a ∧ F a = some (.ins C dx (ns.zip vs)) ∧ ns.length = vs.length ∧ RDs F ds vs
def RDs (F : Hp) : List D → List V → Prop
  | [], vs => vs = []
  | d :: ds, vs => ∃ v r, vs = v :: r ∧ RD F d v ∧ RDs F ds r
end
mutual
theorem RD.mono {F F' : Hp} (e : Ex F F') : ∀ {d : D} {v : V}, RD F d v → RD F' d v
  | .non, _, h => h
  | .bl _, _, h => h
  | .int _, _, h => h
  | .str _, _, h => h
  | .ty _, _, h => h
  | .ref _, _, h => h
  | .tup _, _, ⟨a, vs, e1, h, r⟩ => ⟨a, vs, e1, e a _ h, RDs.mono e r⟩
  | .lst _, _, ⟨a, vs, e1, h, r⟩ => ⟨a, vs, e1, e a _ h, RDs.mono e r⟩
  | .ins _ _ _, _, ⟨a, dx, vs, e1, h, hl, r⟩ => ⟨a, dx, vs, e1, e a _ h, hl, RDs.mono e r⟩
theorem RDs.mono {F F' : Hp} (e : Ex F F') : ∀ {ds : List D} {vs : List V}, RDs F ds vs → RDs F' ds vs
  | [], _, h => h
  | _ :: _, _, ⟨v, r, e1, h, hr⟩ => ⟨v, r, e1, RD.mono e h, RDs.mono e hr⟩
end
theorem RDs.length {F : Hp} : ∀ {ds : List D} {vs : List V}, RDs F ds vs → ds.length = vs.length
  | [], vs, h => by rw [show vs = [] from h]; rfl
  | _ :: _, _, ⟨v, r, e1, h, hr⟩ => by rw [e1, List.length_cons, List.length_cons, RDs.length hr]
theorem RDs.append {F : Hp} : ∀ {ds es : List D} {vs us : List V}, RDs F ds vs → RDs F es us → RDs F (ds ++ es) (vs ++ us)
  | [], _, _, _, h, h2 => by rw [show _ = [] from h]; exact h2
  | _ :: _, _, _, us, ⟨v, r, e1, h, hr⟩, h2 => ⟨v, r ++ us, by rw [e1]; rfl, h, RDs.append hr h2⟩
theorem RDs.get {F : Hp} : ∀ {ds : List D} {vs : List V} {i : Nat} {v : V}, RDs F ds vs → vs[i]? = some v → ∃ d, ds[i]? = some d ∧ RD F d v
  | [], _, _, _, h, e => by rw [show _ = [] from h] at e; simp at e
  | d :: _, _, 0, v, ⟨v', r, e1, h, hr⟩, e => by subst e1; simp at e; subst e; exact ⟨d, rfl, h⟩
  | _ :: _, _, i + 1, v, ⟨v', r, e1, h, hr⟩, e => by
    subst e1
    obtain ⟨d, h1, h2⟩ := RDs.get (i := i) (v := v) hr (by simpa using e)
    exact ⟨d, by simpa using h1, h2⟩
theorem RDs.at {F : Hp} {ds : List D} {vs : List V} {i : Nat} {d : D} (h : RDs F ds vs) (e : ds[i]? = some d) : ∃ v, vs[i]? = some v ∧ RD F d v := by
  have hi : i < ds.length := (List.getElem?_eq_some_iff.mp e).1
  have hv : i < vs.length := by rw [← h.length]; exact hi
  obtain ⟨d', h1, h2⟩ := h.get (i := i) (v := vs[i]) (by simp [hv])
  rw [e] at h1; cases h1
  exact ⟨vs[i], by simp [hv], h2⟩
theorem RDs.of {F : Hp} : ∀ {ds : List D} {vs : List V}, ds.length = vs.length → (∀ (i : Nat) d v, ds[i]? = some d → vs[i]? = some v → RD F d v) → RDs F ds vs
  | [], [], _, _ => rfl
  | [], _ :: _, h, _ => by simp at h
  | _ :: _, [], h, _ => by simp at h
  | d :: ds, v :: vs, h, k => ⟨v, vs, rfl, k 0 d v rfl rfl, RDs.of (by simpa using h) fun i d v a b => k (i + 1) d v (by simpa using a) (by simpa using b)⟩
theorem RDs.take {F : Hp} {ds : List D} {vs : List V} (n : Nat) (h : RDs F ds vs) : RDs F (ds.take n) (vs.take n) := RDs.of (by simp [h.length]) fun i d v a b => by
  rw [List.getElem?_take] at a b
  split at a
  · rw [if_pos (by assumption)] at b
    obtain ⟨v', h1, h2⟩ := h.at a
    rw [b] at h1; cases h1; exact h2
  · cases a
theorem RDs.drop {F : Hp} {ds : List D} {vs : List V} (n : Nat) (h : RDs F ds vs) : RDs F (ds.drop n) (vs.drop n) := RDs.of (by simp [h.length]) fun i d v a b => by
  rw [List.getElem?_drop] at a b
  obtain ⟨v', h1, h2⟩ := h.at a
  rw [b] at h1; cases h1; exact h2
theorem RDs.set {F : Hp} {ds : List D} {vs : List V} {d : D} {v : V} (n : Nat) (h : RDs F ds vs) (r : RD F d v) : RDs F (ds.set n d) (vs.set n v) := RDs.of (by simp [h.length]) fun i d' v' a b => by
  by_cases e : n = i
  · subst e
    have hi : n < ds.length := by have := (List.getElem?_eq_some_iff.mp a).1; simpa using this
    have hv : n < vs.length := by rw [← h.length]; exact hi
    rw [List.getElem?_set_self hi] at a
    rw [List.getElem?_set_self hv] at b
    cases a; cases b; exact r
  · rw [List.getElem?_set_ne e] at a b
    obtain ⟨v'', h1, h2⟩ := h.at a
    rw [b] at h1; cases h1; exact h2
theorem RDs.reverse {F : Hp} {ds : List D} {vs : List V} (h : RDs F ds vs) : RDs F ds.reverse vs.reverse := RDs.of (by simp [h.length]) fun i d v a b => by
  have hi : i < ds.length := by have := (List.getElem?_eq_some_iff.mp a).1; simpa using this
  have hv : i < vs.length := by rw [← h.length]; exact hi
  rw [List.getElem?_reverse hi] at a
  rw [List.getElem?_reverse hv, ← h.length] at b
  obtain ⟨v'', h1, h2⟩ := h.at a
  rw [b] at h1; cases h1; exact h2
theorem RDs.eraseIdx {F : Hp} {ds : List D} {vs : List V} (n : Nat) (h : RDs F ds vs) : RDs F (ds.eraseIdx n) (vs.eraseIdx n) := by
  rw [List.eraseIdx_eq_take_drop_succ, List.eraseIdx_eq_take_drop_succ]
  exact (h.take n).append (h.drop (n + 1))
theorem RDs.one {F : Hp} {d : D} {v : V} (r : RD F d v) : RDs F [d] [v] := ⟨v, [], rfl, r, rfl⟩
theorem RDs.snoc {F : Hp} {ds : List D} {vs : List V} {d : D} {v : V} (h : RDs F ds vs) (r : RD F d v) : RDs F (ds ++ [d]) (vs ++ [v]) := h.append (.one r)

def isNon : D → Bool
  | .non => true
  | _ => false
theorem RD.isNon {F : Hp} {x : D} {v : V} (h : RD F x v) : decide (v = .non) = T3.isNon x := by
  cases x with
  | non => rw [show v = .non from h]; rfl
  | bl b => rw [show v = .bl b from h]; rfl
  | int b => rw [show v = .int b from h]; rfl
  | str b => rw [show v = .str b from h]; rfl
  | ty b => rw [show v = .ty b from h]; rfl
  | ref b => rw [show v = .ref b from h]; rfl
  | tup _ => obtain ⟨_, _, e, _⟩ := h; subst e; rfl
  | lst _ => obtain ⟨_, _, e, _⟩ := h; subst e; rfl
  | ins _ _ _ => obtain ⟨_, _, _, e, _⟩ := h; subst e; rfl
/-- a scalar as a value -/
def dV : V → D
  | .non => .non
  | .bl b => .bl b
  | .int i => .int i
  | .str x => .str x
  | .ty n => .ty n
  | .ref a => .ref a
  | .byt _ => .non
  | .flt _ => .non

/-! ### owned objects -/
inductive DO where
  | lst (ds : List D)
  | ins (C : Addr) (fs : List (Str × D))
  | dK (kvs : List (Key × D))
  | dT (kvs : List (List Key × D))
  | raw (o : HO)
  | exc (a C : Addr) (thing : D)
abbrev Mem := Addr → Option DO
abbrev Sig := List (Option D)
def PKV {κ : Type} (F : Hp) : List (κ × D) → List (κ × V) → Prop := Paired fun p q => p.1 = q.1 ∧ RD F p.2 q.2
theorem PKV.mono {κ : Type} {F F' : Hp} (e : Ex F F') {l : List (κ × D)} {m : List (κ × V)} (h : PKV F l m) : PKV F' l m := Paired.mapP h fun _ _ q => ⟨q.1, q.2.mono e⟩
def RO (F : Hp) : DO → HO → Prop
  | .lst ds, ho => ∃ vs, ho = .lst vs ∧ RDs F ds vs
  | .ins C fs, ho => ∃ dx fv, ho = .ins C dx fv ∧ PKV F fs fv
  | .dK kvs, ho => ∃ kv, ho = .dK kv ∧ PKV F kvs kv
  | .dT kvs, ho => ∃ kv, ho = .dT kv ∧ PKV F kvs kv
  | .raw o, ho => ho = o
  | .exc a C th, ho => ∃ dd v, ho = EXO a (.ref C) (some dd) ∧ F dd = some (.xd [(("thing" : Str), v)]) ∧ RD F th v
theorem RO.mono {F F' : Hp} (e : Ex F F') : ∀ {o : DO} {ho : HO}, RO F o ho → RO F' o ho
  | .lst _, _, ⟨vs, e1, r⟩ => ⟨vs, e1, r.mono e⟩
  | .ins _ _, _, ⟨dx, fv, e1, r⟩ => ⟨dx, fv, e1, r.mono e⟩
  | .dK _, _, ⟨kv, e1, r⟩ => ⟨kv, e1, r.mono e⟩
  | .dT _, _, ⟨kv, e1, r⟩ => ⟨kv, e1, r.mono e⟩
  | .raw _, _, h => h
  | .exc _ _ _, _, ⟨dd, v, e1, h, r⟩ => ⟨dd, v, e1, e dd _ h, r.mono e⟩
def mput (M : Mem) (a : Addr) (o : DO) : Mem := fun b => if b = a then some o else M b
def mdel (M : Mem) (a : Addr) : Mem := fun b => if b = a then none else M b
theorem mput_same {M : Mem} {a : Addr} {o : DO} : mput M a o a = some o := if_pos rfl
theorem mput_ne {M : Mem} {a b : Addr} {o : DO} (h : b ≠ a) : mput M a o b = M b := if_neg h
theorem mdel_same {M : Mem} {a : Addr} : mdel M a a = none := if_pos rfl
theorem mdel_ne {M : Mem} {a b : Addr} (h : b ≠ a) : mdel M a b = M b := if_neg h
theorem mput_mput {M : Mem} {a : Addr} {o u : DO} : mput (mput M a o) a u = mput M a u := by funext b; unfold mput; split <;> rfl
theorem mdel_mput {M : Mem} {a : Addr} {o : DO} (h : M a = none) : mdel (mput M a o) a = M := by
  funext b; unfold mdel; split
  · rename_i e; rw [e, h]
  · rename_i e; exact mput_ne e
theorem mput_self {M : Mem} {a : Addr} {o : DO} (h : M a = some o) : mput M a o = M := by
  funext b; unfold mput; split
  · rename_i e; rw [e, h]
  · rfl
theorem mput_comm {M : Mem} {a b : Addr} {o u : DO} (h : a ≠ b) : mput (mput M a o) b u = mput (mput M b u) a o := by
  funext c; unfold mput
  by_cases h1 : c = a
  · subst h1; rw [if_neg h, if_pos rfl, if_pos rfl]
  · by_cases h2 : c = b
    · subst h2; rw [if_pos rfl, if_neg h1, if_pos rfl]
    · rw [if_neg h2, if_neg h1, if_neg h1, if_neg h2]
theorem mne {M : Mem} {a b : Addr} {o : DO} (h : M a = some o) (h' : M b = none) : a ≠ b := by
  intro e; subst e; rw [h] at h'; cases h'

/-- the state: frozen F, owned M, the layer's heap H -/
structure St3 (F : Hp) (M : Mem) (H : Hp) : Prop where
  fz : Ex F H
  own : ∀ a o, M a = some o → F a = none ∧ ∃ ho, H a = some ho ∧ RO F o ho
theorem St3.nn {F : Hp} {M : Mem} {H : Hp} (s : St3 F M H) {p : Addr} (h : H p = none) : F p = none ∧ M p = none := by
  refine ⟨Evl.fresh_back s.fz h, ?_⟩
  cases q : M p with
  | none => rfl
  | some o => obtain ⟨_, ho, e, _⟩ := s.own p o q; rw [h] at e; cases e
/-- a new frozen object -/
theorem St3.new {F : Hp} {M : Mem} {H : Hp} (s : St3 F M H) {p : Addr} {o : HO} (h : H p = none) : St3 (upd F p o) M (upd H p o) ∧ Ex F (upd F p o) := by
  obtain ⟨f0, m0⟩ := s.nn h
  have e0 : Ex F (upd F p o) := Ex.new f0
  refine ⟨⟨fun a u e => ?_, fun a u e => ?_⟩, e0⟩
  · by_cases q : a = p
    · subst q; rw [upd_same] at e ⊢; exact e
    · rw [upd_ne q] at e ⊢; exact s.fz a u e
  · have q : a ≠ p := mne e m0
    obtain ⟨x, ho, y, z⟩ := s.own a u e
    exact ⟨by rw [upd_ne q]; exact x, ho, by rw [upd_ne q]; exact y, z.mono e0⟩
/-- a new owned object -/
theorem St3.newO {F : Hp} {M : Mem} {H : Hp} (s : St3 F M H) {p : Addr} {o : HO} {d : DO} (h : H p = none) (r : RO F d o) : St3 F (mput M p d) (upd H p o) := by
  obtain ⟨f0, m0⟩ := s.nn h
  refine ⟨fun a u e => ?_, fun a u e => ?_⟩
  · rw [upd_ne (ne_of_none e f0)]; exact s.fz a u e
  · by_cases q : a = p
    · subst q; rw [mput_same] at e; cases e
      exact ⟨f0, o, upd_same, r⟩
    · rw [mput_ne q] at e
      obtain ⟨x, ho, y, z⟩ := s.own a u e
      exact ⟨x, ho, by rw [upd_ne q]; exact y, z⟩
/-- an owned object changed -/
theorem St3.put {F : Hp} {M : Mem} {H : Hp} (s : St3 F M H) {p : Addr} {o : HO} {d d' : DO} (h : M p = some d) (r : RO F d' o) : St3 F (mput M p d') (upd H p o) := by
  obtain ⟨f0, ho, hp, _⟩ := s.own p d h
  refine ⟨fun a u e => ?_, fun a u e => ?_⟩
  · rw [upd_ne (ne_of_none e f0)]; exact s.fz a u e
  · by_cases q : a = p
    · subst q; rw [mput_same] at e; cases e
      exact ⟨f0, o, upd_same, r⟩
    · rw [mput_ne q] at e
      obtain ⟨x, ho, y, z⟩ := s.own a u e
      exact ⟨x, ho, by rw [upd_ne q]; exact y, z⟩
/-- forget an owned object -/
theorem St3.drop {F : Hp} {M : Mem} {H : Hp} (s : St3 F M H) (p : Addr) : St3 F (mdel M p) H := by
  refine ⟨s.fz, fun a u e => ?_⟩
  by_cases q : a = p
  · subst q; rw [mdel_same] at e; cases e
  · rw [mdel_ne q] at e; exact s.own a u e
/-- freeze an owned object -/
theorem St3.freeze {F : Hp} {M : Mem} {H : Hp} (s : St3 F M H) {p : Addr} {o : HO} {d : DO} (h : M p = some d) (hp : H p = some o) : St3 (upd F p o) (mdel M p) H ∧ Ex F (upd F p o) := by
  obtain ⟨f0, _⟩ := s.own p d h
  have e0 : Ex F (upd F p o) := Ex.new f0
  refine ⟨⟨fun a u e => ?_, fun a u e => ?_⟩, e0⟩
  · by_cases q : a = p
    · subst q; rw [upd_same] at e; cases e; exact hp
    · rw [upd_ne q] at e; exact s.fz a u e
  · by_cases q : a = p
    · subst q; rw [mdel_same] at e; cases e
    · rw [mdel_ne q] at e
      obtain ⟨x, ho, y, z⟩ := s.own a u e
      exact ⟨by rw [upd_ne q]; exact x, ho, y, z.mono e0⟩

/-- the slots -/
def SRel (F : Hp) (σ : Sig) (σv : St) : Prop := σ.length = σv.length ∧ ∀ (i : Nat) (d : D), σ[i]? = some (some d) → ∃ v, σv[i]? = some (some v) ∧ RD F d v
theorem SRel.mono {F F' : Hp} {σ : Sig} {σv : St} (h : SRel F σ σv) (e : Ex F F') : SRel F' σ σv := ⟨h.1, fun i d q => let ⟨v, a, b⟩ := h.2 i d q; ⟨v, a, b.mono e⟩⟩
theorem SRel.set {F : Hp} {σ : Sig} {σv : St} {i : Nat} {d : D} {v : V} (h : SRel F σ σv) (r : RD F d v) : SRel F (σ.set i (some d)) (σv.set i (some v)) := by
  refine ⟨by simp [h.1], fun j d' q => ?_⟩
  by_cases e : i = j
  · subst e
    have hi : i < σ.length := by have := (List.getElem?_eq_some_iff.mp q).1; simpa using this
    rw [List.getElem?_set_self hi] at q
    cases q
    exact ⟨v, List.getElem?_set_self (by rw [← h.1]; exact hi), r⟩
  · rw [List.getElem?_set_ne e] at q ⊢
    exact h.2 j d' q
def wipe3 (σ : Sig) : List Nat → Sig
  | [] => σ
  | v :: vs => (wipe3 σ vs).set v none
theorem SRel.setN {F : Hp} {σ : Sig} {σv : St} {i : Nat} (h : SRel F σ σv) : SRel F (σ.set i none) (σv.set i none) := by
  refine ⟨by simp [h.1], fun j d' q => ?_⟩
  by_cases e : i = j
  · subst e
    have hi : i < σ.length := by have := (List.getElem?_eq_some_iff.mp q).1; simpa using this
    rw [List.getElem?_set_self hi] at q
    cases q
  · rw [List.getElem?_set_ne e] at q ⊢
    exact h.2 j d' q
theorem SRel.wipe {F : Hp} {σ : Sig} {σv : St} (h : SRel F σ σv) : ∀ vs, SRel F (wipe3 σ vs) (L2.wipe σv vs)
  | [] => h
  | _ :: vs => (SRel.wipe h vs).setN
def start3 (N : List Str) (ds : List D) : Sig := ds.map some ++ List.replicate (N.length - ds.length) none
theorem SRel.start {F : Hp} {N : List Str} {ds : List D} {vs : List V} (h : RDs F ds vs) : SRel F (start3 N ds) (L2.start N vs) := by
  unfold start3 L2.start
  refine ⟨by simp [h.length], fun i d q => ?_⟩
  by_cases hi : i < ds.length
  · rw [List.getElem?_append_left (by simpa using hi), List.getElem?_map] at q
    obtain ⟨d', e1, e2⟩ := Option.map_eq_some_iff.mp q
    cases e2
    obtain ⟨v, e3, r⟩ := h.at e1
    refine ⟨v, ?_, r⟩
    rw [List.getElem?_append_left (by rw [List.length_map, ← h.length]; exact hi), List.getElem?_map, e3]
    rfl
  · rw [List.getElem?_append_right (by simpa using hi)] at q
    have := List.getElem?_replicate (n := N.length - ds.length) (a := (none : Option D)) (i := i - (ds.map some).length)
    rw [this] at q
    split at q <;> cases q

/-! ### the judgements -/
abbrev DQ := D → Mem → Prop
section
variable (B : Hp)
def W3e (te : TE) (σ : Sig) (M : Mem) (Q : DQ) : Prop :=
  ∀ (F : Hp) (σv : St) (H : Hp) (Qv : VK), Ex B F → SRel F σ σv → St3 F M H → (∀ F' M' d v H', Ex F F' → St3 F' M' H' → RD F' d v → Q d M' → Qv v H') → te σv H Qv
def W3t (tt : TT) (σ : Sig) (M : Mem) (Q : Bool → Mem → Prop) : Prop :=
  ∀ (F : Hp) (σv : St) (H : Hp) (Qv : Bool → Hp → Prop), Ex B F → SRel F σ σv → St3 F M H → (∀ F' M' b H', Ex F F' → St3 F' M' H' → Q b M' → Qv b H') → tt σv H Qv
def W3a (ta : TA) (σ : Sig) (M : Mem) (Q : List D → Mem → Prop) : Prop :=
  ∀ (F : Hp) (σv : St) (H : Hp) (Qv : List V → Hp → Prop), Ex B F → SRel F σ σv → St3 F M H → (∀ F' M' ds vs H', Ex F F' → St3 F' M' H' → RDs F' ds vs → Q ds M' → Qv vs H') → ta σv H Qv
def R3 (r : R2) (x y : D) (M : Mem) (Q : DQ) : Prop :=
  ∀ (F : Hp) (H : Hp) (xv yv : V) (Qv : VK), Ex B F → St3 F M H → RD F x xv → RD F y yv → (∀ F' M' d v H', Ex F F' → St3 F' M' H' → RD F' d v → Q d M' → Qv v H') → r xv yv H Qv
def U3 (r : V → Hp → VK → Prop) (x : D) (M : Mem) (Q : DQ) : Prop :=
  ∀ (F : Hp) (H : Hp) (xv : V) (Qv : VK), Ex B F → St3 F M H → RD F x xv → (∀ F' M' d v H', Ex F F' → St3 F' M' H' → RD F' d v → Q d M' → Qv v H') → r xv H Qv
def C3 (r : List V → Hp → VK → Prop) (xs : List D) (M : Mem) (Q : DQ) : Prop :=
  ∀ (F : Hp) (H : Hp) (xv : List V) (Qv : VK), Ex B F → St3 F M H → RDs F xs xv → (∀ F' M' d v H', Ex F F' → St3 F' M' H' → RD F' d v → Q d M' → Qv v H') → r xv H Qv
def M3 (r : V → List V → Hp → VK → Prop) (x : D) (xs : List D) (M : Mem) (Q : DQ) : Prop :=
  ∀ (F : Hp) (H : Hp) (xv : V) (xvs : List V) (Qv : VK), Ex B F → St3 F M H → RD F x xv → RDs F xs xvs → (∀ F' M' d v H', Ex F F' → St3 F' M' H' → RD F' d v → Q d M' → Qv v H') → r xv xvs H Qv
def G3 (g : TG) (x : D) (σ : Sig) (M : Mem) (Q : Sig → Mem → Prop) : Prop :=
  ∀ (F : Hp) (σv : St) (H : Hp) (xv : V) (Qv : St → Hp → Prop), Ex B F → SRel F σ σv → St3 F M H → RD F x xv → (∀ F' M' σ' σv' H', Ex F F' → SRel F' σ' σv' → St3 F' M' H' → Q σ' M' → Qv σv' H') → g xv σv H Qv
def G3s (g : TGs) (xs : List D) (σ : Sig) (M : Mem) (Q : Sig → Mem → Prop) : Prop :=
  ∀ (F : Hp) (σv : St) (H : Hp) (xv : List V) (Qv : St → Hp → Prop), Ex B F → SRel F σ σv → St3 F M H → RDs F xs xv → (∀ F' M' σ' σv' H', Ex F F' → SRel F' σ' σv' → St3 F' M' H' → Q σ' M' → Qv σv' H') → g xv σv H Qv
end
structure Ends3 where
  nx : Sig → Mem → Prop
  rt : DQ
  bk : Sig → Mem → Prop := fun _ _ => False
  ct : Sig → Mem → Prop := fun _ _ => False
def ImpS (F : Hp) (q : Sig → Mem → Prop) (qv : St → Hp → Prop) : Prop := ∀ F' M' σ' σv' H', Ex F F' → SRel F' σ' σv' → St3 F' M' H' → q σ' M' → qv σv' H'
structure Imp (F : Hp) (D3 : Ends3) (Dv : Ends) : Prop where
  nx : ImpS F D3.nx Dv.nx
  rt : ∀ F' M' d v H', Ex F F' → St3 F' M' H' → RD F' d v → D3.rt d M' → Dv.rt v H'
  bk : ImpS F D3.bk Dv.bk
  ct : ImpS F D3.ct Dv.ct
theorem ImpS.mono {F F1 : Hp} {q : Sig → Mem → Prop} {qv : St → Hp → Prop} (h : ImpS F q qv) (e : Ex F F1) : ImpS F1 q qv := fun F' M' σ' σv' H' a => h F' M' σ' σv' H' (e.trans a)
theorem Imp.mono {F F1 : Hp} {D3 : Ends3} {Dv : Ends} (h : Imp F D3 Dv) (e : Ex F F1) : Imp F1 D3 Dv :=
  ⟨h.nx.mono e, fun F' M' d v H' a => h.rt F' M' d v H' (e.trans a), h.bk.mono e, h.ct.mono e⟩
def W3s (B : Hp) (ts : TS) (D3 : Ends3) (σ : Sig) (M : Mem) : Prop :=
  ∀ (F : Hp) (σv : St) (H : Hp) (Dv : Ends), Ex B F → SRel F σ σv → St3 F M H → Imp F D3 Dv → ts Dv σv H

/-! ### consequence -/
section
variable {B : Hp} {te : TE} {tt : TT} {ts : TS} {σ : Sig} {M : Mem} {Q Q' : DQ} {D3 D3' : Ends3}
theorem W3e.to (h : W3e B te σ M Q) (k : ∀ d M', Q d M' → Q' d M') : W3e B te σ M Q' := fun F σv H Qv b hs st q => h F σv H Qv b hs st fun F' M' d v H' e s r z => q F' M' d v H' e s r (k d M' z)
theorem W3t.to {Q Q' : Bool → Mem → Prop} (h : W3t B tt σ M Q) (k : ∀ d M', Q d M' → Q' d M') : W3t B tt σ M Q' := fun F σv H Qv b hs st q => h F σv H Qv b hs st fun F' M' d H' e s z => q F' M' d H' e s (k d M' z)
theorem W3s.to (h : W3s B ts D3 σ M) (k1 : ∀ σ M, D3.nx σ M → D3'.nx σ M) (k2 : ∀ d M, D3.rt d M → D3'.rt d M) (k3 : ∀ σ M, D3.bk σ M → D3'.bk σ M) (k4 : ∀ σ M, D3.ct σ M → D3'.ct σ M) : W3s B ts D3' σ M :=
  fun F σv H Dv b hs st im => h F σv H Dv b hs st ⟨fun F' M' σ' σv' H' e s t q => im.nx F' M' σ' σv' H' e s t (k1 _ _ q), fun F' M' d v H' e s r q => im.rt F' M' d v H' e s r (k2 _ _ q),
    fun F' M' σ' σv' H' e s t q => im.bk F' M' σ' σv' H' e s t (k3 _ _ q), fun F' M' σ' σv' H' e s t q => im.ct F' M' σ' σv' H' e s t (k4 _ _ q)⟩
theorem W3s.nx {nx : Sig → Mem → Prop} (h : W3s B ts { D3 with nx := nx } σ M) (k : ∀ σ M, nx σ M → D3.nx σ M) : W3s B ts D3 σ M := h.to k (fun _ _ z => z) (fun _ _ z => z) (fun _ _ z => z)
end

/-! ### expressions -/
section
variable {B : Hp} {ta tb tc te : TE} {tA tB' : TT} {t tr : TA} {σ : Sig} {M : Mem} {Q : DQ} {d x y : D} {i : Nat} {r r' : R2} {K : PySem.W.Frag}
theorem w_var (h : σ[i]? = some (some d)) (q : Q d M) : W3e B (tVar i) σ M Q := fun F σv H Qv _ hs st k =>
  let ⟨v, e, rd⟩ := hs.2 i d h
  ⟨v, e, k F M d v H (Ex.refl _) st rd q⟩
theorem w_c {v : V} (q : Q d M) (h : ∀ F, RD F d v := by intro F; rfl) : W3e B (tC v) σ M Q := fun F σv H Qv _ hs st k => k F M d v H (Ex.refl _) st (h F) q
theorem w_op (h : W3e B ta σ M (fun x M1 => W3e B tb σ M1 (fun y M2 => R3 B r x y M2 Q))) : W3e B (tOp r ta tb) σ M Q := fun F σv H Qv b hs st k =>
  h F σv H _ b hs st fun F1 M1 x xv H1 e1 st1 rx q1 => q1 F1 σv H1 _ (b.trans e1) (hs.mono e1) st1 fun F2 M2 y yv H2 e2 st2 ry q2 =>
    q2 F2 H2 xv yv Qv ((b.trans e1).trans e2) st2 (rx.mono e2) ry fun F3 M3 d v H3 e3 st3 rd qd => k F3 M3 d v H3 ((e1.trans e2).trans e3) st3 rd qd
theorem w_un {r : V → Hp → VK → Prop} (h : W3e B ta σ M (fun x M1 => U3 B r x M1 Q)) : W3e B (tUn r ta) σ M Q := fun F σv H Qv b hs st k =>
  h F σv H _ b hs st fun F1 M1 x xv H1 e1 st1 rx q1 => q1 F1 H1 xv Qv (b.trans e1) st1 rx fun F3 M3 d v H3 e3 st3 rd qd => k F3 M3 d v H3 (e1.trans e3) st3 rd qd
theorem w_nil {Q : List D → Mem → Prop} (q : Q [] M) : W3a B tNil σ M Q := fun F σv H Qv _ hs st k => k F M [] [] H (Ex.refl _) st rfl q
theorem w_cons {Q : List D → Mem → Prop} (h : W3e B ta σ M (fun x M1 => W3a B tr σ M1 (fun xs M2 => Q (x :: xs) M2))) : W3a B (tCons ta tr) σ M Q := fun F σv H Qv b hs st k =>
  h F σv H _ b hs st fun F1 M1 x xv H1 e1 st1 rx q1 => q1 F1 σv H1 _ (b.trans e1) (hs.mono e1) st1 fun F2 M2 ys yv H2 e2 st2 ry q2 => k F2 M2 (x :: ys) (xv :: yv) H2 (e1.trans e2) st2 ⟨xv, yv, rfl, rx.mono e2, ry⟩ q2
theorem w_tup (h : W3a B t σ M (fun ds M1 => ds.length ≤ 100000 ∧ Q (.tup ds) M1)) : W3e B (tTup t) σ M Q := fun F σv H Qv b hs st k =>
  h F σv H _ b hs st fun F1 M1 ds vs H1 e1 st1 rx ⟨z, q⟩ => ⟨Evl.sz_of (by rw [← rx.length]; exact z), fun p hp => by
    obtain ⟨s2, e2⟩ := st1.new (o := .tup vs) hp
    exact k _ _ (.tup ds) _ _ (e1.trans e2) s2 ⟨p, vs, rfl, upd_same, rx.mono e2⟩ q⟩
theorem w_lst (h : W3a B t σ M (fun ds M1 => ds.length ≤ 100000 ∧ Q (.lst ds) M1)) : W3e B (tLst t) σ M Q := fun F σv H Qv b hs st k =>
  h F σv H _ b hs st fun F1 M1 ds vs H1 e1 st1 rx ⟨z, q⟩ => ⟨Evl.sz_of (by rw [← rx.length]; exact z), fun p hp => by
    obtain ⟨s2, e2⟩ := st1.new (o := .lst vs) hp
    exact k _ _ (.lst ds) _ _ (e1.trans e2) s2 ⟨p, vs, rfl, upd_same, rx.mono e2⟩ q⟩
/-- a written list that will change -/
theorem w_lstO (h : W3a B t σ M (fun ds M1 => ds.length ≤ 100000 ∧ ∀ p, M1 p = none → Q (.ref p) (mput M1 p (.lst ds)))) : W3e B (tLst t) σ M Q := fun F σv H Qv b hs st k =>
  h F σv H _ b hs st fun F1 M1 ds vs H1 e1 st1 rx ⟨z, q⟩ => ⟨Evl.sz_of (by rw [← rx.length]; exact z), fun p hp =>
    k _ _ (.ref p) _ _ e1 (st1.newO (d := .lst ds) hp ⟨vs, rfl, rx⟩) rfl (q p (st1.nn hp).2)⟩
/-! tests -/
theorem w_B {Q : Bool → Mem → Prop} (h : W3e B te σ M (fun x M1 => ∃ k, x = .bl k ∧ Q k M1)) : W3t B (tB te) σ M Q := fun F σv H Qv b hs st k =>
  h F σv H _ b hs st fun F1 M1 x xv H1 e1 st1 rx ⟨c, ec, q⟩ => by
    subst ec
    exact ⟨c, rx, k F1 M1 c H1 e1 st1 q⟩
theorem w_test {Q : Bool → Mem → Prop} (h : W3e B te σ M (fun x M1 => ∃ k, x = .bl k ∧ Q k M1)) : W3t B (tTest te) σ M Q := w_B h
theorem w_andT {Q : Bool → Mem → Prop} (h : W3t B tA σ M (fun c M1 => if c = true then W3t B tB' σ M1 Q else Q false M1)) : W3t B (tAnd tA tB') σ M Q := fun F σv H Qv b hs st k =>
  h F σv H _ b hs st fun F1 M1 c H1 e1 st1 q => by
    cases c with
    | true => exact q F1 σv H1 _ (b.trans e1) (hs.mono e1) st1 fun F2 M2 d H2 e2 st2 q2 => k F2 M2 d H2 (e1.trans e2) st2 q2
    | false => exact k F1 M1 false H1 e1 st1 q
theorem w_orT {Q : Bool → Mem → Prop} (h : W3t B tA σ M (fun c M1 => if c = true then Q true M1 else W3t B tB' σ M1 Q)) : W3t B (tOr tA tB') σ M Q := fun F σv H Qv b hs st k =>
  h F σv H _ b hs st fun F1 M1 c H1 e1 st1 q => by
    cases c with
    | false => exact q F1 σv H1 _ (b.trans e1) (hs.mono e1) st1 fun F2 M2 d H2 e2 st2 q2 => k F2 M2 d H2 (e1.trans e2) st2 q2
    | true => exact k F1 M1 true H1 e1 st1 q
theorem w_notT {Q : Bool → Mem → Prop} (h : W3t B tA σ M (fun c M1 => Q (!c) M1)) : W3t B (tNot tA) σ M Q := fun F σv H Qv b hs st k =>
  h F σv H _ b hs st fun F1 M1 c H1 e1 st1 q => k F1 M1 (!c) H1 e1 st1 q
theorem w_yes {Q : Bool → Mem → Prop} (q : Q true M) : W3t B tYes σ M Q := fun F σv H Qv b hs st k => k F M true H (Ex.refl _) st q
theorem w_andV (h : W3e B ta σ M (fun x M1 => ∃ c, x = .bl c ∧ if c = true then W3e B tb σ M1 Q else Q (.bl false) M1)) : W3e B (tAndV ta tb) σ M Q := fun F σv H Qv b hs st k =>
  h F σv H _ b hs st fun F1 M1 x xv H1 e1 st1 rx ⟨c, ec, q⟩ => by
    subst ec
    refine ⟨c, rx, ?_⟩
    cases c with
    | true => exact q F1 σv H1 _ (b.trans e1) (hs.mono e1) st1 fun F2 M2 d v H2 e2 st2 r2 q2 => k F2 M2 d v H2 (e1.trans e2) st2 r2 q2
    | false => exact k F1 M1 (.bl false) _ H1 e1 st1 rfl q
theorem w_orV (h : W3e B ta σ M (fun x M1 => ∃ c, x = .bl c ∧ if c = true then Q (.bl true) M1 else W3e B tb σ M1 Q)) : W3e B (tOrV ta tb) σ M Q := fun F σv H Qv b hs st k =>
  h F σv H _ b hs st fun F1 M1 x xv H1 e1 st1 rx ⟨c, ec, q⟩ => by
    subst ec
    refine ⟨c, rx, ?_⟩
    cases c with
    | false => exact q F1 σv H1 _ (b.trans e1) (hs.mono e1) st1 fun F2 M2 d v H2 e2 st2 r2 q2 => k F2 M2 d v H2 (e1.trans e2) st2 r2 q2
    | true => exact k F1 M1 (.bl true) _ H1 e1 st1 rfl q
theorem w_notV (h : W3e B ta σ M (fun x M1 => ∃ c, x = .bl c ∧ Q (.bl (!c)) M1)) : W3e B (tNotV ta) σ M Q := fun F σv H Qv b hs st k =>
  h F σv H _ b hs st fun F1 M1 x xv H1 e1 st1 rx ⟨c, ec, q⟩ => by
    subst ec
    exact ⟨c, rx, k F1 M1 (.bl (!c)) _ H1 e1 st1 rfl q⟩
theorem w_ifE (h : W3t B tA σ M (fun c M1 => if c = true then W3e B ta σ M1 Q else W3e B tb σ M1 Q)) : W3e B (tIf tA ta tb) σ M Q := fun F σv H Qv b hs st k =>
  h F σv H _ b hs st fun F1 M1 c H1 e1 st1 q => by
    cases c with
    | true => exact q F1 σv H1 _ (b.trans e1) (hs.mono e1) st1 fun F2 M2 d v H2 e2 st2 r2 q2 => k F2 M2 d v H2 (e1.trans e2) st2 r2 q2
    | false => exact q F1 σv H1 _ (b.trans e1) (hs.mono e1) st1 fun F2 M2 d v H2 e2 st2 r2 q2 => k F2 M2 d v H2 (e1.trans e2) st2 r2 q2
theorem w_isN (h : W3e B ta σ M (fun x M1 => Q (.bl (isNon x)) M1)) : W3e B (tIsN ta) σ M Q := fun F σv H Qv b hs st k =>
  h F σv H _ b hs st fun F1 M1 x xv H1 e1 st1 rx q => k F1 M1 (.bl (isNon x)) _ H1 e1 st1 (by rw [rx.isNon]; rfl) q
theorem w_notN (h : W3e B ta σ M (fun x M1 => Q (.bl (!isNon x)) M1)) : W3e B (tNotN ta) σ M Q := fun F σv H Qv b hs st k =>
  h F σv H _ b hs st fun F1 M1 x xv H1 e1 st1 rx q => k F1 M1 (.bl (!isNon x)) _ H1 e1 st1 (by rw [rx.isNon]; rfl) q
end

/-! ### statements -/
section
variable {B : Hp} {ta tb te : TE} {tc : TT} {ts tu : TS} {σ : Sig} {M : Mem} {D3 : Ends3} {g : TG} {i : Nat}
theorem s_seq (h : W3s B ts { D3 with nx := fun σ M => W3s B tu D3 σ M } σ M) : W3s B (tSeq ts tu) D3 σ M := fun F σv H Dv b hs st im =>
  h F σv H { Dv with nx := tu Dv } b hs st ⟨fun F' M' σ' σv' H' e s t q => q F' σv' H' Dv (b.trans e) s t (im.mono e), im.rt, im.bk, im.ct⟩
theorem s_next (q : D3.nx σ M) : W3s B tNext D3 σ M := fun F σv H Dv b hs st im => im.nx F M σ σv H (Ex.refl _) hs st q
theorem s_brk (q : D3.bk σ M) : W3s B tBreak D3 σ M := fun F σv H Dv b hs st im => im.bk F M σ σv H (Ex.refl _) hs st q
theorem s_cont (q : D3.ct σ M) : W3s B tCont D3 σ M := fun F σv H Dv b hs st im => im.ct F M σ σv H (Ex.refl _) hs st q
theorem s_drop (h : W3e B te σ M (fun _ M1 => D3.nx σ M1)) : W3s B (tDrop te) D3 σ M := fun F σv H Dv b hs st im =>
  h F σv H _ b hs st fun F1 M1 x xv H1 e1 st1 rx q => im.nx F1 M1 σ σv H1 e1 (hs.mono e1) st1 q
theorem s_ret (h : W3e B te σ M D3.rt) : W3s B (tRet te) D3 σ M := fun F σv H Dv b hs st im =>
  h F σv H _ b hs st fun F1 M1 x xv H1 e1 st1 rx q => im.rt F1 M1 x xv H1 e1 st1 rx q
theorem s_retN (q : D3.rt .non M) : W3s B tRetN D3 σ M := fun F σv H Dv b hs st im => im.rt F M .non .non H (Ex.refl _) st rfl q
theorem s_if (h : W3t B tc σ M (fun c M1 => if c = true then W3s B ts D3 σ M1 else W3s B tu D3 σ M1)) : W3s B (tIfS tc ts tu) D3 σ M := fun F σv H Dv b hs st im =>
  h F σv H _ b hs st fun F1 M1 c H1 e1 st1 q => by
    cases c with
    | true => exact q F1 σv H1 Dv (b.trans e1) (hs.mono e1) st1 (im.mono e1)
    | false => exact q F1 σv H1 Dv (b.trans e1) (hs.mono e1) st1 (im.mono e1)
theorem s_asgG (h : W3e B te σ M (fun x M1 => G3 B g x σ M1 D3.nx)) : W3s B (tAsg te g) D3 σ M := fun F σv H Dv b hs st im =>
  h F σv H _ b hs st fun F1 M1 x xv H1 e1 st1 rx q => q F1 σv H1 xv Dv.nx (b.trans e1) (hs.mono e1) st1 rx (im.nx.mono e1)
theorem s_asg (h : W3e B te σ M (fun x M1 => D3.nx (σ.set i (some x)) M1)) : W3s B (tAsg te (gName i)) D3 σ M := fun F σv H Dv b hs st im =>
  h F σv H _ b hs st fun F1 M1 x xv H1 e1 st1 rx q => im.nx F1 M1 _ _ H1 e1 ((hs.mono e1).set rx) st1 q
theorem s_par {i j : Nat} {t : TA} (h : W3a B t σ M (fun ds M1 => ∃ x y, ds = [x, y] ∧ D3.nx ((σ.set i (some x)).set j (some y)) M1)) : W3s B (tPar i j t) D3 σ M := fun F σv H Dv b hs st im =>
  h F σv H _ b hs st fun F1 M1 ds vs H1 e1 st1 rx ⟨x, y, ed, q⟩ => by
    subst ed
    obtain ⟨v, r, e2, r1, w, r', e3, r2, e4⟩ := rx
    subst e2; subst e3; rw [show r' = [] from e4]
    exact ⟨v, w, rfl, im.nx F1 M1 _ _ H1 e1 (((hs.mono e1).set r1).set r2) st1 q⟩
theorem s_cut {Mid : Sig → Mem → Prop} (h : W3s B ts { D3 with nx := Mid } σ M) (k : ∀ σ M, Mid σ M → D3.nx σ M) : W3s B ts D3 σ M := h.nx k
/-! freezing and forgetting -/
/-- forget slots -/
theorem SRel.weak {F : Hp} {σ σ' : Sig} {σv : St} (h : SRel F σ σv) (hl : σ'.length = σ.length) (w : ∀ (i : Nat) (d : D), σ'[i]? = some (some d) → σ[i]? = some (some d)) : SRel F σ' σv := ⟨hl.trans h.1, fun i d q => h.2 i d (w i d q)⟩
/-! targets -/
variable {x : D} {xs : List D} {Q : Sig → Mem → Prop}
theorem g_name (q : Q (σ.set i (some x)) M) : G3 B (gName i) x σ M Q := fun F σv H xv Qv b hs st rx k => k F M _ _ H (Ex.refl _) (hs.set rx) st q
theorem g_tup {K : PySem.W.Frag} {n : Nat} {t : TGs} (e : x = .tup xs) (hl : xs.length = n) (h : G3s B t xs σ M Q) : G3 B (gTup K n t) x σ M Q := fun F σv H xv Qv b hs st rx k => by
  subst e
  obtain ⟨a, vs, e1, hf, r⟩ := rx
  exact ⟨a, vs, e1, .inl (.inl (st.fz a _ hf)), by rw [← r.length]; exact hl, h F σv H vs Qv b hs st r k⟩
theorem g_nil (q : Q σ M) : G3s B gNil [] σ M Q := fun F σv H xv Qv b hs st rx k => ⟨rx, k F M σ σv H (Ex.refl _) hs st q⟩
theorem g_cons {t : TG} {u : TGs} (h : G3 B t x σ M (fun σ1 M1 => G3s B u xs σ1 M1 Q)) : G3s B (gCons t u) (x :: xs) σ M Q := fun F σv H xv Qv b hs st rx k => by
  obtain ⟨v, r, e1, r1, r2⟩ := rx
  refine ⟨v, r, e1, h F σv H v _ b hs st r1 fun F1 M1 σ1 σv1 H1 e s t' q => ?_⟩
  exact q F1 σv1 H1 r Qv (b.trans e) s t' (r2.mono e) fun F2 M2 σ2 σv2 H2 e2 s2 t2 q2 => k F2 M2 σ2 σv2 H2 (e.trans e2) s2 t2 q2
end
end T3
set_option Elab.async false
set_option linter.all false
set_option maxRecDepth 100000
set_option maxHeartbeats 2000000
namespace T3
open PySem L2
open Evl (Ex)

/-! ### seeing a state otherwise -/
def VS (d : D) (M : Mem) (d' : D) (M' : Mem) : Prop := ∀ F H v, St3 F M H → RD F d v → ∃ F', Ex F F' ∧ St3 F' M' H ∧ RD F' d' v
def VSs (σ : Sig) (M : Mem) (σ' : Sig) (M' : Mem) : Prop := ∀ F H σv, St3 F M H → SRel F σ σv → ∃ F', Ex F F' ∧ St3 F' M' H ∧ SRel F' σ' σv
theorem vs_lst {M : Mem} {p : Addr} {ds : List D} (h : M p = some (.lst ds)) : VS (.ref p) M (.lst ds) (mdel M p) := fun F H v st rd => by
  obtain ⟨f0, ho, e1, vs, e2, r⟩ := st.own p _ h
  subst e2
  obtain ⟨s2, e⟩ := st.freeze h e1
  exact ⟨_, e, s2, p, vs, rd, upd_same, r.mono e⟩
theorem zip_unzip {κ : Type} : ∀ (l : List (κ × V)), (l.map (·.1)).zip (l.map (·.2)) = l
  | [] => rfl
  | a :: r => by show (a.1, a.2) :: (r.map (·.1)).zip (r.map (·.2)) = a :: r; rw [zip_unzip r]
theorem PKV.fst {κ : Type} {F : Hp} : ∀ {l : List (κ × D)} {m : List (κ × V)}, PKV F l m → l.map (·.1) = m.map (·.1)
  | _, _, .nil => rfl
  | _, _, .cons a t => by rw [List.map_cons, List.map_cons, a.1, PKV.fst t]
theorem PKV.snd {κ : Type} {F : Hp} : ∀ {l : List (κ × D)} {m : List (κ × V)}, PKV F l m → RDs F (l.map (·.2)) (m.map (·.2))
  | _, _, .nil => rfl
  | _, _, .cons a t => ⟨_, _, rfl, a.2, PKV.snd t⟩
theorem vs_ins {M : Mem} {p C : Addr} {fs : List (Str × D)} (h : M p = some (.ins C fs)) : VS (.ref p) M (.ins C (fs.map (·.1)) (fs.map (·.2))) (mdel M p) := fun F H v st rd => by
  obtain ⟨f0, ho, e1, dx, fv, e2, r⟩ := st.own p _ h
  subst e2
  obtain ⟨s2, e⟩ := st.freeze h e1
  refine ⟨_, e, s2, p, dx, fv.map (·.2), rd, ?_, ?_, r.snd.mono e⟩
  · rw [r.fst, zip_unzip]; exact upd_same
  · rw [r.fst, List.length_map, List.length_map]
theorem vss_lst {σ : Sig} {M : Mem} {p : Addr} {ds : List D} (i : Nat) (hi : σ[i]? = some (some (.ref p))) (h : M p = some (.lst ds)) : VSs σ M (σ.set i (some (.lst ds))) (mdel M p) := fun F H σv st hs => by
  obtain ⟨f0, ho, e1, vs, e2, r⟩ := st.own p _ h
  subst e2
  obtain ⟨s2, e⟩ := st.freeze h e1
  refine ⟨_, e, s2, ?_⟩
  obtain ⟨v, hv, rv⟩ := hs.2 i _ hi
  have hset : σv.set i (some v) = σv := by
    apply List.ext_getElem?
    intro j
    by_cases q : i = j
    · subst q; rw [List.getElem?_set_self (List.getElem?_eq_some_iff.mp hv).1, hv]
    · rw [List.getElem?_set_ne q]
  have := (hs.mono e).set (i := i) (d := .lst ds) (v := v) ⟨p, vs, rv, upd_same, r.mono e⟩
  rwa [hset] at this
theorem vss_drop {σ : Sig} {M : Mem} (p : Addr) : VSs σ M σ (mdel M p) := fun F H σv st hs => ⟨F, Ex.refl _, st.drop p, hs⟩
theorem vss_wk {σ σ' : Sig} {M : Mem} (hl : σ'.length = σ.length) (w : ∀ (i : Nat) (d : D), σ'[i]? = some (some d) → σ[i]? = some (some d)) : VSs σ M σ' M := fun F H σv st hs => ⟨F, Ex.refl _, st, hs.weak hl w⟩
section
variable {B : Hp} {te : TE} {ts : TS} {σ σ' : Sig} {M M' : Mem} {Q : DQ} {D3 : Ends3}
theorem w_vs (h : W3e B te σ M (fun d M1 => ∃ d' M', VS d M1 d' M' ∧ Q d' M')) : W3e B te σ M Q := fun F σv H Qv b hs st k =>
  h F σv H _ b hs st fun F1 M1 x xv H1 e1 st1 rx ⟨d', M', vs, q⟩ => by
    obtain ⟨F2, e2, s2, r2⟩ := vs F1 H1 xv st1 rx
    exact k F2 M' d' xv H1 (e1.trans e2) s2 r2 q
theorem s_vs (vs : VSs σ M σ' M') (h : W3s B ts D3 σ' M') : W3s B ts D3 σ M := fun F σv H Dv b hs st im => by
  obtain ⟨F2, e2, s2, r2⟩ := vs F H σv st hs
  exact h F2 σv H Dv (b.trans e2) r2 s2 (im.mono e2)
theorem e_vs (vs : VSs σ M σ' M') (h : W3e B te σ' M' Q) : W3e B te σ M Q := fun F σv H Qv b hs st k => by
  obtain ⟨F2, e2, s2, r2⟩ := vs F H σv st hs
  exact h F2 σv H Qv (b.trans e2) r2 s2 fun F' M' d v H' e => k F' M' d v H' (e2.trans e)
theorem VSs.rfl' : VSs σ M σ M := fun F H σv st hs => ⟨F, Ex.refl _, st, hs⟩
theorem VSs.trans {σ1 σ2 : Sig} {M1 M2 : Mem} (a : VSs σ M σ1 M1) (b : VSs σ1 M1 σ2 M2) : VSs σ M σ2 M2 := fun F H σv st hs => by
  obtain ⟨F1, e1, s1, r1⟩ := a F H σv st hs
  obtain ⟨F2, e2, s2, r2⟩ := b F1 H σv s1 r1
  exact ⟨F2, e1.trans e2, s2, r2⟩
end

/-! ### data -/
mutual
def py : D → PyData
  | .non => .none
  | .bl b => .bool b
  | .int i => .int i
  | .str x => .str x
  | .tup ds => .tuple (pys ds)
  | .lst ds => .list (pys ds)
  | .ty _ => .none
  | .ref _ => .none
  | .ins _ _ _ => .none
def pys : List D → List PyData
  | [] => []
  | d :: ds => py d :: pys ds
end
mutual
/-- data: no reference in it, no deeper than n -/
def okD : Nat → D → Bool
  | _, .non => true
  | _, .bl _ => true
  | _, .int _ => true
  | _, .str x => x.cps.all (· < 0x110000)
  | 0, .tup _ => false
  | 0, .lst _ => false
  | n + 1, .tup ds => okDs n ds
  | n + 1, .lst ds => okDs n ds
  | _, .ty _ => false
  | _, .ref _ => false
  | _, .ins _ _ _ => false
def okDs : Nat → List D → Bool
  | _, [] => true
  | n, d :: ds => okD n d && okDs n ds
end
mutual
theorem okD_dp {K : PySem.W.Frag} {F H : Hp} (e : Ex F H) : ∀ {n : Nat} {d : D} {v : V}, okD n d = true → RD F d v → Dp K H v (py d)
  | _, .non, _, _, r => by rw [show _ = V.non from r]; exact .non
  | _, .bl b, _, _, r => by rw [show _ = V.bl b from r]; exact .bl b
  | _, .int b, _, _, r => by rw [show _ = V.int b from r]; exact .int b
  | _, .str b, _, _, r => by rw [show _ = V.str b from r]; exact .str b
  | n + 1, .tup ds, _, o, ⟨a, vs, e1, h, rs⟩ => by rw [e1]; exact .tup (.inl (.inl (e a _ h))) (okDs_dp e (n := n) o rs)
  | n + 1, .lst ds, _, o, ⟨a, vs, e1, h, rs⟩ => by rw [e1]; exact .lst (.inl (.inl (e a _ h))) (okDs_dp e (n := n) o rs)
  | 0, .tup _, _, o, _ => nomatch o
  | 0, .lst _, _, o, _ => nomatch o
  | 0, .ty _, _, o, _ => nomatch o
  | 0, .ref _, _, o, _ => nomatch o
  | 0, .ins _ _ _, _, o, _ => nomatch o
  | _ + 1, .ty _, _, o, _ => nomatch o
  | _ + 1, .ref _, _, o, _ => nomatch o
  | _ + 1, .ins _ _ _, _, o, _ => nomatch o
theorem okDs_dp {K : PySem.W.Frag} {F H : Hp} (e : Ex F H) : ∀ {n : Nat} {ds : List D} {vs : List V}, okDs n ds = true → RDs F ds vs → DpAll K H vs (pys ds)
  | _, [], _, _, r => by rw [show _ = [] from r]; exact .nil
  | n, d :: ds, _, o, ⟨v, r, e1, h, hr⟩ => by
    rw [e1]
    have o' : okD n d = true ∧ okDs n ds = true := Bool.and_eq_true_iff.mp o
    exact .cons (okD_dp e o'.1 h) (okDs_dp e o'.2 hr)
end
mutual
theorem okD_lay : ∀ {n : Nat} {d : D}, okD n d = true → (py d).canLay0 = true
  | _, .non, _ => rfl
  | _, .bl _, _ => rfl
  | _, .int _, _ => rfl
  | _, .str _, o => o
  | n + 1, .tup ds, o => by show PyData.canLayAll0 (pys ds) = true; exact okDs_lay (n := n) o
  | n + 1, .lst ds, o => by show PyData.canLayAll0 (pys ds) = true; exact okDs_lay (n := n) o
  | 0, .tup _, o => nomatch o
  | 0, .lst _, o => nomatch o
  | _, .ty _, _ => rfl
  | _, .ref _, _ => rfl
  | _, .ins _ _ _, _ => rfl
theorem okDs_lay : ∀ {n : Nat} {ds : List D}, okDs n ds = true → PyData.canLayAll0 (pys ds) = true
  | _, [], _ => rfl
  | n, d :: ds, o => by
    have o' : okD n d = true ∧ okDs n ds = true := Bool.and_eq_true_iff.mp o
    show (PyData.canLay0 (py d) && PyData.canLayAll0 (pys ds)) = true
    rw [okD_lay o'.1, okDs_lay o'.2] <;> rfl
end
mutual
theorem okD_depth : ∀ {n : Nat} {d : D}, okD n d = true → (py d).depth ≤ n
  | _, .non, _ => Nat.zero_le _
  | _, .bl _, _ => Nat.zero_le _
  | _, .int _, _ => Nat.zero_le _
  | _, .str _, _ => Nat.zero_le _
  | n + 1, .tup ds, o => by show PyData.depthAll (pys ds) + 1 ≤ n + 1; exact Nat.succ_le_succ (okDs_depth (n := n) o)
  | n + 1, .lst ds, o => by show PyData.depthAll (pys ds) + 1 ≤ n + 1; exact Nat.succ_le_succ (okDs_depth (n := n) o)
  | 0, .tup _, o => nomatch o
  | 0, .lst _, o => nomatch o
  | _, .ty _, _ => Nat.zero_le _
  | _, .ref _, _ => Nat.zero_le _
  | _, .ins _ _ _, _ => Nat.zero_le _
theorem okDs_depth : ∀ {n : Nat} {ds : List D}, okDs n ds = true → PyData.depthAll (pys ds) ≤ n
  | _, [], _ => Nat.zero_le _
  | n, d :: ds, o => by
    have o' : okD n d = true ∧ okDs n ds = true := Bool.and_eq_true_iff.mp o
    show max (py d).depth (PyData.depthAll (pys ds)) ≤ n
    exact Nat.max_le.mpr ⟨okD_depth o'.1, okDs_depth o'.2⟩
end
theorem okD_shaped {n : Nat} {d : D} (h : okD n d = true) (hn : n ≤ 64 := by decide) : SeqAt.shaped (py d) = true := by
  unfold SeqAt.shaped
  rw [okD_lay h, decide_eq_true (Nat.le_trans (okD_depth h) hn)]
  rfl
theorem okDs_iff {n : Nat} : ∀ {ds : List D}, okDs n ds = true ↔ ∀ d ∈ ds, okD n d = true
  | [] => by simp [okDs]
  | d :: ds => by simp [okDs, okDs_iff (ds := ds)]
theorem pys_map : ∀ ds : List D, pys ds = ds.map py
  | [] => rfl
  | d :: ds => by show py d :: pys ds = _; rw [pys_map ds]; rfl
/-- Python's == -/
def peq (x y : D) : Bool := PyData.eqv (py x) (py y)
@[simp] theorem peq_int (i j : Int) : peq (.int i) (.int j) = (i == j) := rfl
@[simp] theorem peq_str (i j : Str) : peq (.str i) (.str j) = (i == j) := rfl
@[simp] theorem peq_bl (i j : Bool) : peq (.bl i) (.bl j) = (i == j) := rfl
@[simp] theorem peq_tup (x y : List D) : peq (.tup x) (.tup y) = PyData.eqvAll (pys x) (pys y) := rfl
@[simp] theorem peq_lst (x y : List D) : peq (.lst x) (.lst y) = PyData.eqvAll (pys x) (pys y) := rfl
@[simp] theorem peqs_nil : PyData.eqvAll (pys []) (pys []) = true := rfl
@[simp] theorem peqs_nc (y : D) (ys : List D) : PyData.eqvAll (pys []) (pys (y :: ys)) = false := rfl
@[simp] theorem peqs_cn (y : D) (ys : List D) : PyData.eqvAll (pys (y :: ys)) (pys []) = false := rfl
@[simp] theorem peqs_cc (x y : D) (xs ys : List D) : PyData.eqvAll (pys (x :: xs)) (pys (y :: ys)) = (peq x y && PyData.eqvAll (pys xs) (pys ys)) := rfl
/-- for encodings whose == is equality -/
theorem peqs_map {α : Type} [DecidableEq α] (f : α → D) (h : ∀ a b, peq (f a) (f b) = decide (a = b)) : ∀ xs ys : List α, PyData.eqvAll (pys (xs.map f)) (pys (ys.map f)) = decide (xs = ys)
  | [], [] => rfl
  | [], _ :: _ => rfl
  | _ :: _, [] => rfl
  | x :: xs, y :: ys => by
    show (peq (f x) (f y) && PyData.eqvAll (pys (xs.map f)) (pys (ys.map f))) = _
    rw [h, peqs_map f h xs ys]
    simp [List.cons.injEq]

/-! ### operators by their kinds of values -/
def rADD : R2 := fun x y H Q => (∃ i j, x = .int i ∧ y = .int j ∧ Q (.int (i + j)) H) ∨ (∃ i j, x = .str i ∧ y = .str j ∧ i.length + j.length ≤ sizeLine ∧ Q (.str (i ++ j)) H) ∨ rCat x y H Q
section
variable {X : Cx}
theorem op_ADD : OpR X (binaryOp .Add) rADD := by
  intro pins s σ H x y v u Q I rx ry h
  rcases h with h | h | h
  · exact op_add pins s σ H x y v u Q I rx ry h
  · exact op_add_str pins s σ H x y v u Q I rx ry h
  · exact op_cat pins s σ H x y v u Q I rx ry h
end
def rIN (K : PySem.W.Frag) (P : Program) (w : World) (neg : Bool) : R2 := fun x y H Q =>
  (∃ d ds, Dp K H x d ∧ Dp K H y (.list ds) ∧ SeqAt.shaped d = true ∧ SeqAt.shaped (.list ds) = true ∧ Q (.bl (if neg then !(ds.any fun z => PyData.eqv z d) else ds.any fun z => PyData.eqv z d)) H) ∨
  rIn K neg x y H Q ∨ rSInK P w neg x y H Q ∨ (∃ (c : Nat) (z : Str), x = .str ⟨#[c]⟩ ∧ y = .str z ∧ Q (.bl (if neg then !(decide (c ∈ z.cps.toList)) else decide (c ∈ z.cps.toList))) H)
section
variable {X : Cx}
theorem op_IN (hu : X.A.units + 65 < cLine) : OpR X (compareOp .In) (rIN X.K X.prog X.w false) := by
  intro pins s σ H x y v u Q I rx ry h
  rcases h with h | h | h | h
  · exact op_inD hu pins s σ H x y v u Q I rx ry h
  · exact op_in_seq pins s σ H x y v u Q I rx ry h
  · exact or_sinK pins s σ H x y v u Q I rx ry h
  · exact op_in_sign pins s σ H x y v u Q I rx ry h
theorem op_NIN (hu : X.A.units + 65 < cLine) : OpR X (compareOp .NotIn) (rIN X.K X.prog X.w true) := by
  intro pins s σ H x y v u Q I rx ry h
  rcases h with h | h | h | h
  · exact op_notInD hu pins s σ H x y v u Q I rx ry h
  · exact op_notIn_seq pins s σ H x y v u Q I rx ry h
  · exact or_snotinK pins s σ H x y v u Q I rx ry h
  · exact op_notIn_sign pins s σ H x y v u Q I rx ry h
end
end T3
set_option Elab.async false
set_option linter.all false
set_option maxRecDepth 100000
set_option maxHeartbeats 2000000
namespace T3
open PySem L2
open Evl (Ex)
/-! ### operators -/
section
variable {B : Hp} {M : Mem} {Q : DQ} {K : PySem.W.Frag} {P : Program} {w : World} {d x y : D} {ds xs ys : List D} {i j : Int} {s t : Str} {a b : Addr}
theorem r3_I0 {g : Int → Int → V} (q : Q d M) (h : ∀ F, RD F d (g i j) := by intro F; rfl) : R3 B (rI0 g) (.int i) (.int j) M Q := fun F H xv yv Qv _ st rx ry k => ⟨i, j, rx, ry, k F M d _ H (Ex.refl _) st (h F) q⟩
theorem r3_I {C : Int → Int → Prop} {g : Int → Int → V} (hc : C i j) (q : Q d M) (h : ∀ F, RD F d (g i j) := by intro F; rfl) : R3 B (rI C g) (.int i) (.int j) M Q := fun F H xv yv Qv _ st rx ry k => ⟨i, j, rx, ry, hc, k F M d _ H (Ex.refl _) st (h F) q⟩
theorem u3_I {g : Int → V} (q : Q d M) (h : ∀ F, RD F d (g i) := by intro F; rfl) : U3 B (rU g) (.int i) M Q := fun F H xv Qv _ st rx k => ⟨i, rx, k F M d _ H (Ex.refl _) st (h F) q⟩
theorem r3_add_ii (q : Q (.int (i + j)) M) : R3 B rADD (.int i) (.int j) M Q := fun F H xv yv Qv b st rx ry k => .inl ⟨i, j, rx, ry, k F M (.int (i + j)) _ H (Ex.refl _) st rfl q⟩
theorem r3_add_ss (h : s.length + t.length ≤ 1000000) (q : Q (.str (s ++ t)) M) : R3 B rADD (.str s) (.str t) M Q := fun F H xv yv Qv b st rx ry k => .inr (.inl ⟨s, t, rx, ry, Nat.le_trans h (by decide), k F M (.str (s ++ t)) _ H (Ex.refl _) st rfl q⟩)
/-- a list to be read: frozen, or owned -/
def LstD (M : Mem) (x : D) (ds : List D) : Prop := x = .lst ds ∨ ∃ a, x = .ref a ∧ M a = some (.lst ds)
theorem LstD.fz {M : Mem} {ds : List D} : LstD M (.lst ds) ds := .inl rfl
theorem LstD.ow {M : Mem} {a : Addr} {ds : List D} (h : M a = some (.lst ds)) : LstD M (.ref a) ds := .inr ⟨a, rfl, h⟩
theorem LstD.at {M : Mem} {x : D} {ds : List D} {F H : Hp} {v : V} (l : LstD M x ds) (st : St3 F M H) (r : RD F x v) : ∃ a vs, v = .ref a ∧ H a = some (.lst vs) ∧ RDs F ds vs := by
  rcases l with e | ⟨a, e, h⟩
  · subst e
    obtain ⟨a, vs, e1, h, rs⟩ := r
    exact ⟨a, vs, e1, st.fz a _ h, rs⟩
  · subst e
    obtain ⟨_, ho, h1, vs, e2, rs⟩ := st.own a _ h
    subst e2
    exact ⟨a, vs, r, h1, rs⟩
theorem LstD.seq {M : Mem} {x : D} {ds : List D} {F H : Hp} {v : V} (l : LstD M x ds) (st : St3 F M H) (r : RD F x v) : ∃ a vs, v = .ref a ∧ SqL K H a vs ∧ RDs F ds vs := by
  obtain ⟨a, vs, e, h, rs⟩ := l.at st r
  exact ⟨a, vs, e, .inl (.inl h), rs⟩
theorem r3_add_ll (lx : LstD M x xs) (ly : LstD M y ys) (h : xs.length + ys.length ≤ 1000000) (q : Q (.lst (xs ++ ys)) M) : R3 B rADD x y M Q := fun F H xv yv Qv b st rx ry k => by
  obtain ⟨a, vs, e1, h1, r1⟩ := lx.at st rx
  obtain ⟨c, us, e2, h2, r2⟩ := ly.at st ry
  refine .inr (.inr ⟨a, c, vs, us, e1, e2, h1, h2, ?_, fun p hp => ?_⟩)
  · rw [← r1.length, ← r2.length]; exact Nat.le_trans h (by decide)
  · obtain ⟨s2, e⟩ := st.new (o := .lst (vs ++ us)) hp
    exact k _ _ (.lst (xs ++ ys)) _ _ e s2 ⟨p, _, rfl, upd_same, (r1.append r2).mono e⟩ q
theorem r3_eq {n m : Nat} (hx : okD n x = true) (hy : okD m y = true) (q : Q (.bl (peq x y)) M) (hn : n ≤ 64 := by decide) (hm : m ≤ 64 := by decide) : R3 B (rEqD K) x y M Q := fun F H xv yv Qv b st rx ry k =>
  ⟨py x, py y, okD_dp st.fz hx rx, okD_dp st.fz hy ry, okD_shaped hx hn, okD_shaped hy hm, k F M (.bl (peq x y)) _ H (Ex.refl _) st rfl q⟩
theorem r3_ne {n m : Nat} (hx : okD n x = true) (hy : okD m y = true) (q : Q (.bl (!peq x y)) M) (hn : n ≤ 64 := by decide) (hm : m ≤ 64 := by decide) : R3 B (rNeD K) x y M Q := fun F H xv yv Qv b st rx ry k =>
  ⟨py x, py y, okD_dp st.fz hx rx, okD_dp st.fz hy ry, okD_shaped hx hn, okD_shaped hy hm, k F M (.bl (!peq x y)) _ H (Ex.refl _) st rfl q⟩
/-- owned lists of data -/
theorem LstD.dp {M : Mem} {n : Nat} {F H : Hp} {v : V} (l : LstD M x ds) (h : okDs n ds = true) (st : St3 F M H) (r : RD F x v) : Dp K H v (.list (pys ds)) := by
  obtain ⟨a, vs, e, h1, rs⟩ := l.at st r
  rw [e]
  exact .lst (.inl (.inl h1)) (okDs_dp st.fz h rs)
theorem okDs_shaped {n : Nat} (h : okDs n ds = true) (hn : n < 64) : SeqAt.shaped (.list (pys ds)) = true := by
  have : okD (n + 1) (.lst ds) = true := h
  exact okD_shaped this hn
theorem r3_eqO {n m : Nat} (lx : LstD M x xs) (ly : LstD M y ys) (hx : okDs n xs = true) (hy : okDs m ys = true) (q : Q (.bl (PyData.eqvAll (pys xs) (pys ys))) M) (hn : n < 64 := by decide) (hm : m < 64 := by decide) : R3 B (rEqD K) x y M Q := fun F H xv yv Qv b st rx ry k =>
  ⟨.list (pys xs), .list (pys ys), lx.dp hx st rx, ly.dp hy st ry, okDs_shaped hx hn, okDs_shaped hy hm, k F M (.bl (PyData.eqvAll (pys xs) (pys ys))) _ H (Ex.refl _) st rfl q⟩
theorem r3_neO {n m : Nat} (lx : LstD M x xs) (ly : LstD M y ys) (hx : okDs n xs = true) (hy : okDs m ys = true) (q : Q (.bl (!PyData.eqvAll (pys xs) (pys ys))) M) (hn : n < 64 := by decide) (hm : m < 64 := by decide) : R3 B (rNeD K) x y M Q := fun F H xv yv Qv b st rx ry k =>
  ⟨.list (pys xs), .list (pys ys), lx.dp hx st rx, ly.dp hy st ry, okDs_shaped hx hn, okDs_shaped hy hm, k F M (.bl (!PyData.eqvAll (pys xs) (pys ys))) _ H (Ex.refl _) st rfl q⟩
theorem any_pys (d : PyData) : ∀ ds : List D, ((pys ds).any fun z => PyData.eqv z d) = ds.any fun z => PyData.eqv (py z) d
  | [] => rfl
  | z :: zs => by show (PyData.eqv (py z) d || (pys zs).any _) = (PyData.eqv (py z) d || zs.any _); rw [any_pys d zs]
theorem r3_in {n m : Nat} {neg : Bool} (ly : LstD M y ys) (hx : okD n x = true) (hy : okDs m ys = true) (q : Q (.bl (if neg then !(ys.any fun z => peq z x) else ys.any fun z => peq z x)) M) (hn : n ≤ 64 := by decide) (hm : m < 64 := by decide) : R3 B (rIN K P w neg) x y M Q := fun F H xv yv Qv b st rx ry k =>
  .inl ⟨py x, pys ys, okD_dp st.fz hx rx, ly.dp hy st ry, okD_shaped hx hn, okDs_shaped hy hm, by
    rw [any_pys]
    exact k F M (.bl (if neg then !(ys.any fun z => peq z x) else ys.any fun z => peq z x)) _ H (Ex.refl _) st (by cases neg <;> rfl) q⟩
theorem r3_in_set {neg : Bool} {k : Key} {S : Key → Bool} {n : Nat} (hx : ∀ F v, RD F x v → v = kV k) (h : M a = some (.raw (SetK P w a S n))) (q : Q (.bl (if neg then !S k else S k)) M) : R3 B (rIN K P w neg) x (.ref a) M Q := fun F H xv yv Qv b st rx ry kk => by
  obtain ⟨_, ho, h1, e⟩ := st.own a _ h
  rw [show ho = _ from e] at h1
  exact .inr (.inr (.inl ⟨k, a, S, n, hx F xv rx, ry, h1, kk F M (.bl (if neg then !S k else S k)) _ H (Ex.refl _) st rfl q⟩))
theorem r3_in_sign {neg : Bool} {c : Nat} {z : Str} (q : Q (.bl (if neg then !(decide (c ∈ z.cps.toList)) else decide (c ∈ z.cps.toList))) M) : R3 B (rIN K P w neg) (.str ⟨#[c]⟩) (.str z) M Q := fun F H xv yv Qv b st rx ry kk =>
  .inr (.inr (.inr ⟨c, z, rx, ry, kk F M (.bl (if neg then !(decide (c ∈ z.cps.toList)) else decide (c ∈ z.cps.toList))) _ H (Ex.refl _) st rfl q⟩))
end
/-! ### items, slices -/
section
variable {B : Hp} {M : Mem} {Q : DQ} {K : PySem.W.Frag} {P : Program} {w : World} {d x y : D} {ds xs ys : List D} {i j : Int} {s t : Str} {a b : Addr}
theorem atI_rel {F : Hp} {vs : List V} (r : RDs F ds vs) (h : atI ds i = some d) : ∃ v, atI vs i = some v ∧ RD F d v := by
  unfold atI at h ⊢
  rw [← r.length]
  cases e : ixN ds.length i with
  | none => rw [e] at h; cases h
  | some k =>
    rw [e] at h
    exact r.at h
theorem r3_ix_l (l : LstD M x ds) (h : atI ds i = some d) (q : Q d M) : R3 B (rIx K) x (.int i) M Q := fun F H xv yv Qv b st rx ry k => by
  obtain ⟨a, vs, e, h1, r⟩ := l.seq (K := K) st rx
  obtain ⟨v, hv, rv⟩ := atI_rel r h
  exact .inl ⟨a, vs, i, v, e, ry, h1, hv, k F M d v H (Ex.refl _) st rv q⟩
theorem r3_ix_t (h : atI ds i = some d) (q : Q d M) : R3 B (rIx K) (.tup ds) (.int i) M Q := fun F H xv yv Qv b st rx ry k => by
  obtain ⟨a, vs, e, h1, r⟩ := rx
  obtain ⟨v, hv, rv⟩ := atI_rel r h
  exact .inr (.inl ⟨a, vs, i, v, e, ry, .inl (.inl (st.fz a _ h1)), hv, k F M d v H (Ex.refl _) st rv q⟩)
theorem r3_ix_s {c : Nat} (hl : s.length ≤ 1000000) (h : atI s.cps.toList i = some c) (q : Q (.str ⟨#[c]⟩) M) : R3 B (rIx K) (.str s) (.int i) M Q := fun F H xv yv Qv b st rx ry k =>
  .inr (.inr ⟨s, i, c, rx, ry, Nat.le_trans hl (by decide), h, k F M (.str ⟨#[c]⟩) _ H (Ex.refl _) st rfl q⟩)
def O3 (B : Hp) (to : TO) (σ : Sig) (M : Mem) (Q : Option Int → Mem → Prop) : Prop :=
  ∀ (F : Hp) (σv : St) (H : Hp) (Qv : Option Int → Hp → Prop), Ex B F → SRel F σ σv → St3 F M H → (∀ F' M' o H', Ex F F' → St3 F' M' H' → Q o M' → Qv o H') → to σv H Qv
theorem o_no {σ : Sig} {Q : Option Int → Mem → Prop} (q : Q none M) : O3 B tNoPart σ M Q := fun F σv H Qv b hs st k => k F M none H (Ex.refl _) st q
theorem o_some {σ : Sig} {te : TE} {Q : Option Int → Mem → Prop} (h : W3e B te σ M (fun x M1 => ∃ i, x = .int i ∧ Q (some i) M1)) : O3 B (tPart te) σ M Q := fun F σv H Qv b hs st k =>
  h F σv H _ b hs st fun F1 M1 x xv H1 e1 st1 rx ⟨i, ex, q⟩ => by
    subst ex
    exact ⟨i, rx, k F1 M1 (some i) H1 e1 st1 q⟩
def S3 (B : Hp) (r : V → Option Int → Option Int → Hp → VK → Prop) (x : D) (lo hi : Option Int) (M : Mem) (Q : DQ) : Prop :=
  ∀ (F : Hp) (H : Hp) (xv : V) (Qv : VK), Ex B F → St3 F M H → RD F x xv → (∀ F' M' d v H', Ex F F' → St3 F' M' H' → RD F' d v → Q d M' → Qv v H') → r xv lo hi H Qv
theorem w_sl {r : V → Option Int → Option Int → Hp → VK → Prop} {te : TE} {tl th : TO} {σ : Sig} (h : W3e B te σ M (fun x M1 => O3 B tl σ M1 (fun lo M2 => O3 B th σ M2 (fun hi M3 => S3 B r x lo hi M3 Q)))) : W3e B (tSl r te tl th) σ M Q := fun F σv H Qv b hs st k =>
  h F σv H _ b hs st fun F1 M1 x xv H1 e1 st1 rx q1 => q1 F1 σv H1 _ (b.trans e1) (hs.mono e1) st1 fun F2 M2 lo H2 e2 st2 q2 =>
    q2 F2 σv H2 _ ((b.trans e1).trans e2) ((hs.mono e1).mono e2) st2 fun F3 M3 hi H3 e3 st3 q3 =>
      q3 F3 H3 xv Qv (((b.trans e1).trans e2).trans e3) st3 ((rx.mono e2).mono e3) fun F4 M4 d v H4 e4 st4 rd qd => k F4 M4 d v H4 (((e1.trans e2).trans e3).trans e4) st4 rd qd
def cutD (xs : List D) (lo hi : Option Int) : List D := (xs.drop (HT.sIx xs.length 0 lo)).take (HT.sIx xs.length xs.length hi - HT.sIx xs.length 0 lo)
theorem RDs.cut {F : Hp} {vs : List V} (r : RDs F ds vs) (lo hi : Option Int) : RDs F (cutD ds lo hi) (cutV vs lo hi) := by
  unfold cutD cutV
  rw [← r.length]
  exact (r.drop _).take _
def rSL (K : PySem.W.Frag) : V → Option Int → Option Int → Hp → VK → Prop := fun x lo hi H Q => rSlL K x lo hi H Q ∨ rSlS x lo hi H Q
theorem sl_SL {X : Cx} : SlR X (rSL X.K) := sl_list.or sl_str
theorem s3_l {lo hi : Option Int} (l : LstD M x ds) (q : Q (.lst (cutD ds lo hi)) M) : S3 B (rSL K) x lo hi M Q := fun F H xv Qv b st rx k => by
  obtain ⟨a, vs, e, h1, r⟩ := l.seq (K := K) st rx
  refine .inl ⟨a, vs, e, h1, fun p hp => ?_⟩
  obtain ⟨s2, e2⟩ := st.new (o := .lst (cutV vs lo hi)) hp
  exact k _ _ (.lst (cutD ds lo hi)) _ _ e2 s2 ⟨p, _, rfl, upd_same, (r.cut lo hi).mono e2⟩ q
end
section
variable {B : Hp} {M : Mem} {Q : DQ} {K : PySem.W.Frag} {P : Program} {w : World} {d x y : D} {ds xs ys : List D} {i j : Int} {s t : Str} {a b : Addr}
theorem s3_s {lo hi : Option Int} (hl : s.length ≤ 1000000) (q : Q (.str (cutS s lo hi)) M) : S3 B (rSL K) (.str s) lo hi M Q := fun F H xv Qv b st rx k =>
  .inr ⟨s, rx, Nat.le_trans hl (by decide), k F M (.str (cutS s lo hi)) _ H (Ex.refl _) st rfl q⟩
/-! ### calls of built-ins -/
theorem w_cb {r : List V → Hp → VK → Prop} {t : TA} {σ : Sig} (h : W3a B t σ M (fun xs M1 => C3 B r xs M1 Q)) : W3e B (tCB r t) σ M Q := fun F σv H Qv b hs st k =>
  h F σv H _ b hs st fun F1 M1 x xv H1 e1 st1 rx q1 => q1 F1 H1 xv Qv (b.trans e1) st1 rx fun F3 M3 d v H3 e3 st3 rd qd => k F3 M3 d v H3 (e1.trans e3) st3 rd qd
theorem RDs.sing {F : Hp} {xv : List V} (h : RDs F [x] xv) : ∃ v, xv = [v] ∧ RD F x v := by
  obtain ⟨v, r, e, h1, h2⟩ := h
  exact ⟨v, by rw [e, show r = [] from h2], h1⟩
theorem RDs.two {F : Hp} {xv : List V} (h : RDs F [x, y] xv) : ∃ v u, xv = [v, u] ∧ RD F x v ∧ RD F y u := by
  obtain ⟨v, r, e, h1, h2⟩ := h
  obtain ⟨u, e2, h3⟩ := h2.sing
  exact ⟨v, u, by rw [e, e2], h1, h3⟩
abbrev rLEN (K : PySem.W.Frag) : List V → Hp → VK → Prop := fun xs H Q => ∃ x n, xs = [x] ∧ LenV K x H n ∧ Q (.int n) H
theorem c3_len (l : LstD M x ds) (q : Q (.int ds.length) M) : C3 B (rLEN K) [x] M Q := fun F H xv Qv b st rx k => by
  obtain ⟨v, e, r⟩ := rx.sing
  obtain ⟨a, vs, e1, h1, rs⟩ := l.seq (K := K) st r
  subst e; subst e1
  exact ⟨.ref a, ds.length, rfl, .inl ⟨vs, h1, rs.length⟩, k F M (.int ds.length) _ H (Ex.refl _) st rfl q⟩
theorem c3_len_t (q : Q (.int ds.length) M) : C3 B (rLEN K) [.tup ds] M Q := fun F H xv Qv b st rx k => by
  obtain ⟨v, e, a, vs, e1, h1, rs⟩ := rx.sing
  subst e; subst e1
  exact ⟨.ref a, ds.length, rfl, .inr ⟨vs, .inl (.inl (st.fz a _ h1)), rs.length⟩, k F M (.int ds.length) _ H (Ex.refl _) st rfl q⟩
theorem c3_len_s (hl : s.length ≤ 1000000) (q : Q (.int s.length) M) : C3 B (rLEN K) [.str s] M Q := fun F H xv Qv b st rx k => by
  obtain ⟨v, e, r⟩ := rx.sing
  subst e
  rw [show v = V.str s from r]
  exact ⟨.str s, s.length, rfl, ⟨Nat.le_trans hl (by decide), rfl⟩, k F M (.int s.length) _ H (Ex.refl _) st rfl q⟩
abbrev rINT : List V → Hp → VK → Prop := fun xs H Q => (∃ i, xs = [.int i] ∧ Q (.int i) H) ∨ ∃ k, xs = [.bl k] ∧ Q (.int (if k then 1 else 0)) H
theorem c3_int_i (q : Q (.int i) M) : C3 B rINT [.int i] M Q := fun F H xv Qv b st rx k => by
  obtain ⟨v, e, r⟩ := rx.sing
  subst e
  rw [show v = V.int i from r]
  exact .inl ⟨i, rfl, k F M (.int i) _ H (Ex.refl _) st rfl q⟩
theorem c3_int_b {c : Bool} (q : Q (.int (if c then 1 else 0)) M) : C3 B rINT [.bl c] M Q := fun F H xv Qv b st rx k => by
  obtain ⟨v, e, r⟩ := rx.sing
  subst e
  rw [show v = V.bl c from r]
  exact .inr ⟨c, rfl, k F M (.int (if c then 1 else 0)) _ H (Ex.refl _) st rfl q⟩
abbrev rABS : List V → Hp → VK → Prop := fun xs H Q => ∃ i, xs = [.int i] ∧ Q (.int (if i < 0 then -i else i)) H
theorem c3_abs (q : Q (.int (if i < 0 then -i else i)) M) : C3 B rABS [.int i] M Q := fun F H xv Qv b st rx k => by
  obtain ⟨v, e, r⟩ := rx.sing
  subst e
  rw [show v = V.int i from r]
  exact ⟨i, rfl, k F M (.int (if i < 0 then -i else i)) _ H (Ex.refl _) st rfl q⟩
abbrev rMAX2 : List V → Hp → VK → Prop := fun xs H Q => ∃ i j, xs = [.int i, .int j] ∧ Q (.int (if j > i then j else i)) H
abbrev rMIN2 : List V → Hp → VK → Prop := fun xs H Q => ∃ i j, xs = [.int i, .int j] ∧ Q (.int (if j < i then j else i)) H
theorem c3_max2 (q : Q (.int (if j > i then j else i)) M) : C3 B rMAX2 [.int i, .int j] M Q := fun F H xv Qv b st rx k => by
  obtain ⟨v, u, e, r1, r2⟩ := rx.two
  subst e
  rw [show v = V.int i from r1, show u = V.int j from r2]
  exact ⟨i, j, rfl, k F M (.int (if j > i then j else i)) _ H (Ex.refl _) st rfl q⟩
theorem c3_min2 (q : Q (.int (if j < i then j else i)) M) : C3 B rMIN2 [.int i, .int j] M Q := fun F H xv Qv b st rx k => by
  obtain ⟨v, u, e, r1, r2⟩ := rx.two
  subst e
  rw [show v = V.int i from r1, show u = V.int j from r2]
  exact ⟨i, j, rfl, k F M (.int (if j < i then j else i)) _ H (Ex.refl _) st rfl q⟩
abbrev rLST (K : PySem.W.Frag) : List V → Hp → VK → Prop := fun xs H Q => ∃ p ys, xs = [.ref p] ∧ (SqL K H p ys ∨ SqT K H p ys) ∧ ∀ l, H l = none → Q (.ref l) (upd H l (.lst ys))
/-- list(x): a frozen copy; one that will change -/
theorem c3_lst (l : LstD M x ds) (q : Q (.lst ds) M) : C3 B (rLST K) [x] M Q := fun F H xv Qv b st rx k => by
  obtain ⟨v, e, r⟩ := rx.sing
  obtain ⟨a, vs, e1, h1, rs⟩ := l.seq (K := K) st r
  subst e; subst e1
  refine ⟨a, vs, rfl, .inl h1, fun p hp => ?_⟩
  obtain ⟨s2, e2⟩ := st.new (o := .lst vs) hp
  exact k _ _ (.lst ds) _ _ e2 s2 ⟨p, _, rfl, upd_same, rs.mono e2⟩ q
theorem c3_lstO (l : LstD M x ds) (q : ∀ p, M p = none → Q (.ref p) (mput M p (.lst ds))) : C3 B (rLST K) [x] M Q := fun F H xv Qv b st rx k => by
  obtain ⟨v, e, r⟩ := rx.sing
  obtain ⟨a, vs, e1, h1, rs⟩ := l.seq (K := K) st r
  subst e; subst e1
  exact ⟨a, vs, rfl, .inl h1, fun p hp => k F _ (.ref p) _ _ (Ex.refl _) (st.newO (d := .lst ds) hp ⟨vs, rfl, rs⟩) rfl (q p (st.nn hp).2)⟩
theorem c3_lst_t (q : Q (.lst ds) M) : C3 B (rLST K) [.tup ds] M Q := fun F H xv Qv b st rx k => by
  obtain ⟨v, e, a, vs, e1, h1, rs⟩ := rx.sing
  subst e; subst e1
  refine ⟨a, vs, rfl, .inr (.inl (.inl (st.fz a _ h1))), fun p hp => ?_⟩
  obtain ⟨s2, e2⟩ := st.new (o := .lst vs) hp
  exact k _ _ (.lst ds) _ _ e2 s2 ⟨p, _, rfl, upd_same, rs.mono e2⟩ q
theorem RDs.bls {F : Hp} : ∀ {bs : List Bool} {vs : List V}, RDs F (bs.map D.bl) vs → vs = bs.map V.bl
  | [], _, h => h
  | b :: bs, _, ⟨v, r, e, h1, h2⟩ => by rw [e, show v = V.bl b from h1, RDs.bls h2]; rfl
theorem RDs.ints {F : Hp} : ∀ {bs : List Int} {vs : List V}, RDs F (bs.map D.int) vs → vs = bs.map V.int
  | [], _, h => h
  | b :: bs, _, ⟨v, r, e, h1, h2⟩ => by rw [e, show v = V.int b from h1, RDs.ints h2]; rfl
theorem RDs.strs {F : Hp} : ∀ {bs : List Str} {vs : List V}, RDs F (bs.map D.str) vs → vs = bs.map V.str
  | [], _, h => h
  | b :: bs, _, ⟨v, r, e, h1, h2⟩ => by rw [e, show v = V.str b from h1, RDs.strs h2]; rfl
theorem c3_any {bs : List Bool} (l : LstD M x (bs.map D.bl)) (q : Q (.bl (bs.any id)) M) : C3 B (rAny K) [x] M Q := fun F H xv Qv b st rx k => by
  obtain ⟨v, e, r⟩ := rx.sing
  obtain ⟨a, vs, e1, h1, rs⟩ := l.seq (K := K) st r
  subst e; subst e1
  rw [rs.bls] at h1
  exact ⟨a, bs, rfl, h1, k F M (.bl (bs.any id)) _ H (Ex.refl _) st rfl q⟩
theorem c3_all {bs : List Bool} (l : LstD M x (bs.map D.bl)) (q : Q (.bl (bs.all id)) M) : C3 B (rAll K) [x] M Q := fun F H xv Qv b st rx k => by
  obtain ⟨v, e, r⟩ := rx.sing
  obtain ⟨a, vs, e1, h1, rs⟩ := l.seq (K := K) st r
  subst e; subst e1
  rw [rs.bls] at h1
  exact ⟨a, bs, rfl, h1, k F M (.bl (bs.all id)) _ H (Ex.refl _) st rfl q⟩
theorem c3_sum {bs : List Int} (l : LstD M x (bs.map D.int)) (q : Q (.int bs.sum) M) : C3 B (rSum K) [x] M Q := fun F H xv Qv b st rx k => by
  obtain ⟨v, e, r⟩ := rx.sing
  obtain ⟨a, vs, e1, h1, rs⟩ := l.seq (K := K) st r
  subst e; subst e1
  rw [rs.ints] at h1
  exact ⟨a, bs, rfl, h1, k F M (.int bs.sum) _ H (Ex.refl _) st rfl q⟩
def tyD : D → String
  | .non => "NoneType"
  | .bl _ => "bool"
  | .int _ => "int"
  | .str _ => "str"
  | .tup _ => "tuple"
  | .lst _ => "list"
  | _ => ""
theorem RD.tyX {F H : Hp} {v : V} (e : Ex F H) (r : RD F x v) (h : (tyD x == "") = false) : TyX K H v (.type (tyD x)) := by
  cases x with
  | non => rw [show v = _ from r]; exact .base .non
  | bl b => rw [show v = _ from r]; exact .base (.bl b)
  | int b => rw [show v = _ from r]; exact .base (.int b)
  | str b => rw [show v = _ from r]; exact .base (.str b)
  | tup ds => obtain ⟨a, vs, e1, h1, _⟩ := r; rw [e1]; exact .base (.tup (e a _ h1))
  | lst ds => obtain ⟨a, vs, e1, h1, _⟩ := r; rw [e1]; exact .base (.lst (e a _ h1))
  | _ => exact nomatch h
theorem c3_isi {n : String} {c : Bool} (h : (tyD x == "") = false) (hk : PySem.W.kitOne K (.type (tyD x)) (.type n) = some c) (q : Q (.bl c) M) : C3 B (rIsi K) [x, .ty n] M Q := fun F H xv Qv b st rx k => by
  obtain ⟨v, u, e, r1, r2⟩ := rx.two
  subst e
  rw [show u = V.ty n from r2]
  exact ⟨v, .ty n, .type (tyD x), .type n, c, rfl, .ty n, r1.tyX st.fz h, hk, k F M (.bl c) _ H (Ex.refl _) st rfl q⟩
/-! ### methods of built-ins -/
def TyD (M : Mem) (T : String) (x : D) : Prop := (T = "str" ∧ ∃ s, x = .str s) ∨ (T = "list" ∧ ∃ ds, LstD M x ds) ∨ (T = "dict" ∧ ∃ a, x = .ref a ∧ ((∃ kvs, M a = some (.dK kvs)) ∨ ∃ kvs, M a = some (.dT kvs)))
theorem TyD.at {F H : Hp} {T : String} {v : V} (h : TyD M T x) (st : St3 F M H) (r : RD F x v) : tyV K T v H := by
  rcases h with ⟨rfl, s, e⟩ | ⟨rfl, ds, l⟩ | ⟨rfl, a, e, h⟩
  · subst e; rw [show v = V.str s from r]; rfl
  · obtain ⟨a, vs, e1, h1, _⟩ := l.seq (K := K) st r
    rw [e1]
    exact .inl ⟨rfl, vs, h1⟩
  · subst e
    rw [show v = V.ref a from r]
    rcases h with ⟨kvs, h⟩ | ⟨kvs, h⟩
    · obtain ⟨_, ho, h1, kv, e2, _⟩ := st.own a _ h
      rw [e2] at h1
      exact .inr (.inr (.inl ⟨rfl, .inl ⟨kv, h1⟩⟩))
    · obtain ⟨_, ho, h1, kv, e2, _⟩ := st.own a _ h
      rw [e2] at h1
      exact .inr (.inr (.inl ⟨rfl, .inr ⟨kv, h1⟩⟩))
theorem TyD.lf {ds : List D} : TyD M "list" (.lst ds) := .inr (.inl ⟨rfl, ds, .fz⟩)
theorem TyD.lo {ds : List D} (h : M a = some (.lst ds)) : TyD M "list" (.ref a) := .inr (.inl ⟨rfl, ds, .ow h⟩)
theorem TyD.txt : TyD M "str" (.str s) := .inl ⟨rfl, s, rfl⟩
theorem w_bm0 {T : String} {r : V → List V → Hp → VK → Prop} {ta : TE} {σ : Sig} (h : W3e B ta σ M (fun x M1 => TyD M1 T x ∧ M3 B r x [] M1 Q)) : W3e B (tBM0 K T r ta) σ M Q := fun F σv H Qv b hs st k =>
  h F σv H _ b hs st fun F1 M1 x xv H1 e1 st1 rx ⟨ty, q1⟩ => ⟨ty.at st1 rx, q1 F1 H1 xv [] Qv (b.trans e1) st1 rx rfl fun F3 M3 d v H3 e3 st3 rd qd => k F3 M3 d v H3 (e1.trans e3) st3 rd qd⟩
theorem w_bm {T : String} {r : V → List V → Hp → VK → Prop} {ta : TE} {t : TA} {σ : Sig} (h : W3e B ta σ M (fun x M1 => TyD M1 T x ∧ W3a B t σ M1 (fun xs M2 => M3 B r x xs M2 Q))) : W3e B (tBM K T r ta t) σ M Q := fun F σv H Qv b hs st k =>
  h F σv H _ b hs st fun F1 M1 x xv H1 e1 st1 rx ⟨ty, q1⟩ => ⟨ty.at st1 rx, q1 F1 σv H1 _ (b.trans e1) (hs.mono e1) st1 fun F2 M2 xs xvs H2 e2 st2 rxs q2 =>
    q2 F2 H2 xv xvs Qv ((b.trans e1).trans e2) st2 (rx.mono e2) rxs fun F3 M3 d v H3 e3 st3 rd qd => k F3 M3 d v H3 ((e1.trans e2).trans e3) st3 rd qd⟩
theorem m3_append (h : M a = some (.lst ds)) (hl : ds.length ≤ 100000) (q : Q .non (mput M a (.lst (ds ++ [y])))) : M3 B rAppend (.ref a) [y] M Q := fun F H xv xvs Qv b st rx rxs k => by
  obtain ⟨v, e, ry⟩ := rxs.sing
  obtain ⟨_, ho, h1, vs, e2, rs⟩ := st.own a _ h
  subst e2
  refine ⟨a, vs, v, rx, e, h1, ?_, k F _ .non _ _ (Ex.refl _) (st.put h (d' := .lst (ds ++ [y])) ⟨_, rfl, rs.snoc ry⟩) rfl q⟩
  rw [← rs.length]; exact Nat.lt_of_le_of_lt hl (by decide)
theorem m3_extend (h : M a = some (.lst ds)) (l : LstD M y ys) (hl : ds.length + ys.length ≤ 100000) (q : Q .non (mput M a (.lst (ds ++ ys)))) : M3 B rExtend (.ref a) [y] M Q := fun F H xv xvs Qv b st rx rxs k => by
  obtain ⟨v, e, ry⟩ := rxs.sing
  obtain ⟨_, ho, h1, vs, e2, rs⟩ := st.own a _ h
  obtain ⟨c, us, e3, h3, r3⟩ := l.at st ry
  subst e2; subst e3
  refine ⟨a, c, vs, us, rx, e, h1, h3, ?_, k F _ .non _ _ (Ex.refl _) (st.put h (d' := .lst (ds ++ ys)) ⟨_, rfl, rs.append r3⟩) rfl q⟩
  rw [← rs.length, ← r3.length]; exact Nat.le_trans hl (by decide)
theorem m3_clear (h : M a = some (.lst ds)) (q : Q .non (mput M a (.lst []))) : M3 B rClear (.ref a) [] M Q := fun F H xv xvs Qv b st rx rxs k => by
  obtain ⟨_, ho, h1, vs, e2, rs⟩ := st.own a _ h
  subst e2
  exact ⟨a, vs, rx, rxs, h1, k F _ .non _ _ (Ex.refl _) (st.put h (d' := .lst []) ⟨_, rfl, rfl⟩) rfl q⟩
theorem m3_pop0 (h : M a = some (.lst (x :: ds))) (q : Q x (mput M a (.lst ds))) : M3 B rPopAt (.ref a) [.int 0] M Q := fun F H xv xvs Qv b st rx rxs k => by
  obtain ⟨v, e, ry⟩ := rxs.sing
  obtain ⟨_, ho, h1, vs, e2, rs⟩ := st.own a _ h
  obtain ⟨z, us, e3, r1, r2⟩ := rs
  subst e2; subst e3
  rw [show v = V.int 0 from ry] at e
  exact ⟨a, z :: us, 0, 0, z, rx, e, h1, by decide, by decide, by simp [seqIndex?], rfl, k F _ x _ _ (Ex.refl _) (st.put h (d' := .lst ds) ⟨_, rfl, r2⟩) r1 q⟩
end
end T3
set_option Elab.async false
set_option linter.all false
set_option maxRecDepth 100000
set_option maxHeartbeats 2000000
namespace T3
open PySem L2
open Evl (Ex)
/-! ### what is walked -/
/-- J walks the items ds while P holds of the owned objects -/
def WD (F : Hp) (J : It) (ds : List D) (P : Mem → Prop) : Prop := ∃ (G : Hp → Prop) (Y : Nat → Hp → V → Hp → Prop), Walk J ds.length G Y ∧ (∀ F' M H, Ex F F' → St3 F' M H → P M → G H) ∧
  (∀ (i : Nat) d x H H' F' M, ds[i]? = some d → Ex F F' → St3 F' M H → P M → Y i H x H' → ∃ F2, Ex F' F2 ∧ St3 F2 M H' ∧ RD F2 d x) ∧ (∀ M p o, M p = none → P M → P (mput M p o))
def W3i (B : Hp) (wi : TI) (σ : Sig) (M : Mem) (Q : List D → (Mem → Prop) → Mem → Prop) : Prop :=
  ∀ (F : Hp) (σv : St) (H : Hp) (R : It → Hp → Prop), Ex B F → SRel F σ σv → St3 F M H → (∀ F' M' J ds P H', Ex F F' → St3 F' M' H' → WD F' J ds P → Q ds P M' → R J H') → wi σv H R
section
variable {B : Hp} {M : Mem} {K : PySem.W.Frag} {σ : Sig} {te : TE} {ta : TA} {Q : List D → (Mem → Prop) → Mem → Prop}
theorem WD.len {F : Hp} {ds : List D} {vs : List V} {J : It} {n : Nat} {G : Hp → Prop} {Y : Nat → Hp → V → Hp → Prop} (w : Walk J n G Y) (e : n = ds.length) : Walk J ds.length G Y := e ▸ w
theorem i_list (h : W3e B te σ M (fun x M1 => ∃ ds, x = .lst ds ∧ Q ds (fun _ => True) M1)) : W3i B (iList K te) σ M Q := fun F σv H R b hs st k =>
  h F σv H _ b hs st fun F1 M1 x xv H1 e1 st1 rx ⟨ds, ex, q⟩ => by
    subst ex
    obtain ⟨a, vs, ev, hf, rs⟩ := rx
    refine ⟨a, ev, ⟨vs, .inl (.inl (st1.fz a _ hf))⟩, k F1 M1 (Itl K a) ds _ H1 e1 st1 ⟨fun H => SqL K H a vs, YAt vs, WD.len (F := F1) (vs := vs) walk_list rs.length.symm, ?_, ?_, fun _ _ _ _ z => z⟩ q⟩
    · intro F' M' H' e s _
      exact .inl (.inl (s.fz a _ (e a _ hf)))
    · intro i d x H' H'' F' M' hd e s _ y
      obtain ⟨y1, y2⟩ := y
      subst y1
      obtain ⟨v, hv, rv⟩ := rs.at hd
      rw [y2] at hv; cases hv
      exact ⟨F', Ex.refl _, s, rv.mono e⟩
/-- over an owned list that stands still -/
theorem i_listO (h : W3e B te σ M (fun x M1 => ∃ a ds, x = .ref a ∧ M1 a = some (.lst ds) ∧ Q ds (fun M => M a = some (.lst ds)) M1)) : W3i B (iList K te) σ M Q := fun F σv H R b hs st k =>
  h F σv H _ b hs st fun F1 M1 x xv H1 e1 st1 rx ⟨a, ds, ex, hm, q⟩ => by
    subst ex
    obtain ⟨_, ho, h1, vs, e2, rs⟩ := st1.own a _ hm
    subst e2
    refine ⟨a, rx, ⟨vs, .inl (.inl h1)⟩, k F1 M1 (Itl K a) ds _ H1 e1 st1 ⟨fun H => ∃ us, SqL K H a us ∧ us.length = vs.length, fun i H x H' => H' = H ∧ ∀ us, SqL K H a us → us[i]? = some x, ?_, ?_, ?_, ?_⟩ q⟩
    · rw [rs.length]
      exact ⟨fun i H hi ⟨us, g, hl⟩ => ⟨us, us[i], g, by simp [hl, hi]⟩, fun H ⟨us, g, hl⟩ => ⟨us, g, Nat.le_of_eq hl⟩, fun i H x H' hi g y => y⟩
    · intro F' M' H' e s p
      obtain ⟨_, ho, h1', us, e2, rs'⟩ := s.own a _ p
      subst e2
      exact ⟨us, .inl (.inl h1'), by rw [← rs'.length, rs.length]⟩
    · intro i d x H' H'' F' M' hd e s p ⟨y1, y2⟩
      subst y1
      obtain ⟨f0, ho, h1', us', e2, rs'⟩ := s.own a _ p
      subst e2
      obtain ⟨v, hv, rv⟩ := rs'.at hd
      rw [y2 us' (.inl (.inl h1'))] at hv; cases hv
      exact ⟨F', Ex.refl _, s, rv⟩
    · intro M' p o hp hm'
      show mput M' p o a = _
      rw [mput_ne (mne hm' hp)]; exact hm'

theorem i_rng1 (h : W3a B ta σ M (fun xs M1 => ∃ j : Int, xs = [.int j] ∧ -1000000 ≤ j ∧ j ≤ 1000000 ∧ Q ((List.range j.toNat).map fun (i : Nat) => D.int (i : Int)) (fun _ => True) M1)) : W3i B (iRng1 ta) σ M Q := fun F σv H R b hs st k =>
  h F σv H _ b hs st fun F1 M1 xs xv H1 e1 st1 rx ⟨j, ex, hj0, hj, q⟩ => by
    subst ex
    obtain ⟨v, e, r⟩ := rx.sing
    subst e
    rw [show v = V.int j from r]
    refine ⟨j, rfl, by omega, by omega, k F1 M1 _ _ _ H1 e1 st1 ⟨fun _ => True, _, WD.len (F := F1) (ds := (List.range j.toNat).map fun (i : Nat) => D.int (i : Int)) (vs := []) walk_range (by simp), fun _ _ _ _ _ _ => trivial, ?_, fun _ _ _ _ z => z⟩ q⟩
    intro i d x H' H'' F' M' hd e s _ ⟨y1, y2⟩
    subst y1
    refine ⟨F', Ex.refl _, s, ?_⟩
    rw [List.getElem?_map] at hd
    obtain ⟨i', h1, h2⟩ := Option.map_eq_some_iff.mp hd
    rw [List.getElem?_range (by have := (List.getElem?_eq_some_iff.mp h1).1; simpa using this)] at h1
    cases h1
    rw [← h2, y2]
    show V.int (0 + (i : Int)) = V.int (i : Int)
    rw [Int.zero_add]
theorem i_rng2 (h : W3a B ta σ M (fun xs M1 => ∃ i j : Int, xs = [.int i, .int j] ∧ -1000000 ≤ i ∧ i ≤ 1000000 ∧ -1000000 ≤ j ∧ j ≤ 1000000 ∧ Q ((List.range (j - i).toNat).map fun (n : Nat) => D.int (i + n)) (fun _ => True) M1)) : W3i B (iRng2 ta) σ M Q := fun F σv H R b hs st k =>
  h F σv H _ b hs st fun F1 M1 xs xv H1 e1 st1 rx ⟨l, j, ex, h1, h2, h3, h4, q⟩ => by
    subst ex
    obtain ⟨v, u, e, r, r2⟩ := rx.two
    subst e
    rw [show v = V.int l from r, show u = V.int j from r2]
    refine ⟨l, j, rfl, ⟨by omega, by omega, by omega, by omega⟩, k F1 M1 _ _ _ H1 e1 st1 ⟨fun _ => True, _, WD.len (F := F1) (ds := (List.range (j - l).toNat).map fun (n : Nat) => D.int (l + n)) (vs := []) walk_range (by simp), fun _ _ _ _ _ _ => trivial, ?_, fun _ _ _ _ z => z⟩ q⟩
    intro i d x H' H'' F' M' hd e s _ ⟨y1, y2⟩
    subst y1
    refine ⟨F', Ex.refl _, s, ?_⟩
    rw [List.getElem?_map] at hd
    obtain ⟨i', h1, h2⟩ := Option.map_eq_some_iff.mp hd
    rw [List.getElem?_range (by have := (List.getElem?_eq_some_iff.mp h1).1; simpa using this)] at h1
    cases h1
    rw [← h2, y2]
    rfl
end
/-! ### for -/
section
variable {B : Hp} {M : Mem} {K : PySem.W.Frag} {σ : Sig} {wi : TI} {g : TG} {tb : TS} {D3 : Ends3}
theorem s_for (h : W3i B wi σ M (fun ds P M1 => ∃ I : Nat → Sig → Mem → Prop, (∀ i σ' M', I i σ' M' → P M') ∧ I 0 σ M1 ∧
      (∀ (i : Nat) d σ' M', ds[i]? = some d → I i σ' M' → G3 B g d σ' M' (fun σ2 M2 => W3s B tb { D3 with nx := I (i + 1), ct := I (i + 1), bk := D3.nx } σ2 M2)) ∧ (∀ σ' M', I ds.length σ' M' → D3.nx σ' M'))) :
    W3s B (tFor wi g tb) D3 σ M := fun F σv H Dv b hs st im =>
  h F σv H _ b hs st fun F1 M1 J ds P H1 e1 st1 ⟨G, Y, w, hG, hY, _⟩ ⟨I, hP, h0, turn, fin⟩ =>
    for_it w (fun i σv' H' => ∃ F' M' σ', Ex F1 F' ∧ SRel F' σ' σv' ∧ St3 F' M' H' ∧ I i σ' M') ⟨F1, M1, σ, Ex.refl _, hs.mono e1, st1, h0⟩
      (fun i σv' H' _ ⟨F', M', σ', e, s, t, q⟩ => hG F' M' H' e t (hP i σ' M' q))
      (fun i x σv' H' H'' hi ⟨F', M', σ', e, s, t, q⟩ y => by
        have hd : ds[i]? = some ds[i] := by simp [hi]
        obtain ⟨F2, e2, t2, rd⟩ := hY i _ x H' H'' F' M' hd e t (hP i σ' M' q) y
        refine turn i _ σ' M' hd q F2 σv' H'' x _ (b.trans ((e1.trans e).trans e2)) (s.mono e2) t2 rd fun F3 M3 σ3 σv3 H3 e3 s3 t3 q3 => ?_
        refine q3 F3 σv3 H3 _ (b.trans (((e1.trans e).trans e2).trans e3)) s3 t3 ⟨fun F4 M4 σ4 σv4 H4 e4 s4 t4 q4 => ?_, ?_, ?_, fun F4 M4 σ4 σv4 H4 e4 s4 t4 q4 => ?_⟩
        · exact ⟨F4, M4, σ4, ((e.trans e2).trans e3).trans e4, s4, t4, q4⟩
        · exact (im.mono (((e1.trans e).trans e2).trans e3)).rt
        · exact (im.mono (((e1.trans e).trans e2).trans e3)).nx
        · exact ⟨F4, M4, σ4, ((e.trans e2).trans e3).trans e4, s4, t4, q4⟩)
      (fun σv' H' ⟨F', M', σ', e, s, t, q⟩ => im.nx F' M' σ' σv' H' (e1.trans e) s t (fin σ' M' q))
/-- while: a measure -/
theorem s_while {tc : TT} (I : Nat → Sig → Mem → Prop) (m0 : Nat) (h0 : I m0 σ M)
    (hs : ∀ m σ' M', I m σ' M' → W3t B tc σ' M' (fun c M1 => if c = true then W3s B tb { D3 with nx := fun σ2 M2 => ∃ m', m' < m ∧ I m' σ2 M2, ct := fun σ2 M2 => ∃ m', m' < m ∧ I m' σ2 M2, bk := D3.nx } σ' M1 else D3.nx σ' M1)) : W3s B (tWhile tc tb) D3 σ M := fun F σv H Dv b hs' st im => by
  refine ⟨fun m σv' H' => ∃ F' M' σ', Ex F F' ∧ SRel F' σ' σv' ∧ St3 F' M' H' ∧ I m σ' M', ⟨m0, F, M, σ, Ex.refl _, hs', st, h0⟩, ?_⟩
  rintro m σv' H' ⟨F', M', σ', e, s, t, q⟩
  refine hs m σ' M' q F' σv' H' _ (b.trans e) s t fun F2 M2 c H2 e2 t2 q2 => ?_
  cases c with
  | false => exact im.nx F2 M2 σ' σv' H2 (e.trans e2) (s.mono e2) t2 q2
  | true =>
    refine ⟨_, fun σ' H' z => z, q2 F2 σv' H2 _ (b.trans (e.trans e2)) (s.mono e2) t2 ⟨fun F4 M4 σ4 σv4 H4 e4 s4 t4 ⟨m', hm, q4⟩ => ?_, ?_, ?_, fun F4 M4 σ4 σv4 H4 e4 s4 t4 ⟨m', hm, q4⟩ => ?_⟩⟩
    · exact ⟨m', hm, F4, M4, σ4, (e.trans e2).trans e4, s4, t4, q4⟩
    · exact (im.mono (e.trans e2)).rt
    · exact (im.mono (e.trans e2)).nx
    · exact ⟨m', hm, F4, M4, σ4, (e.trans e2).trans e4, s4, t4, q4⟩
end
/-! ### comprehensions -/
def OwnG (g : TG) (vs : List Nat) : Prop := ∀ x σ H Q Q', (∀ σ2 H2, L2.wipe σ2 vs = L2.wipe σ vs → Q σ2 H2 → Q' σ2 H2) → g x σ H Q → g x σ H Q'
def OwnGs (g : TGs) (vs : List Nat) : Prop := ∀ x σ H Q Q', (∀ σ2 H2, L2.wipe σ2 vs = L2.wipe σ vs → Q σ2 H2 → Q' σ2 H2) → g x σ H Q → g x σ H Q'
theorem wipe_at : ∀ (vs : List Nat) (σ : St) (i : Nat), (L2.wipe σ vs)[i]? = if i ∈ vs then (if i < σ.length then some none else none) else σ[i]?
  | [], σ, i => by simp [L2.wipe]
  | v :: vs, σ, i => by
    show ((L2.wipe σ vs).set v none)[i]? = _
    by_cases e : v = i
    · subst e
      rw [if_pos List.mem_cons_self]
      by_cases h : v < σ.length
      · rw [List.getElem?_set_self (by rw [wipe_length]; exact h), if_pos h]
      · rw [if_neg h, List.getElem?_eq_none]
        rw [List.length_set, wipe_length]; omega
    · rw [List.getElem?_set_ne e, wipe_at vs σ i]
      by_cases h : i ∈ vs
      · rw [if_pos h, if_pos (List.mem_cons_of_mem _ h)]
      · rw [if_neg h, if_neg (by simp only [List.mem_cons, not_or]; exact ⟨fun z => e z.symm, h⟩)]
theorem wipe_set {vs : List Nat} {σ : St} {j : Nat} {x : Option V} (h : j ∈ vs) : L2.wipe (σ.set j x) vs = L2.wipe σ vs := by
  apply List.ext_getElem?
  intro i
  rw [wipe_at, wipe_at, List.length_set]
  by_cases e : i ∈ vs
  · rw [if_pos e, if_pos e]
  · rw [if_neg e, if_neg e, List.getElem?_set_ne (fun z => e (by rw [← z]; exact h))]
theorem wipe_wipe {vs : List Nat} {σ : St} : L2.wipe (L2.wipe σ vs) vs = L2.wipe σ vs := by
  apply List.ext_getElem?
  intro i
  rw [wipe_at, wipe_at, wipe_length]
  by_cases e : i ∈ vs
  · rw [if_pos e]; rw [if_pos e]
  · rw [if_neg e]
theorem own_name {j : Nat} {vs : List Nat} (h : j ∈ vs := by decide) : OwnG (gName j) vs := fun x σ H Q Q' k q => k _ _ (wipe_set h) q
theorem own_nil {vs : List Nat} : OwnGs gNil vs := fun x σ H Q Q' k q => ⟨q.1, k _ _ rfl q.2⟩
theorem own_cons {t : TG} {u : TGs} {vs : List Nat} (h1 : OwnG t vs) (h2 : OwnGs u vs) : OwnGs (gCons t u) vs := fun x σ H Q Q' k ⟨v, r, e, q⟩ =>
  ⟨v, r, e, h1 v σ H _ _ (fun σ2 H2 w q2 => h2 r σ2 H2 Q Q' (fun σ3 H3 w3 q3 => k σ3 H3 (w3.trans w) q3) q2) q⟩
theorem own_tup {K : PySem.W.Frag} {n : Nat} {t : TGs} {vs : List Nat} (h : OwnGs t vs) : OwnG (gTup K n t) vs := fun x σ H Q Q' k ⟨a, xs, e, hq, hl, q⟩ => ⟨a, xs, e, hq, hl, h _ _ _ _ _ k q⟩
section
variable {B : Hp} {M : Mem} {K : PySem.W.Frag} {σ : Sig} {wi : TI} {g : TG} {tt : TT} {te : TE} {vs : List Nat} {Q : DQ}
/-- a comprehension; the new list, while it grows, is an owned one at L -/
theorem w_lc (hg : OwnG g vs) (h : W3i B wi σ M (fun ds P M1 => ∃ I : Nat → List D → Mem → Prop, (∀ i acc M', I i acc M' → P M' ∧ acc.length ≤ i) ∧ ds.length ≤ 1000000 ∧ I 0 [] M1 ∧
      (∀ (i : Nat) d acc M' L, ds[i]? = some d → I i acc M' → M' L = none → G3 B g d (wipe3 σ vs) (mput M' L (.lst acc)) (fun σ2 M2 => W3t B tt σ2 M2 (fun b M3 =>
        if b = true then W3e B te σ2 M3 (fun y M4 => ∃ M5, M4 = mput M5 L (.lst acc) ∧ M5 L = none ∧ I (i + 1) (acc ++ [y]) M5) else ∃ M5, M3 = mput M5 L (.lst acc) ∧ M5 L = none ∧ I (i + 1) acc M5))) ∧
      (∀ acc M', I ds.length acc M' → Q (.lst acc) M'))) :
    W3e B (tLc wi g tt te vs) σ M Q := fun F σv H Qv b hs st k =>
  h F σv H _ b hs st fun F1 M1 J ds P H1 e1 st1 ⟨G, Y, w, hG, hY, hX⟩ ⟨I, hP, hl, h0, turn, fin⟩ L hL =>
    lc_it w (fun i H' => ∃ F' M' acc, Ex F1 F' ∧ M' L = none ∧ St3 F' (mput M' L (.lst acc)) H' ∧ I i acc M')
      ⟨F1, M1, [], Ex.refl _, (st1.nn hL).2, st1.newO (d := .lst []) hL ⟨[], rfl, rfl⟩, h0⟩
      (fun i H' _ ⟨F', M', acc, e, n, t, q⟩ => hG F' _ H' e t (hX M' L _ n (hP i acc M' q).1))
      (fun i x H' H'' hi ⟨F', M', acc, e, n, t, q⟩ y => by
        have hd : ds[i]? = some ds[i] := by simp [hi]
        obtain ⟨F2, e2, t2, rd⟩ := hY i _ x H' H'' F' _ hd e t (hX M' L _ n (hP i acc M' q).1) y
        have main := turn i _ acc M' L hd q n F2 (L2.wipe σv vs) H'' x (fun σ2 H2 => tt σ2 H2 fun b H3 => if b = true then te σ2 H3 fun y H4 => ∃ acc, H4 L = some (.lst acc) ∧ acc.length < sizeLine ∧ (∃ F' M' acc', Ex F1 F' ∧ M' L = none ∧ St3 F' (mput M' L (.lst acc')) (upd H4 L (.lst (acc ++ [y]))) ∧ I (i + 1) acc' M') else (∃ F' M' acc', Ex F1 F' ∧ M' L = none ∧ St3 F' (mput M' L (.lst acc')) H3 ∧ I (i + 1) acc' M'))
          (b.trans ((e1.trans e).trans e2)) (((hs.mono e1).mono (e.trans e2)).wipe vs) t2 rd fun F3 M3 σ3 σv3 H3 e3 s3 t3 q3 => ?_
        · exact hg x (L2.wipe σv vs) H'' _ _ (fun σ2 H2 w2 q2 => ⟨w2.trans wipe_wipe, q2⟩) main
        · refine q3 F3 σv3 H3 _ (b.trans (((e1.trans e).trans e2).trans e3)) s3 t3 fun F4 M4 c H4 e4 t4 q4 => ?_
          cases c with
          | false =>
            obtain ⟨M5, em, n5, i5⟩ := q4
            subst em
            exact ⟨F4, M5, acc, ((e.trans e2).trans e3).trans e4, n5, t4, i5⟩
          | true =>
            refine q4 F4 σv3 H4 _ (b.trans ((((e1.trans e).trans e2).trans e3).trans e4)) (s3.mono e4) t4 fun F5 M5' y v5 H5 e5 t5 r5 ⟨M5, em, n5, i5⟩ => ?_
            subst em
            obtain ⟨_, ho, h1, us, e6, rs⟩ := t5.own L _ mput_same
            subst e6
            have hlen := (hP i acc M' q).2
            refine ⟨us, h1, by rw [← rs.length]; exact Nat.lt_of_lt_of_le (Nat.lt_of_le_of_lt hlen hi) (Nat.le_trans hl (by decide)), F5, M5, acc ++ [y], (((e.trans e2).trans e3).trans e4).trans e5, n5, ?_, i5⟩
            have := t5.put (p := L) (d := .lst acc) (d' := .lst (acc ++ [y])) mput_same ⟨us ++ [v5], rfl, rs.snoc r5⟩
            rwa [mput_mput] at this)
      (fun H' ⟨F', M', acc, e, n, t, q⟩ => by
        obtain ⟨_, ho, h1, us, e6, rs⟩ := t.own L _ mput_same
        subst e6
        obtain ⟨t2, e2⟩ := t.freeze mput_same h1
        rw [mdel_mput n] at t2
        exact k _ M' (.lst acc) (.ref L) H' ((e1.trans e).trans e2) t2 ⟨L, us, rfl, upd_same, rs.mono e2⟩ (fin acc M' q))
/-- .. where nothing changes: filter and map -/
theorem w_lcP (p : D → Bool) (f : D → D) (hg : OwnG g vs) (h : W3i B wi σ M (fun ds P M1 => ds.length ≤ 1000000 ∧ P M1 ∧
      (∀ (i : Nat) d M', ds[i]? = some d → (∀ a o, M1 a = some o → M' a = some o) → G3 B g d (wipe3 σ vs) M' (fun σ2 M2 => M2 = M' ∧ W3t B tt σ2 M' (fun b M3 => M3 = M' ∧ b = p d ∧ (b = true → W3e B te σ2 M' (fun y M4 => M4 = M' ∧ y = f d))))) ∧
      Q (.lst ((ds.filter p).map f)) M1)) :
    W3e B (tLc wi g tt te vs) σ M Q := by
  refine w_lc hg fun F σv H R b hs st k => h F σv H R b hs st fun F' M' J ds P H' e s wd ⟨hl, hP, turn, q⟩ => k F' M' J ds P H' e s wd ?_
  refine ⟨fun i acc M2 => i ≤ ds.length ∧ M2 = M' ∧ acc = ((ds.take i).filter p).map f, fun i acc M2 ⟨hi, a, c⟩ => ⟨by rw [a]; exact hP, ?_⟩, hl, ⟨Nat.zero_le _, rfl, rfl⟩, fun i d acc M2 L hd ⟨hi, em, ea⟩ hL => ?_, fun acc M2 ⟨_, em, ea⟩ => ?_⟩
  · rw [c, List.length_map]
    exact Nat.le_trans (List.length_filter_le _ _) (by rw [List.length_take]; exact Nat.min_le_left _ _)
  · subst em
    have hlt : i < ds.length := (List.getElem?_eq_some_iff.mp hd).1
    have et : ds.take (i + 1) = ds.take i ++ [d] := by rw [List.take_add_one, hd]; rfl
    intro F2 σ2 H2 xv Qv b2 hs2 st2 rx kk
    refine turn i d _ hd (fun a o ha => by rw [mput_ne (mne ha hL)]; exact ha) F2 σ2 H2 xv Qv b2 hs2 st2 rx fun F3 M3 σ3 σv3 H3 e3 s3 t3 ⟨e4, q4⟩ => kk F3 M3 σ3 σv3 H3 e3 s3 t3 ?_
    subst e4
    refine q4.to fun c M4 ⟨e5, e6, q5⟩ => ?_
    subst e5
    cases c with
    | true =>
      refine (q5 rfl).to fun y M5 ⟨e7, e8⟩ => ?_
      subst e7
      refine ⟨M2, rfl, hL, hlt, rfl, ?_⟩
      rw [et, List.filter_append, List.map_append, ← ea, e8]
      simp [← e6]
    | false =>
      refine ⟨M2, rfl, hL, hlt, rfl, ?_⟩
      rw [et, List.filter_append, List.map_append, ← ea]
      simp [← e6]
  · rw [List.take_length] at ea
    subst em; subst ea
    exact q
end
end T3
set_option Elab.async false
set_option linter.all false
set_option maxRecDepth 100000
set_option maxHeartbeats 2000000
namespace T3
open PySem L2
open Evl (Ex)
/-! ### defs -/
abbrev EQ3 := Addr → D → Mem → Prop
abbrev NoE : EQ3 := fun _ _ _ => False
abbrev Sp3 := List D → Mem → DQ → EQ3 → Prop
def ImpE (F : Hp) (E3 : EQ3) (E : XK) : Prop := ∀ F' M' C d thing v H', Ex F F' → St3 F' M' H' → RD F' thing v → F' d = some (.xd [(("thing" : Str), v)]) → E3 C thing M' → E (.ref C) (some d) H'
theorem ImpE.mono {F F1 : Hp} {E3 : EQ3} {E : XK} (h : ImpE F E3 E) (e : Ex F F1) : ImpE F1 E3 E := fun F' M' C d t v H' a => h F' M' C d t v H' (e.trans a)
theorem impE0 {F : Hp} {E : XK} : ImpE F NoE E := fun _ _ _ _ _ _ _ _ _ _ _ h => h.elim
def lift3 (S : Sp3) : Sp := fun vs H Q E => ∃ (ds : List D) (F : Hp) (M : Mem) (Q3 : DQ) (E3 : EQ3), RDs F ds vs ∧ St3 F M H ∧ (∀ F' M' d v H', Ex F F' → St3 F' M' H' → RD F' d v → Q3 d M' → Q v H') ∧ ImpE F E3 E ∧ S ds M Q3 E3
theorem run3 {S : Sp3} {N : List Str} {vs : List V} {H : Hp} {Q : VK} {E : XK} {t : TS} (h : lift3 S vs H Q E)
    (k : ∀ B ds M Q3 E3, S ds M Q3 E3 → ImpE B E3 E → W3s B t { nx := fun _ M => Q3 .non M, rt := Q3 } (start3 N ds) M) : t { nx := fun _ H' => Q .non H', rt := Q } (L2.start N vs) H := by
  obtain ⟨ds, F, M, Q3, E3, r, st, hq, he, hs⟩ := h
  exact k F ds M Q3 E3 hs he F _ H _ (Ex.refl _) (SRel.start r) st ⟨fun F' M' σ' σv' H' e s t q => hq F' M' .non .non H' e t rfl q, hq, fun _ _ _ _ _ _ _ _ q => q.elim, fun _ _ _ _ _ _ _ _ q => q.elim⟩
theorem lift3_len {S : Sp3} {n : Nat} (h : ∀ ds M Q E, S ds M Q E → ds.length = n) : ∀ vs H Q E, lift3 S vs H Q E → vs.length = n := fun vs H Q E ⟨ds, F, M, Q3, E3, r, _, _, _, hs⟩ => by rw [← r.length]; exact h ds M Q3 E3 hs
section
variable {B : Hp} {M : Mem} {K : PySem.W.Frag} {σ : Sig} {t : TA} {ta tv te : TE} {Q : DQ} {S : Sp3} {E : XK} {E3 : EQ3} {dds : List D} {dvs : List V}
theorem lift_of {F : Hp} {H : Hp} {Qv : VK} {ds : List D} {vs : List V} (b : Ex B F) (st : St3 F M H) (r : RDs F ds vs) (hE : ImpE B E3 E) (k : ∀ F' M' d v H', Ex F F' → St3 F' M' H' → RD F' d v → Q d M' → Qv v H') (h : S ds M Q E3) : lift3 S vs H Qv E :=
  ⟨ds, F, M, Q, E3, r, st, k, hE.mono b, h⟩
theorem w_call (hd : ∀ F, RDs F dds dvs) (hE : ImpE B E3 E) (h : W3a B t σ M (fun ds M1 => S (ds ++ dds) M1 Q E3)) : W3e B (tCall (lift3 S) dvs E t) σ M Q := fun F σv H Qv b hs st k =>
  h F σv H _ b hs st fun F1 M1 ds vs H1 e1 st1 rx q => lift_of (b.trans e1) st1 (rx.append (hd F1)) hE (fun F2 M2 d v H2 e2 => k F2 M2 d v H2 (e1.trans e2)) q
theorem w_call0 (h : W3a B t σ M (fun ds M1 => S ds M1 Q NoE)) : W3e B (tCall (lift3 S) [] E t) σ M Q := fun F σv H Qv b hs st k =>
  h F σv H _ b hs st fun F1 M1 ds vs H1 e1 st1 rx q => lift_of (b.trans e1) st1 (by rw [List.append_nil]; exact rx) impE0 (fun F2 M2 d v H2 e2 => k F2 M2 d v H2 (e1.trans e2)) q
/-- an instance: frozen, or owned -/
def InsD (M : Mem) (x : D) (C : Addr) (fs : List (Str × D)) : Prop := x = .ins C (fs.map (·.1)) (fs.map (·.2)) ∨ ∃ a, x = .ref a ∧ M a = some (.ins C fs)
theorem pkv_of {F : Hp} : ∀ {fs : List (Str × D)} {vs : List V}, RDs F (fs.map (·.2)) vs → PKV F fs ((fs.map (·.1)).zip vs)
  | [], _, h => by rw [show _ = [] from h]; exact .nil
  | a :: r, _, ⟨v, us, e, h1, h2⟩ => by subst e; exact .cons ⟨rfl, h1⟩ (pkv_of h2)
theorem InsD.at {x : D} {C : Addr} {fs : List (Str × D)} {F H : Hp} {v : V} (h : InsD M x C fs) (st : St3 F M H) (r : RD F x v) : ∃ a dx fv, v = .ref a ∧ H a = some (.ins C dx fv) ∧ PKV F fs fv := by
  rcases h with e | ⟨a, e, h⟩
  · subst e
    obtain ⟨a, dx, vs, e1, h1, hl, rs⟩ := r
    exact ⟨a, dx, _, e1, st.fz a _ h1, pkv_of rs⟩
  · subst e
    obtain ⟨_, ho, h1, dx, fv, e2, rs⟩ := st.own a _ h
    subst e2
    exact ⟨a, dx, fv, r, h1, rs⟩
theorem pkv_look {F : Hp} {f : Str} : ∀ {fs : List (Str × D)} {fv : List (Str × V)}, PKV F fs fv → (∀ {d : D}, fs.lookup f = some d → ∃ v, fv.lookup f = some v ∧ RD F d v) ∧ (fs.lookup f = none → fv.lookup f = none)
  | _, _, .nil => ⟨fun {d} h => (by cases h), fun _ => rfl⟩
  | (g, d) :: r, (g', v) :: rv, .cons h t => by
    have e : g = g' := h.1
    subst e
    obtain ⟨i1, i2⟩ := pkv_look (f := f) t
    constructor
    · intro d' hd
      by_cases q : f = g
      · subst q
        rw [List.lookup_cons_self] at hd ⊢
        cases hd
        exact ⟨v, rfl, h.2⟩
      · have qb : (f == g) = false := beq_eq_false_iff_ne.mpr q
        rw [List.lookup_cons, qb] at hd ⊢
        exact i1 hd
    · intro hd
      by_cases q : f = g
      · subst q; rw [List.lookup_cons_self] at hd; cases hd
      · have qb : (f == g) = false := beq_eq_false_iff_ne.mpr q
        rw [List.lookup_cons, qb] at hd ⊢
        exact i2 hd
def putD (f : Str) (v : D) : List (Str × D) → List (Str × D)
  | [] => [(f, v)]
  | (g, x) :: r => if g = f then (g, v) :: r else (g, x) :: putD f v r
theorem pkv_put {F : Hp} {f : Str} {d : D} {v : V} (rd : RD F d v) : ∀ {fs : List (Str × D)} {fv : List (Str × V)}, PKV F fs fv → PKV F (putD f d fs) (putF f v fv)
  | _, _, .nil => .cons ⟨rfl, rd⟩ .nil
  | (g, d') :: r, (g', v') :: rv, .cons h t => by
    have e : g = g' := h.1
    subst e
    show PKV F (if g = f then (g, d) :: r else (g, d') :: putD f d r) (if g = f then (g, v) :: rv else (g, v') :: putF f v rv)
    by_cases q : g = f
    · rw [if_pos q, if_pos q]; exact .cons ⟨rfl, rd⟩ t
    · rw [if_neg q, if_neg q]; exact .cons h (pkv_put rd t)
theorem w_fld {f : Str} (h : W3e B ta σ M (fun x M1 => ∃ C fs d, InsD M1 x C fs ∧ Cls K C ∧ NoAttr K C f ∧ fs.lookup f = some d ∧ Q d M1)) : W3e B (tFld K ta f) σ M Q := fun F σv H Qv b hs st k =>
  h F σv H _ b hs st fun F1 M1 x xv H1 e1 st1 rx ⟨C, fs, d, hi, c, n, l, q⟩ => by
    obtain ⟨a, dx, fv, ev, ha, pk⟩ := hi.at st1 rx
    obtain ⟨v, hv, rv⟩ := (pkv_look pk).1 l
    exact ⟨a, C, dx, fv, v, ev, ha, c, n, hv, k F1 M1 d v H1 e1 st1 rv q⟩
theorem pkv_len {F : Hp} {fs : List (Str × D)} {fv : List (Str × V)} (h : PKV F fs fv) : fs.length = fv.length := by
  have := congrArg List.length h.fst
  simpa using this
theorem s_fld {f : Str} {D3 : Ends3} (h : W3e B tv σ M (fun y M1 => W3e B ta σ M1 (fun x M2 => ∃ a C fs, x = .ref a ∧ M2 a = some (.ins C fs) ∧ Cls K C ∧ NoAttr K C f ∧ fs.length < 1000 ∧ D3.nx σ (mput M2 a (.ins C (putD f y fs)))))) : W3s B (sFld K ta tv f) D3 σ M := fun F σv H Dv b hs st im =>
  h F σv H _ b hs st fun F1 M1 y yv H1 e1 st1 ry q1 => q1 F1 σv H1 _ (b.trans e1) (hs.mono e1) st1 fun F2 M2 x xv H2 e2 st2 rx ⟨a, C, fs, ex, hm, c, n, l, q⟩ => by
    subst ex
    obtain ⟨_, ho, h1, dx, fv, e3, pk⟩ := st2.own a _ hm
    subst e3
    exact ⟨a, C, dx, fv, rx, h1, c, n, by rw [← pkv_len pk]; exact l, im.nx F2 _ σ σv _ (e1.trans e2) ((hs.mono e1).mono e2) (st2.put hm (d' := .ins C (putD f y fs)) ⟨dx, _, rfl, pkv_put (ry.mono e2) pk⟩) q⟩
theorem w_meth {C : Addr} {m : Str} (hd : ∀ F, RDs F dds dvs) (hE : ImpE B E3 E) (h : W3e B ta σ M (fun x M1 => ∃ fs, InsD M1 x C fs ∧ fs.lookup m = none ∧ W3a B t σ M1 (fun ds M2 => S (x :: (ds ++ dds)) M2 Q E3))) : W3e B (tMeth C m (lift3 S) dvs E ta t) σ M Q := fun F σv H Qv b hs st k =>
  h F σv H _ b hs st fun F1 M1 x xv H1 e1 st1 rx ⟨fs, hi, l, q1⟩ => by
    obtain ⟨a, dx, fv, ev, ha, pk⟩ := hi.at st1 rx
    refine ⟨a, dx, fv, ev, ha, (pkv_look pk).2 l, q1 F1 σv H1 _ (b.trans e1) (hs.mono e1) st1 fun F2 M2 ds vs H2 e2 st2 rs q2 => ?_⟩
    exact lift_of (ds := x :: (ds ++ dds)) ((b.trans e1).trans e2) st2 ⟨xv, _, rfl, rx.mono e2, rs.append (hd F2)⟩ hE (fun F3 M3 d v H3 e3 => k F3 M3 d v H3 ((e1.trans e2).trans e3)) q2
theorem w_meth0 {C : Addr} {m : Str} (h : W3e B ta σ M (fun x M1 => ∃ fs, InsD M1 x C fs ∧ fs.lookup m = none ∧ W3a B t σ M1 (fun ds M2 => S (x :: ds) M2 Q NoE))) : W3e B (tMeth C m (lift3 S) [] E ta t) σ M Q :=
  w_meth (dds := []) (fun _ => rfl) impE0 (h.to fun x M1 ⟨fs, a, b, c⟩ => ⟨fs, a, b, fun F σv H Qv bb hs st k => c F σv H Qv bb hs st fun F' M' ds vs H' e s r q => k F' M' ds vs H' e s r (by show S (x :: (ds ++ [])) M' Q NoE; rw [List.append_nil]; exact q)⟩)
theorem w_make {C : Addr} (hd : ∀ F, RDs F dds dvs) (hE : ImpE B E3 E) (h : W3a B t σ M (fun ds M1 => ∀ p, M1 p = none → S (.ref p :: (ds ++ dds)) (mput M1 p (.ins C [])) (fun d M2 => d = .non ∧ Q (.ref p) M2) E3)) : W3e B (tMake C (lift3 S) dvs E t) σ M Q := fun F σv H Qv b hs st k =>
  h F σv H _ b hs st fun F1 M1 ds vs H1 e1 st1 rx q x dx hx hdx hne => by
    have hx2 : (upd H1 dx (.own x)) x = none := by rw [upd_ne (Ne.symm hne)]; exact hx
    have s1 : St3 F1 M1 (upd H1 dx (.own x)) := by
      obtain ⟨f0, m0⟩ := st1.nn hdx
      refine ⟨fun a u e => ?_, fun a u e => ?_⟩
      · rw [upd_ne (ne_of_none e f0)]; exact st1.fz a u e
      · obtain ⟨y1, ho, y2, y3⟩ := st1.own a u e
        exact ⟨y1, ho, by rw [upd_ne (mne e m0)]; exact y2, y3⟩
    have s2 := s1.newO (p := x) (o := .ins C dx []) (d := .ins C []) hx2 ⟨dx, [], rfl, .nil⟩
    exact lift_of (ds := .ref x :: (ds ++ dds)) (b.trans e1) s2 ⟨.ref x, _, rfl, rfl, rx.append (hd F1)⟩ hE (fun F3 M3 d v H3 e3 s3 r3 ⟨ed, q3⟩ => by
      subst ed
      exact ⟨r3, k F3 M3 (.ref x) (.ref x) H3 (e1.trans e3) s3 rfl q3⟩) (q x (st1.nn hx).2)
end
end T3
set_option Elab.async false
set_option linter.all false
set_option maxRecDepth 100000
set_option maxHeartbeats 2000000
namespace T3
open PySem L2
open Evl (Ex)
/-- truth by value -/
def truD (M : Mem) (x : D) (k : Bool) : Prop := match x with
  | .non => k = false
  | .bl b => k = b
  | .int i => k = (i != 0)
  | .str y => y.length ≤ 1000000 ∧ k = ((y.length : Int) != 0)
  | .lst ds => k = !ds.isEmpty
  | .tup ds => k = !ds.isEmpty
  | .ref a => ∃ ds, M a = some (.lst ds) ∧ k = !ds.isEmpty
  | _ => False
theorem RDs.emp {F : Hp} : ∀ {ds : List D} {vs : List V}, RDs F ds vs → (!ds.isEmpty) = !vs.isEmpty
  | [], vs, h => by rw [show vs = [] from h]; rfl
  | _ :: _, _, ⟨v, r, e, _, _⟩ => by rw [e]; rfl
section
variable {B : Hp} {M : Mem} {K : PySem.W.Frag} {σ : Sig} {te ta tb : TE}
abbrev tTR (K : PySem.W.Frag) (ta : TE) : TT := fun σ H Q => ta σ H fun x H' => ∃ k, TruV K x H' k ∧ Q k H'
theorem truD_at {F H : Hp} {x : D} {v : V} {k : Bool} (st : St3 F M H) (r : RD F x v) (h : truD M x k) : TruV K v H k := by
  cases x with
  | non => rw [show v = _ from r]; exact h
  | bl b => rw [show v = _ from r]; exact h
  | int b => rw [show v = _ from r]; exact h
  | str b => rw [show v = _ from r]; exact ⟨Nat.le_trans h.1 (by decide), h.2⟩
  | lst ds => obtain ⟨a, vs, e1, h1, rs⟩ := r; rw [e1]; exact .inl ⟨vs, .inl (.inl (st.fz a _ h1)), by rw [← rs.emp]; exact h⟩
  | tup ds => obtain ⟨a, vs, e1, h1, rs⟩ := r; rw [e1]; exact .inr (.inl ⟨vs, .inl (.inl (st.fz a _ h1)), by rw [← rs.emp]; exact h⟩)
  | ref a =>
    obtain ⟨ds, hm, e⟩ := h
    obtain ⟨_, ho, h1, vs, e2, rs⟩ := st.own a _ hm
    subst e2
    rw [show v = _ from r]
    exact .inl ⟨vs, .inl (.inl h1), by rw [← rs.emp]; exact e⟩
  | ty _ => exact h.elim
  | ins _ _ _ => exact h.elim
theorem w_tr {Q : Bool → Mem → Prop} (h : W3e B ta σ M (fun x M1 => ∃ k, truD M1 x k ∧ Q k M1)) : W3t B (tTR K ta) σ M Q := fun F σv H Qv b hs st k =>
  h F σv H _ b hs st fun F1 M1 x xv H1 e1 st1 rx ⟨c, hc, q⟩ => ⟨c, truD_at st1 rx hc, k F1 M1 c H1 e1 st1 q⟩
theorem w_chain {r r' : R2} {tc : TE} {Q : DQ} (h : W3e B ta σ M (fun x M1 => W3e B tb σ M1 (fun y M2 => R3 B r x y M2 (fun z M3 => ∃ c, z = .bl c ∧ if c = true then W3e B tc σ M3 (fun w M4 => R3 B r' y w M4 Q) else Q (.bl false) M3)))) : W3e B (tChain r r' ta tb tc) σ M Q := fun F σv H Qv b hs st k =>
  h F σv H _ b hs st fun F1 M1 x xv H1 e1 st1 rx q1 => q1 F1 σv H1 _ (b.trans e1) (hs.mono e1) st1 fun F2 M2 y yv H2 e2 st2 ry q2 =>
    q2 F2 H2 xv yv _ ((b.trans e1).trans e2) st2 (rx.mono e2) ry fun F3 M3 z zv H3 e3 st3 rz ⟨c, ez, q3⟩ => by
      subst ez
      refine ⟨c, rz, ?_⟩
      cases c with
      | true =>
        show tc σv H3 fun w' H4 => r' yv w' H4 Qv
        exact q3 F3 σv H3 _ (((b.trans e1).trans e2).trans e3) (((hs.mono e1).mono e2).mono e3) st3 fun F4 M4 w wv H4 e4 st4 rw q4 =>
          q4 F4 H4 yv wv Qv ((((b.trans e1).trans e2).trans e3).trans e4) st4 ((ry.mono e3).mono e4) rw fun F5 M5 d v H5 e5 st5 r5 q5 => k F5 M5 d v H5 ((((e1.trans e2).trans e3).trans e4).trans e5) st5 r5 q5
      | false => exact k F3 M3 (.bl false) _ H3 ((e1.trans e2).trans e3) st3 rfl q3
/-- xs[i] = v, xs owned -/
theorem g_set {x : D} {Q : Sig → Mem → Prop} (h : W3e B ta σ M (fun o M1 => W3e B tb σ M1 (fun i M2 => ∃ a ds n j, o = .ref a ∧ i = .int n ∧ M2 a = some (.lst ds) ∧ ixN ds.length n = some j ∧ Q σ (mput M2 a (.lst (ds.set j x)))))) : G3 B (gSub ta tb rSetL) x σ M Q := fun F σv H xv Qv b hs st rx k =>
  h F σv H _ b hs st fun F1 M1 o ov H1 e1 st1 ro q1 => q1 F1 σv H1 _ (b.trans e1) (hs.mono e1) st1 fun F2 M2 i iv H2 e2 st2 ri ⟨a, ds, n, j, eo, ei, hm, hj, q⟩ => by
    subst eo; subst ei
    obtain ⟨_, ho, h1, vs, e3, rs⟩ := st2.own a _ hm
    subst e3
    exact ⟨a, vs, n, j, ro, ri, h1, by rw [← rs.length]; exact hj, k F2 _ σ σv _ (e1.trans e2) ((hs.mono e1).mono e2) (st2.put hm (d' := .lst (ds.set j x)) ⟨_, rfl, rs.set j ((rx.mono e1).mono e2)⟩) q⟩
theorem okD_int {n : Nat} {i : Int} : okD n (.int i) = true := by cases n <;> rfl
theorem okD_bl {n : Nat} {i : Bool} : okD n (.bl i) = true := by cases n <;> rfl
theorem okD_non {n : Nat} : okD n .non = true := by cases n <;> rfl
theorem okD_str {n : Nat} {s : Str} (h : s.cps.all (· < 0x110000) = true) : okD n (.str s) = true := by cases n <;> exact h
end
section
variable {B : Hp} {M : Mem} {Q : DQ} {σ : Sig} {i j : Int} {K : PySem.W.Frag}
theorem w_cI (q : Q (.int i) M) : W3e B (tC (.int i)) σ M Q := w_c q
theorem w_cB {b : Bool} (q : Q (.bl b) M) : W3e B (tC (.bl b)) σ M Q := w_c q
theorem w_cS {s : Str} (q : Q (.str s) M) : W3e B (tC (.str s)) σ M Q := w_c q
theorem w_cN (q : Q .non M) : W3e B (tC .non) σ M Q := w_c q
theorem w_cT {n : String} (q : Q (.ty n) M) : W3e B (tC (.ty n)) σ M Q := w_c q
theorem w_cR {a : Addr} (q : Q (.ref a) M) : W3e B (tC (.ref a)) σ M Q := w_c q
theorem r3_sub (q : Q (.int (i - j)) M) : R3 B (rI0 fun i j => .int (i - j)) (.int i) (.int j) M Q := r3_I0 q
theorem r3_lt (q : Q (.bl (decide (i < j))) M) : R3 B (rI0 fun i j => .bl (decide (i < j))) (.int i) (.int j) M Q := r3_I0 q
theorem r3_le (q : Q (.bl (decide (i ≤ j))) M) : R3 B (rI0 fun i j => .bl (decide (i ≤ j))) (.int i) (.int j) M Q := r3_I0 q
theorem r3_gt (q : Q (.bl (decide (j < i))) M) : R3 B (rI0 fun i j => .bl (decide (j < i))) (.int i) (.int j) M Q := r3_I0 q
theorem r3_ge (q : Q (.bl (decide (j ≤ i))) M) : R3 B (rI0 fun i j => .bl (decide (j ≤ i))) (.int i) (.int j) M Q := r3_I0 q
theorem r3_mul (h : CMulW i j) (q : Q (.int (i * j)) M) : R3 B (rI CMulW fun i j => .int (i * j)) (.int i) (.int j) M Q := r3_I h q
theorem r3_mod (h : 0 < j) (q : Q (.int (i % j)) M) : R3 B (rI (fun _ j => j ≠ 0) fun i j => .int (i.fmod j)) (.int i) (.int j) M Q := r3_I (d := .int (i.fmod j)) (by omega) (by rw [Int.fmod_eq_emod_of_nonneg _ (by omega)]; exact q)
theorem r3_fdiv (h : 0 < j) (h2 : j.natAbs < 2 ^ 400) (q : Q (.int (i / j)) M) : R3 B (rI CDivW fun i j => .int (i / j)) (.int i) (.int j) M Q := r3_I ⟨h, Nat.lt_of_lt_of_le (PySem.Flt.log2_lt_of (by decide) h2) (by decide)⟩ q
theorem r3_pow (h : CPow i j) (q : Q (.int (i ^ j.toNat)) M) : R3 B (rI CPow fun i j => .int (i ^ j.toNat)) (.int i) (.int j) M Q := r3_I h q
theorem u3_neg (q : Q (.int (-i)) M) : U3 B (rU fun i => .int (-i)) (.int i) M Q := u3_I q
theorem at3 {α : Type} {xs : List α} {z : Int} {j : Nat} {v : α} (e : z = (j : Int)) (h : xs[j]? = some v) : atI xs z = some v := by rw [e]; exact atI_nat h
/-- both factors below 2 ^ 400 -/
theorem mulW {i j : Int} (hi : i.natAbs < 2 ^ 400) (hj : j.natAbs < 2 ^ 400) : CMulW i j := wide_mul hi hj (by decide) (by decide) (by decide)
end
section
variable {B : Hp} {ta tb te : TE} {ts tu : TS} {tA tB' : TT} {σ : Sig} {M : Mem} {Q : DQ} {D3 : Ends3}
theorem w_orP {a b : Bool} (h1 : W3e B ta σ M (fun x M1 => x = .bl a ∧ M1 = M)) (h2 : a = false → W3e B tb σ M (fun x M1 => x = .bl b ∧ M1 = M)) (q : Q (.bl (a || b)) M) : W3e B (tOrV ta tb) σ M Q :=
  w_orV (h1.to fun d M1 ⟨e1, e2⟩ => ⟨a, e1, by
    subst e2
    cases a with
    | true => exact q
    | false => exact (h2 rfl).to fun d M2 ⟨e3, e4⟩ => by subst e3; subst e4; exact q⟩)
theorem w_andP {a b : Bool} (h1 : W3e B ta σ M (fun x M1 => x = .bl a ∧ M1 = M)) (h2 : a = true → W3e B tb σ M (fun x M1 => x = .bl b ∧ M1 = M)) (q : Q (.bl (a && b)) M) : W3e B (tAndV ta tb) σ M Q :=
  w_andV (h1.to fun d M1 ⟨e1, e2⟩ => ⟨a, e1, by
    subst e2
    cases a with
    | false => exact q
    | true => exact (h2 rfl).to fun d M2 ⟨e3, e4⟩ => by subst e3; subst e4; exact q⟩)
theorem w_andTP {a b : Bool} {Q : Bool → Mem → Prop} (h1 : W3t B tA σ M (fun x M1 => x = a ∧ M1 = M)) (h2 : a = true → W3t B tB' σ M (fun x M1 => x = b ∧ M1 = M)) (q : Q (a && b) M) : W3t B (tAnd tA tB') σ M Q :=
  w_andT (h1.to fun d M1 ⟨e1, e2⟩ => by
    subst e1; subst e2
    cases d with
    | false => exact q
    | true => exact (h2 rfl).to fun d M2 ⟨e3, e4⟩ => by subst e3; subst e4; exact q)
theorem w_orTP {a b : Bool} {Q : Bool → Mem → Prop} (h1 : W3t B tA σ M (fun x M1 => x = a ∧ M1 = M)) (h2 : a = false → W3t B tB' σ M (fun x M1 => x = b ∧ M1 = M)) (q : Q (a || b) M) : W3t B (tOr tA tB') σ M Q :=
  w_orT (h1.to fun d M1 ⟨e1, e2⟩ => by
    subst e1; subst e2
    cases d with
    | true => exact q
    | false => exact (h2 rfl).to fun d M2 ⟨e3, e4⟩ => by subst e3; subst e4; exact q)
theorem s_seqM (Mid : Sig → Mem → Prop) (h : W3s B ts { D3 with nx := Mid } σ M) (k : ∀ σ M, Mid σ M → W3s B tu D3 σ M) : W3s B (tSeq ts tu) D3 σ M :=
  s_seq (h.to (fun σ M z => k σ M z) (fun _ _ z => z) (fun _ _ z => z) (fun _ _ z => z))
theorem iteB {c : Bool} {P R : Prop} (h1 : c = true → P) (h2 : c = false → R) : if c = true then P else R := by
  cases c with
  | true => exact h1 rfl
  | false => exact h2 rfl
end
end T3
set_option Elab.async false
set_option linter.all false
set_option maxRecDepth 100000
set_option maxHeartbeats 2000000
namespace L2
open PySem PySem.Spec PyProof.Rows
/-- l.count(x) -/
def rCountD (K : PySem.W.Frag) : V → List V → Hp → VK → Prop := fun x xs H Q => ∃ (a : Addr) (y : V) (d : PyData) (ds : List PyData), x = V.ref a ∧ xs = [y] ∧ Dp K H (V.ref a) (.list ds) ∧ Dp K H y d ∧
  SeqAt.shaped (.list ds) = true ∧ SeqAt.shaped d = true ∧ Q (.int ((ds.countP fun z => PyData.eqv z d : Nat))) H
/-- l.remove(x), x is there -/
def rRemoveD (K : PySem.W.Frag) : V → List V → Hp → VK → Prop := fun x xs H Q => ∃ (a : Addr) (us : List V) (y : V) (d : PyData) (ds : List PyData) (j : Nat) (z : PyData), x = V.ref a ∧ xs = [y] ∧ H a = some (.lst us) ∧ DpAll K H us ds ∧ Dp K H y d ∧
  SeqAt.shaped (.list ds) = true ∧ SeqAt.shaped d = true ∧ ds[j]? = some z ∧ PyData.eqv z d = true ∧ (∀ (m : Nat) (z' : PyData), m < j → ds[m]? = some z' → PyData.eqv z' d = false) ∧ Q .non (upd H a (.lst (us.eraseIdx j)))
section
variable {X : Cx}
theorem mt_countD (hu : X.A.units + 65 < cLine) : MtR X "list.count" (rCountD X.K) := by
  intro pins s σ H x xs v us Q I rx rxs h
  obtain ⟨a, y, d, ds, rfl, rfl, hl, hy, sl, sd, q⟩ := h
  cases rx
  cases rxs with
  | cons ry rt =>
    rename_i uy ut
    cases rt
    obtain ⟨bs, r1⟩ := Dp.reads I d y uy hy ry
    have hxs : PyData.canLayAll0 ds = true := SeqAt.canLay_of_shaped sl
    have hroom : X.A.units + 1 + min (PyData.depthAll ds) d.depth < cLine := room_in_shaped sd hu
    cases hl with
    | lst hs ha =>
      obtain ⟨its, rv, ⟨⟨cls, dd, data, sls⟩, n, ho, hc, hdn, hdt⟩, hlen⟩ := I.list hs
      simp only at hc hdt
      subst hc hdt
      obtain ⟨as, h4⟩ := Dp.readsAll I ds _ its ha rv
      have hmap : its.map (SeqAt.readOf s.heap) = ds := SeqAt.readsAll_map ds its as hxs h4
      refine call_meets PySem.F.slot_list_count ⟨_, ho, rfl⟩ PySem.F.entry_list_count (PySem.F.args_list_count_2 _ _)
        (SeqAt.list_countAt a its.toArray n dd sls uy (fun u => PyData.eqv (SeqAt.readOf s.heap u) d)) ⟨ho, SeqAt.items_eqAt (vs := its.toArray) (show ReadsAll s.heap its.toArray.toList ds as from h4) r1 hxs (SeqAt.canLay_of_shaped sd) hroom, ?_⟩
      have ec : List.countP (fun u => PyData.eqv (SeqAt.readOf s.heap u) d) its.toArray.toList = ds.countP fun z => PyData.eqv z d := by
        rw [← hmap, List.countP_map]; rfl
      rw [ec]
      exact ⟨.int (_ : Nat), H, I.tok _, ⟨_, rfl⟩, q⟩
theorem mt_removeD (hu : X.A.units + 65 < cLine) : MtR X "list.remove" (rRemoveD X.K) := by
  intro pins s σ H x xs v us Q I rx rxs h
  obtain ⟨a, vs, y, d, ds, j, z, rfl, rfl, hH, ha, hy, sl, sd, hz, hzj, hno, q⟩ := h
  cases rx
  cases rxs with
  | cons ry rt =>
    rename_i uy ut
    cases rt
    obtain ⟨bs, r1⟩ := Dp.reads I d y uy hy ry
    have hxs : PyData.canLayAll0 ds = true := SeqAt.canLay_of_shaped sl
    have hroom : X.A.units + 1 + min (PyData.depthAll ds) d.depth < cLine := room_in_shaped sd hu
    obtain ⟨hlen, its, n, rv, ho⟩ := I.hok a _ hH
    obtain ⟨as, h4⟩ := Dp.readsAll I ds _ its ha rv
    have hn : its.length = ds.length := SeqAt.ReadsAll.length ds its as h4
    have hmap : its.map (SeqAt.readOf s.heap) = ds := SeqAt.readsAll_map ds its as hxs h4
    have hvl := rv.length
    obtain ⟨hjd, _⟩ := List.getElem?_eq_some_iff.mp hz
    have hjl : j < its.length := by omega
    have hj : j < its.toArray.size := by simpa using hjl
    have at_ : ∀ (m : Nat) (hm : m < its.toArray.size) (z' : PyData), ds[m]? = some z' → SeqAt.readOf s.heap its.toArray[m] = z' := by
      intro m hm z' hz'
      have hml : m < its.length := by simpa using hm
      rw [← hmap, List.getElem?_map, List.getElem?_eq_getElem hml] at hz'
      have e1 : SeqAt.readOf s.heap its[m] = z' := Option.some.inj (show some (SeqAt.readOf s.heap its[m]) = some z' from hz')
      simpa using e1
    refine call_meets PySem.F.slot_list_remove ⟨_, ho, rfl⟩ PySem.F.entry_list_remove (PySem.F.args_list_remove_2 _ _)
      (SeqAt.list_removeAt a its.toArray n none #[] uy (fun u => PyData.eqv (SeqAt.readOf s.heap u) d) j hj ?_ ?_ (by simp; omega)) ⟨ho, SeqAt.items_eqAt (vs := its.toArray) (show ReadsAll s.heap its.toArray.toList ds as from h4) r1 hxs (SeqAt.canLay_of_shaped sd) hroom, ?_⟩
    · show PyData.eqv (SeqAt.readOf s.heap its.toArray[j]) d = true
      rw [at_ j hj z hz]
      exact hzj
    · intro m hm hmj
      have hmd : m < ds.length := by omega
      have hz' : ds[m]? = some ds[m] := List.getElem?_eq_getElem hmd
      show PyData.eqv (SeqAt.readOf s.heap its.toArray[m]) d = false
      rw [at_ m hm _ hz']
      exact hno m _ hmj hz'
    · refine ⟨.non, _, I.lstUpd (its' := its.eraseIdx j) (n' := n + 1) hH ho ?_ (rv.eraseIdx j) (Nat.le_trans (List.length_eraseIdx_le ..) hlen) _, rfl, q⟩
      simp [Obj.mapSeq, Array.eraseIdxIfInBounds, hjl]
      rw [List.length_eraseIdx_of_lt hjl]; omega
end
end L2
set_option Elab.async false
set_option linter.all false
set_option maxRecDepth 100000
set_option maxHeartbeats 2000000
namespace L2
open PySem PySem.Spec PyProof.Rows
/-! ### isinstance of a tracked exception, its field -/
structure ExcX (K : PySem.W.Frag) (D : Addr) : Prop where
  cl : (PySem.W.clsIn K D).isSome = true
  ga : PySem.W.findIn K (.ref D) "__getattribute__" = some (some (.builtin "BaseException.__getattribute__"))
  gg : PySem.W.findIn K (.ref D) "__getattr__" = some none
  hs : PySem.W.subIn K (.ref D) (.type "BaseException") = some true
  ha : PySem.W.findIn K (.ref D) "__class__" = some (some (.builtin "object.__class__"))
  hn : PySem.W.specialIn K (.builtin "object.__class__") "__get__" = some (some (.builtin "getset_descriptor.__get__"))
  ht : PySem.W.takesIn K (.builtin "object.__class__") = some true
  hm : PySem.W.mroIn K D (.type "object") = some true
  hd : PySem.W.hasDictIn K D = true
  no : PySem.W.findIn K (.ref D) "thing" = some none
/-- the exception at a, of the class D, with the dict at dd -/
def ExAt (H : Hp) (a D dd : Addr) (fs : List (Str × V)) : Prop := H a = some (EXO a (.ref D) (some dd)) ∧ H dd = some (.xd fs)
def rIsX (K : PySem.W.Frag) : List V → Hp → VK → Prop := fun xs H Q => ∃ (a D dd : Addr) (fs : List (Str × V)) (c : V) (cv : Value) (b : Bool), xs = [.ref a, c] ∧ ExAt H a D dd fs ∧ ExcX K D ∧ ClsV c cv ∧ PySem.W.kitOne K (.ref D) cv = some b ∧ Q (.bl b) H
def rISI (K : PySem.W.Frag) : List V → Hp → VK → Prop := fun xs H Q => rIsi K xs H Q ∨ rIsX K xs H Q
section
variable {X : Cx}
theorem exAt_inst {pins : List (Addr × Obj)} {σ : St} {H : Hp} {s : Shared} {a D dd : Addr} {fs : List (Str × V)} (I : Inv X pins σ H s) (e : ExAt H a D dd fs) :
    ∃ oe od, PySem.W.InstAt s.heap a oe D (some od) ∧ (∃ mA, s.heap.Ns1 dd mA ∧ ∀ f, RelO (fs.lookup f) (mA f)) ∧ s.heap.get? dd = some od ∧ oe.dict = some dd := by
  obtain ⟨oe, vs, h1, h2, h3, h4⟩ := exo_of I.hok e.1
  have hx : ObjOk X.prog X.w H s.heap dd (.xd fs) := I.hok dd _ e.2
  obtain ⟨mA, hns, hr⟩ := hx
  obtain ⟨od, ho, hl⟩ := lookIn_ns hns
  exact ⟨oe, od, ⟨h1, h2, by unfold PySem.W.notCls; rw [h4] <;> rfl, by rw [h3]; exact ho⟩, ⟨mA, hns, hr⟩, ho, h3⟩
theorem call_isX : CallR X (.builtin "isinstance") (rIsX X.K) := by
  intro pins s σ H xs us Q I r h
  obtain ⟨a, D, dd, fs, c, cv, b, rfl, hx, C, hc, e, q⟩ := h
  obtain ⟨u1, u2, rfl, r1, r2⟩ := vals2 r
  cases (show u1 = Value.ref a from r1)
  have e2 := hc.eq r2
  subst e2
  obtain ⟨oe, od, J, _⟩ := exAt_inst I hx
  exact PySem.W.kia_one (PySem.W.kitx_exc C.cl C.ga C.gg C.hs C.ha C.hn C.ht C.hm) I.kIn J e (fun z => nomatch z) fun tk => ⟨.bl b, H, I.kept (t' := tk) fun _ _ z => z, rfl, q⟩
theorem call_ISI : CallR X (.builtin "isinstance") (rISI X.K) := by
  intro pins s σ H xs us Q I r h
  rcases h with h | h
  · exact call_isi pins s σ H xs us Q I r h
  · exact call_isX pins s σ H xs us Q I r h
def tThing (K : PySem.W.Frag) (te : TE) : TE := fun σ H Q => te σ H fun x H1 => ∃ (a D dd : Addr) (v : V), x = .ref a ∧ ExAt H1 a D dd [(("thing" : Str), v)] ∧ ExcX K D ∧ Q v H1
theorem pe_thing {e : Expr} {te : TE} {pos : Pos} (he : PE X e te) (hb : attributeBase e "thing" X.env (eval e X.env) = eval e X.env := by rfl) : PE X (.Attribute e "thing" pos) (tThing X.K te) := by
  refine ⟨fun pins s σ H Q I h => ?_⟩
  refine attr_of hb (thn (he.run pins s σ H _ I h) fun u s1 hh => ?_)
  obtain ⟨x, H1, I1, rx, a, D, dd, v, ex, ea, T, q⟩ := hh
  subst ex
  obtain rfl : u = Value.ref a := rx
  obtain ⟨oe, od, J, ⟨mA, hns, hr⟩, ho, hdd⟩ := exAt_inst I1 ea
  obtain ⟨od', ho', hl⟩ := lookIn_ns hns
  rw [ho] at ho'; cases ho'
  have l : List.lookup ("thing" : Str) [(("thing" : Str), v)] = some v := by simp [List.lookup]
  obtain ⟨u, hu, ru⟩ := RelO.some_of (v := v) (o := mA "thing") (by rw [← l]; exact hr "thing")
  exact HandSPX.exc_get I1.kIn J T.ga T.gg T.hs (PySem.W.findObj_own T.hd T.no rfl (by rw [hl, hu])) (handed_of ru) ⟨v, H1, I1.tok _, ru, q⟩
end
end L2
namespace T3
open PySem L2
open Evl (Ex)
/-! ### exceptions at the pure level -/
abbrev EW3 := Addr → D → Sig → Mem → Prop
def ImpW (F : Hp) (EW : EW3) (W : WX) : Prop := ∀ F' M' σ' σv' C d thing v H', Ex F F' → SRel F' σ' σv' → St3 F' M' H' → RD F' thing v → F' d = some (.xd [(("thing" : Str), v)]) → EW C thing σ' M' → W (.ref C) (some d) σv' H'
theorem ImpW.mono {F F1 : Hp} {EW : EW3} {W : WX} (h : ImpW F EW W) (e : Ex F F1) : ImpW F1 EW W := fun F' M' σ' σv' C d t v H' a => h F' M' σ' σv' C d t v H' (e.trans a)
theorem impW_of {F : Hp} {E3 : EQ3} {E : XK} (h : ImpE F E3 E) : ImpW F (fun C th _ M => E3 C th M) (fun cls d _ H => E cls d H) := fun F' M' σ' σv' C d t v H' e _ s r x q => h F' M' C d t v H' e s r x q
theorem impW0 {F : Hp} : ImpW F (fun _ _ _ _ => False) (fun _ _ _ _ => False) := fun _ _ _ _ _ _ _ _ _ _ _ _ _ _ q => q
def end3 (i : Option Nat) (σ : Sig) : Sig := match i with | some i => σ.set i none | none => σ
def set3 (i : Option Nat) (a : Addr) (σ : Sig) : Sig := match i with | some i => σ.set i (some (.ref a)) | none => σ
def exW (B : Hp) (K : PySem.W.Frag) (EWo : EW3) (D3 : Ends3) : List (Value × Option Nat × TS) → EW3
  | [] => EWo
  | (c, i, ts) :: r => fun C th σ M => ∃ b, PySem.W.exmOne K (.ref C) c = some b ∧ (b = true → ∀ a, M a = none → W3s B ts { nx := fun σ' M' => D3.nx (end3 i σ') M', rt := D3.rt, bk := fun σ' M' => D3.bk (end3 i σ') M', ct := fun σ' M' => D3.ct (end3 i σ') M' } (set3 i a σ) (mput M a (.exc a C th))) ∧
      (b = false → exW B K EWo D3 r C th σ M)
theorem SRel.end3 {F : Hp} {σ : Sig} {σv : St} (h : SRel F σ σv) (i : Option Nat) : SRel F (T3.end3 i σ) (endI i σv) := by
  cases i with
  | none => exact h
  | some i => exact h.setN
theorem SRel.set3 {F : Hp} {σ : Sig} {σv : St} (h : SRel F σ σv) (i : Option Nat) (a : Addr) : SRel F (T3.set3 i a σ) (setI i a σv) := by
  cases i with
  | none => exact h
  | some i => exact h.set rfl
theorem exW_imp {B : Hp} {K : PySem.W.Frag} {EWo : EW3} {D3 : Ends3} {Wo : WX} {Dv : Ends} {F : Hp} (b : Ex B F) (im : Imp F D3 Dv) (ho : ImpW F EWo Wo) : ∀ l : List (Value × Option Nat × TS), ImpW F (exW B K EWo D3 l) (wManyA K Wo Dv l)
  | [] => ho
  | (c, i, ts) :: r => fun F' M' σ' σv' C d t v H' e s st rt x ⟨k, hk, hy, hn⟩ => by
    refine ⟨k, hk, fun ek a na => ?_, fun ek => exW_imp b im ho r F' M' σ' σv' C d t v H' e s st rt x (hn ek)⟩
    obtain ⟨f0, m0⟩ := st.nn na
    have st2 : St3 F' (mput M' a (.exc a C t)) (upd H' a (EXO a (.ref C) (some d))) := st.newO na ⟨d, v, rfl, x, rt⟩
    have im' := im.mono e
    refine hy ek a m0 F' (setI i a σv') _ _ (b.trans e) (s.set3 i a) st2 ⟨fun F2 M2 σ2 σv2 H2 e2 s2 t2 q => ?_, ?_, fun F2 M2 σ2 σv2 H2 e2 s2 t2 q => ?_, fun F2 M2 σ2 σv2 H2 e2 s2 t2 q => ?_⟩
    · exact im'.nx F2 M2 _ _ H2 e2 (s2.end3 i) t2 q
    · exact im'.rt
    · exact im'.bk F2 M2 _ _ H2 e2 (s2.end3 i) t2 q
    · exact im'.ct F2 M2 _ _ H2 e2 (s2.end3 i) t2 q
section
variable {B : Hp} {M : Mem} {K : PySem.W.Frag} {σ : Sig} {D3 : Ends3} {te : TE} {t ta : TA} {Q : DQ} {S : Sp3}
theorem s_try {tb : WX → TS} {l : List (Value × Option Nat × TS)} {Wo : WX} {EWo : EW3} (ho : ImpW B EWo Wo) (h : ∀ B' W, Ex B B' → ImpW B' (exW B K EWo D3 l) W → W3s B' (tb W) D3 σ M) : W3s B (fun D σ H => tb (wManyA K Wo D l) D σ H) D3 σ M := fun F σv H Dv b hs st im =>
  h F (wManyA K Wo Dv l) b (exW_imp b im (ho.mono b) l) F σv H Dv (Ex.refl _) hs st im
theorem w_callS {W : WX} {EW : EW3} (hW : ImpW B EW W) (h : W3a B t σ M (fun ds M1 => S ds M1 Q (fun C th M' => EW C th σ M'))) : W3e B (tCallS (lift3 S) (WE W) t) σ M Q := fun F σv H Qv b hs st k =>
  h F σv H _ b hs st fun F1 M1 ds vs H1 e1 st1 rx q => ⟨ds, F1, M1, Q, _, rx, st1, fun F2 M2 d v H2 e2 => k F2 M2 d v H2 (e1.trans e2), fun F' M' C d thing v H' e s r x q' => hW F' M' σ σv C d thing v H' ((b.trans e1).trans e) ((hs.mono e1).mono e) s r x q', q⟩
theorem s_raise {C : Addr} {W : WX} {EW : EW3} (hW : ImpW B EW W) (h : W3a B ta σ M (fun ds M1 => ∃ x y, ds = [x, y] ∧ EW C x σ M1)) : W3s B (tRaiseDye C W ta) D3 σ M := fun F σv H Dv b hs st im =>
  h F σv H _ b hs st fun F1 M1 ds vs H1 e1 st1 rx ⟨x, y, ed, q⟩ => by
    subst ed
    obtain ⟨v, u, ev, rv, ru⟩ := rx.two
    refine ⟨v, u, ev, fun d hd => ?_⟩
    obtain ⟨s2, e2⟩ := st1.new (o := .xd [(("thing" : Str), v)]) hd
    exact hW _ M1 σ σv C d x v _ ((b.trans e1).trans e2) ((hs.mono e1).mono e2) s2 (rv.mono e2) upd_same q
theorem w_thing (h : W3e B te σ M (fun x M1 => ∃ a C th, x = .ref a ∧ M1 a = some (.exc a C th) ∧ ExcX K C ∧ Q th M1)) : W3e B (tThing K te) σ M Q := fun F σv H Qv b hs st k =>
  h F σv H _ b hs st fun F1 M1 x xv H1 e1 st1 rx ⟨a, C, th, ex, hm, hc, q⟩ => by
    subst ex
    obtain ⟨_, ho, h1, dd, v, e2, hx, rv⟩ := st1.own a _ hm
    subst e2
    exact ⟨a, C, dd, v, rx, ⟨h1, st1.fz dd _ hx⟩, hc, k F1 M1 th v H1 e1 st1 rv q⟩
theorem c3_ISI {x : D} {n : String} {c : Bool} (h : (tyD x == "") = false) (hk : PySem.W.kitOne K (.type (tyD x)) (.type n) = some c) (q : Q (.bl c) M) : C3 B (rISI K) [x, .ty n] M Q := fun F H xv Qv b st rx k => .inl (c3_isi h hk q F H xv Qv b st rx k)
theorem c3_isX {a C C2 : Addr} {th : D} {c : Bool} (hm : M a = some (.exc a C th)) (hC : ExcX K C) (hk : PySem.W.kitOne K (.ref C) (.ref C2) = some c) (q : Q (.bl c) M) : C3 B (rISI K) [.ref a, .ref C2] M Q := fun F H xv Qv b st rx k => by
  obtain ⟨v, u, e, r1, r2⟩ := rx.two
  obtain ⟨_, ho, h1, dd, tv, e2, hx, rv⟩ := st.own a _ hm
  subst e2
  exact .inr ⟨a, C, dd, _, u, .ref C2, c, by rw [e, show v = V.ref a from r1], ⟨h1, st.fz dd _ hx⟩, hC, by rw [show u = V.ref C2 from r2]; exact .own C2, hk, k F M (.bl c) _ H (Ex.refl _) st rfl q⟩
theorem c3_isXt {a C : Addr} {n : String} {th : D} {c : Bool} (hm : M a = some (.exc a C th)) (hC : ExcX K C) (hk : PySem.W.kitOne K (.ref C) (.type n) = some c) (q : Q (.bl c) M) : C3 B (rISI K) [.ref a, .ty n] M Q := fun F H xv Qv b st rx k => by
  obtain ⟨v, u, e, r1, r2⟩ := rx.two
  obtain ⟨_, ho, h1, dd, tv, e2, hx, rv⟩ := st.own a _ hm
  subst e2
  exact .inr ⟨a, C, dd, _, u, .type n, c, by rw [e, show v = V.ref a from r1], ⟨h1, st.fz dd _ hx⟩, hC, by rw [show u = V.ty n from r2]; exact .ty n, hk, k F M (.bl c) _ H (Ex.refl _) st rfl q⟩
/-! ### index, count, remove by value -/
def rMD (K : PySem.W.Frag) : V → List V → Hp → VK → Prop := rIndexD K
theorem getM {α β : Type} {f : α → β} {l : List α} {i : Nat} {b : β} (h : (l.map f)[i]? = some b) : ∃ a, l[i]? = some a ∧ f a = b := by
  rw [List.getElem?_map] at h
  exact Option.map_eq_some_iff.mp h
theorem m3_index {n m : Nat} {x y z : D} {ds : List D} {j : Nat} (l : LstD M x ds) (hx : okDs n ds = true) (hy : okD m y = true) (hz : ds[j]? = some z) (he : peq z y = true) (hno : ∀ (i : Nat) z', i < j → ds[i]? = some z' → peq z' y = false) (q : Q (.int j) M) (hn : n < 64 := by decide) (hm : m ≤ 64 := by decide) : M3 B (rIndexD K) x [y] M Q := fun F H xv xvs Qv b st rx rxs k => by
  obtain ⟨v, e, ry⟩ := rxs.sing
  have hd := l.dp (K := K) hx st rx
  obtain ⟨a, vs, ev, _, _⟩ := l.at st rx
  subst ev
  refine ⟨a, v, py y, pys ds, j, py z, rfl, e, hd, okD_dp st.fz hy ry, okDs_shaped hx hn, okD_shaped hy hm, ?_, he, fun i z' hi hz' => ?_, k F M (.int j) _ H (Ex.refl _) st rfl q⟩
  · rw [pys_map, List.getElem?_map, hz]; rfl
  · rw [pys_map] at hz'
    obtain ⟨z2, h1, h2⟩ := getM hz'
    rw [← h2]; exact hno i z2 hi h1
theorem m3_count {n m : Nat} {x y : D} {ds : List D} (l : LstD M x ds) (hx : okDs n ds = true) (hy : okD m y = true) (q : Q (.int (ds.countP fun z => peq z y : Nat)) M) (hn : n < 64 := by decide) (hm : m ≤ 64 := by decide) : M3 B (rCountD K) x [y] M Q := fun F H xv xvs Qv b st rx rxs k => by
  obtain ⟨v, e, ry⟩ := rxs.sing
  have hd := l.dp (K := K) hx st rx
  obtain ⟨a, vs, ev, _, _⟩ := l.at st rx
  subst ev
  refine ⟨a, v, py y, pys ds, rfl, e, hd, okD_dp st.fz hy ry, okDs_shaped hx hn, okD_shaped hy hm, ?_⟩
  have ec : ((pys ds).countP fun z => PyData.eqv z (py y)) = ds.countP fun z => peq z y := by rw [pys_map, List.countP_map]; rfl
  rw [ec]
  exact k F M (.int _) _ H (Ex.refl _) st rfl q
theorem m3_remove {n m : Nat} {y z : D} {a : Addr} {ds : List D} {j : Nat} (hM : M a = some (.lst ds)) (hx : okDs n ds = true) (hy : okD m y = true) (hz : ds[j]? = some z) (he : peq z y = true) (hno : ∀ (i : Nat) z', i < j → ds[i]? = some z' → peq z' y = false) (q : Q .non (mput M a (.lst (ds.eraseIdx j)))) (hn : n < 64 := by decide) (hm : m ≤ 64 := by decide) : M3 B (rRemoveD K) (.ref a) [y] M Q := fun F H xv xvs Qv b st rx rxs k => by
  obtain ⟨v, e, ry⟩ := rxs.sing
  obtain ⟨_, ho, h1, vs, e2, rs⟩ := st.own a _ hM
  subst e2
  refine ⟨a, vs, v, py y, pys ds, j, py z, rx, e, h1, okDs_dp st.fz hx rs, okD_dp st.fz hy ry, okDs_shaped hx hn, okD_shaped hy hm, ?_, he, fun i z' hi hz' => ?_, k F _ .non _ _ (Ex.refl _) (st.put hM (d' := .lst (ds.eraseIdx j)) ⟨_, rfl, rs.eraseIdx j⟩) rfl q⟩
  · rw [pys_map, List.getElem?_map, hz]; rfl
  · rw [pys_map] at hz'
    obtain ⟨z2, h1, h2⟩ := getM hz'
    rw [← h2]; exact hno i z2 hi h1
end
end T3
set_option Elab.async false
set_option linter.all false
namespace T3
open PySem L2
open Evl (Ex)
section
variable {B : Hp} {M : Mem} {K : PySem.W.Frag} {σ : Sig} {te : TE} {t : TA} {Q : DQ} {P : Program} {w : World}
theorem RDs.rev {F : Hp} : ∀ {ds : List D} {vs : List V}, RDs F ds vs → RDs F ds.reverse vs.reverse
  | [], _, h => by rw [show _ = [] from h]; rfl
  | d :: ds, _, ⟨v, vs, e, r, rs⟩ => by subst e; rw [List.reverse_cons, List.reverse_cons]; exact (RDs.rev rs).snoc r
theorem w_rev (h : W3e B te σ M (fun x M1 => ∃ ds, LstD M1 x ds ∧ Q (.lst ds.reverse) M1)) : W3e B (tRevL K te) σ M Q := fun F σv H Qv b hs st k =>
  h F σv H _ b hs st fun F1 M1 x xv H1 e1 st1 rx ⟨ds, l, q⟩ => by
    obtain ⟨a, vs, e, h1, rs⟩ := l.seq (K := K) st1 rx
    refine ⟨a, vs, e, h1, fun p hp => ?_⟩
    obtain ⟨s2, e2⟩ := st1.new (o := .lst vs.reverse) hp
    exact k _ M1 (.lst ds.reverse) _ _ (e1.trans e2) s2 ⟨p, _, rfl, upd_same, rs.rev.mono e2⟩ q
theorem c3_set0 (q : ∀ p, M p = none → Q (.ref p) (mput M p (.raw (SetK P w p (fun _ => false) 0)))) : C3 B (rSet0K P w) [] M Q := fun F H xv Qv b st rx k => by
  refine ⟨rx, fun p hp => ?_⟩
  exact k F _ (.ref p) _ _ (Ex.refl _) (st.newO (d := .raw _) hp rfl) rfl (q p (st.nn hp).2)
theorem w_sadd (h : W3e B te σ M (fun x M1 => ∃ a S n, x = .ref a ∧ M1 a = some (.raw (SetK P w a S n)) ∧ W3a B t σ M1 (fun ds M2 => ∃ d k S n, ds = [d] ∧ (∀ F v, RD F d v → v = kV k) ∧ M2 a = some (.raw (SetK P w a S n)) ∧ n + 1 < scanBound ∧
      Q .non (mput M2 a (.raw (SetK P w a (fun j => S j || decide (j = k)) (if S k = true then n else n + 1))))))) : W3e B (tSAddK P w te t) σ M Q := fun F σv H Qv b hs st kk =>
  h F σv H _ b hs st fun F1 M1 x xv H1 e1 st1 rx ⟨a, S, n, ex, hm, q⟩ => by
    subst ex
    obtain ⟨_, ho, h1, e⟩ := st1.own a _ hm
    rw [show ho = _ from e] at h1
    refine ⟨⟨a, S, n, rx, h1⟩, q F1 σv H1 _ (b.trans e1) (hs.mono e1) st1 fun F2 M2 ds vs H2 e2 st2 rxs ⟨d, k, S', n', ed, hk, hm2, hn, q2⟩ => ?_⟩
    subst ed
    obtain ⟨v, ev, rv⟩ := rxs.sing
    obtain ⟨_, ho', h2, e'⟩ := st2.own a _ hm2
    rw [show ho' = _ from e'] at h2
    exact ⟨a, k, S', n', rx, by rw [ev, hk F2 v rv], h2, hn, kk F2 _ .non _ _ (e1.trans e2) (st2.put hm2 (d' := .raw _) rfl) rfl q2⟩
def rJOIN (K : PySem.W.Frag) : V → List V → Hp → VK → Prop := fun x xs H Q => ∃ a p, ∃ ys : List Str, x = .str a ∧ xs = [.ref p] ∧ (SqL K H p (ys.map V.str) ∨ SqT K H p (ys.map V.str)) ∧
    (ys.map (·.length)).sum + ys.length * a.length ≤ 16777216 ∧ Q (.str (Txt.join a ys)) H
theorem mt_JOIN {X : Cx} : MtR X "str.join" (rJOIN X.K) := mt_join
theorem m3_join {y : D} {ys : List Str} {s : Str} (l : LstD M y (ys.map D.str)) (hb : (ys.map (·.length)).sum + ys.length * s.length ≤ 16777216) (q : Q (.str (Txt.join s ys)) M) : M3 B (rJOIN K) (.str s) [y] M Q := fun F H xv xvs Qv b st rx rxs k => by
  obtain ⟨v, e, r⟩ := rxs.sing
  obtain ⟨a, vs, e1, h1, rs⟩ := l.seq (K := K) st r
  rw [rs.strs] at h1
  exact ⟨s, a, ys, rx, by rw [e, e1], .inl h1, hb, k F M (.str _) _ H (Ex.refl _) st rfl q⟩
end
end T3
namespace T3
open PySem L2
theorem sl_SLK {X : Cx} (K : PySem.W.Frag) (h : X.K = K) : SlR X (rSL K) := by subst h; exact sl_SL
theorem op_INK {X : Cx} (K : PySem.W.Frag) (P : Program) (w : World) (h1 : X.K = K) (h2 : X.prog = P) (h3 : X.w = w) (hu : X.A.units + 65 < cLine) : OpR X (compareOp .In) (rIN K P w false) := by subst h1; subst h2; subst h3; exact op_IN hu
theorem vs_drop {d : D} {M : Mem} (p : Addr) : VS d M d (mdel M p) := fun F H v s r => ⟨F, Evl.Ex.refl _, s.drop p, r⟩
theorem s_nvs {B : Hp} {ts : TS} {D3 : Ends3} {σ : Sig} {M : Mem} (h : W3s B ts { D3 with nx := fun σ M => ∃ σ' M', VSs σ M σ' M' ∧ D3.nx σ' M' } σ M) : W3s B ts D3 σ M := fun F σv H Dv b hs st im =>
  h F σv H Dv b hs st ⟨fun F' M' σ' σv' H' e s t ⟨σ2, M2, vs, q⟩ => by
    obtain ⟨F2, e2, t2, s2⟩ := vs F' H' σv' t s
    exact im.nx F2 M2 σ2 σv' H' (e.trans e2) s2 t2 q, im.rt, im.bk, im.ct⟩
theorem ix_seqK {X : Cx} (K : PySem.W.Frag) (h : X.K = K) : IxR X (rIx K) := by subst h; exact ix_seq
theorem pt_truthK {X : Cx} {a : Expr} {ta : TE} (K : PySem.W.Frag) (h : X.K = K) (ha : PE X a ta) (he : ∀ whole, isTrue a X.env whole = (do let v ← whole; standAt a.pos; holding [v] (truthy v))) : PT X a (tTR K ta) := by subst h; exact pt_truth ha he
theorem call_lenK {X : Cx} (K : PySem.W.Frag) (h : X.K = K) : CallR X (.builtin "len") (rLEN K) := by subst h; exact call_len
theorem call_lstK {X : Cx} (K : PySem.W.Frag) (h : X.K = K) : CallR X (.type "list") (rLST K) := by subst h; exact call_list_of
theorem call_ISIK {X : Cx} (K : PySem.W.Frag) (h : X.K = K) : CallR X (.builtin "isinstance") (rISI K) := by subst h; exact call_ISI
theorem pe_thingK {X : Cx} {e : Expr} {te : TE} {pos : Pos} (K : PySem.W.Frag) (h : X.K = K) (he : PE X e te) (hb : attributeBase e "thing" X.env (eval e X.env) = eval e X.env := by rfl) : PE X (.Attribute e "thing" pos) (tThing K te) := by subst h; exact pe_thing he hb
theorem roomW_le {j k : Nat} {A A' : Around} (r : Room k A) (h : j ≤ k) (e1 : A'.depth = A.depth) (e2 : A'.units = A.units) : RoomW j A' := ⟨by have := r.dp; omega, by have := r.un; omega⟩
/-- promises that look at the frozen heap -/
def lift3B (S : Hp → Sp3) : Sp := fun vs H Q E => ∃ (ds : List D) (F : Hp) (M : Mem) (Q3 : DQ) (E3 : EQ3), RDs F ds vs ∧ St3 F M H ∧ (∀ F' M' d v H', Evl.Ex F F' → St3 F' M' H' → RD F' d v → Q3 d M' → Q v H') ∧ ImpE F E3 E ∧ S F ds M Q3 E3
theorem run3B {S : Hp → Sp3} {N : List Str} {vs : List V} {H : Hp} {Q : VK} {E : XK} {t : TS} (h : lift3B S vs H Q E)
    (k : ∀ B ds M Q3 E3, S B ds M Q3 E3 → ImpE B E3 E → W3s B t { nx := fun _ M => Q3 .non M, rt := Q3 } (start3 N ds) M) : t { nx := fun _ H' => Q .non H', rt := Q } (L2.start N vs) H := by
  obtain ⟨ds, F, M, Q3, E3, r, st, hq, he, hs⟩ := h
  exact k F ds M Q3 E3 hs he F _ H _ (Evl.Ex.refl _) (SRel.start r) st ⟨fun F' M' σ' σv' H' e s t q => hq F' M' .non .non H' e t rfl q, hq, fun _ _ _ _ _ _ _ _ q => q.elim, fun _ _ _ _ _ _ _ _ q => q.elim⟩
theorem lift3B_len {S : Hp → Sp3} {n : Nat} (h : ∀ F ds M Q E, S F ds M Q E → ds.length = n) : ∀ vs H Q E, lift3B S vs H Q E → vs.length = n := fun vs H Q E ⟨ds, F, M, Q3, E3, r, _, _, _, hs⟩ => by rw [← r.length]; exact h F ds M Q3 E3 hs
theorem w_callB0 {B : Hp} {M : Mem} {σ : Sig} {t : TA} {Q : DQ} {S : Hp → Sp3} {E : XK} (mono : ∀ F F' ds M Q E, Evl.Ex F F' → S F ds M Q E → S F' ds M Q E) (h : W3a B t σ M (fun ds M1 => S B ds M1 Q NoE)) : W3e B (tCall (lift3B S) [] E t) σ M Q := fun F σv H Qv b hs st k =>
  h F σv H _ b hs st fun F1 M1 ds vs H1 e1 st1 rx q => ⟨ds, F1, M1, Q, NoE, by rw [List.append_nil]; exact rx, st1, fun F2 M2 d v H2 e2 => k F2 M2 d v H2 (e1.trans e2), impE0, mono B F1 ds M1 Q NoE (b.trans e1) q⟩
theorem s3_q {B : Hp} {M : Mem} {K : PySem.W.Frag} {Q : DQ} {a : Addr} {ns : List Int} {lo hi : Option Int} (h : SqL K B a (ns.map V.int)) (q : Q (.lst (cutD (ns.map D.int) lo hi)) M) : S3 B (rSL K) (.ref a) lo hi M Q := fun F H xv Qv b st rx k => by
  refine .inl ⟨a, ns.map V.int, rx, Evl.ex_l (b.trans st.fz) h, fun p hp => ?_⟩
  obtain ⟨s2, e2⟩ := st.new (o := .lst (cutV (ns.map V.int) lo hi)) hp
  have r : ∀ l : List Int, RDs F (l.map D.int) (l.map V.int) := fun l => by
    induction l with
    | nil => rfl
    | cons i l ih => exact ⟨_, _, rfl, rfl, ih⟩
  exact k _ _ (.lst (cutD (ns.map D.int) lo hi)) _ _ e2 s2 ⟨p, _, rfl, upd_same, ((r ns).cut lo hi).mono e2⟩ q
theorem op_eqDK {X : Cx} (K : PySem.W.Frag) (h : X.K = K) (hu : X.A.units + 64 < cLine) : OpR X (compareOp .Eq) (rEqD K) := by subst h; exact op_eqD hu
theorem op_neDK {X : Cx} (K : PySem.W.Frag) (h : X.K = K) (hu : X.A.units + 64 < cLine) : OpR X (compareOp .NotEq) (rNeD K) := by subst h; exact op_neD hu
theorem op_NINK {X : Cx} (K : PySem.W.Frag) (P : Program) (w : World) (h1 : X.K = K) (h2 : X.prog = P) (h3 : X.w = w) (hu : X.A.units + 65 < cLine) : OpR X (compareOp .NotIn) (rIN K P w true) := by subst h1; subst h2; subst h3; exact op_NIN hu
end T3
set_option Elab.async false
set_option linter.all false
set_option maxRecDepth 100000
set_option maxHeartbeats 4000000
namespace LW
open PySem L2 T3
open Evl (Ex)
def topS (i : Nat) : Stmt := PySem.Challenge.pw_tiredpots_k36_rank_row.main.body.getD i (.Pass ⟨0, 0, 0, 0⟩)
abbrev s_check_work : Stmt := topS 13
theorem sc_check_work : FnScope ["work", "book", "seen", "cloth", "pots", "pot"] ["work", "book"] (defScope s_check_work) := ⟨rfl, rfl, rfl, by decide +kernel, rfl, by decide +kernel, by decide +kernel⟩
abbrev s_darker_ones : Stmt := topS 14
theorem sc_darker_ones : FnScope ["cloth", "names", "wishes", "darker", "lighter"] ["cloth", "names", "wishes"] (defScope s_darker_ones) := ⟨rfl, rfl, rfl, by decide +kernel, rfl, by decide +kernel, by decide +kernel⟩
abbrev s_ring_of : Stmt := topS 15
theorem sc_ring_of : FnScope ["names", "wishes", "road", "darker"] ["names", "wishes"] (defScope s_ring_of) := ⟨rfl, rfl, rfl, by decide +kernel, rfl, by decide +kernel, by decide +kernel⟩
abbrev s_rank_row : Stmt := topS 16
theorem sc_rank_row : FnScope ["work", "wishes", "row", "waiting", "names", "free", "cloth", "pots", "entry", "pot"] ["work", "wishes"] (defScope s_rank_row) := ⟨rfl, rfl, rfl, by decide +kernel, rfl, by decide +kernel, by decide +kernel⟩
abbrev s_source : Stmt := topS 18
theorem sc_source : FnScope ["_law_script", "_law_cell"] ["_law_script"] (defScope s_source) := ⟨rfl, rfl, rfl, by decide +kernel, rfl, by decide +kernel, by decide +kernel⟩
abbrev s_draw : Stmt := topS 19
theorem sc_draw : FnScope ["_law_source_here", "_law_many", "_law_cell", "_law_great", "_law_number", "_law_shift", "_law_mixed"] ["_law_source_here", "_law_many"] (defScope s_draw) := ⟨rfl, rfl, rfl, by decide +kernel, rfl, by decide +kernel, by decide +kernel⟩
abbrev s_word : Stmt := topS 20
theorem sc_word : FnScope ["_law_number", "_law_letters", "_law_word_here", "_law_k"] ["_law_number"] (defScope s_word) := ⟨rfl, rfl, rfl, by decide +kernel, rfl, by decide +kernel, by decide +kernel⟩
abbrev s_name : Stmt := topS 21
theorem sc_name : FnScope ["_law_source_here", "_law_k", "_law_size"] ["_law_source_here", "_law_k"] (defScope s_name) := ⟨rfl, rfl, rfl, by decide +kernel, rfl, by decide +kernel, by decide +kernel⟩
abbrev s_names : Stmt := topS 22
theorem sc_names : FnScope ["_law_source_here", "_law_many", "_law_word_here", "_law_place", "_law_turn", "_law_k"] ["_law_source_here", "_law_many"] (defScope s_names) := ⟨rfl, rfl, rfl, by decide +kernel, rfl, by decide +kernel, by decide +kernel⟩
abbrev s_ranked : Stmt := topS 23
theorem sc_ranked : FnScope ["_law_work", "_law_wishes", "_law_waiting", "_law_row", "_law_k", "_law_names_here", "_law_barred", "_law_free", "_law_entry", "_law_wish", "_law_vat"] ["_law_work", "_law_wishes"] (defScope s_ranked) := ⟨rfl, rfl, rfl, by decide +kernel, rfl, by decide +kernel, by decide +kernel⟩
abbrev s_alone : Stmt := topS 24
theorem sc_alone : FnScope ["_law_e", "_law_kinds"] ["_law_e"] (defScope s_alone) := ⟨rfl, rfl, rfl, by decide +kernel, rfl, by decide +kernel, by decide +kernel⟩
abbrev s_asked : Stmt := topS 25
theorem sc_asked : FnScope ["_law_work", "_law_wishes", "_law_row", "_law_e"] ["_law_work", "_law_wishes"] (defScope s_asked) := ⟨rfl, rfl, rfl, by decide +kernel, rfl, by decide +kernel, by decide +kernel⟩
abbrev s_is_ring : Stmt := topS 26
theorem sc_is_ring : FnScope ["_law_ring", "_law_work", "_law_wishes", "_law_names_here", "_law_k", "_law_entry"] ["_law_ring", "_law_work", "_law_wishes"] (defScope s_is_ring) := ⟨rfl, rfl, rfl, by decide +kernel, rfl, by decide +kernel, by decide +kernel⟩
abbrev s_law : Stmt := topS 27
theorem sc_law : FnScope ["_law_script", "_law_source_here", "_law_work", "_law_many", "_law_garments", "_law_k", "_law_tubs", "_law_left", "_law_garment", "_law_vats", "_law_j", "_law_words", "_law_wishes", "_law_darker", "_law_lighter", "_law_handed", "_law_answer", "_law_due", "_law_twice", "_law_entry"] ["_law_script"] (defScope s_law) := ⟨rfl, rfl, rfl, by decide +kernel, rfl, by decide +kernel, by decide +kernel⟩
structure Adr where
  (f_check_work f_darker_ones f_ring_of f_rank_row f_source f_draw f_word f_name f_names f_ranked f_alone f_asked f_is_ring f_law f_DyeError f_BadName f_BadHold f_BadNumber f_BadAmount f_Known f_Unknown f_Full f_NotSure f_RingOfWishes f_BadLine f_dyeInit : Addr)
  (d_check_work d_darker_ones d_ring_of d_rank_row d_source d_draw d_word d_name d_names d_ranked d_alone d_asked d_is_ring d_law : FuncData)
structure Tx (P : Program) (K : PySem.W.Frag) (mg : Str → Option Value) (A : Adr) : Prop where
  F_check_work : FunD K "check_work" "check_work" (defArgs s_check_work) (defBody s_check_work) (defScope s_check_work) [.non] [] A.f_check_work A.d_check_work
  F_darker_ones : Fun K "darker_ones" "darker_ones" s_darker_ones A.f_darker_ones A.d_darker_ones
  F_ring_of : Fun K "ring_of" "ring_of" s_ring_of A.f_ring_of A.d_ring_of
  F_rank_row : Fun K "rank_row" "rank_row" s_rank_row A.f_rank_row A.d_rank_row
  F_source : Fun K "_law_source" "_law_source" s_source A.f_source A.d_source
  F_draw : Fun K "_law_draw" "_law_draw" s_draw A.f_draw A.d_draw
  F_word : Fun K "_law_word" "_law_word" s_word A.f_word A.d_word
  F_name : Fun K "_law_name" "_law_name" s_name A.f_name A.d_name
  F_names : Fun K "_law_names" "_law_names" s_names A.f_names A.d_names
  F_ranked : Fun K "_law_ranked" "_law_ranked" s_ranked A.f_ranked A.d_ranked
  F_alone : Fun K "_law_alone" "_law_alone" s_alone A.f_alone A.d_alone
  F_asked : Fun K "_law_asked" "_law_asked" s_asked A.f_asked A.d_asked
  F_is_ring : Fun K "_law_is_ring" "_law_is_ring" s_is_ring A.f_is_ring A.d_is_ring
  F_law : Fun K "law" "law" s_law A.f_law A.d_law
  n_set : mg "set" = none
  dye_Known : PySem.DyeX.DyeTxt P K A.f_DyeError A.f_Known A.f_dyeInit
  g_Known : mg "Known" = some (.ref A.f_Known)
  dye_Unknown : PySem.DyeX.DyeTxt P K A.f_DyeError A.f_Unknown A.f_dyeInit
  g_Unknown : mg "Unknown" = some (.ref A.f_Unknown)
  g_darker_ones : mg "darker_ones" = some (.ref A.f_darker_ones)
  k_darker_ones : PySem.W.keepIn K (.ref A.f_darker_ones) = true
  b_darker_ones : Binds K A.d_darker_ones ["cloth", "names", "wishes"] []
  g_check_work : mg "check_work" = some (.ref A.f_check_work)
  k_check_work : PySem.W.keepIn K (.ref A.f_check_work) = true
  b_check_work_1 : Binds K A.d_check_work ["work", "book"] [.none]
  n_list : mg "list" = none
  dye_RingOfWishes : PySem.DyeX.DyeTxt P K A.f_DyeError A.f_RingOfWishes A.f_dyeInit
  g_RingOfWishes : mg "RingOfWishes" = some (.ref A.f_RingOfWishes)
  g_ring_of : mg "ring_of" = some (.ref A.f_ring_of)
  k_ring_of : PySem.W.keepIn K (.ref A.f_ring_of) = true
  b_ring_of : Binds K A.d_ring_of ["names", "wishes"] []
  n_int : mg "int" = none
  n_len : mg "len" = none
  n_abs : mg "abs" = none
  n_range : mg "range" = none
  g_draw : mg "_law_draw" = some (.ref A.f_draw)
  k_draw : PySem.W.keepIn K (.ref A.f_draw) = true
  b_draw : Binds K A.d_draw ["_law_source_here", "_law_many"] []
  g_word : mg "_law_word" = some (.ref A.f_word)
  k_word : PySem.W.keepIn K (.ref A.f_word) = true
  b_word : Binds K A.d_word ["_law_number"] []
  g_name : mg "_law_name" = some (.ref A.f_name)
  k_name : PySem.W.keepIn K (.ref A.f_name) = true
  b_name : Binds K A.d_name ["_law_source_here", "_law_k"] []
  n_isinstance : mg "isinstance" = none
  g_BadName : mg "BadName" = some (.ref A.f_BadName)
  g_BadHold : mg "BadHold" = some (.ref A.f_BadHold)
  g_BadNumber : mg "BadNumber" = some (.ref A.f_BadNumber)
  g_BadAmount : mg "BadAmount" = some (.ref A.f_BadAmount)
  g_Full : mg "Full" = some (.ref A.f_Full)
  g_NotSure : mg "NotSure" = some (.ref A.f_NotSure)
  g_BadLine : mg "BadLine" = some (.ref A.f_BadLine)
  g_DyeError : mg "DyeError" = some (.ref A.f_DyeError)
  n_ValueError : mg "ValueError" = none
  g_rank_row : mg "rank_row" = some (.ref A.f_rank_row)
  k_rank_row : PySem.W.keepIn K (.ref A.f_rank_row) = true
  b_rank_row : Binds K A.d_rank_row ["work", "wishes"] []
  g_alone : mg "_law_alone" = some (.ref A.f_alone)
  k_alone : PySem.W.keepIn K (.ref A.f_alone) = true
  b_alone : Binds K A.d_alone ["_law_e"] []
  g_source : mg "_law_source" = some (.ref A.f_source)
  k_source : PySem.W.keepIn K (.ref A.f_source) = true
  b_source : Binds K A.d_source ["_law_script"] []
  g_names : mg "_law_names" = some (.ref A.f_names)
  k_names : PySem.W.keepIn K (.ref A.f_names) = true
  b_names : Binds K A.d_names ["_law_source_here", "_law_many"] []
  n_max : mg "max" = none
  n_min : mg "min" = none
  g_asked : mg "_law_asked" = some (.ref A.f_asked)
  k_asked : PySem.W.keepIn K (.ref A.f_asked) = true
  b_asked : Binds K A.d_asked ["_law_work", "_law_wishes"] []
  g_ranked : mg "_law_ranked" = some (.ref A.f_ranked)
  k_ranked : PySem.W.keepIn K (.ref A.f_ranked) = true
  b_ranked : Binds K A.d_ranked ["_law_work", "_law_wishes"] []
  g_is_ring : mg "_law_is_ring" = some (.ref A.f_is_ring)
  k_is_ring : PySem.W.keepIn K (.ref A.f_is_ring) = true
  b_is_ring : Binds K A.d_is_ring ["_law_ring", "_law_work", "_law_wishes"] []
  kit_ll : PySem.W.kitOne K (.type "list") (.type "list") = some true
  x_K : L2.ExcX K A.f_Known
  x_R : L2.ExcX K A.f_RingOfWishes
  em_KK : PySem.W.exmOne K (.ref A.f_Known) (.ref A.f_Known) = some true
  em_RK : PySem.W.exmOne K (.ref A.f_RingOfWishes) (.ref A.f_Known) = some false
  em_RR : PySem.W.exmOne K (.ref A.f_RingOfWishes) (.ref A.f_RingOfWishes) = some true
  ik_Known_BadName : PySem.W.kitOne K (.ref A.f_Known) (.ref A.f_BadName) = some false
  ik_Known_BadHold : PySem.W.kitOne K (.ref A.f_Known) (.ref A.f_BadHold) = some false
  ik_Known_BadNumber : PySem.W.kitOne K (.ref A.f_Known) (.ref A.f_BadNumber) = some false
  ik_Known_BadAmount : PySem.W.kitOne K (.ref A.f_Known) (.ref A.f_BadAmount) = some false
  ik_Known_Known : PySem.W.kitOne K (.ref A.f_Known) (.ref A.f_Known) = some true
  ik_Known_Unknown : PySem.W.kitOne K (.ref A.f_Known) (.ref A.f_Unknown) = some false
  ik_Known_Full : PySem.W.kitOne K (.ref A.f_Known) (.ref A.f_Full) = some false
  ik_Known_NotSure : PySem.W.kitOne K (.ref A.f_Known) (.ref A.f_NotSure) = some false
  ik_Known_RingOfWishes : PySem.W.kitOne K (.ref A.f_Known) (.ref A.f_RingOfWishes) = some false
  ik_Known_BadLine : PySem.W.kitOne K (.ref A.f_Known) (.ref A.f_BadLine) = some false
  ik_Known_DyeError : PySem.W.kitOne K (.ref A.f_Known) (.ref A.f_DyeError) = some true
  ik_RingOfWishes_BadName : PySem.W.kitOne K (.ref A.f_RingOfWishes) (.ref A.f_BadName) = some false
  ik_RingOfWishes_BadHold : PySem.W.kitOne K (.ref A.f_RingOfWishes) (.ref A.f_BadHold) = some false
  ik_RingOfWishes_BadNumber : PySem.W.kitOne K (.ref A.f_RingOfWishes) (.ref A.f_BadNumber) = some false
  ik_RingOfWishes_BadAmount : PySem.W.kitOne K (.ref A.f_RingOfWishes) (.ref A.f_BadAmount) = some false
  ik_RingOfWishes_Known : PySem.W.kitOne K (.ref A.f_RingOfWishes) (.ref A.f_Known) = some false
  ik_RingOfWishes_Unknown : PySem.W.kitOne K (.ref A.f_RingOfWishes) (.ref A.f_Unknown) = some false
  ik_RingOfWishes_Full : PySem.W.kitOne K (.ref A.f_RingOfWishes) (.ref A.f_Full) = some false
  ik_RingOfWishes_NotSure : PySem.W.kitOne K (.ref A.f_RingOfWishes) (.ref A.f_NotSure) = some false
  ik_RingOfWishes_RingOfWishes : PySem.W.kitOne K (.ref A.f_RingOfWishes) (.ref A.f_RingOfWishes) = some true
  ik_RingOfWishes_BadLine : PySem.W.kitOne K (.ref A.f_RingOfWishes) (.ref A.f_BadLine) = some false
  ik_RingOfWishes_DyeError : PySem.W.kitOne K (.ref A.f_RingOfWishes) (.ref A.f_DyeError) = some true
  ik_Known_VE : PySem.W.kitOne K (.ref A.f_Known) (.type "ValueError") = some true
  ik_RingOfWishes_VE : PySem.W.kitOne K (.ref A.f_RingOfWishes) (.type "ValueError") = some true
theorem units65 {k : Nat} {A : Around} (r : Room k A) : A.units + 65 < cLine := by have := r.un; omega
end LW
namespace L2
open PySem
theorem pt_never {X : Cx} {c : Expr} : PT X c (fun _ _ _ => False) := ⟨fun _ _ _ _ _ _ h => h.elim⟩
end L2
set_option Elab.async false
set_option linter.all false
set_option maxRecDepth 100000
set_option maxHeartbeats 4000000
namespace LW
open PySem L2 T3
open Evl (Ex)
local macro_rules | `(tactic| walk_at "t3") => `(tactic| first
  | (with_reducible refine s_seq ?_) | (with_reducible refine s_asg ?_) | (with_reducible refine s_if ?_) | (with_reducible refine s_ret ?_) | (with_reducible refine s_drop ?_) | (with_reducible refine s_asgG ?_) | (with_reducible refine s_retN ?_)
  | (with_reducible refine s_next ?_) | (with_reducible refine s_brk ?_) | (with_reducible refine s_cont ?_) | (with_reducible refine s_par ?_) | (with_reducible refine s_fld ?_)
  | ((with_reducible refine' w_var ?hx ?_); (case hx => exact rfl)) | (with_reducible refine w_cI ?_) | (with_reducible refine w_cB ?_) | (with_reducible refine w_cS ?_) | (with_reducible refine w_cN ?_) | (with_reducible refine w_cT ?_) | (with_reducible refine w_cR ?_)
  | (with_reducible refine w_op ?_) | (with_reducible refine w_un ?_) | (with_reducible refine w_nil ?_) | (with_reducible refine w_tup ?_) | (with_reducible refine w_cons ?_) | (with_reducible refine w_cb ?_) | (with_reducible refine w_bm0 ?_) | (with_reducible refine w_bm ?_)
  | (with_reducible refine w_test ?_) | (with_reducible refine w_B ?_) | (with_reducible refine w_notT ?_) | (with_reducible refine w_yes ?_) | (with_reducible refine w_notV ?_)
  | (with_reducible refine w_ifE ?_) | (with_reducible refine w_isN ?_) | (with_reducible refine w_notN ?_) | (with_reducible refine w_tr ?_) | (with_reducible refine w_chain ?_) | (with_reducible refine w_fld ?_) | (with_reducible refine w_sl ?_) | (with_reducible refine o_no ?_) | (with_reducible refine o_some ?_)
  | (with_reducible refine w_call0 ?_) | (with_reducible refine g_name ?_) | ((with_reducible refine' g_tup ?hx ?hy ?_); (case hx => exact rfl); (case hy => exact rfl)) | (with_reducible refine g_cons ?_) | (with_reducible refine g_nil ?_) | (with_reducible refine g_set ?_)
  | (with_reducible refine r3_add_ii ?_) | (with_reducible refine r3_sub ?_) | (with_reducible refine r3_lt ?_) | (with_reducible refine r3_le ?_) | (with_reducible refine r3_gt ?_) | (with_reducible refine r3_ge ?_) | (with_reducible refine u3_neg ?_)
  | (with_reducible refine c3_int_i ?_) | (with_reducible refine c3_int_b ?_) | (with_reducible refine c3_abs ?_) | (with_reducible refine c3_len_t ?_) | (with_reducible refine c3_len .fz ?_) | (with_reducible refine c3_max2 ?_) | (with_reducible refine c3_min2 ?_)
  | (with_reducible refine r3_eq (n := 9) (m := 9) okD_int okD_int ?_) | (with_reducible refine r3_ne (n := 9) (m := 9) okD_int okD_int ?_)
  | ((with_reducible refine' Exists.intro _ (And.intro ?hx ?_)); (case hx => exact rfl))
  | ((with_reducible refine' And.intro ?hx ?_); (case hx => (show List.length _ ≤ 100000); exact Nat.le_of_ble_eq_true rfl)))

def SrcD (cells : List Int) (i j k : Int) : DO := .lst [.lst (cells.map D.int), .int i, .int j, .int k]
def IsSrc (o : DO) : Prop := ∃ (cells : List Int) (i j k : Int), o = SrcD cells i j k ∧ cells.length ≤ 63 ∧ 0 ≤ i ∧ i ≤ 63 ∧ 0 ≤ j ∧ j ≤ 60
def S_draw : Sp3 := fun ds M Q _ => ∃ (a : Addr) (n : Int) (o : DO), ds = [.ref a, .int n] ∧ M a = some o ∧ IsSrc o ∧ 0 < n ∧ n < 10 ^ 100 ∧ ∀ r o', 0 ≤ r → r < n → IsSrc o' → Q (.int r) (mput M a o')
section
variable {P : Program} {w : World} {K : PySem.W.Frag} {mg : Str → Option Value} {base : Heap}
variable {A0 : Adr}
theorem ok_draw (T : Tx P K mg A0) : FnOk P w K mg base CX0 1 A0.f_draw A0.d_draw ["_law_source_here", "_law_many"] (lift3 S_draw) := by
  refine T.F_draw.ok sc_draw (lift3_len fun ds M Q E ⟨a, n, o, h, _⟩ => by rw [h]; rfl) (fun cdv A outer s H vs Q E hr h => ?_)
  have hu := hr.units
  have hu5 := units65 hr
  refine ⟨_, (pss_cons (ps_if (pt_cmpR op_ge (pe_ix (ix_seqK K rfl) (pv 0) pe_int (fun _ _ => by rfl)) (pe_callB (call_lenK K rfl) (by rfl) T.n_len PySem.boot_len (pa_cons (pe_ix (ix_seqK K rfl) (pv 0) pe_int (fun _ _ => by rfl)) pa_nil)) (nomark _)) (pss_one (ps_ret pe_int)) pss_nil)
  (pss_cons (ps_set (i := 2) sc_draw.nd (by rfl) (Or.inl (by rfl)) (pe_ix (ix_seqK K rfl) (pe_ix (ix_seqK K rfl) (pv 0) pe_int (fun _ _ => by rfl)) (pe_ix (ix_seqK K rfl) (pv 0) pe_int (fun _ _ => by rfl)) (fun _ _ => by rfl)))
  (pss_cons (ps_set (i := 3) sc_draw.nd (by rfl) (Or.inl (by rfl)) (pe_or (pe_cmpR op_ge (pv 2) (pe_op op_pow pe_int pe_int) (nomark _)) (pe_one (pe_cmpR op_le (pv 2) (pe_op op_sub pe_int (pe_op op_pow pe_int pe_int)) (nomark _)))))
  (pss_cons (ps_if (PW.pt (pw_and (pt_truthK K rfl (pv 3) (by intro _; rfl)) (pw_and1 (pt_cmpR (op_eqDK K rfl hu) (pe_ix (ix_seqK K rfl) (pv 0) pe_int (fun _ _ => by rfl)) pe_int (nomark _))))) (pss_one (ps_asg (pe_callB call_abs (by rfl) T.n_abs (by decide +kernel) (pa_cons (pv 2) pa_nil)) (pg_sub (pv 0) pe_int set_list))) pss_nil)
  (pss_cons (ps_if (pt_truthK K rfl (pv 3) (by intro _; rfl)) (pss_cons (ps_set (i := 4) sc_draw.nd (by rfl) (Or.inl (by rfl)) (pe_op op_modN (pe_callTy call_int1 (by rfl) T.n_int (by decide +kernel) (pa_cons (pe_ix (ix_seqK K rfl) (pv 0) pe_int (fun _ _ => by rfl)) pa_nil)) (pv 1)))
  (pss_one (ps_asg (pe_op op_fdivW (pe_ix (ix_seqK K rfl) (pv 0) pe_int (fun _ _ => by rfl)) (pv 1)) (pg_sub (pv 0) pe_int set_list)))) (pss_cons (ps_set (i := 5) sc_draw.nd (by rfl) (Or.inl (by rfl)) (pe_op op_ADD (pe_op op_ADD (pe_op op_mulW (pe_ix (ix_seqK K rfl) (pv 0) pe_int (fun _ _ => by rfl)) pe_int) (pe_op op_mulW (pe_ix (ix_seqK K rfl) (pv 0) pe_int (fun _ _ => by rfl)) pe_int)) pe_int))
  (pss_cons (ps_set (i := 6) sc_draw.nd (by rfl) (Or.inl (by rfl)) (pe_op op_modN (pe_callTy call_int1 (by rfl) T.n_int (by decide +kernel) (pa_cons (pe_op op_ADD (pe_op op_mulW (pv 2) pe_int) (pv 5)) pa_nil)) pe_int))
  (pss_cons (ps_set (i := 6) sc_draw.nd (by rfl) (Or.inl (by rfl)) (pe_op op_modN (pe_callTy call_int1 (by rfl) T.n_int (by decide +kernel) (pa_cons (pe_op op_ADD (pe_op op_ADD (pe_op op_mulW (pv 6) (pv 6)) (pe_op op_mulW (pv 2) pe_int)) (pe_ix (ix_seqK K rfl) (pv 0) pe_int (fun _ _ => by rfl))) pa_nil)) pe_int))
  (pss_one (ps_set (i := 4) sc_draw.nd (by rfl) (Or.inl (by rfl)) (pe_op op_modN (pe_callTy call_int1 (by rfl) T.n_int (by decide +kernel) (pa_cons (pv 6) pa_nil)) (pv 1))))))))
  (pss_cons (ps_asg (pe_op op_ADD (pe_ix (ix_seqK K rfl) (pv 0) pe_int (fun _ _ => by rfl)) pe_int) (pg_sub (pv 0) pe_int set_list))
  (pss_cons (ps_if (PW.pt (pw_or (pt_cmpR op_ge (pe_ix (ix_seqK K rfl) (pv 0) pe_int (fun _ _ => by rfl)) pe_int (nomark _)) (pw_or (PW.pt (pw_and (pt_not (pt_truthK K rfl (pv 3) (by intro _; rfl))) (pw_and1 (pt_cmpR op_ge (pe_ix (ix_seqK K rfl) (pv 0) pe_int (fun _ _ => by rfl)) pe_int (nomark _))))) (pw_or1 (PW.pt (pw_and (pt_truthK K rfl (pv 3) (by intro _; rfl)) (pw_and1 (pt_cmpR (op_eqDK K rfl hu) (pe_ix (ix_seqK K rfl) (pv 0) pe_int (fun _ _ => by rfl)) pe_int (nomark _))))))))) (pss_cons (ps_asg (pe_op op_ADD (pe_ix (ix_seqK K rfl) (pv 0) pe_int (fun _ _ => by rfl)) pe_int) (pg_sub (pv 0) pe_int set_list))
  (pss_one (ps_asg pe_int (pg_sub (pv 0) pe_int set_list)))) pss_nil)
  (pss_one (ps_ret (pv 4)))))))))), run3 h fun B ds M Q3 E3 hs hE => ?_⟩
  obtain ⟨a, n, o, rfl, hm, ⟨cells, i, j, k, rfl, hl, i0, i1, j0, j1⟩, n0, n1, q⟩ := hs
  change W3s B _ _ [some (.ref a), some (.int n), none, none, none, none, none] M
  try dsimp only [cxOf, Cx.nox, Cx.wish]
  repeat walk_at "t3"
  refine r3_ix_l (.ow hm) rfl ?_
  repeat walk_at "t3"
  refine r3_ix_l (.ow hm) rfl ?_
  repeat walk_at "t3"
  rw [List.length_map]
  refine iteB (fun hc => ?_) (fun hc => ?_)
  · repeat walk_at "t3"
    have := q 0 _ (Int.le_refl _) n0 ⟨cells, i, j, k, rfl, hl, i0, i1, j0, j1⟩
    rwa [mput_self hm] at this
  have hc : i < cells.length := by simpa using hc
  obtain ⟨c, hcc⟩ : ∃ c, (cells.map D.int)[i.toNat]? = some (.int c) := ⟨cells[i.toNat], by rw [List.getElem?_map, List.getElem?_eq_getElem (by omega)]; rfl⟩
  repeat walk_at "t3"
  refine r3_ix_l (.ow hm) rfl ?_
  repeat walk_at "t3"
  refine r3_ix_l (.ow hm) rfl ?_
  repeat walk_at "t3"
  refine r3_ix_l .fz (at3 (by omega) hcc) ?_
  repeat walk_at "t3"
  refine w_orP (a := decide ((10:Int) ^ 18 ≤ c)) (b := decide (c ≤ 0 - 10 ^ 18)) ?_ (fun _ => ?_) ?_
  · repeat walk_at "t3"
    refine r3_pow ⟨by decide, by decide, by decide⟩ ?_
    repeat walk_at "t3"
    exact ⟨rfl, rfl⟩
  · repeat walk_at "t3"
    refine r3_pow ⟨by decide, by decide, by decide⟩ ?_
    repeat walk_at "t3"
    exact ⟨rfl, rfl⟩
  have hg : (decide ((10:Int) ^ 18 ≤ c) || decide (c ≤ 0 - 10 ^ 18)) = false → -10 ^ 18 < c ∧ c < 10 ^ 18 := fun h => by
    have := (Bool.or_eq_false_iff.mp h)
    have h1 := of_decide_eq_false this.1
    have h2 := of_decide_eq_false this.2
    omega
  generalize (decide ((10:Int) ^ 18 ≤ c) || decide (c ≤ 0 - 10 ^ 18)) = g at hg ⊢
  -- if great and src[2] == 0: src[3] = abs(cell)
  refine s_seqM (fun σ' M' => σ' = [some (.ref a), some (.int n), some (.int c), some (.bl g), none, none, none] ∧ ∃ k', M' = mput M a (SrcD cells i j k')) ?_ ?_
  · refine s_if (w_andTP (a := g) (b := peq (.int j) (.int 0)) ?_ (fun _ => ?_) ?_)
    · repeat walk_at "t3"
      exact ⟨rfl, rfl⟩
    · repeat walk_at "t3"
      refine r3_ix_l (.ow hm) rfl ?_
      repeat walk_at "t3"
      exact ⟨rfl, rfl⟩
    · refine iteB (fun _ => ?_) (fun _ => ?_)
      · repeat walk_at "t3"
        exact ⟨a, _, _, 3, rfl, rfl, hm, rfl, rfl, _, rfl⟩
      · repeat walk_at "t3"
        exact ⟨rfl, k, (mput_self hm).symm⟩
  rintro _ _ ⟨rfl, k', rfl⟩
  have hm' : mput M a (SrcD cells i j k') a = some (SrcD cells i j k') := mput_same
  generalize hM : mput M a (SrcD cells i j k') = M' at hm'
  have hback : ∀ o, mput M' a o = mput M a o := fun o => by rw [← hM, mput_mput]
  -- the number
  refine s_seqM (fun σ' M'' => ∃ r v5 v6 k'', 0 ≤ r ∧ r < n ∧ σ' = [some (.ref a), some (.int n), some (.int c), some (.bl g), some (.int r), v5, v6] ∧ M'' = mput M a (SrcD cells i j k'')) ?_ ?_
  · repeat walk_at "t3"
    refine iteB (fun _ => ?_) (fun eg => ?_)
    · repeat walk_at "t3"
      refine r3_ix_l (.ow hm') rfl ?_
      repeat walk_at "t3"
      refine r3_mod n0 ?_
      repeat walk_at "t3"
      refine r3_ix_l (.ow hm') rfl ?_
      repeat walk_at "t3"
      refine r3_fdiv n0 (by omega) ?_
      repeat walk_at "t3"
      exact ⟨a, _, _, 3, rfl, rfl, hm', rfl, k' % n, none, none, k' / n, Int.emod_nonneg _ (by omega), Int.emod_lt_of_pos _ n0, rfl, hback _⟩
    · obtain ⟨c1, c2⟩ := hg eg
      repeat walk_at "t3"
      refine r3_ix_l (.ow hm') rfl ?_
      repeat walk_at "t3"
      refine r3_mul (mulW (by omega) (by decide)) ?_
      repeat walk_at "t3"
      refine r3_ix_l (.ow hm') rfl ?_
      repeat walk_at "t3"
      refine r3_mul (mulW (by omega) (by decide)) ?_
      repeat walk_at "t3"
      refine r3_mul (mulW (by omega) (by decide)) ?_
      repeat walk_at "t3"
      refine r3_mod (by decide) ?_
      repeat walk_at "t3"
      have m0 : ∀ z : Int, 0 ≤ z % 2147483647 ∧ z % 2147483647 < 2147483647 := fun z => ⟨Int.emod_nonneg _ (by decide), Int.emod_lt_of_pos _ (by decide)⟩
      obtain ⟨z0, z1⟩ := m0 (c * 48271 + (i * 69621 + j * 40692 + 11))
      generalize (c * 48271 + (i * 69621 + j * 40692 + 11)) % 2147483647 = z at z0 z1 ⊢
      refine r3_mul (mulW (by omega) (by omega)) ?_
      repeat walk_at "t3"
      refine r3_mul (mulW (by omega) (by decide)) ?_
      repeat walk_at "t3"
      refine r3_ix_l (.ow hm') rfl ?_
      repeat walk_at "t3"
      refine r3_mod (by decide) ?_
      repeat walk_at "t3"
      refine r3_mod n0 ?_
      repeat walk_at "t3"
      exact ⟨_, _, _, k', Int.emod_nonneg _ (by omega), Int.emod_lt_of_pos _ n0, rfl, hM.symm⟩
  rintro _ _ ⟨r, v5, v6, k'', r0, r1, rfl, rfl⟩
  have hm'' : mput M a (SrcD cells i j k'') a = some (SrcD cells i j k'') := mput_same
  generalize hM2 : mput M a (SrcD cells i j k'') = M2 at hm''
  have hback2 : ∀ o, mput M2 a o = mput M a o := fun o => by rw [← hM2, mput_mput]
  repeat walk_at "t3"
  refine r3_ix_l (.ow hm'') rfl ?_
  repeat walk_at "t3"
  refine ⟨a, _, _, 2, rfl, rfl, hm'', rfl, ?_⟩
  rw [hback2]
  have hm3 : mput M a (SrcD cells i (j + 1) k'') a = some (SrcD cells i (j + 1) k'') := mput_same
  have hback3 : ∀ o, mput (mput M a (SrcD cells i (j + 1) k'')) a o = mput M a o := fun o => mput_mput
  show W3s B _ _ _ (mput M a (SrcD cells i (j + 1) k''))
  generalize hM3 : mput M a (SrcD cells i (j + 1) k'') = M3 at hm3 hback3
  refine s_seqM (fun σ' M'' => ∃ o', IsSrc o' ∧ σ' = [some (.ref a), some (.int n), some (.int c), some (.bl g), some (.int r), v5, v6] ∧ M'' = mput M a o') ?_ ?_
  · refine s_if (w_orTP (a := decide ((60:Int) ≤ j + 1)) (b := (!g && decide ((6:Int) ≤ j + 1)) || (g && peq (.int k'') (.int 0))) ?_ (fun _ => w_orTP (a := !g && decide ((6:Int) ≤ j + 1)) (b := g && peq (.int k'') (.int 0)) ?_ (fun _ => ?_) ⟨rfl, rfl⟩) ?_)
    · repeat walk_at "t3"
      refine r3_ix_l (.ow hm3) rfl ?_
      repeat walk_at "t3"
      exact ⟨rfl, rfl⟩
    · refine w_andTP (a := !g) (b := decide ((6:Int) ≤ j + 1)) ?_ (fun _ => ?_) ⟨rfl, rfl⟩
      · repeat walk_at "t3"
        exact ⟨rfl, rfl⟩
      · repeat walk_at "t3"
        refine r3_ix_l (.ow hm3) rfl ?_
        repeat walk_at "t3"
        exact ⟨rfl, rfl⟩
    · refine w_andTP (a := g) (b := peq (.int k'') (.int 0)) ?_ (fun _ => ?_) ⟨rfl, rfl⟩
      · repeat walk_at "t3"
        exact ⟨rfl, rfl⟩
      · repeat walk_at "t3"
        refine r3_ix_l (.ow hm3) rfl ?_
        repeat walk_at "t3"
        exact ⟨rfl, rfl⟩
    · refine iteB (fun _ => ?_) (fun hn => ?_)
      · repeat walk_at "t3"
        refine r3_ix_l (.ow hm3) rfl ?_
        repeat walk_at "t3"
        refine ⟨a, _, _, 1, rfl, rfl, hm3, rfl, ?_⟩
        rw [hback3]
        have hm4 : mput M a (SrcD cells (i + 1) (j + 1) k'') a = some (SrcD cells (i + 1) (j + 1) k'') := mput_same
        show W3s B _ _ _ (mput M a (SrcD cells (i + 1) (j + 1) k''))
        repeat walk_at "t3"
        exact ⟨a, _, _, 2, rfl, rfl, hm4, rfl, SrcD cells (i + 1) 0 k'', ⟨cells, i + 1, 0, k'', rfl, hl, by omega, by omega, by omega, by omega⟩, rfl, mput_mput⟩
      · repeat walk_at "t3"
        have := of_decide_eq_false (Bool.or_eq_false_iff.mp hn).1
        exact ⟨SrcD cells i (j + 1) k'', ⟨cells, i, j + 1, k'', rfl, hl, i0, i1, by omega, by omega⟩, rfl, hM3.symm⟩
  rintro _ _ ⟨o', ho', rfl, rfl⟩
  repeat walk_at "t3"
  exact q r o' r0 r1 ho'
end
end LW
set_option Elab.async false
set_option linter.all false
set_option maxRecDepth 100000
set_option maxHeartbeats 4000000
namespace LW
open PySem L2 T3
open Evl (Ex)
local macro_rules | `(tactic| walk_at "t3") => `(tactic| first
  | (with_reducible refine s_seq ?_) | (with_reducible refine s_asg ?_) | (with_reducible refine s_if ?_) | (with_reducible refine s_ret ?_) | (with_reducible refine s_drop ?_) | (with_reducible refine s_asgG ?_) | (with_reducible refine s_retN ?_)
  | (with_reducible refine s_next ?_) | (with_reducible refine s_brk ?_) | (with_reducible refine s_cont ?_) | (with_reducible refine s_par ?_) | (with_reducible refine s_fld ?_)
  | ((with_reducible refine' w_var ?hx ?_); (case hx => exact rfl)) | (with_reducible refine w_cI ?_) | (with_reducible refine w_cB ?_) | (with_reducible refine w_cS ?_) | (with_reducible refine w_cN ?_) | (with_reducible refine w_cT ?_) | (with_reducible refine w_cR ?_)
  | (with_reducible refine w_op ?_) | (with_reducible refine w_un ?_) | (with_reducible refine w_nil ?_) | (with_reducible refine w_tup ?_) | (with_reducible refine w_cons ?_) | (with_reducible refine w_cb ?_) | (with_reducible refine w_bm0 ?_) | (with_reducible refine w_bm ?_)
  | (with_reducible refine w_test ?_) | (with_reducible refine w_B ?_) | (with_reducible refine w_notT ?_) | (with_reducible refine w_yes ?_) | (with_reducible refine w_notV ?_)
  | (with_reducible refine w_ifE ?_) | (with_reducible refine w_isN ?_) | (with_reducible refine w_notN ?_) | (with_reducible refine w_tr ?_) | (with_reducible refine w_chain ?_) | (with_reducible refine w_fld ?_) | (with_reducible refine w_sl ?_) | (with_reducible refine o_no ?_) | (with_reducible refine o_some ?_)
  | (with_reducible refine w_call0 ?_) | (with_reducible refine g_name ?_) | ((with_reducible refine' g_tup ?hx ?hy ?_); (case hx => exact rfl); (case hy => exact rfl)) | (with_reducible refine g_cons ?_) | (with_reducible refine g_nil ?_) | (with_reducible refine g_set ?_)
  | (with_reducible refine r3_add_ii ?_) | (with_reducible refine r3_sub ?_) | (with_reducible refine r3_lt ?_) | (with_reducible refine r3_le ?_) | (with_reducible refine r3_gt ?_) | (with_reducible refine r3_ge ?_) | (with_reducible refine u3_neg ?_)
  | (with_reducible refine c3_int_i ?_) | (with_reducible refine c3_int_b ?_) | (with_reducible refine c3_abs ?_) | (with_reducible refine c3_len_t ?_) | (with_reducible refine c3_len .fz ?_) | (with_reducible refine c3_max2 ?_) | (with_reducible refine c3_min2 ?_)
  | (with_reducible refine r3_eq (n := 9) (m := 9) okD_int okD_int ?_) | (with_reducible refine r3_ne (n := 9) (m := 9) okD_int okD_int ?_)
  | ((with_reducible refine' Exists.intro _ (And.intro ?hx ?_)); (case hx => exact rfl))
  | ((with_reducible refine' And.intro ?hx ?_); (case hx => (show List.length _ ≤ 100000); exact Nat.le_of_ble_eq_true rfl)))

section
variable {P : Program} {w : World} {K : PySem.W.Frag} {mg : Str → Option Value} {base : Heap} {A0 : Adr}

def wl (m : Nat) : List Nat := if h : m < 26 then [97 + m] else wl (m / 26 - 1) ++ [97 + m % 26]
termination_by m
theorem wl_lt {m : Nat} (h : m < 26) : wl m = [97 + m] := by rw [wl, dif_pos h]
theorem wl_ge {m : Nat} (h : ¬ m < 26) : wl m = wl (m / 26 - 1) ++ [97 + m % 26] := by rw [wl, dif_neg h]
theorem wl_ne (m : Nat) : wl m ≠ [] := by
  by_cases h : m < 26
  · rw [wl_lt h]; exact List.cons_ne_nil _ _
  · rw [wl_ge h]; intro e; exact absurd (congrArg List.length e) (by simp)
theorem snoc_inj {α : Type} {a b : List α} {x y : α} (h : a ++ [x] = b ++ [y]) : a = b ∧ x = y := by
  have := List.append_inj' h rfl
  exact ⟨this.1, by simpa using this.2⟩
theorem wl_inj : ∀ (n m : Nat), wl n = wl m → n = m := by
  intro n
  induction n using Nat.strongRecOn with
  | ind n ih =>
    intro m h
    by_cases hn : n < 26 <;> by_cases hm : m < 26
    · rw [wl_lt hn, wl_lt hm] at h
      have : 97 + n = 97 + m := by simpa using h
      omega
    · rw [wl_lt hn, wl_ge hm] at h
      exact absurd (snoc_inj (a := []) h).1.symm (wl_ne _)
    · rw [wl_ge hn, wl_lt hm] at h
      exact absurd (snoc_inj (b := []) h).1 (wl_ne _)
    · rw [wl_ge hn, wl_ge hm] at h
      obtain ⟨h1, h2⟩ := snoc_inj h
      have := ih (n / 26 - 1) (by omega) _ h1
      omega
theorem wl_ok : ∀ (n : Nat), ∀ c ∈ wl n, c < 123 := by
  intro n
  induction n using Nat.strongRecOn with
  | ind n ih =>
    intro c hc
    by_cases hn : n < 26
    · rw [wl_lt hn] at hc; simp at hc; omega
    · rw [wl_ge hn, List.mem_append] at hc
      rcases hc with hc | hc
      · exact ih _ (by omega) c hc
      · simp at hc; omega
theorem wl_len : ∀ (k n : Nat), n + 1 < 26 ^ k → (wl n).length ≤ k := by
  intro k
  induction k with
  | zero => intro n h; simp at h
  | succ k ih =>
    intro n h
    by_cases hn : n < 26
    · rw [wl_lt hn]; simp
    · rw [wl_ge hn, List.length_append]
      rw [Nat.pow_succ] at h
      have := ih (n / 26 - 1) (by omega)
      simp; omega
def strL (l : List Nat) : Str := ⟨l.toArray⟩
def wordS (m : Nat) : Str := strL (wl m)
theorem strL_app (a b : List Nat) : strL a ++ strL b = strL (a ++ b) := by
  show (⟨a.toArray ++ b.toArray⟩ : Str) = _
  simp [strL]
theorem strL_len (a : List Nat) : (strL a).length = a.length := by simp [strL, Str.length]
theorem strL_inj {a b : List Nat} (h : strL a = strL b) : a = b := by
  have := congrArg Str.cps h
  simpa [strL] using this
theorem strL_self (s : Str) : s = strL s.cps.toList := by cases s; simp [strL]
theorem wordS_inj {a b : Nat} (h : wordS a = wordS b) : a = b := wl_inj _ _ (strL_inj h)
def okS (s : Str) : Prop := s.cps.all (· < 0x110000) = true ∧ s.length ≤ 100
theorem okS_L {l : List Nat} (h : ∀ c ∈ l, c < 123) (hl : l.length ≤ 100) : okS (strL l) := ⟨by
  rw [Array.all_eq_true']
  intro c hc
  have := h c (by simpa [strL] using hc)
  simp; omega, by rw [strL_len]; exact hl⟩
theorem okS_word {m : Nat} (h : m + 1 < 26 ^ 12) : okS (wordS m) := okS_L (wl_ok m) (Nat.le_trans (wl_len 12 m h) (by decide))
def S_word : Sp3 := fun ds M Q _ => ∃ m : Nat, ds = [.int m] ∧ m + 1 < 26 ^ 12 ∧ Q (.str (wordS m)) M
theorem abc_at (r : Nat) : (("abcdefghijklmnopqrstuvwxyz" : Str)).cps.toList[r % 26]? = some (97 + r % 26) := by
  have h : ∀ j : Fin 26, (("abcdefghijklmnopqrstuvwxyz" : Str)).cps.toList[j.1]? = some (97 + j.1) := by decide +kernel
  exact h ⟨r % 26, Nat.mod_lt _ (by decide)⟩
theorem ok_word (T : Tx P K mg A0) : FnOk P w K mg base CX0 1 A0.f_word A0.d_word ["_law_number"] (lift3 S_word) := by
  refine T.F_word.ok sc_word (lift3_len fun ds M Q E ⟨m, h, _⟩ => by rw [h]; rfl) (fun cdv A outer s H vs Q E hr h => ?_)
  have hu := hr.units
  have hu5 := units65 hr
  refine ⟨_, (pss_cons (ps_set (i := 1) sc_word.nd (by rfl) (Or.inl (by rfl)) pe_str)
  (pss_cons (ps_set (i := 2) sc_word.nd (by rfl) (Or.inl (by rfl)) pe_str)
  (pss_cons (ps_for PassesOwn.never (by rfl) (pi_range1 (by rfl) T.n_range (pa_cons pe_int pa_nil)) (pg_name (i := 3) sc_word.nd (by rfl) (Or.inl (by rfl))) (pss_cons (ps_set (i := 2) sc_word.nd (by rfl) (Or.inl (by rfl)) (pe_op op_ADD (pe_ix (ix_seqK K rfl) (pv 1) (pe_op op_modN (pe_callTy call_int1 (by rfl) T.n_int (by decide +kernel) (pa_cons (pv 0) pa_nil)) pe_int) (fun _ _ => by rfl)) (pv 2)))
  (pss_cons (ps_set (i := 0) sc_word.nd (by rfl) (Or.inl (by rfl)) (pe_op op_sub (pe_op op_fdivW (pv 0) pe_int) pe_int))
  (pss_one (ps_if (pt_cmpR op_lt (pv 0) pe_int (nomark _)) (pss_one ps_break) pss_nil)))))
  (pss_one (ps_ret (pv 2)))))), run3 h fun B ds M Q3 E3 hs hE => ?_⟩
  obtain ⟨m, rfl, hm, q⟩ := hs
  change W3s B _ _ [some (.int (m : Int)), none, none, none] M
  try dsimp only [cxOf, Cx.nox, Cx.wish]
  repeat walk_at "t3"
  refine W3s.nx (nx := fun σ' M' => M' = M ∧ ∃ a L b, σ' = [a, some (.str L), some (.str (wordS m)), b]) ?_ ?_
  · refine s_for (i_rng1 ?_)
    repeat walk_at "t3"
    refine ⟨by decide, by decide, fun i σ' M' => M' = M ∧ ∃ (r : Nat) (acc : List Nat) (b : Option D), r + 1 < 26 ^ (12 - i) ∧ wl m = wl r ++ acc ∧ acc.length ≤ i ∧ σ' = [some (.int (r : Int)), some (.str "abcdefghijklmnopqrstuvwxyz"), some (.str (strL acc)), b], fun _ _ _ _ => trivial, ⟨rfl, m, [], none, hm, (List.append_nil _).symm, Nat.le_refl _, rfl⟩, ?_, ?_⟩
    · rintro i d σ' M' hi ⟨rfl, r, acc, b, hr, hw, ha, rfl⟩
      have hi' : i < 12 := by
        have := (List.getElem?_eq_some_iff.mp hi).1
        simpa using this
      repeat walk_at "t3"
      refine r3_mod (by decide) ?_
      refine r3_ix_s (c := 97 + r % 26) (by decide) (at3 (j := r % 26) (by omega) (abc_at r)) ?_
      repeat walk_at "t3"
      refine r3_add_ss (by rw [strL_len]; show 1 + acc.length ≤ 1000000; omega) ?_
      repeat walk_at "t3"
      refine r3_fdiv (by decide) (by decide) ?_
      repeat walk_at "t3"
      have e1 : (⟨#[97 + r % 26]⟩ : Str) ++ strL acc = strL ((97 + r % 26) :: acc) := strL_app [97 + r % 26] acc
      rw [e1]
      have e12 : 12 - i = (12 - (i + 1)) + 1 := by omega
      rw [e12, Nat.pow_succ] at hr
      refine iteB (fun hc => ?_) (fun hc => ?_)
      · repeat walk_at "t3"
        have hc := of_decide_eq_true hc
        have hr : r < 26 := by omega
        rw [wl_lt hr] at hw
        have e2 : strL ((97 + r % 26) :: acc) = wordS m := by rw [wordS, hw, Nat.mod_eq_of_lt hr]; rfl
        rw [e2]
        exact ⟨rfl, _, _, _, rfl⟩
      · repeat walk_at "t3"
        have hc := of_decide_eq_false hc
        have hr6 : ¬ r < 26 := by omega
        refine ⟨rfl, r / 26 - 1, (97 + r % 26) :: acc, some d, by omega, ?_, by show acc.length + 1 ≤ i + 1; omega, ?_⟩
        · rw [hw, wl_ge hr6, List.append_assoc]; rfl
        · have : ((r : Int) / 26 - 1) = ((r / 26 - 1 : Nat) : Int) := by omega
          rw [this]; rfl
    · rintro σ' M' ⟨rfl, r, acc, b, hr, _⟩
      exact absurd hr (by simp)
  · rintro σ' _ ⟨rfl, a, L, b, rfl⟩
    repeat walk_at "t3"
    exact q
def S_name : Sp3 := fun ds M Q _ => ∃ (a : Addr) (k : Nat) (o : DO), ds = [.ref a, .int k] ∧ M a = some o ∧ IsSrc o ∧ k < 8 ∧ ∀ (r : Nat) o', r * 8 + k + 1 < 26 ^ 12 → IsSrc o' → Q (.str (wordS (r * 8 + k))) (mput M a o')
theorem ok_name (T : Tx P K mg A0) : FnOk P w K mg base CX0 2 A0.f_name A0.d_name ["_law_source_here", "_law_k"] (lift3 S_name) := by
  refine T.F_name.ok sc_name (lift3_len fun ds M Q E ⟨a, k, o, h, _⟩ => by rw [h]; rfl) (fun cdv A outer s H vs Q E hr h => ?_)
  have hu := hr.units
  have hu5 := units65 hr
  refine ⟨_, (pss_cons (ps_set (i := 2) sc_name.nd (by rfl) (Or.inl (by rfl)) (pe_ix (ix_seqK K rfl) (pe_lst (pa_cons pe_int (pa_cons pe_int (pa_cons (pe_op op_pow pe_int pe_int) pa_nil)))) (pe_call (ok_draw T) (hr.mono (by decide)) (by rfl) T.g_draw T.k_draw T.b_draw .nil pass0 (pa_cons (pv 0) (pa_cons pe_int pa_nil))) (fun _ _ => by rfl)))
  (pss_one (ps_ret (pe_call (ok_word T) (hr.mono (by decide)) (by rfl) T.g_word T.k_word T.b_word .nil pass0 (pa_cons (pe_op op_ADD (pe_op op_mulW (pe_call (ok_draw T) (hr.mono (by decide)) (by rfl) T.g_draw T.k_draw T.b_draw .nil pass0 (pa_cons (pv 0) (pa_cons (pv 2) pa_nil))) pe_int) (pv 1)) pa_nil))))), run3 h fun B ds M Q3 E3 hs hE => ?_⟩
  obtain ⟨a, k, o, rfl, hm, ho, hk, q⟩ := hs
  change W3s B _ _ [some (.ref a), some (.int (k : Int)), none] M
  try dsimp only [cxOf, Cx.nox, Cx.wish]
  repeat walk_at "t3"
  refine w_lst ?_
  repeat walk_at "t3"
  refine r3_pow ⟨by decide, by decide, by decide⟩ ?_
  repeat walk_at "t3"
  refine ⟨a, 3, o, rfl, hm, ho, by decide, by decide, fun r o' r0 r3 ho' => ?_⟩
  obtain ⟨z, hz, z1, z2⟩ : ∃ z : Int, [D.int 3, .int 1000, .int (10 ^ (15 : Int).toNat)][r.toNat]? = some (.int z) ∧ 0 < z ∧ z ≤ 10 ^ 15 := by
    rcases (show r = 0 ∨ r = 1 ∨ r = 2 by omega) with rfl | rfl | rfl
    · exact ⟨3, rfl, by decide, by decide⟩
    · exact ⟨1000, rfl, by decide, by decide⟩
    · exact ⟨_, rfl, by decide, by decide⟩
  refine r3_ix_l .fz (at3 (by omega) hz) ?_
  repeat walk_at "t3"
  have hm' : mput M a o' a = some o' := mput_same
  refine ⟨a, z, o', rfl, hm', ho', z1, by omega, fun s o2 s0 s1 ho2 => ?_⟩
  rw [mput_mput]
  repeat walk_at "t3"
  refine r3_mul (mulW (by omega) (by decide)) ?_
  repeat walk_at "t3"
  have : s * 8 + (k : Int) = ((s.toNat * 8 + k : Nat) : Int) := by omega
  rw [this]
  exact ⟨_, rfl, by omega, q _ _ (by omega) ho2⟩
end
end LW
set_option Elab.async false
set_option linter.all false
set_option maxRecDepth 100000
set_option maxHeartbeats 4000000
namespace LW
open PySem L2 T3
open Evl (Ex)
local macro_rules | `(tactic| walk_at "t3") => `(tactic| first
  | (with_reducible refine s_seq ?_) | (with_reducible refine s_asg ?_) | (with_reducible refine s_if ?_) | (with_reducible refine s_ret ?_) | (with_reducible refine s_drop ?_) | (with_reducible refine s_asgG ?_) | (with_reducible refine s_retN ?_)
  | (with_reducible refine s_next ?_) | (with_reducible refine s_brk ?_) | (with_reducible refine s_cont ?_) | (with_reducible refine s_par ?_) | (with_reducible refine s_fld ?_)
  | ((with_reducible refine' w_var ?hx ?_); (case hx => exact rfl)) | (with_reducible refine w_cI ?_) | (with_reducible refine w_cB ?_) | (with_reducible refine w_cS ?_) | (with_reducible refine w_cN ?_) | (with_reducible refine w_cT ?_) | (with_reducible refine w_cR ?_)
  | (with_reducible refine w_op ?_) | (with_reducible refine w_un ?_) | (with_reducible refine w_nil ?_) | (with_reducible refine w_tup ?_) | (with_reducible refine w_cons ?_) | (with_reducible refine w_cb ?_) | (with_reducible refine w_bm0 ?_) | (with_reducible refine w_bm ?_)
  | (with_reducible refine w_test ?_) | (with_reducible refine w_B ?_) | (with_reducible refine w_notT ?_) | (with_reducible refine w_yes ?_) | (with_reducible refine w_notV ?_)
  | (with_reducible refine w_ifE ?_) | (with_reducible refine w_isN ?_) | (with_reducible refine w_notN ?_) | (with_reducible refine w_tr ?_) | (with_reducible refine w_chain ?_) | (with_reducible refine w_fld ?_) | (with_reducible refine w_sl ?_) | (with_reducible refine o_no ?_) | (with_reducible refine o_some ?_)
  | (with_reducible refine w_call0 ?_) | (with_reducible refine g_name ?_) | ((with_reducible refine' g_tup ?hx ?hy ?_); (case hx => exact rfl); (case hy => exact rfl)) | (with_reducible refine g_cons ?_) | (with_reducible refine g_nil ?_) | (with_reducible refine g_set ?_)
  | (with_reducible refine r3_add_ii ?_) | (with_reducible refine r3_sub ?_) | (with_reducible refine r3_lt ?_) | (with_reducible refine r3_le ?_) | (with_reducible refine r3_gt ?_) | (with_reducible refine r3_ge ?_) | (with_reducible refine u3_neg ?_)
  | (with_reducible refine c3_int_i ?_) | (with_reducible refine c3_int_b ?_) | (with_reducible refine c3_abs ?_) | (with_reducible refine c3_len_t ?_) | (with_reducible refine c3_len .fz ?_) | (with_reducible refine c3_max2 ?_) | (with_reducible refine c3_min2 ?_)
  | (with_reducible refine r3_eq (n := 9) (m := 9) okD_int okD_int ?_) | (with_reducible refine r3_ne (n := 9) (m := 9) okD_int okD_int ?_)
  | ((with_reducible refine' Exists.intro _ (And.intro ?hx ?_)); (case hx => exact rfl))
  | ((with_reducible refine' And.intro ?hx ?_); (case hx => (show List.length _ ≤ 100000); exact Nat.le_of_ble_eq_true rfl)))

section
variable {P : Program} {w : World} {K : PySem.W.Frag} {mg : Str → Option Value} {base : Heap} {A0 : Adr}

theorem nodup_map {α β : Type} {f : α → β} : ∀ {l : List α}, (∀ (i j : Nat) a b, l[i]? = some a → l[j]? = some b → f a = f b → i = j) → (l.map f).Nodup
  | [], _ => List.nodup_nil
  | x :: l, h => by
    rw [List.map_cons, List.nodup_cons]
    refine ⟨fun hm => ?_, nodup_map fun i j a b ha hb e => ?_⟩
    · obtain ⟨y, hy, e⟩ := List.mem_map.mp hm
      obtain ⟨j, hj⟩ := List.getElem?_of_mem hy
      have := h 0 (j + 1) x y rfl hj e.symm
      omega
    · have := h (i + 1) (j + 1) a b ha hb e
      omega
theorem cutS_mem {z : Str} {lo hi : Option Int} {c : Nat} (h : c ∈ (cutS z lo hi).cps.toList) : c ∈ z.cps.toList := by
  have h : c ∈ (z.cps.toList.drop (HT.sIx z.length 0 lo)).take (HT.sIx z.length z.length hi - HT.sIx z.length 0 lo) := by simpa [cutS] using h
  exact List.mem_of_mem_drop (List.mem_of_mem_take h)
theorem cutS_len {z : Str} {lo hi : Option Int} : (cutS z lo hi).length ≤ z.length := by
  show (cutS z lo hi).cps.size ≤ z.cps.size
  simp only [cutS, List.size_toArray, List.length_take, List.length_drop]
  exact Nat.le_trans (Nat.min_le_right _ _) (Nat.le_trans (Nat.sub_le _ _) (by simp))
def Names (many : Nat) (ns : List Str) : Prop := ns.length = many ∧ ns.Nodup ∧ ∀ s ∈ ns, okS s
def S_names : Sp3 := fun ds M Q _ => ∃ (a : Addr) (many : Nat) (o : DO), ds = [.ref a, .int many] ∧ M a = some o ∧ IsSrc o ∧ many ≤ 8 ∧ ∀ (ns : List Str) o', Names many ns → IsSrc o' → Q (.lst (ns.map .str)) (mput M a o')
theorem ok_names (T : Tx P K mg A0) : FnOk P w K mg base CX0 3 A0.f_names A0.d_names ["_law_source_here", "_law_many"] (lift3 S_names) := by
  refine T.F_names.ok sc_names (lift3_len fun ds M Q E ⟨a, k, o, h, _⟩ => by rw [h]; rfl) (fun cdv A outer s H vs Q E hr h => ?_)
  have hu := hr.units
  have hu5 := units65 hr
  refine ⟨_, (pss_cons (ps_if (pt_cmpR (op_eqDK K rfl hu) (pe_call (ok_draw T) (hr.mono (by decide)) (by rfl) T.g_draw T.k_draw T.b_draw .nil pass0 (pa_cons (pv 0) (pa_cons pe_int pa_nil))) pe_int (nomark _)) (pss_one (ps_ret (pe_lc (own := [("_law_k", 5)]) (g := (gName 5)) (by rfl) sc_names.nd (pi_range1 (by rfl) T.n_range (pa_cons (pv 1) pa_nil)) (blkOk_by (N := ["_law_source_here", "_law_many", "_law_word_here", "_law_place", "_law_turn", "_law_k"]) (sc := defScope s_names) (own := [("_law_k", 5)]) (by decide +kernel)) (fun _ _ _ _ _ => (pg_name (i := 5) sc_names.nd (by rfl) (Or.inl (by rfl)))) (fun _ _ _ _ _ => pts_nil) (fun _ _ _ _ _ => (pe_call (ok_name T) (hr.mono (by decide)) (by rfl) T.g_name T.k_name T.b_name .nil pass0 (pa_cons (pv 0) (pa_cons (pv 5) pa_nil))))))) pss_nil)
  (pss_cons (ps_set (i := 2) sc_names.nd (by rfl) (Or.inr (by rfl)) (pe_call (ok_word T) (hr.mono (by decide)) (by rfl) T.g_word T.k_word T.b_word .nil pass0 (pa_cons (pe_call (ok_draw T) (hr.mono (by decide)) (by rfl) T.g_draw T.k_draw T.b_draw .nil pass0 (pa_cons (pv 0) (pa_cons (pe_ix (ix_seqK K rfl) (pe_lst (pa_cons pe_int (pa_cons (pe_op op_pow pe_int pe_int) pa_nil))) (pe_call (ok_draw T) (hr.mono (by decide)) (by rfl) T.g_draw T.k_draw T.b_draw .nil pass0 (pa_cons (pv 0) (pa_cons pe_int pa_nil))) (fun _ _ => by rfl)) pa_nil))) pa_nil)))
  (pss_cons (ps_set (i := 3) sc_names.nd (by rfl) (Or.inr (by rfl)) (pe_call (ok_draw T) (hr.mono (by decide)) (by rfl) T.g_draw T.k_draw T.b_draw .nil pass0 (pa_cons (pv 0) (pa_cons (pe_op op_ADD (pe_callB (call_lenK K rfl) (by rfl) T.n_len PySem.boot_len (pa_cons (pv 2) pa_nil)) pe_int) pa_nil))))
  (pss_cons (ps_set (i := 4) sc_names.nd (by rfl) (Or.inr (by rfl)) (pe_call (ok_draw T) (hr.mono (by decide)) (by rfl) T.g_draw T.k_draw T.b_draw .nil pass0 (pa_cons (pv 0) (pa_cons pe_int pa_nil))))
  (pss_one (ps_ret (pe_lc (own := [("_law_k", 5)]) (g := (gName 5)) (by rfl) sc_names.nd (pi_range1 (by rfl) T.n_range (pa_cons (pv 1) pa_nil)) (blkOk_by (N := ["_law_source_here", "_law_many", "_law_word_here", "_law_place", "_law_turn", "_law_k"]) (sc := defScope s_names) (own := [("_law_k", 5)]) (by decide +kernel)) (fun _ _ _ _ _ => (pg_name (i := 5) sc_names.nd (by rfl) (Or.inl (by rfl)))) (fun _ _ _ _ _ => pts_nil) (fun _ _ _ _ _ => (pe_op op_ADD (pe_op op_ADD (pe_slice (sl_SLK K rfl) (pv 2) po_none (po_some (pv 3))) (pe_call (ok_word T) (hr.mono (by decide)) (by rfl) T.g_word T.k_word T.b_word .nil pass0 (pa_cons (pe_op op_modN (pe_callTy call_int1 (by rfl) T.n_int (by decide +kernel) (pa_cons (pe_op op_ADD (pv 5) (pv 4)) pa_nil)) pe_int) pa_nil))) (pe_slice (sl_SLK K rfl) (pv 2) (po_some (pv 3)) po_none)))))))))), run3 h fun B ds M Q3 E3 hs hE => ?_⟩
  obtain ⟨a, many, o, rfl, hm, ho, hk, q⟩ := hs
  change W3s B _ _ [some (.ref a), some (.int (many : Int)), none, none, none, none] M
  try dsimp only [cxOf, Cx.nox, Cx.wish]
  repeat walk_at "t3"
  refine ⟨a, 2, o, rfl, hm, ho, by decide, by decide, fun r o1 r0 r1 ho1 => ?_⟩
  have hm1 : mput M a o1 a = some o1 := mput_same
  repeat walk_at "t3"
  refine iteB (fun _ => ?_) (fun _ => ?_)
  · repeat walk_at "t3"
    refine w_lc own_name (i_rng1 ?_)
    repeat walk_at "t3"
    refine ⟨by omega, by omega, fun i acc M' => ∃ (o' : DO) (ns : List Nat), M' = mput M a o' ∧ IsSrc o' ∧ ns.length = i ∧ acc = ns.map (fun n => D.str (wordS n)) ∧ ∀ (j n : Nat), ns[j]? = some n → n % 8 = j ∧ n + 1 < 26 ^ 12, ?_, ?_, ?_, ?_, ?_⟩
    · rintro i acc M' ⟨o', ns, rfl, ho', hl, rfl, hn⟩
      exact ⟨trivial, by rw [List.length_map, hl]; exact Nat.le_refl _⟩
    · rw [List.length_map, List.length_range]; omega
    · exact ⟨o1, [], rfl, ho1, rfl, rfl, fun j n h => by simp at h⟩
    · rintro i d acc M' L hi ⟨o', ns, rfl, ho', hl, rfl, hn⟩ hL
      have hi' : i < many := by
        have := (List.getElem?_eq_some_iff.mp hi).1
        simpa using this
      have hd : d = .int (i : Int) := by
        rw [List.getElem?_map, List.getElem?_range (by simpa using hi')] at hi
        exact (Option.some.inj hi).symm
      subst hd
      have hLa : a ≠ L := fun e => by subst e; rw [mput_same] at hL; cases hL
      repeat walk_at "t3"
      show if true = true then _ else _
      rw [if_pos rfl]
      repeat walk_at "t3"
      refine ⟨a, i, o', rfl, by rw [mput_ne hLa]; exact mput_same, ho', by omega, fun r o2 hr2 ho2 => ?_⟩
      refine ⟨mput M a o2, ?_, ?_, o2, ns ++ [r * 8 + i], rfl, ho2, by simp [hl], by simp, ?_⟩
      · rw [← mput_comm hLa, mput_mput]
      · rw [mput_ne (Ne.symm hLa)] at hL ⊢; exact hL
      · intro j n h
        rcases Nat.lt_or_ge j ns.length with hj | hj
        · rw [List.getElem?_append_left hj] at h; exact hn j n h
        · rw [List.getElem?_append_right hj] at h
          have : j - ns.length = 0 := by
            have := (List.getElem?_eq_some_iff.mp h).1
            simp at this; omega
          rw [this] at h
          have h : r * 8 + i = n := Option.some.inj h
          subst h
          exact ⟨by omega, hr2⟩
    · rintro acc M' ⟨o', ns, rfl, ho', hl, rfl, hn⟩
      have hl : ns.length = many := by simpa using hl
      have := q (ns.map wordS) o' ⟨by rw [List.length_map, hl], nodup_map fun i j a b ha hb e => ?_, fun s hs => ?_⟩ ho'
      · rw [List.map_map] at this; exact this
      · have e := wordS_inj e
        rw [← (hn i a ha).1, ← (hn j b hb).1, e]
      · obtain ⟨n, hn', rfl⟩ := List.mem_map.mp hs
        obtain ⟨j, hj⟩ := List.getElem?_of_mem hn'
        exact okS_word (hn j n hj).2
  · repeat walk_at "t3"
    refine w_lst ?_
    repeat walk_at "t3"
    refine r3_pow ⟨by decide, by decide, by decide⟩ ?_
    repeat walk_at "t3"
    refine ⟨a, 2, o1, rfl, hm1, ho1, by decide, by decide, fun r o2 r0 r1 ho2 => ?_⟩
    rw [mput_mput]
    have hm2 : mput M a o2 a = some o2 := mput_same
    obtain ⟨z, hz, z1, z2⟩ : ∃ z : Int, [D.int 3, .int (10 ^ (13 : Int).toNat)][r.toNat]? = some (.int z) ∧ 0 < z ∧ z ≤ 10 ^ 13 := by
      rcases (show r = 0 ∨ r = 1 by omega) with rfl | rfl
      · exact ⟨3, rfl, by decide, by decide⟩
      · exact ⟨_, rfl, by decide, by decide⟩
    refine r3_ix_l .fz (at3 (by omega) hz) ?_
    repeat walk_at "t3"
    refine ⟨a, z, o2, rfl, hm2, ho2, z1, by omega, fun s o3 s0 s1 ho3 => ?_⟩
    rw [mput_mput]
    have hm3 : mput M a o3 a = some o3 := mput_same
    repeat walk_at "t3"
    refine ⟨s.toNat, by rw [Int.toNat_of_nonneg s0], by omega, ?_⟩
    have okw : okS (wordS s.toNat) := okS_word (by omega)
    have lw : (wordS s.toNat).length ≤ 12 := by rw [wordS, strL_len]; exact wl_len 12 _ (by omega)
    generalize wordS s.toNat = W at okw lw ⊢
    repeat walk_at "t3"
    refine c3_len_s (by omega) ?_
    repeat walk_at "t3"
    refine ⟨a, _, o3, rfl, hm3, ho3, by omega, by omega, fun pl o4 p0 p1 ho4 => ?_⟩
    rw [mput_mput]
    have hm4 : mput M a o4 a = some o4 := mput_same
    repeat walk_at "t3"
    refine ⟨a, 8, o4, rfl, hm4, ho4, by decide, by decide, fun tu o5 t0 t1 ho5 => ?_⟩
    rw [mput_mput]
    repeat walk_at "t3"
    have okc : ∀ lo hi, okS (cutS W lo hi) := fun lo hi => ⟨by
      rw [Array.all_eq_true']
      intro c hc
      have := Array.all_eq_true'.mp okw.1 c (by simpa using cutS_mem (by simpa using hc))
      exact this, Nat.le_trans cutS_len okw.2⟩
    have lc : ∀ lo hi, (cutS W lo hi).length ≤ 12 := fun lo hi => Nat.le_trans cutS_len lw
    refine w_lcP (fun _ => true) (fun d => match d with | .int k => .str (cutS W none (some pl) ++ wordS (((k + tu) % 8).toNat) ++ cutS W (some pl) none) | d => d) own_name (i_rng1 ?_)
    repeat walk_at "t3"
    refine ⟨by omega, by omega, by rw [List.length_map, List.length_range]; omega, trivial, ?_, ?_⟩
    · intro i d M' hi _
      have hd : d = .int (i : Int) := by
        rw [List.getElem?_map] at hi
        cases h : (List.range (many : Int).toNat)[i]? with
        | none => rw [h] at hi; cases hi
        | some z =>
          rw [h] at hi
          have hz : z = i := by
            have := (List.getElem?_eq_some_iff.mp h); obtain ⟨_, h2⟩ := this; simpa using h2.symm
          subst hz
          exact (Option.some.inj hi).symm
      subst hd
      repeat walk_at "t3"
      refine ⟨rfl, ?_⟩
      repeat walk_at "t3"
      refine ⟨rfl, rfl, fun _ => ?_⟩
      repeat walk_at "t3"
      refine s3_s (by omega) ?_
      repeat walk_at "t3"
      refine r3_mod (by decide) ?_
      repeat walk_at "t3"
      refine ⟨((i + tu) % 8).toNat, by rw [Int.toNat_of_nonneg (by omega)], by omega, ?_⟩
      have l1 := lc none (some pl)
      have l2 : (wordS ((i + tu) % 8).toNat).length ≤ 12 := by rw [wordS, strL_len]; exact wl_len 12 _ (by omega)
      refine r3_add_ss (by omega) ?_
      repeat walk_at "t3"
      refine s3_s (by omega) ?_
      have l3 := lc (some pl) none
      refine r3_add_ss ?_ ⟨rfl, rfl⟩
      show ((cutS W none (some pl)).cps ++ (wordS ((i + tu) % 8).toNat).cps).size + _ ≤ _
      rw [Array.size_append]
      show (cutS W none (some pl)).length + (wordS ((i + tu) % 8).toNat).length + (cutS W (some pl) none).length ≤ _
      omega
    · have e : ((List.range (many : Int).toNat).map (fun (i : Nat) => D.int (i : Int))).filter (fun _ => true) = (List.range (many : Int).toNat).map (fun (i : Nat) => D.int (i : Int)) := List.filter_eq_self.mpr fun _ _ => rfl
      rw [e, List.map_map]
      have := q ((List.range many).map fun (i : Nat) => cutS W none (some pl) ++ wordS ((((i : Int) + tu) % 8).toNat) ++ cutS W (some pl) none) o5 ⟨by simp, nodup_map fun i j a b ha hb e => ?_, fun s hs => ?_⟩ ho5
      · rw [List.map_map] at this
        exact this
      · have fact : ∀ {i a : Nat}, (List.range many)[i]? = some a → a = i ∧ i < many := fun {i a} h => by
          obtain ⟨h1, h2⟩ := List.getElem?_eq_some_iff.mp h
          exact ⟨by simpa using h2.symm, by simpa using h1⟩
        obtain ⟨rfl, i1⟩ := fact ha
        obtain ⟨rfl, j1⟩ := fact hb
        have e1 : ∀ z : Int, wordS (z % 8).toNat = strL [97 + (z % 8).toNat] := fun z => by rw [wordS, wl_lt (by omega)]
        simp only [e1] at e
        rw [strL_self (cutS W none (some pl)), strL_self (cutS W (some pl) none), strL_app, strL_app, strL_app, strL_app] at e
        have e := strL_inj e
        have e := List.append_cancel_left (List.append_cancel_right e)
        have e : 97 + ((((a : Nat) : Int) + tu) % 8).toNat = 97 + ((((b : Nat) : Int) + tu) % 8).toNat := by simpa using e
        omega
      · obtain ⟨k, hk', rfl⟩ := List.mem_map.mp hs
        have ow : okS (wordS (((k : Int) + tu) % 8).toNat) := okS_word (by omega)
        have lw' : (wordS (((k : Int) + tu) % 8).toNat).length ≤ 12 := by rw [wordS, strL_len]; exact wl_len 12 _ (by omega)
        have := lc none (some pl); have := lc (some pl) none
        refine ⟨?_, ?_⟩
        · show ((cutS W none (some pl)).cps ++ (wordS _).cps ++ (cutS W (some pl) none).cps).all _ = true
          rw [Array.all_append, Array.all_append, (okc _ _).1, ow.1, (okc _ _).1]; rfl
        · show ((cutS W none (some pl)).cps ++ (wordS _).cps ++ (cutS W (some pl) none).cps).size ≤ 100
          rw [Array.size_append, Array.size_append]
          show (cutS W none (some pl)).length + (wordS _).length + (cutS W (some pl) none).length ≤ 100
          omega
end
end LW
set_option Elab.async false
set_option linter.all false
set_option maxRecDepth 100000
set_option maxHeartbeats 4000000
namespace LW
open PySem L2 T3
open Evl (Ex)
local macro_rules | `(tactic| walk_at "t3") => `(tactic| first
  | (with_reducible refine s_seq ?_) | (with_reducible refine s_asg ?_) | (with_reducible refine s_if ?_) | (with_reducible refine s_ret ?_) | (with_reducible refine s_drop ?_) | (with_reducible refine s_asgG ?_) | (with_reducible refine s_retN ?_)
  | (with_reducible refine s_next ?_) | (with_reducible refine s_brk ?_) | (with_reducible refine s_cont ?_) | (with_reducible refine s_par ?_) | (with_reducible refine s_fld ?_)
  | ((with_reducible refine' w_var ?hx ?_); (case hx => exact rfl)) | (with_reducible refine w_cI ?_) | (with_reducible refine w_cB ?_) | (with_reducible refine w_cS ?_) | (with_reducible refine w_cN ?_) | (with_reducible refine w_cT ?_) | (with_reducible refine w_cR ?_)
  | (with_reducible refine w_op ?_) | (with_reducible refine w_un ?_) | (with_reducible refine w_nil ?_) | (with_reducible refine w_tup ?_) | (with_reducible refine w_cons ?_) | (with_reducible refine w_cb ?_) | (with_reducible refine w_bm0 ?_) | (with_reducible refine w_bm ?_)
  | (with_reducible refine w_test ?_) | (with_reducible refine w_B ?_) | (with_reducible refine w_notT ?_) | (with_reducible refine w_yes ?_) | (with_reducible refine w_notV ?_)
  | (with_reducible refine w_ifE ?_) | (with_reducible refine w_isN ?_) | (with_reducible refine w_notN ?_) | (with_reducible refine w_tr ?_) | (with_reducible refine w_chain ?_) | (with_reducible refine w_fld ?_) | (with_reducible refine w_sl ?_) | (with_reducible refine o_no ?_) | (with_reducible refine o_some ?_)
  | (with_reducible refine w_call0 ?_) | (with_reducible refine g_name ?_) | ((with_reducible refine' g_tup ?hx ?hy ?_); (case hx => exact rfl); (case hy => exact rfl)) | (with_reducible refine g_cons ?_) | (with_reducible refine g_nil ?_) | (with_reducible refine g_set ?_)
  | (with_reducible refine r3_add_ii ?_) | (with_reducible refine r3_sub ?_) | (with_reducible refine r3_lt ?_) | (with_reducible refine r3_le ?_) | (with_reducible refine r3_gt ?_) | (with_reducible refine r3_ge ?_) | (with_reducible refine u3_neg ?_)
  | (with_reducible refine c3_int_i ?_) | (with_reducible refine c3_int_b ?_) | (with_reducible refine c3_abs ?_) | (with_reducible refine c3_len_t ?_) | (with_reducible refine c3_len .fz ?_) | (with_reducible refine c3_max2 ?_) | (with_reducible refine c3_min2 ?_)
  | (with_reducible refine r3_eq (n := 9) (m := 9) okD_int okD_int ?_) | (with_reducible refine r3_ne (n := 9) (m := 9) okD_int okD_int ?_)
  | ((with_reducible refine' Exists.intro _ (And.intro ?hx ?_)); (case hx => exact rfl))
  | ((with_reducible refine' And.intro ?hx ?_); (case hx => (show List.length _ ≤ 100000); exact Nat.le_of_ble_eq_true rfl)))

section
variable {P : Program} {w : World} {K : PySem.W.Frag} {mg : Str → Option Value} {base : Heap} {A0 : Adr}

def okT (s : Str) : Prop := s.cps.all (· < 0x110000) = true
def eD (e : Str × List Str) : D := .tup [.str e.1, .lst (e.2.map .str)]
def wD (w : Str × Str) : D := .tup [.str w.1, .str w.2]
theorem pq_str (a b : Str) : peq (.str a) (.str b) = decide (a = b) := by rw [peq_str]; rfl
theorem pq_strs (a b : List Str) : PyData.eqvAll (pys (a.map D.str)) (pys (b.map D.str)) = decide (a = b) := peqs_map _ pq_str a b
theorem pq_wD (a b : Str × Str) : peq (wD a) (wD b) = decide (a = b) := by
  obtain ⟨a1, a2⟩ := a; obtain ⟨b1, b2⟩ := b
  show (peq (.str a1) (.str b1) && (peq (.str a2) (.str b2) && true)) = _
  rw [pq_str, pq_str, Bool.and_true]
  simp [Prod.mk.injEq]
theorem pq_eD (a b : Str × List Str) : peq (eD a) (eD b) = decide (a = b) := by
  obtain ⟨a1, a2⟩ := a; obtain ⟨b1, b2⟩ := b
  show (peq (.str a1) (.str b1) && (PyData.eqvAll (pys (a2.map D.str)) (pys (b2.map D.str)) && true)) = _
  rw [pq_str, pq_strs, Bool.and_true]
  simp [Prod.mk.injEq]
theorem okD_S {n : Nat} {s : Str} (h : okT s) : okD n (.str s) = true := okD_str h
theorem okDs_S {n : Nat} {l : List Str} (h : ∀ s ∈ l, okT s) : okDs n (l.map D.str) = true := okDs_iff.mpr fun d hd => by
  obtain ⟨s, hs, rfl⟩ := List.mem_map.mp hd
  exact okD_S (h s hs)
theorem okD_w {w : Str × Str} (h : okT w.1 ∧ okT w.2) : okD 1 (wD w) = true := by
  show (okD 0 (.str w.1) && (okD 0 (.str w.2) && true)) = true
  rw [okD_S h.1, okD_S h.2]; rfl
theorem okD_e {e : Str × List Str} (h : okT e.1 ∧ ∀ p ∈ e.2, okT p) : okD 2 (eD e) = true := by
  show (okD 1 (.str e.1) && (okDs 0 (e.2.map D.str) && true)) = true
  rw [okD_S h.1, okDs_S h.2]; rfl
def WkOk (wk : List (Str × List Str)) : Prop := ∀ e ∈ wk, okT e.1 ∧ ∀ p ∈ e.2, okT p
def WiOk (wi : List (Str × Str)) : Prop := ∀ e ∈ wi, okT e.1 ∧ okT e.2
theorem okDs_wi {wi : List (Str × Str)} (h : WiOk wi) : okDs 1 (wi.map wD) = true := okDs_iff.mpr fun d hd => by
  obtain ⟨s, hs, rfl⟩ := List.mem_map.mp hd
  exact okD_w (h s hs)
theorem okDs_wk {wi : List (Str × List Str)} (h : WkOk wi) : okDs 2 (wi.map eD) = true := okDs_iff.mpr fun d hd => by
  obtain ⟨s, hs, rfl⟩ := List.mem_map.mp hd
  exact okD_e (h s hs)
theorem any_strs (l : List Str) (x : Str) : ((l.map D.str).any fun z => peq z (.str x)) = l.contains x := by
  rw [List.any_map]
  induction l with
  | nil => rfl
  | cons y l ih =>
    rw [List.any_cons, List.contains_cons, ih]
    show (peq (.str y) (.str x) || _) = _
    rw [pq_str]
    congr 1
    rw [show (x == y) = decide (x = y) from rfl]
    by_cases h : y = x
    · simp [h]
    · rw [decide_eq_false h, decide_eq_false (fun e => h e.symm)]
/-! ### what the program computes -/
def dk (c : Str) (ns : List Str) (wi : List (Str × Str)) : List Str := (wi.filter fun w => decide (w.2 = c) && ns.contains w.1).map (·.1)
theorem mem_dk {c d : Str} {ns : List Str} {wi : List (Str × Str)} (h : d ∈ dk c ns wi) : (d, c) ∈ wi ∧ d ∈ ns := by
  obtain ⟨w, hw, rfl⟩ := List.mem_map.mp h
  obtain ⟨h1, h2⟩ := List.mem_filter.mp hw
  obtain ⟨h3, h4⟩ := Bool.and_eq_true_iff.mp h2
  have h3 := of_decide_eq_true h3
  subst h3
  exact ⟨h1, by simpa using h4⟩
theorem dk_empty (c : Str) (ns : List Str) (wi : List (Str × Str)) : (dk c ns wi).isEmpty = !(((wi.filter fun w => ns.contains w.1).map (·.2)).contains c) := by
  induction wi with
  | nil => rfl
  | cons w wi ih =>
    unfold dk at ih ⊢
    rw [List.filter_cons, List.filter_cons]
    cases h : ns.contains w.1 with
    | false => simpa [h] using ih
    | true =>
      by_cases h2 : w.2 = c
      · simp [h, h2]
      · have h3 : ¬ c = w.2 := fun e => h2 e.symm
        simp only [h, h2, decide_false, Bool.false_and, if_true]
        rw [if_neg (by simp)]
        rw [ih, List.map_cons, List.contains_cons]
        rw [show (c == w.2) = decide (c = w.2) from rfl, decide_eq_false h3]; rfl
def freeE (wi : List (Str × Str)) (ws : List (Str × List Str)) : List (Str × List Str) := ws.filter fun e => (dk e.1 (ws.map (·.1)) wi).isEmpty
def rk (wi : List (Str × Str)) : Nat → List (Str × List Str) → List (Str × Str) → Option (List (Str × Str))
  | 0, _, row => some row
  | n + 1, ws, row => match freeE wi ws with
    | [] => none
    | e :: _ => rk wi n (ws.erase e) (row ++ e.2.map (fun p => (e.1, p)))
def ranked (wk : List (Str × List Str)) (wi : List (Str × Str)) : Option (List (Str × Str)) := rk wi wk.length wk []
def fdup : List Str → List Str → Option Str
  | _, [] => none
  | seen, x :: l => if x ∈ seen then some x else fdup (x :: seen) l
def IsRing (rg ns : List Str) (wi : List (Str × Str)) : Prop := rg ≠ [] ∧ rg.Nodup ∧ (∀ x ∈ rg, x ∈ ns) ∧ ∀ (k : Nat) (x y : Str), rg[k]? = some x → rg[if k = 0 then rg.length - 1 else k - 1]? = some y → (y, x) ∈ wi
def potsN (ws : List (Str × List Str)) : Nat := (ws.map fun e => e.2.length).sum
theorem potsN_erase {e : Str × List Str} : ∀ {ws : List (Str × List Str)}, e ∈ ws → potsN (ws.erase e) + e.2.length = potsN ws
  | x :: ws, h => by
    by_cases hx : x = e
    · subst hx
      rw [List.erase_cons_head]; show potsN ws + _ = x.2.length + potsN ws; omega
    · rw [List.erase_cons_tail (by simpa using hx)]
      have : e ∈ ws := by
        rcases List.mem_cons.mp h with h | h
        · exact absurd h.symm hx
        · exact h
      have := potsN_erase this
      show x.2.length + potsN (ws.erase e) + _ = x.2.length + potsN ws
      omega
theorem nodup_le : ∀ {l m : List Str}, l.Nodup → (∀ x ∈ l, x ∈ m) → l.length ≤ m.length
  | [], _, _, _ => Nat.zero_le _
  | x :: l, m, h, s => by
    obtain ⟨h1, h2⟩ := List.nodup_cons.mp h
    have hx : x ∈ m := s x (List.mem_cons_self ..)
    have := nodup_le (l := l) (m := m.erase x) h2 fun y hy => (List.mem_erase_of_ne (fun (e : y = x) => h1 (by rw [← e]; exact hy))).mpr (s y (List.mem_cons_of_mem _ hy))
    rw [List.length_erase_of_mem hx] at this
    have : 0 < m.length := List.length_pos_of_mem hx
    show l.length + 1 ≤ m.length
    omega
/-- the ring that a road closes -/
theorem ring_close {road ns : List Str} {wi : List (Str × Str)} {d last : Str} {j : Nat} (nd : road.Nodup) (sub : ∀ x ∈ road, x ∈ ns) (ch : ∀ (k : Nat) (x y : Str), road[k]? = some x → road[k + 1]? = some y → (y, x) ∈ wi)
    (hl : road[road.length - 1]? = some last) (hd : (d, last) ∈ wi) (hj : road[j]? = some d) : IsRing (road.drop j).reverse ns wi := by
  have jl : j < road.length := (List.getElem?_eq_some_iff.mp hj).1
  have len : (road.drop j).reverse.length = road.length - j := by simp
  have at_ : ∀ k, k < road.length - j → (road.drop j).reverse[k]? = road[road.length - 1 - k]? := fun k hk => by
    rw [List.getElem?_reverse (by simp; omega), List.getElem?_drop, List.length_drop]
    congr 1; omega
  refine ⟨fun e => ?_, ?_, fun x hx => ?_, fun k x y hx hy => ?_⟩
  · rw [e] at len; simp at len; omega
  · have h : (road.drop j).Nodup := nd.sublist (List.drop_sublist _ _)
    unfold List.Nodup at *
    rw [List.pairwise_reverse]
    exact h.imp fun h e => h e.symm
  · exact sub x (List.mem_of_mem_drop (List.mem_reverse.mp hx))
  · have hk : k < road.length - j := by rw [← len]; exact (List.getElem?_eq_some_iff.mp hx).1
    rw [at_ k hk] at hx
    by_cases k0 : k = 0
    · subst k0
      rw [if_pos rfl, len, at_ _ (by omega)] at hy
      rw [show road.length - 1 - (road.length - j - 1) = j by omega, hj] at hy
      rw [Nat.sub_zero, hl] at hx
      cases hx; cases hy; exact hd
    · rw [if_neg k0, at_ _ (by omega)] at hy
      exact ch _ _ _ hx (by rw [show road.length - 1 - k + 1 = road.length - 1 - (k - 1) by omega]; exact hy)
theorem filter_map_eq {α : Type} {f : α → D} {p : D → Bool} {q : α → Bool} {g : D → D} {h : α → D} (l : List α) (hp : ∀ a ∈ l, p (f a) = q a) (hg : ∀ a ∈ l, q a = true → g (f a) = h a) : ((l.map f).filter p).map g = (l.filter q).map h := by
  induction l with
  | nil => rfl
  | cons a l ih =>
    have ih := ih (fun b hb => hp b (List.mem_cons_of_mem _ hb)) (fun b hb => hg b (List.mem_cons_of_mem _ hb))
    rw [List.map_cons, List.filter_cons, List.filter_cons, hp a (List.mem_cons_self ..)]
    cases hq : q a with
    | false => rw [if_neg (by simp), if_neg (by simp), ih]
    | true => rw [if_pos rfl, if_pos rfl, List.map_cons, List.map_cons, ih, hg a (List.mem_cons_self ..) hq]
theorem map_at {α : Type} {f : α → D} {l : List α} {i : Nat} {d : D} (h : (l.map f)[i]? = some d) : ∃ a, l[i]? = some a ∧ d = f a := by
  rw [List.getElem?_map] at h
  obtain ⟨a, h1, h2⟩ := Option.map_eq_some_iff.mp h
  exact ⟨a, h1, h2.symm⟩
end
end LW
set_option Elab.async false
set_option linter.all false
set_option maxRecDepth 100000
set_option maxHeartbeats 4000000
namespace LW
open PySem L2 T3
open Evl (Ex)
local macro_rules | `(tactic| walk_at "t3") => `(tactic| first
  | (with_reducible refine s_seq ?_) | (with_reducible refine s_asg ?_) | (with_reducible refine s_if ?_) | (with_reducible refine s_ret ?_) | (with_reducible refine s_drop ?_) | (with_reducible refine s_asgG ?_) | (with_reducible refine s_retN ?_)
  | (with_reducible refine s_next ?_) | (with_reducible refine s_brk ?_) | (with_reducible refine s_cont ?_) | (with_reducible refine s_par ?_) | (with_reducible refine s_fld ?_)
  | ((with_reducible refine' w_var ?hx ?_); (case hx => exact rfl)) | (with_reducible refine w_cI ?_) | (with_reducible refine w_cB ?_) | (with_reducible refine w_cS ?_) | (with_reducible refine w_cN ?_) | (with_reducible refine w_cT ?_) | (with_reducible refine w_cR ?_)
  | (with_reducible refine w_op ?_) | (with_reducible refine w_un ?_) | (with_reducible refine w_nil ?_) | (with_reducible refine w_tup ?_) | (with_reducible refine w_cons ?_) | (with_reducible refine w_cb ?_) | (with_reducible refine w_bm0 ?_) | (with_reducible refine w_bm ?_)
  | (with_reducible refine w_test ?_) | (with_reducible refine w_B ?_) | (with_reducible refine w_notT ?_) | (with_reducible refine w_yes ?_) | (with_reducible refine w_notV ?_)
  | (with_reducible refine w_ifE ?_) | (with_reducible refine w_isN ?_) | (with_reducible refine w_notN ?_) | (with_reducible refine w_tr ?_) | (with_reducible refine w_chain ?_) | (with_reducible refine w_fld ?_) | (with_reducible refine w_sl ?_) | (with_reducible refine o_no ?_) | (with_reducible refine o_some ?_)
  | (with_reducible refine w_call0 ?_) | (with_reducible refine g_name ?_) | ((with_reducible refine' g_tup ?hx ?hy ?_); (case hx => exact rfl); (case hy => exact rfl)) | (with_reducible refine g_cons ?_) | (with_reducible refine g_nil ?_) | (with_reducible refine g_set ?_)
  | (with_reducible refine r3_add_ii ?_) | (with_reducible refine r3_sub ?_) | (with_reducible refine r3_lt ?_) | (with_reducible refine r3_le ?_) | (with_reducible refine r3_gt ?_) | (with_reducible refine r3_ge ?_) | (with_reducible refine u3_neg ?_)
  | (with_reducible refine c3_int_i ?_) | (with_reducible refine c3_int_b ?_) | (with_reducible refine c3_abs ?_) | (with_reducible refine c3_len_t ?_) | (with_reducible refine c3_len .fz ?_) | (with_reducible refine c3_max2 ?_) | (with_reducible refine c3_min2 ?_)
  | (with_reducible refine r3_eq (n := 9) (m := 9) okD_int okD_int ?_) | (with_reducible refine r3_ne (n := 9) (m := 9) okD_int okD_int ?_)
  | ((with_reducible refine' Exists.intro _ (And.intro ?hx ?_)); (case hx => exact rfl))
  | ((with_reducible refine' And.intro ?hx ?_); (case hx => (show List.length _ ≤ 100000); exact Nat.le_of_ble_eq_true rfl)))

section
variable {P : Program} {w : World} {K : PySem.W.Frag} {mg : Str → Option Value} {base : Heap} {A0 : Adr}

def S_darker : Sp3 := fun ds M Q _ => ∃ (c : Str) (ns : List Str) (wi : List (Str × Str)), ds = [.str c, .lst (ns.map .str), .lst (wi.map wD)] ∧ okT c ∧ (∀ s ∈ ns, okT s) ∧ WiOk wi ∧ wi.length ≤ 1000 ∧ Q (.lst ((dk c ns wi).map .str)) M
theorem ok_darker_ones (T : Tx P K mg A0) : FnOk P w K mg base CX0 1 A0.f_darker_ones A0.d_darker_ones ["cloth", "names", "wishes"] (lift3 S_darker) := by
  refine T.F_darker_ones.ok sc_darker_ones (lift3_len fun ds M Q E ⟨a, k, o, h, _⟩ => by rw [h]; rfl) (fun cdv A outer s H vs Q E hr h => ?_)
  have hu := hr.units
  have hu5 := units65 hr
  refine ⟨_, (pss_one (ps_ret (pe_lc (own := [("darker", 3), ("lighter", 4)]) (g := (gTup K 2 (gCons (gName 3) (gCons (gName 4) gNil)))) (by rfl) sc_darker_ones.nd (pi_list (pv 2)) (blkOk_by (N := ["cloth", "names", "wishes", "darker", "lighter"]) (sc := defScope s_darker_ones) (own := [("darker", 3), ("lighter", 4)]) (by decide +kernel)) (fun _ _ _ _ _ => (pg_tup (by rfl) (pgs_cons (pg_name (i := 3) sc_darker_ones.nd (by rfl) (Or.inl (by rfl))) (pgs_cons (pg_name (i := 4) sc_darker_ones.nd (by rfl) (Or.inl (by rfl))) pgs_nil)))) (fun _ _ _ _ _ => pts_one (PW.pt (pw_and (pt_cmpR (op_eqDK K rfl hu) (pv 4) (pv 0) (nomark _)) (pw_and1 (pt_cmpR (op_INK K P w rfl rfl rfl hu5) (pv 3) (pv 1) (by rfl)))))) (fun _ _ _ _ _ => (pv 3))))), run3 h fun B ds M Q3 E3 hs hE => ?_⟩
  obtain ⟨c, ns, wi, rfl, hc, hn, hw, hl, q⟩ := hs
  change W3s B _ _ [some (.str c), some (.lst (ns.map .str)), some (.lst (wi.map wD)), none, none] M
  try dsimp only [cxOf, Cx.nox, Cx.wish]
  repeat walk_at "t3"
  refine w_lcP (fun d => match d with | .tup [.str a, .str b] => decide (b = c) && ns.contains a | _ => false) (fun d => match d with | .tup [a, _] => a | d => d) (own_tup (own_cons own_name (own_cons own_name own_nil))) (i_list ?_)
  repeat walk_at "t3"
  refine ⟨by rw [List.length_map]; omega, trivial, ?_, ?_⟩
  · intro i d M' hi _
    obtain ⟨⟨a, b⟩, hab, rfl⟩ := map_at hi
    have ok := hw _ (List.mem_of_getElem? hab)
    repeat walk_at "t3"
    refine ⟨rfl, ?_⟩
    refine w_andTP (a := decide (b = c)) (b := ns.contains a) ?_ (fun _ => ?_) ⟨rfl, rfl, fun _ => ?_⟩
    · repeat walk_at "t3"
      refine r3_eq (n := 9) (m := 9) (okD_S ok.2) (okD_S hc) ?_
      rw [pq_str]
      repeat walk_at "t3"
      exact ⟨rfl, rfl⟩
    · repeat walk_at "t3"
      refine r3_in (n := 9) (m := 9) .fz (okD_S ok.1) (okDs_S hn) ?_
      rw [any_strs]
      repeat walk_at "t3"
      exact ⟨rfl, rfl⟩
    · repeat walk_at "t3"
      exact ⟨rfl, rfl⟩
  · have e := filter_map_eq (f := wD) (p := fun d => match d with | .tup [.str a, .str b] => decide (b = c) && ns.contains a | _ => false) (q := fun w => decide (w.2 = c) && ns.contains w.1) (g := fun d => match d with | .tup [a, _] => a | d => d) (h := fun w => D.str w.1) wi (fun w _ => rfl) (fun w _ _ => rfl)
    rw [e]
    rw [dk, List.map_map] at q
    exact q
def S_ring : Sp3 := fun ds M Q _ => ∃ (ns : List Str) (wi : List (Str × Str)), ds = [.lst (ns.map .str), .lst (wi.map wD)] ∧ (∀ s ∈ ns, okT s) ∧ WiOk wi ∧ wi.length ≤ 1000 ∧ ns.length ≤ 1000 ∧ ns ≠ [] ∧ (∀ n ∈ ns, dk n ns wi ≠ []) ∧ ∀ rg, IsRing rg ns wi → Q (.lst (rg.map .str)) M
theorem cutD_drop {xs : List D} {j : Nat} (h : j ≤ xs.length) : cutD xs (some (j : Int)) none = xs.drop j := by
  unfold cutD
  have e1 : HT.sIx xs.length 0 (some (j : Int)) = j := by rw [HT.sIx_nat]; exact Nat.min_eq_left h
  have e2 : HT.sIx xs.length xs.length none = xs.length := rfl
  rw [e1, e2]
  exact List.take_of_length_le (by simp)
theorem at_last {xs : List D} {d : D} (h : xs[xs.length - 1]? = some d) : atI xs (-1) = some d := by
  have := (List.getElem?_eq_some_iff.mp h).1
  unfold atI ixN
  rw [if_neg (by decide), if_pos (by omega)]
  show xs[_]? = _
  rw [← h]
  congr 1
  omega
theorem ok_ring_of (T : Tx P K mg A0) : FnOk P w K mg base CX0 2 A0.f_ring_of A0.d_ring_of ["names", "wishes"] (lift3 S_ring) := by
  refine T.F_ring_of.ok sc_ring_of (lift3_len fun ds M Q E ⟨k, o, h, _⟩ => by rw [h]; rfl) (fun cdv A outer s H vs Q E hr h => ?_)
  have hu := hr.units
  have hu5 := units65 hr
  refine ⟨_, (pss_cons (ps_set (i := 2) sc_ring_of.nd (by rfl) (Or.inl (by rfl)) (pe_lst (pa_cons (pe_ix (ix_seqK K rfl) (pv 0) pe_int (fun _ _ => by rfl)) pa_nil)))
  (pss_one (ps_while PassesOwn.never (pt_truthK K rfl pe_bl (by intro _; rfl)) (pss_cons (ps_set (i := 3) sc_ring_of.nd (by rfl) (Or.inl (by rfl)) (pe_ix (ix_seqK K rfl) (pe_call (ok_darker_ones T) (hr.mono (by decide)) (by rfl) T.g_darker_ones T.k_darker_ones T.b_darker_ones .nil pass0 (pa_cons (pe_ix (ix_seqK K rfl) (pv 2) (pe_un un_neg pe_int) (fun _ _ => by rfl)) (pa_cons (pv 0) (pa_cons (pv 1) pa_nil)))) pe_int (fun _ _ => by rfl)))
  (pss_cons (ps_if (pt_cmpR (op_INK K P w rfl rfl rfl hu5) (pv 3) (pv 2) (by rfl)) (pss_one (ps_ret (pe_revL (pe_slice (sl_SLK K rfl) (pv 2) (po_some (pe_bm PySem.F.plainAttrs_list PySem.F.slot_list_index PySem.F.type_list_index (mt_indexD hu5) (pv 2) (pa_cons (pv 3) pa_nil))) po_none)))) pss_nil)
  (pss_one (ps_expr (pe_bm PySem.F.plainAttrs_list PySem.F.slot_list_append PySem.F.type_list_append mt_append (pv 2) (pa_cons (pv 3) pa_nil))))))))), run3 h fun B ds M Q3 E3 hs hE => ?_⟩
  obtain ⟨ns, wi, rfl, hn, hw, lw, ln, n0, stuck, q⟩ := hs
  change W3s B _ _ [some (.lst (ns.map .str)), some (.lst (wi.map wD)), none, none] M
  try dsimp only [cxOf, Cx.nox, Cx.wish]
  repeat walk_at "t3"
  obtain ⟨x0, ns', rfl⟩ : ∃ x l, ns = x :: l := List.exists_cons_of_ne_nil n0
  refine w_lstO ?_
  repeat walk_at "t3"
  refine r3_ix_l .fz (at3 (j := 0) (by omega) (v := .str x0) rfl) ?_
  repeat walk_at "t3"
  intro p hp
  repeat walk_at "t3"
  generalize hN : x0 :: ns' = ns at *
  have hx0 : x0 ∈ ns := by rw [← hN]; exact List.mem_cons_self ..
  have hlen : 1 ≤ ns.length := by rw [← hN]; exact Nat.succ_pos _
  refine s_while (fun m σ' M' => ∃ (road : List Str) (b : Option D), road ≠ [] ∧ road.length + m = ns.length ∧ road.Nodup ∧ (∀ x ∈ road, x ∈ ns) ∧ (∀ (k : Nat) (x y : Str), road[k]? = some x → road[k + 1]? = some y → (y, x) ∈ wi) ∧
    σ' = [some (.lst (ns.map .str)), some (.lst (wi.map wD)), some (.ref p), b] ∧ M' = mput M p (.lst (road.map .str))) (ns.length - 1) ⟨[x0], none, List.cons_ne_nil _ _, by simp; omega, by simp, by simpa using hx0, fun k x y h1 h2 => by simp at h2, rfl, rfl⟩ ?_
  rintro m σ' M' ⟨road, b, r0, lr, nd, sub, ch, rfl, rfl⟩
  have hm : mput M p (.lst (road.map .str)) p = some (.lst (road.map .str)) := mput_same
  repeat walk_at "t3"
  rw [if_pos rfl]
  repeat walk_at "t3"
  have rpos : 0 < road.length := List.length_pos_iff.mpr r0
  obtain ⟨last, hlast⟩ : ∃ x, road[road.length - 1]? = some x := ⟨road[road.length - 1], List.getElem?_eq_getElem (by omega)⟩
  have lmem : last ∈ ns := sub _ (List.mem_of_getElem? hlast)
  refine r3_ix_l (.ow hm) (at_last (d := .str last) (by rw [List.length_map, List.getElem?_map, hlast]; rfl)) ?_
  repeat walk_at "t3"
  refine ⟨last, ns, wi, rfl, hn _ lmem, hn, hw, lw, ?_⟩
  obtain ⟨d0, dl, hd⟩ : ∃ x l, dk last ns wi = x :: l := List.exists_cons_of_ne_nil (stuck _ lmem)
  have hdm := mem_dk (c := last) (d := d0) (ns := ns) (wi := wi) (by rw [hd]; exact List.mem_cons_self ..)
  rw [hd]
  repeat walk_at "t3"
  refine r3_ix_l .fz (at3 (j := 0) (by omega) (v := .str d0) rfl) ?_
  repeat walk_at "t3"
  refine r3_in (n := 9) (m := 9) (.ow hm) (okD_S (hn _ hdm.2)) (okDs_S fun s hs => hn _ (sub _ hs)) ?_
  rw [any_strs]
  repeat walk_at "t3"
  refine iteB (fun hc => ?_) (fun hc => ?_)
  · have hc : d0 ∈ road := by simpa using hc
    refine s_ret (w_vs ?_)
    refine w_rev ?_
    repeat walk_at "t3"
    refine ⟨.lo hm, ?_⟩
    repeat walk_at "t3"
    have jl : road.idxOf d0 < road.length := List.idxOf_lt_length_of_mem hc
    have hj : road[road.idxOf d0]? = some d0 := by rw [List.getElem?_eq_getElem jl, List.getElem_idxOf]
    refine m3_index (n := 9) (m := 9) (j := road.idxOf d0) (z := .str d0) (.ow hm) (okDs_S fun s hs => hn _ (sub _ hs)) (okD_S (hn _ hdm.2)) (by rw [List.getElem?_map, hj]; rfl) (by rw [pq_str]; simp) (fun i z' hi hz => ?_) ?_
    · obtain ⟨s, hs, rfl⟩ := map_at hz
      rw [pq_str]
      refine decide_eq_false fun e => ?_
      subst e
      obtain ⟨h1, h2⟩ := List.getElem?_eq_some_iff.mp hs
      have := List.not_of_lt_findIdx (p := (· == s)) (xs := road) hi
      simp [h2] at this
    · repeat walk_at "t3"
      refine s3_l (.ow hm) ?_
      refine ⟨_, .fz, ?_⟩
      rw [cutD_drop (by rw [List.length_map]; omega), ← List.map_drop, ← List.map_reverse]
      exact ⟨_, _, vs_drop p, by rw [mdel_mput hp]; exact q _ (ring_close nd sub ch hlast hdm.1 hj)⟩
  · have hc : d0 ∉ road := by simpa using hc
    repeat walk_at "t3"
    refine ⟨.lo hm, ?_⟩
    repeat walk_at "t3"
    refine m3_append hm (by rw [List.length_map]; omega) ?_
    repeat walk_at "t3"
    have nd2 : (road ++ [d0]).Nodup := by
      rw [List.nodup_append]
      exact ⟨nd, by simp, fun a ha b hb => by
        have : b = d0 := by simpa using hb
        intro e; exact hc (by rw [← this, ← e]; exact ha)⟩
    have sub2 : ∀ x ∈ road ++ [d0], x ∈ ns := fun x hx => by
      rcases List.mem_append.mp hx with hx | hx
      · exact sub x hx
      · have : x = d0 := by simpa using hx
        rw [this]; exact hdm.2
    have l2 := nodup_le nd2 sub2
    rw [List.length_append] at l2
    have l2 : road.length + 1 ≤ ns.length := l2
    refine ⟨m - 1, by omega, road ++ [d0], some (.str d0), by simp, by rw [List.length_append]; show road.length + 1 + (m - 1) = _; omega, nd2, sub2, fun k x y h1 h2 => ?_, rfl, ?_⟩
    · have hk : k + 1 < (road ++ [d0]).length := (List.getElem?_eq_some_iff.mp h2).1
      rw [List.length_append] at hk
      have hk : k + 1 < road.length + 1 := hk
      rw [List.getElem?_append_left (by omega)] at h1
      by_cases e : k + 1 < road.length
      · rw [List.getElem?_append_left e] at h2
        exact ch k x y h1 h2
      · have e : k = road.length - 1 := by omega
        subst e
        rw [hlast] at h1
        rw [List.getElem?_append_right (by omega)] at h2
        rw [show road.length - 1 + 1 - road.length = 0 by omega] at h2
        cases h1; cases h2; exact hdm.1
    · rw [mput_mput, List.map_append]; rfl
end
end LW
set_option Elab.async false
set_option linter.all false
set_option maxRecDepth 100000
set_option maxHeartbeats 4000000
namespace LW
open PySem L2 T3
open Evl (Ex)
local macro_rules | `(tactic| walk_at "t3") => `(tactic| first
  | (with_reducible refine s_seq ?_) | (with_reducible refine s_asg ?_) | (with_reducible refine s_if ?_) | (with_reducible refine s_ret ?_) | (with_reducible refine s_drop ?_) | (with_reducible refine s_asgG ?_) | (with_reducible refine s_retN ?_)
  | (with_reducible refine s_next ?_) | (with_reducible refine s_brk ?_) | (with_reducible refine s_cont ?_) | (with_reducible refine s_par ?_) | (with_reducible refine s_fld ?_)
  | ((with_reducible refine' w_var ?hx ?_); (case hx => exact rfl)) | (with_reducible refine w_cI ?_) | (with_reducible refine w_cB ?_) | (with_reducible refine w_cS ?_) | (with_reducible refine w_cN ?_) | (with_reducible refine w_cT ?_) | (with_reducible refine w_cR ?_)
  | (with_reducible refine w_op ?_) | (with_reducible refine w_un ?_) | (with_reducible refine w_nil ?_) | (with_reducible refine w_tup ?_) | (with_reducible refine w_cons ?_) | (with_reducible refine w_cb ?_) | (with_reducible refine w_bm0 ?_) | (with_reducible refine w_bm ?_)
  | (with_reducible refine w_test ?_) | (with_reducible refine w_B ?_) | (with_reducible refine w_notT ?_) | (with_reducible refine w_yes ?_) | (with_reducible refine w_notV ?_)
  | (with_reducible refine w_ifE ?_) | (with_reducible refine w_isN ?_) | (with_reducible refine w_notN ?_) | (with_reducible refine w_tr ?_) | (with_reducible refine w_chain ?_) | (with_reducible refine w_fld ?_) | (with_reducible refine w_sl ?_) | (with_reducible refine o_no ?_) | (with_reducible refine o_some ?_)
  | (with_reducible refine w_call0 ?_) | (with_reducible refine g_name ?_) | ((with_reducible refine' g_tup ?hx ?hy ?_); (case hx => exact rfl); (case hy => exact rfl)) | (with_reducible refine g_cons ?_) | (with_reducible refine g_nil ?_) | (with_reducible refine g_set ?_)
  | (with_reducible refine r3_add_ii ?_) | (with_reducible refine r3_sub ?_) | (with_reducible refine r3_lt ?_) | (with_reducible refine r3_le ?_) | (with_reducible refine r3_gt ?_) | (with_reducible refine r3_ge ?_) | (with_reducible refine u3_neg ?_)
  | (with_reducible refine c3_int_i ?_) | (with_reducible refine c3_int_b ?_) | (with_reducible refine c3_abs ?_) | (with_reducible refine c3_len_t ?_) | (with_reducible refine c3_len .fz ?_) | (with_reducible refine c3_max2 ?_) | (with_reducible refine c3_min2 ?_)
  | (with_reducible refine r3_eq (n := 9) (m := 9) okD_int okD_int ?_) | (with_reducible refine r3_ne (n := 9) (m := 9) okD_int okD_int ?_)
  | ((with_reducible refine' Exists.intro _ (And.intro ?hx ?_)); (case hx => exact rfl))
  | ((with_reducible refine' And.intro ?hx ?_); (case hx => (show List.length _ ≤ 100000); exact Nat.le_of_ble_eq_true rfl)))

section
variable {P : Program} {w : World} {K : PySem.W.Frag} {mg : Str → Option Value} {base : Heap} {A0 : Adr}

def S_check (A0 : Adr) : Sp3 := fun ds M Q E => ∃ (wk : List (Str × List Str)), ds = [.lst (wk.map eD), .non] ∧ wk.length ≤ 1000 ∧ (fdup [] (wk.map (·.1)) = none → Q .non M) ∧ ∀ c, fdup [] (wk.map (·.1)) = some c → E A0.f_Known (.str c) M
theorem ok_check_work (T : Tx P K mg A0) : FnOk P w K mg base (L2.CX P w) 1 A0.f_check_work A0.d_check_work ["work", "book"] (lift3 (S_check A0)) := by
  refine T.F_check_work.ok sc_check_work (lift3_len fun ds M Q E ⟨a, h, _⟩ => by rw [h]; rfl) (fun cdv A outer s H vs Q E hr h => ?_)
  have hu := hr.units
  have hu5 := units65 hr
  refine ⟨_, (pss_cons (ps_set (i := 2) sc_check_work.nd (by rfl) (Or.inl (by rfl)) (pe_callTy0 cr_set0K (by rfl) T.n_set (by decide +kernel)))
  (pss_one (ps_for (passes_of rfl) (by rfl) (pi_list (pv 0)) (pg_tup (by rfl) (pgs_cons (pg_name (i := 3) sc_check_work.nd (by rfl) (Or.inl (by rfl))) (pgs_cons (pg_name (i := 4) sc_check_work.nd (by rfl) (Or.inl (by rfl))) pgs_nil))) (pss_cons (ps_if (pt_cmp (pc_notN (pv 1)) (by rfl)) (pss_one ps_never) pss_nil)
  (pss_cons (ps_if (pt_cmpR (op_INK K P w rfl rfl rfl hu5) (pv 3) (pv 2) (by rfl)) (pss_one (ps_raiseDye (by rfl) T.dye_Known T.g_Known hr (takes_of rfl rfl rfl rfl) (pa_cons (pv 3) (pa_cons pe_str pa_nil)))) pss_nil)
  (pss_cons (ps_expr (pe_saddK (pv 2) (pa_cons (pv 3) pa_nil)))
  (pss_one (ps_for (passes_of rfl) (by rfl) (pi_list (pv 4)) (pg_name (i := 5) sc_check_work.nd (by rfl) (Or.inl (by rfl))) (pss_one (ps_if (PW.pt (pw_and (pt_cmp (pc_notN (pv 1)) (by rfl)) (pw_and1 pt_never))) (pss_one (ps_raiseDye (by rfl) T.dye_Unknown T.g_Unknown hr (takes_of rfl rfl rfl rfl) (pa_cons (pv 5) (pa_cons pe_str pa_nil)))) pss_nil)))))))))), run3 h fun B ds M Q3 E3 hs hE => ?_⟩
  obtain ⟨wk, rfl, hl, q, qe⟩ := hs
  change W3s B _ _ [some (.lst (wk.map eD)), some .non, none, none, none, none] M
  try dsimp only [cxOf, Cx.nox, Cx.wish]
  repeat walk_at "t3"
  refine c3_set0 fun p hp => ?_
  repeat walk_at "t3"
  refine s_nvs (s_for (i_list ?_))
  repeat walk_at "t3"
  refine ⟨fun i σ' M' => ∃ (S : Key → Bool) (n : Nat) (b1 b2 b3 : Option D), M' = mput M p (.raw (SetK P w p S n)) ∧ n ≤ i ∧ (∀ x, S (.inr x) = decide (x ∈ ((wk.map (·.1)).take i).reverse)) ∧ fdup ((wk.map (·.1)).take i).reverse ((wk.map (·.1)).drop i) = fdup [] (wk.map (·.1)) ∧
    σ' = [some (.lst (wk.map eD)), some .non, some (.ref p), b1, b2, b3], fun _ _ _ _ => trivial, ⟨fun _ => false, 0, none, none, none, rfl, Nat.le_refl _, fun x => by simp, rfl, rfl⟩, ?_, ?_⟩
  · rintro i d σ' M' hi ⟨S, n, b1, b2, b3, rfl, hn, hS, hf, rfl⟩
    obtain ⟨⟨c, pots⟩, hab, rfl⟩ := map_at hi
    have hab' : (wk.map (·.1))[i]? = some c := by rw [List.getElem?_map, hab]; rfl
    have hi' : i < wk.length := (List.getElem?_eq_some_iff.mp hab).1
    have hi2 : i < (wk.map (·.1)).length := by rw [List.length_map]; exact hi'
    have hc : (wk.map (·.1))[i] = c := (List.getElem?_eq_some_iff.mp hab').2
    have hdrop : (wk.map (·.1)).drop i = c :: (wk.map (·.1)).drop (i + 1) := by rw [List.drop_eq_getElem_cons hi2, hc]
    have htake : ((wk.map (·.1)).take (i + 1)).reverse = c :: ((wk.map (·.1)).take i).reverse := by rw [List.take_succ_eq_append_getElem hi2, hc, List.reverse_append]; rfl
    rw [hdrop, fdup] at hf
    have hm : mput M p (.raw (SetK P w p S n)) p = some (.raw (SetK P w p S n)) := mput_same
    repeat walk_at "t3"
    refine iteB (fun h => by cases h) (fun _ => ?_)
    repeat walk_at "t3"
    refine r3_in_set (k := .inr c) (fun F v r => r) hm ?_
    repeat walk_at "t3"
    refine iteB (fun hc => ?_) (fun hc => ?_)
    · have hc : S (.inr c) = true := hc
      rw [hS] at hc
      rw [if_pos (of_decide_eq_true hc)] at hf
      refine s_vs (vss_drop p) ?_
      rw [mdel_mput hp]
      refine s_raise (impW_of hE) ?_
      repeat walk_at "t3"
      exact ⟨_, _, rfl, qe c hf.symm⟩
    · have hc : S (.inr c) = false := hc
      rw [hS] at hc
      rw [if_neg (of_decide_eq_false hc)] at hf
      repeat walk_at "t3"
      refine w_sadd ?_
      repeat walk_at "t3"
      refine ⟨p, S, n, rfl, hm, ?_⟩
      repeat walk_at "t3"
      refine ⟨_, .inr c, S, n, rfl, fun F v r => r, hm, by show n + 1 < scanBound; unfold scanBound; omega, ?_⟩
      rw [mput_mput]
      have hS2 : ∀ x : Str, (S (.inr x) || decide ((.inr x : Key) = .inr c)) = decide (x ∈ ((wk.map (·.1)).take (i + 1)).reverse) := fun x => by
        rw [hS, htake, ← Bool.decide_or]
        by_cases e : x = c <;> simp [e]
      refine s_for (i_list ?_)
      repeat walk_at "t3"
      refine ⟨fun j σ' M' => ∃ (b3 : Option D), M' = mput M p (.raw (SetK P w p (fun j => S j || decide (j = .inr c)) (if S (.inr c) = true then n else n + 1))) ∧ σ' = [some (.lst (wk.map eD)), some .non, some (.ref p), some (.str c), some (.lst (pots.map .str)), b3], fun _ _ _ _ => trivial, ⟨_, rfl, rfl⟩, ?_, ?_⟩
      · rintro j d σ' M' hj ⟨b3, rfl, rfl⟩
        repeat walk_at "t3"
        refine w_andTP (a := false) (b := false) ?_ (fun h => by cases h) ?_
        · repeat walk_at "t3"
          exact ⟨rfl, rfl⟩
        · refine iteB (fun h => by cases h) (fun _ => ?_)
          refine s_next ?_
          exact ⟨_, rfl, rfl⟩
      · rintro σ' M' ⟨b3, rfl, rfl⟩
        exact ⟨_, _, _, _, _, rfl, by split <;> omega, hS2, by rw [htake]; exact hf, rfl⟩
  · rintro σ' M' ⟨S, n, b1, b2, b3, rfl, hn, hS, hf, rfl⟩
    rw [List.length_map, List.drop_of_length_le (by rw [List.length_map]; exact Nat.le_refl _)] at hf
    exact ⟨_, _, vss_drop p, by rw [mdel_mput hp]; exact q hf.symm⟩
end
end LW
set_option Elab.async false
set_option linter.all false
set_option maxRecDepth 100000
set_option maxHeartbeats 4000000
namespace LW
open PySem L2 T3
open Evl (Ex)
local macro_rules | `(tactic| walk_at "t3") => `(tactic| first
  | (with_reducible refine s_seq ?_) | (with_reducible refine s_asg ?_) | (with_reducible refine s_if ?_) | (with_reducible refine s_ret ?_) | (with_reducible refine s_drop ?_) | (with_reducible refine s_asgG ?_) | (with_reducible refine s_retN ?_)
  | (with_reducible refine s_next ?_) | (with_reducible refine s_brk ?_) | (with_reducible refine s_cont ?_) | (with_reducible refine s_par ?_) | (with_reducible refine s_fld ?_)
  | ((with_reducible refine' w_var ?hx ?_); (case hx => exact rfl)) | (with_reducible refine w_cI ?_) | (with_reducible refine w_cB ?_) | (with_reducible refine w_cS ?_) | (with_reducible refine w_cN ?_) | (with_reducible refine w_cT ?_) | (with_reducible refine w_cR ?_)
  | (with_reducible refine w_op ?_) | (with_reducible refine w_un ?_) | (with_reducible refine w_nil ?_) | (with_reducible refine w_tup ?_) | (with_reducible refine w_cons ?_) | (with_reducible refine w_cb ?_) | (with_reducible refine w_bm0 ?_) | (with_reducible refine w_bm ?_)
  | (with_reducible refine w_test ?_) | (with_reducible refine w_B ?_) | (with_reducible refine w_notT ?_) | (with_reducible refine w_yes ?_) | (with_reducible refine w_notV ?_)
  | (with_reducible refine w_ifE ?_) | (with_reducible refine w_isN ?_) | (with_reducible refine w_notN ?_) | (with_reducible refine w_tr ?_) | (with_reducible refine w_chain ?_) | (with_reducible refine w_fld ?_) | (with_reducible refine w_sl ?_) | (with_reducible refine o_no ?_) | (with_reducible refine o_some ?_)
  | (with_reducible refine w_call0 ?_) | (with_reducible refine g_name ?_) | ((with_reducible refine' g_tup ?hx ?hy ?_); (case hx => exact rfl); (case hy => exact rfl)) | (with_reducible refine g_cons ?_) | (with_reducible refine g_nil ?_) | (with_reducible refine g_set ?_)
  | (with_reducible refine r3_add_ii ?_) | (with_reducible refine r3_sub ?_) | (with_reducible refine r3_lt ?_) | (with_reducible refine r3_le ?_) | (with_reducible refine r3_gt ?_) | (with_reducible refine r3_ge ?_) | (with_reducible refine u3_neg ?_)
  | (with_reducible refine c3_int_i ?_) | (with_reducible refine c3_int_b ?_) | (with_reducible refine c3_abs ?_) | (with_reducible refine c3_len_t ?_) | (with_reducible refine c3_len .fz ?_) | (with_reducible refine c3_max2 ?_) | (with_reducible refine c3_min2 ?_)
  | (with_reducible refine r3_eq (n := 9) (m := 9) okD_int okD_int ?_) | (with_reducible refine r3_ne (n := 9) (m := 9) okD_int okD_int ?_)
  | ((with_reducible refine' Exists.intro _ (And.intro ?hx ?_)); (case hx => exact rfl))
  | ((with_reducible refine' And.intro ?hx ?_); (case hx => (show List.length _ ≤ 100000); exact Nat.le_of_ble_eq_true rfl)))

section
variable {P : Program} {w : World} {K : PySem.W.Frag} {mg : Str → Option Value} {base : Heap} {A0 : Adr}

theorem mput3 {M : Mem} {p q : Addr} {a b c : DO} (h : p ≠ q) : mput (mput (mput M p a) q b) p c = mput (mput M p c) q b := by
  rw [mput_comm h, mput_mput, ← mput_comm h]
theorem map_eraseIdx {α β : Type} (f : α → β) : ∀ (l : List α) (i : Nat), (l.map f).eraseIdx i = (l.eraseIdx i).map f
  | [], _ => rfl
  | _ :: _, 0 => rfl
  | x :: l, i + 1 => congrArg (f x :: ·) (map_eraseIdx f l i)
theorem mem_names {wk : List (Str × List Str)} {e : Str × List Str} (h : e ∈ wk) : e.1 ∈ wk.map (·.1) := List.mem_map_of_mem h
theorem freeE_nil {wi : List (Str × Str)} {ws : List (Str × List Str)} (h : freeE wi ws = []) : ∀ n ∈ ws.map (·.1), dk n (ws.map (·.1)) wi ≠ [] := fun n hn e => by
  obtain ⟨x, hx, rfl⟩ := List.mem_map.mp hn
  have : x ∈ freeE wi ws := List.mem_filter.mpr ⟨hx, by rw [e]; rfl⟩
  rw [h] at this; cases this
theorem names_ok {ws : List (Str × List Str)} (h : WkOk ws) : ∀ s ∈ ws.map (·.1), okT s := fun s hs => by
  obtain ⟨x, hx, rfl⟩ := List.mem_map.mp hs
  exact (h x hx).1
def S_rank (A0 : Adr) : Sp3 := fun ds M Q E => ∃ (wk : List (Str × List Str)) (wi : List (Str × Str)), ds = [.lst (wk.map eD), .lst (wi.map wD)] ∧ WkOk wk ∧ WiOk wi ∧ wk.length ≤ 1000 ∧ wi.length ≤ 1000 ∧ potsN wk ≤ 1000 ∧
  (∀ c, fdup [] (wk.map (·.1)) = some c → E A0.f_Known (.str c) M) ∧ (fdup [] (wk.map (·.1)) = none → (∀ row, ranked wk wi = some row → Q (.lst (row.map wD)) M) ∧ (ranked wk wi = none → ∀ rg, IsRing rg (wk.map (·.1)) wi → E A0.f_RingOfWishes (.lst (rg.map .str)) M))
theorem ok_rank_row (T : Tx P K mg A0) : FnOk P w K mg base (L2.CX P w) 3 A0.f_rank_row A0.d_rank_row ["work", "wishes"] (lift3 (S_rank A0)) := by
  refine T.F_rank_row.okX sc_rank_row (lift3_len fun ds M Q E ⟨a, b, h, _⟩ => by rw [h]; rfl) (fun cdv A outer s H vs Q E hr h => ?_)
  have hu := hr.units
  have hu5 := units65 hr
  refine ⟨_, (pss_cons (ps_expr (pe_call (ok_check_work T) (hr.mono (by decide)) (by rfl) T.g_check_work T.k_check_work T.b_check_work_1 (.cons (show RelV .non .none from rfl) .nil) (passes_call (takes_of rfl rfl rfl rfl) (fun _ _ _ _ h => h)) (pa_cons (pv 0) pa_nil)))
  (pss_cons (ps_par (by rfl) sc_rank_row.nd (i := 2) (j := 3) (by rfl) (by rfl) (by decide) (by rfl) (by rfl) (pa_cons (pe_lst pa_nil) (pa_cons (pe_callTy (call_lstK K rfl) (by rfl) T.n_list (by decide +kernel) (pa_cons (pv 0) pa_nil)) pa_nil)) (by rfl))
  (pss_cons (ps_while (passes_of rfl) (pt_truthK K rfl (pv 3) (by intro _; rfl)) (pss_cons (ps_set (i := 4) sc_rank_row.nd (by rfl) (Or.inr (by rfl)) (pe_lc (own := [("cloth", 6), ("pots", 7)]) (g := (gTup K 2 (gCons (gName 6) (gCons (gName 7) gNil)))) (by rfl) sc_rank_row.nd (pi_list (pv 3)) (blkOk_by (N := ["work", "wishes", "row", "waiting", "names", "free", "cloth", "pots", "entry", "pot"]) (sc := defScope s_rank_row) (own := [("cloth", 6), ("pots", 7)]) (by decide +kernel)) (fun _ _ _ _ _ => (pg_tup (by rfl) (pgs_cons (pg_name (i := 6) sc_rank_row.nd (by rfl) (Or.inl (by rfl))) (pgs_cons (pg_name (i := 7) sc_rank_row.nd (by rfl) (Or.inl (by rfl))) pgs_nil)))) (fun _ _ _ _ _ => pts_nil) (fun _ _ _ _ _ => (pv 6))))
  (pss_cons (ps_set (i := 5) sc_rank_row.nd (by rfl) (Or.inr (by rfl)) (pe_lc (own := [("entry", 8)]) (g := (gName 8)) (by rfl) sc_rank_row.nd (pi_list (pv 3)) (blkOk_by (N := ["work", "wishes", "row", "waiting", "names", "free", "cloth", "pots", "entry", "pot"]) (sc := defScope s_rank_row) (own := [("entry", 8)]) (by decide +kernel)) (fun _ _ _ _ _ => (pg_name (i := 8) sc_rank_row.nd (by rfl) (Or.inl (by rfl)))) (fun _ _ _ _ _ => pts_one (pt_not (pt_truthK K rfl (pe_call (ok_darker_ones T) (hr.mono (by decide)) (by rfl) T.g_darker_ones T.k_darker_ones T.b_darker_ones .nil pass0 (pa_cons (pe_ix (ix_seqK K rfl) (pv 8) pe_int (fun _ _ => by rfl)) (pa_cons (pv 4) (pa_cons (pv 1) pa_nil)))) (by intro _; rfl)))) (fun _ _ _ _ _ => (pv 8))))
  (pss_cons (ps_if (pt_not (pt_truthK K rfl (pv 5) (by intro _; rfl))) (pss_one (ps_raiseDye (by rfl) T.dye_RingOfWishes T.g_RingOfWishes hr (takes_of rfl rfl rfl rfl) (pa_cons (pe_call (ok_ring_of T) (hr.mono (by decide)) (by rfl) T.g_ring_of T.k_ring_of T.b_ring_of .nil pass0 (pa_cons (pv 4) (pa_cons (pv 1) pa_nil))) (pa_cons pe_str pa_nil)))) pss_nil)
  (pss_cons (ps_expr (pe_bm PySem.F.plainAttrs_list PySem.F.slot_list_extend PySem.F.type_list_extend mt_extend (pv 2) (pa_cons (pe_lc (own := [("pot", 9)]) (g := (gName 9)) (by rfl) sc_rank_row.nd (pi_list (pe_ix (ix_seqK K rfl) (pe_ix (ix_seqK K rfl) (pv 5) pe_int (fun _ _ => by rfl)) pe_int (fun _ _ => by rfl))) (blkOk_by (N := ["work", "wishes", "row", "waiting", "names", "free", "cloth", "pots", "entry", "pot"]) (sc := defScope s_rank_row) (own := [("pot", 9)]) (by decide +kernel)) (fun _ _ _ _ _ => (pg_name (i := 9) sc_rank_row.nd (by rfl) (Or.inl (by rfl)))) (fun _ _ _ _ _ => pts_nil) (fun _ _ _ _ _ => (pe_tup (pa_cons (pe_ix (ix_seqK K rfl) (pe_ix (ix_seqK K rfl) (pv 5) pe_int (fun _ _ => by rfl)) pe_int (fun _ _ => by rfl)) (pa_cons (pv 9) pa_nil))))) pa_nil)))
  (pss_one (ps_expr (pe_bm PySem.F.plainAttrs_list PySem.F.slot_list_remove PySem.F.type_list_remove (mt_removeD hu5) (pv 3) (pa_cons (pe_ix (ix_seqK K rfl) (pv 5) pe_int (fun _ _ => by rfl)) pa_nil)))))))))
  (pss_one (ps_ret (pv 2)))))), run3 h fun B ds M Q3 E3 hs hE => ?_⟩
  obtain ⟨wk, wi, rfl, ok, okw, lk, lw, lp, qk, qn⟩ := hs
  change W3s B _ _ [some (.lst (wk.map eD)), some (.lst (wi.map wD)), none, none, none, none, none, none, none, none] M
  try dsimp only [cxOf, Cx.nox, Cx.wish]
  repeat walk_at "t3"
  refine w_call (dds := [.non]) (fun F => ⟨_, _, rfl, rfl, rfl⟩) hE ?_
  repeat walk_at "t3"
  refine ⟨wk, rfl, lk, fun hf => ?_, fun c hc => qk c hc⟩
  obtain ⟨q, qr⟩ := qn hf
  repeat walk_at "t3"
  refine w_lstO ?_
  repeat walk_at "t3"
  intro p hp
  repeat walk_at "t3"
  refine c3_lstO .fz fun q' hq => ?_
  have hpq : p ≠ q' := fun e => by subst e; rw [mput_same] at hq; cases hq
  have hq0 : M q' = none := by rw [mput_ne (Ne.symm hpq)] at hq; exact hq
  repeat walk_at "t3"
  refine ⟨_, _, rfl, ?_⟩
  repeat walk_at "t3"
  refine s_while (fun m σ' M' => ∃ (ws : List (Str × List Str)) (row : List (Str × Str)) (b4 b5 b6 b7 b8 b9 : Option D), m ≤ 1000 ∧ ws.length = m ∧ rk wi m ws row = ranked wk wi ∧ (∀ e ∈ ws, e ∈ wk) ∧ row.length + potsN ws ≤ 1000 ∧
    σ' = [some (.lst (wk.map eD)), some (.lst (wi.map wD)), some (.ref p), some (.ref q'), b4, b5, b6, b7, b8, b9] ∧ M' = mput (mput M p (.lst (row.map wD))) q' (.lst (ws.map eD))) wk.length ⟨wk, [], none, none, none, none, none, none, lk, rfl, rfl, fun _ h => h, by show 0 + potsN wk ≤ 1000; omega, rfl, rfl⟩ ?_
  rintro m σ' M' ⟨ws, row, b4, b5, b6, b7, b8, b9, m1000, hl, hrk, sub, len, rfl, rfl⟩
  have hmq : mput (mput M p (.lst (row.map wD))) q' (.lst (ws.map eD)) q' = some (.lst (ws.map eD)) := mput_same
  have hmp : mput (mput M p (.lst (row.map wD))) q' (.lst (ws.map eD)) p = some (.lst (row.map wD)) := by rw [mput_ne hpq]; exact mput_same
  have okws : WkOk ws := fun e he => ok e (sub e he)
  have hq1 : mput M p (.lst (row.map wD)) q' = none := by rw [mput_ne (Ne.symm hpq)]; exact hq0
  refine w_tr ?_
  repeat walk_at "t3"
  refine ⟨_, ⟨_, hmq, rfl⟩, ?_⟩
  refine iteB (fun hne => ?_) (fun hemp => ?_)
  case refine_2 =>
    have e0 : ws = [] := by
      cases ws with
      | nil => rfl
      | cons _ _ => cases hemp
    subst e0
    have hl : 0 = m := hl
    subst hl
    show W3s B _ _ _ _
    refine s_vs (vss_lst 2 rfl hmp) ?_
    refine s_vs (vss_drop q') ?_
    repeat walk_at "t3"
    have := q row hrk.symm
    have em : mdel (mdel (mput (mput M p (.lst (row.map wD))) q' (.lst (List.map eD []))) p) q' = M := by
      rw [mput_comm hpq, mdel_mput (by rw [mput_ne hpq]; exact hp), mdel_mput hq0]
    rw [em]
    exact this
  have hne : ws ≠ [] := fun e => by subst e; cases hne
  repeat walk_at "t3"
  refine w_lcP (fun _ => true) (fun d => match d with | .tup [a, _] => a | d => d) (own_tup (own_cons own_name (own_cons own_name own_nil))) (i_listO ?_)
  repeat walk_at "t3"
  refine ⟨_, _, rfl, hmq, ?_⟩
  refine ⟨by rw [List.length_map]; omega, hmq, ?_, ?_⟩
  · intro i d M' hi _
    obtain ⟨⟨c, pots⟩, hab, rfl⟩ := map_at hi
    repeat walk_at "t3"
    refine ⟨rfl, ?_⟩
    repeat walk_at "t3"
    refine ⟨rfl, rfl, fun _ => ?_⟩
    repeat walk_at "t3"
    exact ⟨rfl, rfl⟩
  have en : ((ws.map eD).filter (fun _ => true)).map (fun d => match d with | .tup [a, _] => a | d => d) = (ws.map (·.1)).map D.str := by
    rw [filter_map_eq (f := eD) (q := fun _ => true) (h := fun e => D.str e.1) ws (fun _ _ => rfl) (fun _ _ _ => rfl), List.filter_eq_self.mpr (fun _ _ => rfl), List.map_map]; rfl
  rw [en]
  repeat walk_at "t3"
  refine w_lcP (fun d => match d with | .tup [.str c, _] => (dk c (ws.map (·.1)) wi).isEmpty | _ => false) (fun d => d) own_name (i_listO ?_)
  repeat walk_at "t3"
  refine ⟨_, _, rfl, hmq, ?_⟩
  refine ⟨by rw [List.length_map]; omega, hmq, ?_, ?_⟩
  · intro i d M' hi _
    obtain ⟨⟨c, pots⟩, hab, rfl⟩ := map_at hi
    repeat walk_at "t3"
    refine ⟨rfl, ?_⟩
    repeat walk_at "t3"
    refine r3_ix_t (at3 (j := 0) (by omega) (v := .str c) rfl) ?_
    repeat walk_at "t3"
    refine ⟨c, ws.map (·.1), wi, rfl, (okws _ (List.mem_of_getElem? hab)).1, names_ok okws, okw, lw, ?_⟩
    refine ⟨_, rfl, ?_⟩
    refine ⟨rfl, ?_, fun _ => ?_⟩
    · show (!(!((dk c (ws.map (·.1)) wi).map D.str).isEmpty)) = (dk c (ws.map (·.1)) wi).isEmpty
      rw [List.isEmpty_map, Bool.not_not]
    repeat walk_at "t3"
    exact ⟨rfl, rfl⟩
  have ef : ((ws.map eD).filter (fun d => match d with | .tup [.str c, _] => (dk c (ws.map (·.1)) wi).isEmpty | _ => false)).map (fun d => d) = (freeE wi ws).map eD := by
    rw [filter_map_eq (f := eD) (q := fun e => (dk e.1 (ws.map (·.1)) wi).isEmpty) (h := eD) ws (fun _ _ => rfl) (fun _ _ _ => rfl)]; rfl
  rw [ef]
  repeat walk_at "t3"
  refine iteB (fun hfe => ?_) (fun hfe => ?_)
  · have hfe : freeE wi ws = [] := by
      cases h : freeE wi ws with
      | nil => rfl
      | cons _ _ => rw [h] at hfe; cases hfe
    have hnone : ranked wk wi = none := by
      rw [← hrk, ← hl]
      cases ws with
      | nil => exact absurd rfl hne
      | cons e0 ws0 => show rk wi (ws0.length + 1) _ _ = none; rw [rk, hfe]
    refine s_vs (vss_drop q') ?_
    refine s_vs (vss_drop p) ?_
    rw [mdel_mput hq1, mdel_mput hp]
    refine s_raise (impW_of hE) ?_
    repeat walk_at "t3"
    refine ⟨_, wi, rfl, names_ok okws, okw, lw, by rw [List.length_map]; omega, by simpa using hne, freeE_nil hfe, fun rg hrg => ?_⟩
    repeat walk_at "t3"
    refine ⟨_, _, rfl, qr hnone rg ⟨hrg.1, hrg.2.1, fun x hx => ?_, hrg.2.2.2⟩⟩
    obtain ⟨e, he, rfl⟩ := List.mem_map.mp (hrg.2.2.1 x hx)
    exact mem_names (sub e he)
  obtain ⟨e, fr, hfr⟩ : ∃ x l, freeE wi ws = x :: l := by
    cases h : freeE wi ws with
    | nil => rw [h] at hfe; cases hfe
    | cons x l => exact ⟨x, l, rfl⟩
  have hem : e ∈ ws := (List.mem_filter.mp (show e ∈ freeE wi ws by rw [hfr]; exact List.mem_cons_self ..)).1
  obtain ⟨c, pots⟩ := e
  rw [hfr]
  repeat walk_at "t3"
  refine ⟨.lo hmp, ?_⟩
  repeat walk_at "t3"
  refine w_lcP (fun _ => true) (fun d => .tup [.str c, d]) own_name (i_list ?_)
  repeat walk_at "t3"
  refine r3_ix_l .fz (at3 (j := 0) (by omega) (v := eD (c, pots)) rfl) ?_
  repeat walk_at "t3"
  refine r3_ix_t (at3 (j := 1) (by omega) (v := .lst (pots.map .str)) rfl) ?_
  repeat walk_at "t3"
  have hpt : pots.length ≤ 1000 := by
    have := potsN_erase hem
    have : (c, pots).2.length = pots.length := rfl
    omega
  refine ⟨by rw [List.length_map]; omega, trivial, ?_, ?_⟩
  · intro i d M' hi _
    repeat walk_at "t3"
    refine ⟨rfl, ?_⟩
    repeat walk_at "t3"
    refine ⟨rfl, rfl, fun _ => ?_⟩
    repeat walk_at "t3"
    refine r3_ix_l .fz (at3 (j := 0) (by omega) (v := eD (c, pots)) rfl) ?_
    repeat walk_at "t3"
    refine r3_ix_t (at3 (j := 0) (by omega) (v := .str c) rfl) ?_
    repeat walk_at "t3"
    exact ⟨rfl, rfl⟩
  have ep : ((pots.map D.str).filter (fun _ => true)).map (fun d => D.tup [.str c, d]) = (pots.map (fun x => (c, x))).map wD := by
    rw [List.filter_eq_self.mpr (fun _ _ => rfl), List.map_map, List.map_map]; rfl
  rw [ep]
  have hlp := potsN_erase hem
  have hlp : potsN (ws.erase (c, pots)) + pots.length = potsN ws := hlp
  repeat walk_at "t3"
  refine m3_extend hmp .fz (by rw [List.length_map, List.length_map, List.length_map]; omega) ?_
  rw [mput3 hpq, ← List.map_append]
  have hmq2 : mput (mput M p (.lst ((row ++ pots.map (fun x => (c, x))).map wD))) q' (.lst (ws.map eD)) q' = some (.lst (ws.map eD)) := mput_same
  repeat walk_at "t3"
  refine ⟨.lo hmq2, ?_⟩
  repeat walk_at "t3"
  refine r3_ix_l .fz (at3 (j := 0) (by omega) (v := eD (c, pots)) rfl) ?_
  repeat walk_at "t3"
  have hidx : ws.idxOf (c, pots) < ws.length := List.idxOf_lt_length_of_mem hem
  have hj : ws[ws.idxOf (c, pots)]? = some (c, pots) := by rw [List.getElem?_eq_getElem hidx, List.getElem_idxOf]
  refine m3_remove (n := 2) (m := 2) (j := ws.idxOf (c, pots)) (z := eD (c, pots)) hmq2 (okDs_wk okws) (okD_e (okws _ hem)) (by rw [List.getElem?_map, hj]; rfl) (by rw [pq_eD]; simp) (fun i z' hi hz => ?_) ?_
  · obtain ⟨e', hs, rfl⟩ := map_at hz
    rw [pq_eD]
    refine decide_eq_false fun e => ?_
    subst e
    obtain ⟨h1, h2⟩ := List.getElem?_eq_some_iff.mp hs
    have := List.not_of_lt_findIdx (p := (· == (c, pots))) (xs := ws) hi
    simp [h2] at this
  · have ee : (ws.map eD).eraseIdx (ws.idxOf (c, pots)) = (ws.erase (c, pots)).map eD := by
      rw [show ws.erase (c, pots) = ws.eraseIdx (ws.idxOf (c, pots)) from by rw [List.erase_eq_eraseIdx_of_idxOf]; rfl]
      exact map_eraseIdx _ _ _
    rw [ee, mput_mput]
    repeat walk_at "t3"
    have wpos : 0 < ws.length := List.length_pos_iff.mpr hne
    have hl2 : (ws.erase (c, pots)).length = m - 1 := by rw [List.length_erase_of_mem hem, hl]
    refine ⟨m - 1, by omega, ws.erase (c, pots), row ++ pots.map (fun x => (c, x)), _, _, _, _, _, _, by omega, hl2, ?_, fun e he => sub e (List.mem_of_mem_erase he), by rw [List.length_append, List.length_map]; omega, rfl, rfl⟩
    rw [← hrk]
    conv => rhs; rw [show m = (m - 1) + 1 by omega, rk, hfr]
end
end LW
set_option Elab.async false
set_option linter.all false
set_option maxRecDepth 100000
set_option maxHeartbeats 4000000
namespace LW
open PySem L2 T3
open Evl (Ex)
local macro_rules | `(tactic| walk_at "t3") => `(tactic| first
  | (with_reducible refine s_seq ?_) | (with_reducible refine s_asg ?_) | (with_reducible refine s_if ?_) | (with_reducible refine s_ret ?_) | (with_reducible refine s_drop ?_) | (with_reducible refine s_asgG ?_) | (with_reducible refine s_retN ?_)
  | (with_reducible refine s_next ?_) | (with_reducible refine s_brk ?_) | (with_reducible refine s_cont ?_) | (with_reducible refine s_par ?_) | (with_reducible refine s_fld ?_)
  | ((with_reducible refine' w_var ?hx ?_); (case hx => exact rfl)) | (with_reducible refine w_cI ?_) | (with_reducible refine w_cB ?_) | (with_reducible refine w_cS ?_) | (with_reducible refine w_cN ?_) | (with_reducible refine w_cT ?_) | (with_reducible refine w_cR ?_)
  | (with_reducible refine w_op ?_) | (with_reducible refine w_un ?_) | (with_reducible refine w_nil ?_) | (with_reducible refine w_tup ?_) | (with_reducible refine w_cons ?_) | (with_reducible refine w_cb ?_) | (with_reducible refine w_bm0 ?_) | (with_reducible refine w_bm ?_)
  | (with_reducible refine w_test ?_) | (with_reducible refine w_B ?_) | (with_reducible refine w_notT ?_) | (with_reducible refine w_yes ?_) | (with_reducible refine w_notV ?_)
  | (with_reducible refine w_ifE ?_) | (with_reducible refine w_isN ?_) | (with_reducible refine w_notN ?_) | (with_reducible refine w_tr ?_) | (with_reducible refine w_chain ?_) | (with_reducible refine w_fld ?_) | (with_reducible refine w_sl ?_) | (with_reducible refine o_no ?_) | (with_reducible refine o_some ?_)
  | (with_reducible refine w_call0 ?_) | (with_reducible refine g_name ?_) | ((with_reducible refine' g_tup ?hx ?hy ?_); (case hx => exact rfl); (case hy => exact rfl)) | (with_reducible refine g_cons ?_) | (with_reducible refine g_nil ?_) | (with_reducible refine g_set ?_)
  | (with_reducible refine r3_add_ii ?_) | (with_reducible refine r3_sub ?_) | (with_reducible refine r3_lt ?_) | (with_reducible refine r3_le ?_) | (with_reducible refine r3_gt ?_) | (with_reducible refine r3_ge ?_) | (with_reducible refine u3_neg ?_)
  | (with_reducible refine c3_int_i ?_) | (with_reducible refine c3_int_b ?_) | (with_reducible refine c3_abs ?_) | (with_reducible refine c3_len_t ?_) | (with_reducible refine c3_len .fz ?_) | (with_reducible refine c3_max2 ?_) | (with_reducible refine c3_min2 ?_)
  | (with_reducible refine r3_eq (n := 9) (m := 9) okD_int okD_int ?_) | (with_reducible refine r3_ne (n := 9) (m := 9) okD_int okD_int ?_)
  | ((with_reducible refine' Exists.intro _ (And.intro ?hx ?_)); (case hx => exact rfl))
  | ((with_reducible refine' And.intro ?hx ?_); (case hx => (show List.length _ ≤ 100000); exact Nat.le_of_ble_eq_true rfl)))

section
variable {P : Program} {w : World} {K : PySem.W.Frag} {mg : Str → Option Value} {base : Heap} {A0 : Adr}

def S_ranked : Sp3 := fun ds M Q E => ∃ (wk : List (Str × List Str)) (wi : List (Str × Str)), ds = [.lst (wk.map eD), .lst (wi.map wD)] ∧ WkOk wk ∧ WiOk wi ∧ wk.length ≤ 1000 ∧ wi.length ≤ 1000 ∧ potsN wk ≤ 1000 ∧
  Q (match ranked wk wi with | some row => .lst (row.map wD) | none => .non) M
theorem ok_ranked (T : Tx P K mg A0) : FnOk P w K mg base CX0 1 A0.f_ranked A0.d_ranked ["_law_work", "_law_wishes"] (lift3 S_ranked) := by
  refine T.F_ranked.ok sc_ranked (lift3_len fun ds M Q E ⟨a, b, h, _⟩ => by rw [h]; rfl) (fun cdv A outer s H vs Q E hr h => ?_)
  have hu := hr.units
  have hu5 := units65 hr
  refine ⟨_, (pss_cons (ps_set (i := 2) sc_ranked.nd (by rfl) (Or.inl (by rfl)) (pe_callTy (call_lstK K rfl) (by rfl) T.n_list (by decide +kernel) (pa_cons (pv 0) pa_nil)))
  (pss_cons (ps_set (i := 3) sc_ranked.nd (by rfl) (Or.inl (by rfl)) (pe_lst pa_nil))
  (pss_cons (ps_for PassesOwn.never (by rfl) (pi_range1 (by rfl) T.n_range (pa_cons (pe_callB (call_lenK K rfl) (by rfl) T.n_len PySem.boot_len (pa_cons (pv 0) pa_nil)) pa_nil)) (pg_name (i := 4) sc_ranked.nd (by rfl) (Or.inl (by rfl))) (pss_cons (ps_set (i := 5) sc_ranked.nd (by rfl) (Or.inr (by rfl)) (pe_lc (own := [("_law_entry", 8)]) (g := (gName 8)) (by rfl) sc_ranked.nd (pi_list (pv 2)) (blkOk_by (N := ["_law_work", "_law_wishes", "_law_waiting", "_law_row", "_law_k", "_law_names_here", "_law_barred", "_law_free", "_law_entry", "_law_wish", "_law_vat"]) (sc := defScope s_ranked) (own := [("_law_entry", 8)]) (by decide +kernel)) (fun _ _ _ _ _ => (pg_name (i := 8) sc_ranked.nd (by rfl) (Or.inl (by rfl)))) (fun _ _ _ _ _ => pts_nil) (fun _ _ _ _ _ => (pe_ix (ix_seqK K rfl) (pv 8) pe_int (fun _ _ => by rfl)))))
  (pss_cons (ps_set (i := 6) sc_ranked.nd (by rfl) (Or.inr (by rfl)) (pe_lc (own := [("_law_wish", 9)]) (g := (gName 9)) (by rfl) sc_ranked.nd (pi_list (pv 1)) (blkOk_by (N := ["_law_work", "_law_wishes", "_law_waiting", "_law_row", "_law_k", "_law_names_here", "_law_barred", "_law_free", "_law_entry", "_law_wish", "_law_vat"]) (sc := defScope s_ranked) (own := [("_law_wish", 9)]) (by decide +kernel)) (fun _ _ _ _ _ => (pg_name (i := 9) sc_ranked.nd (by rfl) (Or.inl (by rfl)))) (fun _ _ _ _ _ => pts_one (pt_cmpR (op_INK K P w rfl rfl rfl hu5) (pe_ix (ix_seqK K rfl) (pv 9) pe_int (fun _ _ => by rfl)) (pv 5) (by rfl))) (fun _ _ _ _ _ => (pe_ix (ix_seqK K rfl) (pv 9) pe_int (fun _ _ => by rfl)))))
  (pss_cons (ps_set (i := 7) sc_ranked.nd (by rfl) (Or.inr (by rfl)) (pe_lc (own := [("_law_entry", 8)]) (g := (gName 8)) (by rfl) sc_ranked.nd (pi_list (pv 2)) (blkOk_by (N := ["_law_work", "_law_wishes", "_law_waiting", "_law_row", "_law_k", "_law_names_here", "_law_barred", "_law_free", "_law_entry", "_law_wish", "_law_vat"]) (sc := defScope s_ranked) (own := [("_law_entry", 8)]) (by decide +kernel)) (fun _ _ _ _ _ => (pg_name (i := 8) sc_ranked.nd (by rfl) (Or.inl (by rfl)))) (fun _ _ _ _ _ => pts_one (pt_cmpR (op_NINK K P w rfl rfl rfl hu5) (pe_ix (ix_seqK K rfl) (pv 8) pe_int (fun _ _ => by rfl)) (pv 6) (by rfl))) (fun _ _ _ _ _ => (pv 8))))
  (pss_cons (ps_if (pt_cmpR (op_eqDK K rfl hu) (pv 7) (pe_lst pa_nil) (nomark _)) (pss_one (ps_ret pe_non)) pss_nil)
  (pss_cons (ps_expr (pe_bm PySem.F.plainAttrs_list PySem.F.slot_list_extend PySem.F.type_list_extend mt_extend (pv 3) (pa_cons (pe_lc (own := [("_law_vat", 10)]) (g := (gName 10)) (by rfl) sc_ranked.nd (pi_list (pe_ix (ix_seqK K rfl) (pe_ix (ix_seqK K rfl) (pv 7) pe_int (fun _ _ => by rfl)) pe_int (fun _ _ => by rfl))) (blkOk_by (N := ["_law_work", "_law_wishes", "_law_waiting", "_law_row", "_law_k", "_law_names_here", "_law_barred", "_law_free", "_law_entry", "_law_wish", "_law_vat"]) (sc := defScope s_ranked) (own := [("_law_vat", 10)]) (by decide +kernel)) (fun _ _ _ _ _ => (pg_name (i := 10) sc_ranked.nd (by rfl) (Or.inl (by rfl)))) (fun _ _ _ _ _ => pts_nil) (fun _ _ _ _ _ => (pe_tup (pa_cons (pe_ix (ix_seqK K rfl) (pe_ix (ix_seqK K rfl) (pv 7) pe_int (fun _ _ => by rfl)) pe_int (fun _ _ => by rfl)) (pa_cons (pv 10) pa_nil))))) pa_nil)))
  (pss_one (ps_expr (pe_bm PySem.F.plainAttrs_list PySem.F.slot_list_remove PySem.F.type_list_remove (mt_removeD hu5) (pv 2) (pa_cons (pe_ix (ix_seqK K rfl) (pv 7) pe_int (fun _ _ => by rfl)) pa_nil))))))))))
  (pss_one (ps_ret (pv 3)))))), run3 h fun B ds M Q3 E3 hs hE => ?_⟩
  obtain ⟨wk, wi, rfl, ok, okw, lk, lw, lp, q⟩ := hs
  change W3s B _ _ [some (.lst (wk.map eD)), some (.lst (wi.map wD)), none, none, none, none, none, none, none, none, none] M
  try dsimp only [cxOf, Cx.nox, Cx.wish]
  repeat walk_at "t3"
  refine c3_lstO .fz fun q' hq0 => ?_
  repeat walk_at "t3"
  refine w_lstO ?_
  repeat walk_at "t3"
  intro p hp'
  have hpq : p ≠ q' := fun e => by subst e; rw [mput_same] at hp'; cases hp'
  have hp : M p = none := by rw [mput_ne hpq] at hp'; exact hp'
  rw [← mput_comm hpq]
  repeat walk_at "t3"
  refine s_for (i_rng1 ?_)
  repeat walk_at "t3"
  refine ⟨by omega, by rw [List.length_map]; omega, fun i σ' M' => ∃ (ws : List (Str × List Str)) (row : List (Str × Str)) (b4 b5 b6 b7 b8 b9 b10 : Option D), i ≤ wk.length ∧ ws.length = wk.length - i ∧ rk wi (wk.length - i) ws row = ranked wk wi ∧ (∀ e ∈ ws, e ∈ wk) ∧ row.length + potsN ws ≤ 1000 ∧
    σ' = [some (.lst (wk.map eD)), some (.lst (wi.map wD)), some (.ref q'), some (.ref p), b4, b5, b6, b7, b8, b9, b10] ∧ M' = mput (mput M p (.lst (row.map wD))) q' (.lst (ws.map eD)), fun _ _ _ _ => trivial, ⟨wk, [], none, none, none, none, none, none, none, Nat.zero_le _, rfl, rfl, fun _ h => h, by show 0 + potsN wk ≤ 1000; omega, rfl, rfl⟩, ?_, ?_⟩
  case refine_2 =>
    rintro σ' M' ⟨ws, row, b4, b5, b6, b7, b8, b9, b10, _, hl, hrk, sub, len, rfl, rfl⟩
    have hmp : mput (mput M p (.lst (row.map wD))) q' (.lst (ws.map eD)) p = some (.lst (row.map wD)) := by rw [mput_ne hpq]; exact mput_same
    have em : mdel (mdel (mput (mput M p (.lst (row.map wD))) q' (.lst (ws.map eD))) p) q' = M := by
      rw [mput_comm hpq, mdel_mput (by rw [mput_ne hpq]; exact hp), mdel_mput hq0]
    simp only [List.length_map, List.length_range, Int.toNat_natCast, Nat.sub_self] at hrk
    show W3s B _ _ _ _
    refine s_vs (vss_lst 3 rfl hmp) ?_
    refine s_vs (vss_drop q') ?_
    rw [em]
    repeat walk_at "t3"
    rw [← hrk] at q
    exact q
  rintro i d σ' M' hi ⟨ws, row, b4, b5, b6, b7, b8, b9, b10, _, hl, hrk, sub, len, rfl, rfl⟩
  have hi' : i < wk.length := by
    have := (List.getElem?_eq_some_iff.mp hi).1
    simpa using this
  have hmq : mput (mput M p (.lst (row.map wD))) q' (.lst (ws.map eD)) q' = some (.lst (ws.map eD)) := mput_same
  have hmp : mput (mput M p (.lst (row.map wD))) q' (.lst (ws.map eD)) p = some (.lst (row.map wD)) := by rw [mput_ne hpq]; exact mput_same
  have okws : WkOk ws := fun e he => ok e (sub e he)
  have hq1 : mput M p (.lst (row.map wD)) q' = none := by rw [mput_ne (Ne.symm hpq)]; exact hq0
  repeat walk_at "t3"
  refine w_lcP (fun _ => true) (fun d => match d with | .tup [a, _] => a | d => d) own_name (i_listO ?_)
  repeat walk_at "t3"
  refine ⟨_, _, rfl, hmq, ?_⟩
  refine ⟨by rw [List.length_map]; omega, hmq, ?_, ?_⟩
  · intro i d M' hi _
    obtain ⟨⟨c, pots⟩, hab, rfl⟩ := map_at hi
    repeat walk_at "t3"
    refine ⟨rfl, ?_⟩
    repeat walk_at "t3"
    refine ⟨rfl, rfl, fun _ => ?_⟩
    repeat walk_at "t3"
    refine r3_ix_t (at3 (j := 0) (by omega) (v := .str c) rfl) ?_
    exact ⟨rfl, rfl⟩
  have en : ((ws.map eD).filter (fun _ => true)).map (fun d => match d with | .tup [a, _] => a | d => d) = (ws.map (·.1)).map D.str := by
    rw [filter_map_eq (f := eD) (q := fun _ => true) (h := fun e => D.str e.1) ws (fun _ _ => rfl) (fun _ _ _ => rfl), List.filter_eq_self.mpr (fun _ _ => rfl), List.map_map]; rfl
  rw [en]
  repeat walk_at "t3"
  refine w_lcP (fun d => match d with | .tup [.str a, _] => (ws.map (·.1)).contains a | _ => false) (fun d => match d with | .tup [_, b] => b | d => d) own_name (i_list ?_)
  repeat walk_at "t3"
  refine ⟨by rw [List.length_map]; omega, trivial, ?_, ?_⟩
  · intro i d M' hi _
    obtain ⟨⟨a, b⟩, hab, rfl⟩ := map_at hi
    have ok2 := okw _ (List.mem_of_getElem? hab)
    repeat walk_at "t3"
    refine ⟨rfl, ?_⟩
    repeat walk_at "t3"
    refine r3_ix_t (at3 (j := 0) (by omega) (v := .str a) rfl) ?_
    repeat walk_at "t3"
    refine r3_in (n := 9) (m := 9) .fz (okD_S ok2.1) (okDs_S (names_ok okws)) ?_
    rw [any_strs]
    refine ⟨_, rfl, rfl, rfl, fun _ => ?_⟩
    repeat walk_at "t3"
    refine r3_ix_t (at3 (j := 1) (by omega) (v := .str b) rfl) ?_
    exact ⟨rfl, rfl⟩
  have eb : ((wi.map wD).filter (fun d => match d with | .tup [.str a, _] => (ws.map (·.1)).contains a | _ => false)).map (fun d => match d with | .tup [_, b] => b | d => d) = (((wi.filter fun w => (ws.map (·.1)).contains w.1)).map (·.2)).map D.str := by
    rw [filter_map_eq (f := wD) (q := fun w => (ws.map (·.1)).contains w.1) (h := fun w => D.str w.2) wi (fun _ _ => rfl) (fun _ _ _ => rfl), List.map_map]; rfl
  rw [eb]
  have okb : ∀ s ∈ ((wi.filter fun w => (ws.map (·.1)).contains w.1)).map (·.2), okT s := fun s hs => by
    obtain ⟨x, hx, rfl⟩ := List.mem_map.mp hs
    exact (okw x (List.mem_filter.mp hx).1).2
  repeat walk_at "t3"
  refine w_lcP (fun d => match d with | .tup [.str c, _] => (dk c (ws.map (·.1)) wi).isEmpty | _ => false) (fun d => d) own_name (i_listO ?_)
  repeat walk_at "t3"
  refine ⟨_, _, rfl, hmq, ?_⟩
  refine ⟨by rw [List.length_map]; omega, hmq, ?_, ?_⟩
  · intro i d M' hi _
    obtain ⟨⟨c, pots⟩, hab, rfl⟩ := map_at hi
    repeat walk_at "t3"
    refine ⟨rfl, ?_⟩
    repeat walk_at "t3"
    refine r3_ix_t (at3 (j := 0) (by omega) (v := .str c) rfl) ?_
    repeat walk_at "t3"
    refine r3_in (n := 9) (m := 9) .fz (okD_S (okws _ (List.mem_of_getElem? hab)).1) (okDs_S okb) ?_
    rw [any_strs]
    refine ⟨_, rfl, rfl, ?_, fun _ => ?_⟩
    · exact (dk_empty c (ws.map (fun x => x.1)) wi).symm
    repeat walk_at "t3"
    exact ⟨rfl, rfl⟩
  have ef : ((ws.map eD).filter (fun d => match d with | .tup [.str c, _] => (dk c (ws.map (·.1)) wi).isEmpty | _ => false)).map (fun d => d) = (freeE wi ws).map eD := by
    rw [filter_map_eq (f := eD) (q := fun e => (dk e.1 (ws.map (·.1)) wi).isEmpty) (h := eD) ws (fun _ _ => rfl) (fun _ _ _ => rfl)]; rfl
  rw [ef]
  have okf : WkOk (freeE wi ws) := fun e he => okws e (List.mem_filter.mp he).1
  repeat walk_at "t3"
  refine w_lst ?_
  repeat walk_at "t3"
  refine r3_eq (n := 3) (m := 3) (x := .lst ((freeE wi ws).map eD)) (y := .lst []) (okDs_wk okf) rfl ?_
  repeat walk_at "t3"
  refine iteB (fun hfe => ?_) (fun hfe => ?_)
  · have hfe : freeE wi ws = [] := by
      cases h : freeE wi ws with
      | nil => rfl
      | cons _ _ => rw [h] at hfe; cases hfe
    have hnone : ranked wk wi = none := by
      rw [← hrk, show wk.length - i = (wk.length - i - 1) + 1 by omega, rk, hfe]
    refine s_vs (vss_drop q') ?_
    refine s_vs (vss_drop p) ?_
    rw [mdel_mput hq1, mdel_mput hp]
    repeat walk_at "t3"
    rw [hnone] at q
    exact q
  obtain ⟨e, fr, hfr⟩ : ∃ x l, freeE wi ws = x :: l := by
    cases h : freeE wi ws with
    | nil => rw [h] at hfe; cases hfe
    | cons x l => exact ⟨x, l, rfl⟩
  have hem : e ∈ ws := (List.mem_filter.mp (show e ∈ freeE wi ws by rw [hfr]; exact List.mem_cons_self ..)).1
  obtain ⟨c, pots⟩ := e
  rw [hfr]
  repeat walk_at "t3"
  refine ⟨.lo hmp, ?_⟩
  repeat walk_at "t3"
  refine w_lcP (fun _ => true) (fun d => .tup [.str c, d]) own_name (i_list ?_)
  repeat walk_at "t3"
  refine r3_ix_l .fz (at3 (j := 0) (by omega) (v := eD (c, pots)) rfl) ?_
  repeat walk_at "t3"
  refine r3_ix_t (at3 (j := 1) (by omega) (v := .lst (pots.map .str)) rfl) ?_
  repeat walk_at "t3"
  have hpt : pots.length ≤ 1000 := by
    have := potsN_erase hem
    have : (c, pots).2.length = pots.length := rfl
    omega
  refine ⟨by rw [List.length_map]; omega, trivial, ?_, ?_⟩
  · intro i d M' hi _
    repeat walk_at "t3"
    refine ⟨rfl, ?_⟩
    repeat walk_at "t3"
    refine ⟨rfl, rfl, fun _ => ?_⟩
    repeat walk_at "t3"
    refine r3_ix_l .fz (at3 (j := 0) (by omega) (v := eD (c, pots)) rfl) ?_
    repeat walk_at "t3"
    refine r3_ix_t (at3 (j := 0) (by omega) (v := .str c) rfl) ?_
    repeat walk_at "t3"
    exact ⟨rfl, rfl⟩
  have ep : ((pots.map D.str).filter (fun _ => true)).map (fun d => D.tup [.str c, d]) = (pots.map (fun x => (c, x))).map wD := by
    rw [List.filter_eq_self.mpr (fun _ _ => rfl), List.map_map, List.map_map]; rfl
  rw [ep]
  have hlp := potsN_erase hem
  have hlp : potsN (ws.erase (c, pots)) + pots.length = potsN ws := hlp
  repeat walk_at "t3"
  refine m3_extend hmp .fz (by rw [List.length_map, List.length_map, List.length_map]; omega) ?_
  rw [mput3 hpq, ← List.map_append]
  have hmq2 : mput (mput M p (.lst ((row ++ pots.map (fun x => (c, x))).map wD))) q' (.lst (ws.map eD)) q' = some (.lst (ws.map eD)) := mput_same
  repeat walk_at "t3"
  refine ⟨.lo hmq2, ?_⟩
  repeat walk_at "t3"
  refine r3_ix_l .fz (at3 (j := 0) (by omega) (v := eD (c, pots)) rfl) ?_
  repeat walk_at "t3"
  have hidx : ws.idxOf (c, pots) < ws.length := List.idxOf_lt_length_of_mem hem
  have hj : ws[ws.idxOf (c, pots)]? = some (c, pots) := by rw [List.getElem?_eq_getElem hidx, List.getElem_idxOf]
  refine m3_remove (n := 2) (m := 2) (j := ws.idxOf (c, pots)) (z := eD (c, pots)) hmq2 (okDs_wk okws) (okD_e (okws _ hem)) (by rw [List.getElem?_map, hj]; rfl) (by rw [pq_eD]; simp) (fun i z' hi hz => ?_) ?_
  · obtain ⟨e', hs, rfl⟩ := map_at hz
    rw [pq_eD]
    refine decide_eq_false fun e => ?_
    subst e
    obtain ⟨h1, h2⟩ := List.getElem?_eq_some_iff.mp hs
    have := List.not_of_lt_findIdx (p := (· == (c, pots))) (xs := ws) hi
    simp [h2] at this
  · have ee : (ws.map eD).eraseIdx (ws.idxOf (c, pots)) = (ws.erase (c, pots)).map eD := by
      rw [show ws.erase (c, pots) = ws.eraseIdx (ws.idxOf (c, pots)) from by rw [List.erase_eq_eraseIdx_of_idxOf]; rfl]
      exact map_eraseIdx _ _ _
    rw [ee, mput_mput]
    have hl2 : (ws.erase (c, pots)).length = wk.length - (i + 1) := by rw [List.length_erase_of_mem hem, hl]; omega
    refine ⟨ws.erase (c, pots), row ++ pots.map (fun x => (c, x)), _, _, _, _, _, _, _, by omega, hl2, ?_, fun e he => sub e (List.mem_of_mem_erase he), by rw [List.length_append, List.length_map]; omega, rfl, rfl⟩
    rw [← hrk]
    conv => rhs; rw [show wk.length - i = (wk.length - (i + 1)) + 1 by omega, rk, hfr]
end
end LW
set_option Elab.async false
set_option linter.all false
set_option maxRecDepth 100000
set_option maxHeartbeats 4000000
namespace LW
open PySem L2 T3
open Evl (Ex)
local macro_rules | `(tactic| walk_at "t3") => `(tactic| first
  | (with_reducible refine s_seq ?_) | (with_reducible refine s_asg ?_) | (with_reducible refine s_if ?_) | (with_reducible refine s_ret ?_) | (with_reducible refine s_drop ?_) | (with_reducible refine s_asgG ?_) | (with_reducible refine s_retN ?_)
  | (with_reducible refine s_next ?_) | (with_reducible refine s_brk ?_) | (with_reducible refine s_cont ?_) | (with_reducible refine s_par ?_) | (with_reducible refine s_fld ?_)
  | ((with_reducible refine' w_var ?hx ?_); (case hx => exact rfl)) | (with_reducible refine w_cI ?_) | (with_reducible refine w_cB ?_) | (with_reducible refine w_cS ?_) | (with_reducible refine w_cN ?_) | (with_reducible refine w_cT ?_) | (with_reducible refine w_cR ?_)
  | (with_reducible refine w_op ?_) | (with_reducible refine w_un ?_) | (with_reducible refine w_nil ?_) | (with_reducible refine w_tup ?_) | (with_reducible refine w_cons ?_) | (with_reducible refine w_cb ?_) | (with_reducible refine w_bm0 ?_) | (with_reducible refine w_bm ?_)
  | (with_reducible refine w_test ?_) | (with_reducible refine w_B ?_) | (with_reducible refine w_notT ?_) | (with_reducible refine w_yes ?_) | (with_reducible refine w_notV ?_)
  | (with_reducible refine w_ifE ?_) | (with_reducible refine w_isN ?_) | (with_reducible refine w_notN ?_) | (with_reducible refine w_tr ?_) | (with_reducible refine w_chain ?_) | (with_reducible refine w_fld ?_) | (with_reducible refine w_sl ?_) | (with_reducible refine o_no ?_) | (with_reducible refine o_some ?_)
  | (with_reducible refine w_call0 ?_) | (with_reducible refine g_name ?_) | ((with_reducible refine' g_tup ?hx ?hy ?_); (case hx => exact rfl); (case hy => exact rfl)) | (with_reducible refine g_cons ?_) | (with_reducible refine g_nil ?_) | (with_reducible refine g_set ?_)
  | (with_reducible refine r3_add_ii ?_) | (with_reducible refine r3_sub ?_) | (with_reducible refine r3_lt ?_) | (with_reducible refine r3_le ?_) | (with_reducible refine r3_gt ?_) | (with_reducible refine r3_ge ?_) | (with_reducible refine u3_neg ?_)
  | (with_reducible refine c3_int_i ?_) | (with_reducible refine c3_int_b ?_) | (with_reducible refine c3_abs ?_) | (with_reducible refine c3_len_t ?_) | (with_reducible refine c3_len .fz ?_) | (with_reducible refine c3_max2 ?_) | (with_reducible refine c3_min2 ?_)
  | (with_reducible refine r3_eq (n := 9) (m := 9) okD_int okD_int ?_) | (with_reducible refine r3_ne (n := 9) (m := 9) okD_int okD_int ?_)
  | ((with_reducible refine' Exists.intro _ (And.intro ?hx ?_)); (case hx => exact rfl))
  | ((with_reducible refine' And.intro ?hx ?_); (case hx => (show List.length _ ≤ 100000); exact Nat.le_of_ble_eq_true rfl)))

section
variable {P : Program} {w : World} {K : PySem.W.Frag} {mg : Str → Option Value} {base : Heap} {A0 : Adr}

def S_is_ring : Sp3 := fun ds M Q E => ∃ (rg : List Str) (wk : List (Str × List Str)) (wi : List (Str × Str)), ds = [.lst (rg.map .str), .lst (wk.map eD), .lst (wi.map wD)] ∧ WkOk wk ∧ WiOk wi ∧ wk.length ≤ 1000 ∧ wi.length ≤ 1000 ∧ rg.length ≤ 1000 ∧
  IsRing rg (wk.map (·.1)) wi ∧ Q (.bl true) M
theorem nodup_count {rg : List Str} (h : rg.Nodup) {x : Str} (hx : x ∈ rg) : (rg.map D.str).countP (fun z => peq z (.str x)) = 1 := by
  rw [List.countP_map]
  have e : ((fun z => peq z (.str x)) ∘ D.str) = fun y => y == x := by
    funext y; show peq (.str y) (.str x) = _; rw [pq_str]; rfl
  rw [e]
  show rg.count x = 1
  exact Nat.le_antisymm (List.nodup_iff_count.mp h x) (List.count_pos_iff.mpr hx)
theorem ok_is_ring (T : Tx P K mg A0) : FnOk P w K mg base CX0 1 A0.f_is_ring A0.d_is_ring ["_law_ring", "_law_work", "_law_wishes"] (lift3 S_is_ring) := by
  refine T.F_is_ring.ok sc_is_ring (lift3_len fun ds M Q E ⟨a, b, c, h, _⟩ => by rw [h]; rfl) (fun cdv A outer s H vs Q E hr h => ?_)
  have hu := hr.units
  have hu5 := units65 hr
  refine ⟨_, (pss_cons (ps_if (PW.pt (pw_or (pt_not (pt_truthK K rfl (pe_callB (call_ISIK K rfl) (by rfl) T.n_isinstance (by decide +kernel) (pa_cons (pv 0) (pa_cons (pe_bltn (v := .ty "list") (by rfl) T.n_list (by decide +kernel) rfl) pa_nil))) (by intro _; rfl))) (pw_or1 (pt_cmpR (op_eqDK K rfl hu) (pv 0) (pe_lst pa_nil) (nomark _))))) (pss_one (ps_ret pe_bl)) pss_nil)
  (pss_cons (ps_setLc (i := 3) (own := [("_law_entry", 5)]) (g := (gName 5)) (by rfl) sc_is_ring.nd (by rfl) (by rfl) (sw_true (by rfl) (by rfl) (by rfl) (by decide +kernel)) (pi_list (pv 1)) (blkOk_by (N := ["_law_ring", "_law_work", "_law_wishes", "_law_names_here", "_law_k", "_law_entry"]) (sc := defScope s_is_ring) (own := [("_law_entry", 5)]) (by decide +kernel)) (fun _ _ _ _ _ => (pg_name (i := 5) sc_is_ring.nd (by rfl) (Or.inl (by rfl)))) (fun _ _ _ _ _ => pts_nil) (fun _ _ _ _ _ => (pe_ix (ix_seqK K rfl) (pv 5) pe_int (fun _ _ => by rfl))))
  (pss_cons (ps_for PassesOwn.never (by rfl) (pi_range1 (by rfl) T.n_range (pa_cons (pe_callB (call_lenK K rfl) (by rfl) T.n_len PySem.boot_len (pa_cons (pv 0) pa_nil)) pa_nil)) (pg_name (i := 4) sc_is_ring.nd (by rfl) (Or.inl (by rfl))) (pss_one (ps_if (PW.pt (pw_or (pt_cmpR (op_NINK K P w rfl rfl rfl hu5) (pe_ix (ix_seqK K rfl) (pv 0) (pv 4) (fun _ _ => by rfl)) (pv 3) (by rfl)) (pw_or (pt_cmpR (op_neDK K rfl hu) (pe_bm PySem.F.plainAttrs_list PySem.F.slot_list_count PySem.F.type_list_count (mt_countD hu5) (pv 0) (pa_cons (pe_ix (ix_seqK K rfl) (pv 0) (pv 4) (fun _ _ => by rfl)) pa_nil)) pe_int (nomark _)) (pw_or1 (pt_cmpR (op_NINK K P w rfl rfl rfl hu5) (pe_tup (pa_cons (pe_ix (ix_seqK K rfl) (pv 0) (pe_op op_sub (pv 4) pe_int) (fun _ _ => by rfl)) (pa_cons (pe_ix (ix_seqK K rfl) (pv 0) (pv 4) (fun _ _ => by rfl)) pa_nil))) (pv 2) (by rfl)))))) (pss_one (ps_ret pe_bl)) pss_nil)))
  (pss_one (ps_ret pe_bl))))), run3 h fun B ds M Q3 E3 hs hE => ?_⟩
  obtain ⟨rg, wk, wi, rfl, ok, okw, lk, lw, lr, ⟨r0, rn, rs, rc⟩, q⟩ := hs
  change W3s B _ _ [some (.lst (rg.map .str)), some (.lst (wk.map eD)), some (.lst (wi.map wD)), none, none, none] M
  try dsimp only [cxOf, Cx.nox, Cx.wish]
  have okr : ∀ s ∈ rg, okT s := fun s hs => names_ok ok s (rs s hs)
  refine s_seqM (fun σ' M' => σ' = [some (.lst (rg.map .str)), some (.lst (wk.map eD)), some (.lst (wi.map wD)), none, none, none] ∧ M' = M) ?_ ?_
  · refine s_if (w_orTP (a := false) (b := false) ?_ (fun _ => ?_) ?_)
    · repeat walk_at "t3"
      refine c3_ISI rfl T.kit_ll ?_
      repeat walk_at "t3"
      exact ⟨rfl, rfl⟩
    · repeat walk_at "t3"
      refine w_lst ?_
      repeat walk_at "t3"
      refine r3_eq (n := 3) (m := 3) (x := .lst (rg.map .str)) (y := .lst []) (okDs_S okr) rfl ?_
      repeat walk_at "t3"
      refine ⟨?_, rfl⟩
      cases rg with
      | nil => exact absurd rfl r0
      | cons _ _ => rfl
    · refine iteB (fun h => by cases h) (fun _ => ?_)
      repeat walk_at "t3"
      exact ⟨rfl, rfl⟩
  rintro _ _ ⟨rfl, rfl⟩
  rename Mem => M
  repeat walk_at "t3"
  refine w_lcP (fun _ => true) (fun d => match d with | .tup [a, _] => a | d => d) own_name (i_list ?_)
  repeat walk_at "t3"
  refine ⟨by rw [List.length_map]; omega, trivial, ?_, ?_⟩
  · intro i d M' hi _
    obtain ⟨⟨c, pots⟩, hab, rfl⟩ := map_at hi
    repeat walk_at "t3"
    refine ⟨rfl, ?_⟩
    repeat walk_at "t3"
    refine ⟨rfl, rfl, fun _ => ?_⟩
    repeat walk_at "t3"
    refine r3_ix_t (at3 (j := 0) (by omega) (v := .str c) rfl) ?_
    exact ⟨rfl, rfl⟩
  have en : ((wk.map eD).filter (fun _ => true)).map (fun d => match d with | .tup [a, _] => a | d => d) = (wk.map (·.1)).map D.str := by
    rw [filter_map_eq (f := eD) (q := fun _ => true) (h := fun e => D.str e.1) wk (fun _ _ => rfl) (fun _ _ _ => rfl), List.filter_eq_self.mpr (fun _ _ => rfl), List.map_map]; rfl
  rw [en]
  repeat walk_at "t3"
  refine s_for (i_rng1 ?_)
  repeat walk_at "t3"
  refine ⟨by omega, by rw [List.length_map]; omega, fun i σ' M' => ∃ (b4 b5 : Option D), σ' = [some (.lst (rg.map .str)), some (.lst (wk.map eD)), some (.lst (wi.map wD)), some (.lst ((wk.map (·.1)).map .str)), b4, b5] ∧ M' = M, fun _ _ _ _ => trivial, ⟨_, _, rfl, rfl⟩, ?_, ?_⟩
  · rintro i d σ' M' hi ⟨b4, b5, rfl, rfl⟩
    rename Mem => M
    have hi' : i < rg.length := by
      have := (List.getElem?_eq_some_iff.mp hi).1
      simpa using this
    have hd : d = .int (i : Int) := by
      rw [List.getElem?_map, List.getElem?_range (by simpa using hi')] at hi
      exact (Option.some.inj hi).symm
    subst hd
    obtain ⟨x, hx⟩ : ∃ x, rg[i]? = some x := ⟨rg[i], List.getElem?_eq_getElem hi'⟩
    have hxm : x ∈ rg := List.mem_of_getElem? hx
    obtain ⟨y, hy⟩ : ∃ y, rg[if i = 0 then rg.length - 1 else i - 1]? = some y := ⟨rg[if i = 0 then rg.length - 1 else i - 1]'(by split <;> omega), List.getElem?_eq_getElem _⟩
    have hw := rc i x y hx hy
    have hxd : (rg.map D.str)[i]? = some (.str x) := by rw [List.getElem?_map, hx]; rfl
    have hyd : (rg.map D.str)[if i = 0 then rg.length - 1 else i - 1]? = some (.str y) := by rw [List.getElem?_map, hy]; rfl
    have hya : atI (rg.map D.str) ((i : Int) - 1) = some (.str y) := by
      by_cases e : i = 0
      · subst e
        exact at_last (by rw [List.length_map]; exact hyd)
      · rw [if_neg e] at hyd
        exact at3 (j := i - 1) (by omega) hyd
    repeat walk_at "t3"
    refine w_orTP (a := false) (b := false) ?_ (fun _ => w_orTP (a := false) (b := false) ?_ (fun _ => ?_) ⟨rfl, rfl⟩) ?_
    · repeat walk_at "t3"
      refine r3_ix_l .fz (at3 (j := i) rfl hxd) ?_
      repeat walk_at "t3"
      refine r3_in (n := 9) (m := 9) .fz (okD_S (okr x hxm)) (okDs_S (names_ok ok)) ?_
      rw [any_strs]
      repeat walk_at "t3"
      refine ⟨?_, rfl⟩
      rw [if_pos rfl, List.contains_iff_mem.mpr (rs x hxm)]; rfl
    · repeat walk_at "t3"
      refine ⟨.lf, ?_⟩
      repeat walk_at "t3"
      refine r3_ix_l .fz (at3 (j := i) rfl hxd) ?_
      repeat walk_at "t3"
      refine m3_count (n := 9) (m := 9) .fz (okDs_S okr) (okD_S (okr x hxm)) ?_
      rw [nodup_count rn hxm]
      repeat walk_at "t3"
      exact ⟨rfl, rfl⟩
    · repeat walk_at "t3"
      refine r3_ix_l .fz hya ?_
      repeat walk_at "t3"
      refine r3_ix_l .fz (at3 (j := i) rfl hxd) ?_
      repeat walk_at "t3"
      refine r3_in (n := 1) (m := 1) (x := wD (y, x)) .fz (okD_w (okw _ hw)) (okDs_wi okw) ?_
      have ea : ((wi.map wD).any fun z => peq z (wD (y, x))) = true := List.any_eq_true.mpr ⟨_, List.mem_map_of_mem hw, by rw [pq_wD]; simp⟩
      rw [ea]
      repeat walk_at "t3"
      exact ⟨rfl, rfl⟩
    · refine iteB (fun h => by cases h) (fun _ => ?_)
      refine s_next ?_
      exact ⟨_, _, rfl, rfl⟩
  · rintro σ' M' ⟨b4, b5, rfl, rfl⟩
    repeat walk_at "t3"
    exact q
end
end LW
set_option Elab.async false
set_option linter.all false
set_option maxRecDepth 100000
set_option maxHeartbeats 4000000
namespace LW
open PySem L2 T3
open Evl (Ex)
local macro_rules | `(tactic| walk_at "t3") => `(tactic| first
  | (with_reducible refine s_seq ?_) | (with_reducible refine s_asg ?_) | (with_reducible refine s_if ?_) | (with_reducible refine s_ret ?_) | (with_reducible refine s_drop ?_) | (with_reducible refine s_asgG ?_) | (with_reducible refine s_retN ?_)
  | (with_reducible refine s_next ?_) | (with_reducible refine s_brk ?_) | (with_reducible refine s_cont ?_) | (with_reducible refine s_par ?_) | (with_reducible refine s_fld ?_)
  | ((with_reducible refine' w_var ?hx ?_); (case hx => exact rfl)) | (with_reducible refine w_cI ?_) | (with_reducible refine w_cB ?_) | (with_reducible refine w_cS ?_) | (with_reducible refine w_cN ?_) | (with_reducible refine w_cT ?_) | (with_reducible refine w_cR ?_)
  | (with_reducible refine w_op ?_) | (with_reducible refine w_un ?_) | (with_reducible refine w_nil ?_) | (with_reducible refine w_tup ?_) | (with_reducible refine w_cons ?_) | (with_reducible refine w_cb ?_) | (with_reducible refine w_bm0 ?_) | (with_reducible refine w_bm ?_)
  | (with_reducible refine w_test ?_) | (with_reducible refine w_B ?_) | (with_reducible refine w_notT ?_) | (with_reducible refine w_yes ?_) | (with_reducible refine w_notV ?_)
  | (with_reducible refine w_ifE ?_) | (with_reducible refine w_isN ?_) | (with_reducible refine w_notN ?_) | (with_reducible refine w_tr ?_) | (with_reducible refine w_chain ?_) | (with_reducible refine w_fld ?_) | (with_reducible refine w_sl ?_) | (with_reducible refine o_no ?_) | (with_reducible refine o_some ?_)
  | (with_reducible refine w_call0 ?_) | (with_reducible refine g_name ?_) | ((with_reducible refine' g_tup ?hx ?hy ?_); (case hx => exact rfl); (case hy => exact rfl)) | (with_reducible refine g_cons ?_) | (with_reducible refine g_nil ?_) | (with_reducible refine g_set ?_)
  | (with_reducible refine r3_add_ii ?_) | (with_reducible refine r3_sub ?_) | (with_reducible refine r3_lt ?_) | (with_reducible refine r3_le ?_) | (with_reducible refine r3_gt ?_) | (with_reducible refine r3_ge ?_) | (with_reducible refine u3_neg ?_)
  | (with_reducible refine c3_int_i ?_) | (with_reducible refine c3_int_b ?_) | (with_reducible refine c3_abs ?_) | (with_reducible refine c3_len_t ?_) | (with_reducible refine c3_len .fz ?_) | (with_reducible refine c3_max2 ?_) | (with_reducible refine c3_min2 ?_)
  | (with_reducible refine r3_eq (n := 9) (m := 9) okD_int okD_int ?_) | (with_reducible refine r3_ne (n := 9) (m := 9) okD_int okD_int ?_)
  | ((with_reducible refine' Exists.intro _ (And.intro ?hx ?_)); (case hx => exact rfl))
  | ((with_reducible refine' And.intro ?hx ?_); (case hx => (show List.length _ ≤ 100000); exact Nat.le_of_ble_eq_true rfl)))

section
variable {P : Program} {w : World} {K : PySem.W.Frag} {mg : Str → Option Value} {base : Heap} {A0 : Adr}

def S_alone (K : PySem.W.Frag) (A0 : Adr) : Sp3 := fun ds M Q E => ∃ (a C : Addr) (th : D), ds = [.ref a] ∧ M a = some (.exc a C th) ∧ (C = A0.f_Known ∨ C = A0.f_RingOfWishes) ∧ Q (.bl true) M
theorem ok_alone (T : Tx P K mg A0) : FnW P w K mg base CX0 1 A0.f_alone A0.d_alone ["_law_e"] (lift3 (S_alone K A0)) := by
  refine T.F_alone.okW sc_alone (lift3_len fun ds M Q E ⟨a, b, c, h, _⟩ => by rw [h]; rfl) (fun cdv A outer s H vs Q E hr h => ?_)
  have hu := hr.units
  have hu : _ + 64 < cLine := Nat.lt_of_le_of_lt (Nat.add_le_add_left (by decide) _) hu
  have hu5 := hr.units
  refine ⟨_, (pss_cons (ps_set (i := 1) sc_alone.nd (by rfl) (Or.inl (by rfl)) (pe_lst (pa_cons (pe_callB (call_ISIK K rfl) (by rfl) T.n_isinstance (by decide +kernel) (pa_cons (pv 0) (pa_cons (pe_glob (v := .ref A0.f_BadName) (by rfl) T.g_BadName rfl) pa_nil))) (pa_cons (pe_callB (call_ISIK K rfl) (by rfl) T.n_isinstance (by decide +kernel) (pa_cons (pv 0) (pa_cons (pe_glob (v := .ref A0.f_BadHold) (by rfl) T.g_BadHold rfl) pa_nil))) (pa_cons (pe_callB (call_ISIK K rfl) (by rfl) T.n_isinstance (by decide +kernel) (pa_cons (pv 0) (pa_cons (pe_glob (v := .ref A0.f_BadNumber) (by rfl) T.g_BadNumber rfl) pa_nil))) (pa_cons (pe_callB (call_ISIK K rfl) (by rfl) T.n_isinstance (by decide +kernel) (pa_cons (pv 0) (pa_cons (pe_glob (v := .ref A0.f_BadAmount) (by rfl) T.g_BadAmount rfl) pa_nil))) (pa_cons (pe_callB (call_ISIK K rfl) (by rfl) T.n_isinstance (by decide +kernel) (pa_cons (pv 0) (pa_cons (pe_glob (v := .ref A0.f_Known) (by rfl) T.g_Known rfl) pa_nil))) (pa_cons (pe_callB (call_ISIK K rfl) (by rfl) T.n_isinstance (by decide +kernel) (pa_cons (pv 0) (pa_cons (pe_glob (v := .ref A0.f_Unknown) (by rfl) T.g_Unknown rfl) pa_nil))) pa_nil))))))))
  (pss_cons (ps_set (i := 1) sc_alone.nd (by rfl) (Or.inl (by rfl)) (pe_op op_ADD (pv 1) (pe_lst (pa_cons (pe_callB (call_ISIK K rfl) (by rfl) T.n_isinstance (by decide +kernel) (pa_cons (pv 0) (pa_cons (pe_glob (v := .ref A0.f_Full) (by rfl) T.g_Full rfl) pa_nil))) (pa_cons (pe_callB (call_ISIK K rfl) (by rfl) T.n_isinstance (by decide +kernel) (pa_cons (pv 0) (pa_cons (pe_glob (v := .ref A0.f_NotSure) (by rfl) T.g_NotSure rfl) pa_nil))) (pa_cons (pe_callB (call_ISIK K rfl) (by rfl) T.n_isinstance (by decide +kernel) (pa_cons (pv 0) (pa_cons (pe_glob (v := .ref A0.f_RingOfWishes) (by rfl) T.g_RingOfWishes rfl) pa_nil))) (pa_cons (pe_callB (call_ISIK K rfl) (by rfl) T.n_isinstance (by decide +kernel) (pa_cons (pv 0) (pa_cons (pe_glob (v := .ref A0.f_BadLine) (by rfl) T.g_BadLine rfl) pa_nil))) pa_nil)))))))
  (pss_one (ps_ret (pe_and (pe_cmpR (op_eqDK K rfl hu) (pe_bm PySem.F.plainAttrs_list PySem.F.slot_list_count PySem.F.type_list_count (mt_countD hu5) (pv 1) (pa_cons pe_bl pa_nil)) pe_int (nomark _)) (pe_and (pe_callB (call_ISIK K rfl) (by rfl) T.n_isinstance (by decide +kernel) (pa_cons (pv 0) (pa_cons (pe_glob (v := .ref A0.f_DyeError) (by rfl) T.g_DyeError rfl) pa_nil))) (pe_one (pe_callB (call_ISIK K rfl) (by rfl) T.n_isinstance (by decide +kernel) (pa_cons (pv 0) (pa_cons (pe_bltn (v := .ty "ValueError") (by rfl) T.n_ValueError (by decide +kernel) rfl) pa_nil)))))))))), run3 h fun B ds M Q3 E3 hs hE => ?_⟩
  obtain ⟨a, C, th, rfl, hm, hC, q⟩ := hs
  obtain ⟨hx, b1, b2, b3, b4, b5, b6, b7, b8, b9, b10, k1, k2, k3, k4, k5, k6, k7, k8, k9, k10, kd, kv, hcount⟩ : ExcX K C ∧ ∃ b1 b2 b3 b4 b5 b6 b7 b8 b9 b10 : Bool, PySem.W.kitOne K (.ref C) (.ref A0.f_BadName) = some b1 ∧ PySem.W.kitOne K (.ref C) (.ref A0.f_BadHold) = some b2 ∧ PySem.W.kitOne K (.ref C) (.ref A0.f_BadNumber) = some b3 ∧
      PySem.W.kitOne K (.ref C) (.ref A0.f_BadAmount) = some b4 ∧ PySem.W.kitOne K (.ref C) (.ref A0.f_Known) = some b5 ∧ PySem.W.kitOne K (.ref C) (.ref A0.f_Unknown) = some b6 ∧ PySem.W.kitOne K (.ref C) (.ref A0.f_Full) = some b7 ∧ PySem.W.kitOne K (.ref C) (.ref A0.f_NotSure) = some b8 ∧ PySem.W.kitOne K (.ref C) (.ref A0.f_RingOfWishes) = some b9 ∧ PySem.W.kitOne K (.ref C) (.ref A0.f_BadLine) = some b10 ∧
      PySem.W.kitOne K (.ref C) (.ref A0.f_DyeError) = some true ∧ PySem.W.kitOne K (.ref C) (.type "ValueError") = some true ∧ ([D.bl b1, .bl b2, .bl b3, .bl b4, .bl b5, .bl b6] ++ [D.bl b7, .bl b8, .bl b9, .bl b10]).countP (fun z => peq z (.bl true)) = 1 := by
    rcases hC with rfl | rfl
    · exact ⟨T.x_K, _, _, _, _, _, _, _, _, _, _, T.ik_Known_BadName, T.ik_Known_BadHold, T.ik_Known_BadNumber, T.ik_Known_BadAmount, T.ik_Known_Known, T.ik_Known_Unknown, T.ik_Known_Full, T.ik_Known_NotSure, T.ik_Known_RingOfWishes, T.ik_Known_BadLine, T.ik_Known_DyeError, T.ik_Known_VE, rfl⟩
    · exact ⟨T.x_R, _, _, _, _, _, _, _, _, _, _, T.ik_RingOfWishes_BadName, T.ik_RingOfWishes_BadHold, T.ik_RingOfWishes_BadNumber, T.ik_RingOfWishes_BadAmount, T.ik_RingOfWishes_Known, T.ik_RingOfWishes_Unknown, T.ik_RingOfWishes_Full, T.ik_RingOfWishes_NotSure, T.ik_RingOfWishes_RingOfWishes, T.ik_RingOfWishes_BadLine, T.ik_RingOfWishes_DyeError, T.ik_RingOfWishes_VE, rfl⟩
  change W3s B _ _ [some (.ref a), none] M
  try dsimp only [cxW, Cx.nox, Cx.wish]
  repeat walk_at "t3"
  refine w_lst ?_
  repeat walk_at "t3"
  refine c3_isX hm hx k1 ?_
  repeat walk_at "t3"
  refine c3_isX hm hx k2 ?_
  repeat walk_at "t3"
  refine c3_isX hm hx k3 ?_
  repeat walk_at "t3"
  refine c3_isX hm hx k4 ?_
  repeat walk_at "t3"
  refine c3_isX hm hx k5 ?_
  repeat walk_at "t3"
  refine c3_isX hm hx k6 ?_
  repeat walk_at "t3"
  refine w_lst ?_
  repeat walk_at "t3"
  refine c3_isX hm hx k7 ?_
  repeat walk_at "t3"
  refine c3_isX hm hx k8 ?_
  repeat walk_at "t3"
  refine c3_isX hm hx k9 ?_
  repeat walk_at "t3"
  refine c3_isX hm hx k10 ?_
  repeat walk_at "t3"
  refine r3_add_ll .fz .fz (Nat.le_of_ble_eq_true rfl) ?_
  repeat walk_at "t3"
  refine w_andP (a := true) (b := true) ?_ (fun _ => w_andP (a := true) (b := true) ?_ (fun _ => ?_) ⟨rfl, rfl⟩) q
  · repeat walk_at "t3"
    refine ⟨.lf, ?_⟩
    repeat walk_at "t3"
    refine m3_count (n := 9) (m := 9) .fz rfl rfl ?_
    rw [hcount]
    repeat walk_at "t3"
    exact ⟨rfl, rfl⟩
  · repeat walk_at "t3"
    refine c3_isX hm hx kd ?_
    exact ⟨rfl, rfl⟩
  · repeat walk_at "t3"
    refine c3_isXt hm hx kv ?_
    exact ⟨rfl, rfl⟩
def S_asked : Sp3 := fun ds M Q E => ∃ (wk : List (Str × List Str)) (wi : List (Str × Str)), ds = [.lst (wk.map eD), .lst (wi.map wD)] ∧ WkOk wk ∧ WiOk wi ∧ wk.length ≤ 1000 ∧ wi.length ≤ 1000 ∧ potsN wk ≤ 1000 ∧
  (∀ c, fdup [] (wk.map (·.1)) = some c → Q (.lst [.str "known", .str c, .bl false]) M) ∧ (fdup [] (wk.map (·.1)) = none → (∀ row, ranked wk wi = some row → Q (.lst [.str "row", .lst (row.map wD), .bl false]) M) ∧ (ranked wk wi = none → ∀ rg, IsRing rg (wk.map (·.1)) wi → Q (.lst [.str "ring", .lst (rg.map .str), .bl false]) M))
theorem ok_asked (T : Tx P K mg A0) : FnOk P w K mg base CX0 4 A0.f_asked A0.d_asked ["_law_work", "_law_wishes"] (lift3 S_asked) := by
  refine T.F_asked.ok sc_asked (lift3_len fun ds M Q E ⟨a, b, h, _⟩ => by rw [h]; rfl) (fun cdv A outer s H vs Q E hr h => ?_)
  have hu := hr.units
  have hu5 := units65 hr
  refine ⟨_, (pss_cons (ps_try_manyA rfl rfl sc_asked.nd rfl takes_none5 (fun W pn xe tk po => (pss_one (ps_set (i := 2) sc_asked.nd (by rfl) (Or.inl (by rfl)) (pe_callS (ok_rank_row T) (hr.mono (by decide)) (by rfl) T.g_rank_row T.k_rank_row T.b_rank_row (fun σ => passAt tk σ) (pa_cons (pv 0) (pa_cons (pv 1) pa_nil))))))
  (.as_ (i := 3) ⟨by rfl, by decide, .inl T.g_Known⟩ (by rfl) (by rfl) (fun _ _ => (pss_one (ps_ret (pe_lst (pa_cons pe_str (pa_cons (pe_thingK K rfl (pv 3)) (pa_cons (pe_not (pe_callW (ok_alone T) (roomW_le hr (by decide) rfl rfl) (by rfl) T.g_alone T.k_alone T.b_alone .nil pass0 (pa_cons (pv 3) pa_nil))) pa_nil))))))) (.as_ (i := 3) ⟨by rfl, by decide, .inl T.g_RingOfWishes⟩ (by rfl) (by rfl) (fun _ _ => (pss_one (ps_ret (pe_lst (pa_cons pe_str (pa_cons (pe_thingK K rfl (pv 3)) (pa_cons (pe_not (pe_callW (ok_alone T) (roomW_le hr (by decide) rfl rfl) (by rfl) T.g_alone T.k_alone T.b_alone .nil pass0 (pa_cons (pv 3) pa_nil))) pa_nil))))))) (.bare ⟨by rfl, by decide, .inl T.g_DyeError⟩ (fun _ _ => (pss_one (ps_ret (pe_lst (pa_cons pe_str (pa_cons pe_non (pa_cons pe_bl pa_nil))))))) .nil))))
  (pss_one (ps_ret (pe_lst (pa_cons pe_str (pa_cons (pv 2) (pa_cons (pe_not (pe_callB (call_ISIK K rfl) (by rfl) T.n_isinstance (by decide +kernel) (pa_cons (pv 2) (pa_cons (pe_bltn (v := .ty "list") (by rfl) T.n_list (by decide +kernel) rfl) pa_nil)))) pa_nil))))))), run3 h fun B ds M Q3 E3 hs hE => ?_⟩
  obtain ⟨wk, wi, rfl, ok, okw, lk, lw, lp, qk, qn⟩ := hs
  change W3s B _ _ [some (.lst (wk.map eD)), some (.lst (wi.map wD)), none, none] M
  try dsimp only [cxOf, Cx.nox, Cx.wish]
  refine s_seq ?_
  refine s_try (tb := fun W => tAsg (tCallS (lift3 (S_rank A0)) (WE W) (tCons (tVar 0) (tCons (tVar 1) tNil))) (gName 2)) impW0 (fun B' W b hW => ?_)
  repeat walk_at "t3"
  refine w_callS hW ?_
  repeat walk_at "t3"
  refine ⟨wk, wi, rfl, ok, okw, lk, lw, lp, fun c hc => ?_, fun hf => ⟨fun row hrow => ?_, fun hnone rg hrg => ?_⟩⟩
  · refine ⟨true, T.em_KK, fun _ a ha => ?_, fun h => by cases h⟩
    have hm : mput M a (.exc a A0.f_Known (.str c)) a = some (.exc a A0.f_Known (.str c)) := mput_same
    refine s_ret (w_vs ?_)
    refine w_lst ?_
    repeat walk_at "t3"
    refine w_thing ?_
    repeat walk_at "t3"
    refine ⟨_, _, _, rfl, hm, T.x_K, ?_⟩
    repeat walk_at "t3"
    refine ⟨a, A0.f_Known, .str c, rfl, hm, .inl rfl, ?_⟩
    repeat walk_at "t3"
    exact ⟨_, _, vs_drop a, by rw [mdel_mput ha]; exact qk c hc⟩
  · repeat walk_at "t3"
    refine w_lst ?_
    repeat walk_at "t3"
    refine c3_ISI rfl T.kit_ll ?_
    repeat walk_at "t3"
    exact (qn hf).1 row hrow
  · refine ⟨false, T.em_RK, fun h => (by cases h), fun _ => ⟨true, T.em_RR, fun _ a ha => ?_, fun h => (by cases h)⟩⟩
    have hm : mput M a (.exc a A0.f_RingOfWishes (.lst (rg.map .str))) a = some (.exc a A0.f_RingOfWishes (.lst (rg.map .str))) := mput_same
    refine s_ret (w_vs ?_)
    refine w_lst ?_
    repeat walk_at "t3"
    refine w_thing ?_
    repeat walk_at "t3"
    refine ⟨_, _, _, rfl, hm, T.x_R, ?_⟩
    repeat walk_at "t3"
    refine ⟨a, A0.f_RingOfWishes, _, rfl, hm, .inr rfl, ?_⟩
    repeat walk_at "t3"
    exact ⟨_, _, vs_drop a, by rw [mdel_mput ha]; exact (qn hf).2 hnone rg hrg⟩
end
end LW
set_option Elab.async false
set_option linter.all false
set_option maxRecDepth 100000
set_option maxHeartbeats 4000000
namespace LW
open PySem L2 T3
open Evl (Ex)
local macro_rules | `(tactic| walk_at "t3") => `(tactic| first
  | (with_reducible refine s_seq ?_) | (with_reducible refine s_asg ?_) | (with_reducible refine s_if ?_) | (with_reducible refine s_ret ?_) | (with_reducible refine s_drop ?_) | (with_reducible refine s_asgG ?_) | (with_reducible refine s_retN ?_)
  | (with_reducible refine s_next ?_) | (with_reducible refine s_brk ?_) | (with_reducible refine s_cont ?_) | (with_reducible refine s_par ?_) | (with_reducible refine s_fld ?_)
  | ((with_reducible refine' w_var ?hx ?_); (case hx => exact rfl)) | (with_reducible refine w_cI ?_) | (with_reducible refine w_cB ?_) | (with_reducible refine w_cS ?_) | (with_reducible refine w_cN ?_) | (with_reducible refine w_cT ?_) | (with_reducible refine w_cR ?_)
  | (with_reducible refine w_op ?_) | (with_reducible refine w_un ?_) | (with_reducible refine w_nil ?_) | (with_reducible refine w_tup ?_) | (with_reducible refine w_cons ?_) | (with_reducible refine w_cb ?_) | (with_reducible refine w_bm0 ?_) | (with_reducible refine w_bm ?_)
  | (with_reducible refine w_test ?_) | (with_reducible refine w_B ?_) | (with_reducible refine w_notT ?_) | (with_reducible refine w_yes ?_) | (with_reducible refine w_notV ?_)
  | (with_reducible refine w_ifE ?_) | (with_reducible refine w_isN ?_) | (with_reducible refine w_notN ?_) | (with_reducible refine w_tr ?_) | (with_reducible refine w_chain ?_) | (with_reducible refine w_fld ?_) | (with_reducible refine w_sl ?_) | (with_reducible refine o_no ?_) | (with_reducible refine o_some ?_)
  | (with_reducible refine w_call0 ?_) | (with_reducible refine g_name ?_) | ((with_reducible refine' g_tup ?hx ?hy ?_); (case hx => exact rfl); (case hy => exact rfl)) | (with_reducible refine g_cons ?_) | (with_reducible refine g_nil ?_) | (with_reducible refine g_set ?_)
  | (with_reducible refine r3_add_ii ?_) | (with_reducible refine r3_sub ?_) | (with_reducible refine r3_lt ?_) | (with_reducible refine r3_le ?_) | (with_reducible refine r3_gt ?_) | (with_reducible refine r3_ge ?_) | (with_reducible refine u3_neg ?_)
  | (with_reducible refine c3_int_i ?_) | (with_reducible refine c3_int_b ?_) | (with_reducible refine c3_abs ?_) | (with_reducible refine c3_len_t ?_) | (with_reducible refine c3_len .fz ?_) | (with_reducible refine c3_max2 ?_) | (with_reducible refine c3_min2 ?_)
  | (with_reducible refine r3_eq (n := 9) (m := 9) okD_int okD_int ?_) | (with_reducible refine r3_ne (n := 9) (m := 9) okD_int okD_int ?_)
  | ((with_reducible refine' Exists.intro _ (And.intro ?hx ?_)); (case hx => exact rfl))
  | ((with_reducible refine' And.intro ?hx ?_); (case hx => (show List.length _ ≤ 100000); exact Nat.le_of_ble_eq_true rfl)))

section
variable {P : Program} {w : World} {K : PySem.W.Frag} {mg : Str → Option Value} {base : Heap} {A0 : Adr}

def S_source (K : PySem.W.Frag) : Hp → Sp3 := fun F ds M Q _ => ∃ (a : Addr) (ns : List Int), ds = [.ref a] ∧ SqL K F a (ns.map V.int) ∧ ns.length ≤ 63 ∧ ∀ p o, M p = none → IsSrc o → Q (.ref p) (mput M p o)
theorem source_mono : ∀ F F' ds M Q E, Ex F F' → S_source K F ds M Q E → S_source K F' ds M Q E := fun F F' ds M Q E e ⟨a, ns, h1, h2, h3⟩ => ⟨a, ns, h1, Evl.ex_l e h2, h3⟩
theorem ok_source (T : Tx P K mg A0) : FnOk P w K mg base CX0 1 A0.f_source A0.d_source ["_law_script"] (lift3B (S_source K)) := by
  refine T.F_source.ok sc_source (lift3B_len fun F ds M Q E ⟨a, b, h, _⟩ => by rw [h]; rfl) (fun cdv A outer s H vs Q E hr h => ?_)
  have hu := hr.units
  have hu5 := units65 hr
  refine ⟨_, (pss_one (ps_ret (pe_lst (pa_cons (pe_lc (own := [("_law_cell", 1)]) (g := (gName 1)) (by rfl) sc_source.nd (pi_list (pe_slice (sl_SLK K rfl) (pv 0) po_none (po_some pe_int))) (blkOk_by (N := ["_law_script", "_law_cell"]) (sc := defScope s_source) (own := [("_law_cell", 1)]) (by decide +kernel)) (fun _ _ _ _ _ => (pg_name (i := 1) sc_source.nd (by rfl) (Or.inl (by rfl)))) (fun _ _ _ _ _ => pts_nil) (fun _ _ _ _ _ => (pe_callTy call_int1 (by rfl) T.n_int (by decide +kernel) (pa_cons (pv 1) pa_nil)))) (pa_cons pe_int (pa_cons pe_int (pa_cons pe_int pa_nil))))))), run3B h fun B ds M Q3 E3 hs hE => ?_⟩
  obtain ⟨a, ns, rfl, hS, hl, q⟩ := hs
  change W3s B _ _ [some (.ref a), none] M
  try dsimp only [cxOf, Cx.nox, Cx.wish]
  repeat walk_at "t3"
  refine w_lstO ?_
  repeat walk_at "t3"
  refine w_lcP (fun _ => true) (fun d => d) own_name (i_list ?_)
  repeat walk_at "t3"
  refine s3_q hS ?_
  repeat walk_at "t3"
  have ec : cutD (ns.map D.int) none (some 63) = ((ns.drop (HT.sIx (ns.map D.int).length 0 none)).take (HT.sIx (ns.map D.int).length (ns.map D.int).length (some 63) - HT.sIx (ns.map D.int).length 0 none)).map D.int := by
    unfold cutD; rw [List.map_take, List.map_drop]
  have lc : ∀ x y : Nat, ((ns.drop x).take y).length ≤ 63 := fun x y => by rw [List.length_take, List.length_drop]; omega
  rw [ec]
  generalize hc : (ns.drop (HT.sIx (ns.map D.int).length 0 none)).take (HT.sIx (ns.map D.int).length (ns.map D.int).length (some 63) - HT.sIx (ns.map D.int).length 0 none) = cells
  have lc : cells.length ≤ 63 := by rw [← hc]; exact lc _ _
  refine ⟨by rw [List.length_map]; omega, trivial, ?_, ?_⟩
  · intro i d M' hi _
    obtain ⟨z, hz, rfl⟩ := map_at hi
    repeat walk_at "t3"
    refine ⟨rfl, ?_⟩
    repeat walk_at "t3"
    refine ⟨rfl, rfl, fun _ => ?_⟩
    repeat walk_at "t3"
    exact ⟨rfl, rfl⟩
  have e : ((cells.map D.int).filter (fun _ => true)).map (fun d => d) = cells.map D.int := by rw [List.filter_eq_self.mpr (fun _ _ => rfl), List.map_id']
  rw [e]
  repeat walk_at "t3"
  exact fun p hp => q p _ hp ⟨cells, 0, 0, 0, rfl, lc, by decide, by decide, by decide, by decide⟩
end
end LW
set_option Elab.async false
set_option linter.all false
set_option maxRecDepth 100000
set_option maxHeartbeats 4000000
namespace LW
open PySem L2 T3
open Evl (Ex)
local macro_rules | `(tactic| walk_at "t3") => `(tactic| first
  | (with_reducible refine s_seq ?_) | (with_reducible refine s_asg ?_) | (with_reducible refine s_if ?_) | (with_reducible refine s_ret ?_) | (with_reducible refine s_drop ?_) | (with_reducible refine s_asgG ?_) | (with_reducible refine s_retN ?_)
  | (with_reducible refine s_next ?_) | (with_reducible refine s_brk ?_) | (with_reducible refine s_cont ?_) | (with_reducible refine s_par ?_) | (with_reducible refine s_fld ?_)
  | ((with_reducible refine' w_var ?hx ?_); (case hx => exact rfl)) | (with_reducible refine w_cI ?_) | (with_reducible refine w_cB ?_) | (with_reducible refine w_cS ?_) | (with_reducible refine w_cN ?_) | (with_reducible refine w_cT ?_) | (with_reducible refine w_cR ?_)
  | (with_reducible refine w_op ?_) | (with_reducible refine w_un ?_) | (with_reducible refine w_nil ?_) | (with_reducible refine w_tup ?_) | (with_reducible refine w_cons ?_) | (with_reducible refine w_cb ?_) | (with_reducible refine w_bm0 ?_) | (with_reducible refine w_bm ?_)
  | (with_reducible refine w_test ?_) | (with_reducible refine w_B ?_) | (with_reducible refine w_notT ?_) | (with_reducible refine w_yes ?_) | (with_reducible refine w_notV ?_)
  | (with_reducible refine w_ifE ?_) | (with_reducible refine w_isN ?_) | (with_reducible refine w_notN ?_) | (with_reducible refine w_tr ?_) | (with_reducible refine w_chain ?_) | (with_reducible refine w_fld ?_) | (with_reducible refine w_sl ?_) | (with_reducible refine o_no ?_) | (with_reducible refine o_some ?_)
  | (with_reducible refine w_call0 ?_) | (with_reducible refine g_name ?_) | ((with_reducible refine' g_tup ?hx ?hy ?_); (case hx => exact rfl); (case hy => exact rfl)) | (with_reducible refine g_cons ?_) | (with_reducible refine g_nil ?_) | (with_reducible refine g_set ?_)
  | (with_reducible refine r3_add_ii ?_) | (with_reducible refine r3_sub ?_) | (with_reducible refine r3_lt ?_) | (with_reducible refine r3_le ?_) | (with_reducible refine r3_gt ?_) | (with_reducible refine r3_ge ?_) | (with_reducible refine u3_neg ?_)
  | (with_reducible refine c3_int_i ?_) | (with_reducible refine c3_int_b ?_) | (with_reducible refine c3_abs ?_) | (with_reducible refine c3_len_t ?_) | (with_reducible refine c3_len .fz ?_) | (with_reducible refine c3_max2 ?_) | (with_reducible refine c3_min2 ?_)
  | (with_reducible refine r3_eq (n := 9) (m := 9) okD_int okD_int ?_) | (with_reducible refine r3_ne (n := 9) (m := 9) okD_int okD_int ?_)
  | ((with_reducible refine' Exists.intro _ (And.intro ?hx ?_)); (case hx => exact rfl))
  | ((with_reducible refine' And.intro ?hx ?_); (case hx => (show List.length _ ≤ 100000); exact Nat.le_of_ble_eq_true rfl)))

section
variable {P : Program} {w : World} {K : PySem.W.Frag} {mg : Str → Option Value} {base : Heap} {A0 : Adr}

theorem okT_app {a b : Str} (h1 : okT a) (h2 : okT b) : okT (a ++ b) := by
  show (a.cps ++ b.cps).all _ = true
  rw [Array.all_append]
  rw [show a.cps.all _ = true from h1, show b.cps.all _ = true from h2]; rfl
theorem len_app (a b : Str) : (a ++ b).length = a.length + b.length := by
  show (a.cps ++ b.cps).size = _
  rw [Array.size_append]; rfl
theorem okS_join : ∀ (l : List Str), (∀ s ∈ l, okS s) → okT (Str.join (Str.ofString "") l) ∧ (Str.join (Str.ofString "") l).length ≤ 100 * l.length
  | [], _ => ⟨by unfold okT; decide +kernel, Nat.zero_le _⟩
  | [x], h => ⟨(h x (by simp)).1, by have := (h x (by simp)).2; simpa [Str.join] using this⟩
  | x :: y :: l, h => by
    have hx := h x (by simp)
    have ih := okS_join (y :: l) (fun s hs => h s (List.mem_cons_of_mem _ hs))
    show okT (x ++ Str.ofString "" ++ Str.join (Str.ofString "") (y :: l)) ∧ (x ++ Str.ofString "" ++ Str.join (Str.ofString "") (y :: l)).length ≤ _
    refine ⟨okT_app (okT_app hx.1 (by unfold okT; decide +kernel)) ih.1, ?_⟩
    rw [len_app, len_app]
    have := hx.2; have := ih.2
    have e : (Str.ofString "").length = 0 := rfl
    rw [e]
    have e2 : (x :: y :: l).length = (y :: l).length + 1 := rfl
    omega
theorem fdup_none : ∀ (l seen : List Str), l.Nodup → (∀ x ∈ l, x ∉ seen) → fdup seen l = none
  | [], _, _, _ => rfl
  | x :: l, seen, h, d => by
    obtain ⟨h1, h2⟩ := List.nodup_cons.mp h
    rw [fdup, if_neg (d x (List.mem_cons_self ..))]
    refine fdup_none l _ h2 fun y hy hm => ?_
    rcases List.mem_cons.mp hm with e | e
    · exact h1 (e ▸ hy)
    · exact d y (List.mem_cons_of_mem _ hy) e
theorem fdup_twice : ∀ (l seen : List Str) (x : Str) (r : List Str), l.Nodup → (∀ x ∈ l, x ∉ seen) → (x ∈ l ∨ x ∈ seen) → fdup seen (l ++ x :: r) = some x
  | [], seen, x, r, _, _, h => by
    rw [List.nil_append, fdup, if_pos (h.resolve_left (by simp))]
  | y :: l, seen, x, r, h, d, hx => by
    obtain ⟨h1, h2⟩ := List.nodup_cons.mp h
    rw [List.cons_append, fdup, if_neg (d y (List.mem_cons_self ..))]
    refine fdup_twice l _ x r h2 (fun z hz hm => ?_) ?_
    · rcases List.mem_cons.mp hm with e | e
      · exact h1 (e ▸ hz)
      · exact d z (List.mem_cons_of_mem _ hz) e
    · rcases hx with hx | hx
      · rcases List.mem_cons.mp hx with e | e
        · exact .inr (e ▸ List.mem_cons_self ..)
        · exact .inl e
      · exact .inr (List.mem_cons_of_mem _ hx)
theorem rk_nowish : ∀ (n : Nat) (ws : List (Str × List Str)) (row : List (Str × Str)), ws.length = n → ∃ r, rk [] n ws row = some r
  | 0, _, row, _ => ⟨row, rfl⟩
  | n + 1, [], row, h => by cases h
  | n + 1, e :: ws, row, h => by
    have : freeE [] (e :: ws) = e :: ws := List.filter_eq_self.mpr fun _ _ => rfl
    rw [rk, this]
    exact rk_nowish n _ _ (by rw [List.erase_cons_head]; exact Nat.succ.inj h)
theorem atI_some {l : List Str} {z : Int} (h1 : -(l.length : Int) ≤ z) (h2 : z < l.length) : ∃ s, s ∈ l ∧ atI (l.map D.str) z = some (.str s) := by
  unfold atI ixN
  rw [List.length_map]
  by_cases h : 0 ≤ z
  · rw [if_pos h, if_pos h2]
    have hz : z.toNat < l.length := by omega
    exact ⟨l[z.toNat], List.getElem_mem hz, by show (l.map D.str)[z.toNat]? = _; rw [List.getElem?_map, List.getElem?_eq_getElem hz]; rfl⟩
  · rw [if_neg h, if_pos h1]
    have hz : (z + l.length).toNat < l.length := by omega
    exact ⟨l[(z + l.length).toNat], List.getElem_mem hz, by show (l.map D.str)[(z + l.length).toNat]? = _; rw [List.getElem?_map, List.getElem?_eq_getElem hz]; rfl⟩
def fixedG : List Str := ["", "Cape 2", "a-b", "abcdefghijklm", " ", "A", "0", "\n"]
theorem fixedG_ok : fixedG.Nodup ∧ ∀ s ∈ fixedG, okS s := ⟨by decide +kernel, by
  intro s hs
  have : ∀ s ∈ fixedG, s.cps.all (· < 0x110000) = true ∧ s.length ≤ 100 := by decide +kernel
  exact this s hs⟩
theorem fixed_names {n : Nat} (h : n ≤ 8) : Names n (fixedG.take n) := ⟨by rw [List.length_take]; show min n 8 = n; omega, fixedG_ok.1.sublist (List.take_sublist _ _), fun s hs => fixedG_ok.2 s (List.mem_of_mem_take hs)⟩
theorem rk_ok {wi : List (Str × Str)} : ∀ (n : Nat) (ws : List (Str × List Str)) (row r : List (Str × Str)), WkOk ws → WiOk row → rk wi n ws row = some r → WiOk r
  | 0, _, row, r, _, h, e => by cases e; exact h
  | n + 1, ws, row, r, hw, h, e => by
    rw [rk] at e
    cases hf : freeE wi ws with
    | nil => rw [hf] at e; cases e
    | cons x l =>
      rw [hf] at e
      have hx : x ∈ ws := (List.mem_filter.mp (show x ∈ freeE wi ws by rw [hf]; exact List.mem_cons_self ..)).1
      refine rk_ok n _ _ r (fun y hy => hw y (List.mem_of_mem_erase hy)) (fun w hw' => ?_) e
      rcases List.mem_append.mp hw' with h' | h'
      · exact h w h'
      · obtain ⟨p, hp, rfl⟩ := List.mem_map.mp h'
        exact ⟨(hw x hx).1, (hw x hx).2 p hp⟩
theorem rk_len {wi : List (Str × Str)} : ∀ (n : Nat) (ws : List (Str × List Str)) (row r : List (Str × Str)), rk wi n ws row = some r → r.length ≤ row.length + potsN ws
  | 0, _, row, r, e => by cases e; omega
  | n + 1, ws, row, r, e => by
    rw [rk] at e
    cases hf : freeE wi ws with
    | nil => rw [hf] at e; cases e
    | cons x l =>
      rw [hf] at e
      have hx : x ∈ ws := (List.mem_filter.mp (show x ∈ freeE wi ws by rw [hf]; exact List.mem_cons_self ..)).1
      have h1 := rk_len n _ _ r e
      have h2 := potsN_erase hx
      rw [List.length_append, List.length_map] at h1
      omega
theorem okT_lit {s : Str} (h : s.cps.all (· < 0x110000) = true) : okT s := h
def AnsC (wk : List (Str × List Str)) (wi : List (Str × Str)) (kind : Str) (x : D) : Prop := (kind = Str.ofString "row" ∧ ∃ row, ranked wk wi = some row ∧ x = .lst (row.map wD)) ∨ (kind = Str.ofString "ring" ∧ ranked wk wi = none ∧ ∃ rg, IsRing rg (wk.map (·.1)) wi ∧ x = .lst (rg.map .str))
theorem asked_of {wk : List (Str × List Str)} {wi : List (Str × Str)} {M : Mem} {Q : DQ} {E : EQ3} (h1 : WkOk wk) (h2 : WiOk wi) (h3 : wk.length ≤ 1000) (h4 : wi.length ≤ 1000) (h5 : potsN wk ≤ 1000) (hf : fdup [] (wk.map (·.1)) = none)
    (q : ∀ kind x, AnsC wk wi kind x → Q (.lst [.str kind, x, .bl false]) M) : S_asked [.lst (wk.map eD), .lst (wi.map wD)] M Q E :=
  ⟨wk, wi, rfl, h1, h2, h3, h4, h5, fun c hc => (by rw [hf] at hc; cases hc), fun _ => ⟨fun row hr => q _ _ (.inl ⟨rfl, row, hr, rfl⟩), fun hn rg hg => q _ _ (.inr ⟨rfl, hn, rg, hg, rfl⟩)⟩⟩
theorem asked_dup {wk : List (Str × List Str)} {wi : List (Str × Str)} {M : Mem} {Q : DQ} {E : EQ3} {c : Str} (h1 : WkOk wk) (h2 : WiOk wi) (h3 : wk.length ≤ 1000) (h4 : wi.length ≤ 1000) (h5 : potsN wk ≤ 1000) (hf : fdup [] (wk.map (·.1)) = some c)
    (q : Q (.lst [.str "known", .str c, .bl false]) M) : S_asked [.lst (wk.map eD), .lst (wi.map wD)] M Q E :=
  ⟨wk, wi, rfl, h1, h2, h3, h4, h5, fun c' hc => (by rw [hf] at hc; cases hc; exact q), fun hn => (by rw [hf] at hn; cases hn)⟩
theorem ansC_ok {wk : List (Str × List Str)} {wi : List (Str × Str)} {kind : Str} {x : D} (h : AnsC wk wi kind x) : okT kind := by
  rcases h with ⟨rfl, _⟩ | ⟨rfl, _⟩
  · exact okT_lit (by decide +kernel)
  · exact okT_lit (by decide +kernel)
theorem ansC_kind {wk : List (Str × List Str)} {wi : List (Str × Str)} {kind k2 : Str} {x y : D} (h : AnsC wk wi kind x) (h2 : AnsC wk wi k2 y) : kind = k2 := by
  rcases h with ⟨rfl, r, hr, _⟩ | ⟨rfl, hn, _⟩ <;> rcases h2 with ⟨rfl, r2, hr2, _⟩ | ⟨rfl, hn2, _⟩
  · rfl
  · rw [hr] at hn2; cases hn2
  · rw [hn] at hr2; cases hr2
  · rfl
theorem names_dup {wk : List (Str × List Str)} (h : (wk.map (·.1)).Nodup) : fdup [] (wk.map (·.1)) = none := fdup_none _ _ h fun _ _ h => by cases h
def Tubs (l : List Str) : Prop := l.length = 30 ∧ ∀ s ∈ l, okS s
end
end LW
set_option Elab.async false
set_option linter.all false
set_option maxRecDepth 100000
set_option maxHeartbeats 4000000
namespace LW
open PySem L2 T3
open Evl (Ex)
local macro_rules | `(tactic| walk_at "t3") => `(tactic| first
  | (with_reducible refine s_seq ?_) | (with_reducible refine s_asg ?_) | (with_reducible refine s_if ?_) | (with_reducible refine s_ret ?_) | (with_reducible refine s_drop ?_) | (with_reducible refine s_asgG ?_) | (with_reducible refine s_retN ?_)
  | (with_reducible refine s_next ?_) | (with_reducible refine s_brk ?_) | (with_reducible refine s_cont ?_) | (with_reducible refine s_par ?_) | (with_reducible refine s_fld ?_)
  | ((with_reducible refine' w_var ?hx ?_); (case hx => exact rfl)) | (with_reducible refine w_cI ?_) | (with_reducible refine w_cB ?_) | (with_reducible refine w_cS ?_) | (with_reducible refine w_cN ?_) | (with_reducible refine w_cT ?_) | (with_reducible refine w_cR ?_)
  | (with_reducible refine w_op ?_) | (with_reducible refine w_un ?_) | (with_reducible refine w_nil ?_) | (with_reducible refine w_tup ?_) | (with_reducible refine w_cons ?_) | (with_reducible refine w_cb ?_) | (with_reducible refine w_bm0 ?_) | (with_reducible refine w_bm ?_)
  | (with_reducible refine w_test ?_) | (with_reducible refine w_B ?_) | (with_reducible refine w_notT ?_) | (with_reducible refine w_yes ?_) | (with_reducible refine w_notV ?_)
  | (with_reducible refine w_ifE ?_) | (with_reducible refine w_isN ?_) | (with_reducible refine w_notN ?_) | (with_reducible refine w_tr ?_) | (with_reducible refine w_chain ?_) | (with_reducible refine w_fld ?_) | (with_reducible refine w_sl ?_) | (with_reducible refine o_no ?_) | (with_reducible refine o_some ?_)
  | (with_reducible refine w_call0 ?_) | (with_reducible refine g_name ?_) | ((with_reducible refine' g_tup ?hx ?hy ?_); (case hx => exact rfl); (case hy => exact rfl)) | (with_reducible refine g_cons ?_) | (with_reducible refine g_nil ?_) | (with_reducible refine g_set ?_)
  | (with_reducible refine r3_add_ii ?_) | (with_reducible refine r3_sub ?_) | (with_reducible refine r3_lt ?_) | (with_reducible refine r3_le ?_) | (with_reducible refine r3_gt ?_) | (with_reducible refine r3_ge ?_) | (with_reducible refine u3_neg ?_)
  | (with_reducible refine c3_int_i ?_) | (with_reducible refine c3_int_b ?_) | (with_reducible refine c3_abs ?_) | (with_reducible refine c3_len_t ?_) | (with_reducible refine c3_len .fz ?_) | (with_reducible refine c3_max2 ?_) | (with_reducible refine c3_min2 ?_)
  | (with_reducible refine r3_eq (n := 9) (m := 9) okD_int okD_int ?_) | (with_reducible refine r3_ne (n := 9) (m := 9) okD_int okD_int ?_)
  | ((with_reducible refine' Exists.intro _ (And.intro ?hx ?_)); (case hx => exact rfl))
  | ((with_reducible refine' And.intro ?hx ?_); (case hx => (show List.length _ ≤ 100000); exact Nat.le_of_ble_eq_true rfl)))

section
variable {P : Program} {w : World} {K : PySem.W.Frag} {mg : Str → Option Value} {base : Heap} {A0 : Adr}

def S_law (K : PySem.W.Frag) : Hp → Sp3 := fun F ds M Q _ => ∃ (a : Addr) (ns : List Int), ds = [.ref a] ∧ SqL K F a (ns.map V.int) ∧ ns.length ≤ 63 ∧ M = (fun _ => none) ∧ ∀ M', Q (.bl true) M'
theorem cutD_take {xs : List D} {n : Nat} : cutD xs none (some (n : Int)) = xs.take n := by
  unfold cutD
  rw [HT.sIx_nat]
  show (xs.drop 0).take (min n xs.length - 0) = _
  rw [List.drop_zero, Nat.sub_zero, List.take_eq_take_iff]
  omega
theorem rng_at {n i : Nat} {d : D} (h : ((List.range n).map fun (i : Nat) => D.int (i : Int))[i]? = some d) : d = .int (i : Int) ∧ i < n := by
  obtain ⟨k, h1, h2⟩ := map_at h
  obtain ⟨h3, h4⟩ := List.getElem?_eq_some_iff.mp h1
  have h5 : i = k := by simpa using h4
  subst h5
  exact ⟨h2, by simpa using h3⟩
theorem ok_law (T : Tx P K mg A0) : FnOk P w K mg base CX0 5 A0.f_law A0.d_law ["_law_script"] (lift3B (S_law K)) := by
  refine T.F_law.ok sc_law (lift3B_len fun F ds M Q E ⟨a, b, h, _⟩ => by rw [h]; rfl) (fun cdv A outer st0 H vs Q E hr h => ?_)
  have hu := hr.units
  have hu5 := units65 hr
  refine ⟨_, (pss_cons (ps_set (i := 1) sc_law.nd (by rfl) (Or.inl (by rfl)) (pe_call (ok_source T) (hr.mono (by decide)) (by rfl) T.g_source T.k_source T.b_source .nil pass0 (pa_cons (pv 0) pa_nil)))
  (pss_cons (ps_set (i := 2) sc_law.nd (by rfl) (Or.inl (by rfl)) (pe_lst pa_nil))
  (pss_cons (ps_set (i := 3) sc_law.nd (by rfl) (Or.inl (by rfl)) (pe_op op_modN (pe_op op_ADD pe_int (pe_call (ok_draw T) (hr.mono (by decide)) (by rfl) T.g_draw T.k_draw T.b_draw .nil pass0 (pa_cons (pv 1) (pa_cons pe_int pa_nil)))) pe_int))
  (pss_cons (ps_set (i := 4) sc_law.nd (by rfl) (Or.inl (by rfl)) (pe_call (ok_names T) (hr.mono (by decide)) (by rfl) T.g_names T.k_names T.b_names .nil pass0 (pa_cons (pv 1) (pa_cons (pv 3) pa_nil))))
  (pss_cons (ps_setLc (i := 6) (own := [("_law_k", 5)]) (g := (gName 5)) (by rfl) sc_law.nd (by rfl) (by rfl) (sw_true (by rfl) (by rfl) (by rfl) (by decide +kernel)) (pi_range1 (by rfl) T.n_range (pa_cons pe_int pa_nil)) (blkOk_by (N := ["_law_script", "_law_source_here", "_law_work", "_law_many", "_law_garments", "_law_k", "_law_tubs", "_law_left", "_law_garment", "_law_vats", "_law_j", "_law_words", "_law_wishes", "_law_darker", "_law_lighter", "_law_handed", "_law_answer", "_law_due", "_law_twice", "_law_entry"]) (sc := defScope s_law) (own := [("_law_k", 5)]) (by decide +kernel)) (fun _ _ _ _ _ => (pg_name (i := 5) sc_law.nd (by rfl) (Or.inl (by rfl)))) (fun _ _ _ _ _ => pts_nil) (fun _ _ _ _ _ => (pe_call (ok_word T) (hr.mono (by decide)) (by rfl) T.g_word T.k_word T.b_word .nil pass0 (pa_cons (pv 5) pa_nil))))
  (pss_cons (ps_if (pt_cmpR (op_eqDK K rfl hu) (pe_call (ok_draw T) (hr.mono (by decide)) (by rfl) T.g_draw T.k_draw T.b_draw .nil pass0 (pa_cons (pv 1) (pa_cons pe_int pa_nil))) pe_int (nomark _)) (pss_cons (ps_set (i := 4) sc_law.nd (by rfl) (Or.inl (by rfl)) (pe_slice (sl_SLK K rfl) (pe_lst (pa_cons pe_str (pa_cons pe_str (pa_cons pe_str (pa_cons pe_str (pa_cons pe_str (pa_cons pe_str (pa_cons pe_str (pa_cons pe_str pa_nil))))))))) po_none (po_some (pv 3))))
  (pss_one (ps_set (i := 6) sc_law.nd (by rfl) (Or.inl (by rfl)) (pe_op op_ADD (pe_lst (pa_cons pe_str (pa_cons pe_str (pa_cons pe_str pa_nil)))) (pe_slice (sl_SLK K rfl) (pv 6) (po_some pe_int) po_none))))) pss_nil)
  (pss_cons (ps_set (i := 7) sc_law.nd (by rfl) (Or.inl (by rfl)) pe_int)
  (pss_cons (ps_for PassesOwn.never (by rfl) (pi_list (pv 4)) (pg_name (i := 8) sc_law.nd (by rfl) (Or.inl (by rfl))) (pss_cons (ps_set (i := 9) sc_law.nd (by rfl) (Or.inl (by rfl)) (pe_lst pa_nil))
  (pss_cons (ps_for PassesOwn.never (by rfl) (pi_range1 (by rfl) T.n_range (pa_cons (pe_op op_modN (pe_op op_ADD pe_int (pe_call (ok_draw T) (hr.mono (by decide)) (by rfl) T.g_draw T.k_draw T.b_draw .nil pass0 (pa_cons (pv 1) (pa_cons pe_int pa_nil)))) pe_int) pa_nil)) (pg_name (i := 10) sc_law.nd (by rfl) (Or.inl (by rfl))) (pss_one (ps_if (pt_cmpR op_gt (pv 7) pe_int (nomark _)) (pss_cons (ps_expr (pe_bm PySem.F.plainAttrs_list PySem.F.slot_list_append PySem.F.type_list_append mt_append (pv 9) (pa_cons (pe_ix (ix_seqK K rfl) (pv 6) (pe_call (ok_draw T) (hr.mono (by decide)) (by rfl) T.g_draw T.k_draw T.b_draw .nil pass0 (pa_cons (pv 1) (pa_cons pe_int pa_nil))) (fun _ _ => by rfl)) pa_nil)))
  (pss_one (ps_set (i := 7) sc_law.nd (by rfl) (Or.inl (by rfl)) (pe_op op_sub (pv 7) pe_int)))) pss_nil)))
  (pss_one (ps_expr (pe_bm PySem.F.plainAttrs_list PySem.F.slot_list_append PySem.F.type_list_append mt_append (pv 2) (pa_cons (pe_tup (pa_cons (pv 8) (pa_cons (pv 9) pa_nil))) pa_nil)))))))
  (pss_cons (ps_set (i := 11) sc_law.nd (by rfl) (Or.inl (by rfl)) (pe_op op_ADD (pv 4) (pe_lst (pa_cons (pe_op op_ADD pe_str (pe_bm PySem.F.plainAttrs_str PySem.F.slot_str_join PySem.F.type_str_join mt_JOIN pe_str (pa_cons (pv 4) pa_nil))) pa_nil))))
  (pss_cons (ps_set (i := 12) sc_law.nd (by rfl) (Or.inl (by rfl)) (pe_lst pa_nil))
  (pss_cons (ps_for PassesOwn.never (by rfl) (pi_range1 (by rfl) T.n_range (pa_cons (pe_op op_modN (pe_op op_ADD pe_int (pe_call (ok_draw T) (hr.mono (by decide)) (by rfl) T.g_draw T.k_draw T.b_draw .nil pass0 (pa_cons (pv 1) (pa_cons pe_int pa_nil)))) pe_int) pa_nil)) (pg_name (i := 5) sc_law.nd (by rfl) (Or.inl (by rfl))) (pss_cons (ps_set (i := 13) sc_law.nd (by rfl) (Or.inl (by rfl)) (pe_call (ok_draw T) (hr.mono (by decide)) (by rfl) T.g_draw T.k_draw T.b_draw .nil pass0 (pa_cons (pv 1) (pa_cons (pe_callB (call_lenK K rfl) (by rfl) T.n_len PySem.boot_len (pa_cons (pv 11) pa_nil)) pa_nil))))
  (pss_cons (ps_set (i := 14) sc_law.nd (by rfl) (Or.inl (by rfl)) (pe_call (ok_draw T) (hr.mono (by decide)) (by rfl) T.g_draw T.k_draw T.b_draw .nil pass0 (pa_cons (pv 1) (pa_cons (pe_callB (call_lenK K rfl) (by rfl) T.n_len PySem.boot_len (pa_cons (pv 11) pa_nil)) pa_nil))))
  (pss_one (ps_if (pt_cmpR (op_neDK K rfl hu) (pe_call (ok_draw T) (hr.mono (by decide)) (by rfl) T.g_draw T.k_draw T.b_draw .nil pass0 (pa_cons (pv 1) (pa_cons pe_int pa_nil))) pe_int (nomark _)) (pss_one (ps_expr (pe_bm PySem.F.plainAttrs_list PySem.F.slot_list_append PySem.F.type_list_append mt_append (pv 12) (pa_cons (pe_tup (pa_cons (pe_ix (ix_seqK K rfl) (pv 11) (pe_callB (call_max2 (by rfl)) (by rfl) T.n_max (by decide +kernel) (pa_cons (pv 13) (pa_cons (pv 14) pa_nil))) (fun _ _ => by rfl)) (pa_cons (pe_ix (ix_seqK K rfl) (pv 11) (pe_op op_sub (pe_callB (call_min2 (by rfl)) (by rfl) T.n_min (by decide +kernel) (pa_cons (pv 13) (pa_cons (pv 14) pa_nil))) (pe_callTy call_int1 (by rfl) T.n_int (by decide +kernel) (pa_cons (pe_cmpR (op_eqDK K rfl hu) (pv 13) (pv 14) (nomark _)) pa_nil))) (fun _ _ => by rfl)) pa_nil))) pa_nil)))) (pss_one (ps_expr (pe_bm PySem.F.plainAttrs_list PySem.F.slot_list_append PySem.F.type_list_append mt_append (pv 12) (pa_cons (pe_tup (pa_cons (pe_ix (ix_seqK K rfl) (pv 11) (pv 13) (fun _ _ => by rfl)) (pa_cons (pe_ix (ix_seqK K rfl) (pv 11) (pv 14) (fun _ _ => by rfl)) pa_nil))) pa_nil)))))))))
  (pss_cons (ps_set (i := 15) sc_law.nd (by rfl) (Or.inl (by rfl)) (pe_lst (pa_cons (pe_lc (own := [("_law_entry", 19)]) (g := (gName 19)) (by rfl) sc_law.nd (pi_list (pv 2)) (blkOk_by (N := ["_law_script", "_law_source_here", "_law_work", "_law_many", "_law_garments", "_law_k", "_law_tubs", "_law_left", "_law_garment", "_law_vats", "_law_j", "_law_words", "_law_wishes", "_law_darker", "_law_lighter", "_law_handed", "_law_answer", "_law_due", "_law_twice", "_law_entry"]) (sc := defScope s_law) (own := [("_law_entry", 19)]) (by decide +kernel)) (fun _ _ _ _ _ => (pg_name (i := 19) sc_law.nd (by rfl) (Or.inl (by rfl)))) (fun _ _ _ _ _ => pts_nil) (fun _ _ _ _ _ => (pe_tup (pa_cons (pe_ix (ix_seqK K rfl) (pv 19) pe_int (fun _ _ => by rfl)) (pa_cons (pe_callTy (call_lstK K rfl) (by rfl) T.n_list (by decide +kernel) (pa_cons (pe_ix (ix_seqK K rfl) (pv 19) pe_int (fun _ _ => by rfl)) pa_nil)) pa_nil))))) (pa_cons (pe_callTy (call_lstK K rfl) (by rfl) T.n_list (by decide +kernel) (pa_cons (pv 12) pa_nil)) pa_nil))))
  (pss_cons (ps_set (i := 16) sc_law.nd (by rfl) (Or.inl (by rfl)) (pe_call (ok_asked T) (hr.mono (by decide)) (by rfl) T.g_asked T.k_asked T.b_asked .nil pass0 (pa_cons (pe_ix (ix_seqK K rfl) (pv 15) pe_int (fun _ _ => by rfl)) (pa_cons (pe_ix (ix_seqK K rfl) (pv 15) pe_int (fun _ _ => by rfl)) pa_nil))))
  (pss_cons (ps_set (i := 17) sc_law.nd (by rfl) (Or.inl (by rfl)) (pe_call (ok_ranked T) (hr.mono (by decide)) (by rfl) T.g_ranked T.k_ranked T.b_ranked .nil pass0 (pa_cons (pv 2) (pa_cons (pv 12) pa_nil))))
  (pss_cons (ps_if (PW.pt (pw_or (pt_truthK K rfl (pe_ix (ix_seqK K rfl) (pv 16) pe_int (fun _ _ => by rfl)) (by intro _; rfl)) (pw_or1 (pt_cmpR (op_neDK K rfl hu) (pe_ix (ix_seqK K rfl) (pv 16) pe_int (fun _ _ => by rfl)) (pe_ix (ix_seqK K rfl) (pe_lst (pa_cons pe_str (pa_cons pe_str pa_nil))) (pe_callTy call_int1 (by rfl) T.n_int (by decide +kernel) (pa_cons (pe_cmp (pc_isN (pv 17)) (by rfl)) pa_nil)) (fun _ _ => by rfl)) (nomark _))))) (pss_one (ps_ret pe_bl)) pss_nil)
  (pss_cons (ps_if (PW.pt (pw_and (pt_cmp (pc_notN (pv 17)) (by rfl)) (pw_and1 (pt_cmpR (op_neDK K rfl hu) (pe_ix (ix_seqK K rfl) (pv 16) pe_int (fun _ _ => by rfl)) (pv 17) (nomark _))))) (pss_one (ps_ret pe_bl)) pss_nil)
  (pss_cons (ps_if (PW.pt (pw_and (pt_cmp (pc_isN (pv 17)) (by rfl)) (pw_and1 (pt_not (pt_truthK K rfl (pe_call (ok_is_ring T) (hr.mono (by decide)) (by rfl) T.g_is_ring T.k_is_ring T.b_is_ring .nil pass0 (pa_cons (pe_ix (ix_seqK K rfl) (pv 16) pe_int (fun _ _ => by rfl)) (pa_cons (pv 2) (pa_cons (pv 12) pa_nil)))) (by intro _; rfl)))))) (pss_one (ps_ret pe_bl)) pss_nil)
  (pss_cons (ps_if (PW.pt (pw_or (pt_cmpR (op_neDK K rfl hu) (pe_ix (ix_seqK K rfl) (pv 15) pe_int (fun _ _ => by rfl)) (pv 2) (nomark _)) (pw_or1 (pt_cmpR (op_neDK K rfl hu) (pe_ix (ix_seqK K rfl) (pv 15) pe_int (fun _ _ => by rfl)) (pv 12) (nomark _))))) (pss_one (ps_ret pe_bl)) pss_nil)
  (pss_cons (ps_if (pt_cmpR (op_eqDK K rfl hu) (pv 2) (pe_lst pa_nil) (nomark _)) (pss_one (ps_ret (pe_cmpR (op_eqDK K rfl hu) (pe_call (ok_asked T) (hr.mono (by decide)) (by rfl) T.g_asked T.k_asked T.b_asked .nil pass0 (pa_cons (pe_lst pa_nil) (pa_cons (pe_lst (pa_cons (pe_tup (pa_cons pe_str (pa_cons pe_str pa_nil))) (pa_cons (pe_tup (pa_cons pe_str (pa_cons pe_str pa_nil))) pa_nil))) pa_nil))) (pe_lst (pa_cons pe_str (pa_cons (pe_lst pa_nil) (pa_cons pe_bl pa_nil)))) (nomark _)))) pss_nil)
  (pss_cons (ps_set (i := 18) sc_law.nd (by rfl) (Or.inl (by rfl)) (pe_ix (ix_seqK K rfl) (pe_ix (ix_seqK K rfl) (pv 2) (pe_call (ok_draw T) (hr.mono (by decide)) (by rfl) T.g_draw T.k_draw T.b_draw .nil pass0 (pa_cons (pv 1) (pa_cons (pe_callB (call_lenK K rfl) (by rfl) T.n_len PySem.boot_len (pa_cons (pv 2) pa_nil)) pa_nil))) (fun _ _ => by rfl)) pe_int (fun _ _ => by rfl)))
  (pss_cons (ps_if (pt_cmpR (op_neDK K rfl hu) (pe_call (ok_asked T) (hr.mono (by decide)) (by rfl) T.g_asked T.k_asked T.b_asked .nil pass0 (pa_cons (pe_op op_ADD (pv 2) (pe_lst (pa_cons (pe_tup (pa_cons (pv 18) (pa_cons (pe_lst pa_nil) pa_nil))) (pa_cons (pe_tup (pa_cons (pe_ix (ix_seqK K rfl) (pe_ix (ix_seqK K rfl) (pv 2) pe_int (fun _ _ => by rfl)) pe_int (fun _ _ => by rfl)) (pa_cons (pe_lst (pa_cons pe_str pa_nil)) pa_nil))) pa_nil)))) (pa_cons (pv 12) pa_nil))) (pe_lst (pa_cons pe_str (pa_cons (pv 18) (pa_cons pe_bl pa_nil)))) (nomark _)) (pss_one (ps_ret pe_bl)) pss_nil)
  (pss_one (ps_ret (pe_and (pe_cmpR (op_eqDK K rfl hu) (pe_ix (ix_seqK K rfl) (pe_call (ok_asked T) (hr.mono (by decide)) (by rfl) T.g_asked T.k_asked T.b_asked .nil pass0 (pa_cons (pv 2) (pa_cons (pv 12) pa_nil))) pe_int (fun _ _ => by rfl)) (pe_ix (ix_seqK K rfl) (pv 16) pe_int (fun _ _ => by rfl)) (nomark _)) (pe_one (pe_cmpR (op_eqDK K rfl hu) (pe_call (ok_asked T) (hr.mono (by decide)) (by rfl) T.g_asked T.k_asked T.b_asked .nil pass0 (pa_cons (pv 2) (pa_cons (pe_lst pa_nil) pa_nil))) (pe_lst (pa_cons pe_str (pa_cons (pe_call (ok_ranked T) (hr.mono (by decide)) (by rfl) T.g_ranked T.k_ranked T.b_ranked .nil pass0 (pa_cons (pv 2) (pa_cons (pe_lst pa_nil) pa_nil))) (pa_cons pe_bl pa_nil)))) (nomark _))))))))))))))))))))))))))), run3B h fun B ds M Q3 E3 hs hE => ?_⟩
  obtain ⟨a, ns, rfl, hS, hl, rfl, q⟩ := hs
  change W3s B _ _ [some (.ref a), none, none, none, none, none, none, none, none, none, none, none, none, none, none, none, none, none, none, none] _
  try dsimp only [cxOf, Cx.nox, Cx.wish]
  repeat walk_at "t3"
  refine w_callB0 source_mono ?_
  repeat walk_at "t3"
  refine ⟨a, ns, rfl, hS, hl, fun s o _ ho => ?_⟩
  repeat walk_at "t3"
  refine w_lstO ?_
  repeat walk_at "t3"
  intro pw hpw
  have hsw : s ≠ pw := fun e => by subst e; rw [mput_same] at hpw; cases hpw
  rw [mput_comm hsw]
  have hs1 : ∀ o : DO, mput (mput (fun _ => none) pw (.lst [])) s o s = some o := fun o => mput_same
  repeat walk_at "t3"
  refine ⟨s, 9, o, rfl, hs1 o, ho, by decide, by decide, fun r o1 r0 r1 ho1 => ?_⟩
  rw [mput_mput]
  repeat walk_at "t3"
  refine r3_mod (by decide) ?_
  obtain ⟨many, hmany, hm8⟩ : ∃ m : Nat, (3 + r) % 9 = (m : Int) ∧ m ≤ 8 := ⟨((3 + r) % 9).toNat, by omega, by omega⟩
  rw [hmany]
  clear hmany r0 r1
  repeat walk_at "t3"
  refine ⟨s, many, o1, rfl, hs1 o1, ho1, hm8, fun gs o2 hgs ho2 => ?_⟩
  rw [mput_mput]
  repeat walk_at "t3"
  refine w_lcP (fun _ => true) (fun d => match d with | .int k => .str (wordS k.toNat) | d => d) own_name (i_rng1 ?_)
  repeat walk_at "t3"
  refine ⟨by decide, by decide, by decide, trivial, ?_, ?_⟩
  · intro i d M' hi _
    obtain ⟨rfl, hi'⟩ := rng_at hi
    repeat walk_at "t3"
    refine ⟨rfl, ?_⟩
    repeat walk_at "t3"
    refine ⟨rfl, rfl, fun _ => ?_⟩
    repeat walk_at "t3"
    refine ⟨i, rfl, ?_, rfl, rfl⟩
    have : i < 30 := hi'
    omega
  obtain ⟨tubs, htubs, et⟩ : ∃ l, Tubs l ∧ (((List.range (Int.toNat 30)).map (fun (i : Nat) => D.int (i : Int))).filter (fun _ => true)).map (fun d => match d with | .int k => .str (wordS k.toNat) | d => d) = l.map D.str := by
    refine ⟨(List.range 30).map wordS, ⟨by simp, fun s hs => ?_⟩, ?_⟩
    · obtain ⟨k, hk, rfl⟩ := List.mem_map.mp hs
      have := List.mem_range.mp hk
      exact okS_word (by omega)
    · rw [List.filter_eq_self.mpr (fun _ _ => rfl), List.map_map, List.map_map]
      rfl
  rw [et]
  have hX : ∀ (l : List D) (o : DO), mput (mput (fun _ => none) pw (.lst l)) s o s = some o := fun l o => mput_same
  refine s_seqM (fun σ' M' => ∃ (gs tubs : List Str) (o' : DO), Names many gs ∧ Tubs tubs ∧ IsSrc o' ∧ σ' = [some (.ref a), some (.ref s), some (.ref pw), some (.int many), some (.lst (gs.map .str)), none, some (.lst (tubs.map .str)), none, none, none, none, none, none, none, none, none, none, none, none, none] ∧ M' = mput (mput (fun _ => none) pw (.lst [])) s o') ?_ ?_
  · repeat walk_at "t3"
    refine ⟨s, 3, o2, rfl, hX _ _, ho2, by decide, by decide, fun r o3 r0 r1 ho3 => ?_⟩
    rw [mput_mput]
    repeat walk_at "t3"
    refine iteB (fun _ => ?_) (fun _ => ?_)
    · repeat walk_at "t3"
      refine w_lst ?_
      repeat walk_at "t3"
      refine s3_l .fz ?_
      repeat walk_at "t3"
      refine w_lst ?_
      repeat walk_at "t3"
      refine s3_l .fz ?_
      repeat walk_at "t3"
      have l3 : 3 ≤ (tubs.map D.str).length := by rw [List.length_map, htubs.1]; decide
      have e3 := cutD_drop l3
      rw [show ((3 : Nat) : Int) = 3 from rfl] at e3
      rw [e3]
      refine r3_add_ll .fz .fz (by rw [List.length_drop, List.length_map, htubs.1]; decide) ?_
      repeat walk_at "t3"
      refine ⟨fixedG.take many, (["", "P 1", "0"] : List Str) ++ tubs.drop 3, o3, fixed_names hm8, ⟨by rw [List.length_append, List.length_drop, htubs.1]; rfl, fun x hx => ?_⟩, ho3, ?_, rfl⟩
      · rcases List.mem_append.mp hx with h | h
        · have : ∀ x ∈ (["", "P 1", "0"] : List Str), x.cps.all (· < 0x110000) = true ∧ x.length ≤ 100 := by decide +kernel
          exact this x h
        · exact htubs.2 x (List.mem_of_mem_drop h)
      · rw [← List.map_drop, cutD_take]
        simp only [List.map_take, List.map_append]
        rfl
    · repeat walk_at "t3"
      exact ⟨gs, tubs, o3, hgs, htubs, ho3, rfl, rfl⟩
  rintro _ _ ⟨gs, tubs, o3, hgs, htubs, ho3, rfl, rfl⟩
  repeat walk_at "t3"
  refine s_for (i_list ?_)
  repeat walk_at "t3"
  refine ⟨fun i σ' M' => ∃ (wk : List (Str × List Str)) (o' : DO) (left : Nat) (b8 b9 b10 : Option D), wk.map (·.1) = gs.take i ∧ potsN wk + left = 20 ∧ WkOk wk ∧ IsSrc o' ∧
    σ' = [some (.ref a), some (.ref s), some (.ref pw), some (.int many), some (.lst (gs.map .str)), none, some (.lst (tubs.map .str)), some (.int left), b8, b9, b10, none, none, none, none, none, none, none, none, none] ∧ M' = mput (mput (fun _ => none) pw (.lst (wk.map eD))) s o', fun _ _ _ _ => trivial, ⟨[], o3, 20, none, none, none, rfl, rfl, fun _ h => (by cases h), ho3, rfl, rfl⟩, ?_, ?_⟩
  · rintro i d σ' M' hi ⟨wk, o4, left, b8, b9, b10, hwk, hsum, okw, ho4, rfl, rfl⟩
    obtain ⟨g, hg, rfl⟩ := map_at hi
    have okg : okS g := hgs.2.2 g (List.mem_of_getElem? hg)
    have hi8 : i < gs.length := (List.getElem?_eq_some_iff.mp hg).1
    repeat walk_at "t3"
    refine w_lstO ?_
    repeat walk_at "t3"
    intro pv hpv
    have hsv : pv ≠ s := fun e => by subst e; rw [mput_same] at hpv; cases hpv
    have hwv : pv ≠ pw := fun e => by subst e; rw [mput_ne hsv, mput_same] at hpv; cases hpv
    rw [mput_comm (Ne.symm hsv)]
    generalize hX0 : mput (fun _ => none) pw (.lst (wk.map eD)) = X at *
    have hXv : X pv = none := by rw [mput_ne hsv] at hpv; exact hpv
    have hXs : ∀ l o', mput (mput X pv l) s o' s = some o' := fun l o' => mput_same
    have hXp : ∀ l o', mput (mput X pv l) s o' pv = some l := fun l o' => by rw [mput_ne hsv]; exact mput_same
    repeat walk_at "t3"
    refine s_for (i_rng1 ?_)
    repeat walk_at "t3"
    refine ⟨s, 7, o4, rfl, hXs _ _, ho4, by decide, by decide, fun r o5 r0 r1 ho5 => ?_⟩
    rw [mput_mput]
    repeat walk_at "t3"
    refine r3_mod (by decide) ?_
    repeat walk_at "t3"
    refine ⟨by omega, by omega, fun j σ' M' => ∃ (vats : List Str) (o' : DO) (left' : Nat) (b10 : Option D), vats.length + left' = left ∧ (∀ p ∈ vats, okT p) ∧ IsSrc o' ∧
      σ' = [some (.ref a), some (.ref s), some (.ref pw), some (.int many), some (.lst (gs.map .str)), none, some (.lst (tubs.map .str)), some (.int left'), some (.str g), some (.ref pv), b10, none, none, none, none, none, none, none, none, none] ∧ M' = mput (mput X pv (.lst (vats.map .str))) s o', fun _ _ _ _ => trivial, ⟨[], o5, left, _, Nat.zero_add _, fun _ h => (by cases h), ho5, rfl, rfl⟩, ?_, ?_⟩
    · rintro j d σ' M' hj ⟨vats, o6, left', b10', hv, okv, ho6, rfl, rfl⟩
      repeat walk_at "t3"
      refine iteB (fun hgt => ?_) (fun hgt => ?_)
      · have hgt := of_decide_eq_true hgt
        repeat walk_at "t3"
        refine ⟨.lo (hXp _ _), ?_⟩
        repeat walk_at "t3"
        refine ⟨s, 30, o6, rfl, hXs _ _, ho6, by decide, by decide, fun r o7 r0 r1 ho7 => ?_⟩
        rw [mput_mput]
        obtain ⟨t, ht, hat⟩ := atI_some (l := tubs) (z := r) (by omega) (by rw [htubs.1]; exact r1)
        refine r3_ix_l .fz hat ?_
        repeat walk_at "t3"
        refine m3_append (hXp _ _) (by rw [List.length_map]; omega) ?_
        rw [mput3 hsv]
        repeat walk_at "t3"
        refine ⟨vats ++ [t], o7, left' - 1, some d, ?_, fun p hp => ?_, ho7, ?_, ?_⟩
        · rw [List.length_append]; show vats.length + 1 + (left' - 1) = left; omega
        · rcases List.mem_append.mp hp with h | h
          · exact okv p h
          · have : p = t := by simpa using h
            rw [this]; exact (htubs.2 t ht).1
        · rw [show ((left' : Int) - 1) = ((left' - 1 : Nat) : Int) by omega]; rfl
        · rw [List.map_append]; rfl
      · refine s_next ?_
        exact ⟨vats, o6, left', _, hv, okv, ho6, rfl, rfl⟩
    · rintro σ' M' ⟨vats, o6, left', b10', hv, okv, ho6, rfl, rfl⟩
      show W3s B _ _ _ _
      refine s_vs (vss_lst 9 rfl (hXp _ _)) ?_
      rw [mput_comm hsv, mdel_mput (by rw [mput_ne hsv]; exact hXv), ← hX0]
      have hpw' : mput (mput (fun _ => none) pw (.lst (wk.map eD))) s o6 pw = some (.lst (wk.map eD)) := by rw [mput_ne (Ne.symm hsw)]; exact mput_same
      have lwk : wk.length ≤ 8 := by
        have e := congrArg List.length hwk
        rw [List.length_map, List.length_take, hgs.1] at e
        omega
      repeat walk_at "t3"
      refine ⟨.lo hpw', ?_⟩
      repeat walk_at "t3"
      refine m3_append hpw' (by rw [List.length_map]; omega) ?_
      rw [mput3 (Ne.symm hsw)]
      repeat walk_at "t3"
      refine ⟨wk ++ [(g, vats)], o6, left', _, _, _, ?_, ?_, ?_, ho6, rfl, ?_⟩
      · rw [List.map_append, hwk, List.take_succ_eq_append_getElem hi8]
        show _ ++ [g] = _
        rw [(List.getElem?_eq_some_iff.mp hg).2]
      · have : potsN (wk ++ [(g, vats)]) = potsN wk + vats.length := by simp [potsN]
        omega
      · intro e he
        rcases List.mem_append.mp he with h | h
        · exact okw e h
        · have : e = (g, vats) := by simpa using h
          subst this; exact ⟨okg.1, okv⟩
      · rw [List.map_append]; rfl
  rintro σ' M' ⟨wk, o4, left, b8, b9, b10, hwk, hsum, okw, ho4, rfl, rfl⟩
  rw [List.length_map, List.take_length] at hwk
  have lwk : wk.length = many := by rw [← hgs.1, ← hwk, List.length_map]
  have okgs : ∀ x ∈ gs, okT x := fun x hx => (hgs.2.2 x hx).1
  obtain ⟨jo, jl⟩ := okS_join gs hgs.2.2
  have jl : (Str.join (Str.ofString "") gs).length ≤ 800 := by rw [hgs.1] at jl; omega
  have hsum2 : (gs.map (·.length)).sum ≤ 800 := by
    have : ∀ l : List Str, (∀ x ∈ l, okS x) → (l.map (·.length)).sum ≤ 100 * l.length := fun l => by
      induction l with
      | nil => intro _; exact Nat.zero_le _
      | cons x l ih =>
        intro h
        have h1 := (h x (List.mem_cons_self ..)).2
        have h2 := ih fun y hy => h y (List.mem_cons_of_mem _ hy)
        rw [List.map_cons, List.sum_cons, List.length_cons]
        omega
    have := this gs hgs.2.2
    rw [hgs.1] at this; omega
  repeat walk_at "t3"
  refine w_lst ?_
  repeat walk_at "t3"
  refine ⟨.txt, ?_⟩
  repeat walk_at "t3"
  refine m3_join .fz (by rw [show (Str.ofString "").length = 0 from rfl, Nat.mul_zero]; omega) ?_
  rw [TL.join_eq]
  refine r3_add_ss (by rw [show (Str.ofString "z").length = 1 from rfl]; omega) ?_
  have okz : okT (Str.ofString "z" ++ Str.join (Str.ofString "") gs) := okT_app (by unfold okT; decide +kernel) jo
  generalize Str.ofString "z" ++ Str.join (Str.ofString "") gs = z at okz ⊢
  repeat walk_at "t3"
  refine r3_add_ll .fz .fz (by rw [List.length_map, hgs.1]; show many + 1 ≤ _; omega) ?_
  have ew : gs.map D.str ++ [.str z] = (gs ++ [z]).map D.str := by rw [List.map_append]; rfl
  rw [ew]
  have okws : ∀ x ∈ gs ++ [z], okT x := fun x hx => by
    rcases List.mem_append.mp hx with h | h
    · exact okgs x h
    · have : x = z := by simpa using h
      rw [this]; exact okz
  have lws : (gs ++ [z]).length = many + 1 := by rw [List.length_append, hgs.1]; rfl
  generalize gs ++ [z] = words at okws lws ⊢
  repeat walk_at "t3"
  refine w_lstO ?_
  repeat walk_at "t3"
  intro pq hpq
  have hqs : pq ≠ s := fun e => by subst e; rw [mput_same] at hpq; cases hpq
  have hqw : pq ≠ pw := fun e => by subst e; rw [mput_ne hqs, mput_same] at hpq; cases hpq
  rw [mput_comm (Ne.symm hqs)]
  have hXs : ∀ (l : DO) o', mput (mput (mput (fun _ => none) pw (.lst (wk.map eD))) pq l) s o' s = some o' := fun l o' => mput_same
  have hXq : ∀ (l : DO) o', mput (mput (mput (fun _ => none) pw (.lst (wk.map eD))) pq l) s o' pq = some l := fun l o' => by rw [mput_ne hqs]; exact mput_same
  have hXw : ∀ (l : DO) o', mput (mput (mput (fun _ => none) pw (.lst (wk.map eD))) pq l) s o' pw = some (.lst (wk.map eD)) := fun l o' => by rw [mput_ne (Ne.symm hsw), mput_ne (Ne.symm hqw)]; exact mput_same
  repeat walk_at "t3"
  refine s_for (i_rng1 ?_)
  repeat walk_at "t3"
  refine ⟨s, 9, o4, rfl, hXs _ _, ho4, by decide, by decide, fun r o5 r0 r1 ho5 => ?_⟩
  rw [mput_mput]
  repeat walk_at "t3"
  refine r3_mod (by decide) ?_
  repeat walk_at "t3"
  refine ⟨by omega, by omega, fun j σ' M' => ∃ (wi : List (Str × Str)) (o' : DO) (b5 b13 b14 : Option D), wi.length ≤ j ∧ WiOk wi ∧ IsSrc o' ∧
      σ' = [some (.ref a), some (.ref s), some (.ref pw), some (.int many), some (.lst (gs.map .str)), b5, some (.lst (tubs.map .str)), some (.int left), b8, b9, b10, some (.lst (words.map .str)), some (.ref pq), b13, b14, none, none, none, none, none] ∧ M' = mput (mput (mput (fun _ => none) pw (.lst (wk.map eD))) pq (.lst (wi.map wD))) s o', fun _ _ _ _ => trivial, ⟨[], o5, _, _, _, Nat.le_refl _, fun _ h => (by cases h), ho5, rfl, rfl⟩, ?_, ?_⟩
  · rintro j d σ' M' hj ⟨wi, o6, b5, b13, b14, hwi, okw2, ho6, rfl, rfl⟩
    have hj7 : j < 9 := by
      have := (List.getElem?_eq_some_iff.mp hj).1
      rw [List.length_map, List.length_range] at this
      omega
    repeat walk_at "t3"
    refine ⟨s, _, o6, rfl, hXs _ _, ho6, by rw [List.length_map, lws]; omega, by rw [List.length_map, lws]; omega, fun dk o7 d0 d1 ho7 => ?_⟩
    rw [mput_mput]
    repeat walk_at "t3"
    refine ⟨s, _, o7, rfl, hXs _ _, ho7, by rw [List.length_map, lws]; omega, by rw [List.length_map, lws]; omega, fun lt o8 l0 l1 ho8 => ?_⟩
    rw [mput_mput]
    rw [List.length_map] at d1 l1
    have okp : ∀ x y : Str, x ∈ words → y ∈ words → WiOk (wi ++ [(x, y)]) := fun x y hx hy e he => by
      rcases List.mem_append.mp he with h | h
      · exact okw2 e h
      · have : e = (x, y) := by simpa using h
        subst this; exact ⟨okws x hx, okws y hy⟩
    repeat walk_at "t3"
    refine ⟨s, 6, o8, rfl, hXs _ _, ho8, by decide, by decide, fun r o9 r0 r1 ho9 => ?_⟩
    rw [mput_mput]
    repeat walk_at "t3"
    refine iteB (fun _ => ?_) (fun _ => ?_)
    · repeat walk_at "t3"
      refine ⟨.lo (hXq _ _), ?_⟩
      repeat walk_at "t3"
      obtain ⟨x, hx, hax⟩ := atI_some (l := words) (z := if lt > dk then lt else dk) (by split <;> omega) (by split <;> omega)
      refine r3_ix_l .fz hax ?_
      repeat walk_at "t3"
      obtain ⟨y, hy, hay⟩ := atI_some (l := words) (z := (if lt < dk then lt else dk) - (if peq (.int dk) (.int lt) = true then 1 else 0)) (by split <;> split <;> omega) (by split <;> split <;> omega)
      refine r3_ix_l .fz hay ?_
      repeat walk_at "t3"
      refine m3_append (hXq _ _) (by rw [List.length_map]; omega) ?_
      rw [mput3 hqs]
      repeat walk_at "t3"
      exact ⟨wi ++ [(x, y)], o9, some d, some (.int dk), some (.int lt), by rw [List.length_append]; show wi.length + 1 ≤ j + 1; omega, okp x y hx hy, ho9, rfl, by rw [List.map_append]; rfl⟩
    · repeat walk_at "t3"
      refine ⟨.lo (hXq _ _), ?_⟩
      repeat walk_at "t3"
      obtain ⟨x, hx, hax⟩ := atI_some (l := words) (z := dk) (by omega) (by omega)
      refine r3_ix_l .fz hax ?_
      repeat walk_at "t3"
      obtain ⟨y, hy, hay⟩ := atI_some (l := words) (z := lt) (by omega) (by omega)
      refine r3_ix_l .fz hay ?_
      repeat walk_at "t3"
      refine m3_append (hXq _ _) (by rw [List.length_map]; omega) ?_
      rw [mput3 hqs]
      repeat walk_at "t3"
      exact ⟨wi ++ [(x, y)], o9, some d, some (.int dk), some (.int lt), by rw [List.length_append]; show wi.length + 1 ≤ j + 1; omega, okp x y hx hy, ho9, rfl, by rw [List.map_append]; rfl⟩
  rintro σ' M' ⟨wi, o6, b5, b13, b14, lwi, okwi, ho6, rfl, rfl⟩
  have lwi : wi.length ≤ 9 := by
    rw [List.length_map, List.length_range] at lwi
    omega
  show W3s B _ _ _ _
  refine s_vs (vss_lst 2 rfl (hXw _ _)) ?_
  have e1 : mdel (mput (mput (mput (fun _ => none) pw (.lst (wk.map eD))) pq (.lst (wi.map wD))) s o6) pw = mput (mput (fun _ => none) pq (.lst (wi.map wD))) s o6 := by
    rw [mput_comm (Ne.symm hqw), mput_comm (Ne.symm hsw), mdel_mput (by rw [mput_ne (Ne.symm hsw), mput_ne (Ne.symm hqw)])]
  rw [e1]
  refine s_vs (vss_lst 12 rfl (by rw [mput_ne hqs]; exact mput_same)) ?_
  have e2 : mdel (mput (mput (fun _ => none) pq (.lst (wi.map wD))) s o6) pq = mput (fun _ => none) s o6 := by
    rw [mput_comm hqs, mdel_mput (by rw [mput_ne hqs])]
  rw [e2]
  have hXs : ∀ o', mput (fun _ => none) s o' s = some o' := fun o' => mput_same
  repeat walk_at "t3"
  refine w_lst ?_
  repeat walk_at "t3"
  refine w_lcP (fun _ => true) (fun d => d) own_name (i_list ?_)
  repeat walk_at "t3"
  refine ⟨by rw [List.length_map]; omega, trivial, ?_, ?_⟩
  · intro i d M' hi _
    obtain ⟨⟨c, pots⟩, hab, rfl⟩ := map_at hi
    repeat walk_at "t3"
    refine ⟨rfl, ?_⟩
    repeat walk_at "t3"
    refine ⟨rfl, rfl, fun _ => ?_⟩
    repeat walk_at "t3"
    refine r3_ix_t (at3 (j := 0) (by omega) (v := .str c) rfl) ?_
    repeat walk_at "t3"
    refine r3_ix_t (at3 (j := 1) (by omega) (v := .lst (pots.map .str)) rfl) ?_
    repeat walk_at "t3"
    refine c3_lst .fz ?_
    repeat walk_at "t3"
    exact ⟨rfl, rfl⟩
  rw [List.filter_eq_self.mpr (fun _ _ => rfl), List.map_id']
  repeat walk_at "t3"
  refine c3_lst .fz ?_
  repeat walk_at "t3"
  refine r3_ix_l .fz (at3 (j := 0) (by omega) (v := .lst (wk.map eD)) rfl) ?_
  repeat walk_at "t3"
  refine r3_ix_l .fz (at3 (j := 1) (by omega) (v := .lst (wi.map wD)) rfl) ?_
  repeat walk_at "t3"
  have nd : (wk.map (·.1)).Nodup := by rw [hwk]; exact hgs.2.1
  have hp1000 : potsN wk ≤ 1000 := by omega
  have lwk' : wk.length ≤ 1000 := by omega
  have lwi' : wi.length ≤ 1000 := by omega
  refine asked_of okw okwi lwk' lwi' hp1000 (names_dup nd) (fun kind x hA => ?_)
  repeat walk_at "t3"
  refine ⟨wk, wi, rfl, okw, okwi, lwk', lwi', hp1000, ?_⟩
  have okk := ansC_ok hA
  -- the three questions about the answer
  refine s_seqM (fun σ' M' => σ' = [some (.ref a), some (.ref s), some (.lst (wk.map eD)), some (.int many), some (.lst (gs.map .str)), b5, some (.lst (tubs.map .str)), some (.int left), b8, b9, b10, some (.lst (words.map .str)), some (.lst (wi.map wD)), b13, b14, some (.lst [.lst (wk.map eD), .lst (wi.map wD)]), some (.lst [.str kind, x, .bl false]), some (match ranked wk wi with | some row => .lst (row.map wD) | none => .non), none, none] ∧ M' = mput (fun _ => none) s o6) ?_ ?_
  · rcases hA with ⟨rfl, row, hrow, rfl⟩ | ⟨rfl, hnone, rg, hrg, rfl⟩
    · rw [hrow]
      refine s_if (w_orTP (a := false) (b := false) ?_ (fun _ => ?_) ?_)
      · repeat walk_at "t3"
        refine r3_ix_l .fz (at3 (j := 2) (by omega) (v := .bl false) rfl) ?_
        exact ⟨false, rfl, rfl, rfl⟩
      · repeat walk_at "t3"
        refine r3_ix_l .fz (at3 (j := 0) (by omega) (v := .str (Str.ofString "row")) rfl) ?_
        repeat walk_at "t3"
        refine w_lst ?_
        repeat walk_at "t3"
        refine r3_ix_l .fz (at3 (j := 0) rfl (v := .str (Str.ofString "row")) rfl) ?_
        refine r3_ne (n := 9) (m := 9) (okD_S okk) (okD_S okk) ?_
        rw [pq_str]
        exact ⟨_, rfl, by simp, rfl⟩
      · refine iteB (fun h => by cases h) (fun _ => ?_)
        refine s_next ?_
        exact ⟨rfl, rfl⟩
    · rw [hnone]
      refine s_if (w_orTP (a := false) (b := false) ?_ (fun _ => ?_) ?_)
      · repeat walk_at "t3"
        refine r3_ix_l .fz (at3 (j := 2) (by omega) (v := .bl false) rfl) ?_
        exact ⟨false, rfl, rfl, rfl⟩
      · repeat walk_at "t3"
        refine r3_ix_l .fz (at3 (j := 0) (by omega) (v := .str (Str.ofString "ring")) rfl) ?_
        repeat walk_at "t3"
        refine w_lst ?_
        repeat walk_at "t3"
        refine r3_ix_l .fz (at3 (j := 1) rfl (v := .str (Str.ofString "ring")) rfl) ?_
        refine r3_ne (n := 9) (m := 9) (okD_S okk) (okD_S okk) ?_
        rw [pq_str]
        exact ⟨_, rfl, by simp, rfl⟩
      · refine iteB (fun h => by cases h) (fun _ => ?_)
        refine s_next ?_
        exact ⟨rfl, rfl⟩
  rintro _ _ ⟨rfl, rfl⟩
  refine s_seqM (fun σ' M' => σ' = [some (.ref a), some (.ref s), some (.lst (wk.map eD)), some (.int many), some (.lst (gs.map .str)), b5, some (.lst (tubs.map .str)), some (.int left), b8, b9, b10, some (.lst (words.map .str)), some (.lst (wi.map wD)), b13, b14, some (.lst [.lst (wk.map eD), .lst (wi.map wD)]), some (.lst [.str kind, x, .bl false]), some (match ranked wk wi with | some row => .lst (row.map wD) | none => .non), none, none] ∧ M' = mput (fun _ => none) s o6) ?_ ?_
  · rcases hA with ⟨rfl, row, hrow, rfl⟩ | ⟨rfl, hnone, rg, hrg, rfl⟩
    · rw [hrow]
      have okr := okDs_wi (rk_ok _ _ _ _ okw (fun _ h => by cases h) hrow)
      refine s_if (w_andTP (a := true) (b := false) ?_ (fun _ => ?_) ?_)
      · repeat walk_at "t3"
        exact ⟨rfl, rfl⟩
      · repeat walk_at "t3"
        refine r3_ix_l .fz (at3 (j := 1) (by omega) (v := .lst (row.map wD)) rfl) ?_
        repeat walk_at "t3"
        refine r3_ne (n := 2) (m := 2) (x := .lst (row.map wD)) (y := .lst (row.map wD)) okr okr ?_
        rw [peq_lst, peqs_map wD pq_wD]
        exact ⟨_, rfl, by simp, rfl⟩
      · refine iteB (fun h => by cases h) (fun _ => ?_)
        refine s_next ?_
        exact ⟨rfl, rfl⟩
    · rw [hnone]
      refine s_if (w_andTP (a := false) (b := false) ?_ (fun h => by cases h) ?_)
      · repeat walk_at "t3"
        exact ⟨rfl, rfl⟩
      · refine iteB (fun h => by cases h) (fun _ => ?_)
        refine s_next ?_
        exact ⟨rfl, rfl⟩
  rintro _ _ ⟨rfl, rfl⟩
  refine s_seqM (fun σ' M' => σ' = [some (.ref a), some (.ref s), some (.lst (wk.map eD)), some (.int many), some (.lst (gs.map .str)), b5, some (.lst (tubs.map .str)), some (.int left), b8, b9, b10, some (.lst (words.map .str)), some (.lst (wi.map wD)), b13, b14, some (.lst [.lst (wk.map eD), .lst (wi.map wD)]), some (.lst [.str kind, x, .bl false]), some (match ranked wk wi with | some row => .lst (row.map wD) | none => .non), none, none] ∧ M' = mput (fun _ => none) s o6) ?_ ?_
  · rcases hA with ⟨rfl, row, hrow, rfl⟩ | ⟨rfl, hnone, rg, hrg, rfl⟩
    · rw [hrow]
      refine s_if (w_andTP (a := false) (b := false) ?_ (fun h => by cases h) ?_)
      · repeat walk_at "t3"
        exact ⟨rfl, rfl⟩
      · refine iteB (fun h => by cases h) (fun _ => ?_)
        refine s_next ?_
        exact ⟨rfl, rfl⟩
    · rw [hnone]
      refine s_if (w_andTP (a := true) (b := false) ?_ (fun _ => ?_) ?_)
      · repeat walk_at "t3"
        exact ⟨rfl, rfl⟩
      · repeat walk_at "t3"
        refine r3_ix_l .fz (at3 (j := 1) (by omega) (v := .lst (rg.map .str)) rfl) ?_
        repeat walk_at "t3"
        refine ⟨rg, wk, wi, rfl, okw, okwi, lwk', lwi', ?_, hrg, ?_⟩
        · have := nodup_le hrg.2.1 hrg.2.2.1
          rw [List.length_map] at this
          omega
        · exact ⟨true, rfl, rfl, rfl⟩
      · refine iteB (fun h => by cases h) (fun _ => ?_)
        refine s_next ?_
        exact ⟨rfl, rfl⟩
  rintro _ _ ⟨rfl, rfl⟩
  have okwk := okDs_wk okw
  have okwi' := okDs_wi okwi
  refine s_seqM (fun σ' M' => σ' = [some (.ref a), some (.ref s), some (.lst (wk.map eD)), some (.int many), some (.lst (gs.map .str)), b5, some (.lst (tubs.map .str)), some (.int left), b8, b9, b10, some (.lst (words.map .str)), some (.lst (wi.map wD)), b13, b14, some (.lst [.lst (wk.map eD), .lst (wi.map wD)]), some (.lst [.str kind, x, .bl false]), some (match ranked wk wi with | some row => .lst (row.map wD) | none => .non), none, none] ∧ M' = mput (fun _ => none) s o6) ?_ ?_
  · refine s_if (w_orTP (a := false) (b := false) ?_ (fun _ => ?_) ?_)
    · repeat walk_at "t3"
      refine r3_ix_l .fz (at3 (j := 0) (by omega) (v := .lst (wk.map eD)) rfl) ?_
      repeat walk_at "t3"
      refine r3_ne (n := 3) (m := 3) (x := .lst (wk.map eD)) (y := .lst (wk.map eD)) okwk okwk ?_
      rw [peq_lst, peqs_map eD pq_eD]
      exact ⟨_, rfl, by simp, rfl⟩
    · repeat walk_at "t3"
      refine r3_ix_l .fz (at3 (j := 1) (by omega) (v := .lst (wi.map wD)) rfl) ?_
      repeat walk_at "t3"
      refine r3_ne (n := 2) (m := 2) (x := .lst (wi.map wD)) (y := .lst (wi.map wD)) okwi' okwi' ?_
      rw [peq_lst, peqs_map wD pq_wD]
      exact ⟨_, rfl, by simp, rfl⟩
    · refine iteB (fun h => by cases h) (fun _ => ?_)
      refine s_next ?_
      exact ⟨rfl, rfl⟩
  rintro _ _ ⟨rfl, rfl⟩
  repeat walk_at "t3"
  refine w_lst ?_
  repeat walk_at "t3"
  refine r3_eq (n := 3) (m := 3) (x := .lst (wk.map eD)) (y := .lst []) okwk rfl ?_
  repeat walk_at "t3"
  refine iteB (fun he => ?_) (fun he => ?_)
  · repeat walk_at "t3"
    refine w_lst ?_
    repeat walk_at "t3"
    refine w_lst ?_
    repeat walk_at "t3"
    have hlit : ∀ c : Str, c = Str.ofString "a" ∨ c = Str.ofString "b" → okT c := fun c h => by
      rcases h with rfl | rfl
      · exact okT_lit (by decide +kernel)
      · exact okT_lit (by decide +kernel)
    refine asked_of (wk := []) (wi := [(Str.ofString "a", Str.ofString "a"), (Str.ofString "a", Str.ofString "b")]) (fun _ h => by cases h) (fun e he => ?_) (by decide) (by decide) (by decide) rfl (fun k2 x2 hA2 => ?_)
    · rcases List.mem_cons.mp he with rfl | he
      · exact ⟨hlit _ (.inl rfl), hlit _ (.inl rfl)⟩
      · rcases List.mem_cons.mp he with rfl | he
        · exact ⟨hlit _ (.inl rfl), hlit _ (.inr rfl)⟩
        · cases he
    · obtain ⟨rfl, rfl⟩ : k2 = Str.ofString "row" ∧ x2 = .lst [] := by
        rcases hA2 with ⟨rfl, row, hr, rfl⟩ | ⟨_, hn, _⟩
        · cases hr; exact ⟨rfl, rfl⟩
        · cases hn
      refine w_lst ?_
      repeat walk_at "t3"
      refine w_lst ?_
      repeat walk_at "t3"
      refine r3_eq (n := 3) (m := 3) (by decide +kernel) (by decide +kernel) ?_
      have e : peq (.lst [.str (Str.ofString "row"), .lst [], .bl false]) (.lst [.str (Str.ofString "row"), .lst [], .bl false]) = true := by decide +kernel
      rw [e]
      exact q _
  have wk0 : wk ≠ [] := fun e => by subst e; cases he
  have wpos : 0 < wk.length := List.length_pos_iff.mpr wk0
  repeat walk_at "t3"
  refine ⟨s, _, o6, rfl, hXs _, ho6, by rw [List.length_map]; omega, by rw [List.length_map]; omega, fun r o7 r0 r1 ho7 => ?_⟩
  rw [mput_mput]
  rw [List.length_map] at r1
  obtain ⟨tw, pots, htw⟩ : ∃ tw pots, wk[r.toNat]? = some (tw, pots) := ⟨_, _, List.getElem?_eq_getElem (by omega)⟩
  have htwm := List.mem_of_getElem? htw
  refine r3_ix_l .fz (at3 (j := r.toNat) (by omega) (v := eD (tw, pots)) (by rw [List.getElem?_map, htw]; rfl)) ?_
  repeat walk_at "t3"
  refine r3_ix_t (at3 (j := 0) (by omega) (v := .str tw) rfl) ?_
  repeat walk_at "t3"
  refine w_lst ?_
  repeat walk_at "t3"
  refine w_lst ?_
  repeat walk_at "t3"
  obtain ⟨w0, p0, hw0⟩ : ∃ tw pots, wk[0]? = some (tw, pots) := ⟨_, _, List.getElem?_eq_getElem wpos⟩
  have hw0m := List.mem_of_getElem? hw0
  refine r3_ix_l .fz (at3 (j := 0) (by omega) (v := eD (w0, p0)) (by rw [List.getElem?_map, hw0]; rfl)) ?_
  repeat walk_at "t3"
  refine r3_ix_t (at3 (j := 0) (by omega) (v := .str w0) rfl) ?_
  repeat walk_at "t3"
  refine w_lst ?_
  repeat walk_at "t3"
  refine r3_add_ll .fz .fz (by rw [List.length_map]; show wk.length + 2 ≤ _; omega) ?_
  have ew2 : wk.map eD ++ [.tup [.str tw, .lst []], .tup [.str w0, .lst [.str (Str.ofString "b")]]] = (wk ++ [(tw, []), (w0, [Str.ofString "b"])]).map eD := by rw [List.map_append]; rfl
  rw [ew2]
  repeat walk_at "t3"
  have okw2 : WkOk (wk ++ [(tw, []), (w0, [Str.ofString "b"])]) := fun e he => by
    rcases List.mem_append.mp he with h | h
    · exact okw e h
    · rcases List.mem_cons.mp h with rfl | h
      · exact ⟨(okw _ htwm).1, fun _ h => by cases h⟩
      · have : e = (w0, [Str.ofString "b"]) := by simpa using h
        subst this
        refine ⟨(okw _ hw0m).1, fun p hp => ?_⟩
        have : p = Str.ofString "b" := by simpa using hp
        subst this
        exact okT_lit (by decide +kernel)
  have hfd : fdup [] ((wk ++ [(tw, []), (w0, [Str.ofString "b"])]).map (·.1)) = some tw := by
    rw [List.map_append]
    exact fdup_twice _ _ _ _ nd (fun _ _ h => by cases h) (.inl (List.mem_map.mpr ⟨_, htwm, rfl⟩))
  have oktw : okT tw := (okw _ htwm).1
  refine asked_dup (c := tw) okw2 okwi (by rw [List.length_append]; show wk.length + 2 ≤ _; omega) lwi' ?_ hfd ?_
  · have : potsN (wk ++ [(tw, []), (w0, [Str.ofString "b"])]) = potsN wk + 1 := by simp [potsN]
    omega
  refine w_lst ?_
  repeat walk_at "t3"
  have okl : okDs 2 [.str (Str.ofString "known"), .str tw, .bl false] = true := by
    show (okD 2 (.str (Str.ofString "known")) && (okD 2 (.str tw) && true)) = true
    rw [okD_S oktw, okD_S (okT_lit (by decide +kernel))]; rfl
  refine r3_ne (n := 3) (m := 3) (x := .lst [.str (Str.ofString "known"), .str tw, .bl false]) (y := .lst [.str (Str.ofString "known"), .str tw, .bl false]) okl okl ?_
  have e3 : peq (.lst [.str (Str.ofString "known"), .str tw, .bl false]) (.lst [.str (Str.ofString "known"), .str tw, .bl false]) = true := by
    rw [peq_lst, peqs_cc, peqs_cc, peqs_cc, pq_str, pq_str]; simp
  rw [e3]
  repeat walk_at "t3"
  refine iteB (fun h => by cases h) (fun _ => ?_)
  repeat walk_at "t3"
  refine w_andP (a := true) (b := true) ?_ (fun _ => ?_) (q _)
  · repeat walk_at "t3"
    refine asked_of okw okwi lwk' lwi' hp1000 (names_dup nd) (fun k2 x2 hA2 => ?_)
    repeat walk_at "t3"
    refine r3_ix_l .fz (at3 (j := 0) (by omega) (v := .str k2) rfl) ?_
    repeat walk_at "t3"
    refine r3_ix_l .fz (at3 (j := 0) (by omega) (v := .str kind) rfl) ?_
    refine r3_eq (n := 9) (m := 9) (okD_S (ansC_ok hA2)) (okD_S okk) ?_
    rw [pq_str, ansC_kind hA2 hA]
    exact ⟨by simp, rfl⟩
  · have nowi : WiOk ([] : List (Str × Str)) := fun _ h => by cases h
    obtain ⟨row, hrow⟩ := rk_nowish wk.length wk [] rfl
    have hrow : ranked wk [] = some row := hrow
    repeat walk_at "t3"
    refine w_lst ?_
    repeat walk_at "t3"
    refine asked_of (wi := []) okw nowi lwk' (Nat.zero_le _) hp1000 (names_dup nd) (fun k2 x2 hA2 => ?_)
    obtain ⟨rfl, rfl⟩ : k2 = Str.ofString "row" ∧ x2 = .lst (row.map wD) := by
      rcases hA2 with ⟨rfl, row2, hr, rfl⟩ | ⟨_, hn, _⟩
      · rw [hrow] at hr; cases hr; exact ⟨rfl, rfl⟩
      · rw [hrow] at hn; cases hn
    refine w_lst ?_
    repeat walk_at "t3"
    refine w_lst ?_
    repeat walk_at "t3"
    refine ⟨wk, [], rfl, okw, nowi, lwk', Nat.zero_le _, hp1000, ?_⟩
    rw [hrow]
    repeat walk_at "t3"
    have okr := okDs_wi (rk_ok _ _ _ _ okw (fun _ h => by cases h) hrow)
    have okl : okDs 2 [.str (Str.ofString "row"), .lst (row.map wD), .bl false] = true := by
      show (okD 2 (.str (Str.ofString "row")) && (okDs 1 (row.map wD) && true)) = true
      rw [okr, okD_S (okT_lit (by decide +kernel))]; rfl
    refine r3_eq (n := 3) (m := 3) (x := .lst [.str (Str.ofString "row"), .lst (row.map wD), .bl false]) (y := .lst [.str (Str.ofString "row"), .lst (row.map wD), .bl false]) okl okl ?_
    have e3 : peq (.lst [.str (Str.ofString "row"), .lst (row.map wD), .bl false]) (.lst [.str (Str.ofString "row"), .lst (row.map wD), .bl false]) = true := by
      rw [peq_lst, peqs_cc, peqs_cc, peqs_cc, pq_str, peq_lst, peqs_map wD pq_wD]; simp
    rw [e3]
    exact ⟨rfl, rfl⟩
end
end LW
set_option Elab.async false
set_option linter.all false
set_option maxRecDepth 100000
set_option maxHeartbeats 4000000
namespace LW
open PySem L2 T3
open Evl (Ex)
section
theorem kit_own2 {K : PySem.W.Frag} {C D : Addr} {cd : ClassData} {b : Bool} (h1 : PySem.W.clsIn K D = some cd) (h2 : PySem.W.typeIn K (.ref D) = some (.type "type")) (h3 : PySem.W.subIn K (.ref C) (.ref D) = some b) (h4 : PySem.W.subIn K (.ref C) (.ref C) = some true) : PySem.W.kitOne K (.ref C) (.ref D) = some b := by
  unfold PySem.W.kitOne
  split
  · rename_i e
    have e : (Value.ref C) = .ref D := by simpa using e
    cases e
    rw [h4] at h3
    exact h3
  · show PySem.W.kitCls K (.ref C) (.ref D) = _
    unfold PySem.W.kitCls
    dsimp only
    rw [h1, h2]
    simpa using h3
theorem kit_ve {K : PySem.W.Frag} {C : Addr} (hm : PySem.W.kitMeta "ValueError" = true) (h : PySem.W.subIn K (.ref C) (.type "ValueError") = some true) : PySem.W.kitOne K (.ref C) (.type "ValueError") = some true := by
  unfold PySem.W.kitOne
  split
  · rfl
  · show PySem.W.kitCls K (.ref C) (.type "ValueError") = _
    unfold PySem.W.kitCls
    simp only [hm, if_true]
    exact h
theorem exm_own2 {K : PySem.W.Frag} {C D : Addr} {cd : ClassData} {b : Bool} (hB : PySem.W.subIn K (.ref D) (.type "BaseException") = some true) (h1 : PySem.W.clsIn K D = some cd) (h2 : PySem.W.typeIn K (.ref D) = some (.type "type")) (h3 : PySem.W.subIn K (.ref C) (.ref D) = some b) : PySem.W.exmOne K (.ref C) (.ref D) = some b := by
  unfold PySem.W.exmOne
  rw [hB]
  show (if (some true == some true) = true then PySem.W.kitCls K (.ref C) (.ref D) else none) = _
  rw [if_pos (by rfl)]
  unfold PySem.W.kitCls
  dsimp only
  rw [h1, h2]
  simpa using h3
theorem all_mk {l : PySem.W.OpenLaw} {w : World} {K : PySem.W.Frag} {h : Heap} {mg : Str → Option Value} {fa : Addr} (X : K.In h) (G : h.Ns mainGlobals mg) (hfa : mg "law" = some (.ref fa))
    {f_check_work : Addr} {oc_check_work kV_check_work dc_check_work pm_check_work cd_check_work ct_check_work : Value} {od_check_work an_check_work : Option Addr} {sl_check_work : Array (Option Value)}
    {dT_check_work : Addr} {dTc_check_work : Value} {dTd_check_work : Option Addr} {dTn_check_work : Nat} {dTs_check_work : Array (Option Value)}
    {f_darker_ones : Addr} {oc_darker_ones kV_darker_ones dc_darker_ones pm_darker_ones cd_darker_ones ct_darker_ones : Value} {od_darker_ones an_darker_ones : Option Addr} {sl_darker_ones : Array (Option Value)}
    {f_ring_of : Addr} {oc_ring_of kV_ring_of dc_ring_of pm_ring_of cd_ring_of ct_ring_of : Value} {od_ring_of an_ring_of : Option Addr} {sl_ring_of : Array (Option Value)}
    {f_rank_row : Addr} {oc_rank_row kV_rank_row dc_rank_row pm_rank_row cd_rank_row ct_rank_row : Value} {od_rank_row an_rank_row : Option Addr} {sl_rank_row : Array (Option Value)}
    {f_source : Addr} {oc_source kV_source dc_source pm_source cd_source ct_source : Value} {od_source an_source : Option Addr} {sl_source : Array (Option Value)}
    {f_draw : Addr} {oc_draw kV_draw dc_draw pm_draw cd_draw ct_draw : Value} {od_draw an_draw : Option Addr} {sl_draw : Array (Option Value)}
    {f_word : Addr} {oc_word kV_word dc_word pm_word cd_word ct_word : Value} {od_word an_word : Option Addr} {sl_word : Array (Option Value)}
    {f_name : Addr} {oc_name kV_name dc_name pm_name cd_name ct_name : Value} {od_name an_name : Option Addr} {sl_name : Array (Option Value)}
    {f_names : Addr} {oc_names kV_names dc_names pm_names cd_names ct_names : Value} {od_names an_names : Option Addr} {sl_names : Array (Option Value)}
    {f_ranked : Addr} {oc_ranked kV_ranked dc_ranked pm_ranked cd_ranked ct_ranked : Value} {od_ranked an_ranked : Option Addr} {sl_ranked : Array (Option Value)}
    {f_alone : Addr} {oc_alone kV_alone dc_alone pm_alone cd_alone ct_alone : Value} {od_alone an_alone : Option Addr} {sl_alone : Array (Option Value)}
    {f_asked : Addr} {oc_asked kV_asked dc_asked pm_asked cd_asked ct_asked : Value} {od_asked an_asked : Option Addr} {sl_asked : Array (Option Value)}
    {f_is_ring : Addr} {oc_is_ring kV_is_ring dc_is_ring pm_is_ring cd_is_ring ct_is_ring : Value} {od_is_ring an_is_ring : Option Addr} {sl_is_ring : Array (Option Value)}
    {f_law : Addr} {oc_law kV_law dc_law pm_law cd_law ct_law : Value} {od_law an_law : Option Addr} {sl_law : Array (Option Value)}
    {f_DyeError : Addr}
    {f_BadName : Addr}
    {f_BadHold : Addr}
    {f_BadNumber : Addr}
    {f_BadAmount : Addr}
    {f_Known : Addr}
    {f_Unknown : Addr}
    {f_Full : Addr}
    {f_NotSure : Addr}
    {f_RingOfWishes : Addr}
    {f_BadLine : Addr}
    {cdd_DyeError : ClassData}
    {cdd_BadName : ClassData}
    {cdd_BadHold : ClassData}
    {cdd_BadNumber : ClassData}
    {cdd_BadAmount : ClassData}
    {cdd_Known : ClassData}
    {cdd_Unknown : ClassData}
    {cdd_Full : ClassData}
    {cdd_NotSure : ClassData}
    {cdd_RingOfWishes : ClassData}
    {cdd_BadLine : ClassData}
    {f_dyeInit : Addr} {dT cda cc : Addr} {dI oc doc pm ct ccl cl : Value} {od an cdd cld : Option Addr} {dN j : Nat} {osl ccs csl dsl : Array (Option Value)} {dcl : Value} {ddd : Option Addr} {p1 p2 p3 p4 a1 a2 a3 a4 a5 a6 q1 q2 q3 q4 : Pos} {vs : Array Value} {file : Str} {tf : Tok} {cdD : ClassData}
    {nm_Known : _} {q_Known : _} {N_Known : _} {bs_Known : _} {bm_Known : _} {sn_Known : _} {sub_Known : _} {ab_Known : _} {col_Known : _} {dd_Known : _} {k0_Known : _} {k1_Known : _} {k2_Known : _} {k3_Known : _} {k5_Known : _}
    {nm_Unknown : _} {q_Unknown : _} {N_Unknown : _} {bs_Unknown : _} {bm_Unknown : _} {sn_Unknown : _} {sub_Unknown : _} {ab_Unknown : _} {col_Unknown : _} {dd_Unknown : _} {k0_Unknown : _} {k1_Unknown : _} {k2_Unknown : _} {k3_Unknown : _} {k5_Unknown : _}
    {nm_RingOfWishes : _} {q_RingOfWishes : _} {N_RingOfWishes : _} {bs_RingOfWishes : _} {bm_RingOfWishes : _} {sn_RingOfWishes : _} {sub_RingOfWishes : _} {ab_RingOfWishes : _} {col_RingOfWishes : _} {dd_RingOfWishes : _} {k0_RingOfWishes : _} {k1_RingOfWishes : _} {k2_RingOfWishes : _} {k3_RingOfWishes : _} {k5_RingOfWishes : _}
    (a_check_work : PySem.W.nsIn K mainGlobals "check_work" = some (some (.ref f_check_work)))
    (l_check_work : K.lookup f_check_work = some ⟨oc_check_work, od_check_work, .func (PySem.W.fnOf "check_work" "check_work" (defArgs s_check_work) (defBody s_check_work) (defScope s_check_work) (.ref dT_check_work) kV_check_work dc_check_work pm_check_work an_check_work cd_check_work ct_check_work), sl_check_work⟩)
    (lT_check_work : K.lookup dT_check_work = some ⟨dTc_check_work, dTd_check_work, .seq ([.none] : List Value).toArray dTn_check_work, dTs_check_work⟩)
    (c_check_work : PySem.W.codeIn K cd_check_work "check_work" = true)
    (k_check_work : PySem.W.keepIn K (.ref f_check_work) = true)
    (a_darker_ones : PySem.W.nsIn K mainGlobals "darker_ones" = some (some (.ref f_darker_ones)))
    (l_darker_ones : K.lookup f_darker_ones = some ⟨oc_darker_ones, od_darker_ones, .func (PySem.W.fnOf "darker_ones" "darker_ones" (defArgs s_darker_ones) (defBody s_darker_ones) (defScope s_darker_ones) .none kV_darker_ones dc_darker_ones pm_darker_ones an_darker_ones cd_darker_ones ct_darker_ones), sl_darker_ones⟩)
    (c_darker_ones : PySem.W.codeIn K cd_darker_ones "darker_ones" = true)
    (k_darker_ones : PySem.W.keepIn K (.ref f_darker_ones) = true)
    (a_ring_of : PySem.W.nsIn K mainGlobals "ring_of" = some (some (.ref f_ring_of)))
    (l_ring_of : K.lookup f_ring_of = some ⟨oc_ring_of, od_ring_of, .func (PySem.W.fnOf "ring_of" "ring_of" (defArgs s_ring_of) (defBody s_ring_of) (defScope s_ring_of) .none kV_ring_of dc_ring_of pm_ring_of an_ring_of cd_ring_of ct_ring_of), sl_ring_of⟩)
    (c_ring_of : PySem.W.codeIn K cd_ring_of "ring_of" = true)
    (k_ring_of : PySem.W.keepIn K (.ref f_ring_of) = true)
    (a_rank_row : PySem.W.nsIn K mainGlobals "rank_row" = some (some (.ref f_rank_row)))
    (l_rank_row : K.lookup f_rank_row = some ⟨oc_rank_row, od_rank_row, .func (PySem.W.fnOf "rank_row" "rank_row" (defArgs s_rank_row) (defBody s_rank_row) (defScope s_rank_row) .none kV_rank_row dc_rank_row pm_rank_row an_rank_row cd_rank_row ct_rank_row), sl_rank_row⟩)
    (c_rank_row : PySem.W.codeIn K cd_rank_row "rank_row" = true)
    (k_rank_row : PySem.W.keepIn K (.ref f_rank_row) = true)
    (a_source : PySem.W.nsIn K mainGlobals "_law_source" = some (some (.ref f_source)))
    (l_source : K.lookup f_source = some ⟨oc_source, od_source, .func (PySem.W.fnOf "_law_source" "_law_source" (defArgs s_source) (defBody s_source) (defScope s_source) .none kV_source dc_source pm_source an_source cd_source ct_source), sl_source⟩)
    (c_source : PySem.W.codeIn K cd_source "_law_source" = true)
    (k_source : PySem.W.keepIn K (.ref f_source) = true)
    (a_draw : PySem.W.nsIn K mainGlobals "_law_draw" = some (some (.ref f_draw)))
    (l_draw : K.lookup f_draw = some ⟨oc_draw, od_draw, .func (PySem.W.fnOf "_law_draw" "_law_draw" (defArgs s_draw) (defBody s_draw) (defScope s_draw) .none kV_draw dc_draw pm_draw an_draw cd_draw ct_draw), sl_draw⟩)
    (c_draw : PySem.W.codeIn K cd_draw "_law_draw" = true)
    (k_draw : PySem.W.keepIn K (.ref f_draw) = true)
    (a_word : PySem.W.nsIn K mainGlobals "_law_word" = some (some (.ref f_word)))
    (l_word : K.lookup f_word = some ⟨oc_word, od_word, .func (PySem.W.fnOf "_law_word" "_law_word" (defArgs s_word) (defBody s_word) (defScope s_word) .none kV_word dc_word pm_word an_word cd_word ct_word), sl_word⟩)
    (c_word : PySem.W.codeIn K cd_word "_law_word" = true)
    (k_word : PySem.W.keepIn K (.ref f_word) = true)
    (a_name : PySem.W.nsIn K mainGlobals "_law_name" = some (some (.ref f_name)))
    (l_name : K.lookup f_name = some ⟨oc_name, od_name, .func (PySem.W.fnOf "_law_name" "_law_name" (defArgs s_name) (defBody s_name) (defScope s_name) .none kV_name dc_name pm_name an_name cd_name ct_name), sl_name⟩)
    (c_name : PySem.W.codeIn K cd_name "_law_name" = true)
    (k_name : PySem.W.keepIn K (.ref f_name) = true)
    (a_names : PySem.W.nsIn K mainGlobals "_law_names" = some (some (.ref f_names)))
    (l_names : K.lookup f_names = some ⟨oc_names, od_names, .func (PySem.W.fnOf "_law_names" "_law_names" (defArgs s_names) (defBody s_names) (defScope s_names) .none kV_names dc_names pm_names an_names cd_names ct_names), sl_names⟩)
    (c_names : PySem.W.codeIn K cd_names "_law_names" = true)
    (k_names : PySem.W.keepIn K (.ref f_names) = true)
    (a_ranked : PySem.W.nsIn K mainGlobals "_law_ranked" = some (some (.ref f_ranked)))
    (l_ranked : K.lookup f_ranked = some ⟨oc_ranked, od_ranked, .func (PySem.W.fnOf "_law_ranked" "_law_ranked" (defArgs s_ranked) (defBody s_ranked) (defScope s_ranked) .none kV_ranked dc_ranked pm_ranked an_ranked cd_ranked ct_ranked), sl_ranked⟩)
    (c_ranked : PySem.W.codeIn K cd_ranked "_law_ranked" = true)
    (k_ranked : PySem.W.keepIn K (.ref f_ranked) = true)
    (a_alone : PySem.W.nsIn K mainGlobals "_law_alone" = some (some (.ref f_alone)))
    (l_alone : K.lookup f_alone = some ⟨oc_alone, od_alone, .func (PySem.W.fnOf "_law_alone" "_law_alone" (defArgs s_alone) (defBody s_alone) (defScope s_alone) .none kV_alone dc_alone pm_alone an_alone cd_alone ct_alone), sl_alone⟩)
    (c_alone : PySem.W.codeIn K cd_alone "_law_alone" = true)
    (k_alone : PySem.W.keepIn K (.ref f_alone) = true)
    (a_asked : PySem.W.nsIn K mainGlobals "_law_asked" = some (some (.ref f_asked)))
    (l_asked : K.lookup f_asked = some ⟨oc_asked, od_asked, .func (PySem.W.fnOf "_law_asked" "_law_asked" (defArgs s_asked) (defBody s_asked) (defScope s_asked) .none kV_asked dc_asked pm_asked an_asked cd_asked ct_asked), sl_asked⟩)
    (c_asked : PySem.W.codeIn K cd_asked "_law_asked" = true)
    (k_asked : PySem.W.keepIn K (.ref f_asked) = true)
    (a_is_ring : PySem.W.nsIn K mainGlobals "_law_is_ring" = some (some (.ref f_is_ring)))
    (l_is_ring : K.lookup f_is_ring = some ⟨oc_is_ring, od_is_ring, .func (PySem.W.fnOf "_law_is_ring" "_law_is_ring" (defArgs s_is_ring) (defBody s_is_ring) (defScope s_is_ring) .none kV_is_ring dc_is_ring pm_is_ring an_is_ring cd_is_ring ct_is_ring), sl_is_ring⟩)
    (c_is_ring : PySem.W.codeIn K cd_is_ring "_law_is_ring" = true)
    (k_is_ring : PySem.W.keepIn K (.ref f_is_ring) = true)
    (a_law : PySem.W.nsIn K mainGlobals "law" = some (some (.ref f_law)))
    (l_law : K.lookup f_law = some ⟨oc_law, od_law, .func (PySem.W.fnOf "law" "law" (defArgs s_law) (defBody s_law) (defScope s_law) .none kV_law dc_law pm_law an_law cd_law ct_law), sl_law⟩)
    (c_law : PySem.W.codeIn K cd_law "law" = true)
    (k_law : PySem.W.keepIn K (.ref f_law) = true)
    (a_DyeError : PySem.W.nsIn K mainGlobals "DyeError" = some (some (.ref f_DyeError)))
    (a_BadName : PySem.W.nsIn K mainGlobals "BadName" = some (some (.ref f_BadName)))
    (a_BadHold : PySem.W.nsIn K mainGlobals "BadHold" = some (some (.ref f_BadHold)))
    (a_BadNumber : PySem.W.nsIn K mainGlobals "BadNumber" = some (some (.ref f_BadNumber)))
    (a_BadAmount : PySem.W.nsIn K mainGlobals "BadAmount" = some (some (.ref f_BadAmount)))
    (a_Known : PySem.W.nsIn K mainGlobals "Known" = some (some (.ref f_Known)))
    (a_Unknown : PySem.W.nsIn K mainGlobals "Unknown" = some (some (.ref f_Unknown)))
    (a_Full : PySem.W.nsIn K mainGlobals "Full" = some (some (.ref f_Full)))
    (a_NotSure : PySem.W.nsIn K mainGlobals "NotSure" = some (some (.ref f_NotSure)))
    (a_RingOfWishes : PySem.W.nsIn K mainGlobals "RingOfWishes" = some (some (.ref f_RingOfWishes)))
    (a_BadLine : PySem.W.nsIn K mainGlobals "BadLine" = some (some (.ref f_BadLine)))
    (n_set : PySem.W.nsIn K mainGlobals "set" = some none)
    (n_list : PySem.W.nsIn K mainGlobals "list" = some none)
    (n_int : PySem.W.nsIn K mainGlobals "int" = some none)
    (n_len : PySem.W.nsIn K mainGlobals "len" = some none)
    (n_abs : PySem.W.nsIn K mainGlobals "abs" = some none)
    (n_range : PySem.W.nsIn K mainGlobals "range" = some none)
    (n_isinstance : PySem.W.nsIn K mainGlobals "isinstance" = some none)
    (n_ValueError : PySem.W.nsIn K mainGlobals "ValueError" = some none)
    (n_max : PySem.W.nsIn K mainGlobals "max" = some none)
    (n_min : PySem.W.nsIn K mainGlobals "min" = some none)
    (i_DyeError : PySem.W.clsIn K f_DyeError = some cdd_DyeError)
    (t_DyeError : PySem.W.typeIn K (.ref f_DyeError) = some (.type "type"))
    (i_BadName : PySem.W.clsIn K f_BadName = some cdd_BadName)
    (t_BadName : PySem.W.typeIn K (.ref f_BadName) = some (.type "type"))
    (i_BadHold : PySem.W.clsIn K f_BadHold = some cdd_BadHold)
    (t_BadHold : PySem.W.typeIn K (.ref f_BadHold) = some (.type "type"))
    (i_BadNumber : PySem.W.clsIn K f_BadNumber = some cdd_BadNumber)
    (t_BadNumber : PySem.W.typeIn K (.ref f_BadNumber) = some (.type "type"))
    (i_BadAmount : PySem.W.clsIn K f_BadAmount = some cdd_BadAmount)
    (t_BadAmount : PySem.W.typeIn K (.ref f_BadAmount) = some (.type "type"))
    (i_Known : PySem.W.clsIn K f_Known = some cdd_Known)
    (t_Known : PySem.W.typeIn K (.ref f_Known) = some (.type "type"))
    (i_Unknown : PySem.W.clsIn K f_Unknown = some cdd_Unknown)
    (t_Unknown : PySem.W.typeIn K (.ref f_Unknown) = some (.type "type"))
    (i_Full : PySem.W.clsIn K f_Full = some cdd_Full)
    (t_Full : PySem.W.typeIn K (.ref f_Full) = some (.type "type"))
    (i_NotSure : PySem.W.clsIn K f_NotSure = some cdd_NotSure)
    (t_NotSure : PySem.W.typeIn K (.ref f_NotSure) = some (.type "type"))
    (i_RingOfWishes : PySem.W.clsIn K f_RingOfWishes = some cdd_RingOfWishes)
    (t_RingOfWishes : PySem.W.typeIn K (.ref f_RingOfWishes) = some (.type "type"))
    (i_BadLine : PySem.W.clsIn K f_BadLine = some cdd_BadLine)
    (t_BadLine : PySem.W.typeIn K (.ref f_BadLine) = some (.type "type"))
    (hn_ : PySem.W.specialIn K (.builtin "object.__class__") "__get__" = some (some (.builtin "getset_descriptor.__get__")))
    (ht_ : PySem.W.takesIn K (.builtin "object.__class__") = some true)
    (s_Known_DyeError : PySem.W.subIn K (.ref f_Known) (.ref f_DyeError) = some true)
    (s_Known_BadName : PySem.W.subIn K (.ref f_Known) (.ref f_BadName) = some false)
    (s_Known_BadHold : PySem.W.subIn K (.ref f_Known) (.ref f_BadHold) = some false)
    (s_Known_BadNumber : PySem.W.subIn K (.ref f_Known) (.ref f_BadNumber) = some false)
    (s_Known_BadAmount : PySem.W.subIn K (.ref f_Known) (.ref f_BadAmount) = some false)
    (s_Known_Known : PySem.W.subIn K (.ref f_Known) (.ref f_Known) = some true)
    (s_Known_Unknown : PySem.W.subIn K (.ref f_Known) (.ref f_Unknown) = some false)
    (s_Known_Full : PySem.W.subIn K (.ref f_Known) (.ref f_Full) = some false)
    (s_Known_NotSure : PySem.W.subIn K (.ref f_Known) (.ref f_NotSure) = some false)
    (s_Known_RingOfWishes : PySem.W.subIn K (.ref f_Known) (.ref f_RingOfWishes) = some false)
    (s_Known_BadLine : PySem.W.subIn K (.ref f_Known) (.ref f_BadLine) = some false)
    (ga_Known : PySem.W.findIn K (.ref f_Known) "__getattribute__" = some (some (.builtin "BaseException.__getattribute__")))
    (gg_Known : PySem.W.findIn K (.ref f_Known) "__getattr__" = some none)
    (hac_Known : PySem.W.findIn K (.ref f_Known) "__class__" = some (some (.builtin "object.__class__")))
    (hmo_Known : PySem.W.mroIn K f_Known (.type "object") = some true)
    (hd_Known : PySem.W.hasDictIn K f_Known = true)
    (s_RingOfWishes_DyeError : PySem.W.subIn K (.ref f_RingOfWishes) (.ref f_DyeError) = some true)
    (s_RingOfWishes_BadName : PySem.W.subIn K (.ref f_RingOfWishes) (.ref f_BadName) = some false)
    (s_RingOfWishes_BadHold : PySem.W.subIn K (.ref f_RingOfWishes) (.ref f_BadHold) = some false)
    (s_RingOfWishes_BadNumber : PySem.W.subIn K (.ref f_RingOfWishes) (.ref f_BadNumber) = some false)
    (s_RingOfWishes_BadAmount : PySem.W.subIn K (.ref f_RingOfWishes) (.ref f_BadAmount) = some false)
    (s_RingOfWishes_Known : PySem.W.subIn K (.ref f_RingOfWishes) (.ref f_Known) = some false)
    (s_RingOfWishes_Unknown : PySem.W.subIn K (.ref f_RingOfWishes) (.ref f_Unknown) = some false)
    (s_RingOfWishes_Full : PySem.W.subIn K (.ref f_RingOfWishes) (.ref f_Full) = some false)
    (s_RingOfWishes_NotSure : PySem.W.subIn K (.ref f_RingOfWishes) (.ref f_NotSure) = some false)
    (s_RingOfWishes_RingOfWishes : PySem.W.subIn K (.ref f_RingOfWishes) (.ref f_RingOfWishes) = some true)
    (s_RingOfWishes_BadLine : PySem.W.subIn K (.ref f_RingOfWishes) (.ref f_BadLine) = some false)
    (ga_RingOfWishes : PySem.W.findIn K (.ref f_RingOfWishes) "__getattribute__" = some (some (.builtin "BaseException.__getattribute__")))
    (gg_RingOfWishes : PySem.W.findIn K (.ref f_RingOfWishes) "__getattr__" = some none)
    (hac_RingOfWishes : PySem.W.findIn K (.ref f_RingOfWishes) "__class__" = some (some (.builtin "object.__class__")))
    (hmo_RingOfWishes : PySem.W.mroIn K f_RingOfWishes (.type "object") = some true)
    (hd_RingOfWishes : PySem.W.hasDictIn K f_RingOfWishes = true)
    (bE_DyeError : PySem.W.subIn K (.ref f_DyeError) (.type "BaseException") = some true)
    (ho_ : PySem.W.nsIn K cStatics "thirdparty.any" = some none)
    (hsup_ : PySem.W.nsIn K mainGlobals "super" = some none)
    (htop_ : (l.prog.main.scope.names.lookup ("super" : Str)).isSome = false)
    (lo_Known : List.lookup f_Known K = some (PySem.excClassObj nm_Known q_Known f_Known N_Known bs_Known bm_Known true sn_Known sub_Known ab_Known col_Known dd_Known k0_Known k1_Known k2_Known k3_Known k5_Known "ValueError.__new__"))
    (re_Known : PySem.HandSPX.refsVE bm_Known = true)
    (sa_Known : PySem.W.findIn K (.ref f_Known) "__setattr__" = some (some (.builtin "object.__setattr__")))
    (no_Known : PySem.W.findIn K (.ref f_Known) "thing" = some none)
    (ii_Known : PySem.W.findIn K (.ref f_Known) "__init__" = some (some (.ref f_dyeInit)))
    (kk_Known : PySem.W.keepIn K (.ref f_Known) = true)
    (bE_Known : PySem.W.subIn K (.ref f_Known) (.type "BaseException") = some true)
    (ty_Known : PySem.W.typeIn K (.ref f_Known) = some (.type "type"))
    (xi_Known : PySem.W.excInitIn K f_Known PySem.HandSPX.veTail "ValueError.__new__" = true)
    (su_Known : PySem.W.ks_superIn K f_Known f_DyeError "__init__" = some (some (.builtin "ValueError.__init__")))
    (vE_Known : PySem.W.subIn K (.ref f_Known) (.type "ValueError") = some true)
    (mr_Known : PySem.W.mroIn K f_Known (.ref f_DyeError) = some true)
    (lo_Unknown : List.lookup f_Unknown K = some (PySem.excClassObj nm_Unknown q_Unknown f_Unknown N_Unknown bs_Unknown bm_Unknown true sn_Unknown sub_Unknown ab_Unknown col_Unknown dd_Unknown k0_Unknown k1_Unknown k2_Unknown k3_Unknown k5_Unknown "ValueError.__new__"))
    (re_Unknown : PySem.HandSPX.refsVE bm_Unknown = true)
    (sa_Unknown : PySem.W.findIn K (.ref f_Unknown) "__setattr__" = some (some (.builtin "object.__setattr__")))
    (no_Unknown : PySem.W.findIn K (.ref f_Unknown) "thing" = some none)
    (ii_Unknown : PySem.W.findIn K (.ref f_Unknown) "__init__" = some (some (.ref f_dyeInit)))
    (kk_Unknown : PySem.W.keepIn K (.ref f_Unknown) = true)
    (bE_Unknown : PySem.W.subIn K (.ref f_Unknown) (.type "BaseException") = some true)
    (ty_Unknown : PySem.W.typeIn K (.ref f_Unknown) = some (.type "type"))
    (xi_Unknown : PySem.W.excInitIn K f_Unknown PySem.HandSPX.veTail "ValueError.__new__" = true)
    (su_Unknown : PySem.W.ks_superIn K f_Unknown f_DyeError "__init__" = some (some (.builtin "ValueError.__init__")))
    (vE_Unknown : PySem.W.subIn K (.ref f_Unknown) (.type "ValueError") = some true)
    (mr_Unknown : PySem.W.mroIn K f_Unknown (.ref f_DyeError) = some true)
    (lo_RingOfWishes : List.lookup f_RingOfWishes K = some (PySem.excClassObj nm_RingOfWishes q_RingOfWishes f_RingOfWishes N_RingOfWishes bs_RingOfWishes bm_RingOfWishes true sn_RingOfWishes sub_RingOfWishes ab_RingOfWishes col_RingOfWishes dd_RingOfWishes k0_RingOfWishes k1_RingOfWishes k2_RingOfWishes k3_RingOfWishes k5_RingOfWishes "ValueError.__new__"))
    (re_RingOfWishes : PySem.HandSPX.refsVE bm_RingOfWishes = true)
    (sa_RingOfWishes : PySem.W.findIn K (.ref f_RingOfWishes) "__setattr__" = some (some (.builtin "object.__setattr__")))
    (no_RingOfWishes : PySem.W.findIn K (.ref f_RingOfWishes) "thing" = some none)
    (ii_RingOfWishes : PySem.W.findIn K (.ref f_RingOfWishes) "__init__" = some (some (.ref f_dyeInit)))
    (kk_RingOfWishes : PySem.W.keepIn K (.ref f_RingOfWishes) = true)
    (bE_RingOfWishes : PySem.W.subIn K (.ref f_RingOfWishes) (.type "BaseException") = some true)
    (ty_RingOfWishes : PySem.W.typeIn K (.ref f_RingOfWishes) = some (.type "type"))
    (xi_RingOfWishes : PySem.W.excInitIn K f_RingOfWishes PySem.HandSPX.veTail "ValueError.__new__" = true)
    (su_RingOfWishes : PySem.W.ks_superIn K f_RingOfWishes f_DyeError "__init__" = some (some (.builtin "ValueError.__init__")))
    (vE_RingOfWishes : PySem.W.subIn K (.ref f_RingOfWishes) (.type "ValueError") = some true)
    (mr_RingOfWishes : PySem.W.mroIn K f_RingOfWishes (.ref f_DyeError) = some true)
    (tI_ : PySem.W.typeIn K (.ref f_dyeInit) = some (.type "function"))
    (lI_ : K.lookup f_dyeInit = some ⟨oc, od, .func (PySem.W.ksFn "__init__" "DyeError.__init__" (PySem.DyeX.iA p1 p2 p3 p4 j) (PySem.DyeX.iB a1 a2 a3 a4 a5 a6 q1 q2 q3 q4) PySem.DyeX.iS (.ref dT) .none doc pm an (.ref cda) ct cc), osl⟩)
    (line_ : (a3.endLine == a5.line) = true)
    (lD_ : K.lookup dT = some ⟨dcl, ddd, .seq #[dI] dN, dsl⟩)
    (cI_ : PySem.W.codeIn K (.ref cda) "DyeError.__init__" = true)
    (lC_ : K.lookup cda = some ⟨ccl, cdd, .fields vs, ccs⟩)
    (vf_ : vs[2]? = some (.str file tf))
    (fi_ : ((l.prog.main.file : Str) == file) = true)
    (lc_ : K.lookup cc = some ⟨cl, cld, .cell (some (.ref f_DyeError)), csl⟩)
    (cD_ : PySem.W.clsIn K f_DyeError = some cdD) :
    ∃ fd : FuncData, (∀ (s : Shared) (v : Value), BindsTo s fd ⟨[v], []⟩ [("_law_script", v)]) ∧ ∀ base : Heap, K.In base → base.Ns mainGlobals mg → FnOk l.prog w K mg base CX0 5 fa fd ["_law_script"] (lift3B (S_law K)) := by
  have e := hfa.symm.trans (PySem.W.mg_of X G a_law)
  obtain rfl : f_law = fa := by cases e; rfl
  have F_check_work : FunD K "check_work" "check_work" (defArgs s_check_work) (defBody s_check_work) (defScope s_check_work) [.non] [] f_check_work (PySem.W.fnOf "check_work" "check_work" (defArgs s_check_work) (defBody s_check_work) (defScope s_check_work) (.ref dT_check_work) kV_check_work dc_check_work pm_check_work an_check_work cd_check_work ct_check_work) := ⟨⟨_, _, _, _, _, _, _, _, _, _, rfl, l_check_work, c_check_work, .inr ⟨List.cons_ne_nil _ _, _, _, _, _, rfl, lT_check_work, rfl, (.cons (show RelV .non .none from rfl) .nil)⟩, .inl rfl⟩, k_check_work⟩
  have F_darker_ones := fun_mk (st := s_darker_ones) l_darker_ones c_darker_ones k_darker_ones
  have F_ring_of := fun_mk (st := s_ring_of) l_ring_of c_ring_of k_ring_of
  have F_rank_row := fun_mk (st := s_rank_row) l_rank_row c_rank_row k_rank_row
  have F_source := fun_mk (st := s_source) l_source c_source k_source
  have F_draw := fun_mk (st := s_draw) l_draw c_draw k_draw
  have F_word := fun_mk (st := s_word) l_word c_word k_word
  have F_name := fun_mk (st := s_name) l_name c_name k_name
  have F_names := fun_mk (st := s_names) l_names c_names k_names
  have F_ranked := fun_mk (st := s_ranked) l_ranked c_ranked k_ranked
  have F_alone := fun_mk (st := s_alone) l_alone c_alone k_alone
  have F_asked := fun_mk (st := s_asked) l_asked c_asked k_asked
  have F_is_ring := fun_mk (st := s_is_ring) l_is_ring c_is_ring k_is_ring
  have F_law := fun_mk (st := s_law) l_law c_law k_law
  have b_darker_ones := F_darker_ones.binds (ps := ["cloth", "names", "wishes"]) fun _ _ _ _ _ _ us hl => match us, hl with | [_, _, _], _ => rfl
  obtain ⟨ds_check_work_1, rv_check_work_1, b_check_work_1⟩ := F_check_work.binds1 (ps := ["work", "book"]) 1 0 (List.cons_ne_nil _ _) rfl fun _ _ _ _ _ _ _ us its hl hl2 => match us, its, hl, hl2 with | [_], [_], _, _ => ⟨_, rfl, rfl⟩
  obtain ⟨z_, zs_, rfl, rz_, rzs_⟩ : ∃ z zs, ds_check_work_1 = z :: zs ∧ RelV .non z ∧ Vals [] zs := by cases rv_check_work_1 with | cons a b => exact ⟨_, _, rfl, a, b⟩
  cases rzs_
  obtain rfl : z_ = .none := rz_
  have b_ring_of := F_ring_of.binds (ps := ["names", "wishes"]) fun _ _ _ _ _ _ us hl => match us, hl with | [_, _], _ => rfl
  have b_draw := F_draw.binds (ps := ["_law_source_here", "_law_many"]) fun _ _ _ _ _ _ us hl => match us, hl with | [_, _], _ => rfl
  have b_word := F_word.binds (ps := ["_law_number"]) fun _ _ _ _ _ _ us hl => match us, hl with | [_], _ => rfl
  have b_name := F_name.binds (ps := ["_law_source_here", "_law_k"]) fun _ _ _ _ _ _ us hl => match us, hl with | [_, _], _ => rfl
  have b_rank_row := F_rank_row.binds (ps := ["work", "wishes"]) fun _ _ _ _ _ _ us hl => match us, hl with | [_, _], _ => rfl
  have b_alone := F_alone.binds (ps := ["_law_e"]) fun _ _ _ _ _ _ us hl => match us, hl with | [_], _ => rfl
  have b_source := F_source.binds (ps := ["_law_script"]) fun _ _ _ _ _ _ us hl => match us, hl with | [_], _ => rfl
  have b_names := F_names.binds (ps := ["_law_source_here", "_law_many"]) fun _ _ _ _ _ _ us hl => match us, hl with | [_, _], _ => rfl
  have b_asked := F_asked.binds (ps := ["_law_work", "_law_wishes"]) fun _ _ _ _ _ _ us hl => match us, hl with | [_, _], _ => rfl
  have b_ranked := F_ranked.binds (ps := ["_law_work", "_law_wishes"]) fun _ _ _ _ _ _ us hl => match us, hl with | [_, _], _ => rfl
  have b_is_ring := F_is_ring.binds (ps := ["_law_ring", "_law_work", "_law_wishes"]) fun _ _ _ _ _ _ us hl => match us, hl with | [_, _, _], _ => rfl
  have DY_Known : PySem.DyeX.DyeTxt l.prog K f_DyeError f_Known f_dyeInit := ⟨⟨_, _, _, _, _, _, _, _, _, _, _, _, _, _, _, lo_Known, re_Known⟩, sa_Known, no_Known, ii_Known, tI_, kk_Known, bE_Known, ty_Known, xi_Known, su_Known, vE_Known, mr_Known, hsup_, ho_, htop_, ⟨_, _, _, _, _, _, _, _, _, _, _, _, _, _, _, _, _, _, _, _, _, _, _, _, _, _, _, _, _, _, _, _, _, _, _, _, _, _, line_, lI_, lD_, rfl, cI_, lC_, vf_, fi_, lc_, cD_⟩⟩
  have DY_Unknown : PySem.DyeX.DyeTxt l.prog K f_DyeError f_Unknown f_dyeInit := ⟨⟨_, _, _, _, _, _, _, _, _, _, _, _, _, _, _, lo_Unknown, re_Unknown⟩, sa_Unknown, no_Unknown, ii_Unknown, tI_, kk_Unknown, bE_Unknown, ty_Unknown, xi_Unknown, su_Unknown, vE_Unknown, mr_Unknown, hsup_, ho_, htop_, ⟨_, _, _, _, _, _, _, _, _, _, _, _, _, _, _, _, _, _, _, _, _, _, _, _, _, _, _, _, _, _, _, _, _, _, _, _, _, _, line_, lI_, lD_, rfl, cI_, lC_, vf_, fi_, lc_, cD_⟩⟩
  have DY_RingOfWishes : PySem.DyeX.DyeTxt l.prog K f_DyeError f_RingOfWishes f_dyeInit := ⟨⟨_, _, _, _, _, _, _, _, _, _, _, _, _, _, _, lo_RingOfWishes, re_RingOfWishes⟩, sa_RingOfWishes, no_RingOfWishes, ii_RingOfWishes, tI_, kk_RingOfWishes, bE_RingOfWishes, ty_RingOfWishes, xi_RingOfWishes, su_RingOfWishes, vE_RingOfWishes, mr_RingOfWishes, hsup_, ho_, htop_, ⟨_, _, _, _, _, _, _, _, _, _, _, _, _, _, _, _, _, _, _, _, _, _, _, _, _, _, _, _, _, _, _, _, _, _, _, _, _, _, line_, lI_, lD_, rfl, cI_, lC_, vf_, fi_, lc_, cD_⟩⟩
  let A0 : Adr := { f_check_work := f_check_work, d_check_work := PySem.W.fnOf "check_work" "check_work" (defArgs s_check_work) (defBody s_check_work) (defScope s_check_work) (.ref dT_check_work) kV_check_work dc_check_work pm_check_work an_check_work cd_check_work ct_check_work, f_darker_ones := f_darker_ones, d_darker_ones := PySem.W.fnOf "darker_ones" "darker_ones" (defArgs s_darker_ones) (defBody s_darker_ones) (defScope s_darker_ones) .none kV_darker_ones dc_darker_ones pm_darker_ones an_darker_ones cd_darker_ones ct_darker_ones, f_ring_of := f_ring_of, d_ring_of := PySem.W.fnOf "ring_of" "ring_of" (defArgs s_ring_of) (defBody s_ring_of) (defScope s_ring_of) .none kV_ring_of dc_ring_of pm_ring_of an_ring_of cd_ring_of ct_ring_of, f_rank_row := f_rank_row, d_rank_row := PySem.W.fnOf "rank_row" "rank_row" (defArgs s_rank_row) (defBody s_rank_row) (defScope s_rank_row) .none kV_rank_row dc_rank_row pm_rank_row an_rank_row cd_rank_row ct_rank_row, f_source := f_source, d_source := PySem.W.fnOf "_law_source" "_law_source" (defArgs s_source) (defBody s_source) (defScope s_source) .none kV_source dc_source pm_source an_source cd_source ct_source, f_draw := f_draw, d_draw := PySem.W.fnOf "_law_draw" "_law_draw" (defArgs s_draw) (defBody s_draw) (defScope s_draw) .none kV_draw dc_draw pm_draw an_draw cd_draw ct_draw, f_word := f_word, d_word := PySem.W.fnOf "_law_word" "_law_word" (defArgs s_word) (defBody s_word) (defScope s_word) .none kV_word dc_word pm_word an_word cd_word ct_word, f_name := f_name, d_name := PySem.W.fnOf "_law_name" "_law_name" (defArgs s_name) (defBody s_name) (defScope s_name) .none kV_name dc_name pm_name an_name cd_name ct_name, f_names := f_names, d_names := PySem.W.fnOf "_law_names" "_law_names" (defArgs s_names) (defBody s_names) (defScope s_names) .none kV_names dc_names pm_names an_names cd_names ct_names, f_ranked := f_ranked, d_ranked := PySem.W.fnOf "_law_ranked" "_law_ranked" (defArgs s_ranked) (defBody s_ranked) (defScope s_ranked) .none kV_ranked dc_ranked pm_ranked an_ranked cd_ranked ct_ranked, f_alone := f_alone, d_alone := PySem.W.fnOf "_law_alone" "_law_alone" (defArgs s_alone) (defBody s_alone) (defScope s_alone) .none kV_alone dc_alone pm_alone an_alone cd_alone ct_alone, f_asked := f_asked, d_asked := PySem.W.fnOf "_law_asked" "_law_asked" (defArgs s_asked) (defBody s_asked) (defScope s_asked) .none kV_asked dc_asked pm_asked an_asked cd_asked ct_asked, f_is_ring := f_is_ring, d_is_ring := PySem.W.fnOf "_law_is_ring" "_law_is_ring" (defArgs s_is_ring) (defBody s_is_ring) (defScope s_is_ring) .none kV_is_ring dc_is_ring pm_is_ring an_is_ring cd_is_ring ct_is_ring, f_law := f_law, d_law := PySem.W.fnOf "law" "law" (defArgs s_law) (defBody s_law) (defScope s_law) .none kV_law dc_law pm_law an_law cd_law ct_law, f_DyeError := f_DyeError, f_BadName := f_BadName, f_BadHold := f_BadHold, f_BadNumber := f_BadNumber, f_BadAmount := f_BadAmount, f_Known := f_Known, f_Unknown := f_Unknown, f_Full := f_Full, f_NotSure := f_NotSure, f_RingOfWishes := f_RingOfWishes, f_BadLine := f_BadLine, f_dyeInit := f_dyeInit }
  have T : Tx l.prog K mg A0 := {
    F_check_work := F_check_work
    F_darker_ones := F_darker_ones
    F_ring_of := F_ring_of
    F_rank_row := F_rank_row
    F_source := F_source
    F_draw := F_draw
    F_word := F_word
    F_name := F_name
    F_names := F_names
    F_ranked := F_ranked
    F_alone := F_alone
    F_asked := F_asked
    F_is_ring := F_is_ring
    F_law := F_law
    n_set := PySem.W.mg_none_of X G n_set
    dye_Known := DY_Known
    g_Known := PySem.W.mg_of X G a_Known
    dye_Unknown := DY_Unknown
    g_Unknown := PySem.W.mg_of X G a_Unknown
    g_darker_ones := PySem.W.mg_of X G a_darker_ones
    k_darker_ones := k_darker_ones
    b_darker_ones := b_darker_ones
    g_check_work := PySem.W.mg_of X G a_check_work
    k_check_work := k_check_work
    b_check_work_1 := b_check_work_1
    n_list := PySem.W.mg_none_of X G n_list
    dye_RingOfWishes := DY_RingOfWishes
    g_RingOfWishes := PySem.W.mg_of X G a_RingOfWishes
    g_ring_of := PySem.W.mg_of X G a_ring_of
    k_ring_of := k_ring_of
    b_ring_of := b_ring_of
    n_int := PySem.W.mg_none_of X G n_int
    n_len := PySem.W.mg_none_of X G n_len
    n_abs := PySem.W.mg_none_of X G n_abs
    n_range := PySem.W.mg_none_of X G n_range
    g_draw := PySem.W.mg_of X G a_draw
    k_draw := k_draw
    b_draw := b_draw
    g_word := PySem.W.mg_of X G a_word
    k_word := k_word
    b_word := b_word
    g_name := PySem.W.mg_of X G a_name
    k_name := k_name
    b_name := b_name
    n_isinstance := PySem.W.mg_none_of X G n_isinstance
    g_BadName := PySem.W.mg_of X G a_BadName
    g_BadHold := PySem.W.mg_of X G a_BadHold
    g_BadNumber := PySem.W.mg_of X G a_BadNumber
    g_BadAmount := PySem.W.mg_of X G a_BadAmount
    g_Full := PySem.W.mg_of X G a_Full
    g_NotSure := PySem.W.mg_of X G a_NotSure
    g_BadLine := PySem.W.mg_of X G a_BadLine
    g_DyeError := PySem.W.mg_of X G a_DyeError
    n_ValueError := PySem.W.mg_none_of X G n_ValueError
    g_rank_row := PySem.W.mg_of X G a_rank_row
    k_rank_row := k_rank_row
    b_rank_row := b_rank_row
    g_alone := PySem.W.mg_of X G a_alone
    k_alone := k_alone
    b_alone := b_alone
    g_source := PySem.W.mg_of X G a_source
    k_source := k_source
    b_source := b_source
    g_names := PySem.W.mg_of X G a_names
    k_names := k_names
    b_names := b_names
    n_max := PySem.W.mg_none_of X G n_max
    n_min := PySem.W.mg_none_of X G n_min
    g_asked := PySem.W.mg_of X G a_asked
    k_asked := k_asked
    b_asked := b_asked
    g_ranked := PySem.W.mg_of X G a_ranked
    k_ranked := k_ranked
    b_ranked := b_ranked
    g_is_ring := PySem.W.mg_of X G a_is_ring
    k_is_ring := k_is_ring
    b_is_ring := b_is_ring
    kit_ll := kit_ty rfl
    x_K := ⟨by rw [i_Known]; rfl, ga_Known, gg_Known, bE_Known, hac_Known, hn_, ht_, hmo_Known, hd_Known, no_Known⟩
    x_R := ⟨by rw [i_RingOfWishes]; rfl, ga_RingOfWishes, gg_RingOfWishes, bE_RingOfWishes, hac_RingOfWishes, hn_, ht_, hmo_RingOfWishes, hd_RingOfWishes, no_RingOfWishes⟩
    em_KK := exm_own2 bE_Known i_Known t_Known s_Known_Known
    em_RK := exm_own2 bE_Known i_Known t_Known s_RingOfWishes_Known
    em_RR := exm_own2 bE_RingOfWishes i_RingOfWishes t_RingOfWishes s_RingOfWishes_RingOfWishes
    ik_Known_BadName := kit_own2 i_BadName t_BadName s_Known_BadName s_Known_Known
    ik_Known_BadHold := kit_own2 i_BadHold t_BadHold s_Known_BadHold s_Known_Known
    ik_Known_BadNumber := kit_own2 i_BadNumber t_BadNumber s_Known_BadNumber s_Known_Known
    ik_Known_BadAmount := kit_own2 i_BadAmount t_BadAmount s_Known_BadAmount s_Known_Known
    ik_Known_Known := kit_own2 i_Known t_Known s_Known_Known s_Known_Known
    ik_Known_Unknown := kit_own2 i_Unknown t_Unknown s_Known_Unknown s_Known_Known
    ik_Known_Full := kit_own2 i_Full t_Full s_Known_Full s_Known_Known
    ik_Known_NotSure := kit_own2 i_NotSure t_NotSure s_Known_NotSure s_Known_Known
    ik_Known_RingOfWishes := kit_own2 i_RingOfWishes t_RingOfWishes s_Known_RingOfWishes s_Known_Known
    ik_Known_BadLine := kit_own2 i_BadLine t_BadLine s_Known_BadLine s_Known_Known
    ik_Known_DyeError := kit_own2 i_DyeError t_DyeError s_Known_DyeError s_Known_Known
    ik_RingOfWishes_BadName := kit_own2 i_BadName t_BadName s_RingOfWishes_BadName s_RingOfWishes_RingOfWishes
    ik_RingOfWishes_BadHold := kit_own2 i_BadHold t_BadHold s_RingOfWishes_BadHold s_RingOfWishes_RingOfWishes
    ik_RingOfWishes_BadNumber := kit_own2 i_BadNumber t_BadNumber s_RingOfWishes_BadNumber s_RingOfWishes_RingOfWishes
    ik_RingOfWishes_BadAmount := kit_own2 i_BadAmount t_BadAmount s_RingOfWishes_BadAmount s_RingOfWishes_RingOfWishes
    ik_RingOfWishes_Known := kit_own2 i_Known t_Known s_RingOfWishes_Known s_RingOfWishes_RingOfWishes
    ik_RingOfWishes_Unknown := kit_own2 i_Unknown t_Unknown s_RingOfWishes_Unknown s_RingOfWishes_RingOfWishes
    ik_RingOfWishes_Full := kit_own2 i_Full t_Full s_RingOfWishes_Full s_RingOfWishes_RingOfWishes
    ik_RingOfWishes_NotSure := kit_own2 i_NotSure t_NotSure s_RingOfWishes_NotSure s_RingOfWishes_RingOfWishes
    ik_RingOfWishes_RingOfWishes := kit_own2 i_RingOfWishes t_RingOfWishes s_RingOfWishes_RingOfWishes s_RingOfWishes_RingOfWishes
    ik_RingOfWishes_BadLine := kit_own2 i_BadLine t_BadLine s_RingOfWishes_BadLine s_RingOfWishes_RingOfWishes
    ik_RingOfWishes_DyeError := kit_own2 i_DyeError t_DyeError s_RingOfWishes_DyeError s_RingOfWishes_RingOfWishes
    ik_Known_VE := kit_ve (by decide) vE_Known
    ik_RingOfWishes_VE := kit_ve (by decide) vE_RingOfWishes }
  exact ⟨PySem.W.fnOf "law" "law" (defArgs s_law) (defBody s_law) (defScope s_law) .none kV_law dc_law pm_law an_law cd_law ct_law, fun s v => .of_eq rfl, fun base _ _ => ok_law T⟩

theorem walk {l : PySem.W.OpenLaw} {q : Program} {loose : List Str} {XP : (Str → Option Value) → Heap → Prop} {YP : World → Heap → Prop} {d : DefRec} {K : Params → PySem.W.Frag} (hn : l.most = some 63) (hdf : d.params.defaults = [])
    (hY : ∀ (w : World) (h : Heap), YP w h → (K w.params).In h)
    (F : ∀ (w : World) (mg : Str → Option Value) (fa : Addr) (h : Heap), (K w.params).In h → h.Ns mainGlobals mg → mg d.name = some (.ref fa) →
      ∃ fd : FuncData, (∀ (s : Shared) (u : Value), BindsTo s fd ⟨[u], []⟩ [("_law_script", u)]) ∧ ∀ base : Heap, (K w.params).In base → base.Ns mainGlobals mg → FnOk l.prog w (K w.params) mg base CX0 5 fa fd ["_law_script"] (lift3B (S_law (K w.params)))) :
    PySem.W.WalkO q loose XP YP l.row.toRowW d [] (fun f vs => PySem.call f vs) :=
  L2.walk_of (n := 63) (k := 5) (x := "_law_script") (CX := fun _ => CX0) (sp := fun w => lift3B (S_law (K w.params))) hn (by decide) hdf ⟨rfl, by decide, by decide⟩ hY F
    (fun w H a ns hl _ hS => ⟨[.ref a], H, fun _ => none, fun d _ => d = .bl true, fun _ _ _ => False, ⟨_, _, rfl, rfl, rfl⟩, ⟨Ex.refl _, fun a o h => (by cases h)⟩, fun F' M' d v H' _ _ r e => (by subst e; exact r), fun _ _ _ _ _ _ _ _ _ _ _ h => h.elim, a, ns, rfl, hS, hl, rfl, fun _ => rfl⟩) fun _ _ _ _ _ z => z
end
end LW
set_option Elab.async false
set_option linter.all false
open PySem PySem.W PyProof.Rows
set_option maxRecDepth 100000 in
set_option maxHeartbeats 0 in
theorem PySem.Challenge.cw_tiredpots_k36_rank_row_holds : PySem.Challenge.rw_tiredpots_k36_rank_row.Holds := by
  w_on; o_law; k_head; (case hw => w_witness2)
  k_fill
  refine LW.walk (l := PySem.Challenge.rw_tiredpots_k36_rank_row) rfl rfl (fun w h Y => PySem.W.kIn_of Y) ?F
  case F =>
    intro w mg fa h KX G hmg
    refine' LW.all_mk KX G hmg ?a_check_work ?l_check_work ?lT_check_work ?c_check_work ?k_check_work ?a_darker_ones ?l_darker_ones ?c_darker_ones ?k_darker_ones ?a_ring_of ?l_ring_of ?c_ring_of ?k_ring_of ?a_rank_row ?l_rank_row ?c_rank_row ?k_rank_row ?a_source ?l_source ?c_source ?k_source ?a_draw ?l_draw ?c_draw ?k_draw ?a_word ?l_word ?c_word ?k_word ?a_name ?l_name ?c_name ?k_name ?a_names ?l_names ?c_names ?k_names ?a_ranked ?l_ranked ?c_ranked ?k_ranked ?a_alone ?l_alone ?c_alone ?k_alone ?a_asked ?l_asked ?c_asked ?k_asked ?a_is_ring ?l_is_ring ?c_is_ring ?k_is_ring ?a_law ?l_law ?c_law ?k_law ?a_DyeError ?a_BadName ?a_BadHold ?a_BadNumber ?a_BadAmount ?a_Known ?a_Unknown ?a_Full ?a_NotSure ?a_RingOfWishes ?a_BadLine ?n_set ?n_list ?n_int ?n_len ?n_abs ?n_range ?n_isinstance ?n_ValueError ?n_max ?n_min ?i_DyeError ?t_DyeError ?i_BadName ?t_BadName ?i_BadHold ?t_BadHold ?i_BadNumber ?t_BadNumber ?i_BadAmount ?t_BadAmount ?i_Known ?t_Known ?i_Unknown ?t_Unknown ?i_Full ?t_Full ?i_NotSure ?t_NotSure ?i_RingOfWishes ?t_RingOfWishes ?i_BadLine ?t_BadLine ?hn_ ?ht_ ?s_Known_DyeError ?s_Known_BadName ?s_Known_BadHold ?s_Known_BadNumber ?s_Known_BadAmount ?s_Known_Known ?s_Known_Unknown ?s_Known_Full ?s_Known_NotSure ?s_Known_RingOfWishes ?s_Known_BadLine ?ga_Known ?gg_Known ?hac_Known ?hmo_Known ?hd_Known ?s_RingOfWishes_DyeError ?s_RingOfWishes_BadName ?s_RingOfWishes_BadHold ?s_RingOfWishes_BadNumber ?s_RingOfWishes_BadAmount ?s_RingOfWishes_Known ?s_RingOfWishes_Unknown ?s_RingOfWishes_Full ?s_RingOfWishes_NotSure ?s_RingOfWishes_RingOfWishes ?s_RingOfWishes_BadLine ?ga_RingOfWishes ?gg_RingOfWishes ?hac_RingOfWishes ?hmo_RingOfWishes ?hd_RingOfWishes ?bE_DyeError ?ho_ ?hsup_ ?htop_ ?lo_Known ?re_Known ?sa_Known ?no_Known ?ii_Known ?kk_Known ?bE_Known ?ty_Known ?xi_Known ?su_Known ?vE_Known ?mr_Known ?lo_Unknown ?re_Unknown ?sa_Unknown ?no_Unknown ?ii_Unknown ?kk_Unknown ?bE_Unknown ?ty_Unknown ?xi_Unknown ?su_Unknown ?vE_Unknown ?mr_Unknown ?lo_RingOfWishes ?re_RingOfWishes ?sa_RingOfWishes ?no_RingOfWishes ?ii_RingOfWishes ?kk_RingOfWishes ?bE_RingOfWishes ?ty_RingOfWishes ?xi_RingOfWishes ?su_RingOfWishes ?vE_RingOfWishes ?mr_RingOfWishes ?tI_ ?lI_ ?line_ ?lD_ ?cI_ ?lC_ ?vf_ ?fi_ ?lc_ ?cD_
    (case a_check_work => k_is)
    (case l_check_work => k_is)
    (case lT_check_work => k_is)
    (case c_check_work => k_is)
    (case k_check_work => k_is)
    (case a_darker_ones => k_is)
    (case l_darker_ones => k_is)
    (case c_darker_ones => k_is)
    (case k_darker_ones => k_is)
    (case a_ring_of => k_is)
    (case l_ring_of => k_is)
    (case c_ring_of => k_is)
    (case k_ring_of => k_is)
    (case a_rank_row => k_is)
    (case l_rank_row => k_is)
    (case c_rank_row => k_is)
    (case k_rank_row => k_is)
    (case a_source => k_is)
    (case l_source => k_is)
    (case c_source => k_is)
    (case k_source => k_is)
    (case a_draw => k_is)
    (case l_draw => k_is)
    (case c_draw => k_is)
    (case k_draw => k_is)
    (case a_word => k_is)
    (case l_word => k_is)
    (case c_word => k_is)
    (case k_word => k_is)
    (case a_name => k_is)
    (case l_name => k_is)
    (case c_name => k_is)
    (case k_name => k_is)
    (case a_names => k_is)
    (case l_names => k_is)
    (case c_names => k_is)
    (case k_names => k_is)
    (case a_ranked => k_is)
    (case l_ranked => k_is)
    (case c_ranked => k_is)
    (case k_ranked => k_is)
    (case a_alone => k_is)
    (case l_alone => k_is)
    (case c_alone => k_is)
    (case k_alone => k_is)
    (case a_asked => k_is)
    (case l_asked => k_is)
    (case c_asked => k_is)
    (case k_asked => k_is)
    (case a_is_ring => k_is)
    (case l_is_ring => k_is)
    (case c_is_ring => k_is)
    (case k_is_ring => k_is)
    (case a_law => k_is)
    (case l_law => k_is)
    (case c_law => k_is)
    (case k_law => k_is)
    (case a_DyeError => k_is)
    (case a_BadName => k_is)
    (case a_BadHold => k_is)
    (case a_BadNumber => k_is)
    (case a_BadAmount => k_is)
    (case a_Known => k_is)
    (case a_Unknown => k_is)
    (case a_Full => k_is)
    (case a_NotSure => k_is)
    (case a_RingOfWishes => k_is)
    (case a_BadLine => k_is)
    (case n_set => k_is)
    (case n_list => k_is)
    (case n_int => k_is)
    (case n_len => k_is)
    (case n_abs => k_is)
    (case n_range => k_is)
    (case n_isinstance => k_is)
    (case n_ValueError => k_is)
    (case n_max => k_is)
    (case n_min => k_is)
    (case i_DyeError => k_is)
    (case t_DyeError => k_is)
    (case i_BadName => k_is)
    (case t_BadName => k_is)
    (case i_BadHold => k_is)
    (case t_BadHold => k_is)
    (case i_BadNumber => k_is)
    (case t_BadNumber => k_is)
    (case i_BadAmount => k_is)
    (case t_BadAmount => k_is)
    (case i_Known => k_is)
    (case t_Known => k_is)
    (case i_Unknown => k_is)
    (case t_Unknown => k_is)
    (case i_Full => k_is)
    (case t_Full => k_is)
    (case i_NotSure => k_is)
    (case t_NotSure => k_is)
    (case i_RingOfWishes => k_is)
    (case t_RingOfWishes => k_is)
    (case i_BadLine => k_is)
    (case t_BadLine => k_is)
    (case hn_ => k_is)
    (case ht_ => k_is)
    (case s_Known_DyeError => k_is)
    (case s_Known_BadName => k_is)
    (case s_Known_BadHold => k_is)
    (case s_Known_BadNumber => k_is)
    (case s_Known_BadAmount => k_is)
    (case s_Known_Known => k_is)
    (case s_Known_Unknown => k_is)
    (case s_Known_Full => k_is)
    (case s_Known_NotSure => k_is)
    (case s_Known_RingOfWishes => k_is)
    (case s_Known_BadLine => k_is)
    (case ga_Known => k_is)
    (case gg_Known => k_is)
    (case hac_Known => k_is)
    (case hmo_Known => k_is)
    (case hd_Known => k_is)
    (case s_RingOfWishes_DyeError => k_is)
    (case s_RingOfWishes_BadName => k_is)
    (case s_RingOfWishes_BadHold => k_is)
    (case s_RingOfWishes_BadNumber => k_is)
    (case s_RingOfWishes_BadAmount => k_is)
    (case s_RingOfWishes_Known => k_is)
    (case s_RingOfWishes_Unknown => k_is)
    (case s_RingOfWishes_Full => k_is)
    (case s_RingOfWishes_NotSure => k_is)
    (case s_RingOfWishes_RingOfWishes => k_is)
    (case s_RingOfWishes_BadLine => k_is)
    (case ga_RingOfWishes => k_is)
    (case gg_RingOfWishes => k_is)
    (case hac_RingOfWishes => k_is)
    (case hmo_RingOfWishes => k_is)
    (case hd_RingOfWishes => k_is)
    (case bE_DyeError => k_is)
    (case ho_ => k_is)
    (case hsup_ => k_is)
    (case htop_ => rfl)
    (case lo_Known => k_is)
    (case re_Known => exact (by decide +kernel))
    (case sa_Known => k_is)
    (case no_Known => k_is)
    (case ii_Known => k_is)
    (case kk_Known => k_is)
    (case bE_Known => k_is)
    (case ty_Known => k_is)
    (case xi_Known => kx_is)
    (case su_Known => ks_is)
    (case vE_Known => k_is)
    (case mr_Known => k_is)
    (case lo_Unknown => k_is)
    (case re_Unknown => exact (by decide +kernel))
    (case sa_Unknown => k_is)
    (case no_Unknown => k_is)
    (case ii_Unknown => k_is)
    (case kk_Unknown => k_is)
    (case bE_Unknown => k_is)
    (case ty_Unknown => k_is)
    (case xi_Unknown => kx_is)
    (case su_Unknown => ks_is)
    (case vE_Unknown => k_is)
    (case mr_Unknown => k_is)
    (case lo_RingOfWishes => k_is)
    (case re_RingOfWishes => exact (by decide +kernel))
    (case sa_RingOfWishes => k_is)
    (case no_RingOfWishes => k_is)
    (case ii_RingOfWishes => k_is)
    (case kk_RingOfWishes => k_is)
    (case bE_RingOfWishes => k_is)
    (case ty_RingOfWishes => k_is)
    (case xi_RingOfWishes => kx_is)
    (case su_RingOfWishes => ks_is)
    (case vE_RingOfWishes => k_is)
    (case mr_RingOfWishes => k_is)
    (case tI_ => k_is)
    (case lI_ => k_is)
    (case line_ => rfl)
    (case lD_ => k_is)
    (case cI_ => k_is)
    (case lC_ => k_is)
    (case vf_ => rfl)
    (case fi_ => exact (by decide +kernel))
    (case lc_ => k_is)
    (case cD_ => k_is)
